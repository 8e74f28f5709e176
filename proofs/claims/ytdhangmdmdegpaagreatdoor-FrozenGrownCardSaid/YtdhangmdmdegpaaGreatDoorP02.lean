/- A part of the proofs. -/
import Derived.Deep.DeepAppendWide
import Derived.Great.BuildSlice
import Derived.Laws.Cover4
import Derived.Laws.IdiomStrings
import Derived.Laws.MakeOwn
import Derived.Lib.Strings
import Derived.MapKept
import Derived.WideKeyArr
import Derived.Test.YtdhangmdmdegpaaGreatDoorP01
set_option linter.all false
set_option maxRecDepth 60000
set_option maxHeartbeats 2000000
namespace Go.Abs
variable{t T ty:TypeId}{ν:Ξ}{k n tot l:Nat}{r:Result Next}{P:Program}(f:Nat->Χ){lo:Option Operand}{f':Nat->Χ}{news:η}{ti:TypeInfo}{q:Operand}{a:Option Addr}{c:Κ}{xv z:Value}{fr:Nat×Nat}
section
variable [cO]
section
variable {x:X}
def qZ {e:D}{o b at0:Nat}{ag:Bool}{c:Nat->Value}(hk:e.cells.length=k)(hle:o+n<=k)(hc:∀j,j<k->x.w.cell? ⟨b,at0+j,none⟩=some (c j)/\(c j).oneCell'=true/\RD ν x (c j) (e.cells.getD j .any))(hn:n=P.cellsOf ty)(hn0:P.cellsOf ty≠0)(hu:(P.underlying ty).isNone=false)(hag:ag=b9 P ty)(h1:ag=false->n=1):
  ∃v,(loadVar ty ⟨b,at0+o,none⟩).run P x.w=.ok v x.w/\RD ν x v (lC e k n o ag):=by
 have hcut:∃v,(loadVar ty ⟨b,at0+o,none⟩).run P x.w=.ok v x.w/\RD ν x v (cut e.cells o n ag)/\(ag=true->v=.agg ((List.range n).map λj=>c (o+j)).toArray)/\(ag=false->v=c o):=by
  cases hb:ag
  .have hn1:=h1 hb;refine⟨c o, ?_,by simp only[cut,cond_false];exact(hc o ae).2.2,aJ,λ_=>rfl⟩;rw[hb]at hag;unfold loadVar;rw[Sem.run_bind,wK hu,<-hag];simp[Result.andThen,(hc o ae).1]
  .rw[hb]at hag;refine⟨.agg ((List.range n).map λj=>c (o+j)).toArray, ?_, ?_,λ_=>rfl,aJ⟩
   .unfold loadVar;rw[Sem.run_bind,wK hu,<-hag];have:=run_loadCells (P:=P) x.w ⟨b,at0+o,none⟩ n (λj=>c (o+j)) (λj hj=>by rw[Addr.Bq,Nat.add_assoc];exact(hc (o+j) ae).1);simp[Result.andThen,dL hn0,<-hn,this]
   .simp only[cut,cond_true];refine .agg _ _ fM (λi hi=>?_) (λi hi=>?_)
    .simp at hi;have:=(hc (o+i) ae).2.1;simpa[Array.getD,show i<n by omega]using this
    .simp at hi;rw[ez _ _ _ _ _ ae];have:=(hc (o+i) ae).2.2;simpa[Array.getD,show i<n by omega]using this
 obtain⟨v,r1,r2,r3,r4⟩:=hcut;refine⟨v,r1, ?_⟩;unfold lC;cases hb:(n==k)&&(e.isAgg==ag)
 .simpa using r2
 .simp only[aD,beq_iff_eq]at hb;obtain⟨hnk,hea⟩:=hb;simp only[cond_true];have ho:o=0:=ae;subst ho;cases hb:ag
  .rw[hb]at hea;have hv:=r4 hb;have hn1:=h1 hb;have hcell:=(hc 0 ae).2.2;rw[hv];cases e<;>simp only[D.cells,D.isAgg,cj,bJ]at hk hea hcell<;>first|omega|exact absurd hea aX|exact hcell
  .rw[hb]at hea;cases e<;>simp only[D.isAgg,iL]at hea;rename_i ds;rw[r3 hb];simp only[D.cells]at hk hc;refine .agg _ _ fM (λi hi=>?_) (λi hi=>?_)
   .have:=(hc i ae).2.1;simpa[Array.getD,show i<n by omega]using this
   .have:=(hc i ae).2.2;simpa[Array.getD,show i<n by omega]using this
end
section
variable {x:X}{f:Nat->Χ}{C:CC}{defs:Ζ}{J:Src->a7}{ev:Operand->Value}{Y:Ctx}{m:Γ}{L:Nat}
def Hu {z:Θ}(h:tu C.P t=some (.agg z)):∃i cs,C.P.info? t=some i/\i.zero=some (.agg cs)/\RD C.ν x (.agg cs) (.agg z):=by
 unfold tu at h;cases hi:C.P.info? t with
 |none=>simp[hi]at h
 |some i=>
  cases hz:i.zero with
  |none=>simp[hi,hz]at h
  |some v=>
   simp only[hi,hz,Option.bind_some]at h;have hr:RD C.ν x v (.agg z):=nF v _ h;cases v with
   |agg cs=>exact⟨i,cs,rfl,hz,hr⟩
   |_=>cases hr
theorem qF {z:D}(h:tu C.P t=some z):∃i v,C.P.info? t=some i/\i.zero=some v/\RD C.ν x v z:=by
 unfold tu at h;cases hi:C.P.info? t with
 |none=>simp[hi]at h
 |some i=>
  cases hz:i.zero with
  |none=>simp[hi,hz]at h
  |some v=>
   grind [nF]
def Bh {P:Program}(w:World):∀(fs:List Field),(∀f∈fs,(P.info? f.type).isSome=true)->
  (fs.mapM (λf=>(do pure (f.offset,<-sizeOf f.type):Sem (Nat×Nat)))).run P w=.ok (fs.map λf=>(f.offset,P.cellsOf f.type)) w
 |[],_=>aJ
 |f::r,h=>by
  have hf:=h f aJ;cases hi:P.info? f.type with
  |none=>simp[hi]at hf
  |some i=>
   have hr:=Bh w r (λg hg=>h g (by simp[hg]));simp only[List.mapM_cons,Sem.run_bind,run_sizeOf w hi,Result.andThen_ok,Sem.run_pure,hr];simp
def Pd {op:BinOp}{d e:D}(h:Br op d e):(∃k a k' b,d=.int k a/\e=.int k' b)\/(∃a b,d=.str a/\e=.str b):=by
 cases d<;>cases e<;>first|exact .inl ⟨_,_,_,_,rfl,rfl⟩|exact .inr ⟨_,_,rfl,rfl⟩|(simp only[Br]at h)
def sB {op:BinOp}{u:TypeId}{p:Operand}{o:Oper}{v:Value}{w:World}(ho:o.op=.binOp op t p q u)(hg:(eqGuard op t p q (ev p) (ev q)).run P w=.ok () w)(hr:(binOp op t (ev p) (ev q)).run P w=.ok v w):(execOp ev o).run P w=.ok (.value v) w:=by
 simp[execOp,ho,hg,hr]
def HJ (op:BinOp)(hop:op=.eql\/op=.neq)(t:TypeId)(xs ys:Κ)(b:Bool)(w:World)(P:Program)(h:(Op.equalIn 10000 t (.agg xs) (.agg ys)).run P w=.ok b w):
  (binOp op t (.agg xs) (.agg ys)).run P w=.ok (.bool (if op=.neq then !b else b)) w:=by
 rcases hop with rfl|rfl
 .rw[run_eql_struct,h];rfl
 .rw[run_neq_struct,h];rfl
theorem aml {len cap:Nat}{es:Θ}{h:Nat}(hv:RD C.ν x (.slice a len cap) (.sl k es))(h1:l<=h)(h2:h<=es.length):
  RD C.ν x (.slice (if cap=l then a else a.map (·.add (l*k))) (h-l) (cap-l)) (.sl k ((es.take h).drop l)):=by
 cases hv with
 |sl _ b off _ _ _ _ c hlen ha hcap hm hk hn hc hone hh=>
  have hl':((es.take h).drop l).length=h-l:=fM;have hg:∀i,i<h-l->((es.take h).drop l).getD i .any=es.getD (l+i) .any:=by
   intro i hi;simp[List.getD,List.getElem?_drop,List.getElem?_take,show l+i<h by omega]
  refine .sl _ b (off+l*k) (h-l) (cap-l) k _ (λi j=>c (l+i) j) hl'.symm ?_ ae ae (λi hi=>?_) (λi hi=>?_) (λi j hi hj=>?_) (λi j hi hj=>hone _ _ ae hj) (λi j hi hj=>?_)
  .grind [Addr.Bq]
  .rw[hg i hi];exact hk _ ae
  .rw[hg i hi];exact hn _ ae
  .have:=hc (l+i) j ae hj;rw[<-this];congr 2;rw[Nat.add_mul];omega
  .rw[hg i hi];exact hh _ _ ae hj
def amj {len cap:Nat}{es:Θ}{h m:Nat}(hv:RD C.ν x (.slice a len cap) (.sl k es))(h1:h<=m)(h2:m<=es.length):
  RD C.ν x (.slice (if m=0 then a else a.map (·.add (0*k))) h m) (.sl k (es.take h)):=by
 cases hv with
 |sl _ b off _ _ _ _ c hlen ha hcap hm hk hn hc hone hh=>
  have hl':(es.take h).length=h:=fM;have hg:∀i,i<h->(es.take h).getD i .any=es.getD i .any:=by
   intro i hi;simp[List.getD,List.getElem?_take,hi]
  refine .sl _ b off h m k _ (λi j=>c i j) hl'.symm ?_ h1 ae (λi hi=>?_) (λi hi=>?_) (λi j hi hj=>hc i j ae hj) (λi j hi hj=>hone _ _ ae hj) (λi j hi hj=>?_)
  .by_cases he:h=0
   .left;exact lZ ae
   .right;rw[ah ae];rcases ha with rfl|⟨rfl,hI⟩
    .simp at h2;omega
    .exact⟨by simp[Addr.add],hI⟩
  .rw[hg i hi];exact hk _ ae
  .rw[hg i hi];exact hn _ ae
  .rw[hg i hi];exact hh _ _ ae hj
def afa {v:Value}{L' i:Nat}(hv:RD C.ν x v (.own L' k i n)):
  ∃a cap,v=.slice a n cap/\n<=cap/\∀h m,h<=m->m<=n->RD C.ν x (.slice (if m=0 then a else a.map (·.add (0*k))) h m) (.own L' k i h):=by
 cases hv with
 |own _ _ _ _ b base tot cap a hβ ha hcap hm ht=>
  refine⟨some a,cap,rfl,hcap,λh m h1 h2=>?_⟩;have e:(if m=0 then some a else(some a).map (·.add (0*k)))=some a:=by simp[Addr.add]
  rw[e];exact .own L' k i h b base tot m a hβ (λhp=>ha ae) h1 ae ae
 |own0 _ _ _ a=>
  refine⟨a,0,rfl,aR _,λh m h1 h2=>?_⟩;obtain rfl:m=0:=ae;obtain rfl:h=0:=ae;exact .own0 _ _ _ _
def vZ {vh vm:Value}{kh km:IntKind}{h m:Int}{len cap:Nat}(e1:vh=.int kh h)(e2:vm=.int km m)(h0:0<=h)(h1:h<=m)(h2:m<=cap):
  (Instr.sliceBounds true len cap none (some vh) (some vm)).run C.P x.w=.ok (0,h.toNat,m.toNat) x.w:=by
 subst e1;subst e2;simp[Instr.sliceBounds,run_sliceBound x.w km m cap .slice3Acap ae h2,run_sliceBound x.w kh h m.toNat .slice3B h0 ae]
theorem afb {v:Value}{L' i:Nat}(hv:RD C.ν x v (.own L' k i n)):
  ∃a cap,v=.slice a n cap/\n<=cap/\∀l h,l<=h->h<=n->RD C.ν x (.slice (if cap=l then a else a.map (·.add (l*k))) (h-l) (cap-l)) (.own L' k (i+l) (h-l)):=by
 cases hv with
 |own _ _ _ _ b base tot cap a hβ ha hcap hm ht=>
  refine⟨some a,cap,rfl,hcap,λl h h1 h2=>?_⟩;have e:(if cap=l then some a else(some a).map (·.add (l*k)))=some (if cap=l then a else a.add (l*k)):=by split<;>rfl
  rw[e];refine .own L' k (i+l) (h-l) b base tot (cap-l) _ hβ (λhp=>?_) ae ae ae
  grind [Addr.Bq]
 |own0 _ _ _ a=>
  refine⟨a,0,rfl,aR _,λl h h1 h2=>?_⟩;obtain rfl:h=0:=ae;obtain rfl:l=0:=ae;exact .own0 _ _ _ _
def FY (s:Ω)(l h:Nat):(⟨⟨s⟩⟩:ByteArray).extract l h=⟨⟨(s.take h).drop l⟩⟩:=by
 rw[Lib.extract_eq,List.drop_take]
def DP (h:C.opt defs lo=some none):lo=none:=by
 cases lo with
 |none=>rfl
 |some o=>simp[CC.opt]at h
def DQ {s:Src}(h:C.opt defs lo=some (some s)):∃o,lo=some o/\C.src defs o=some s:=by
 cases lo with
 |none=>simp[CC.opt]at h
 |some o=>simp only[CC.opt,df,aG]at h;obtain⟨a,h1,rfl⟩:=h;exact⟨o,rfl,h1⟩
def qQ {os':Lai}(hρ:vS C defs J ev x os'){hi:Option Operand}(hml:∀o,lo=some o->o∈os')(hmh:∀o,hi=some o->o∈os'){l h:Lal}(hl:C.opt defs lo=some l)(hh:C.opt defs hi=some h)(k1:M4 J l)(k2:M4 J h)(Gu:Bool)(len cap:Nat)(hcap:Gu=false->len=cap)(hle:len<=cap)(b2:nE (dO J h) len)(b1:nE (dO J l) (er (dO J h) len)):
  (Instr.sliceBounds Gu len cap (lo.map ev) (hi.map ev) none).run C.P x.w=.ok (er (dO J l) 0,er (dO J h) len,cap) x.w/\er (dO J l) 0<=er (dO J h) len/\er (dO J h) len<=len:=by
 have hh':∃code,(match hi.map ev with|some v=>Instr.sliceBound v cap code|none=>pure len:Sem Nat).run C.P x.w=.ok (er (dO J h) len) x.w/\er (dO J h) len<=len/\code=(if Gu then BoundsCode.sliceAcap else .sliceAlen):=by
  cases h with
  |none=>
   obtain rfl:=DP hh;exact⟨_,by simp[dO,er],by simp[dO,er],rfl⟩
  |some s=>
   obtain⟨o,rfl,h1⟩:=DQ hh;have hv:=hρ o (hmh o rfl) s  h1 k2;simp only[dO]at b2;cases hd:(J s).d<;>simp only[hd,nE]at b2;rename_i kk n;rw[hd]at hv;refine⟨_, ?_, ?_,rfl⟩
   .simp only[Option.map_some,dO,er,hd];rw[hv.dz,run_sliceBound x.w kk n cap _ b2.1 ae]
   .simp only[dO,er,hd];omega
 obtain⟨code,g1,g2,rfl⟩:=hh';generalize er (dO J h) len=B at*
 have hl':(match lo.map ev with|some v=>Instr.sliceBound v B .sliceB|none=>pure 0:Sem Nat).run C.P x.w=.ok (er (dO J l) 0) x.w/\er (dO J l) 0<=B:=by
  cases l with
  |none=>
   obtain rfl:=DP hl;exact⟨by simp[dO,er],by simp[dO,er]⟩
  |some s=>
   obtain⟨o,rfl,h1⟩:=DQ hl;have hv:=hρ o (hml o rfl) s  h1 k1;simp only[dO]at b1;cases hd:(J s).d<;>simp only[hd,nE]at b1;rename_i kk n;rw[hd]at hv;refine⟨?_, ?_⟩
   .simp only[Option.map_some,dO,er,hd];rw[hv.dz,run_sliceBound x.w kk n _ _ b1.1 b1.2]
   .simp only[dO,er,hd];omega
 obtain⟨f1,f2⟩:=hl';refine⟨?_,f2,g2⟩;cases lo with
 |none=>
  simp only[Option.map_none,Sem.run_pure,Result.ok.injEq,dP]at f1;cases hi with
  |none=>
   simp only[Option.map_none,Sem.run_pure,Result.ok.injEq,dP]at g1;rw[<-f1,<-g1];simp[Instr.sliceBounds]
  |some v=>
   simp only[Option.map_some]at g1;rw[<-f1];simp[Instr.sliceBounds,g1]
 |some u=>
  have f1':(Instr.sliceBound (ev u) B .sliceB).run C.P x.w=.ok (er (dO J l) 0) x.w:=f1;clear f1;generalize er (dO J l) 0=A at*
  cases hi with
  |none=>
   simp only[Option.map_none,Sem.run_pure,Result.ok.injEq,dP]at g1;subst g1;simp only[Instr.sliceBounds,Option.map_some,Option.map_none,Sem.run_bind,Sem.run_pure,Result.andThen_ok,Option.isSome_none,iL,ba,f1']
  |some v=>
   have g1':(Instr.sliceBound (ev v) cap (if Gu then BoundsCode.sliceAcap else .sliceAlen)).run C.P x.w=.ok B x.w:=g1;simp only[Instr.sliceBounds,Option.map_some,Option.map_none,Sem.run_bind,Sem.run_pure,Result.andThen_ok,Option.isSome_none,iL,ba,g1',f1']
theorem Ia {ks:Lah}{d:Nat}(ha:b9 P t=false)(h1:∀k,P.underlying t=some (.int k)->False)(h2:P.underlying t=some .string->False)(h:ib P (d+1) t=some ks):P.underlying t=some .bool:=by
 grind [b9,ib]
def BB {d:Nat}(h:P.underlying t=some .bool):ib P (d+1) t=some [.b]:=by
 unfold ib;simp[h]
def O1 (ν:Ξ)(x:X)(d:D)(r:Result Next):=∃v,(r=.ok (.value v) x.w\/r=.ok .skip x.w/\v=undef)/\RD ν x v d
def gT {d:D}{v:Value}(hr:r=.ok (.value v) x.w)(hd:RD ν x v d):O1 ν x d r:=⟨v,.inl hr,hd⟩
def O1.did {d:D}(h:O1 ν x d r)(hs:fO ν x f):BY ν x f L d r:=by
 obtain⟨v,h1,h2⟩:=h;exact⟨v,x,h1,.refl x,h2,hs,λ_ _=>rfl⟩
def ZO {o:Oper}{i:aA}(hgz:∀g,C.bS.contains (500000000+g)=true/\g<400000000->cO.gz g)(hcst:∀d,J (.c d)=⟨true,d⟩)(hsm:∀fid n,dV C.ν fid=some n->n<1000000)(hc:C.op defs o=some i)(hp:i.pure=true)(hρ:vS C defs J ev x o.op.operands.toList)(hob:i.eO Y J m)(hs:fO C.ν x f)(hgl:∀g,ev (.global g)=.pointer (some ⟨g,0,none⟩)):
  O1 C.ν x (i.val Y J m L) ((execOp ev o).run C.P x.w):=by
 cases ho:o.op with
 |move p=>
  simp only[CC.op,ho,df]at hc;obtain⟨s,h1,rfl⟩:=hc;exact gT (by simp[execOp,ho]) (hρ p dE s h1 hob)
 |assign p=>
  simp only[CC.op,ho,df]at hc;obtain⟨s,h1,rfl⟩:=hc;exact gT (by simp[execOp,ho]) (hρ p dE s h1 hob)
 |pick c a b=>
  simp only[CC.op,ho]at hc;split at hc
  .rename_i c' a' b' h1 h2 h3;simp only[aG]at hc;subst hc;obtain⟨k1,k2⟩:=hob;have hcv:=hρ c dE c' h1 k1;cases hd:(J c').d<;>simp only[hd]at k2;rename_i t;rw[hd]at hcv;simp only[aA.val,hd];refine gT ?_ (RD.pick (λht=>hρ a dE a' h2 (k2.1 ht)) (λht=>hρ b dE b' h3 (k2.2 ht)));simp[execOp,ho,hcv.jV,asBool]
  .cases hc
 |build t ps=>
  simp only[CC.op,ho]at hc;split at hc
  .rename_i z fs hz hu;split at hc;rotate_left
   .cases hc
   rename_i hplaces;simp only[df]at hc;obtain⟨ss,h1,rfl⟩:=hc;obtain⟨ti,cs,hi,hzv,hr⟩:=Hu (x:=x) hz;have hsz:cs.size=z.length:=by cases hr with|agg _ _ hl _ _=>exact hl
   obtain⟨cs',g1,g2⟩:=sS hρ _ z.length ps.toList ss (λp hp=>Li) h1 hob cs z hsz hr;refine gT ?_ g2;have hpl:=Bh (P:=C.P) x.w fs.toList (λf hf=>(List.all_eq_true.1 hplaces) f hf);have hpl':(fs.mapM (λf:Field=>(do pure (f.offset,<-sizeOf f.type):Sem (Nat×Nat)))).run C.P x.w=.ok (fs.map λf:Field=>(f.offset,C.P.cellsOf f.type)) x.w:=by
    rw[Array.mapM_eq_mapM_toList,Sem.run_map,hpl];simp[Result.andThen,List.map_toArray];apply Array.ext';simp
   have hg:Instr.fill (λi:Nat=>(fs.map λf:Field=>(f.offset,C.P.cellsOf f.type))[i]?) cs (ps.map fun(i,o)=>(i,ev o)).toList=some cs':=by
    have e:(λi:Nat=>(fs.map λf:Field=>(f.offset,C.P.cellsOf f.type))[i]?)=(λi=>(fs[i]?).map λf:Field=>(f.offset,C.P.cellsOf f.type)):=by
     funext q;simp
    rw[e,Array.toList_map];exact g1
   simp only[execOp,ho,Instr.build,Sem.run_bind,zeroValue,run_typeInfo x.w hi,Result.andThen_ok,hzv,Sem.run_pure,run_underlying hu,hpl',Value.cells,hg]
  .rename_i z n e hz hu;split at hc
   .cases hc
   rename_i hce;simp only[df]at hc;obtain⟨ss,h1,rfl⟩:=hc;obtain⟨ti,cs,hi,hzv,hr⟩:=Hu (x:=x) hz;have hsz:cs.size=z.length:=by cases hr with|agg _ _ hl _ _=>exact hl
   obtain⟨cs',g1,g2⟩:=sS hρ _ z.length ps.toList ss (λp hp=>Li) h1 hob cs z hsz hr;refine gT ?_ g2;have hg:Instr.fill (λi=>some (i*C.P.cellsOf e,C.P.cellsOf e)) cs (ps.map fun(i,o)=>(i,ev o)).toList=some cs':=by
    rw[Array.toList_map];exact g1
   simp only[execOp,ho,Instr.build,Sem.run_bind,zeroValue,run_typeInfo x.w hi,Result.andThen_ok,hzv,Sem.run_pure,run_underlying hu,dL hce,Value.cells,hg]
  .cases hc
 |nilCheck p=>
  simp only[CC.op,ho,df]at hc;obtain⟨s,h1,rfl⟩:=hc;obtain⟨k1,k2⟩:=hob;have hv:=hρ p dE s h1 k1;refine gT ?_ hv;cases hd:(J s).d<;>simp only[hd]at k2<;>rw[hd]at hv<;>generalize he:ev p=vp at hv<;>cases hv<;>simp[execOp,ho,he]
 |binOp op t p q u=>
  simp only[CC.op,ho]at hc;split at hc
  .rename_i a b h1 h2;have hbin:∀(i':aA),i'=.bin op a b->i'.eO Y J m->O1 C.ν x (i'.val Y J m L) ((execOp ev o).run C.P x.w):=by
    rintro _ rfl ⟨k1,k2,k3⟩;have hv:=hρ p dE a h1 k1;have hw:=hρ q dE b h2 k2;rcases Pd k3 with⟨kk,n,kk',n',e1,e2⟩|⟨s,s',e1,e2⟩
    .rw[e1]at hv k3;rw[e2]at hw k3;obtain⟨v,r1,r2⟩:=Od (ν:=C.ν) (x:=x) (P:=C.P) (t:=t) x.w k3;refine gT (sB ho (pn _ _ _ _ (by rw[hv.dz];exact⟨aJ,aJ⟩) _) (by rw[hv.dz,hw.dz];exact r1)) ?_;simp only[aA.val,e1,e2];exact r2
    .rw[e1]at hv k3;rw[e2]at hw k3;obtain⟨v,r1,r2⟩:=Oe (ν:=C.ν) (x:=x) (P:=C.P) (t:=t) x.w k3;refine gT (sB ho (pn _ _ _ _ (by rw[hv.ke.1];exact⟨aJ,aJ⟩) _) (by rw[hv.ke.1,hw.ke.1];exact r1)) ?_;simp only[aA.val,e1,e2];exact r2
   split at hc
   .simp only[aG]at hc;exact hc▸hbin _ rfl (hc▸hob)
   .simp only[aG]at hc;exact hc▸hbin _ rfl (hc▸hob)
   .rename_i hu1 hu2;split at hc
    .cases hc
    .rename_i hge;have hge':C.P.eqGuardType C.P.depth t=false:=by simpa using hge
     have heq:∀(neg:Bool) (ks:Lah),ib C.P 30 t=some ks->op=(if neg then .neq else .eql)->i=.eqA neg (b9 C.P t) ks a b->O1 C.ν x (i.val Y J m L) ((execOp ev o).run C.P x.w):=by
      rintro neg ks hks hop rfl;obtain⟨k1,k2,a1,a2,f1,f2⟩:=hob;have hv:=hρ p dE a h1 k1;have hw:=hρ q dE b h2 k2;have hrun:=sz (ν:=C.ν) (x:=x) (P:=C.P) 30 t ks hks 10000 ae (ev p) (ev q) _ _ x.w hv hw a1 a2 f1 f2;cases hag:b9 C.P t
      .rw[hag]at a1 a2

       have hub:C.P.underlying t=some .bool:=Ia (d:=29) hag hu1 hu2 hks;rw[BB (d:=29) hub,aG]at hks;subst hks;have g1:=mz f1 a1;have g2:=mz f2 a2;cases e1:(J a).d<;>simp only[e1,CK.fits]at g1;cases e2:(J b).d<;>simp only[e2,CK.fits]at g2;rename_i b1 b2;rw[e1]at hv;rw[e2]at hw;refine gT (v:=.bool (if neg then !(b1==b2)else b1==b2)) (sB ho (pn _ _ _ _ (by rw[hv.jV];exact⟨aJ,aJ⟩) _) ?_) ?_
       .rw[hv.jV,hw.jV,hop];cases neg
        .simpa using run_eql_bool x.w t b1 b2 hub
        .simpa using run_neq_bool x.w t b1 b2 hub
       .simp only[aA.val,e1,e2,D.cells,ig,eqD,gW];cases neg<;>exact .bool _
      .rw[hag]at a1 a2;cases e1:(J a).d<;>simp only[e1,D.isAgg,iL]at a1;cases e2:(J b).d<;>simp only[e2,D.isAgg,iL]at a2;rw[e1]at hv;rw[e2]at hw;rw[e1,e2]at hrun;generalize hep:ev p=vp at*
       generalize heq':ev q=vq at*
       cases hv with
       |agg xs _ p1 p2 p3=>
        cases hw with
        |agg ys _ q1 q2 q3=>
         refine gT (sB (v:=.bool (if op=.neq then !(ig (D.agg _).cells (D.agg _).cells)else ig (D.agg _).cells (D.agg _).cells)) ho (by rw[hep,heq'];exact run_eqGuard_agg x.w _ _ _ _ _ _ hge') (by rw[hep,heq'];exact HJ op (by cases neg<;>simp[hop]) t xs ys _ x.w C.P hrun)) ?_;simp only[aA.val,e1,e2];cases neg<;>simp only[hop,br,ba,iL,cond_true,cond_false,reduceCtorEq]<;>exact .bool _
     split at hc
     .rename_i ks hks;simp only[aG]at hc;exact heq false ks hks rfl hc.symm
     .rename_i ks hks;simp only[aG]at hc;exact heq true ks hks rfl hc.symm
     .split at hc
      .simp only[aG]at hc;subst hc;simp[aA.pure]at hp
      .cases hc
     .split at hc
      .simp only[aG]at hc;subst hc;simp[aA.pure]at hp
      .cases hc
     .cases hc
  .cases hc
 |store t p q=>simp only[CC.op,ho]at hc;(repeat' split at hc)<;>simp_all[aA.pure]<;>(subst hc;simp at hp)
 |unOp op t p=>
  simp only[CC.op,ho,df]at hc;obtain⟨s,h1,rfl⟩:=hc;obtain⟨k1,k2⟩:=hob;have hv:=hρ p dE s h1 k1;cases op<;>cases hd:(J s).d<;>simp only[hd]at k2<;>rw[hd]at hv<;>simp only[aA.val,hd]
  .exact gT (by simp[execOp,ho,hv.dz,Op.unary,Op.intArith]) (.int _ _)
  .exact gT (by simp[execOp,ho,hv.jV,Op.unary]) (.bool _)
 |convert s d p=>
  simp only[CC.op,ho]at hc;split at hc
  .rename_i ks k a hu1 hu2 h1;simp only[aG]at hc;subst hc;obtain⟨k1,k2⟩:=hob;have hv:=hρ p dE a h1 k1;cases hd:(J a).d<;>simp only[hd]at k2;rw[hd]at hv;simp only[aA.val,hd];exact gT (by simp[execOp,ho,hv.dz,convert,run_underlying hu1,run_underlying hu2,Conv.intToInt]) (.int _ _)
  .split at hc
   .simp only[aG]at hc;subst hc;simp[aA.pure]at hp
   .cases hc
  .split at hc
   .simp only[aG]at hc;subst hc;simp[aA.pure]at hp
   .cases hc
  .cases hc
 |makeFunc fn first caps=>
  cases fn with
  |func fid=>
   simp only[CC.op,ho]at hc;split at hc
   .rename_i n l h1 h2;split at hc
    .rename_i hfe;simp only[aG]at hc;subst hc;obtain⟨e1,e2,e3⟩:=iK hρ caps.toList l (λo' ho'=>by simp only[ho,Op.operands,Array.toList_append,List.mem_append];exact .inr ho') h2 hob;have hf0:first=#[]:=by simpa using hfe
     refine gT (v:=.func (.func fid) #[] (caps.map ev)) (by simp[execOp,ho,Instr.makeFunc,hf0]) ?_;refine .fn fid n _ _ h1 (by simp[e2]) (λi hi=>?_);have:=e3 i hi;rw[<-bT,Array.toList_map];exact this
    .split at hc
     .rename_i hle;simp only[df]at hc;obtain⟨l1,hl1,rfl⟩:=hc;obtain⟨e1,e2,e3⟩:=iK hρ first.toList l1 (λo' ho'=>by simp only[ho,Op.operands,Array.toList_append,List.mem_append];exact .inl ho') hl1 hob
      obtain⟨_,q2,_⟩:=iK hρ caps.toList l (λo' ho'=>by simp only[ho,Op.operands,Array.toList_append,List.mem_append];exact .inr ho') h2 (by rw[List.isEmpty_iff.1 hle];trivial);have hf0:caps=#[]:=by
       rw[List.isEmpty_iff.1 hle]at q2;exact Array.eq_empty_of_size_eq_zero (by simpa[iU]using q2.symm)
      refine gT (v:=.func (.func fid) (first.map ev) #[]) (by simp[execOp,ho,Instr.makeFunc,hf0]) ?_;refine .er fid n _ _ h1 (by simp[e2]) (λi hi=>?_);have:=e3 i hi;rw[<-bT,Array.toList_map];exact this
     .cases hc
   .cases hc
  |_=>simp[CC.op,ho]at hc
 |lookup t p q ok=>
  cases ok with
  |true=>simp only[CC.op,ho]at hc;(repeat' split at hc)<;>simp_all[aA.pure]<;>(subst hc;simp_all[aA.pure])
  |false=>simp[CC.op,ho]at hc
 |slice t p lo hi mx=>
  simp only[CC.op,ho]at hc;split at hc
  .rename_i a l h hu h1 hl hh;simp only[aG]at hc;subst hc;obtain⟨k1,k2,k3,k4⟩:=hob;have hv:=hρ p dE a h1 k1;cases hd:(J a).d<;>simp only[hd]at k4;rename_i s;rw[hd]at hv;obtain⟨e1,e2⟩:=hv.ke;obtain⟨b1,b2,b3⟩:=qQ hρ tz tz hl hh k2 k3 false s.length s.length (λ_=>rfl) (aR _) k4.1 k4.2;simp only[aA.val,hd];have hsz:(⟨⟨s⟩⟩:ByteArray).size=s.length:=rfl;refine gT (v:=.string ⟨⟨(s.take (er (dO J h) s.length)).drop (er (dO J l) 0)⟩⟩) ?_ (.str _ fM);simp[execOp,ho,e1,Instr.sliceAt,Instr.slice,run_underlying hu,hsz,b1,FY]
  .rename_i e a l h hu h1 hl hh;split at hc
   .cases hc
   rename_i hce;simp only[aG]at hc;subst hc;obtain⟨k1,k2,k3,k4⟩:=hob;have hv:=hρ p dE a h1 k1;cases hd:(J a).d<;>simp only[hd]at k4
   ·
    rw[hd]at hv;obtain⟨b1,b2,b3⟩:=qQ hρ tz tz hl hh k2 k3 true 0 0 (λe=>by simp at e) (aR _) k4.1 (by
     have:er (dO J h) 0=0:=by
      have:=k4.1;cases hdh:dO J h with
      |none=>rfl
      |some d=>rw[hdh]at this;cases d<;>simp_all[nE,er]
     rw[this];exact k4.2)
    simp only[aA.val,hd];have e0:ev p=.slice none 0 0:=by generalize ev p=vp at hv;cases hv;rfl
    refine gT (v:=.slice none 0 0) ?_ .aO;have z1:er (dO J l) 0=0:=ae;have z2:er (dO J h) 0=0:=ae;rw[z1,z2]at b1;simp[execOp,ho,e0,Instr.sliceAt,Instr.slice,run_underlying hu,b1,dL hce]
   .rename_i k es;rw[hd]at hv;simp only[aA.val,hd];generalize hep:ev p=vp at hv;have hv2:=hv;cases hv with
    |sl aa b off len cap _ _ c hlen ha hcap hm hk hn hc' hone hh'=>
     subst hlen;obtain⟨b1,b2,b3⟩:=qQ hρ tz tz hl hh k2 k3 true es.length cap (λe=>by simp at e) hcap k4.2.1 k4.2.2;refine gT (v:=.slice (if cap=er (dO J l) 0 then aa else aa.map (·.add (er (dO J l) 0*C.P.cellsOf e))) (er (dO J h) es.length-er (dO J l) 0) (cap-er (dO J l) 0)) ?_ ?_
     .simp[execOp,ho,hep,Instr.sliceAt,Instr.slice,run_underlying hu,b1,dL hce]
     .rw[<-k4.1];exact aml hv2 b2 b3
   .rename_i L' k i n;rw[hd]at hv;simp only[aA.val,hd];obtain⟨k5,k6,k7⟩:=k4;obtain⟨aa,cap,he,hle0,hr⟩:=afb hv;obtain⟨b1,b2,b3⟩:=qQ hρ tz tz hl hh k2 k3 true n cap (λe=>by simp at e) hle0 k6 k7;refine gT ?_ (hr _ _ b2 b3);simp only[execOp,ho,he,Instr.sliceAt,Instr.slice,run_underlying hu,Sem.run_bind,Result.andThen_ok,Option.map_none,b1,dL hce,Sem.run_pure,k5]
  .rename_i e a h mo hu h1 hl hh;obtain rfl:=DP hl;obtain⟨oh,rfl,hh1⟩:=DQ hh;split at hc;rotate_left
   .cases hc
   rename_i ms hms;split at hc
   .cases hc
   rename_i hce;simp only[aG]at hc;subst hc;obtain⟨k1,k2,k3,k4⟩:=hob;have hv:=hρ p dE a h1 k1;have hvh:=hρ oh rK h hh1 k2;have hvm:=hρ mo rK ms hms k3;cases hdh:(J h).d<;>simp only[hdh]at k4;cases hdm:(J ms).d<;>simp only[hdm]at k4;rename_i kh nh km nm;rw[hdh]at hvh;rw[hdm]at hvm;obtain⟨p1,p2,p3⟩:=k4;cases hd:(J a).d<;>simp only[hd]at p3
   ·
    rw[hd]at hv;simp only[aA.val,hd,hdh];have e0:ev p=.slice none 0 0:=by generalize ev p=vp at hv;cases hv;rfl
    have b1:=vZ (C:=C) (x:=x) (len:=0) (cap:=0) hvh.dz hvm.dz p1 p2 ae;refine gT (v:=.slice none 0 0) ?_ .aO;have z1:nh.toNat=0:=ae;have z2:nm.toNat=0:=ae;rw[z1,z2]at b1;simp[execOp,ho,e0,Instr.sliceAt,Instr.slice,run_underlying hu,b1,dL hce]
   .rename_i k es;rw[hd]at hv;simp only[aA.val,hd,hdh];generalize hep:ev p=vp at hv;have hv2:=hv;cases hv with
    |sl aa b off len cap _ _ c hlen ha hcap hm hk hn hc' hone hh'=>
     subst hlen;have b1:=vZ (C:=C) (x:=x) (len:=es.length) (cap:=cap) hvh.dz hvm.dz p1 p2 ae;refine gT (v:=.slice (if nm.toNat=0 then aa else aa.map (·.add (0*C.P.cellsOf e))) nh.toNat nm.toNat) ?_ ?_
     .simp[execOp,ho,hep,Instr.sliceAt,Instr.slice,run_underlying hu,b1,dL hce]
     .rw[<-p3.1];exact amj hv2 ae ae
   .rename_i L' k i n;rw[hd]at hv;simp only[aA.val,hd,hdh];obtain⟨k5,k6⟩:=p3;obtain⟨aa,cap,he,hle0,hr⟩:=afa hv;have b1:=vZ (C:=C) (x:=x) (len:=n) (cap:=cap) hvh.dz hvm.dz p1 p2 ae;refine gT ?_ (hr nh.toNat nm.toNat ae ae);simp only[execOp,ho,he,Instr.sliceAt,Instr.slice,run_underlying hu,Sem.run_bind,Result.andThen_ok,Option.map_none,Option.map_some,b1,dL hce,Sem.run_pure,k5,Nat.sub_zero]
  .cases hc
 |fieldAddr t p fi=>
  simp only[CC.op,ho]at hc;split at hc
  .rename_i fs a hu h1;split at hc
   .rename_i fl hfl;split at hc
    .cases hc
    rename_i hce;simp only[aG]at hc;subst hc;obtain⟨k1,k2⟩:=hob;have hv:=hρ p dE a h1 k1;have hrun:∀(b c:Nat),ev p=.pointer (some ⟨b,c,none⟩)->(execOp ev o).run C.P x.w=.ok (.value (.pointer (some ⟨b,c+fl.offset,none⟩))) x.w:=by
     intro b c he;simp[execOp,ho,he,Instr.fieldAt,run_underlying hu,hfl,Instr.sureAddr,fieldPlace,dL hce,hce,Addr.Bq]
    cases hd:(J a).d<;>simp only[hd]at k2
    .rename_i k es i o';rw[hd]at hv;simp only[aA.val,hd];generalize hep:ev p=vp at hv;cases hv with
     |ref b off _ _ _ at_ _ c hI hat hk hn hc' h1' hh'=>
      exact gT (hrun _ _ hep) (.ref b off k i (o'+fl.offset) _ es c hI ae hk hn hc' h1' hh')
    .rename_i l k i o';rw[hd]at hv;simp only[aA.val,hd];generalize hep:ev p=vp at hv;cases hv with
     |ptr _ _ _ _ b base tot at_ hβ hat=>
      exact gT (hrun _ _ hep) (.ptr l k i (o'+fl.offset) b base tot _ hβ ae)
   .cases hc
  .cases hc
 |field t p fi=>
  simp only[CC.op,ho]at hc;split at hc
  .rename_i fs a hu h1;split at hc
   .rename_i fl hfl;split at hc
    .cases hc
    rename_i hce;simp only[aG]at hc;subst hc;obtain⟨k1,k2⟩:=hob;have hv:=hρ p dE a h1 k1;cases hd:(J a).d<;>simp only[hd]at k2;rename_i ds;rw[hd]at hv;generalize hep:ev p=vp at hv;have hv2:=hv;cases hv with
    |agg cs _ _ _ _=>
     obtain⟨v,r1,r2⟩:=qx (P:=C.P) (t:=fl.type) (off:=fl.offset) (n:=C.P.cellsOf fl.type) (ag:=b9 C.P fl.type) x.w hv2 (λe=>hce (.inl e)) (by cases hn:(C.P.underlying fl.type).isNone with|false=>rfl|true=>exact absurd (.inr hn) hce) rfl rfl k2.1 k2.2;refine gT (v:=v) ?_ (by simp only[aA.val,hd,D.cells];exact r2);simp[execOp,ho,hep,Instr.field,run_underlying hu,hfl,asAgg,r1]
   .cases hc
  .cases hc
 |indexAddr t p q=>
  simp only[CC.op,ho]at hc;split at hc
  .rename_i e a b hu h1 h2;split at hc
   .cases hc
   rename_i hce;simp only[aG]at hc;subst hc;obtain⟨k1,k2,k3⟩:=hob;have hv:=hρ p dE a h1 k1;have hw:=hρ q dE b h2 k2;cases hd2:(J b).d<;>cases hd:(J a).d<;>simp only[hd,hd2]at k3
   .rename_i kk n k es;rw[hd]at hv;rw[hd2]at hw;obtain⟨k4,k5,k6⟩:=k3;simp only[aA.val,hd,hd2];generalize hep:ev p=vp at hv;cases hv with
    |sl aa b' off len cap _ _ c hlen ha hcap hm hk hn hc' hone hh'=>
     rcases ha with rfl|⟨rfl,hI⟩
     .simp at k6;omega
     .refine gT (v:=.pointer (some ⟨b',off+n.toNat*C.P.cellsOf e,none⟩)) ?_ ?_
      .simp[execOp,ho,hep,hw.dz,Instr.indexAt,asIntOf,run_underlying hu,hlen,k5,k6,dL hce,Addr.Bq]
      .subst hlen;exact .ref b' off k n.toNat 0 _ es c hI (by rw[k4];omega) hk hn hc' hone hh'
   .rename_i kk n L' k i len;rw[hd]at hv;rw[hd2]at hw;obtain⟨k4,k5,k6⟩:=k3;simp only[aA.val,hd,hd2];generalize hep:ev p=vp at hv;cases hv with
    |own _ _ _ _ b' base tot cap aa hβ ha hcap hm ht=>
     have ha':=ha ae;subst ha';refine gT (v:=.pointer (some ⟨b',base+i*k+n.toNat*C.P.cellsOf e,none⟩)) ?_ ?_
     .simp[execOp,ho,hep,hw.dz,Instr.indexAt,asIntOf,run_underlying hu,k5,k6,dL hce,Addr.Bq]
     .exact .ptr L' k (i+n.toNat) 0 b' base tot _ hβ (by rw[Nat.add_mul,k4];omega)
    |own0=>omega
  .rename_i len e a b hu h1 h2;split at hc
   .cases hc
   rename_i hce;simp only[aG]at hc;subst hc;obtain⟨k1,k2,k3⟩:=hob;have hv:=hρ p dE a h1 k1;have hw:=hρ q dE b h2 k2;have hrun:∀(b c:Nat) (kk:IntKind) (n:Int),ev p=.pointer (some ⟨b,c,none⟩)->ev q=.int kk n->0<=n->n<len->(execOp ev o).run C.P x.w=.ok (.value (.pointer (some ⟨b,c+n.toNat*C.P.cellsOf e,none⟩))) x.w:=by
    intro b c kk n he he' g1 g2;simp[execOp,ho,he,he',Instr.indexAt,asIntOf,run_underlying hu,Instr.sureAddr,g1,g2,dL hce,Addr.Bq]
   cases hd2:(J b).d<;>cases hd:(J a).d<;>simp only[hd,hd2]at k3
   .rename_i kk n k es i o';rw[hd]at hv;rw[hd2]at hw;simp only[aA.val,hd,hd2];generalize hep:ev p=vp at hv;cases hv with
    |ref b' off _ _ _ at_ _ c hI hat hk hn hc' h1' hh'=>
     exact gT (hrun _ _ _ _ hep hw.dz k3.1 k3.2) (.ref b' off k i (o'+n.toNat*C.P.cellsOf e) _ es c hI ae hk hn hc' h1' hh')
   .rename_i kk n L' k i o';rw[hd]at hv;rw[hd2]at hw;simp only[aA.val,hd,hd2];generalize hep:ev p=vp at hv;cases hv with
    |ptr _ _ _ _ b' base tot at_ hβ hat=>
     exact gT (hrun _ _ _ _ hep hw.dz k3.1 k3.2) (.ptr L' k i (o'+n.toNat*C.P.cellsOf e) b' base tot _ hβ ae)
  .cases hc
 |index t p q=>
  simp only[CC.op,ho]at hc;split at hc
  .rename_i a b hu h1 h2;simp only[aG]at hc;subst hc;obtain⟨k1,k2,k3⟩:=hob;have hv:=hρ p dE a h1 k1;have hw:=hρ q dE b h2 k2;cases hd2:(J b).d<;>cases hd:(J a).d<;>simp only[hd,hd2]at k3;rename_i kk n s;rw[hd]at hv;rw[hd2]at hw;obtain⟨e1,e2⟩:=hv.ke;simp only[aA.val,hd,hd2];have hsz:(⟨⟨s⟩⟩:ByteArray).size=s.length:=rfl;have hlt:n.toNat<s.length:=ae;refine gT (v:=.int .u8 (s.getD n.toNat 0).toNat) ?_ (.int _ _);simp only[execOp,ho,e1,hw.dz,Sem.run_bind,run_index_string x.w t _ kk n hu,hsz];rw[dif_pos k3];simp only[Result.andThen_ok,Sem.run_pure];congr 4;show(((⟨s⟩:Array UInt8)[n.toNat]'hlt)).toNat=_;simp[List.getD,hlt]
  .rename_i len e a b hu h1 h2;split at hc
   .cases hc
   rename_i hce;simp only[aG]at hc;subst hc;obtain⟨k1,k2,k0,k3⟩:=hob;have hv:=hρ p dE a h1 k1;have hw:=hρ q dE b h2 k2;cases hd2:(J b).d<;>cases hd:(J a).d<;>simp only[hd,hd2]at k3;rename_i kk n ds;rw[hd]at hv;rw[hd2]at hw;generalize hep:ev p=vp at hv;have hv2:=hv;cases hv with
   |agg cs _ _ _ _=>
    have hb:n.toNat*C.P.cellsOf e+C.P.cellsOf e<=ds.length:=by
     rw[k3.2.2,<-Nat.succ_mul];exact fU _ ae
    obtain⟨v,r1,r2⟩:=qx (P:=C.P) (t:=e) (off:=n.toNat*C.P.cellsOf e) (n:=C.P.cellsOf e) (ag:=b9 C.P e) x.w hv2 (λe=>hce (.inl e)) (by cases hn:(C.P.underlying e).isNone with|false=>rfl|true=>exact absurd (.inr hn) hce) rfl rfl hb k0;refine gT (v:=v) ?_ (by simp only[aA.val,hd,hd2,D.cells];exact r2);simp[execOp,ho,hep,hw.dz,Instr.index,asIntOf,run_underlying hu,k3.1,k3.2.1,dL (λe=>hce (.inl e)),r1]
  .cases hc
 |extract p n=>
  simp only[CC.op,ho,df]at hc;obtain⟨s,h1,rfl⟩:=hc;obtain⟨k1,k2⟩:=hob;have hv:=hρ p dE s h1 k1;cases hd:(J s).d<;>simp only[hd]at k2;rw[hd]at hv;generalize hep:ev p=vp at hv;cases hv with
  |tup cs _ hl hh=>
   have hlt:n<cs.size:=ae;refine gT (v:=cs.getD n undef) ?_ (by simp only[aA.val,hd];exact hh n k2);simp[execOp,ho,hep,Instr.extract,Array.getElem?_eq_getElem hlt,Array.getD,hlt]
 |call c=>
  obtain⟨callee,args,argTypes⟩:=c;cases callee with
  |builtin bu=>
   cases bu with
   |len=>
    simp only[CC.op,ho]at hc;split at hc
    .rename_i p t hargs htys;have hargs':args=#[p]:=by apply Array.ext';simpa using hargs
     have htys':argTypes=#[t]:=by apply Array.ext';simpa using htys
     subst hargs';subst htys';split at hc
     .rename_i a h1 hu;simp only[aG]at hc;subst hc;obtain⟨k1,k2⟩:=hob;have hv:=hρ p dE a h1 k1;have hrun:∀s,ev p=.string s->(execOp ev o).run C.P x.w=.ok (.value (.int .i64 s.size)) x.w:=by
       intro s he;simp[execOp,ho,resolve,invoke,builtin,Builtin.len_,he,run_underlying hu,goInt]
      cases hd:(J a).d<;>simp only[hd]at k2
      .rw[hd]at hv;simp only[aA.val,hd];exact gT (hrun _ hv.ke.1) (.int _ _)
     .rename_i a e h1 hu;simp only[aG]at hc;subst hc;obtain⟨k1,k2⟩:=hob;have hv:=hρ p dE a h1 k1;have hrun:∀b n cc,ev p=.slice b n cc->(execOp ev o).run C.P x.w=.ok (.value (.int .i64 n)) x.w:=by
       intro b n cc he;simp[execOp,ho,resolve,invoke,builtin,Builtin.len_,he,run_underlying hu,goInt]
      cases hd:(J a).d<;>simp only[hd]at k2
      .rw[hd]at hv;simp only[aA.val,hd];generalize hep:ev p=vp at hv;cases hv;exact gT (hrun _ _ _ hep) (.int _ _)
      .rw[hd]at hv;simp only[aA.val,hd];generalize hep:ev p=vp at hv;cases hv with
       |sl aa b off len cap _ _ cf hlen ha hcap hm hk hn hc' hone hh'=>
        subst hlen;exact gT (hrun _ _ _ hep) (.int _ _)
      .rw[hd]at hv;simp only[aA.val,hd];generalize hep:ev p=vp at hv;cases hv with
       |own _ _ _ _ b base tot cap aa hβ ha hcap hm ht=>
        exact gT (hrun _ _ _ hep) (.int _ _)
       |own0=>exact gT (hrun _ _ _ hep) (.int _ _)
     .cases hc
    .cases hc
   |min=>
    simp only[CC.op,ho]at hc;split at hc
    .rename_i p q hargs;have hargs':args=#[p,q]:=by apply Array.ext';simpa using hargs
     subst hargs';split at hc
     .rename_i a b h1 h2;simp only[aG]at hc;subst hc;obtain⟨k1,k2,k3⟩:=hob;have hv:=hρ p dE a h1 k1;have hw:=hρ q dE b h2 k2;cases hd:(J a).d<;>cases he:(J b).d<;>simp only[hd,he]at k3;rw[hd]at hv;rw[he]at hw;simp only[aA.val,hd,he];refine gT ?_ (.int _ _);simp[execOp,ho,resolve,invoke,builtin,Builtin.min_,Builtin.min2,hv.dz,hw.dz]
     .cases hc
    .cases hc
   |max=>
    simp only[CC.op,ho]at hc;split at hc
    .rename_i p q hargs;have hargs':args=#[p,q]:=by apply Array.ext';simpa using hargs
     subst hargs';split at hc
     .rename_i a b h1 h2;simp only[aG]at hc;subst hc;obtain⟨k1,k2,k3⟩:=hob;have hv:=hρ p dE a h1 k1;have hw:=hρ q dE b h2 k2;cases hd:(J a).d<;>cases he:(J b).d<;>simp only[hd,he]at k3;rw[hd]at hv;rw[he]at hw;simp only[aA.val,hd,he];refine gT ?_ (.int _ _);simp[execOp,ho,resolve,invoke,builtin,Builtin.max_,Builtin.max2,hv.dz,hw.dz]
     .cases hc
    .cases hc
   |append=>simp only[CC.op,ho]at hc;(repeat' split at hc)<;>simp_all[aA.pure]<;>(subst hc;simp_all[aA.pure])
   |_=>simp[CC.op,ho]at hc
  |value f=>
   cases f with
   |func fid=>simp only[CC.op,ho]at hc;(repeat' split at hc)<;>simp_all[aA.pure]<;>(subst hc;simp_all[aA.pure])
   |tmp t=>simp only[CC.op,ho]at hc;(repeat' split at hc)<;>simp_all[aA.pure]<;>(subst hc;simp_all[aA.pure])
   |_=>simp[CC.op,ho]at hc
  |invoke r n=>simp[CC.op,ho]at hc
 |alloc t=>simp only[CC.op,ho]at hc;(repeat' split at hc)<;>simp_all[aA.pure]<;>(subst hc;simp_all[aA.pure])
 |box t p=>simp only[CC.op,ho]at hc;(repeat' split at hc)<;>simp_all[aA.pure]<;>(subst hc;simp_all[aA.pure])
 |buildSlice t n ps=>simp only[CC.op,ho]at hc;(repeat' split at hc)<;>simp_all[aA.pure]<;>(subst hc;simp_all[aA.pure])
 |load t p=>
  simp only[CC.op,ho]at hc;split at hc
  .rename_i d hg;obtain rfl:=aZ hc;cases p with
   |global g=>
    simp only[CC.Ys]at hg;split at hg
    .rename_i hh;obtain rfl:=aZ hg;obtain⟨h1,h2,h3,h4⟩:=hh;have hcell:=cO.gzr x g hs.gd (hgz g h1);obtain⟨v,r1,r2⟩:=qZ (ν:=C.ν) (x:=x) (P:=C.P) (e:=zVD) (k:=5) (n:=5) (o:=0) (b:=g) (at0:=0) (ag:=true) (ty:=t) (c:=zVv) rfl ae
      (λj hj=>⟨by simpa using hcell j hj,by unfold zVv;split<;>rfl,by
        unfold zVv zVD
        match j,hj with
        |0,_=>exact .int _ _
        |1,_=>exact .int _ _
        |2,_=>exact .int _ _
        |3,_=>exact .str [] aJ
        |4,_=>exact .str [] aJ⟩) h2.symm ae h4 h3.symm (λh=>cb)
     refine gT (v:=v) ?_ (by simp only[aA.val,hcst];exact r2);have hev:ev (.global g)=.pointer (some ⟨g,0,none⟩):=hgl g;simp[execOp,ho,hev,Instr.loadAt,Instr.sureAddr,r1]
    .cases hg
   |_=>simp[CC.Ys]at hg
  ·(repeat' split at hc)<;>simp_all[aA.pure]<;>(subst hc;simp_all[aA.pure])
 |makeSlice t a b=>simp only[CC.op,ho]at hc;(repeat' split at hc)<;>simp_all[aA.pure]<;>(subst hc;simp_all[aA.pure])
 |range t p=>simp only[CC.op,ho]at hc;(repeat' split at hc)<;>simp_all[aA.pure]<;>(subst hc;simp_all[aA.pure])
 |next it b=>
  cases b
  .simp[CC.op,ho]at hc
  .simp only[CC.op,ho,df]at hc;obtain⟨s,h1,rfl⟩:=hc;simp[aA.pure]at hp
 |makeMap t r=>cases r<;>simp only[CC.op,ho]at hc<;>(try cases hc)<;>(repeat' split at hc)<;>simp_all[aA.pure]<;>(subst hc;simp_all[aA.pure])
 |mapUpdate t a b c=>simp only[CC.op,ho]at hc;(repeat' split at hc)<;>simp_all[aA.pure]<;>(subst hc;simp_all[aA.pure])
 |_=>simp[CC.op,ho]at hc
def ae7 {o:Oper}{i:aA}(hgz:∀g,C.bS.contains (500000000+g)=true/\g<400000000->cO.gz g)(hcst:∀d,J (.c d)=⟨true,d⟩)(hsm:∀fid n,dV C.ν fid=some n->n<1000000)(hc:C.op defs o=some i)(hp:i.pure=true)(hρ:vS C defs J ev x o.op.operands.toList)(hob:i.eO Y J m)(hs:fO C.ν x f)(hgl:∀g,ev (.global g)=.pointer (some ⟨g,0,none⟩)):
  BY C.ν x f L (i.val Y J m L) ((execOp ev o).run C.P x.w):=(ZO hgz hcst hsm hc hp hρ hob hs hgl).did hs
end
end
abbrev aH (Y:Ctx)(n:Nat)(ds:Θ)(d:D):Prop:=Y.pre n ds/\Y.val n ds=d
section
variable [cO]
def xM {α:Type}(l:List α)(j:Nat)(d:α)(h:j<l.length):l.getD j d=l[j]:=by simp[List.getD,h]
theorem ZX (cs new:Θ)(o:Nat)(h:o+new.length<=cs.length):(over cs o new).length=cs.length:=by
 grind [over]
theorem VD (cs new:Θ)(o:Nat)(h:o+new.length<=cs.length)(j:Nat)(d:D):(over cs o new).getD j d=if o<=j/\j<o+new.length then new.getD (j-o) d else cs.getD j d:=by
 grind [over]
theorem bO (m:Γ)(L:Nat)(b:bo)(l:Nat):look (cW m L b) l=if l=L then some b else look m l:=by
 induction m with
 |nil=>by_cases h:l=L<;>simp[cW,look,h,eq_comm]<;>omega
 |cons p r ih=>
  grind [cW,look]
theorem fF (m:Γ)(k l:Nat):look (de m k) l=if l=k then none else look m l:=by
 induction m with
 |nil=>simp[de,look]
 |cons p r ih=>
  grind [de,look]
def jg (ws:Ε)(m':Γ):Nat->Χ:=λl=>if l∈ws then look m' l else f l
section
variable {x:X}
def mi (b:Nat):∀(vs:η) (o:Nat) (w:World) (c:Κ) (T:TypeId) (fr:Nat×Nat),w.heap[b]? =some (.cells c T fr)->o+vs.length<=c.size->
  ∃c',(w.setCells b o vs).heap[b]? =some (.cells c' T fr)/\c'.size=c.size/\∀q,c'.getD q undef=if o<=q/\q<o+vs.length then vs.getD (q-o) undef else c.getD q undef
 |[],o,w,c,T,fr,h,_=>⟨c,by simpa[World.setCells]using h,rfl,λq=>by rw[ah (λe=>by have:=e.1;have:=e.2;simp at this;omega)]⟩
 |v::r,o,w,c,T,fr,h,hl=>by
  simp only[bJ]at hl;have h1:(w.setCell ⟨b,o,none⟩ v).heap[b]? =some (.cells (c.setIfInBounds o v) T fr):=by
   simp[World.setCell,Array.getElem?_modify,h]
  obtain⟨c',g1,g2,g3⟩:=mi b r (o+1) _ _ T fr h1 fM;refine⟨c',by simpa[World.setCells]using g1,by simpa using g2,λq=>?_⟩;rw[g3 q];simp only[bJ];by_cases q1:o+1<=q/\q<o+1+r.length
  .rw[ak q1,ak ae,show q-o=(q-(o+1))+1 by omega];simp
  .rw[ah q1];by_cases q2:q=o
   .subst q2;rw[ak ae];simp[Array.getD,show q<c.size by omega]
   .rw[ah ae];rw[<-bT,<-bT];simp[List.getD,List.getElem?_set,show ¬o=q by omega]
def lq (b:Nat):∀(vs:η) (o:Nat) (w:World) (b':Nat),b'≠b->(w.setCells b o vs).heap[b']? =w.heap[b']?
 |[],o,w,b',_=>rfl
 |v::r,o,w,b',h=>by
  rw[show w.setCells b o (v::r)=(w.setCell ⟨b,o,none⟩ v).setCells b (o+1) r from rfl,lq b r (o+1) _ b' h];simp[World.setCell,Array.getElem?_modify,show b≠b' by omega]
def ll (b:Nat):∀(vs:η) (o:Nat) (w:World),(w.setCells b o vs).os=w.os/\(w.setCells b o vs).tape=w.tape/\(w.setCells b o vs).output=w.output/\(w.setCells b o vs).heap.size=w.heap.size
 |[],o,w=>⟨rfl,rfl,rfl,rfl⟩
 |v::r,o,w=>by
  have:=ll b r (o+1) (w.setCell ⟨b,o,none⟩ v);exact⟨this.1,this.2.1,this.2.2.1,by rw[show w.setCells b o (v::r)=(w.setCell ⟨b,o,none⟩ v).setCells b (o+1) r from rfl,this.2.2.2];simp⟩
def cell_of_heap {w:World}{b o:Nat}(h:w.heap[b]? =some (.cells c T fr))(ho:o<c.size):w.cell? ⟨b,o,none⟩=some (c.getD o undef):=by
 rw[cell_of_row w b o c T fr h];simp[Array.getD,ho]
theorem vU {f:Nat->Χ}{m:Γ}(hs:fO ν x f)(hf:f l=look m l)(hb:ep m l k n):
  f l=some (.buf k (aK m l))/\n<=(aK m l).length/\look m l=some (.buf k (aK m l)):=by
 grind [ep,aK,look]
theorem kY {i j:Nat}(hi:i<tot)(hj:j<k):i*k+j<tot*k:=by
 have:(i+1)*k<=tot*k:=fU _ hi;rw[Nat.succ_mul]at this;omega
def FA (m:Γ):Option (List Nat)->Prop
 |none=>∀l,look m l≠none->f l=look m l
 |some ls=>∀l,l∈ls->f l=look m l
def pk {f:Nat->Χ}{L:Nat}{w':World}{blk:bo}{v:Value}{d:D}(hs:fO ν x f)(hL:x.β L=none)(hw:iE x.w w')(hnw:x.w.heap.size<w'.heap.size)(hb:pH ν ⟨w',x.I,fo x.β L (x.w.heap.size,0,tot)⟩ x.w.heap.size 0 tot blk)(hv:RD ν ⟨w',x.I,fo x.β L (x.w.heap.size,0,tot)⟩ v d)(hr:r=.ok (.value v) w')(hf:∀l,f' l=jI f L (some blk) l):BY ν x f' L d r:=by
 have e:f'=jI f L (some blk):=funext hf;subst e;exact⟨v,⟨w',x.I,fo x.β L (x.w.heap.size,0,tot)⟩,.inl hr,EK hw (aR _) hL hs.imm,hv,afP hs hw (aR _) hnw hL hb,λl hl=>by simp[fo,hl]⟩
def xk {w':World}{L:Nat}{es:Θ}(x':X)(hx:x'.w.heap[n]? =some (.cells c T fr))(hk:0<k)(ht:es.length<=tot)(hc:tot*k<=c.size)(hfr:∀o,o<c.size->¬(fr.1<=o/\o<fr.2))(he:∀i,i<es.length->(es.getD i .any).cells.length=k/\∀j,j<k->(c.getD (i*k+j) undef).oneCell'=true/\RD ν x' (c.getD (i*k+j) undef) ((es.getD i .any).cells.getD j .any)):
  pH ν x' n 0 tot (.buf k es):=
 ⟨hk,ht,c,T,fr,hx,ae,hfr,λi hi=>⟨(he i hi).1,λj hj=>by simpa using(he i hi).2 j hj⟩⟩
end
section
variable {x:X}{f:Nat->Χ}{C:CC}{defs:Ζ}{J:Src->a7}{ev:Operand->Value}{Y:Ctx}{m:Γ}{L:Nat}
def Ic (hs:fO C.ν x f){w':World}(hw:iE x.w w')(hL:x.β L=none):Le x ⟨w',x.I,fo x.β L (x.w.heap.size,0,tot)⟩:=
 (EK hw (aR _) hL hs.imm).le
theorem Sm {v:Value}{d:D}(hs:fO C.ν x f)(hL:x.β L=none)(hv:RD C.ν x v d)(hk:d.cells.length=k)(hk0:k≠0)(hr:r=.ok (.value (.pointer (some ⟨x.w.heap.size,0,none⟩))) (x.w.alloc (.cells v.cells T))):
  BY C.ν x (jg f [L] (cW m L (.buf k [d]))) L (.ptr L k 0 0) r:=by
 have hw:=iE.alloc x.w (.cells v.cells T);have hle:=Ic (tot:=1) hs hw hL;obtain⟨c1,c2⟩:=hv.cells ae;refine pk (tot:=1) (blk:=.buf k [d]) hs hL hw aJ ?_ (.ptr L k 0 0 x.w.heap.size 0 1 0 nV aJ) hr (λl=>?_)
 .refine xk (w':=x.w) (L:=L) _ (ee x.w _) ae aJ ae (λo _=>aJ) (λi hi=>?_);simp at hi;subst hi;refine⟨by simpa using hk,λj hj=>?_⟩;have:=c2 j ae;exact⟨by simpa using this.1,by simpa using this.2.mono hle⟩
 grind [jg,bO,jI]
def adL {v:Value}(hs:fO C.ν x f)(hL:x.β L=none)(hv:RD C.ν x v (.agg [.nilp,.aO]))(hr:r=.ok (.value (.pointer (some ⟨x.w.heap.size,0,none⟩))) (x.w.alloc (.cells v.cells cO.tB))):
  BY C.ν x (jg f [L] (cW m L (.bld none 0 false))) L (.ptr L 2 0 0) r:=by
 have hw:=iE.alloc x.w (.cells v.cells cO.tB);refine pk (tot:=1) (blk:=.bld none 0 false) hs hL hw aJ ?_ (.ptr L 2 0 0 x.w.heap.size 0 1 0 nV aJ) hr (λl=>?_)
 .refine⟨rfl,.slice none 0 0, ?_,rfl,rfl⟩;refine(ee x.w _).trans ?_;cases hv with
  |agg cs _ hl h1 h=>
   have e0:=h 0 aJ;have e1:=h 1 aJ;simp only[iZ,List.getD_cons_succ]at e0 e1;have hl2:cs.size=2:=hl;have hcs:cs=#[.pointer none,.slice none 0 0]:=by
    apply Array.ext
    .simpa using hl2
    .intro i hi1 hi2;have hi:i=0\/i=1:=ae;rcases hi with rfl|rfl
     .generalize hq:cs.getD 0 undef=q at e0;cases e0;simp[Array.getD,hi1]at hq;simpa using hq
     .generalize hq:cs.getD 1 undef=q at e1;cases e1;simp[Array.getD,hi1]at hq;simpa using hq
   subst hcs;rfl
 .by_cases e:l=L
  .subst e;simp[jg,bO,jI]
  .simp[jg,e,jI]
def ZJ {o:Oper}{i:aA}(hc:C.op defs o=some i)(ho:(∃t,o.op=.alloc t)\/∃t p,o.op=.box t p)(hρ:vS C defs J ev x o.op.operands.toList)(hcst:∀d,J (.c d)=⟨true,d⟩)(hob:i.eO Y J m)(hs:fO C.ν x f)(hL:x.β L=none)(hB:∀t,C.bS.contains (1000000000+t)=true->t=cO.tB):
  BY C.ν x (jg f (i.wr J L) (i.bS Y J m L)) L (i.val Y J m L) ((execOp ev o).run C.P x.w):=by
 rcases ho with⟨t,ho⟩|⟨t,p,ho⟩
 .simp only[CC.op,ho]at hc;split at hc
  .rename_i z hz;obtain⟨ti,v,hi,hzv,hr⟩:=qF (x:=x) hz;split at hc
   .cases hc
   rename_i hce;split at hc
   .rename_i hB0;split at hc
    .simp only[aG]at hc;subst hc;exact adL hs hL hr (by rw[<-hB t hB0];simp[execOp,ho,Instr.alloc,zeroValue,typeInfo,hi,hzv,newVar,newRow])
    .cases hc
   simp only[aG]at hc;subst hc;obtain⟨k1,k2⟩:=hob;simp only[hcst]at k2;have e:(aA.box (C.P.cellsOf t) (.c z)).bS Y J m L=cW m L (.buf (C.P.cellsOf t) [z]):=by simp[aA.bS,hcst]
   rw[e];refine Sm (T:=t) hs hL hr k2 hce ?_;simp[execOp,ho,Instr.alloc,zeroValue,typeInfo,hi,hzv,newVar,newRow]
  .cases hc
 .simp only[CC.op,ho]at hc;split at hc
  .rename_i s h1;split at hc
   .cases hc
   rename_i hce;simp only[aG]at hc;subst hc;obtain⟨k1,k2⟩:=hob;exact Sm (T:=t) hs hL (hρ p dE s h1 k1) k2 hce (by simp[execOp,ho,Instr.box,newVar,newRow])
  .cases hc
def ZN {o:Oper}{i:aA}{p:Operand}(hpu:¬i.pure=true)(hsm:∀fid n,dV C.ν fid=some n->n<1000000)(hc:C.op defs o=some i)(ho:o.op=.load t p)(hρ:vS C defs J ev x o.op.operands.toList)(hob:i.eO Y J m)(hs:fO C.ν x f)(hag:FA f m (i.nB J)):
  O1 C.ν x (i.val Y J m L) ((execOp ev o).run C.P x.w):=by
 simp only[CC.op,ho]at hc;split at hc
 .obtain rfl:=aZ hc;exact absurd rfl hpu
 split at hc
 .rename_i s h1;split at hc
  .cases hc
  rename_i hce;simp only[aG]at hc;subst hc;obtain⟨k1,k2⟩:=hob;have hv:=hρ p dE s h1 k1;have hn0:C.P.cellsOf t≠0:=λe=>hce (.inl e)
  have hu:(C.P.underlying t).isNone=false:=by cases hn:(C.P.underlying t).isNone with|false=>rfl|true=>exact absurd (.inr (.inl hn)) hce
  have h1':b9 C.P t=false->C.P.cellsOf t=1:=λe=>by
   rcases Nat.decEq (C.P.cellsOf t) 1 with h|h
   .exact absurd (.inr (.inr ⟨e,h⟩)) hce
   .exact h
  cases hd:(J s).d<;>simp only[hd,MA]at k2
  .rename_i k es i o';rw[hd]at hv;generalize hep:ev p=vp at hv;cases hv with
   |ref b off _ _ _ at_ _ c hI hat hk hn hcc hone hh=>
    obtain⟨v,r1,r2⟩:=qZ (P:=C.P) (ν:=C.ν) (x:=x) (e:=es.getD i .any) (k:=k) (n:=C.P.cellsOf t) (o:=o') (b:=b) (at0:=off+i*k) (ag:=b9 C.P t) (ty:=t) (c:=c i) (hk i k2.1) k2.2
     (λj hj=>⟨hcc i j k2.1 hj,hone i j k2.1 hj,hh i j k2.1 hj⟩) rfl hn0 hu rfl h1'
    refine gT (v:=v) ?_ (by simp only[aA.val,hd,MB];exact r2);simp[execOp,ho,hep,Instr.loadAt,Instr.sureAddr,hat,r1]
  .rename_i l k i o';rw[hd]at hv;generalize hep:ev p=vp at hv;cases hv with
   |ptr _ _ _ _ b base tot at_ hβ hat=>
    obtain⟨g1,g2,g3⟩:=vU (n:=i+1) hs (hag l (by simp[hd,cq])) k2.1;obtain⟨hnI,hk0,ht,c,T,fr,q1,q2,q3,q4⟩:=hs.own l _ b base tot g1 hβ;have hi:i<(aK m l).length:=ae;obtain⟨v,r1,r2⟩:=qZ (P:=C.P) (ν:=C.ν) (x:=x) (e:=(aK m l).getD i .any) (k:=k) (n:=C.P.cellsOf t) (o:=o') (b:=b) (at0:=base+i*k) (ag:=b9 C.P t) (ty:=t) (c:=λj=>c.getD (base+i*k+j) undef)
     ((q4 i hi).1) k2.2
     (λj hj=>⟨cell_of_heap q1 Lv,((q4 i hi).2 j hj).1,((q4 i hi).2 j hj).2⟩) rfl hn0 hu rfl h1'
    refine gT (v:=v) ?_ (by simp only[aA.val,hd,MB];exact r2);simp[execOp,ho,hep,Instr.loadAt,Instr.sureAddr,hat,r1]
  .rename_i q es;obtain⟨hq2,e1,e2,e3⟩:=k2;rw[hd]at hv;generalize hep:ev p=vp at hv;cases hv with
   |mpn=>exfalso;omega
   |im=>exfalso;omega
   |fn fid _ cs ds hν=>exact absurd (hsm _ _ hν) ae
   |er fid _ cs ds hν=>exact absurd (hsm _ _ hν) ae
   |bx b at_ _ v0 hI hc0 h1 hl hh=>
    obtain⟨v,r1,r2⟩:=qZ (P:=C.P) (ν:=C.ν) (x:=x) (e:=es.getD 0 .any) (k:=1) (n:=C.P.cellsOf t) (o:=0) (b:=b) (at0:=at_) (ag:=b9 C.P t) (ty:=t) (c:=λ_=>v0) (by rw[e3];rfl) ae
     (λj hj=>by obtain rfl:j=0:=ae;exact⟨hc0,h1,by rw[e3];exact hh 0 ae⟩) rfl hn0 hu rfl h1'
    refine gT (v:=v) ?_ (by simp only[aA.val,hd,MB];exact r2);simp only[Nat.add_zero]at r1;simp[execOp,ho,hep,Instr.loadAt,Instr.sureAddr,r1]
 .cases hc
def ae5 {o:Oper}{i:aA}{p:Operand}(hpu:¬i.pure=true)(hsm:∀fid n,dV C.ν fid=some n->n<1000000)(hc:C.op defs o=some i)(ho:o.op=.load t p)(hρ:vS C defs J ev x o.op.operands.toList)(hob:i.eO Y J m)(hs:fO C.ν x f)(hag:FA f m (i.nB J)):
  BY C.ν x (jg f (i.wr J L) (i.bS Y J m L)) L (i.val Y J m L) ((execOp ev o).run C.P x.w):=by
 have haf:jg f (i.wr J L) (i.bS Y J m L)=f:=by
  have hw:i.wr J L=[]:=by
   simp only[CC.op,ho]at hc
   (repeat' split at hc)<;>simp only[aG,reduceCtorEq]at hc<;>subst hc<;>rfl
  funext l;simp[jg,hw]
 rw[haf];exact(ZN hpu hsm hc ho hρ hob hs hag).did hs
def ZQ {o:Oper}{i:aA}{p:Operand}(hpu:¬i.pure=true)(hc:C.op defs o=some i)(ho:o.op=.store t p q)(hρ:vS C defs J ev x o.op.operands.toList)(hob:i.eO Y J m)(hs:fO C.ν x f)(hag:FA f m (i.nB J)):
  BY C.ν x (jg f (i.wr J L) (i.bS Y J m L)) L (i.val Y J m L) ((execOp ev o).run C.P x.w):=by
 simp only[CC.op,ho]at hc;split at hc
 .rename_i s u h1 h2;split at hc
  .cases hc
  rename_i hce;simp only[aG]at hc;subst hc;obtain⟨k1,k2,k3,k4⟩:=hob;have hv:=hρ p dE s h1 k1;have hw:=hρ q dE u h2 k2;cases hd:(J s).d<;>simp only[hd]at k4;rename_i l k i o';rw[hd]at hv;generalize hep:ev p=vp at hv;cases hv with
  |ptr _ _ _ _ b base tot at_ hβ hat=>
   obtain⟨g1,g2,g3⟩:=vU (n:=i+1) hs (hag l (by simp[hd,cq])) k4.1;obtain⟨hnI,hk0,ht,c,T,fr,q1,q2,q3,q4⟩:=hs.own l _ b base tot g1 hβ;have hi:i<(aK m l).length:=ae;obtain⟨c1,c2⟩:=hw.cells ae;have hnl:(ev q).cells.toList.length=C.P.cellsOf t:=fM;have hin:∀j,j<C.P.cellsOf t->base+i*k+o'+j<c.size:=λj hj=>by
    have:=kY (tot:=tot) (i:=i) (k:=k) (j:=o'+j) ae ae;omega
   have hst:=run_storeCells_cells (P:=C.P) b (base+i*k+o') (ev q).cells.toList 0 x.w
    (λj hj=>by rw[cell_of_heap q1 (by have:=hin j ae;omega)];rfl)
    (λj hj=>by
      have:=q3 (base+i*k+o'+0+j) (by have:=hin j ae;omega);simp only[World.frozen?,q1];simp only[eJ,bR];omega)
    (λv hv=>by
      obtain⟨j,hj,rfl⟩:=List.mem_iff_getElem.1 hv;rw[<-xM _ j undef hj,bT];exact(c2 j ae).1)
   simp only[Nat.add_zero]at hst;obtain⟨c',s1,s2,s3⟩:=mi b (ev q).cells.toList (base+i*k+o') x.w c T fr q1 (by have:=hin (C.P.cellsOf t-1) ae;omega);obtain⟨f1,f2,f3,f4⟩:=ll b (ev q).cells.toList (base+i*k+o') x.w
   let w':=x.w.setCells b (base+i*k+o') (ev q).cells.toList
   have hother:∀b',b'≠b->w'.heap[b']? =x.w.heap[b']? :=λb' hb'=>lq b _ _ _ b' hb'
   have hstep:Step x ⟨w',x.I,x.β⟩:=by
    refine⟨f1,f2,f3,by show _<=w'.heap.size;rw[f4];exact aR _,λ_ h=>h,λb' hb'=>hother b' (λe=>hnI (e▸hb')),λ_ _ h=>h,λb' _ hn=>hother b' (λe=>hn l _ hβ e.symm),λ_ h=>.inl h,λ_ _ h=>.inl h⟩
   let es':=(aK m l).set i (tj ((aK m l).getD i .any) k (C.P.cellsOf t) o' (J u).d)
   have hle:=hstep.le

   have hel:(tj ((aK m l).getD i .any) k (C.P.cellsOf t) o' (J u).d).cells.length=k/\∀j,j<k->
     (tj ((aK m l).getD i .any) k (C.P.cellsOf t) o' (J u).d).cells.getD j .any=if o'<=j/\j<o'+C.P.cellsOf t then(J u).d.cells.getD (j-o') .any else((aK m l).getD i .any).cells.getD j .any:=by
    unfold tj;have hkl:=(q4 i hi).1;cases hnk:((C.P.cellsOf t==k)&&((J u).d.isAgg ||!((aK m l).getD i .any).isAgg))
    .simp only[cond_false];refine⟨(ZX _ _ _ ae).trans hkl,λj hj=>?_⟩;rw[<-k3];exact VD _ _ _ ae _ _
    .simp only[aD,beq_iff_eq]at hnk;have hnk:=hnk.1;simp only[cond_true];refine⟨ae,λj hj=>?_⟩;have:o'=0:=ae;subst this;rw[ak ae];simp
   have hblk:pH C.ν ⟨w',x.I,x.β⟩ b base tot (.buf k es'):=by
    refine⟨hk0,by simp[es'];omega,c',T,fr,s1,ae,λo'' ho''=>q3 o'' ae,λi' hi'=>?_⟩;have hi2:i'<(aK m l).length:=by simpa[es']using hi'
    by_cases e:i'=i
    .subst e;have hg:es'.getD i' .any=tj ((aK m l).getD i' .any) k (C.P.cellsOf t) o' (J u).d:=by simp[es',List.getD,List.getElem?_set,hi2]
     rw[hg];refine⟨hel.1,λj hj=>?_⟩;rw[hel.2 j hj,s3];by_cases hj2:o'<=j/\j<o'+C.P.cellsOf t
     .rw[ak ae,ak hj2,show base+i'*k+j-(base+i'*k+o')=j-o' by omega,bT];have:=c2 (j-o') ae;exact⟨this.1,this.2.mono hle⟩
     .rw[ah ae,ah hj2];exact⟨((q4 i' hi2).2 j hj).1,((q4 i' hi2).2 j hj).2.mono hle⟩
    .have hg:es'.getD i' .any=(aK m l).getD i' .any:=by simp[es',List.getD,List.getElem?_set,show ¬i=i' by omega]
     rw[hg];refine⟨(q4 i' hi2).1,λj hj=>?_⟩;rw[s3];have hne:¬(base+i*k+o'<=base+i'*k+j/\base+i'*k+j<base+i*k+o'+(ev q).cells.toList.length):=by
      rw[hnl];rcases dX i' i with hlt|hge
      .have:(i'+1)*k<=i*k:=fU _ hlt;rw[Nat.succ_mul]at this;omega
      .have:(i+1)*k<=i'*k:=fU _ ae;rw[Nat.succ_mul]at this;omega
     rw[ah hne];exact⟨((q4 i' hi2).2 j hj).1,((q4 i' hi2).2 j hj).2.mono hle⟩
   refine⟨undef,⟨w',x.I,x.β⟩,.inr ⟨?_,rfl⟩,hstep,.any _, ?_,λ_ _=>rfl⟩
   .have hsz:(ev q).cells.size=C.P.cellsOf t:=ae;simp[execOp,ho,hep,Instr.storeAt,Instr.sureAddr,storeVar,dL hce,hsz,hat,hst,w']
   .have haf:∀l',jg f ((aA.st (C.P.cellsOf t) s u).wr J L) ((aA.st (C.P.cellsOf t) s u).bS Y J m L) l'=jI f l (some (.buf k es')) l':=by
     intro l';simp only[jg,aA.wr,hd,cq,aA.bS,aF,bO,jI,es'];by_cases e:l'=l
     .rw[ak e,ak e,ak e]
     .rw[ah e,ah e]
    refine⟨λl' blk b' base' tot' e1 e2=>?_,λl1 l2 b' base' tot' base'' tot'' e1 e2 e3 e4=>?_,λb' hb'=>by show b'<w'.heap.size;rw[f4];exact hs.imm b' hb',λl' b' base' tot' e=>by show b'<w'.heap.size;rw[f4];exact hs.er l' b' base' tot' e,rQ hle hs.gd⟩
    .rw[haf]at e1;by_cases e:l'=l
     .subst e;simp only[jI,br,aG]at e1;subst e1;have e2':x.β l'=some (b',base',tot'):=e2;rw[hβ]at e2';simp only[aG,dm]at e2';obtain⟨rfl,rfl,rfl⟩:=e2';exact⟨hnI,hblk⟩
     .simp only[jI,e,ba]at e1;obtain⟨a1,a2⟩:=hs.own l' blk b' base' tot' e1 e2;refine⟨a1,a2.mono hle (hother b' (λeb=>?_))⟩;subst eb;exact e (hs.inj l' l b' base' tot' base tot (by rw[e1];simp) (by rw[g1];simp) e2 hβ)
    .rw[haf]at e1 e2;refine hs.inj l1 l2 b' base' tot' base'' tot'' ?_ ?_ e3 e4
     .by_cases e:l1=l
      .rw[e,g1];simp
      .simpa[jI,e]using e1
     .by_cases e:l2=l
      .rw[e,g1];simp
      .simpa[jI,e]using e2
 .cases hc
end
end
section
variable [cO]
section
variable {x:X}{f:Nat->Χ}{C:CC}{defs:Ζ}{J:Src->a7}{ev:Operand->Value}{Y:Ctx}{m:Γ}{L:Nat}
theorem B0 (f:Nat->Χ)(m:Γ)(L:Nat)(b:bo):∀l,jg f [L] (cW m L b) l=jI f L (some b) l:=by
 grind [jg,bO,jI]
theorem V9 {d:D}(hz:RD C.ν x z d)(hk:d.cells.length=k)(hk0:k≠0)(n i j:Nat)(hi:i<n)(hj:j<k):
  (((Array.range (n*k)).map (z.cells[· %z.cells.size]!)).getD (i*k+j) undef)=z.cells.getD j undef:=by
 obtain⟨c1,_⟩:=hz.cells ae;have hlt:=kY hi hj;have hm:(i*k+j)%k=j:=by rw[Nat.mul_comm,Nat.mul_add_mod];exact Nat.mod_eq_of_lt hj
 simp[Array.getD,hlt,c1,hk,hm,show j<k from hj]
def ZP {o:Oper}{i:aA}{p:Operand}(hc:C.op defs o=some i)(ho:o.op=.range t p)(hρ:vS C defs J ev x o.op.operands.toList)(hob:i.eO Y J m)(hs:fO C.ν x f)(hL:x.β L=none):
  BY C.ν x (jg f (i.wr J L) (i.bS Y J m L)) L (i.val Y J m L) ((execOp ev o).run C.P x.w):=by
 simp only[CC.op,ho]at hc;split at hc
 .rename_i s hu h1;simp only[aG]at hc;subst hc;obtain⟨k1,k2⟩:=hob;have hv:=hρ p dE s h1 k1;cases hd:(J s).d<;>simp only[hd]at k2;rename_i b;rw[hd]at hv;obtain⟨e1,e2⟩:=hv.ke;have e:(aA.rng s).bS Y J m L=cW m L (.iter b 0):=by simp[aA.bS,hd]
  rw[e];refine pk (tot:=0) (blk:=.iter b 0) hs hL (iE.alloc x.w (.stringIter ⟨⟨b⟩⟩ 0)) aJ ⟨ee x.w _,e2⟩ (.it L x.w.heap.size 0 0 nV) ?_ (B0 f m L _);simp[execOp,ho,e1,Instr.range,run_underlying hu]
 .cases hc
def aln {o:Oper}{i:aA}{s d:TypeId}{p:Operand}{a:Src}(hc:C.op defs o=some (.s2b a))(ho:o.op=.convert s d p)(hρ:vS C defs J ev x o.op.operands.toList)(hob:(aA.s2b a).eO Y J m)(hs:fO C.ν x f)(hL:x.β L=none):
  BY C.ν x (jg f ((aA.s2b a).wr J L) ((aA.s2b a).bS Y J m L)) L ((aA.s2b a).val Y J m L) ((execOp ev o).run C.P x.w):=by
 simp only[CC.op,ho]at hc;split at hc
 .simp at hc
 .rename_i eT a' hu1 hu2 h1;split at hc
  .rename_i hue;simp only[aG,aA.s2b.injEq]at hc;subst hc;obtain⟨k1,k2⟩:=hob;have hv:=hρ p dE a' h1 k1;cases hd:(J a').d<;>simp only[hd]at k2;rename_i b;rw[hd]at hv;obtain⟨e1,e2⟩:=hv.ke;have e:(aA.s2b a').bS Y J m L=cW m L (.buf 1 (b.map λq=>.int .u8 q.toNat)):=by simp[aA.bS,hd]
   rw[e];have hsz:(⟨⟨b⟩⟩:ByteArray).size=b.length:=rfl
   let cap:=grownCap x.w b.length 0 eT
   have hcap:b.length<=cap:=grownCap_ge x.w b.length 0 eT;have hcm:cap<=maxLen:=grownCap_le_maxLen x.w b.length 0 eT e2
   let row:=bytesRow ⟨⟨b⟩⟩ cap
   have hrs:row.size=cap:=by simp[row,bytesRow,hsz];show b.length+(cap-b.length)=cap;omega
   have hrun:=run_bytes_of_string (P:=C.P) x.w s d eT ⟨⟨b⟩⟩ hu1 hu2 hue;have hgrow:iE x.w (x.w.drew.alloc (.cells row eT (row.size,row.size+1))):=(iE.drew x.w).trans (iE.alloc x.w.drew _);have hnew:(x.w.drew.alloc (.cells row eT (row.size,row.size+1))).heap[x.w.heap.size]? =some (.cells row eT (row.size,row.size+1)):=ee x.w.drew _;have hget:∀i,i<b.length->row.getD i undef=.int .u8 (b.getD i 0).toNat:=by
    intro i hi;have e3:(b.map λq=>Value.int .u8 q.toNat).getD i undef=.int .u8 (b.getD i 0).toNat:=by simp[List.getD,hi]
    rw[<-e3,<-bT];simp[row,bytesRow,List.getD,List.getElem?_append,hi]
   refine pk (v:=.slice (some ⟨x.w.heap.size,0,none⟩) b.length cap) (tot:=cap) (blk:=bo.buf 1 (List.map (λq:UInt8=>D.int .u8 (q.toNat:Int)) b)) hs hL hgrow (by show _<(x.w.heap.push _).size;simp) ?_ ?_ ?_ (B0 f m L _)
   .refine xk (w':=x.w) (L:=L) _ hnew ae (by simpa using hcap) ae (λo' ho'=>fM) (λi hi=>?_);simp only[bj]at hi;have hg:(b.map λq=>D.int .u8 q.toNat).getD i .any=.int .u8 (b.getD i 0).toNat:=by simp[List.getD,hi]
    rw[hg];refine⟨rfl,λj hj=>?_⟩;have:j=0:=ae;subst this;rw[show i*1+0=i by omega,hget i hi];exact⟨rfl,.int _ _⟩
   .simp only[aA.val,hd];exact .own L 1 0 b.length x.w.heap.size 0 cap cap ⟨x.w.heap.size,0,none⟩ nV (λ_=>aJ) hcap hcm ae
   .simp only[execOp,ho,e1,Sem.run_bind,hrun,Result.andThen_ok,Sem.run_pure];rfl
  .cases hc
 .split at hc
  .simp at hc
  .cases hc
 .cases hc
def alh {o:Oper}{s d:TypeId}{p:Operand}{a:Src}(hc:C.op defs o=some (.b2s a))(ho:o.op=.convert s d p)(hρ:vS C defs J ev x o.op.operands.toList)(hob:(aA.b2s a).eO Y J m)(hs:fO C.ν x f)(hag:FA f m ((aA.b2s a).nB J)):
  BY C.ν x (jg f ((aA.b2s a).wr J L) ((aA.b2s a).bS Y J m L)) L ((aA.b2s a).val Y J m L) ((execOp ev o).run C.P x.w):=by
 have haf:jg f ((aA.b2s a).wr J L) ((aA.b2s a).bS Y J m L)=f:=by funext l;simp[jg,aA.wr]
 rw[haf];simp only[CC.op,ho]at hc;split at hc
 .simp at hc
 .split at hc
  .simp at hc
  .cases hc
 .rename_i eT a' hu1 hu2 h1;split at hc
  .rename_i hue;simp only[aG,aA.b2s.injEq]at hc;subst hc;obtain⟨k1,k2,k3,k4⟩:=hob;have hv:=hρ p dE a' h1 k1;have hd1:C.P.underlying d=some .string:=hu2;have hconv:∀b l c,ev p=.slice b l c->(execOp ev o).run C.P x.w=((Conv.bytesToString (.slice b l c)).run C.P x.w).andThen λv w'=>.ok (.value v) w':=by
    intro b l c he;simp only[execOp,ho,he,Sem.run_bind,run_convert_bytes_string x.w s d eT b l c hu1 hue hu2,Sem.run_pure]
   have key:∀(aa:Addr) (len cap:Nat) (es:Θ),es.length=len->(∀e∈es,e.Vb)->len<=maxLen->(∀i,i<len->∃v,x.w.cell? ⟨aa.block,aa.off+i,none⟩=some v/\RD C.ν x v (es.getD i .any))->(0<len->aa.spot=none)->
     ev p=.slice (some aa) len cap->BY C.ν x f L (.str (es.map D.u8)) ((execOp ev o).run C.P x.w):=by
    intro aa len cap es hlen hu8 hm hcell hspot he;have hv':∀i,i<len->∃n,es.getD i .any=.int .u8 n/\0<=n/\n<256:=by
     intro i hi;have hmem:=hu8 (es.getD i .any) Ll;cases hg:es.getD i .any<;>simp only[hg,D.Vb]at hmem;obtain⟨rfl,h1,h2⟩:=hmem;exact⟨_,rfl,h1,h2⟩
    let ns:Δ:=es.map λe=>match e with| .int _ n=>n|_=>0
    have hload:(loadCells aa len).run C.P x.w=.ok (ns.map (Value.int .u8)).toArray x.w:=by
     have:=run_loadCells (P:=C.P) x.w aa len (λj=>.int .u8 (ns.getD j 0)) (λj hj=>by
      obtain⟨v,c1,c2⟩:=hcell j hj;obtain⟨n,g1,_,_⟩:=hv' j hj;have hn:ns.getD j 0=n:=by
       rw[xM _ _ _ ae]at g1;simp[ns,List.getD,show j<es.length by omega,g1]
      rw[hn];rw[g1]at c2;rw[<-c2.dz,<-c1];have hsp:=hspot ae;congr 1;obtain⟨ab,ao,aHa⟩:=aa;simp only at hsp;subst hsp;rw[Addr.Bq])
     rw[this];congr 2;apply List.ext_getElem
     .simp[ns,hlen]
     .intro i h1 h2;simp at h1 h2;simp[List.getD,ns,show i<es.length by omega]
    refine om hs (v:=.string ⟨⟨es.map D.u8⟩⟩) ?_ (.str _ fM);rw[hconv _ _ _ he,run_bytesToString x.w aa len cap ns hload];simp only[Result.andThen_ok];congr 3;have hfold:∀(l:Δ) (s0:ByteArray),l.foldl (λr n=>r.push (UInt8.ofNat n.toNat)) s0=⟨⟨s0.data.toList++l.map λn=>UInt8.ofNat n.toNat⟩⟩:=by
     intro l;induction l with
     |nil=>intro s0;simp
     |cons n r ih=>
      intro s0;rw[List.foldl_cons,ih];congr 2;simp[ByteArray.push]
    rw[hfold];have e0:(ByteArray.empty.data.toList:Ω)=[]:=rfl;rw[e0,rH];congr 2;simp only[ns,List.map_map];apply List.map_congr_left;intro e he';have:=hu8 e he';cases e<;>simp only[D.Vb]at this;rfl
   cases hd:(J a').d<;>simp only[hd,CS]at k2 k3 k4
   ·
    rw[hd]at hv;simp only[aA.val,hd,qO,List.map_nil];generalize hep:ev p=vp at hv;cases hv;refine om hs (v:=.string ⟨⟨[]⟩⟩) ?_ (.str _ aJ);rw[hconv _ _ _ hep];rfl
   .rename_i k es;rw[hd]at hv;simp only[aA.val,hd,qO];simp only[qO]at k4;subst k3;generalize hep:ev p=vp at hv;cases hv with
    |sl aa b off len cap _ _ c hlen ha hcap hm hk hn hcc hone hh=>
     by_cases he0:es=[]
     .subst he0;simp at hlen;subst hlen;refine om hs (v:=.string ⟨⟨[]⟩⟩) ?_ (.str _ aJ);rw[hconv _ _ _ hep];cases aa with
      |none=>rfl
      |some aa=>
       rw[run_bytesToString x.w aa 0 cap [] (by simp[loadCells,loadCellsFrom])];rfl
     .rcases ha with h|⟨rfl,hI⟩
      .exact absurd h he0
      .refine key _ len cap es hlen.symm k4 ae (λi hi=>⟨c i 0,by have:=hcc i 0 hi ae;simpa using this, ?_⟩) (λ_=>rfl) hep;have:=hh i 0 hi ae;have hk1:=hk i hi;cases hg:es.getD i .any<;>rw[hg]at this hk1<;>simp only[D.cells,cj,bJ]at hk1 this<;>first|omega|exact this|skip
       rename_i cs;have hmem:=k4 (es.getD i .any) Ll;rw[hg]at hmem;simp[D.Vb]at hmem
   .rename_i l k i n;rw[hd]at hv;simp only[aA.val,hd,qO];simp only[qO]at k4;obtain⟨k5,k6⟩:=k3;subst k5;generalize hep:ev p=vp at hv;cases hv with
    |own _ _ _ _ b base tot cap aa hβ ha hcap hm ht=>
     obtain⟨g1,g2,g3⟩:=vU hs (hag l (by simp[hd,cq])) k6;obtain⟨hnI,hk0,ht',c,T,fr,q1,q2,q3,q4⟩:=hs.own l _ b base tot g1 hβ;have hlen:(((aK m l).drop i).take n).length=n:=ik _ _ _ g2;refine key aa n cap _ hlen k4 ae (λj hj=>?_) (λh=>by rw[ha ae]) hep;have ha':=ha ae;subst ha';have hij:i+j<(aK m l).length:=ae;refine⟨c.getD (base+(i+j)*1+0) undef, ?_, ?_⟩
     .rw[show base+i*1+j=base+(i+j)*1+0 by omega];exact cell_of_heap q1 ae
     .rw[ez _ _ _ _ _ hj];have:=((q4 (i+j) hij).2 0 ae).2;have hk1:=(q4 (i+j) hij).1;cases hg:(aK m l).getD (i+j) .any<;>rw[hg]at this hk1<;>simp only[D.cells,cj,bJ]at hk1 this<;>first|omega|exact this|skip
      rename_i cs;have hmem:=k4 ((((aK m l).drop i).take n).getD j .any) Ll;rw[ez _ _ _ _ _ hj,hg]at hmem;simp[D.Vb]at hmem
    |own0 _ _ _ a0=>
     simp only[List.take_zero,List.map_nil];refine om hs (v:=.string ⟨⟨[]⟩⟩) ?_ (.str _ aJ);rw[hconv _ _ _ hep];cases a0<;>rfl
  .cases hc
 .cases hc
def ae6 {o:Oper}{i:aA}{p:Operand}(hc:C.op defs o=some i)(ho:o.op=.next p true)(hρ:vS C defs J ev x o.op.operands.toList)(hob:i.eO Y J m)(hs:fO C.ν x f)(hag:FA f m (i.nB J)):
  BY C.ν x (jg f (i.wr J L) (i.bS Y J m L)) L (i.val Y J m L) ((execOp ev o).run C.P x.w):=by
 simp only[CC.op,ho,df]at hc;obtain⟨s,h1,rfl⟩:=hc;obtain⟨k1,k2⟩:=hob;have hv:=hρ p dE s h1 k1;cases hd:(J s).d<;>simp only[hd]at k2;rename_i l;rw[hd]at hv;cases hl:look m l with
 |none=>simp[hl]at k2
 |some blk=>
  cases blk with
  |buf k es=>simp[hl]at k2
  |row s=>simp[hl]at k2
  |bld o n u=>simp[hl]at k2
  |mpb s=>simp[hl]at k2
  |iter b pos=>
   have hfl:f l=some (.iter b pos):=by rw[<-hl];exact hag l (by simp[hd,cq])
   generalize hep:ev p=vp at hv;cases hv with
   |it _ bb base tot hβ=>
    obtain⟨hnI,hb1,pw⟩:=hs.own l _ bb base tot hfl hβ;have hlt:=hs.er l bb base tot hβ;by_cases hp:pos<b.length
    .have hsz:(⟨⟨b⟩⟩:ByteArray).size=b.length:=rfl
     let w':World:={x.w with heap:=x.w.heap.setIfInBounds bb (.stringIter ⟨⟨b⟩⟩ (pos+(y9 b pos).2))}
     have hother:∀b',b'≠bb->w'.heap[b']? =x.w.heap[b']? :=λb' hb'=>by simp[w',Array.getElem?_setIfInBounds,show ¬bb=b' by omega]
     have hhere:w'.heap[bb]? =some (.stringIter ⟨⟨b⟩⟩ (pos+(y9 b pos).2)):=by simp[w',hlt]
     have hsize:w'.heap.size=x.w.heap.size:=by simp[w']
     have hstep:Step x ⟨w',x.I,x.β⟩:=
      ⟨rfl,rfl,rfl,by show _<=w'.heap.size;omega,λ_ h=>h,λb' hb'=>hother b' (λe=>hnI (e▸hb')),λ_ _ h=>h,λb' _ hn=>hother b' (λe=>hn l _ hβ e.symm),λ_ h=>.inl h,λ_ _ h=>.inl h⟩
     have haf:∀l',jg f ((aA.aU s).wr J L) ((aA.aU s).bS Y J m L) l'=jI f l (some (.iter b (pos+(y9 b pos).2))) l':=by
      intro l';simp only[jg,aA.wr,hd,cq,aA.bS,hl,hp,decide_true,cond_true,aF,bO,jI];by_cases e:l'=l
      .rw[ak e,ak e,ak e]
      .rw[ah e,ah e]
     refine⟨.tuple #[.bool true,.int .i64 pos,.int .i32 (y9 b pos).1],⟨w',x.I,x.β⟩,.inl ?_,hstep, ?_, ?_,λ_ _=>rfl⟩
     .have hobj:(getObj bb).run C.P x.w=.ok (.stringIter ⟨⟨b⟩⟩ pos) x.w:=by simp[getObj,Sem.run,hb1]
      have hset:∀ob:Obj,(setObj bb ob).run C.P x.w=.ok () {x.w with heap:=x.w.heap.setIfInBounds bb ob}:=by intro ob;simp[setObj,Sem.run,hb1]
      simp[execOp,ho,hep,Instr.next,hobj,hsz,hp,hset,goInt,y9,w']
     .simp only[aA.val,hd,hl,hp,decide_true,cond_true];refine .tup _ _ aJ (λi hi=>?_);simp at hi
      match i,hi with
      |0,_=>simpa using RD.bool true
      |1,_=>simpa using RD.int .i64 pos
      |2,_=>simpa using RD.int .i32 (y9 b pos).1
     .refine⟨λl' blk b' base' tot' e1 e2=>?_,λl1 l2 b' base' tot' base'' tot'' e1 e2 e3 e4=>?_,λb' hb'=>by show b'<w'.heap.size;rw[hsize];exact hs.imm b' hb',λl' b' base' tot' e=>by show b'<w'.heap.size;rw[hsize];exact hs.er l' b' base' tot' e,rQ hstep.le hs.gd⟩
      .rw[haf]at e1;by_cases e:l'=l
       .subst e;simp only[jI,br,aG]at e1;subst e1;have e2':x.β l'=some (b',base',tot'):=e2;rw[hβ]at e2';simp only[aG,dm]at e2';obtain⟨rfl,rfl,rfl⟩:=e2';exact⟨hnI,hhere,pw⟩
       .simp only[jI,e,ba]at e1;obtain⟨a1,a2⟩:=hs.own l' blk b' base' tot' e1 e2;refine⟨a1,a2.mono hstep.le (hother b' (λeb=>?_))⟩;subst eb;exact e (hs.inj l' l b' base' tot' base tot (by rw[e1];simp) (by rw[hfl];simp) e2 hβ)
      .rw[haf]at e1 e2;refine hs.inj l1 l2 b' base' tot' base'' tot'' ?_ ?_ e3 e4
       .by_cases e:l1=l
        .rw[e,hfl];simp
        .simpa[jI,e]using e1
       .by_cases e:l2=l
        .rw[e,hfl];simp
        .simpa[jI,e]using e2
    .have haf:jg f ((aA.aU s).wr J L) ((aA.aU s).bS Y J m L)=f:=by
      funext l';simp only[jg,aA.wr,hd,cq,aA.bS,hl,hp,decide_false,cond_false,aF];by_cases e:l'=l
      .rw[ak e,e,hl,hfl]
      .rw[ah e]
     rw[haf];refine om hs (v:=.tuple #[.bool false]) ?_ ?_
     .have hsz:(⟨⟨b⟩⟩:ByteArray).size=b.length:=rfl;have hobj:(getObj bb).run C.P x.w=.ok (.stringIter ⟨⟨b⟩⟩ pos) x.w:=by simp[getObj,Sem.run,hb1]
      simp[execOp,ho,hep,Instr.next,hobj,hsz,hp]
     .simp only[aA.val,hd,hl,hp,decide_false,cond_false];refine .tup _ _ aJ (λi hi=>?_);simp at hi;subst hi;simpa using RD.bool false
def Av {k n:Nat}{os':Lai}(hρ:vS C defs J ev x os')(hk0:k≠0):∀(ps:List (Nat×Operand)) (ss:Lac),(∀p∈ps,p.2∈os')->C.zI defs ps=some ss->qW J k n ss->
  ∀(cs:Κ) (es:Θ),cs.size=n*k->es.length=n->
   (∀i,i<n->(es.getD i .any).cells.length=k/\∀j,j<k->(cs.getD (i*k+j) undef).oneCell'=true/\RD C.ν x (cs.getD (i*k+j) undef) ((es.getD i .any).cells.getD j .any))->
  ∃cs',Instr.fill (λi=>some (i*k,k)) cs (ps.map fun(i,o)=>(i,ev o))=some cs'/\cs'.size=n*k/\(my J es ss).length=n/\
   ∀i,i<n->((my J es ss).getD i .any).cells.length=k/\∀j,j<k->(cs'.getD (i*k+j) undef).oneCell'=true/\RD C.ν x (cs'.getD (i*k+j) undef) (((my J es ss).getD i .any).cells.getD j .any)
 |[],ss,_,h,_,cs,es,h1,h2,h3=>by simp[CC.zI]at h;subst h;exact⟨cs,by simp[Instr.fill],h1,by simpa[my]using h2,by simpa[my]using h3⟩
 |(i,o)::r,ss,hm,h,hk,cs,es,h1,h2,h3=>by
  simp only[CC.zI]at h;split at h
  .rename_i s l g1 g2;simp only[aG]at h;subst h;simp only[qW]at hk;obtain⟨k1,k2,k3,k4⟩:=hk;have hv:=hρ o (hm _ (.head _)) s g1 k2;obtain⟨c1,c2⟩:=hv.cells ae;have hsz:(ev o).cells.size=k:=ae;have hb:i*k+k<=n*k:=by rw[<-Nat.succ_mul];exact fU _ k1
   obtain⟨f1,f2⟩:=C7 (i*k) (ev o).cells.toList 0 cs fM
   let cs1:Κ:=((ev o).cells.toList.zipIdx 0).foldl (λcs (c,j)=>cs.setIfInBounds (i*k+j) c) cs
   have hcs1:(ev o).cells.zipIdx.foldl (λcs (c,j)=>cs.setIfInBounds (i*k+j) c) cs=cs1:=by
    rw[<-Array.foldl_toList];simp[cs1]
   have hget:∀q,cs1.getD q undef=if i*k<=q/\q<i*k+k then(ev o).cells.getD (q-i*k) undef else cs.getD q undef:=by
    intro q;have:=f2 q;rw[<-bT,<-bT cs,<-bT (ev o).cells];simp only[List.getD,Array.getElem?_toList];rw[show cs1[q]? =_ from this];simp only[Array.length_toList,hsz,Nat.add_zero];split
    .simp
    .rfl
   have hel:∀i',i'<n->((es.set i (J s).d).getD i' .any)=if i'=i then(J s).d else es.getD i' .any:=by
    intro i' hi';by_cases e:i'=i
    .subst e;simp[List.getD,List.getElem?_set,show i'<es.length by omega]
    .simp[List.getD,List.getElem?_set,show ¬i=i' by omega,e]
   obtain⟨cs',r1,r2,r3,r4⟩:=Av hρ hk0 r l (λp hp=>hm p (.tail _ hp)) g2 k4 cs1 (es.set i (J s).d) (f1.trans h1) (by simpa using h2) (λi' hi'=>by
    rw[hel i' hi'];by_cases e:i'=i
    .subst e;rw[ak rfl];refine⟨k3,λj hj=>?_⟩;rw[hget,ak ae,show i'*k+j-i'*k=j by omega];exact c2 j ae
    .rw[ah e];refine⟨(h3 i' hi').1,λj hj=>?_⟩;have hne:¬(i*k<=i'*k+j/\i'*k+j<i*k+k):=by
      rcases dX i' i with hlt|hge
      .have:(i'+1)*k<=i*k:=fU _ hlt;rw[Nat.succ_mul]at this;omega
      .have:(i+1)*k<=i'*k:=fU _ ae;rw[Nat.succ_mul]at this;omega
     rw[hget,ah hne];exact(h3 i' hi').2 j hj)
   refine⟨cs', ?_,r2,by simpa[my]using r3,by simpa[my]using r4⟩;simp only[List.map_cons,Instr.fill];rw[ah (by simp[hsz];omega),hcs1];exact r1
  .cases h
theorem GY {d:D}(hz:RD C.ν x z d)(hk:d.cells.length=k)(hk0:k≠0):
  ∀i,i<n->((List.replicate n d).getD i .any).cells.length=k/\∀j,j<k->(((Array.range (n*k)).map (z.cells[· %z.cells.size]!)).getD (i*k+j) undef).oneCell'=true/\RD C.ν x (((Array.range (n*k)).map (z.cells[· %z.cells.size]!)).getD (i*k+j) undef) (((List.replicate n d).getD i .any).cells.getD j .any):=by
 intro i hi;obtain⟨_,c2⟩:=hz.cells ae
 grind [V9]
def ali {o:Oper}{i:aA}{ps:Array (Nat×Operand)}(hc:C.op defs o=some i)(ho:o.op=.buildSlice t n ps)(hρ:vS C defs J ev x o.op.operands.toList)(hob:i.eO Y J m)(hs:fO C.ν x f)(hL:x.β L=none):
  BY C.ν x (jg f (i.wr J L) (i.bS Y J m L)) L (i.val Y J m L) ((execOp ev o).run C.P x.w):=by
 simp only[CC.op,ho]at hc;split at hc
 .rename_i e hu;split at hc
  .rename_i z l hz h1;split at hc
   .cases hc
   rename_i hce;simp only[aG]at hc;subst hc;obtain⟨k1,k2⟩:=hob;obtain⟨ti,v,hi,hzv,hr⟩:=qF (x:=x) hz;have hce0:C.P.cellsOf e≠0:=λh=>hce (.inl h)
   have hsz:ti.size=C.P.cellsOf e:=by simp[Program.cellsOf,hi]
   have hsmall:¬n*ti.size>2^24:=λh=>hce (.inr (by rw[hsz]at h;simpa using h))
   obtain⟨cs',r1,r2,r3,r4⟩:=Av hρ hce0 ps.toList l (λp hp=>Li) h1 k2 ((Array.range (n*C.P.cellsOf e)).map (v.cells[· %v.cells.size]!)) (List.replicate n z) aJ aJ (GY hr k1 hce0);have hgrow:=iE.alloc x.w (.cells cs' e);have hle:=Ic (tot:=n) hs hgrow hL;have he:(aA.bsl (C.P.cellsOf e) z n l).bS Y J m L=cW m L (bo.buf (C.P.cellsOf e) (my J (List.replicate n z) l)):=rfl;rw[he];have hrun:(Instr.buildSlice t n (ps.map fun(i,x)=>(i,ev x))).run C.P x.w=.ok (.slice (some ⟨x.w.heap.size,0,none⟩) n n) (x.w.alloc (.cells cs' e)):=by
    by_cases hn:n=0
    .subst hn;have hcs0:cs'=#[]:=Array.eq_empty_of_size_eq_zero (by simpa using r2);have hps:ps.toList=[]:=by
      cases hp:ps.toList with
      |nil=>rfl
      |cons q r=>
       rw[hp]at h1;obtain⟨i0,o0⟩:=q;simp only[CC.zI]at h1;split at h1
       .rename_i s' l' _ _;simp only[aG]at h1;subst h1;simp[qW]at k2
       .cases h1
     have hps':ps=#[]:=by apply Array.ext';simpa using hps
     subst hps';simp[Instr.buildSlice,run_underlying hu,sizeOf,typeInfo,hi,Instr.fill,newRow,hcs0,show Array.range 0=#[]from rfl]
    .refine run_buildSlice x.w t e n _ cs' ti v hu hi hzv hsmall ?_ ?_
     .rw[hsz];intro h0;rcases Nat.mul_eq_zero.1 h0 with h|h
      .exact hn h
      .exact hce0 h
     .rw[hsz,Array.toList_map];exact r1
   refine pk (v:=.slice (some ⟨x.w.heap.size,0,none⟩) n n) (tot:=n) (blk:=bo.buf (C.P.cellsOf e) (my J (List.replicate n z) l)) hs hL hgrow aJ ?_ ?_ ?_ (B0 f m L _)
   .exact xk (w':=x.w) (L:=L) _ (ee x.w _) ae ae ae (λo' _=>aJ) (λi hi=>⟨(r4 i ae).1,λj hj=>⟨((r4 i ae).2 j hj).1,((r4 i ae).2 j hj).2.mono hle⟩⟩)
   .exact .own L (C.P.cellsOf e) 0 n x.w.heap.size 0 n n ⟨x.w.heap.size,0,none⟩ nV (λ_=>aJ) (aR _) (by have:n*1<=n*C.P.cellsOf e:=Nat.mul_le_mul_left _ ae;have h3:¬n*C.P.cellsOf e>16777216:=λh=>hce (.inr h);simp only[maxLen];omega) ae
   .simp only[execOp,ho,Sem.run_bind,hrun,Result.andThen_ok,Sem.run_pure]
  .cases hc
 .cases hc
def alm {o:Oper}{i:aA}{p:Operand}(hc:C.op defs o=some i)(ho:o.op=.makeSlice t p q)(hρ:vS C defs J ev x o.op.operands.toList)(hob:i.eO Y J m)(hs:fO C.ν x f)(hL:x.β L=none):
  BY C.ν x (jg f (i.wr J L) (i.bS Y J m L)) L (i.val Y J m L) ((execOp ev o).run C.P x.w):=by
 simp only[CC.op,ho]at hc;split at hc
 .rename_i e hu;split at hc
  .rename_i z ln cp hz h1 h2;split at hc
   .cases hc
   rename_i hce;simp only[aG]at hc;subst hc;obtain⟨k1,k2,k3,k4⟩:=hob;have hv:=hρ p dE ln h1 k1;have hw:=hρ q dE cp h2 k2;cases hd:(J ln).d<;>cases hd2:(J cp).d<;>simp only[hd,hd2]at k4;rename_i kk n kk' c;rw[hd]at hv;rw[hd2]at hw;obtain⟨ti,v,hi,hzv,hr⟩:=qF (x:=x) hz;have hce0:C.P.cellsOf e≠0:=λh=>hce (.inl h)
   have hsz:ti.size=C.P.cellsOf e:=by simp[Program.cellsOf,hi]
   have hby:ti.bytes<=65536:=by
    have:¬C.P.bytesOf e>65536:=λh=>hce (.inr h)
    simp[Program.bytesOf,hi]at this;omega
   have hbytes:(ti.bytes:Int)*c<=281474976710656:=by
    have h1:(ti.bytes:Int)*c<=65536*c:=Int.mul_le_mul_of_nonneg_right ae ae;have h2:(65536:Int)*c<=65536*1073741824:=Int.mul_le_mul_of_nonneg_left ae ae;omega
   have hrun:=run_make (P:=C.P) x.w t e ti v hu hi hzv kk kk' n c k4.1 k4.2.1 hbytes ae;rw[hsz]at hrun;have hgrow:=iE.alloc x.w (.cells (madeCells v.cells (c.toNat*C.P.cellsOf e)) e);have hle:=Ic (tot:=c.toNat) hs hgrow hL;have hrep:=GY (n:=c.toNat) hr k3 hce0;have hms:(madeCells v.cells (c.toNat*C.P.cellsOf e)).size=c.toNat*C.P.cellsOf e:=size_madeCells _ _;have he:(aA.mks (C.P.cellsOf e) z ln cp).bS Y J m L=cW m L (.buf (C.P.cellsOf e) (List.replicate n.toNat z)):=by simp[aA.bS,hd,D.nat]
   rw[he];refine pk (v:=.slice (some ⟨x.w.heap.size,0,none⟩) n.toNat c.toNat) (tot:=c.toNat) (blk:=.buf (C.P.cellsOf e) (List.replicate n.toNat z)) hs hL hgrow aJ ?_ ?_ ?_ (B0 f m L _)
   .refine xk (w':=x.w) (L:=L) _ (ee x.w _) ae fM ae (λo' _=>aJ) (λi hi=>?_);simp only[List.length_replicate]at hi;have:=hrep i ae;have e1:(List.replicate n.toNat z).getD i .any=(List.replicate c.toNat z).getD i .any:=by simp[List.getD,hi,show i<c.toNat by omega]
    rw[e1];refine⟨this.1,λj hj=>?_⟩;have h2:=this.2 j hj;have e2:(Array.range (c.toNat*C.P.cellsOf e)).map (v.cells[· %v.cells.size]!)=madeCells v.cells (c.toNat*C.P.cellsOf e):=rfl;rw[e2]at h2;exact⟨h2.1,h2.2.mono hle⟩
   .simp only[aA.val,hd,D.nat];exact .own L _ 0 n.toNat x.w.heap.size 0 c.toNat c.toNat ⟨x.w.heap.size,0,none⟩ nV (λ_=>aJ) ae (by simp only[maxLen];omega) ae
   .simp only[execOp,ho,hv.dz,hw.dz,Sem.run_bind,hrun,Result.andThen_ok,Sem.run_pure]
  .cases hc
 .cases hc
end
end
section
variable [cO]
def YY {k:TypeId}(h:PK P k=true):∃e,WideMaps.ArrKey P k e 2/\P.underlying e=some .string/\∃m,P.types.size=m+1:=by
 unfold PK at h;split at h
 .rename_i e hk;split at h
  .rename_i he;simp only[aD,beq_iff_eq,b8,beq_eq_false_iff_ne]at h;exact⟨e,⟨hk,by unfold Program.plainKey;rw[he],h.1,h.2.1⟩,he,P.types.size-1,ae⟩
  .cases h
 .cases h
def Vh {k e:TypeId}(A:WideMaps.ArrKey P k e 2)(he:P.underlying e=some .string)(hsz:∃m,P.types.size=m+1){a b:Ω}(wa:a.length<=maxLen)(wb:b.length<=maxLen):
  keyOf P k (.agg #[.string ⟨⟨a⟩⟩,.string ⟨⟨b⟩⟩])=some (.string (keyBytes [.string a,.string b])):=by
 have hkt:=A.keyType hsz;obtain⟨m,hm⟩:=hsz;unfold keyOf;simp only[A.hu];rw[ak (by simp[hkt,Value.formed,A.hu,A.size]),hm];unfold Program.keyLits;simp only[A.hu,Value.cells];rw[ak (by rw[A.size];rfl),show List.range 2=[0,1]from rfl,List.mapM_cons,List.mapM_cons,List.mapM_nil];simp[A.one,Program.keyLits,he,ByteArray.size,wa,wb]
def RD.key {x:X}{v:Value}{d:D}(h:RD ν x v d)(hk:wo d=true):∃a b,d=.agg [.str a,.str b]/\v=.agg #[.string ⟨⟨a⟩⟩,.string ⟨⟨b⟩⟩]/\a.length<=maxLen/\b.length<=maxLen:=by
 unfold wo at hk;split at hk
 .rename_i a b;refine⟨a,b,rfl, ?_⟩;cases h with
  |agg cs ds hl h1 h=>
   have e0:=h 0 aJ;have e1:=h 1 aJ;simp only[iZ,List.getD_cons_succ]at e0 e1;have hl2:cs.size=2:=hl;generalize hq:cs.getD 0 undef=q at e0;generalize hq2:cs.getD 1 undef=q2 at e1;cases e0 with
   |str _ ha=>
    cases e1 with
    |str _ hb=>
     refine⟨?_,ha,hb⟩;congr 1;apply Array.ext
     .simpa using hl2
     .intro i hi1 hi2;have hi:i=0\/i=1:=ae;rcases hi with rfl|rfl
      .simp[Array.getD,hi1]at hq;simpa using hq
      .simp[Array.getD,hi1]at hq2;simpa using hq2
 .cases hk
def oE (e:MapEntry)(es:List MapEntry)(j:Nat):Vq (e::es) (j+2)=Vq es j:=by
 unfold Vq;rw[show(j+2) /2=j/2+1 by omega,List.getElem?_cons_succ,show(j+2)%2=j%2 by omega]
def H7 {x:X}{v w:Value}{d e:D}(h1:RD ν x v d)(h2:RD ν x w e)(k1:wo d=true)(k2:wo e=true):qj d e=true↔v=w:=by
 obtain⟨a,b,rfl,rfl,_,_⟩:=h1.key k1;obtain⟨a',b',rfl,rfl,_,_⟩:=h2.key k2;simp only[qj,aD,beq_iff_eq];constructor
 .rintro⟨rfl,rfl⟩;rfl
 .intro h;injection h with h
  have h3:=ay Array.toList h;simp only[tw,Value.string.injEq,dP]at h3;obtain⟨p,q⟩:=h3;injection p with p;injection p with p
  injection q with q;injection q with q
  exact⟨p,q⟩
section
variable {x:X}{key:Value}{k:D}
def SW (hk:RD ν x key k)(hb:wo k=true):∀(es:List MapEntry) (kvs:Θ),xY kvs=true->2*es.length=kvs.length->(∀j,j<kvs.length->RD ν x (Vq es j) (kvs.getD j .any))->
  ((∀e∈es,e.key≠key)->OY k kvs=none)/\∀e∈es,e.key=key->(es.map (·.key)).Nodup->∃v,OY k kvs=some v/\RD ν x e.val v
 |[],[],_,_,_=>⟨λ_=>rfl,λe he=>by cases he⟩
 |e::es,a::v::r,ho,hl,h=>by
  simp only[xY,aD]at ho;have h0:RD ν x e.key a:=h 0 aJ;have h1:RD ν x e.val v:=h 1 aJ;obtain⟨i1,i2⟩:=SW hk hb es r ho.2 (by simp only[bJ]at hl;omega) λj hj=>by
   have:=h (j+2) uR;rw[oE]at this;simpa using this
  have he:=H7 h0 hk ho.1 hb;constructor
  .intro hn;have:qj a k=false:=by
    cases q:qj a k with
    |false=>rfl
    |true=>exact absurd (he.1 q) (hn e (.head _))
   simp only[OY,this,cond_false];exact i1 λe' h'=>hn e' (.tail _ h')
  .intro e' h' hkey hnd;simp only[List.map_cons,List.nodup_cons]at hnd;rcases bH.1 h' with rfl|h'
   .simp only[OY,he.2 hkey,cond_true];exact⟨v,rfl,h1⟩
   .have:qj a k=false:=by
     cases q:qj a k with
     |false=>rfl
     |true=>exact absurd (bI.2 ⟨e',h',hkey.trans (he.1 q).symm⟩) hnd.1
    simp only[OY,this,cond_false];exact i2 e' h' hkey hnd.2
 |_::_,[],_,hl,_=>by simp at hl
 |[],_::_,_,hl,_=>by simp at hl
 |_::es,[_],ho,hl,_=>by simp at hl;omega
def SX (hk:RD ν x key k)(hb:wo k=true){val:Value}{d:D}(cl:Nat)(hv:RD ν x val d):∀(es:List MapEntry) (kvs:Θ),xY kvs=true->2*es.length=kvs.length->(∀j,j<kvs.length->RD ν x (Vq es j) (kvs.getD j .any))->(∀e∈es,e.key≠key)->
  AK k d kvs=kvs++[k,d]/\∀j,j<(kvs++[k,d]).length->RD ν x (Vq (es++[⟨key,val,cl⟩]) j) ((kvs++[k,d]).getD j .any)
 |[],[],_,_,_,_=>⟨rfl,λj hj=>by
   have:j=0\/j=1:=by simp at hj;omega
   rcases this with rfl|rfl
   .exact hk
   .exact hv⟩
 |e::es,a::v::r,ho,hl,h,hn=>by
  simp only[xY,aD]at ho;have h0:RD ν x e.key a:=h 0 aJ;have h1:RD ν x e.val v:=h 1 aJ;obtain⟨i1,i2⟩:=SX hk hb cl hv es r ho.2 (by simp only[bJ]at hl;omega) (λj hj=>by
   have:=h (j+2) uR;rw[oE]at this;simpa using this) λe' h'=>hn e' (.tail _ h')
  have he:=H7 h0 hk ho.1 hb;have:qj a k=false:=by
   cases q:qj a k with
   |false=>rfl
   |true=>exact absurd (he.1 q) (hn e (.head _))
  refine⟨by simp only[AK,this,cond_false,i1];rfl,λj hj=>?_⟩
  match j,hj with
  |0,_=>exact h0
  |1,_=>exact h1
  |j+2,hj=>
   have:=i2 j (by simp only[cx,bJ,cj]at hj⊢;omega);rw[<-oE e]at this;simpa using this
 |_::_,[],_,hl,_,_=>by simp at hl
 |[],_::_,_,hl,_,_=>by simp at hl
 |_::es,[_],ho,hl,_,_=>by simp at hl;omega
def Zr (hk:RD ν x key k)(hb:wo k=true){val:Value}{d:D}(hv:RD ν x val d):∀(es:List MapEntry) (kvs:Θ) (i:Nat) (e:MapEntry),xY kvs=true->2*es.length=kvs.length->(∀j,j<kvs.length->RD ν x (Vq es j) (kvs.getD j .any))->(es.map (·.key)).Nodup->es[i]? =some e->e.key=key->
  (AK k d kvs).length=kvs.length/\∀j,j<kvs.length->RD ν x (Vq (es.modify i λe=>{e with key:=key,val:=val}) j) ((AK k d kvs).getD j .any)
 |[],_,i,e,_,_,_,_,hi,_=>by simp at hi
 |e0::es,a::v::r,0,e,ho,hl,h,hnd,hi,hkey=>by
  simp only[xY,aD]at ho;obtain rfl:e0=e:=by simpa using hi
  have h0:RD ν x e0.key a:=h 0 aJ;have he:=(H7 h0 hk ho.1 hb).2 hkey;refine⟨by simp only[AK,he,cond_true];rfl,λj hj=>?_⟩;simp only[AK,he,cond_true]
  match j,hj with
  |0,_=>rw[hkey]at h0;exact h0
  |1,_=>exact hv
  |j+2,hj=>
   have:=h (j+2) hj;rw[oE]at this;simp only[List.modify_zero_cons];rw[oE];simpa using this
 |e0::es,a::v::r,i+1,e,ho,hl,h,hnd,hi,hkey=>by
  simp only[xY,aD]at ho;simp only[List.map_cons,List.nodup_cons]at hnd;have hi':es[i]? =some e:=by simpa using hi
  have h0:RD ν x e0.key a:=h 0 aJ;have h1:RD ν x e0.val v:=h 1 aJ;obtain⟨i1,i2⟩:=Zr hk hb hv es r i e ho.2 (by simp only[bJ]at hl;omega) (λj hj=>by
   have:=h (j+2) uR;rw[oE]at this;simpa using this) hnd.2 hi' hkey
  have:qj a k=false:=by
   cases q:qj a k with
   |false=>rfl
   |true=>exact absurd (bI.2 ⟨e,List.mem_of_getElem? hi',hkey.trans ((H7 h0 hk ho.1 hb).1 q).symm⟩) hnd.1
  refine⟨by simp only[AK,this,cond_false,bJ,i1],λj hj=>?_⟩;simp only[AK,this,cond_false,List.modify_succ_cons]
  match j,hj with
  |0,_=>exact h0
  |1,_=>exact h1
  |j+2,hj=>
   have:=i2 j (by simp only[bJ]at hj;omega);rw[<-oE e0]at this;simpa using this
 |_::_,[],_,_,_,hl,_,_,_,_=>by simp at hl
 |_::es,[_],_,_,ho,hl,_,_,_,_=>by simp at hl;omega
end
section
variable {x:X}{f:Nat->Χ}{C:CC}{defs:Ζ}{J:Src->a7}{ev:Operand->Value}{Y:Ctx}{m:Γ}{L:Nat}
def tP {d:D}(h:mpO m d):∃l kvs,d=.fn 5000000 [.it l]/\look m l=some (.mpb kvs)/\xY kvs=true:=by
 unfold mpO at h;split at h
 .rename_i n l;obtain⟨rfl,h⟩:=h;split at h
  .rename_i kvs hl;exact⟨l,kvs,rfl,hl,h⟩
  .exact h.elim
 .exact h.elim
def RD.Ik (hsm:∀fid n,dV ν fid=some n->n<1000000){v:Value}(h:RD ν x v (.fn 5000000 [.it l])):∃b base tot,v=.map (some b)/\x.β l=some (b,base,tot):=by
 generalize hd:D.fn 5000000 [.it l]=d at h;cases h<;>simp only[reduceCtorEq,D.fn.injEq]at hd
 case fn fid n cs ds hν hl h=>have:=hsm _ _ hν;omega
 case er fid n cs ds hν hl h=>have:=hsm _ _ hν;omega
 case im l' b base tot hβ=>
  obtain⟨_,hd⟩:=hd;simp only[tw,D.it.injEq,dP]at hd;subst hd;exact⟨b,base,tot,rfl,hβ⟩
 all_goals (first|omega|(obtain⟨h1,_⟩:=hd;omega))
def alk {o:Oper}{i:aA}{r:Option Operand}(hc:C.op defs o=some i)(ho:o.op=.makeMap t r)(hρ:vS C defs J ev x o.op.operands.toList)(hob:i.eO Y J m)(hs:fO C.ν x f)(hL:x.β L=none):
  BY C.ν x (jg f (i.wr J L) (i.bS Y J m L)) L (i.val Y J m L) ((execOp ev o).run C.P x.w):=by
 cases r with
 |some r=>simp[CC.op,ho]at hc
 |none=>
  simp only[CC.op,ho]at hc;split at hc
  .split at hc
   .simp only[aG]at hc;subst hc;refine pk (tot:=1) (blk:=.mpb []) hs hL (iE.alloc x.w (.map #[] 0)) aJ ⟨rfl,#[],0,ee x.w _,rfl,aJ,λi hi=>by simp at hi⟩ (.im L x.w.heap.size 0 1 nV) ?_ (λl=>?_)
    .simp[execOp,ho,Instr.makeMap]
    .by_cases e:l=L
     .subst e;simp[jg,aA.wr,aA.bS,bO,jI]
     .simp[jg,aA.wr,e,jI]
   .cases hc
  .cases hc
def Il {kvs:Θ}(h:look m l=some (.mpb kvs)):Vp m (.fn 5000000 [.it l])=kvs:=by simp only[Vp,h]
def PR {k:TypeId}(h:PK P k=true):WideMaps.KeyLaw P k/\∀{ν:Ξ}{x:X}{v:Value}{d:D},RD ν x v d->wo d=true->∃l,keyOf P k v=some l:=by
 obtain⟨e,A,he,hsz⟩:=YY h;refine⟨A.law,λhv hk=>?_⟩;obtain⟨a,b,_,rfl,ha,hb⟩:=hv.key hk;exact⟨_,Vh A he hsz ha hb⟩
def Zq:∀(kvs:Θ) (j:Nat),xY kvs=true->2*j<kvs.length->wo (kvs.getD (2*j) .any)=true
 |[],j,_,h=>by simp at h
 |[_],j,h,_=>by simp[xY]at h
 |a::v::r,0,h,_=>by simp only[xY,aD]at h;exact h.1
 |a::v::r,j+1,h,hl=>by
  simp only[xY,aD]at h;have:=Zq r j h.2 (by simp only[bJ]at hl;omega);rw[show 2*(j+1)=2*j+2 by omega];simpa using this
def SJ {x:X}{k:TypeId}(h:PK P k=true){es:List MapEntry}{kvs:Θ}(ho:xY kvs=true)(hl:2*es.length=kvs.length)(hd:∀j,j<kvs.length->RD ν x (Vq es j) (kvs.getD j .any)):∀e∈es,∃l,keyOf P k e.key=some l:=by
 intro e he;obtain⟨j,hj,rfl⟩:=List.mem_iff_getElem.1 he;have h1:=hd (2*j) ae;have h2:Vq es (2*j)=es[j].key:=by
  unfold Vq;rw[show 2*j/2=j by omega,List.getElem?_eq_getElem hj];simp
 rw[h2]at h1;exact(PR h).2 h1 (Zq kvs j ho ae)
def alj {o:Oper}{i:aA}{p:Operand}(hsm:∀fid n,dV C.ν fid=some n->n<1000000)(hc:C.op defs o=some i)(ho:o.op=.lookup t p q true)(hρ:vS C defs J ev x o.op.operands.toList)(hob:i.eO Y J m)(hs:fO C.ν x f)(hag:FA f m (i.nB J)):
  BY C.ν x (jg f (i.wr J L) (i.bS Y J m L)) L (i.val Y J m L) ((execOp ev o).run C.P x.w):=by
 simp only[CC.op,ho]at hc;split at hc
 .rename_i a b kt et h1 h2 hu;split at hc
  .rename_i z hz;split at hc
   .rename_i hk;simp only[aG]at hc;subst hc;obtain⟨k1,k2,k3,k4⟩:=hob;obtain⟨l,kvs,hd,hl,hK⟩:=tP k3;have hfl:f l=some (.mpb kvs):=by rw[<-hl];exact hag l (by simp[hd,DB])
    have hv:=hρ p rK a h1 k1;rw[hd]at hv;obtain⟨bb,base,tot,hv1,hβ⟩:=hv.Ik hsm;have hkv:=hρ q rK b h2 k2;obtain⟨hnI,hnl,es,cl,hb1,pw,hb3,hb4⟩:=hs.own l _ bb base tot hfl hβ;obtain⟨law,hko⟩:=PR hk;obtain⟨kl,hkl⟩:=hko hkv k4;have hall:=SJ hk hK (by simpa using pw) hb4;have hck:=law.check x.w es.isEmpty hkl;obtain⟨ti,zv,hi,hzv,hr⟩:=qF (x:=x) hz;have haf:jg f ((aA.lkM z a b).wr J L) ((aA.lkM z a b).bS Y J m L)=f:=by funext l';simp[jg,aA.wr]
    have htup:∀{a b:Value} {da db:D},RD C.ν x a da->RD C.ν x b db->RD C.ν x (.tuple #[a,b]) (.tup [da,db]):=λha hb=>.tup _ _ rfl λi hi=>by
     match i,hi with
     |0,_=>exact ha
     |1,_=>exact hb
    obtain⟨f1,f2⟩:=SW hkv k4 es.toList kvs hK (by simpa using pw) hb4;have hobj:=MapKept.run_getObj_map (P:=C.P) hb1;rw[haf];rcases law.find x.w hkl es.toList hall with⟨r1,r2⟩|⟨j,e,r1,r2,r3⟩
    .simp only[aA.val,hd,Il hl,f1 r2];refine om hs (v:=.tuple #[zv,.bool false]) ?_ (htup hr (.bool _));simp[execOp,ho,hv1,Instr.lookup,run_underlying hu,hobj,hck,r1,zeroValue,run_typeInfo x.w hi,hzv,Result.andThen]
    .obtain⟨v,f3,f4⟩:=f2 e (List.mem_of_getElem? r2) r3 hb3;simp only[aA.val,hd,Il hl,f3];refine om hs (v:=.tuple #[e.val,.bool true]) ?_ (htup f4 (.bool _));simp[execOp,ho,hv1,Instr.lookup,run_underlying hu,hobj,hck,r1,Result.andThen]
   .cases hc
  .cases hc
 .cases hc
def agX {k d:D}(hk:k.aV=true)(hd:d.aV=true):∀(kvs:Θ),aP kvs=true->aP (AK k d kvs)=true
 |[],_=>by simp[AK,aP,hk,hd]
 |[_],_=>by simp[AK,aP,hk,hd]
 |a::v::r,h=>by
  simp only[aP,aD]at h;simp only[AK];cases qj a k
  .simp only[cond_false,aP,aD];exact⟨h.1,h.2.1,agX hk hd r h.2.2⟩
  .simp only[cond_true,aP,aD];exact⟨h.1,hd,h.2.2⟩
def alo {o:Oper}{i:aA}{p r:Operand}(hsm:∀fid n,dV C.ν fid=some n->n<1000000)(hc:C.op defs o=some i)(ho:o.op=.mapUpdate t p q r)(hρ:vS C defs J ev x o.op.operands.toList)(hob:i.eO Y J m)(hs:fO C.ν x f)(hag:FA f m (i.nB J)):
  BY C.ν x (jg f (i.wr J L) (i.bS Y J m L)) L (i.val Y J m L) ((execOp ev o).run C.P x.w):=by
 simp only[CC.op,ho]at hc;split at hc
 .rename_i a b c h1 h2 h3;split at hc
  .rename_i kt et hu;split at hc
   .rename_i hk;simp only[aG]at hc;subst hc;obtain⟨k1,k2,k2',k3,k4,vk,vn,hvd⟩:=hob;obtain⟨l,kvs,hd,hl,hK⟩:=tP k3;have hfl:f l=some (.mpb kvs):=by rw[<-hl];exact hag l (by simp[hd,DB])
    have hv:=hρ p rK a h1 k1;rw[hd]at hv;obtain⟨bb,base,tot,hv1,hβ⟩:=hv.Ik hsm;have hkv:=hρ q rK b h2 k2;have hvv:=hρ r rK c h3 k2';obtain⟨hnI,hnl,es,cl,hb1,pw,hb3,hb4⟩:=hs.own l _ bb base tot hfl hβ;have hlt:=hs.er l bb base tot hβ;obtain⟨law,hko⟩:=PR hk;obtain⟨kl,hkl⟩:=hko hkv k4;have hall:=SJ hk hK (by simpa using pw) hb4;have hck:=law.check x.w false hkl;have hobj:=MapKept.run_getObj_map (P:=C.P) hb1;have hset:∀ob,(setObj bb ob).run C.P x.w=.ok () {x.w with heap:=x.w.heap.setIfInBounds bb ob}:=λob=>MapKept.run_setObj_map ob hb1
    have hknl:(J b).d.aV=true:=by obtain⟨s1,s2,e1,_⟩:=hkv.key k4;rw[e1];rfl
    have hvnl:(J c).d.aV=true:=by rw[hvd];rfl

    obtain⟨es',cl',hrun,hlen',hnd',hrd'⟩:∃es' cl',(execOp ev o).run C.P x.w=.ok .skip {x.w with heap:=x.w.heap.setIfInBounds bb (.map es' cl')}/\2*es'.size=(AK (J b).d (J c).d kvs).length/\(es'.toList.map (·.key)).Nodup/\∀j,j<(AK (J b).d (J c).d kvs).length->RD C.ν x (Vq es'.toList j) ((AK (J b).d (J c).d kvs).getD j .any):=by
     rcases law.find x.w hkl es.toList hall with⟨r1,r2⟩|⟨j,e,r1,r2,r3⟩
     .obtain⟨p1,p2⟩:=SX hkv k4 cl hvv es.toList kvs hK (by simpa using pw) hb4 r2;refine⟨es.push ⟨ev q,ev r,cl⟩,cl+1, ?_,by rw[p1];simp;omega, ?_,by rw[p1];simpa using p2⟩
      .simp[execOp,ho,hv1,Instr.mapUpdate,run_underlying hu,hobj,hck,r1,hset,Result.andThen]
      .simp only[Array.toList_push,List.map_append,List.map_cons,List.map_nil];rw[List.nodup_append];refine⟨hb3,aJ,λy hy z hz=>?_⟩;obtain⟨e,he,rfl⟩:=bI.1 hy;simp only[aF]at hz;subst hz;exact r2 e he
     .obtain⟨p1,p2⟩:=Zr hkv k4 hvv es.toList kvs j e hK (by simpa using pw) hb4 hb3 r2 r3;have hst:(Instr.keyThatStays (((es[j]?).map (·.key)).getD (ev q)) (ev q)).run C.P x.w=.ok (ev q) x.w:=by
       have:es[j]? =some e:=by simpa using r2
       rw[this];simp only[Option.map_some,Option.getD_some,r3];exact law.stays x.w hkl
      refine⟨es.modify j λe=>{e with key:=ev q,val:=ev r},cl, ?_,by rw[p1];simp;omega, ?_,by rw[p1];simpa using p2⟩
      .simp[execOp,ho,hv1,Instr.mapUpdate,run_underlying hu,hobj,hck,r1,hset,hst,Result.andThen]
      .have:=MapKept.modify_keys (es:=es) j (λe=>{e with key:=ev q,val:=ev r}) (λe' he'=>by
        have h4:es[j]? =some e:=by simpa using r2
        rw[h4]at he';obtain rfl:=aZ he';exact r3.symm)
       rw[this];exact hb3
    let w':World:={x.w with heap:=x.w.heap.setIfInBounds bb (.map es' cl')}
    have hother:∀b',b'≠bb->w'.heap[b']? =x.w.heap[b']? :=λb' hb'=>by simp[w',Array.getElem?_setIfInBounds,show ¬bb=b' by omega]
    have hhere:w'.heap[bb]? =some (.map es' cl'):=by simp[w',hlt]
    have hsize:w'.heap.size=x.w.heap.size:=by simp[w']
    have hstep:Step x ⟨w',x.I,x.β⟩:=
     ⟨rfl,rfl,rfl,by show _<=w'.heap.size;omega,λ_ h=>h,λb' hb'=>hother b' (λe=>hnI (e▸hb')),λ_ _ h=>h,λb' _ hn=>hother b' (λe=>hn l _ hβ e.symm),λ_ h=>.inl h,λ_ _ h=>.inl h⟩
    have haf:∀l',jg f ((aA.upM a b c).wr J L) ((aA.upM a b c).bS Y J m L) l'=jI f l (some (.mpb (AK (J b).d (J c).d kvs))) l':=by
     intro l';simp only[jg,aA.wr,hd,DB,aA.bS,Il hl,aF,bO,jI];by_cases e:l'=l
     .rw[ak e,ak e,ak e]
     .rw[ah e,ah e]
    refine⟨undef,⟨w',x.I,x.β⟩,.inr ⟨hrun,rfl⟩,hstep,.any _, ?_,λ_ _=>rfl⟩;refine⟨λl' blk b' base' tot' e1 e2=>?_,λl1 l2 b' base' tot' base'' tot'' e1 e2 e3 e4=>?_,λb' hb'=>by show b'<w'.heap.size;rw[hsize];exact hs.imm b' hb',λl' b' base' tot' e=>by show b'<w'.heap.size;rw[hsize];exact hs.er l' b' base' tot' e,rQ hstep.le hs.gd⟩
    .rw[haf]at e1;by_cases e:l'=l
     .subst e;simp only[jI,br,aG]at e1;subst e1;have e2':x.β l'=some (b',base',tot'):=e2;rw[hβ]at e2';simp only[aG,dm]at e2';obtain⟨rfl,rfl,rfl⟩:=e2';exact⟨hnI,agX hknl hvnl kvs hnl,es',cl',hhere,hlen',hnd',λj hj=>(hrd' j hj).mono hstep.le⟩
     .simp only[jI,e,ba]at e1;obtain⟨a1,a2⟩:=hs.own l' blk b' base' tot' e1 e2;refine⟨a1,a2.mono hstep.le (hother b' (λeb=>?_))⟩;subst eb;exact e (hs.inj l' l b' base' tot' base tot (by rw[e1];simp) (by rw[hfl];simp) e2 hβ)
    .rw[haf]at e1 e2;refine hs.inj l1 l2 b' base' tot' base'' tot'' ?_ ?_ e3 e4
     .by_cases e:l1=l
      .rw[e,hfl];simp
      .simpa[jI,e]using e1
     .by_cases e:l2=l
      .rw[e,hfl];simp
      .simpa[jI,e]using e2
   .cases hc
  .cases hc
 .cases hc
end
end
section
variable [cO]
section
variable {x:X}{f:Nat->Χ}{C:CC}{defs:Ζ}{J:Src->a7}{ev:Operand->Value}{Y:Ctx}{m:Γ}{L:Nat}
def flat_get (n k:Nat)(g:Nat->Nat->Value)(i j:Nat)(hi:i<n)(hj:j<k):((List.range (n*k)).map λq=>g (q/k) (q%k)).getD (i*k+j) undef=g i j:=by
 have hlt:=kY hi hj;have h1:(i*k+j) /k=i:=by rw[Nat.mul_comm,Nat.mul_add_div ae,Nat.div_eq_of_lt hj];omega
 have h2:(i*k+j)%k=j:=by rw[Nat.mul_comm,Nat.mul_add_mod];exact Nat.mod_eq_of_lt hj
 simp[List.getD,hlt,h1,h2]
def amo {u:TypeId}(hk0:k≠0)(hkind:(∃e',C.P.underlying u=some (.slice e'))\/C.P.underlying u=some .string){v:Value}{d:D}(hv:RD C.ν x v d)(hd:CS m k d)(hs:fO C.ν x f)(hag:∀l,l∈cq d->f l=look m l):
  ∃news,Go.Src C.P k u v (qO m d).length news x.w/\∀i,i<(qO m d).length->((qO m d).getD i .any).cells.length=k/\∀j,j<k->
   RD C.ν x (news.getD (i*k+j) undef) (((qO m d).getD i .any).cells.getD j .any):=by
 have nothing:∀(a:Option Addr) (c:Nat),Go.Src C.P k u (.slice a 0 c) 0 [] x.w:=by
  intro a c;have hf:∀w':World,(Builtin.firstCells k 0 (.slice a 0 c)).run C.P w'=.ok #[] w':=by
   intro w';cases a<;>simp[Builtin.firstCells,loadCells,loadCellsFrom]
  exact⟨hkind,λ_=>rfl,hf _,hf _,aJ,λ_ h=>cb⟩
 have some_:∀(b off n cap:Nat) (g:Nat->Nat->Value),(∀i j,i<n->j<k->x.w.cell? ⟨b,off+i*k+j,none⟩=some (g i j)/\(g i j).oneCell'=true)->
   Go.Src C.P k u (.slice (some ⟨b,off,none⟩) n cap) n ((List.range (n*k)).map λq=>g (q/k) (q%k)) x.w:=by
  intro b off n cap g hg;have hqd:∀q,q<n*k->q/k<n/\q%k<k/\q/k*k+q%k=q:=λq hq=>
   ⟨Nat.div_lt_of_lt_mul (by rw[Nat.mul_comm];exact hq),Nat.mod_lt _ ae,by rw[Nat.mul_comm];exact Nat.div_add_mod q k⟩
  have hcell:∀j u',((List.range (n*k)).map λq=>g (q/k) (q%k))[j]? =some u'->x.w.cell? ((⟨b,off,none⟩:Addr).add j)=some u':=by
   intro j u' hj;obtain⟨hj2,rfl⟩:=List.getElem?_eq_some_iff.1 hj;simp at hj2;obtain⟨h1,h2,h3⟩:=hqd j hj2;rw[Addr.Bq];simp only[List.getElem_map,List.getElem_range];rw[<-(hg _ _ h1 h2).1];congr 2;omega
  refine⟨hkind,λ_=>rfl,run_firstCells_some x.w k n _ n cap _ aJ hcell,run_firstCells_some x.w.drew k n _ n cap _ aJ (by simpa using hcell),aJ,λu' hu'=>?_⟩;obtain⟨q,hq,rfl⟩:=bI.1 hu';obtain⟨h1,h2,_⟩:=hqd q (by simpa using hq);exact(hg _ _ h1 h2).2
 cases d<;>simp only[CS]at hd
 ·
  rename_i s;obtain⟨rfl,h2⟩:=hv.ke;subst hd;have hsz:(⟨⟨s⟩⟩:ByteArray).size=s.length:=rfl;refine⟨byteCells ⟨⟨s⟩⟩, ?_,λi hi=>?_⟩
  .have:(qO m (.str s)).length=(⟨⟨s⟩⟩:ByteArray).size:=by simp[qO,hsz]
   rw[this];exact⟨hkind,λ_=>rfl,firstCells_string _ _,firstCells_string _ _,by rw[byteCells_length,Nat.mul_one],λu' hu'=>by
    obtain⟨_,_,rfl⟩:=bI.1 hu';rfl⟩
  .have hi':i<s.length:=by simpa[qO]using hi
   have e:(qO m (.str s)).getD i .any=.int .u8 (s.getD i 0).toNat:=by simp[qO,List.getD,hi']
   rw[e];refine⟨rfl,λj hj=>?_⟩;obtain rfl:j=0:=ae;have e2:(byteCells ⟨⟨s⟩⟩).getD (i*1+0) undef=.int .u8 (s.getD i 0).toNat:=by simp[byteCells,List.getD,hi']
   rw[e2];exact .int _ _
 .cases hv;exact⟨[],nothing none 0,λi hi=>by simp[qO]at hi⟩
 .rename_i k' es;subst hd;cases hv with
  |sl a b off len cap _ _ c hlen ha hcap hm hk hn hcc hone hh=>
   subst hlen;rcases ha with rfl|⟨rfl,hI⟩
   .exact⟨[],by simpa[qO]using nothing a cap,λi hi=>by simp[qO]at hi⟩
   .refine⟨_,some_ b off es.length cap c (λi j hi hj=>⟨hcc i j hi hj,hone i j hi hj⟩),λi hi=>⟨hk i hi,λj hj=>?_⟩⟩;rw[flat_get es.length k' c i j hi hj];exact hh i j hi hj
 .rename_i l k' i0 n;obtain⟨rfl,hb⟩:=hd;cases hv with
  |own0 _ _ _ a=>exact⟨[],by simpa[qO]using nothing a 0,λi hi=>by simp[qO]at hi⟩
  |own _ _ _ _ b base tot cap aa hβ ha hcap hm ht=>
   obtain⟨g1,g2,g3⟩:=vU hs (hag l (by simp[cq])) hb;obtain⟨hnI,hk0',ht',c,T,fr,q1,q2,q3,q4⟩:=hs.own l _ b base tot g1 hβ;have hlen:(qO m (.own l k' i0 n)).length=n:=by simp only[qO];exact ik _ _ _ g2
   rw[hlen];by_cases hn0:n=0
   .subst hn0;exact⟨[],nothing _ _,λi hi=>ae⟩
   .have ha':=ha ae;subst ha';have hg:∀i,i<n->(qO m (.own l k' i0 n)).getD i .any=(aK m l).getD (i0+i) .any:=λi hi=>by simp only[qO];exact ez _ _ _ _ _ hi
    refine⟨_,some_ b (base+i0*k') n cap (λi j=>c.getD (base+(i0+i)*k'+j) undef) (λi j hi hj=>?_),λi hi=>?_⟩
    .have h1:=kY (tot:=tot) (show i0+i<tot by omega) hj;refine⟨?_,((q4 (i0+i) ae).2 j hj).1⟩;rw[<-cell_of_heap q1 (by omega:base+(i0+i)*k'+j<c.size)];congr 2;rw[Nat.add_mul];omega
    .rw[hg i hi];refine⟨(q4 (i0+i) ae).1,λj hj=>?_⟩;rw[flat_get n k' (λi j=>c.getD (base+(i0+i)*k'+j) undef) i j hi hj];exact((q4 (i0+i) ae).2 j hj).2
theorem cY {α:Type}(a b:List α)(i:Nat)(d:α):(a++b).getD i d=if i<a.length then a.getD i d else b.getD (i-a.length) d:=by
 grind
theorem UZ {mm cap:Nat}{olds:η}{zs:Κ}{es1 es2:Θ}(x':X)(b:Nat)(hk0:k≠0)(hlo:olds.length=n*k)(hln:news.length=mm*k)(h1:es1.length=n)(h2:es2.length=mm)(hcap:n+mm<=cap)(hzs:zs.size=(cap-(n+mm))*k)(hx:x'.w.heap[b]? =some (.cells ((olds++news).toArray++zs) T (0,0)))(ho:∀i,i<n->(es1.getD i .any).cells.length=k/\∀j,j<k->(olds.getD (i*k+j) undef).oneCell'=true/\RD C.ν x' (olds.getD (i*k+j) undef) ((es1.getD i .any).cells.getD j .any))(hn:∀i,i<mm->(es2.getD i .any).cells.length=k/\∀j,j<k->(news.getD (i*k+j) undef).oneCell'=true/\RD C.ν x' (news.getD (i*k+j) undef) ((es2.getD i .any).cells.getD j .any)):
  pH C.ν x' b 0 cap (.buf k (es1++es2)):=by
 have hsz:((olds++news).toArray++zs).size=cap*k:=by
  simp only[Array.size_append,List.size_toArray,cx,hlo,hln,hzs,<-Nat.add_mul];congr 1;omega
 refine xk (w':=x'.w) (L:=0) x' hx ae fM ae (λo _=>aJ) (λi hi=>?_);simp only[cx,h1,h2]at hi;have hge:∀j,j<k->(((olds++news).toArray++zs).getD (i*k+j) undef)=(olds++news).getD (i*k+j) undef:=by
  intro j hj;have:=kY hi hj;rw[Nat.add_mul]at this;rw[<-bT];simp only[Array.toList_append];rw[cY,ak fM]
 rw[cY];by_cases h:i<n
 .grind [cY,kY]
 .rw[ah ae,h1];refine⟨(hn (i-n) ae).1,λj hj=>?_⟩;have hnk:n*k<=i*k:=fU _ ae;rw[hge j hj,cY,ah ae,show i*k+j-olds.length=(i-n)*k+j by rw[hlo,Nat.sub_mul];omega];exact(hn (i-n) ae).2 j hj
theorem ZI (h:∀u∈news,u.oneCell'=true)(q:Nat)(hq:q<news.length):(news.getD q undef).oneCell'=true:=by
 grind
theorem fO.less {f:Nat->Χ}(h:fO ν x f)(hf:∀l,f' l=f l\/f' l=none\/x.β l=none):fO ν x f':=by
 refine⟨λl blk b base tot e1 e2=>?_,λl1 l2 b base tot base' tot' e1 e2 e3 e4=>?_,h.imm,h.er,h.gd⟩
 .rcases hf l with e|e|e
  .exact h.own l blk b base tot (e▸e1) e2
  .rw[e]at e1;cases e1
  .rw[e]at e2;cases e2
 .refine h.inj l1 l2 b base tot base' tot' ?_ ?_ e3 e4
  .grind
  grind
def LW {u e:TypeId}{base:Option Addr}{sLen sCap mm:Nat}{olds:η}{es1 E:Θ}(hs:fO C.ν x f)(hL:x.β L=none)(ht:C.P.underlying t=some (.slice e))(hi:C.P.info? e=some ti)(hz:ti.zero=some z)(hzd:z.cells.size=ti.size)(hk:ti.size=k)(hk0:k≠0)(hby:ti.bytes<=65536)(hold:(Builtin.firstCells k sLen (.slice base sLen sCap)).run C.P x.w.drew=.ok olds.toArray x.w.drew)(hol:olds.length=sLen*k)(h1:es1.length=sLen)(h2:E.length=mm)(ho:∀i,i<sLen->(es1.getD i .any).cells.length=k/\∀j,j<k->(olds.getD (i*k+j) undef).oneCell'=true/\RD C.ν x (olds.getD (i*k+j) undef) ((es1.getD i .any).cells.getD j .any))(hsrc:Go.Src C.P k u xv mm news x.w)(hn:∀i,i<mm->(E.getD i .any).cells.length=k/\∀j,j<k->RD C.ν x (news.getD (i*k+j) undef) ((E.getD i .any).cells.getD j .any))(hg:sCap<sLen+mm)(hle:sLen+mm<=1073741824)(hf:∀l,l≠L->f' l=f l\/f' l=none)(hfL:f' L=some (.buf k (es1++E)))(hr:r=((Builtin.append_ #[t,u] ty #[.slice base sLen sCap,xv]).run C.P x.w).andThen λv w'=>.ok (.value v) w'):
  BY C.ν x f' L (.own L k 0 (sLen+mm)) r:=by
 subst hk;have hfit:=growslice_fits_wide (need:=sLen+mm) (old:=sCap) (bytes:=ti.bytes) hg (by
  have:(sLen+mm+(sLen+mm) /4+192)*ti.bytes<=(sLen+mm+(sLen+mm) /4+192)*65536:=Nat.mul_le_mul_left _ hby;omega)
 have hrun:=run_append_grow_src x.w t u ty e ti z ht hi hz base sLen sCap olds hold xv mm news hsrc hg ae hfit;have hcge:=grownCap_ge x.w (sLen+mm) sCap e;have hcle:=grownCap_le_maxLen x.w (sLen+mm) sCap e (by simp only[maxLen];omega);generalize grownCap x.w (sLen+mm) sCap e=cap at hrun hcge hcle;have hgrow:iE x.w (x.w.drew.alloc (.cells ((olds++news).toArray++Builtin.zeroCells z.cells (cap-(sLen+mm))) e)):=by
  refine⟨rfl,rfl,rfl, ?_,λb hb=>?_⟩
  .have:=(iE.alloc x.w.drew (.cells ((olds++news).toArray++Builtin.zeroCells z.cells (cap-(sLen+mm))) e)).size;exact this
  .exact mf x.w.drew _ b hb
 have hlex:=Ic (tot:=cap) hs hgrow hL;have hs':fO C.ν x (λl=>if f' l=none then none else f l):=hs.less (λl=>by
  by_cases h:f' l=none
  .right;left;simp[h]
  .left;simp[h])
 refine pk (f:=λl=>if f' l=none then none else f l) (v:=.slice (some ⟨x.w.heap.size,0,none⟩) (sLen+mm) cap) (tot:=cap) (blk:=.buf ti.size (es1++E)) hs' hL hgrow ?_ ?_ ?_ ?_ (λl=>?_)
 .show x.w.heap.size<(x.w.drew.heap.push _).size;rw[Array.size_push];exact Nat.lt_succ_self _
 .exact UZ (n:=sLen) (mm:=mm) (olds:=olds) (news:=news) (T:=e) (zs:=Builtin.zeroCells z.cells (cap-(sLen+mm))) _ _ hk0 hol hsrc.newsLen h1 h2 hcge
   (by rw[size_zeroCells,hzd]) (ee x.w.drew _)
   (λi hi=>⟨(ho i hi).1,λj hj=>⟨((ho i hi).2 j hj).1,((ho i hi).2 j hj).2.mono hlex⟩⟩)
   (λi hi=>⟨(hn i hi).1,λj hj=>⟨ZI hsrc.one _ (by rw[hsrc.newsLen];exact kY hi hj),((hn i hi).2 j hj).mono hlex⟩⟩)
 .exact .own L _ 0 (sLen+mm) x.w.heap.size 0 cap cap ⟨x.w.heap.size,0,none⟩ nV (λ_=>aJ) hcge hcle ae
 .rw[hr,hrun];rfl
 .by_cases e:l=L
  .subst e;simp[jI,hfL]
  .simp only[jI,e,ba];rcases hf l e with h|h
   .by_cases h':f' l=none
    .rw[ak h'];exact h'
    .rw[ah h'];exact h
   .rw[ak h];exact h
def Am {u e:TypeId}{a:Addr}{sLen sCap:Nat}(ht:C.P.underlying t=some (.slice e))(hi:C.P.info? e=some ti)(hk:ti.size=k)(hsrc:Go.Src C.P k u xv 0 [] x.w)(hc:sLen<=sCap):
  (Builtin.append_ #[t,u] ty #[.slice (some a) sLen sCap,xv]).run C.P x.w=.ok (.slice (some a) sLen sCap) x.w:=by
 subst hk;rcases hsrc.kind with⟨e',hk⟩|hk<;>simp[Builtin.append_,run_underlying ht,run_underlying hk,sizeOf,typeInfo,hi,hsrc.len,hc,hsrc.cells,storeCells]
def HD {u e:TypeId}(ht:C.P.underlying t=some (.slice e))(hi:C.P.info? e=some ti)(hk:ti.size=k)(hsrc:Go.Src C.P k u xv 0 [] x.w):
  (Builtin.append_ #[t,u] ty #[.slice none 0 0,xv]).run C.P x.w=.ok (.slice none 0 0) x.w:=by
 subst hk;rcases hsrc.kind with⟨e',hk⟩|hk<;>simp[Builtin.append_,run_underlying ht,run_underlying hk,sizeOf,typeInfo,hi,hsrc.len,hsrc.cells,storeCells]
def alg {o:Oper}{i:aA}{p:Operand}{u:TypeId}(hc:C.op defs o=some i)(ho:o.op=.call {callee:=.builtin .append,args:=#[p,q],argTypes:=#[t,u]})(hρ:vS C defs J ev x o.op.operands.toList)(hob:i.eO Y J m)(hs:fO C.ν x f)(hag:FA f m (i.nB J))(hL:x.β L=none):
  BY C.ν x (jg f (i.wr J L) (i.bS Y J m L)) L (i.val Y J m L) ((execOp ev o).run C.P x.w):=by
 have hcc:∃a b e,C.src defs p=some a/\C.src defs q=some b/\C.P.underlying t=some (.slice e)/\((∃e',C.P.underlying u=some (.slice e'))\/C.P.underlying u=some .string)/\
   ¬(C.P.cellsOf e=0\/C.P.bytesOf e>65536\/C.P.bytesOf e=0\/qG C.P e=false)/\i=.app (C.P.cellsOf e) a b:=by
  simp only[CC.op,ho]at hc;split at hc
  .rename_i a b e e' h1 h2 h3 h4;split at hc
   .cases hc
   .rename_i hn;simp only[aG]at hc;exact⟨a,b,e,h1,h2,h3,.inl ⟨_,h4⟩,hn,hc.symm⟩
  .rename_i a b e h1 h2 h3 h4;split at hc
   .cases hc
   .rename_i hn;simp only[aG]at hc;exact⟨a,b,e,h1,h2,h3,.inr h4,hn,hc.symm⟩
  .cases hc
 obtain⟨a,b,e,h1,h2,hu,hu2,hn,rfl⟩:=hcc;have hce:C.P.cellsOf e≠0:=λh=>hn (.inl h)
 obtain⟨ti,hti,htis⟩:=pL hce;have hby:ti.bytes<=65536:=by
  have:¬C.P.bytesOf e>65536:=λh=>hn (.inr (.inl h))
  simp[Program.bytesOf,hti]at this;omega
 obtain⟨z,hz,hzl⟩:∃z,tu C.P e=some z/\z.cells.length=C.P.cellsOf e:=by
  have hzf:qG C.P e=true:=by
   cases h:qG C.P e
   .exact absurd (.inr (.inr (.inr h))) hn
   .rfl
  unfold qG at hzf;split at hzf
  .rename_i z hz;exact⟨z,hz,by simpa using hzf⟩
  .cases hzf
 obtain⟨ti',z',hti',hzv,hzr⟩:=qF (x:=x) hz;obtain rfl:ti'=ti:=by rw[hti]at hti';exact(aZ hti').symm
 obtain⟨k1,k2,k3,k4⟩:=hob;have hv:=hρ p dE a h1 k1;have hw:=hρ q dE b h2 k2;have hag2:∀l,l∈cq (J b).d->f l=look m l:=λl hl=>hag l (by simp;exact .inr hl)
 have hag1:∀l,l∈cq (J a).d->f l=look m l:=λl hl=>hag l (by simp;exact .inl hl)
 obtain⟨news,hsrc,hnews⟩:=amo (u:=u) hce (hu2.imp (λ⟨e',h⟩=>⟨e',h⟩) id) hw k3 hs hag2;have hsz:z'.cells.size=ti'.size:=by have:=(hzr.cells ae).1;omega
 have hr:(execOp ev o).run C.P x.w=((Builtin.append_ #[t,u] o.type #[ev p,ev q]).run C.P x.w).andThen λv w'=>.ok (.value v) w':=by
  simp[execOp,ho,resolve,invoke,builtin]
 generalize hels:qO m (J b).d=E at*
 generalize hep:ev p=vp at*

 have nobase:∀(a0:Option Addr) (f':Nat->Χ),vp=.slice a0 0 0->E.length<=1073741824->(∀l,l≠L->f' l=f l\/f' l=none)->f' L=some (.buf (C.P.cellsOf e) E)->
   BY C.ν x f' L (.own L (C.P.cellsOf e) 0 E.length) ((execOp ev o).run C.P x.w):=by
  intro a0 f' hvp hle hf hfL;subst hvp;by_cases hm0:E.length=0
  .have hn0:news=[]:=lZ (by rw[hsrc.newsLen,hm0];simp);rw[hm0]at hsrc⊢;subst hn0;have hap:(Builtin.append_ #[t,u] o.type #[.slice a0 0 0,ev q]).run C.P x.w=.ok (.slice a0 0 0) x.w:=by
    cases a0 with
    |none=>exact HD hu hti htis hsrc
    |some a=>exact Am hu hti htis hsrc (aR _)
   rw[hr,hap];refine⟨.slice a0 0 0,x,.inl rfl,.refl x,.own0 L _ 0 a0,hs.less λl=>?_,λ_ _=>rfl⟩;by_cases e:l=L
   .subst e;exact .inr (.inr hL)
   .rcases hf l e with h|h
    .exact .inl h
    .exact .inr (.inl h)
  .have:=LW (f':=f') (base:=a0) (sLen:=0) (sCap:=0) (olds:=[]) (es1:=[]) (E:=E) (mm:=E.length) hs hL hu hti hzv hsz htis hce hby
    (by cases a0<;>simp[Builtin.firstCells,loadCells,loadCellsFrom]) aJ rfl rfl (λi hi=>ae) hsrc hnews ae ae hf (by simpa using hfL) hr
   simpa using this
 cases hd:(J a).d<;>simp only[hd]at k4
 ·
  have he:(aA.app (C.P.cellsOf e) a b).bS Y J m L=cW m L (.buf (C.P.cellsOf e) E):=by simp[aA.bS,hd,hels]
  have hva:(aA.app (C.P.cellsOf e) a b).val Y J m L=.own L (C.P.cellsOf e) 0 E.length:=by simp[aA.val,hd,hels]
  have hwr:(aA.app (C.P.cellsOf e) a b).wr J L=[L]:=by simp[aA.wr,hd,cq]
  rw[he,hva,hwr];rw[hd]at hv;cases hv;exact nobase _ _ rfl k4 (λl hl=>.inl (by simp[jg,hl])) (by simp[jg,bO])
 .rename_i l k' i n;obtain⟨rfl,hbk,hle⟩:=k4;rw[hd]at hv;have he:(aA.app (C.P.cellsOf e) a b).bS Y J m L=cW (de m l) L (.buf (C.P.cellsOf e) ((((aK m l).drop i).take n)++E)):=by simp[aA.bS,hd,hels]
  have hva:(aA.app (C.P.cellsOf e) a b).val Y J m L=.own L (C.P.cellsOf e) 0 (n+E.length):=by simp[aA.val,hd,hels]
  have hwr:(aA.app (C.P.cellsOf e) a b).wr J L=[L,l]:=by simp[aA.wr,hd,cq]
  rw[he,hva,hwr];have hff:∀l',l'≠L->jg f [L,l] (cW (de m l) L (.buf (C.P.cellsOf e) ((((aK m l).drop i).take n)++E))) l'=if l'=l then none else f l':=by
   intro l' hl';by_cases e1:l'=l
   .subst e1;simp[jg,bO,fF,hl']
   .simp[jg,hl',e1]
  have hffL:jg f [L,l] (cW (de m l) L (.buf (C.P.cellsOf e) ((((aK m l).drop i).take n)++E))) L=some (.buf (C.P.cellsOf e) ((((aK m l).drop i).take n)++E)):=by simp[jg,bO]
  have hff':∀l',l'≠L->jg f [L,l] (cW (de m l) L (.buf (C.P.cellsOf e) ((((aK m l).drop i).take n)++E))) l'=f l'\/jg f [L,l] (cW (de m l) L (.buf (C.P.cellsOf e) ((((aK m l).drop i).take n)++E))) l'=none:=by
   intro l' hl';rw[hff l' hl'];by_cases e1:l'=l
   .rw[ak e1];exact .inr rfl
   .rw[ah e1];exact .inl rfl
  cases hv with
  |own0=>
   have:=nobase _ (jg f [L,l] (cW (de m l) L (.buf (C.P.cellsOf e) ((((aK m l).drop i).take 0)++E)))) rfl ae hff' (by simpa using hffL);simpa using this
  |own _ _ _ _ bk base tot cap ad hβ ha hcap hm ht=>
   obtain⟨g1,g2,g3⟩:=vU hs (hag1 l (by simp[hd,cq])) hbk;obtain⟨hnI,hk0',ht',c,T,fr,q1,q2,q3,q4⟩:=hs.own l _ bk base tot g1 hβ;have hlen1:(((aK m l).drop i).take n).length=n:=ik _ _ _ g2;have hgt:∀j,j<n->(((aK m l).drop i).take n).getD j .any=(aK m l).getD (i+j) .any:=λj hj=>ez _ _ _ _ _ hj
   by_cases hroom:n+E.length<=cap
   ·
    have hcsz:base+i*C.P.cellsOf e+cap*C.P.cellsOf e<=c.size:=by
     have:i*C.P.cellsOf e+cap*C.P.cellsOf e<=tot*C.P.cellsOf e:=by rw[<-Nat.add_mul];exact fU _ ae
     omega
    have hnc:n*C.P.cellsOf e+news.length<=cap*C.P.cellsOf e:=by rw[hsrc.newsLen,<-Nat.add_mul];exact fU _ hroom
    have hrun:(Builtin.append_ #[t,u] o.type #[.slice (some ad) n cap,ev q]).run C.P x.w=.ok (.slice (some ad) (n+E.length) cap) (x.w.setCells bk (base+i*C.P.cellsOf e+n*C.P.cellsOf e) news):=by
     by_cases hc0:cap=0
     .have hm0:E.length=0:=ae;have hn0:news=[]:=lZ (by rw[hsrc.newsLen,hm0];simp);subst hn0;rw[hm0]at hsrc⊢;rw[Am hu hti htis hsrc hcap];rfl
     .have ha':=ha ae;subst ha';have:=run_append_room_src x.w t u o.type e ti' hu hti bk (base+i*C.P.cellsOf e) n cap (ev q) E.length news (by rw[htis];exact hsrc) hroom
       (λj hj=>by rw[htis,cell_of_heap q1 ae];rfl)
       (λj hj=>by
         rw[htis];have:=q3 (base+i*C.P.cellsOf e+n*C.P.cellsOf e+j) ae;simp only[World.frozen?,q1];simp only[eJ,bR];omega)
      rw[htis]at this;exact this
    obtain⟨c',s1,s2,s3⟩:=mi bk news (base+i*C.P.cellsOf e+n*C.P.cellsOf e) x.w c T fr q1 ae;obtain⟨f1,f2,f3,f4⟩:=ll bk news (base+i*C.P.cellsOf e+n*C.P.cellsOf e) x.w;generalize hw':x.w.setCells bk (base+i*C.P.cellsOf e+n*C.P.cellsOf e) news=w' at*
    have hother:∀b',b'≠bk->w'.heap[b']? =x.w.heap[b']? :=λb' hb'=>by rw[<-hw'];exact lq bk _ _ _ b' hb'
    have hlL:l≠L:=λe1=>by subst e1;rw[hβ]at hL;cases hL
    have hstep:Step x ⟨w',x.I,fo x.β L (bk,base+i*C.P.cellsOf e,cap)⟩:=by
     refine⟨f1,f2,f3,by show _<=w'.heap.size;rw[f4];exact aR _,λ_ h=>h,λb' hb'=>hother b' (λe1=>hnI (e1▸hb')),λl' p' hp=>?_,
      λb' _ hn'=>hother b' (λe1=>hn' l _ hβ e1.symm),λ_ h=>.inl h,λl' p' hp=>?_⟩
     .have:l'≠L:=λe1=>by rw[e1,hL]at hp;cases hp
      simp[fo,this,hp]
     .by_cases e1:l'=L
      .simp only[fo,e1,br,aG]at hp;exact .inr (.inr ⟨l,_,hβ,by rw[<-hp]⟩)
      .simp only[fo,e1,ba]at hp;exact .inl hp
    have hle2:=hstep.le;rw[hr,hrun];refine⟨_,⟨w',x.I,fo x.β L (bk,base+i*C.P.cellsOf e,cap)⟩,.inl rfl,hstep,
     .own L _ 0 _ bk (base+i*C.P.cellsOf e) cap cap ad nV (λh=>by rw[ha h];simp) hroom hm ae, ?_,λl' hl'=>by simp[fo,hl']⟩
    have hblk:pH C.ν ⟨w',x.I,fo x.β L (bk,base+i*C.P.cellsOf e,cap)⟩ bk (base+i*C.P.cellsOf e) cap (.buf (C.P.cellsOf e) ((((aK m l).drop i).take n)++E)):=by
     refine⟨hk0',by rw[cx,hlen1];exact hroom,c',T,fr,s1,ae,λo'' ho''=>q3 o'' ae,λi' hi'=>?_⟩;rw[cx,hlen1]at hi';rw[cY,hlen1];by_cases hi2:i'<n
     .rw[ak hi2,hgt i' hi2];refine⟨(q4 (i+i') ae).1,λj hj=>?_⟩;have hlt:=kY hi2 hj;rw[s3,ah ae];have:=(q4 (i+i') ae).2 j hj;rw[show base+(i+i')*C.P.cellsOf e+j=base+i*C.P.cellsOf e+i'*C.P.cellsOf e+j by rw[Nat.add_mul];omega]at this;exact⟨this.1,this.2.mono hle2⟩
     .rw[ah hi2];obtain⟨a1,a2⟩:=hnews (i'-n) ae;refine⟨a1,λj hj=>?_⟩;have hnk:n*C.P.cellsOf e<=i'*C.P.cellsOf e:=fU _ ae;have hlt:=kY (show i'-n<E.length by omega) hj;rw[<-hsrc.newsLen,Nat.sub_mul]at hlt;rw[s3,ak ae,show base+i*C.P.cellsOf e+i'*C.P.cellsOf e+j-(base+i*C.P.cellsOf e+n*C.P.cellsOf e)=(i'-n)*C.P.cellsOf e+j by rw[Nat.sub_mul];omega];exact⟨ZI hsrc.one _ (by rw[Nat.sub_mul];omega),(a2 j hj).mono hle2⟩
    refine⟨λl' blk b' base' tot' e1 e2=>?_,λl1 l2 b' base' tot' base'' tot'' e1 e2 e3 e4=>?_,λb' hb'=>by show b'<w'.heap.size;rw[f4];exact hs.imm b' hb',λl' b' base' tot' e1=>?_,rQ hstep.le hs.gd⟩
    .by_cases h:l'=L
     .subst h;rw[hffL]at e1;simp only[fo,br,aG,dm]at e2;obtain⟨rfl,rfl,rfl⟩:=e2;obtain rfl:=aZ e1;exact⟨hnI,hblk⟩
     .rw[hff l' h]at e1;by_cases h2:l'=l
      .rw[ak h2]at e1;cases e1
      .rw[ah h2]at e1;simp only[fo,h,ba]at e2;obtain⟨a1,a2⟩:=hs.own l' blk b' base' tot' e1 e2;refine⟨a1,a2.mono hle2 (hother b' (λeb=>?_))⟩;subst eb;exact h2 (hs.inj l' l b' base' tot' base tot (by rw[e1];simp) (by rw[g1];simp) e2 hβ)
    .have key:∀l1 b1 base1 tot1,l1≠L->jg f [L,l] (cW (de m l) L (.buf (C.P.cellsOf e) ((((aK m l).drop i).take n)++E))) l1≠none->x.β l1=some (b1,base1,tot1)->b1≠bk/\f l1≠none:=by
      intro l1 b1 base1 tot1 h1' h2' h3';rw[hff l1 h1']at h2';by_cases h:l1=l
      .rw[ak h]at h2';exact absurd rfl h2'
      .rw[ah h]at h2';refine⟨λeb=>?_,h2'⟩;subst eb;exact h (hs.inj l1 l b1 base1 tot1 base tot h2' (by rw[g1];simp) h3' hβ)
     by_cases h1':l1=L<;>by_cases h2':l2=L
     .rw[h1',h2']
     .exfalso;simp only[fo,h1',br,aG,dm]at e3;simp only[fo,h2',ba]at e4;exact(key l2 b' _ _ h2' e2 e4).1 e3.1.symm
     .exfalso;simp only[fo,h2',br,aG,dm]at e4;simp only[fo,h1',ba]at e3;exact(key l1 b' _ _ h1' e1 e3).1 e4.1.symm
     .simp only[fo,h1',ba]at e3;simp only[fo,h2',ba]at e4;exact hs.inj l1 l2 b' base' tot' base'' tot'' (key l1 b' _ _ h1' e1 e3).2 (key l2 b' _ _ h2' e2 e4).2 e3 e4
    .show b'<w'.heap.size;rw[f4];by_cases h:l'=L
     .simp only[fo,h,br,aG,dm]at e1;obtain⟨rfl,_,_⟩:=e1;exact hs.er l _ _ _ hβ
     .simp only[fo,h,ba]at e1;exact hs.er l' _ _ _ e1
   ·
    have hold:∃olds:η,(Builtin.firstCells (C.P.cellsOf e) n (.slice (some ad) n cap)).run C.P x.w.drew=.ok olds.toArray x.w.drew/\olds.length=n*C.P.cellsOf e/\
      ∀j,j<n->∀j',j'<C.P.cellsOf e->(olds.getD (j*C.P.cellsOf e+j') undef).oneCell'=true/\RD C.ν x (olds.getD (j*C.P.cellsOf e+j') undef) (((aK m l).getD (i+j) .any).cells.getD j' .any):=by
     by_cases hn0:n=0
     .subst hn0;exact⟨[],by simp[Builtin.firstCells,loadCells,loadCellsFrom],aJ,λj hj=>ae⟩
     .have ha':=ha ae;subst ha';have hqd:∀q,q<n*C.P.cellsOf e->q/C.P.cellsOf e<n/\q%C.P.cellsOf e<C.P.cellsOf e/\q/C.P.cellsOf e*C.P.cellsOf e+q%C.P.cellsOf e=q:=λq hq=>
       ⟨Nat.div_lt_of_lt_mul (by rw[Nat.mul_comm];exact hq),Nat.mod_lt _ ae,by rw[Nat.mul_comm];exact Nat.div_add_mod q _⟩
      have hbase:∀q,q<n*C.P.cellsOf e->base+i*C.P.cellsOf e+q<c.size:=λq hq=>by
       have:i*C.P.cellsOf e+n*C.P.cellsOf e<=tot*C.P.cellsOf e:=by rw[<-Nat.add_mul];exact fU _ ae
       omega
      refine⟨(List.range (n*C.P.cellsOf e)).map λq=>c.getD (base+i*C.P.cellsOf e+q) undef, ?_,aJ,λj hj j' hj'=>?_⟩
      .refine run_firstCells_some x.w.drew _ n _ n cap _ aJ (λj u' hj=>?_);obtain⟨hj2,rfl⟩:=List.getElem?_eq_some_iff.1 hj;simp at hj2;rw[Addr.Bq];simp only[List.getElem_map,List.getElem_range];exact cell_of_heap (w:=x.w.drew) q1 (hbase j hj2)
      .have hlt:=kY hj hj';have e1:((List.range (n*C.P.cellsOf e)).map λq=>c.getD (base+i*C.P.cellsOf e+q) undef).getD (j*C.P.cellsOf e+j') undef=c.getD (base+(i+j)*C.P.cellsOf e+j') undef:=by
        simp only[List.getD,List.getElem?_map,List.getElem?_range hlt,Option.map_some,Option.getD_some];congr 1;rw[Nat.add_mul];omega
       rw[e1];exact(q4 (i+j) ae).2 j' hj'
    obtain⟨olds,o1,o2,o3⟩:=hold;refine LW (base:=some ad) (sLen:=n) (sCap:=cap) (olds:=olds) (es1:=((aK m l).drop i).take n) (E:=E) (mm:=E.length) hs hL hu hti hzv hsz htis hce hby
     o1 o2 hlen1 rfl (λj hj=>?_) hsrc hnews ae ae hff' hffL hr
    rw[hgt j hj];exact⟨(q4 (i+j) ae).1,o3 j hj⟩
end
end
section
variable [cO]
section
variable {x:X}{f:Nat->Χ}{m:Γ}
def X.nG (x:X)(f:Nat->Χ):X:=⟨x.w,λb=>x.I b\/∃l p,x.β l=some p/\p.1=b/\f l≠none,x.β⟩
def py (x:X)(f:Nat->Χ):Le x (x.nG f):=⟨λ_ h=>.inl h,λ_ _=>rfl,λ_ _ h=>h⟩
theorem D.tR (ds:Θ):(D.agg ds).aV=aP ds:=by simp[D.aV]
def xm (hs:fO ν x f)(hag:∀l,look m l≠none->f l=look m l)(hb:ep m l k n){b base:Nat}(hβ:x.β l=some (b,base,tot)):
  f l=some (.buf k (aK m l))/\n<=(aK m l).length/\¬x.I b/\pH ν x b base tot (.buf k (aK m l)):=by
 have hne:look m l≠none:=by
  intro h;simp[ep,h]at hb
 obtain⟨g1,g2,_⟩:=vU hs (hag l hne) hb;exact⟨g1,g2,hs.own l _ b base tot g1 hβ⟩
def Ey {es:List D}{cs:List Sh}{g:Nat->Nat->Value}(hk0:0<k)(hV:∀(e:D) (c:Nat->Value),e.cells.length=k->(∀j,j<k->RD ν x (c j) (e.cells.getD j .any))->gL m cs e->
    (jf m cs e).cells.length=k/\(jf m cs e).aV=true/\∀j,j<k->RD ν (x.nG f) (c j) ((jf m cs e).cells.getD j .any))(hes:∀i,i<es.length->(es.getD i .any).cells.length=k/\∀j,j<k->RD ν x (g i j) ((es.getD i .any).cells.getD j .any))(ho:∀e∈es,gL m cs e)(i:Nat)(hi:i<es.length):
  ((es.map (jf m cs)).getD i .any).cells.length=k/\((es.map (jf m cs)).getD i .any).aV=true/\∀j,j<k->RD ν (x.nG f) (g i j) (((es.map (jf m cs)).getD i .any).cells.getD j .any):=by
 have e1:(es.map (jf m cs)).getD i .any=jf m cs (es.getD i .any):=by simp[List.getD,hi]
 rw[e1];exact hV _ (g i) (hes i hi).1 (hes i hi).2 (ho _ (by rw[xM _ _ _ hi];exact List.getElem_mem _))
mutual
theorem wD (hs:fO ν x f)(hag:∀l,look m l≠none->f l=look m l):∀(s:Sh) (v:Value) (d:D),RD ν x v d->iD m s d->
  RD ν (x.nG f) v (k9 m s d)/\(k9 m s d).aV=true/\(d.cells.length=1->d.isAgg=false->(k9 m s d).cells=[k9 m s d])
 | .a,v,d,h,ho=>by
  simp only[iD]at ho;have hm:RD ν (x.nG f) v d:=h.mono (py x f);cases d<;>simp only[k9]<;>first
   |exact⟨hm,ho,λh1 h2=>by simp_all[D.cells,D.isAgg]⟩
   |skip
  cases h;exact⟨.sl none 0 0 0 0 0 [] (λ_ _=>undef) rfl (.inl rfl) (aR _) (by simp[maxLen]) (λ_ h=>ae) (λ_ h=>ae) (λ_ _ h=>ae) (λ_ _ h=>ae) (λ_ _ h=>ae),rfl,λ_ _=>rfl⟩
 | .sl k cs,v,d,h,ho=>by
  have hm:RD ν (x.nG f) v d:=h.mono (py x f);cases d<;>simp only[k9]<;>simp only[iD]at ho<;>first
   |exact⟨hm,ho,λh1 h2=>by simp_all[D.cells,D.isAgg]⟩
   |skip
  .cases h;exact⟨.sl none 0 0 0 0 k [] (λ_ _=>undef) rfl (.inl rfl) (aR _) (by simp[maxLen]) (λ_ h=>ix) (λ_ h=>ix) (λ_ _ h=>ix) (λ_ _ h=>ix) (λ_ _ h=>ix),rfl,λ_ _=>rfl⟩
  .rename_i l k' i c;obtain⟨hb,hel⟩:=ho;cases h with
   |own0=>
    simp only[List.take_zero,List.map_nil];exact⟨.sl _ 0 0 0 0 k' [] (λ_ _=>undef) rfl (.inl rfl) (aR _) (by simp[maxLen]) (λ_ h=>ix) (λ_ h=>ix) (λ_ _ h=>ix) (λ_ _ h=>ix) (λ_ _ h=>ix),rfl,λ_ _=>rfl⟩
   |own _ _ _ _ b base tot cap a hβ ha hcap hmx ht=>
    obtain⟨g1,g2,hnI,hk0,ht',cc,T,fr,q1,q2,q3,q4⟩:=xm hs hag hb hβ;have hlen:(((aK m l).drop i).take c).length=c:=ik _ _ _ g2;have hgt:∀j,j<c->(((aK m l).drop i).take c).getD j .any=(aK m l).getD (i+j) .any:=λj hj=>ez _ _ _ _ _ hj
    have hrow:=Ey (f:=f) (k:=k') (cs:=cs) (es:=((aK m l).drop i).take c) (g:=λi' j=>cc.getD (base+(i+i')*k'+j) undef) hk0 (wE hs hag cs)
     (λi' hi'=>by
       rw[hlen]at hi';rw[hgt i' hi'];exact⟨(q4 (i+i') ae).1,λj hj=>((q4 (i+i') ae).2 j hj).2⟩) hel
    refine⟨.sl (some a) b (base+i*k') c cap k' _ (λi' j=>cc.getD (base+(i+i')*k'+j) undef) (by rw[bj,hlen]) ?_ hcap hmx (λi' hi'=>(hrow i' ae).1) (λi' hi'=>(hrow i' ae).2.1) (λi' j hi' hj=>?_) (λi' j hi' hj=>?_) (λi' j hi' hj=>(hrow i' ae).2.2 j hj),rfl,λ_ _=>rfl⟩
    .by_cases hc0:c=0
     .left;exact lZ (by simp[hlen,hc0])
     .right;exact⟨by rw[ha ae],.inr ⟨l,_,hβ,rfl,by rw[g1];simp⟩⟩
    .have h1:=kY (tot:=tot) (show i+i'<tot by omega) hj;show x.w.cell? _=_;rw[<-cell_of_heap q1 (by omega:base+(i+i')*k'+j<cc.size)];congr 2;rw[Nat.add_mul];omega
    .exact((q4 (i+i') ae).2 j hj).1
 | .pt cs,v,d,h,ho=>by
  have hm:RD ν (x.nG f) v d:=h.mono (py x f);cases d<;>simp only[k9]<;>simp only[iD]at ho<;>first
   |exact⟨hm,ho,λh1 h2=>by simp_all[D.cells,D.isAgg]⟩
   |skip
  rename_i l k' i o;obtain⟨hb,hel⟩:=ho;cases h with
  |ptr _ _ _ _ b base tot at_ hβ hat=>
   obtain⟨g1,g2,hnI,hk0,ht',cc,T,fr,q1,q2,q3,q4⟩:=xm hs hag hb hβ;have hrow:=Ey (f:=f) (k:=k') (cs:=cs) (es:=aK m l) (g:=λi' j=>cc.getD (base+i'*k'+j) undef) hk0 (wE hs hag cs)
    (λi' hi'=>⟨(q4 i' hi').1,λj hj=>((q4 i' hi').2 j hj).2⟩) hel
   refine⟨.ref b base k' i o at_ _ (λi' j=>cc.getD (base+i'*k'+j) undef) (.inr ⟨l,_,hβ,rfl,by rw[g1];simp⟩) hat (λi' hi'=>(hrow i' (by simpa using hi')).1) (λi' hi'=>(hrow i' (by simpa using hi')).2.1)
    (λi' j hi' hj=>?_) (λi' j hi' hj=>((q4 i' (by simpa using hi')).2 j hj).1) (λi' j hi' hj=>(hrow i' (by simpa using hi')).2.2 j hj),rfl,λ_ _=>rfl⟩
   have h1:=kY (tot:=tot) (show i'<tot by simp at hi';omega) hj;exact cell_of_heap q1 ae
 | .kp cs,v,d,h,ho=>by
  have hm:RD ν (x.nG f) v d:=h.mono (py x f);cases d<;>simp only[k9]<;>simp only[iD]at ho<;>first
   |exact⟨hm,ho,λh1 h2=>by simp_all[D.cells,D.isAgg]⟩
   |skip
  rename_i l k' i c;obtain⟨hb,hel⟩:=ho;cases h with
  |own0=>
   simp only[List.take_zero,List.map_nil];exact⟨.sl _ 0 0 0 0 k' [] (λ_ _=>undef) rfl (.inl rfl) (aR _) (by simp[maxLen]) (λ_ h=>ix) (λ_ h=>ix) (λ_ _ h=>ix) (λ_ _ h=>ix) (λ_ _ h=>ix),rfl,λ_ _=>rfl⟩
  |own _ _ _ _ b base tot cap a hβ ha hcap hmx ht=>
   obtain⟨g1,g2,hnI,hk0,ht',cc,T,fr,q1,q2,q3,q4⟩:=xm hs hag hb hβ;have hlen:(((aK m l).drop i).take c).length=c:=ik _ _ _ g2;have hgt:∀j,j<c->(((aK m l).drop i).take c).getD j .any=(aK m l).getD (i+j) .any:=λj hj=>ez _ _ _ _ _ hj
   have hrow:=Ey (f:=f) (k:=k') (cs:=cs) (es:=((aK m l).drop i).take c) (g:=λi' j=>cc.getD (base+(i+i')*k'+j) undef) hk0 (wE hs hag cs)
    (λi' hi'=>by
      rw[hlen]at hi';rw[hgt i' hi'];exact⟨(q4 (i+i') ae).1,λj hj=>((q4 (i+i') ae).2 j hj).2⟩) hel
   refine⟨.sl (some a) b (base+i*k') c cap k' _ (λi' j=>cc.getD (base+(i+i')*k'+j) undef) (by rw[bj,hlen]) ?_ hcap hmx (λi' hi'=>(hrow i' ae).1) (λi' hi'=>(hrow i' ae).2.1) (λi' j hi' hj=>?_) (λi' j hi' hj=>?_) (λi' j hi' hj=>(hrow i' ae).2.2 j hj),rfl,λ_ _=>rfl⟩
   .by_cases hc0:c=0
    .left;exact lZ (by simp[hlen,hc0])
    .right;exact⟨by rw[ha ae],.inr ⟨l,_,hβ,rfl,by rw[g1];simp⟩⟩
   .have h1:=kY (tot:=tot) (show i+i'<tot by omega) hj;show x.w.cell? _=_;rw[<-cell_of_heap q1 (by omega:base+(i+i')*k'+j<cc.size)];congr 2;rw[Nat.add_mul];omega
   .exact((q4 (i+i') ae).2 j hj).1
theorem wE (hs:fO ν x f)(hag:∀l,look m l≠none->f l=look m l):∀(cs:ζ){k:Nat} (e:D) (c:Nat->Value),e.cells.length=k->(∀j,j<k->RD ν x (c j) (e.cells.getD j .any))->gL m cs e->
  (jf m cs e).cells.length=k/\(jf m cs e).aV=true/\∀j,j<k->RD ν (x.nG f) (c j) ((jf m cs e).cells.getD j .any)
 |[],k,e,c,hk,hc,ho=>by
  simp only[jf];simp only[gL]at ho;exact⟨hk,ho,λj hj=>(hc j hj).mono (py x f)⟩
 |s::r,k,e,c,hk,hc,ho=>by
  cases e<;>simp only[jf]<;>simp only[gL]at ho<;>try
   (obtain⟨h1,h2,h3⟩:=wD hs hag s (c 0) _ (by simp only[D.cells,bJ,cj]at hk;exact hc 0 ae) ho
    simp only[D.cells,bJ,cj]at hk;rw[h3 rfl rfl];subst hk;exact⟨rfl,h2,fun j hj=>by obtain rfl:j=0:=ae
                                                                                    exact h1⟩)
  .simp only[D.cells,cj]at hk;subst hk;cases s<;>simp only[k9]<;>exact⟨rfl,rfl,λj hj=>ae⟩
  .rename_i ds;obtain⟨a1,a2,a3⟩:=wF hs hag (s::r) ds c (λj hj=>hc j (by simpa[D.cells]using hk▸hj)) ho;simp only[D.cells]at hk⊢;exact⟨a1.trans hk,by rw[D.tR];exact a2,λj hj=>a3 j ae⟩
  .simp only[D.cells,cj]at hk;subst hk;cases s<;>simp only[k9,iD]at ho⊢ <;>exact⟨rfl,ho,λj hj=>ae⟩
theorem wF (hs:fO ν x f)(hag:∀l,look m l≠none->f l=look m l):∀(cs:ζ) (ds:Θ) (c:Nat->Value),(∀j,j<ds.length->RD ν x (c j) (ds.getD j .any))->kH m cs ds->
  (nL m cs ds).length=ds.length/\aP (nL m cs ds)=true/\∀j,j<ds.length->RD ν (x.nG f) (c j) ((nL m cs ds).getD j .any)
 |[],ds,c,hc,ho=>by
  simp only[kH]at ho;exact⟨by simp[nL],by simpa[nL]using ho,λj hj=>by simpa only[nL]using(hc j hj).mono (py x f)⟩
 |s::r,[],c,hc,ho=>by
  exact⟨by simp[nL],by simp[nL,aP],λj hj=>by simp at hj⟩
 |s::r,d::ds,c,hc,ho=>by
  simp only[nL];simp only[kH]at ho;obtain⟨h1,h2,_⟩:=wD hs hag s (c 0) d (by simpa using hc 0 aJ) ho.1;obtain⟨a1,a2,a3⟩:=wF hs hag r ds (λj=>c (j+1)) (λj hj=>by simpa using hc (j+1) fM) ho.2;refine⟨by simp[a1],by simp[aP,h2,a2],λj hj=>?_⟩;cases j with
  |zero=>simpa using h1
  |succ j=>simpa using a3 j nU
end
def wG (hs:fO ν x f)(hag:∀l,look m l≠none->f l=look m l)(sh:ζ)(v:Value)(d:D)(h:RD ν x v d)(ho:gL m sh d):RD ν (x.nG f) v (jf m sh d)/\(jf m sh d).aV=true:=by
 cases sh with
 |nil=>simp only[jf];simp only[gL]at ho;exact⟨h.mono (py x f),ho⟩
 |cons s r=>
  cases d<;>simp only[jf]<;>simp only[gL]at ho<;>first
   |(obtain⟨h1,h2,_⟩:=wD hs hag s v _ h ho;exact⟨h1,h2⟩)
   |skip
  rename_i ds;cases h with
  |agg cs _ hl h1 h=>
   obtain⟨a1,a2,a3⟩:=wF hs hag (s::r) ds (λj=>cs.getD j undef) h ho;exact⟨.agg cs _ (by rw[a1,hl]) (λi hi=>h1 i ae) (λi hi=>a3 i ae),by rw[D.tR];exact a2⟩
theorem kq (hs:fO ν x f)(hag:∀l,look m l≠none->f l=look m l):∀(ss:Ι) (ds:Θ) (c:Nat->Value),(∀j,j<ds.length->RD ν x (c j) (ds.getD j .any))->jm m ss ds->
  (iJ m ss ds).length=ds.length/\aP (iJ m ss ds)=true/\∀j,j<ds.length->RD ν (x.nG f) (c j) ((iJ m ss ds).getD j .any)
 |ss,[],c,hc,ho=>⟨by simp[iJ],by simp[iJ,aP],λj hj=>by simp at hj⟩
 |[],d::r,c,hc,ho=>by
  simp only[jm]at ho;obtain⟨h1,h2⟩:=wG hs hag [.a] (c 0) d (by simpa using hc 0 aJ) ho.1;obtain⟨a1,a2,a3⟩:=kq hs hag [] r (λj=>c (j+1)) (λj hj=>by simpa using hc (j+1) fM) ho.2
  grind [iJ,aP]
 |s::ss,d::r,c,hc,ho=>by
  simp only[jm]at ho;obtain⟨h1,h2⟩:=wG hs hag s (c 0) d (by simpa using hc 0 aJ) ho.1;obtain⟨a1,a2,a3⟩:=kq hs hag ss r (λj=>c (j+1)) (λj hj=>by simpa using hc (j+1) fM) ho.2
  grind [iJ,aP]
end
end
end Go.Abs
