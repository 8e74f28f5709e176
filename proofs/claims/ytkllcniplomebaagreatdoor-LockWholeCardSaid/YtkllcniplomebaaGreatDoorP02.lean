/- A part of the proofs. -/
import Derived.Deep.DeepAppendWide
import Derived.Great.BuildSlice
import Derived.Laws.Cover4
import Derived.Laws.IdiomStrings
import Derived.Laws.MakeOwn
import Derived.Lib.Strings
import Derived.MapKept
import Derived.WideKeyArr
import Derived.Test.YtkllcniplomebaaGreatDoorP01
set_option linter.all false
set_option maxRecDepth 60000
set_option maxHeartbeats 2000000
namespace Go.Abs
variable{t T ty:TypeId}{ν:List (Nat×Nat)}{k n tot l:Nat}{r:Result Next}{P:Program}(f:Nat->Option bm){lo:Option Operand}{f':Nat->Option bm}{news:List Value}{ti:TypeInfo}{q:Operand}{a:Option Addr}{c:Array Value}{xv z:Value}{fr:Nat×Nat}
section
variable [cI]
section
variable {x:X}
def qK {e:D}{o b at0:Nat}{ag:Bool}{c:Nat->Value}(hk:e.cells.length=k)(hle:o+n<=k)(hc:∀j,j<k->x.w.cell? ⟨b,at0+j,none⟩=some (c j)/\(c j).oneCell'=true/\RD ν x (c j) (e.cells.getD j .any))(hn:n=P.cellsOf ty)(hn0:P.cellsOf ty≠0)(hu:(P.underlying ty).isNone=false)(hag:ag=bW P ty)(h1:ag=false->n=1):
  ∃v,(loadVar ty ⟨b,at0+o,none⟩).run P x.w=.ok v x.w/\RD ν x v (kN e k n o ag):=by
 have hcut:∃v,(loadVar ty ⟨b,at0+o,none⟩).run P x.w=.ok v x.w/\RD ν x v (cut e.cells o n ag)/\(ag=true->v=.agg ((List.range n).map λj=>c (o+j)).toArray)/\(ag=false->v=c o):=by
  cases hb:ag
  .have hn1:=h1 hb;refine⟨c o, ?_,by simp only[cut,cond_false];exact(hc o ae).2.2,aF,λ_=>rfl⟩;rw[hb]at hag;unfold loadVar;rw[Sem.run_bind,v8 hu,<-hag];simp[Result.andThen,(hc o ae).1]
  .rw[hb]at hag;refine⟨.agg ((List.range n).map λj=>c (o+j)).toArray, ?_, ?_,λ_=>rfl,aF⟩
   .unfold loadVar;rw[Sem.run_bind,v8 hu,<-hag];have:=run_loadCells (P:=P) x.w ⟨b,at0+o,none⟩ n (λj=>c (o+j)) (λj hj=>by rw[Addr.A9,Nat.add_assoc];exact(hc (o+j) ae).1);simp[Result.andThen,dC hn0,<-hn,this]
   .simp only[cut,cond_true];refine .agg _ _ eJ (λi hi=>?_) (λi hi=>?_)
    .simp at hi;have:=(hc (o+i) ae).2.1;simpa[Array.getD,show i<n by omega]using this
    .simp at hi;rw[eh _ _ _ _ _ ae];have:=(hc (o+i) ae).2.2;simpa[Array.getD,show i<n by omega]using this
 obtain⟨v,r1,r2,r3,r4⟩:=hcut;refine⟨v,r1, ?_⟩;unfold kN;cases hb:(n==k)&&(e.isAgg==ag)
 .simpa using r2
 .simp only[aK,beq_iff_eq]at hb;obtain⟨hnk,hea⟩:=hb;simp only[cond_true];have ho:o=0:=ae;subst ho;cases hb:ag
  .rw[hb]at hea;have hv:=r4 hb;have hn1:=h1 hb;have hcell:=(hc 0 ae).2.2;rw[hv];cases e<;>simp only[D.cells,D.isAgg,b7,bH]at hk hea hcell<;>first|omega|exact absurd hea a7|exact hcell
  .rw[hb]at hea;cases e<;>simp only[D.isAgg,ib]at hea;rename_i ds;rw[r3 hb];simp only[D.cells]at hk hc;refine .agg _ _ eJ (λi hi=>?_) (λi hi=>?_)
   .have:=(hc i ae).2.1;simpa[Array.getD,show i<n by omega]using this
   .have:=(hc i ae).2.2;simpa[Array.getD,show i<n by omega]using this
end
section
variable {x:X}{f:Nat->Option bm}{C:CC}{defs:List (Option Nat)}{J:Src->aY}{ev:Operand->Value}{Y:Ctx}{m:List (Nat×bm)}{L:Nat}
def G5 {z:List D}(h:tg C.P t=some (.agg z)):∃i cs,C.P.info? t=some i/\i.zero=some (.agg cs)/\RD C.ν x (.agg cs) (.agg z):=by
 unfold tg at h;cases hi:C.P.info? t with
 |none=>simp[hi]at h
 |some i=>
  cases hz:i.zero with
  |none=>simp[hi,hz]at h
  |some v=>
   simp only[hi,hz,Option.bind_some]at h;have hr:RD C.ν x v (.agg z):=nr v _ h;cases v with
   |agg cs=>exact⟨i,cs,rfl,hz,hr⟩
   |_=>cases hr
theorem qn {z:D}(h:tg C.P t=some z):∃i v,C.P.info? t=some i/\i.zero=some v/\RD C.ν x v z:=by
 unfold tg at h;cases hi:C.P.info? t with
 |none=>simp[hi]at h
 |some i=>
  cases hz:i.zero with
  |none=>simp[hi,hz]at h
  |some v=>
   grind [nr]
def A2 {P:Program}(w:World):∀(fs:List Field),(∀f∈fs,(P.info? f.type).isSome=true)->
  (fs.mapM (λf=>(do pure (f.offset,<-sizeOf f.type):Sem (Nat×Nat)))).run P w=.ok (fs.map λf=>(f.offset,P.cellsOf f.type)) w
 |[],_=>aF
 |f::r,h=>by
  have hf:=h f aF;cases hi:P.info? f.type with
  |none=>simp[hi]at hf
  |some i=>
   have hr:=A2 w r (λg hg=>h g (by simp[hg]));simp only[List.mapM_cons,Sem.run_bind,run_sizeOf w hi,Result.andThen_ok,Sem.run_pure,hr];simp
def OL {op:BinOp}{d e:D}(h:Ba op d e):(∃k a k' b,d=.int k a/\e=.int k' b)\/(∃a b,d=.str a/\e=.str b):=by
 cases d<;>cases e<;>first|exact .inl ⟨_,_,_,_,rfl,rfl⟩|exact .inr ⟨_,_,rfl,rfl⟩|(simp only[Ba]at h)
def sx {op:BinOp}{u:TypeId}{p:Operand}{o:Oper}{v:Value}{w:World}(ho:o.op=.binOp op t p q u)(hg:(eqGuard op t p q (ev p) (ev q)).run P w=.ok () w)(hr:(binOp op t (ev p) (ev q)).run P w=.ok v w):(execOp ev o).run P w=.ok (.value v) w:=by
 simp[execOp,ho,hg,hr]
def Hi (op:BinOp)(hop:op=.eql\/op=.neq)(t:TypeId)(xs ys:Array Value)(b:Bool)(w:World)(P:Program)(h:(Op.equalIn 10000 t (.agg xs) (.agg ys)).run P w=.ok b w):
  (binOp op t (.agg xs) (.agg ys)).run P w=.ok (.bool (if op=.neq then !b else b)) w:=by
 rcases hop with rfl|rfl
 .rw[run_eql_struct,h];rfl
 .rw[run_neq_struct,h];rfl
theorem aln {len cap:Nat}{es:List D}{h:Nat}(hv:RD C.ν x (.slice a len cap) (.sl k es))(h1:l<=h)(h2:h<=es.length):
  RD C.ν x (.slice (if cap=l then a else a.map (·.add (l*k))) (h-l) (cap-l)) (.sl k ((es.take h).drop l)):=by
 cases hv with
 |sl _ b off _ _ _ _ c hlen ha hcap hm hk hn hc hone hh=>
  have hl':((es.take h).drop l).length=h-l:=eJ;have hg:∀i,i<h-l->((es.take h).drop l).getD i .any=es.getD (l+i) .any:=by
   intro i hi;simp[List.getD,List.getElem?_drop,List.getElem?_take,show l+i<h by omega]
  refine .sl _ b (off+l*k) (h-l) (cap-l) k _ (λi j=>c (l+i) j) hl'.symm ?_ ae ae (λi hi=>?_) (λi hi=>?_) (λi j hi hj=>?_) (λi j hi hj=>hone _ _ ae hj) (λi j hi hj=>?_)
  .grind [Addr.A9]
  .rw[hg i hi];exact hk _ ae
  .rw[hg i hi];exact hn _ ae
  .have:=hc (l+i) j ae hj;rw[<-this];congr 2;rw[Nat.add_mul];omega
  .rw[hg i hi];exact hh _ _ ae hj
def alk {len cap:Nat}{es:List D}{h m:Nat}(hv:RD C.ν x (.slice a len cap) (.sl k es))(h1:h<=m)(h2:m<=es.length):
  RD C.ν x (.slice (if m=0 then a else a.map (·.add (0*k))) h m) (.sl k (es.take h)):=by
 cases hv with
 |sl _ b off _ _ _ _ c hlen ha hcap hm hk hn hc hone hh=>
  have hl':(es.take h).length=h:=eJ;have hg:∀i,i<h->(es.take h).getD i .any=es.getD i .any:=by
   intro i hi;simp[List.getD,List.getElem?_take,hi]
  refine .sl _ b off h m k _ (λi j=>c i j) hl'.symm ?_ h1 ae (λi hi=>?_) (λi hi=>?_) (λi j hi hj=>hc i j ae hj) (λi j hi hj=>hone _ _ ae hj) (λi j hi hj=>?_)
  .by_cases he:h=0
   .left;exact lP ae
   .right;rw[ai ae];rcases ha with rfl|⟨rfl,hI⟩
    .simp at h2;omega
    .exact⟨by simp[Addr.add],hI⟩
  .rw[hg i hi];exact hk _ ae
  .rw[hg i hi];exact hn _ ae
  .rw[hg i hi];exact hh _ _ ae hj
def aer {v:Value}{L' i:Nat}(hv:RD C.ν x v (.own L' k i n)):
  ∃a cap,v=.slice a n cap/\n<=cap/\∀h m,h<=m->m<=n->RD C.ν x (.slice (if m=0 then a else a.map (·.add (0*k))) h m) (.own L' k i h):=by
 cases hv with
 |own _ _ _ _ b base tot cap a hβ ha hcap hm ht=>
  refine⟨some a,cap,rfl,hcap,λh m h1 h2=>?_⟩;have e:(if m=0 then some a else(some a).map (·.add (0*k)))=some a:=by simp[Addr.add]
  rw[e];exact .own L' k i h b base tot m a hβ (λhp=>ha ae) h1 ae ae
 |own0 _ _ _ a=>
  refine⟨a,0,rfl,aT _,λh m h1 h2=>?_⟩;obtain rfl:m=0:=ae;obtain rfl:h=0:=ae;exact .own0 _ _ _ _
def vF {vh vm:Value}{kh km:IntKind}{h m:Int}{len cap:Nat}(e1:vh=.int kh h)(e2:vm=.int km m)(h0:0<=h)(h1:h<=m)(h2:m<=cap):
  (Instr.sliceBounds true len cap none (some vh) (some vm)).run C.P x.w=.ok (0,h.toNat,m.toNat) x.w:=by
 subst e1;subst e2;simp[Instr.sliceBounds,run_sliceBound x.w km m cap .slice3Acap ae h2,run_sliceBound x.w kh h m.toNat .slice3B h0 ae]
theorem aes {v:Value}{L' i:Nat}(hv:RD C.ν x v (.own L' k i n)):
  ∃a cap,v=.slice a n cap/\n<=cap/\∀l h,l<=h->h<=n->RD C.ν x (.slice (if cap=l then a else a.map (·.add (l*k))) (h-l) (cap-l)) (.own L' k (i+l) (h-l)):=by
 cases hv with
 |own _ _ _ _ b base tot cap a hβ ha hcap hm ht=>
  refine⟨some a,cap,rfl,hcap,λl h h1 h2=>?_⟩;have e:(if cap=l then some a else(some a).map (·.add (l*k)))=some (if cap=l then a else a.add (l*k)):=by split<;>rfl
  rw[e];refine .own L' k (i+l) (h-l) b base tot (cap-l) _ hβ (λhp=>?_) ae ae ae
  grind [Addr.A9]
 |own0 _ _ _ a=>
  refine⟨a,0,rfl,aT _,λl h h1 h2=>?_⟩;obtain rfl:h=0:=ae;obtain rfl:l=0:=ae;exact .own0 _ _ _ _
def FC (s:List UInt8)(l h:Nat):(⟨⟨s⟩⟩:ByteArray).extract l h=⟨⟨(s.take h).drop l⟩⟩:=by
 rw[Lib.extract_eq,List.drop_take]
def Dr (h:C.opt defs lo=some none):lo=none:=by
 cases lo with
 |none=>rfl
 |some o=>simp[CC.opt]at h
def Ds {s:Src}(h:C.opt defs lo=some (some s)):∃o,lo=some o/\C.src defs o=some s:=by
 cases lo with
 |none=>simp[CC.opt]at h
 |some o=>simp only[CC.opt,c7,aC]at h;obtain⟨a,h1,rfl⟩:=h;exact⟨o,rfl,h1⟩
def qA {os':List Operand}(hρ:vz C defs J ev x os'){hi:Option Operand}(hml:∀o,lo=some o->o∈os')(hmh:∀o,hi=some o->o∈os'){l h:Option Src}(hl:C.opt defs lo=some l)(hh:C.opt defs hi=some h)(k1:MF J l)(k2:MF J h)(F3:Bool)(len cap:Nat)(hcap:F3=false->len=cap)(hle:len<=cap)(b2:nq (dO J h) len)(b1:nq (dO J l) (ef (dO J h) len)):
  (Instr.sliceBounds F3 len cap (lo.map ev) (hi.map ev) none).run C.P x.w=.ok (ef (dO J l) 0,ef (dO J h) len,cap) x.w/\ef (dO J l) 0<=ef (dO J h) len/\ef (dO J h) len<=len:=by
 have hh':∃code,(match hi.map ev with|some v=>Instr.sliceBound v cap code|none=>pure len:Sem Nat).run C.P x.w=.ok (ef (dO J h) len) x.w/\ef (dO J h) len<=len/\code=(if F3 then BoundsCode.sliceAcap else .sliceAlen):=by
  cases h with
  |none=>
   obtain rfl:=Dr hh;exact⟨_,by simp[dO,ef],by simp[dO,ef],rfl⟩
  |some s=>
   obtain⟨o,rfl,h1⟩:=Ds hh;have hv:=hρ o (hmh o rfl) s  h1 k2;simp only[dO]at b2;cases hd:(J s).d<;>simp only[hd,nq]at b2;rename_i kk n;rw[hd]at hv;refine⟨_, ?_, ?_,rfl⟩
   .simp only[Option.map_some,dO,ef,hd];rw[hv.dr,run_sliceBound x.w kk n cap _ b2.1 ae]
   .simp only[dO,ef,hd];omega
 obtain⟨code,g1,g2,rfl⟩:=hh';generalize ef (dO J h) len=B at*
 have hl':(match lo.map ev with|some v=>Instr.sliceBound v B .sliceB|none=>pure 0:Sem Nat).run C.P x.w=.ok (ef (dO J l) 0) x.w/\ef (dO J l) 0<=B:=by
  cases l with
  |none=>
   obtain rfl:=Dr hl;exact⟨by simp[dO,ef],by simp[dO,ef]⟩
  |some s=>
   obtain⟨o,rfl,h1⟩:=Ds hl;have hv:=hρ o (hml o rfl) s  h1 k1;simp only[dO]at b1;cases hd:(J s).d<;>simp only[hd,nq]at b1;rename_i kk n;rw[hd]at hv;refine⟨?_, ?_⟩
   .simp only[Option.map_some,dO,ef,hd];rw[hv.dr,run_sliceBound x.w kk n _ _ b1.1 b1.2]
   .simp only[dO,ef,hd];omega
 obtain⟨f1,f2⟩:=hl';refine⟨?_,f2,g2⟩;cases lo with
 |none=>
  simp only[Option.map_none,Sem.run_pure,Result.ok.injEq,dE]at f1;cases hi with
  |none=>
   simp only[Option.map_none,Sem.run_pure,Result.ok.injEq,dE]at g1;rw[<-f1,<-g1];simp[Instr.sliceBounds]
  |some v=>
   simp only[Option.map_some]at g1;rw[<-f1];simp[Instr.sliceBounds,g1]
 |some u=>
  have f1':(Instr.sliceBound (ev u) B .sliceB).run C.P x.w=.ok (ef (dO J l) 0) x.w:=f1;clear f1;generalize ef (dO J l) 0=A at*
  cases hi with
  |none=>
   simp only[Option.map_none,Sem.run_pure,Result.ok.injEq,dE]at g1;subst g1;simp only[Instr.sliceBounds,Option.map_some,Option.map_none,Sem.run_bind,Sem.run_pure,Result.andThen_ok,Option.isSome_none,ib,a8,f1']
  |some v=>
   have g1':(Instr.sliceBound (ev v) cap (if F3 then BoundsCode.sliceAcap else .sliceAlen)).run C.P x.w=.ok B x.w:=g1;simp only[Instr.sliceBounds,Option.map_some,Option.map_none,Sem.run_bind,Sem.run_pure,Result.andThen_ok,Option.isSome_none,ib,a8,g1',f1']
theorem HI {ks:List CK}{d:Nat}(ha:bW P t=false)(h1:∀k,P.underlying t=some (.int k)->False)(h2:P.underlying t=some .string->False)(h:gN P (d+1) t=some ks):P.underlying t=some .bool:=by
 grind [bW,gN]
def Bl {d:Nat}(h:P.underlying t=some .bool):gN P (d+1) t=some [.b]:=by
 unfold gN;simp[h]
def Oz (ν:List (Nat×Nat))(x:X)(d:D)(r:Result Next):=∃v,(r=.ok (.value v) x.w\/r=.ok .skip x.w/\v=undef)/\RD ν x v d
def gD {d:D}{v:Value}(hr:r=.ok (.value v) x.w)(hd:RD ν x v d):Oz ν x d r:=⟨v,.inl hr,hd⟩
def Oz.did {d:D}(h:Oz ν x d r)(hs:fG ν x f):BD ν x f L d r:=by
 obtain⟨v,h1,h2⟩:=h;exact⟨v,x,h1,.refl x,h2,hs,λ_ _=>rfl⟩
def Y5 {o:Oper}{i:az}(hgz:∀g,C.bR.contains (500000000+g)=true/\g<400000000->cI.gz g)(hcst:∀d,J (.c d)=⟨true,d⟩)(hsm:∀fid n,dK C.ν fid=some n->n<1000000)(hc:C.op defs o=some i)(hp:i.pure=true)(hρ:vz C defs J ev x o.op.operands.toList)(hob:i.eL Y J m)(hs:fG C.ν x f)(hgl:∀g,ev (.global g)=.pointer (some ⟨g,0,none⟩)):
  Oz C.ν x (i.val Y J m L) ((execOp ev o).run C.P x.w):=by
 cases ho:o.op with
 |move p=>
  simp only[CC.op,ho,c7]at hc;obtain⟨s,h1,rfl⟩:=hc;exact gD (by simp[execOp,ho]) (hρ p du s h1 hob)
 |assign p=>
  simp only[CC.op,ho,c7]at hc;obtain⟨s,h1,rfl⟩:=hc;exact gD (by simp[execOp,ho]) (hρ p du s h1 hob)
 |pick c a b=>
  simp only[CC.op,ho]at hc;split at hc
  .rename_i c' a' b' h1 h2 h3;simp only[aC]at hc;subst hc;obtain⟨k1,k2⟩:=hob;have hcv:=hρ c du c' h1 k1;cases hd:(J c').d<;>simp only[hd]at k2;rename_i t;rw[hd]at hcv;simp only[az.val,hd];refine gD ?_ (RD.pick (λht=>hρ a du a' h2 (k2.1 ht)) (λht=>hρ b du b' h3 (k2.2 ht)));simp[execOp,ho,hcv.jK,asBool]
  .cases hc
 |build t ps=>
  simp only[CC.op,ho]at hc;split at hc
  .rename_i z fs hz hu;split at hc;rotate_left
   .cases hc
   rename_i hplaces;simp only[c7]at hc;obtain⟨ss,h1,rfl⟩:=hc;obtain⟨ti,cs,hi,hzv,hr⟩:=G5 (x:=x) hz;have hsz:cs.size=z.length:=by cases hr with|agg _ _ hl _ _=>exact hl
   obtain⟨cs',g1,g2⟩:=sM hρ _ z.length ps.toList ss (λp hp=>KK) h1 hob cs z hsz hr;refine gD ?_ g2;have hpl:=A2 (P:=C.P) x.w fs.toList (λf hf=>(List.all_eq_true.1 hplaces) f hf);have hpl':(fs.mapM (λf:Field=>(do pure (f.offset,<-sizeOf f.type):Sem (Nat×Nat)))).run C.P x.w=.ok (fs.map λf:Field=>(f.offset,C.P.cellsOf f.type)) x.w:=by
    rw[Array.mapM_eq_mapM_toList,Sem.run_map,hpl];simp[Result.andThen,List.map_toArray];apply Array.ext';simp
   have hg:Instr.fill (λi:Nat=>(fs.map λf:Field=>(f.offset,C.P.cellsOf f.type))[i]?) cs (ps.map fun(i,o)=>(i,ev o)).toList=some cs':=by
    have e:(λi:Nat=>(fs.map λf:Field=>(f.offset,C.P.cellsOf f.type))[i]?)=(λi=>(fs[i]?).map λf:Field=>(f.offset,C.P.cellsOf f.type)):=by
     funext q;simp
    rw[e,Array.toList_map];exact g1
   simp only[execOp,ho,Instr.build,Sem.run_bind,zeroValue,run_typeInfo x.w hi,Result.andThen_ok,hzv,Sem.run_pure,run_underlying hu,hpl',Value.cells,hg]
  .rename_i z n e hz hu;split at hc
   .cases hc
   rename_i hce;simp only[c7]at hc;obtain⟨ss,h1,rfl⟩:=hc;obtain⟨ti,cs,hi,hzv,hr⟩:=G5 (x:=x) hz;have hsz:cs.size=z.length:=by cases hr with|agg _ _ hl _ _=>exact hl
   obtain⟨cs',g1,g2⟩:=sM hρ _ z.length ps.toList ss (λp hp=>KK) h1 hob cs z hsz hr;refine gD ?_ g2;have hg:Instr.fill (λi=>some (i*C.P.cellsOf e,C.P.cellsOf e)) cs (ps.map fun(i,o)=>(i,ev o)).toList=some cs':=by
    rw[Array.toList_map];exact g1
   simp only[execOp,ho,Instr.build,Sem.run_bind,zeroValue,run_typeInfo x.w hi,Result.andThen_ok,hzv,Sem.run_pure,run_underlying hu,dC hce,Value.cells,hg]
  .cases hc
 |nilCheck p=>
  simp only[CC.op,ho,c7]at hc;obtain⟨s,h1,rfl⟩:=hc;obtain⟨k1,k2⟩:=hob;have hv:=hρ p du s h1 k1;refine gD ?_ hv;cases hd:(J s).d<;>simp only[hd]at k2<;>rw[hd]at hv<;>generalize he:ev p=vp at hv<;>cases hv<;>simp[execOp,ho,he]
 |binOp op t p q u=>
  simp only[CC.op,ho]at hc;split at hc
  .rename_i a b h1 h2;have hbin:∀(i':az),i'=.bin op a b->i'.eL Y J m->Oz C.ν x (i'.val Y J m L) ((execOp ev o).run C.P x.w):=by
    rintro _ rfl ⟨k1,k2,k3⟩;have hv:=hρ p du a h1 k1;have hw:=hρ q du b h2 k2;rcases OL k3 with⟨kk,n,kk',n',e1,e2⟩|⟨s,s',e1,e2⟩
    .rw[e1]at hv k3;rw[e2]at hw k3;obtain⟨v,r1,r2⟩:=NQ (ν:=C.ν) (x:=x) (P:=C.P) (t:=t) x.w k3;refine gD (sx ho (oH _ _ _ _ (by rw[hv.dr];exact⟨aF,aF⟩) _) (by rw[hv.dr,hw.dr];exact r1)) ?_;simp only[az.val,e1,e2];exact r2
    .rw[e1]at hv k3;rw[e2]at hw k3;obtain⟨v,r1,r2⟩:=NR (ν:=C.ν) (x:=x) (P:=C.P) (t:=t) x.w k3;refine gD (sx ho (oH _ _ _ _ (by rw[hv.jW.1];exact⟨aF,aF⟩) _) (by rw[hv.jW.1,hw.jW.1];exact r1)) ?_;simp only[az.val,e1,e2];exact r2
   split at hc
   .simp only[aC]at hc;exact hc▸hbin _ rfl (hc▸hob)
   .simp only[aC]at hc;exact hc▸hbin _ rfl (hc▸hob)
   .rename_i hu1 hu2;split at hc
    .cases hc
    .rename_i hge;have hge':C.P.eqGuardType C.P.depth t=false:=by simpa using hge
     have heq:∀(neg:Bool) (ks:List CK),gN C.P 30 t=some ks->op=(if neg then .neq else .eql)->i=.eqA neg (bW C.P t) ks a b->Oz C.ν x (i.val Y J m L) ((execOp ev o).run C.P x.w):=by
      rintro neg ks hks hop rfl;obtain⟨k1,k2,a1,a2,f1,f2⟩:=hob;have hv:=hρ p du a h1 k1;have hw:=hρ q du b h2 k2;have hrun:=su (ν:=C.ν) (x:=x) (P:=C.P) 30 t ks hks 10000 ae (ev p) (ev q) _ _ x.w hv hw a1 a2 f1 f2;cases hag:bW C.P t
      .rw[hag]at a1 a2

       have hub:C.P.underlying t=some .bool:=HI (d:=29) hag hu1 hu2 hks;rw[Bl (d:=29) hub,aC]at hks;subst hks;have g1:=mf f1 a1;have g2:=mf f2 a2;cases e1:(J a).d<;>simp only[e1,CK.fits]at g1;cases e2:(J b).d<;>simp only[e2,CK.fits]at g2;rename_i b1 b2;rw[e1]at hv;rw[e2]at hw;refine gD (v:=.bool (if neg then !(b1==b2)else b1==b2)) (sx ho (oH _ _ _ _ (by rw[hv.jK];exact⟨aF,aF⟩) _) ?_) ?_
       .rw[hv.jK,hw.jK,hop];cases neg
        .simpa using run_eql_bool x.w t b1 b2 hub
        .simpa using run_neq_bool x.w t b1 b2 hub
       .simp only[az.val,e1,e2,D.cells,gU,eqD,fR];cases neg<;>exact .bool _
      .rw[hag]at a1 a2;cases e1:(J a).d<;>simp only[e1,D.isAgg,ib]at a1;cases e2:(J b).d<;>simp only[e2,D.isAgg,ib]at a2;rw[e1]at hv;rw[e2]at hw;rw[e1,e2]at hrun;generalize hep:ev p=vp at*
       generalize heq':ev q=vq at*
       cases hv with
       |agg xs _ p1 p2 p3=>
        cases hw with
        |agg ys _ q1 q2 q3=>
         refine gD (sx (v:=.bool (if op=.neq then !(gU (D.agg _).cells (D.agg _).cells)else gU (D.agg _).cells (D.agg _).cells)) ho (by rw[hep,heq'];exact run_eqGuard_agg x.w _ _ _ _ _ _ hge') (by rw[hep,heq'];exact Hi op (by cases neg<;>simp[hop]) t xs ys _ x.w C.P hrun)) ?_;simp only[az.val,e1,e2];cases neg<;>simp only[hop,bo,a8,ib,cond_true,cond_false,reduceCtorEq]<;>exact .bool _
     split at hc
     .rename_i ks hks;simp only[aC]at hc;exact heq false ks hks rfl hc.symm
     .rename_i ks hks;simp only[aC]at hc;exact heq true ks hks rfl hc.symm
     .split at hc
      .simp only[aC]at hc;subst hc;simp[az.pure]at hp
      .cases hc
     .split at hc
      .simp only[aC]at hc;subst hc;simp[az.pure]at hp
      .cases hc
     .cases hc
  .cases hc
 |store t p q=>simp only[CC.op,ho]at hc;(repeat' split at hc)<;>simp_all[az.pure]<;>(subst hc;simp at hp)
 |unOp op t p=>
  simp only[CC.op,ho,c7]at hc;obtain⟨s,h1,rfl⟩:=hc;obtain⟨k1,k2⟩:=hob;have hv:=hρ p du s h1 k1;cases op<;>cases hd:(J s).d<;>simp only[hd]at k2<;>rw[hd]at hv<;>simp only[az.val,hd]
  .exact gD (by simp[execOp,ho,hv.dr,Op.unary,Op.intArith]) (.int _ _)
  .exact gD (by simp[execOp,ho,hv.jK,Op.unary]) (.bool _)
 |convert s d p=>
  simp only[CC.op,ho]at hc;split at hc
  .rename_i ks k a hu1 hu2 h1;simp only[aC]at hc;subst hc;obtain⟨k1,k2⟩:=hob;have hv:=hρ p du a h1 k1;cases hd:(J a).d<;>simp only[hd]at k2;rw[hd]at hv;simp only[az.val,hd];exact gD (by simp[execOp,ho,hv.dr,convert,run_underlying hu1,run_underlying hu2,Conv.intToInt]) (.int _ _)
  .split at hc
   .simp only[aC]at hc;subst hc;simp[az.pure]at hp
   .cases hc
  .split at hc
   .simp only[aC]at hc;subst hc;simp[az.pure]at hp
   .cases hc
  .cases hc
 |makeFunc fn first caps=>
  cases fn with
  |func fid=>
   simp only[CC.op,ho]at hc;split at hc
   .rename_i n l h1 h2;split at hc
    .rename_i hfe;simp only[aC]at hc;subst hc;obtain⟨e1,e2,e3⟩:=iz hρ caps.toList l (λo' ho'=>by simp only[ho,Op.operands,Array.toList_append,List.mem_append];exact .inr ho') h2 hob;have hf0:first=#[]:=by simpa using hfe
     refine gD (v:=.func (.func fid) #[] (caps.map ev)) (by simp[execOp,ho,Instr.makeFunc,hf0]) ?_;refine .fn fid n _ _ h1 (by simp[e2]) (λi hi=>?_);have:=e3 i hi;rw[<-bL,Array.toList_map];exact this
    .split at hc
     .rename_i hle;simp only[c7]at hc;obtain⟨l1,hl1,rfl⟩:=hc;obtain⟨e1,e2,e3⟩:=iz hρ first.toList l1 (λo' ho'=>by simp only[ho,Op.operands,Array.toList_append,List.mem_append];exact .inl ho') hl1 hob
      obtain⟨_,q2,_⟩:=iz hρ caps.toList l (λo' ho'=>by simp only[ho,Op.operands,Array.toList_append,List.mem_append];exact .inr ho') h2 (by rw[List.isEmpty_iff.1 hle];trivial);have hf0:caps=#[]:=by
       rw[List.isEmpty_iff.1 hle]at q2;exact Array.eq_empty_of_size_eq_zero (by simpa[iL]using q2.symm)
      refine gD (v:=.func (.func fid) (first.map ev) #[]) (by simp[execOp,ho,Instr.makeFunc,hf0]) ?_;refine .ef fid n _ _ h1 (by simp[e2]) (λi hi=>?_);have:=e3 i hi;rw[<-bL,Array.toList_map];exact this
     .cases hc
   .cases hc
  |_=>simp[CC.op,ho]at hc
 |lookup t p q ok=>
  cases ok with
  |true=>simp only[CC.op,ho]at hc;(repeat' split at hc)<;>simp_all[az.pure]<;>(subst hc;simp_all[az.pure])
  |false=>simp[CC.op,ho]at hc
 |slice t p lo hi mx=>
  simp only[CC.op,ho]at hc;split at hc
  .rename_i a l h hu h1 hl hh;simp only[aC]at hc;subst hc;obtain⟨k1,k2,k3,k4⟩:=hob;have hv:=hρ p du a h1 k1;cases hd:(J a).d<;>simp only[hd]at k4;rename_i s;rw[hd]at hv;obtain⟨e1,e2⟩:=hv.jW;obtain⟨b1,b2,b3⟩:=qA hρ tk tk hl hh k2 k3 false s.length s.length (λ_=>rfl) (aT _) k4.1 k4.2;simp only[az.val,hd];have hsz:(⟨⟨s⟩⟩:ByteArray).size=s.length:=rfl;refine gD (v:=.string ⟨⟨(s.take (ef (dO J h) s.length)).drop (ef (dO J l) 0)⟩⟩) ?_ (.str _ eJ);simp[execOp,ho,e1,Instr.sliceAt,Instr.slice,run_underlying hu,hsz,b1,FC]
  .rename_i e a l h hu h1 hl hh;split at hc
   .cases hc
   rename_i hce;simp only[aC]at hc;subst hc;obtain⟨k1,k2,k3,k4⟩:=hob;have hv:=hρ p du a h1 k1;cases hd:(J a).d<;>simp only[hd]at k4
   ·
    rw[hd]at hv;obtain⟨b1,b2,b3⟩:=qA hρ tk tk hl hh k2 k3 true 0 0 (λe=>by simp at e) (aT _) k4.1 (by
     have:ef (dO J h) 0=0:=by
      have:=k4.1;cases hdh:dO J h with
      |none=>rfl
      |some d=>rw[hdh]at this;cases d<;>simp_all[nq,ef]
     rw[this];exact k4.2)
    simp only[az.val,hd];have e0:ev p=.slice none 0 0:=by generalize ev p=vp at hv;cases hv;rfl
    refine gD (v:=.slice none 0 0) ?_ .aR;have z1:ef (dO J l) 0=0:=ae;have z2:ef (dO J h) 0=0:=ae;rw[z1,z2]at b1;simp[execOp,ho,e0,Instr.sliceAt,Instr.slice,run_underlying hu,b1,dC hce]
   .rename_i k es;rw[hd]at hv;simp only[az.val,hd];generalize hep:ev p=vp at hv;have hv2:=hv;cases hv with
    |sl aa b off len cap _ _ c hlen ha hcap hm hk hn hc' hone hh'=>
     subst hlen;obtain⟨b1,b2,b3⟩:=qA hρ tk tk hl hh k2 k3 true es.length cap (λe=>by simp at e) hcap k4.2.1 k4.2.2;refine gD (v:=.slice (if cap=ef (dO J l) 0 then aa else aa.map (·.add (ef (dO J l) 0*C.P.cellsOf e))) (ef (dO J h) es.length-ef (dO J l) 0) (cap-ef (dO J l) 0)) ?_ ?_
     .simp[execOp,ho,hep,Instr.sliceAt,Instr.slice,run_underlying hu,b1,dC hce]
     .rw[<-k4.1];exact aln hv2 b2 b3
   .rename_i L' k i n;rw[hd]at hv;simp only[az.val,hd];obtain⟨k5,k6,k7⟩:=k4;obtain⟨aa,cap,he,hle0,hr⟩:=aes hv;obtain⟨b1,b2,b3⟩:=qA hρ tk tk hl hh k2 k3 true n cap (λe=>by simp at e) hle0 k6 k7;refine gD ?_ (hr _ _ b2 b3);simp only[execOp,ho,he,Instr.sliceAt,Instr.slice,run_underlying hu,Sem.run_bind,Result.andThen_ok,Option.map_none,b1,dC hce,Sem.run_pure,k5]
  .rename_i e a h mo hu h1 hl hh;obtain rfl:=Dr hl;obtain⟨oh,rfl,hh1⟩:=Ds hh;split at hc;rotate_left
   .cases hc
   rename_i ms hms;split at hc
   .cases hc
   rename_i hce;simp only[aC]at hc;subst hc;obtain⟨k1,k2,k3,k4⟩:=hob;have hv:=hρ p du a h1 k1;have hvh:=hρ oh rB h hh1 k2;have hvm:=hρ mo rB ms hms k3;cases hdh:(J h).d<;>simp only[hdh]at k4;cases hdm:(J ms).d<;>simp only[hdm]at k4;rename_i kh nh km nm;rw[hdh]at hvh;rw[hdm]at hvm;obtain⟨p1,p2,p3⟩:=k4;cases hd:(J a).d<;>simp only[hd]at p3
   ·
    rw[hd]at hv;simp only[az.val,hd,hdh];have e0:ev p=.slice none 0 0:=by generalize ev p=vp at hv;cases hv;rfl
    have b1:=vF (C:=C) (x:=x) (len:=0) (cap:=0) hvh.dr hvm.dr p1 p2 ae;refine gD (v:=.slice none 0 0) ?_ .aR;have z1:nh.toNat=0:=ae;have z2:nm.toNat=0:=ae;rw[z1,z2]at b1;simp[execOp,ho,e0,Instr.sliceAt,Instr.slice,run_underlying hu,b1,dC hce]
   .rename_i k es;rw[hd]at hv;simp only[az.val,hd,hdh];generalize hep:ev p=vp at hv;have hv2:=hv;cases hv with
    |sl aa b off len cap _ _ c hlen ha hcap hm hk hn hc' hone hh'=>
     subst hlen;have b1:=vF (C:=C) (x:=x) (len:=es.length) (cap:=cap) hvh.dr hvm.dr p1 p2 ae;refine gD (v:=.slice (if nm.toNat=0 then aa else aa.map (·.add (0*C.P.cellsOf e))) nh.toNat nm.toNat) ?_ ?_
     .simp[execOp,ho,hep,Instr.sliceAt,Instr.slice,run_underlying hu,b1,dC hce]
     .rw[<-p3.1];exact alk hv2 ae ae
   .rename_i L' k i n;rw[hd]at hv;simp only[az.val,hd,hdh];obtain⟨k5,k6⟩:=p3;obtain⟨aa,cap,he,hle0,hr⟩:=aer hv;have b1:=vF (C:=C) (x:=x) (len:=n) (cap:=cap) hvh.dr hvm.dr p1 p2 ae;refine gD ?_ (hr nh.toNat nm.toNat ae ae);simp only[execOp,ho,he,Instr.sliceAt,Instr.slice,run_underlying hu,Sem.run_bind,Result.andThen_ok,Option.map_none,Option.map_some,b1,dC hce,Sem.run_pure,k5,Nat.sub_zero]
  .cases hc
 |fieldAddr t p fi=>
  simp only[CC.op,ho]at hc;split at hc
  .rename_i fs a hu h1;split at hc
   .rename_i fl hfl;split at hc
    .cases hc
    rename_i hce;simp only[aC]at hc;subst hc;obtain⟨k1,k2⟩:=hob;have hv:=hρ p du a h1 k1;have hrun:∀(b c:Nat),ev p=.pointer (some ⟨b,c,none⟩)->(execOp ev o).run C.P x.w=.ok (.value (.pointer (some ⟨b,c+fl.offset,none⟩))) x.w:=by
     intro b c he;simp[execOp,ho,he,Instr.fieldAt,run_underlying hu,hfl,Instr.sureAddr,fieldPlace,dC hce,hce,Addr.A9]
    cases hd:(J a).d<;>simp only[hd]at k2
    .rename_i k es i o';rw[hd]at hv;simp only[az.val,hd];generalize hep:ev p=vp at hv;cases hv with
     |ref b off _ _ _ at_ _ c hI hat hk hn hc' h1' hh'=>
      exact gD (hrun _ _ hep) (.ref b off k i (o'+fl.offset) _ es c hI ae hk hn hc' h1' hh')
    .rename_i l k i o';rw[hd]at hv;simp only[az.val,hd];generalize hep:ev p=vp at hv;cases hv with
     |ptr _ _ _ _ b base tot at_ hβ hat=>
      exact gD (hrun _ _ hep) (.ptr l k i (o'+fl.offset) b base tot _ hβ ae)
   .cases hc
  .cases hc
 |field t p fi=>
  simp only[CC.op,ho]at hc;split at hc
  .rename_i fs a hu h1;split at hc
   .rename_i fl hfl;split at hc
    .cases hc
    rename_i hce;simp only[aC]at hc;subst hc;obtain⟨k1,k2⟩:=hob;have hv:=hρ p du a h1 k1;cases hd:(J a).d<;>simp only[hd]at k2;rename_i ds;rw[hd]at hv;generalize hep:ev p=vp at hv;have hv2:=hv;cases hv with
    |agg cs _ _ _ _=>
     obtain⟨v,r1,r2⟩:=qd (P:=C.P) (t:=fl.type) (off:=fl.offset) (n:=C.P.cellsOf fl.type) (ag:=bW C.P fl.type) x.w hv2 (λe=>hce (.inl e)) (by cases hn:(C.P.underlying fl.type).isNone with|false=>rfl|true=>exact absurd (.inr hn) hce) rfl rfl k2.1 k2.2;refine gD (v:=v) ?_ (by simp only[az.val,hd,D.cells];exact r2);simp[execOp,ho,hep,Instr.field,run_underlying hu,hfl,asAgg,r1]
   .cases hc
  .cases hc
 |indexAddr t p q=>
  simp only[CC.op,ho]at hc;split at hc
  .rename_i e a b hu h1 h2;split at hc
   .cases hc
   rename_i hce;simp only[aC]at hc;subst hc;obtain⟨k1,k2,k3⟩:=hob;have hv:=hρ p du a h1 k1;have hw:=hρ q du b h2 k2;cases hd2:(J b).d<;>cases hd:(J a).d<;>simp only[hd,hd2]at k3
   .rename_i kk n k es;rw[hd]at hv;rw[hd2]at hw;obtain⟨k4,k5,k6⟩:=k3;simp only[az.val,hd,hd2];generalize hep:ev p=vp at hv;cases hv with
    |sl aa b' off len cap _ _ c hlen ha hcap hm hk hn hc' hone hh'=>
     rcases ha with rfl|⟨rfl,hI⟩
     .simp at k6;omega
     .refine gD (v:=.pointer (some ⟨b',off+n.toNat*C.P.cellsOf e,none⟩)) ?_ ?_
      .simp[execOp,ho,hep,hw.dr,Instr.indexAt,asIntOf,run_underlying hu,hlen,k5,k6,dC hce,Addr.A9]
      .subst hlen;exact .ref b' off k n.toNat 0 _ es c hI (by rw[k4];omega) hk hn hc' hone hh'
   .rename_i kk n L' k i len;rw[hd]at hv;rw[hd2]at hw;obtain⟨k4,k5,k6⟩:=k3;simp only[az.val,hd,hd2];generalize hep:ev p=vp at hv;cases hv with
    |own _ _ _ _ b' base tot cap aa hβ ha hcap hm ht=>
     have ha':=ha ae;subst ha';refine gD (v:=.pointer (some ⟨b',base+i*k+n.toNat*C.P.cellsOf e,none⟩)) ?_ ?_
     .simp[execOp,ho,hep,hw.dr,Instr.indexAt,asIntOf,run_underlying hu,k5,k6,dC hce,Addr.A9]
     .exact .ptr L' k (i+n.toNat) 0 b' base tot _ hβ (by rw[Nat.add_mul,k4];omega)
    |own0=>omega
  .rename_i len e a b hu h1 h2;split at hc
   .cases hc
   rename_i hce;simp only[aC]at hc;subst hc;obtain⟨k1,k2,k3⟩:=hob;have hv:=hρ p du a h1 k1;have hw:=hρ q du b h2 k2;have hrun:∀(b c:Nat) (kk:IntKind) (n:Int),ev p=.pointer (some ⟨b,c,none⟩)->ev q=.int kk n->0<=n->n<len->(execOp ev o).run C.P x.w=.ok (.value (.pointer (some ⟨b,c+n.toNat*C.P.cellsOf e,none⟩))) x.w:=by
    intro b c kk n he he' g1 g2;simp[execOp,ho,he,he',Instr.indexAt,asIntOf,run_underlying hu,Instr.sureAddr,g1,g2,dC hce,Addr.A9]
   cases hd2:(J b).d<;>cases hd:(J a).d<;>simp only[hd,hd2]at k3
   .rename_i kk n k es i o';rw[hd]at hv;rw[hd2]at hw;simp only[az.val,hd,hd2];generalize hep:ev p=vp at hv;cases hv with
    |ref b' off _ _ _ at_ _ c hI hat hk hn hc' h1' hh'=>
     exact gD (hrun _ _ _ _ hep hw.dr k3.1 k3.2) (.ref b' off k i (o'+n.toNat*C.P.cellsOf e) _ es c hI ae hk hn hc' h1' hh')
   .rename_i kk n L' k i o';rw[hd]at hv;rw[hd2]at hw;simp only[az.val,hd,hd2];generalize hep:ev p=vp at hv;cases hv with
    |ptr _ _ _ _ b' base tot at_ hβ hat=>
     exact gD (hrun _ _ _ _ hep hw.dr k3.1 k3.2) (.ptr L' k i (o'+n.toNat*C.P.cellsOf e) b' base tot _ hβ ae)
  .cases hc
 |index t p q=>
  simp only[CC.op,ho]at hc;split at hc
  .rename_i a b hu h1 h2;simp only[aC]at hc;subst hc;obtain⟨k1,k2,k3⟩:=hob;have hv:=hρ p du a h1 k1;have hw:=hρ q du b h2 k2;cases hd2:(J b).d<;>cases hd:(J a).d<;>simp only[hd,hd2]at k3;rename_i kk n s;rw[hd]at hv;rw[hd2]at hw;obtain⟨e1,e2⟩:=hv.jW;simp only[az.val,hd,hd2];have hsz:(⟨⟨s⟩⟩:ByteArray).size=s.length:=rfl;have hlt:n.toNat<s.length:=ae;refine gD (v:=.int .u8 (s.getD n.toNat 0).toNat) ?_ (.int _ _);simp only[execOp,ho,e1,hw.dr,Sem.run_bind,run_index_string x.w t _ kk n hu,hsz];rw[dif_pos k3];simp only[Result.andThen_ok,Sem.run_pure];congr 4;show(((⟨s⟩:Array UInt8)[n.toNat]'hlt)).toNat=_;simp[List.getD,hlt]
  .rename_i len e a b hu h1 h2;split at hc
   .cases hc
   rename_i hce;simp only[aC]at hc;subst hc;obtain⟨k1,k2,k0,k3⟩:=hob;have hv:=hρ p du a h1 k1;have hw:=hρ q du b h2 k2;cases hd2:(J b).d<;>cases hd:(J a).d<;>simp only[hd,hd2]at k3;rename_i kk n ds;rw[hd]at hv;rw[hd2]at hw;generalize hep:ev p=vp at hv;have hv2:=hv;cases hv with
   |agg cs _ _ _ _=>
    have hb:n.toNat*C.P.cellsOf e+C.P.cellsOf e<=ds.length:=by
     rw[k3.2.2,<-Nat.succ_mul];exact fL _ ae
    obtain⟨v,r1,r2⟩:=qd (P:=C.P) (t:=e) (off:=n.toNat*C.P.cellsOf e) (n:=C.P.cellsOf e) (ag:=bW C.P e) x.w hv2 (λe=>hce (.inl e)) (by cases hn:(C.P.underlying e).isNone with|false=>rfl|true=>exact absurd (.inr hn) hce) rfl rfl hb k0;refine gD (v:=v) ?_ (by simp only[az.val,hd,hd2,D.cells];exact r2);simp[execOp,ho,hep,hw.dr,Instr.index,asIntOf,run_underlying hu,k3.1,k3.2.1,dC (λe=>hce (.inl e)),r1]
  .cases hc
 |extract p n=>
  simp only[CC.op,ho,c7]at hc;obtain⟨s,h1,rfl⟩:=hc;obtain⟨k1,k2⟩:=hob;have hv:=hρ p du s h1 k1;cases hd:(J s).d<;>simp only[hd]at k2;rw[hd]at hv;generalize hep:ev p=vp at hv;cases hv with
  |tup cs _ hl hh=>
   have hlt:n<cs.size:=ae;refine gD (v:=cs.getD n undef) ?_ (by simp only[az.val,hd];exact hh n k2);simp[execOp,ho,hep,Instr.extract,Array.getElem?_eq_getElem hlt,Array.getD,hlt]
 |call c=>
  obtain⟨callee,args,argTypes⟩:=c;cases callee with
  |builtin bu=>
   cases bu with
   |len=>
    simp only[CC.op,ho]at hc;split at hc
    .rename_i p t hargs htys;have hargs':args=#[p]:=by apply Array.ext';simpa using hargs
     have htys':argTypes=#[t]:=by apply Array.ext';simpa using htys
     subst hargs';subst htys';split at hc
     .rename_i a h1 hu;simp only[aC]at hc;subst hc;obtain⟨k1,k2⟩:=hob;have hv:=hρ p du a h1 k1;have hrun:∀s,ev p=.string s->(execOp ev o).run C.P x.w=.ok (.value (.int .i64 s.size)) x.w:=by
       intro s he;simp[execOp,ho,resolve,invoke,builtin,Builtin.len_,he,run_underlying hu,goInt]
      cases hd:(J a).d<;>simp only[hd]at k2
      .rw[hd]at hv;simp only[az.val,hd];exact gD (hrun _ hv.jW.1) (.int _ _)
     .rename_i a e h1 hu;simp only[aC]at hc;subst hc;obtain⟨k1,k2⟩:=hob;have hv:=hρ p du a h1 k1;have hrun:∀b n cc,ev p=.slice b n cc->(execOp ev o).run C.P x.w=.ok (.value (.int .i64 n)) x.w:=by
       intro b n cc he;simp[execOp,ho,resolve,invoke,builtin,Builtin.len_,he,run_underlying hu,goInt]
      cases hd:(J a).d<;>simp only[hd]at k2
      .rw[hd]at hv;simp only[az.val,hd];generalize hep:ev p=vp at hv;cases hv;exact gD (hrun _ _ _ hep) (.int _ _)
      .rw[hd]at hv;simp only[az.val,hd];generalize hep:ev p=vp at hv;cases hv with
       |sl aa b off len cap _ _ cf hlen ha hcap hm hk hn hc' hone hh'=>
        subst hlen;exact gD (hrun _ _ _ hep) (.int _ _)
      .rw[hd]at hv;simp only[az.val,hd];generalize hep:ev p=vp at hv;cases hv with
       |own _ _ _ _ b base tot cap aa hβ ha hcap hm ht=>
        exact gD (hrun _ _ _ hep) (.int _ _)
       |own0=>exact gD (hrun _ _ _ hep) (.int _ _)
     .cases hc
    .cases hc
   |min=>
    simp only[CC.op,ho]at hc;split at hc
    .rename_i p q hargs;have hargs':args=#[p,q]:=by apply Array.ext';simpa using hargs
     subst hargs';split at hc
     .rename_i a b h1 h2;simp only[aC]at hc;subst hc;obtain⟨k1,k2,k3⟩:=hob;have hv:=hρ p du a h1 k1;have hw:=hρ q du b h2 k2;cases hd:(J a).d<;>cases he:(J b).d<;>simp only[hd,he]at k3;rw[hd]at hv;rw[he]at hw;simp only[az.val,hd,he];refine gD ?_ (.int _ _);simp[execOp,ho,resolve,invoke,builtin,Builtin.min_,Builtin.min2,hv.dr,hw.dr]
     .cases hc
    .cases hc
   |max=>
    simp only[CC.op,ho]at hc;split at hc
    .rename_i p q hargs;have hargs':args=#[p,q]:=by apply Array.ext';simpa using hargs
     subst hargs';split at hc
     .rename_i a b h1 h2;simp only[aC]at hc;subst hc;obtain⟨k1,k2,k3⟩:=hob;have hv:=hρ p du a h1 k1;have hw:=hρ q du b h2 k2;cases hd:(J a).d<;>cases he:(J b).d<;>simp only[hd,he]at k3;rw[hd]at hv;rw[he]at hw;simp only[az.val,hd,he];refine gD ?_ (.int _ _);simp[execOp,ho,resolve,invoke,builtin,Builtin.max_,Builtin.max2,hv.dr,hw.dr]
     .cases hc
    .cases hc
   |append=>simp only[CC.op,ho]at hc;(repeat' split at hc)<;>simp_all[az.pure]<;>(subst hc;simp_all[az.pure])
   |_=>simp[CC.op,ho]at hc
  |value f=>
   cases f with
   |func fid=>simp only[CC.op,ho]at hc;(repeat' split at hc)<;>simp_all[az.pure]<;>(subst hc;simp_all[az.pure])
   |tmp t=>simp only[CC.op,ho]at hc;(repeat' split at hc)<;>simp_all[az.pure]<;>(subst hc;simp_all[az.pure])
   |_=>simp[CC.op,ho]at hc
  |invoke r n=>simp[CC.op,ho]at hc
 |alloc t=>simp only[CC.op,ho]at hc;(repeat' split at hc)<;>simp_all[az.pure]<;>(subst hc;simp_all[az.pure])
 |box t p=>simp only[CC.op,ho]at hc;(repeat' split at hc)<;>simp_all[az.pure]<;>(subst hc;simp_all[az.pure])
 |buildSlice t n ps=>simp only[CC.op,ho]at hc;(repeat' split at hc)<;>simp_all[az.pure]<;>(subst hc;simp_all[az.pure])
 |load t p=>
  simp only[CC.op,ho]at hc;split at hc
  .rename_i d hg;obtain rfl:=bc hc;cases p with
   |global g=>
    simp only[CC.XP]at hg;split at hg
    .rename_i hh;obtain rfl:=bc hg;obtain⟨h1,h2,h3,h4⟩:=hh;have hcell:=cI.gzr x g hs.gd (hgz g h1);obtain⟨v,r1,r2⟩:=qK (ν:=C.ν) (x:=x) (P:=C.P) (e:=zVD) (k:=5) (n:=5) (o:=0) (b:=g) (at0:=0) (ag:=true) (ty:=t) (c:=zVv) rfl ae
      (λj hj=>⟨by simpa using hcell j hj,by unfold zVv;split<;>rfl,by
        unfold zVv zVD
        match j,hj with
        |0,_=>exact .int _ _
        |1,_=>exact .int _ _
        |2,_=>exact .int _ _
        |3,_=>exact .str [] aF
        |4,_=>exact .str [] aF⟩) h2.symm ae h4 h3.symm (λh=>cw)
     refine gD (v:=v) ?_ (by simp only[az.val,hcst];exact r2);have hev:ev (.global g)=.pointer (some ⟨g,0,none⟩):=hgl g;simp[execOp,ho,hev,Instr.loadAt,Instr.sureAddr,r1]
    .cases hg
   |_=>simp[CC.XP]at hg
  ·(repeat' split at hc)<;>simp_all[az.pure]<;>(subst hc;simp_all[az.pure])
 |makeSlice t a b=>simp only[CC.op,ho]at hc;(repeat' split at hc)<;>simp_all[az.pure]<;>(subst hc;simp_all[az.pure])
 |range t p=>simp only[CC.op,ho]at hc;(repeat' split at hc)<;>simp_all[az.pure]<;>(subst hc;simp_all[az.pure])
 |next it b=>
  cases b
  .simp[CC.op,ho]at hc
  .simp only[CC.op,ho,c7]at hc;obtain⟨s,h1,rfl⟩:=hc;simp[az.pure]at hp
 |makeMap t r=>cases r<;>simp only[CC.op,ho]at hc<;>(try cases hc)<;>(repeat' split at hc)<;>simp_all[az.pure]<;>(subst hc;simp_all[az.pure])
 |mapUpdate t a b c=>simp only[CC.op,ho]at hc;(repeat' split at hc)<;>simp_all[az.pure]<;>(subst hc;simp_all[az.pure])
 |_=>simp[CC.op,ho]at hc
def aeo {o:Oper}{i:az}(hgz:∀g,C.bR.contains (500000000+g)=true/\g<400000000->cI.gz g)(hcst:∀d,J (.c d)=⟨true,d⟩)(hsm:∀fid n,dK C.ν fid=some n->n<1000000)(hc:C.op defs o=some i)(hp:i.pure=true)(hρ:vz C defs J ev x o.op.operands.toList)(hob:i.eL Y J m)(hs:fG C.ν x f)(hgl:∀g,ev (.global g)=.pointer (some ⟨g,0,none⟩)):
  BD C.ν x f L (i.val Y J m L) ((execOp ev o).run C.P x.w):=(Y5 hgz hcst hsm hc hp hρ hob hs hgl).did hs
end
end
abbrev aE (Y:Ctx)(n:Nat)(ds:List D)(d:D):Prop:=Y.pre n ds/\Y.val n ds=d
section
variable [cI]
def xc {α:Type}(l:List α)(j:Nat)(d:α)(h:j<l.length):l.getD j d=l[j]:=by simp[List.getD,h]
theorem Ze (cs new:List D)(o:Nat)(h:o+new.length<=cs.length):(over cs o new).length=cs.length:=by
 grind [over]
theorem UR (cs new:List D)(o:Nat)(h:o+new.length<=cs.length)(j:Nat)(d:D):(over cs o new).getD j d=if o<=j/\j<o+new.length then new.getD (j-o) d else cs.getD j d:=by
 grind [over]
theorem bM (m:List (Nat×bm))(L:Nat)(b:bm)(l:Nat):look (dh m L b) l=if l=L then some b else look m l:=by
 induction m with
 |nil=>by_cases h:l=L<;>simp[dh,look,h,eq_comm]<;>omega
 |cons p r ih=>
  grind [dh,look]
theorem fm (m:List (Nat×bm))(k l:Nat):look (dd m k) l=if l=k then none else look m l:=by
 induction m with
 |nil=>simp[dd,look]
 |cons p r ih=>
  grind [dd,look]
def jc (ws:List Nat)(m':List (Nat×bm)):Nat->Option bm:=λl=>if l∈ws then look m' l else f l
section
variable {x:X}
def lW (b:Nat):∀(vs:List Value) (o:Nat) (w:World) (c:Array Value) (T:TypeId) (fr:Nat×Nat),w.heap[b]? =some (.cells c T fr)->o+vs.length<=c.size->
  ∃c',(w.setCells b o vs).heap[b]? =some (.cells c' T fr)/\c'.size=c.size/\∀q,c'.getD q undef=if o<=q/\q<o+vs.length then vs.getD (q-o) undef else c.getD q undef
 |[],o,w,c,T,fr,h,_=>⟨c,by simpa[World.setCells]using h,rfl,λq=>by rw[ai (λe=>by have:=e.1;have:=e.2;simp at this;omega)]⟩
 |v::r,o,w,c,T,fr,h,hl=>by
  simp only[bH]at hl;have h1:(w.setCell ⟨b,o,none⟩ v).heap[b]? =some (.cells (c.setIfInBounds o v) T fr):=by
   simp[World.setCell,Array.getElem?_modify,h]
  obtain⟨c',g1,g2,g3⟩:=lW b r (o+1) _ _ T fr h1 eJ;refine⟨c',by simpa[World.setCells]using g1,by simpa using g2,λq=>?_⟩;rw[g3 q];simp only[bH];by_cases q1:o+1<=q/\q<o+1+r.length
  .rw[ak q1,ak ae,show q-o=(q-(o+1))+1 by omega];simp
  .rw[ai q1];by_cases q2:q=o
   .subst q2;rw[ak ae];simp[Array.getD,show q<c.size by omega]
   .rw[ai ae];rw[<-bL,<-bL];simp[List.getD,List.getElem?_set,show ¬o=q by omega]
def kW (b:Nat):∀(vs:List Value) (o:Nat) (w:World) (b':Nat),b'≠b->(w.setCells b o vs).heap[b']? =w.heap[b']?
 |[],o,w,b',_=>rfl
 |v::r,o,w,b',h=>by
  rw[show w.setCells b o (v::r)=(w.setCell ⟨b,o,none⟩ v).setCells b (o+1) r from rfl,kW b r (o+1) _ b' h];simp[World.setCell,Array.getElem?_modify,show b≠b' by omega]
def kV (b:Nat):∀(vs:List Value) (o:Nat) (w:World),(w.setCells b o vs).os=w.os/\(w.setCells b o vs).tape=w.tape/\(w.setCells b o vs).output=w.output/\(w.setCells b o vs).heap.size=w.heap.size
 |[],o,w=>⟨rfl,rfl,rfl,rfl⟩
 |v::r,o,w=>by
  have:=kV b r (o+1) (w.setCell ⟨b,o,none⟩ v);exact⟨this.1,this.2.1,this.2.2.1,by rw[show w.setCells b o (v::r)=(w.setCell ⟨b,o,none⟩ v).setCells b (o+1) r from rfl,this.2.2.2];simp⟩
def cell_of_heap {w:World}{b o:Nat}(h:w.heap[b]? =some (.cells c T fr))(ho:o<c.size):w.cell? ⟨b,o,none⟩=some (c.getD o undef):=by
 rw[cell_of_row w b o c T fr h];simp[Array.getD,ho]
theorem vB {f:Nat->Option bm}{m:List (Nat×bm)}(hs:fG ν x f)(hf:f l=look m l)(hb:ed m l k n):
  f l=some (.buf k (aL m l))/\n<=(aL m l).length/\look m l=some (.buf k (aL m l)):=by
 grind [ed,aL,look]
theorem kM {i j:Nat}(hi:i<tot)(hj:j<k):i*k+j<tot*k:=by
 have:(i+1)*k<=tot*k:=fL _ hi;rw[Nat.succ_mul]at this;omega
def E7 (m:List (Nat×bm)):Option (List Nat)->Prop
 |none=>∀l,look m l≠none->f l=look m l
 |some ls=>∀l,l∈ls->f l=look m l
def oG {f:Nat->Option bm}{L:Nat}{w':World}{blk:bm}{v:Value}{d:D}(hs:fG ν x f)(hL:x.β L=none)(hw:ie x.w w')(hnw:x.w.heap.size<w'.heap.size)(hb:oW ν ⟨w',x.I,fe x.β L (x.w.heap.size,0,tot)⟩ x.w.heap.size 0 tot blk)(hv:RD ν ⟨w',x.I,fe x.β L (x.w.heap.size,0,tot)⟩ v d)(hr:r=.ok (.value v) w')(hf:∀l,f' l=jt f L (some blk) l):BD ν x f' L d r:=by
 have e:f'=jt f L (some blk):=funext hf;subst e;exact⟨v,⟨w',x.I,fe x.β L (x.w.heap.size,0,tot)⟩,.inl hr,El hw (aT _) hL hs.imm,hv,ae0 hs hw (aT _) hnw hL hb,λl hl=>by simp[fe,hl]⟩
def wL {w':World}{L:Nat}{es:List D}(x':X)(hx:x'.w.heap[n]? =some (.cells c T fr))(hk:0<k)(ht:es.length<=tot)(hc:tot*k<=c.size)(hfr:∀o,o<c.size->¬(fr.1<=o/\o<fr.2))(he:∀i,i<es.length->(es.getD i .any).cells.length=k/\∀j,j<k->(c.getD (i*k+j) undef).oneCell'=true/\RD ν x' (c.getD (i*k+j) undef) ((es.getD i .any).cells.getD j .any)):
  oW ν x' n 0 tot (.buf k es):=
 ⟨hk,ht,c,T,fr,hx,ae,hfr,λi hi=>⟨(he i hi).1,λj hj=>by simpa using(he i hi).2 j hj⟩⟩
end
section
variable {x:X}{f:Nat->Option bm}{C:CC}{defs:List (Option Nat)}{J:Src->aY}{ev:Operand->Value}{Y:Ctx}{m:List (Nat×bm)}{L:Nat}
def HK (hs:fG C.ν x f){w':World}(hw:ie x.w w')(hL:x.β L=none):Le x ⟨w',x.I,fe x.β L (x.w.heap.size,0,tot)⟩:=
 (El hw (aT _) hL hs.imm).le
theorem RO {v:Value}{d:D}(hs:fG C.ν x f)(hL:x.β L=none)(hv:RD C.ν x v d)(hk:d.cells.length=k)(hk0:k≠0)(hr:r=.ok (.value (.pointer (some ⟨x.w.heap.size,0,none⟩))) (x.w.alloc (.cells v.cells T))):
  BD C.ν x (jc f [L] (dh m L (.buf k [d]))) L (.ptr L k 0 0) r:=by
 have hw:=ie.alloc x.w (.cells v.cells T);have hle:=HK (tot:=1) hs hw hL;obtain⟨c1,c2⟩:=hv.cells ae;refine oG (tot:=1) (blk:=.buf k [d]) hs hL hw aF ?_ (.ptr L k 0 0 x.w.heap.size 0 1 0 nH aF) hr (λl=>?_)
 .refine wL (w':=x.w) (L:=L) _ (dV x.w _) ae aF ae (λo _=>aF) (λi hi=>?_);simp at hi;subst hi;refine⟨by simpa using hk,λj hj=>?_⟩;have:=c2 j ae;exact⟨by simpa using this.1,by simpa using this.2.mono hle⟩
 grind [jc,bM,jt]
def acT {v:Value}(hs:fG C.ν x f)(hL:x.β L=none)(hv:RD C.ν x v (.agg [.nilp,.aR]))(hr:r=.ok (.value (.pointer (some ⟨x.w.heap.size,0,none⟩))) (x.w.alloc (.cells v.cells cI.tB))):
  BD C.ν x (jc f [L] (dh m L (.bld none 0 false))) L (.ptr L 2 0 0) r:=by
 have hw:=ie.alloc x.w (.cells v.cells cI.tB);refine oG (tot:=1) (blk:=.bld none 0 false) hs hL hw aF ?_ (.ptr L 2 0 0 x.w.heap.size 0 1 0 nH aF) hr (λl=>?_)
 .refine⟨rfl,.slice none 0 0, ?_,rfl,rfl⟩;refine(dV x.w _).trans ?_;cases hv with
  |agg cs _ hl h1 h=>
   have e0:=h 0 aF;have e1:=h 1 aF;simp only[iR,List.getD_cons_succ]at e0 e1;have hl2:cs.size=2:=hl;have hcs:cs=#[.pointer none,.slice none 0 0]:=by
    apply Array.ext
    .simpa using hl2
    .intro i hi1 hi2;have hi:i=0\/i=1:=ae;rcases hi with rfl|rfl
     .generalize hq:cs.getD 0 undef=q at e0;cases e0;simp[Array.getD,hi1]at hq;simpa using hq
     .generalize hq:cs.getD 1 undef=q at e1;cases e1;simp[Array.getD,hi1]at hq;simpa using hq
   subst hcs;rfl
 .by_cases e:l=L
  .subst e;simp[jc,bM,jt]
  .simp[jc,e,jt]
def Y0 {o:Oper}{i:az}(hc:C.op defs o=some i)(ho:(∃t,o.op=.alloc t)\/∃t p,o.op=.box t p)(hρ:vz C defs J ev x o.op.operands.toList)(hcst:∀d,J (.c d)=⟨true,d⟩)(hob:i.eL Y J m)(hs:fG C.ν x f)(hL:x.β L=none)(hB:∀t,C.bR.contains (1000000000+t)=true->t=cI.tB):
  BD C.ν x (jc f (i.wr J L) (i.bR Y J m L)) L (i.val Y J m L) ((execOp ev o).run C.P x.w):=by
 rcases ho with⟨t,ho⟩|⟨t,p,ho⟩
 .simp only[CC.op,ho]at hc;split at hc
  .rename_i z hz;obtain⟨ti,v,hi,hzv,hr⟩:=qn (x:=x) hz;split at hc
   .cases hc
   rename_i hce;split at hc
   .rename_i hB0;split at hc
    .simp only[aC]at hc;subst hc;exact acT hs hL hr (by rw[<-hB t hB0];simp[execOp,ho,Instr.alloc,zeroValue,typeInfo,hi,hzv,newVar,newRow])
    .cases hc
   simp only[aC]at hc;subst hc;obtain⟨k1,k2⟩:=hob;simp only[hcst]at k2;have e:(az.box (C.P.cellsOf t) (.c z)).bR Y J m L=dh m L (.buf (C.P.cellsOf t) [z]):=by simp[az.bR,hcst]
   rw[e];refine RO (T:=t) hs hL hr k2 hce ?_;simp[execOp,ho,Instr.alloc,zeroValue,typeInfo,hi,hzv,newVar,newRow]
  .cases hc
 .simp only[CC.op,ho]at hc;split at hc
  .rename_i s h1;split at hc
   .cases hc
   rename_i hce;simp only[aC]at hc;subst hc;obtain⟨k1,k2⟩:=hob;exact RO (T:=t) hs hL (hρ p du s h1 k1) k2 hce (by simp[execOp,ho,Instr.box,newVar,newRow])
  .cases hc
def Y4 {o:Oper}{i:az}{p:Operand}(hpu:¬i.pure=true)(hsm:∀fid n,dK C.ν fid=some n->n<1000000)(hc:C.op defs o=some i)(ho:o.op=.load t p)(hρ:vz C defs J ev x o.op.operands.toList)(hob:i.eL Y J m)(hs:fG C.ν x f)(hag:E7 f m (i.nd J)):
  Oz C.ν x (i.val Y J m L) ((execOp ev o).run C.P x.w):=by
 simp only[CC.op,ho]at hc;split at hc
 .obtain rfl:=bc hc;exact absurd rfl hpu
 split at hc
 .rename_i s h1;split at hc
  .cases hc
  rename_i hce;simp only[aC]at hc;subst hc;obtain⟨k1,k2⟩:=hob;have hv:=hρ p du s h1 k1;have hn0:C.P.cellsOf t≠0:=λe=>hce (.inl e)
  have hu:(C.P.underlying t).isNone=false:=by cases hn:(C.P.underlying t).isNone with|false=>rfl|true=>exact absurd (.inr (.inl hn)) hce
  have h1':bW C.P t=false->C.P.cellsOf t=1:=λe=>by
   rcases Nat.decEq (C.P.cellsOf t) 1 with h|h
   .exact absurd (.inr (.inr ⟨e,h⟩)) hce
   .exact h
  cases hd:(J s).d<;>simp only[hd,Mg]at k2
  .rename_i k es i o';rw[hd]at hv;generalize hep:ev p=vp at hv;cases hv with
   |ref b off _ _ _ at_ _ c hI hat hk hn hcc hone hh=>
    obtain⟨v,r1,r2⟩:=qK (P:=C.P) (ν:=C.ν) (x:=x) (e:=es.getD i .any) (k:=k) (n:=C.P.cellsOf t) (o:=o') (b:=b) (at0:=off+i*k) (ag:=bW C.P t) (ty:=t) (c:=c i) (hk i k2.1) k2.2
     (λj hj=>⟨hcc i j k2.1 hj,hone i j k2.1 hj,hh i j k2.1 hj⟩) rfl hn0 hu rfl h1'
    refine gD (v:=v) ?_ (by simp only[az.val,hd,Mh];exact r2);simp[execOp,ho,hep,Instr.loadAt,Instr.sureAddr,hat,r1]
  .rename_i l k i o';rw[hd]at hv;generalize hep:ev p=vp at hv;cases hv with
   |ptr _ _ _ _ b base tot at_ hβ hat=>
    obtain⟨g1,g2,g3⟩:=vB (n:=i+1) hs (hag l (by simp[hd,ca])) k2.1;obtain⟨hnI,hk0,ht,c,T,fr,q1,q2,q3,q4⟩:=hs.own l _ b base tot g1 hβ;have hi:i<(aL m l).length:=ae;obtain⟨v,r1,r2⟩:=qK (P:=C.P) (ν:=C.ν) (x:=x) (e:=(aL m l).getD i .any) (k:=k) (n:=C.P.cellsOf t) (o:=o') (b:=b) (at0:=base+i*k) (ag:=bW C.P t) (ty:=t) (c:=λj=>c.getD (base+i*k+j) undef)
     ((q4 i hi).1) k2.2
     (λj hj=>⟨cell_of_heap q1 KY,((q4 i hi).2 j hj).1,((q4 i hi).2 j hj).2⟩) rfl hn0 hu rfl h1'
    refine gD (v:=v) ?_ (by simp only[az.val,hd,Mh];exact r2);simp[execOp,ho,hep,Instr.loadAt,Instr.sureAddr,hat,r1]
  .rename_i q es;obtain⟨hq2,e1,e2,e3⟩:=k2;rw[hd]at hv;generalize hep:ev p=vp at hv;cases hv with
   |mpn=>exfalso;omega
   |im=>exfalso;omega
   |fn fid _ cs ds hν=>exact absurd (hsm _ _ hν) ae
   |ef fid _ cs ds hν=>exact absurd (hsm _ _ hν) ae
   |bx b at_ _ v0 hI hc0 h1 hl hh=>
    obtain⟨v,r1,r2⟩:=qK (P:=C.P) (ν:=C.ν) (x:=x) (e:=es.getD 0 .any) (k:=1) (n:=C.P.cellsOf t) (o:=0) (b:=b) (at0:=at_) (ag:=bW C.P t) (ty:=t) (c:=λ_=>v0) (by rw[e3];rfl) ae
     (λj hj=>by obtain rfl:j=0:=ae;exact⟨hc0,h1,by rw[e3];exact hh 0 ae⟩) rfl hn0 hu rfl h1'
    refine gD (v:=v) ?_ (by simp only[az.val,hd,Mh];exact r2);simp only[Nat.add_zero]at r1;simp[execOp,ho,hep,Instr.loadAt,Instr.sureAddr,r1]
 .cases hc
def aem {o:Oper}{i:az}{p:Operand}(hpu:¬i.pure=true)(hsm:∀fid n,dK C.ν fid=some n->n<1000000)(hc:C.op defs o=some i)(ho:o.op=.load t p)(hρ:vz C defs J ev x o.op.operands.toList)(hob:i.eL Y J m)(hs:fG C.ν x f)(hag:E7 f m (i.nd J)):
  BD C.ν x (jc f (i.wr J L) (i.bR Y J m L)) L (i.val Y J m L) ((execOp ev o).run C.P x.w):=by
 have haf:jc f (i.wr J L) (i.bR Y J m L)=f:=by
  have hw:i.wr J L=[]:=by
   simp only[CC.op,ho]at hc
   (repeat' split at hc)<;>simp only[aC,reduceCtorEq]at hc<;>subst hc<;>rfl
  funext l;simp[jc,hw]
 rw[haf];exact(Y4 hpu hsm hc ho hρ hob hs hag).did hs
def Y7 {o:Oper}{i:az}{p:Operand}(hpu:¬i.pure=true)(hc:C.op defs o=some i)(ho:o.op=.store t p q)(hρ:vz C defs J ev x o.op.operands.toList)(hob:i.eL Y J m)(hs:fG C.ν x f)(hag:E7 f m (i.nd J)):
  BD C.ν x (jc f (i.wr J L) (i.bR Y J m L)) L (i.val Y J m L) ((execOp ev o).run C.P x.w):=by
 simp only[CC.op,ho]at hc;split at hc
 .rename_i s u h1 h2;split at hc
  .cases hc
  rename_i hce;simp only[aC]at hc;subst hc;obtain⟨k1,k2,k3,k4⟩:=hob;have hv:=hρ p du s h1 k1;have hw:=hρ q du u h2 k2;cases hd:(J s).d<;>simp only[hd]at k4;rename_i l k i o';rw[hd]at hv;generalize hep:ev p=vp at hv;cases hv with
  |ptr _ _ _ _ b base tot at_ hβ hat=>
   obtain⟨g1,g2,g3⟩:=vB (n:=i+1) hs (hag l (by simp[hd,ca])) k4.1;obtain⟨hnI,hk0,ht,c,T,fr,q1,q2,q3,q4⟩:=hs.own l _ b base tot g1 hβ;have hi:i<(aL m l).length:=ae;obtain⟨c1,c2⟩:=hw.cells ae;have hnl:(ev q).cells.toList.length=C.P.cellsOf t:=eJ;have hin:∀j,j<C.P.cellsOf t->base+i*k+o'+j<c.size:=λj hj=>by
    have:=kM (tot:=tot) (i:=i) (k:=k) (j:=o'+j) ae ae;omega
   have hst:=run_storeCells_cells (P:=C.P) b (base+i*k+o') (ev q).cells.toList 0 x.w
    (λj hj=>by rw[cell_of_heap q1 (by have:=hin j ae;omega)];rfl)
    (λj hj=>by
      have:=q3 (base+i*k+o'+0+j) (by have:=hin j ae;omega);simp only[World.frozen?,q1];simp only[ew,b8];omega)
    (λv hv=>by
      obtain⟨j,hj,rfl⟩:=List.mem_iff_getElem.1 hv;rw[<-xc _ j undef hj,bL];exact(c2 j ae).1)
   simp only[Nat.add_zero]at hst;obtain⟨c',s1,s2,s3⟩:=lW b (ev q).cells.toList (base+i*k+o') x.w c T fr q1 (by have:=hin (C.P.cellsOf t-1) ae;omega);obtain⟨f1,f2,f3,f4⟩:=kV b (ev q).cells.toList (base+i*k+o') x.w
   let w':=x.w.setCells b (base+i*k+o') (ev q).cells.toList
   have hother:∀b',b'≠b->w'.heap[b']? =x.w.heap[b']? :=λb' hb'=>kW b _ _ _ b' hb'
   have hstep:Step x ⟨w',x.I,x.β⟩:=by
    refine⟨f1,f2,f3,by show _<=w'.heap.size;rw[f4];exact aT _,λ_ h=>h,λb' hb'=>hother b' (λe=>hnI (e▸hb')),λ_ _ h=>h,λb' _ hn=>hother b' (λe=>hn l _ hβ e.symm),λ_ h=>.inl h,λ_ _ h=>.inl h⟩
   let es':=(aL m l).set i (rj ((aL m l).getD i .any) k (C.P.cellsOf t) o' (J u).d)
   have hle:=hstep.le

   have hel:(rj ((aL m l).getD i .any) k (C.P.cellsOf t) o' (J u).d).cells.length=k/\∀j,j<k->
     (rj ((aL m l).getD i .any) k (C.P.cellsOf t) o' (J u).d).cells.getD j .any=if o'<=j/\j<o'+C.P.cellsOf t then(J u).d.cells.getD (j-o') .any else((aL m l).getD i .any).cells.getD j .any:=by
    unfold rj;have hkl:=(q4 i hi).1;cases hnk:((C.P.cellsOf t==k)&&((J u).d.isAgg ||!((aL m l).getD i .any).isAgg))
    .simp only[cond_false];refine⟨(Ze _ _ _ ae).trans hkl,λj hj=>?_⟩;rw[<-k3];exact UR _ _ _ ae _ _
    .simp only[aK,beq_iff_eq]at hnk;have hnk:=hnk.1;simp only[cond_true];refine⟨ae,λj hj=>?_⟩;have:o'=0:=ae;subst this;rw[ak ae];simp
   have hblk:oW C.ν ⟨w',x.I,x.β⟩ b base tot (.buf k es'):=by
    refine⟨hk0,by simp[es'];omega,c',T,fr,s1,ae,λo'' ho''=>q3 o'' ae,λi' hi'=>?_⟩;have hi2:i'<(aL m l).length:=by simpa[es']using hi'
    by_cases e:i'=i
    .subst e;have hg:es'.getD i' .any=rj ((aL m l).getD i' .any) k (C.P.cellsOf t) o' (J u).d:=by simp[es',List.getD,List.getElem?_set,hi2]
     rw[hg];refine⟨hel.1,λj hj=>?_⟩;rw[hel.2 j hj,s3];by_cases hj2:o'<=j/\j<o'+C.P.cellsOf t
     .rw[ak ae,ak hj2,show base+i'*k+j-(base+i'*k+o')=j-o' by omega,bL];have:=c2 (j-o') ae;exact⟨this.1,this.2.mono hle⟩
     .rw[ai ae,ai hj2];exact⟨((q4 i' hi2).2 j hj).1,((q4 i' hi2).2 j hj).2.mono hle⟩
    .have hg:es'.getD i' .any=(aL m l).getD i' .any:=by simp[es',List.getD,List.getElem?_set,show ¬i=i' by omega]
     rw[hg];refine⟨(q4 i' hi2).1,λj hj=>?_⟩;rw[s3];have hne:¬(base+i*k+o'<=base+i'*k+j/\base+i'*k+j<base+i*k+o'+(ev q).cells.toList.length):=by
      rw[hnl];rcases dZ i' i with hlt|hge
      .have:(i'+1)*k<=i*k:=fL _ hlt;rw[Nat.succ_mul]at this;omega
      .have:(i+1)*k<=i'*k:=fL _ ae;rw[Nat.succ_mul]at this;omega
     rw[ai hne];exact⟨((q4 i' hi2).2 j hj).1,((q4 i' hi2).2 j hj).2.mono hle⟩
   refine⟨undef,⟨w',x.I,x.β⟩,.inr ⟨?_,rfl⟩,hstep,.any _, ?_,λ_ _=>rfl⟩
   .have hsz:(ev q).cells.size=C.P.cellsOf t:=ae;simp[execOp,ho,hep,Instr.storeAt,Instr.sureAddr,storeVar,dC hce,hsz,hat,hst,w']
   .have haf:∀l',jc f ((az.st (C.P.cellsOf t) s u).wr J L) ((az.st (C.P.cellsOf t) s u).bR Y J m L) l'=jt f l (some (.buf k es')) l':=by
     intro l';simp only[jc,az.wr,hd,ca,az.bR,aJ,bM,jt,es'];by_cases e:l'=l
     .rw[ak e,ak e,ak e]
     .rw[ai e,ai e]
    refine⟨λl' blk b' base' tot' e1 e2=>?_,λl1 l2 b' base' tot' base'' tot'' e1 e2 e3 e4=>?_,λb' hb'=>by show b'<w'.heap.size;rw[f4];exact hs.imm b' hb',λl' b' base' tot' e=>by show b'<w'.heap.size;rw[f4];exact hs.ef l' b' base' tot' e,rH hle hs.gd⟩
    .rw[haf]at e1;by_cases e:l'=l
     .subst e;simp only[jt,bo,aC]at e1;subst e1;have e2':x.β l'=some (b',base',tot'):=e2;rw[hβ]at e2';simp only[aC,dw]at e2';obtain⟨rfl,rfl,rfl⟩:=e2';exact⟨hnI,hblk⟩
     .simp only[jt,e,a8]at e1;obtain⟨a1,a2⟩:=hs.own l' blk b' base' tot' e1 e2;refine⟨a1,a2.mono hle (hother b' (λeb=>?_))⟩;subst eb;exact e (hs.inj l' l b' base' tot' base tot (by rw[e1];simp) (by rw[g1];simp) e2 hβ)
    .rw[haf]at e1 e2;refine hs.inj l1 l2 b' base' tot' base'' tot'' ?_ ?_ e3 e4
     .by_cases e:l1=l
      .rw[e,g1];simp
      .simpa[jt,e]using e1
     .by_cases e:l2=l
      .rw[e,g1];simp
      .simpa[jt,e]using e2
 .cases hc
end
end
section
variable [cI]
section
variable {x:X}{f:Nat->Option bm}{C:CC}{defs:List (Option Nat)}{J:Src->aY}{ev:Operand->Value}{Y:Ctx}{m:List (Nat×bm)}{L:Nat}
theorem BE (f:Nat->Option bm)(m:List (Nat×bm))(L:Nat)(b:bm):∀l,jc f [L] (dh m L b) l=jt f L (some b) l:=by
 grind [jc,bM,jt]
theorem Vp {d:D}(hz:RD C.ν x z d)(hk:d.cells.length=k)(hk0:k≠0)(n i j:Nat)(hi:i<n)(hj:j<k):
  (((Array.range (n*k)).map (z.cells[· %z.cells.size]!)).getD (i*k+j) undef)=z.cells.getD j undef:=by
 obtain⟨c1,_⟩:=hz.cells ae;have hlt:=kM hi hj;have hm:(i*k+j)%k=j:=by rw[Nat.mul_comm,Nat.mul_add_mod];exact Nat.mod_eq_of_lt hj
 simp[Array.getD,hlt,c1,hk,hm,show j<k from hj]
def Y6 {o:Oper}{i:az}{p:Operand}(hc:C.op defs o=some i)(ho:o.op=.range t p)(hρ:vz C defs J ev x o.op.operands.toList)(hob:i.eL Y J m)(hs:fG C.ν x f)(hL:x.β L=none):
  BD C.ν x (jc f (i.wr J L) (i.bR Y J m L)) L (i.val Y J m L) ((execOp ev o).run C.P x.w):=by
 simp only[CC.op,ho]at hc;split at hc
 .rename_i s hu h1;simp only[aC]at hc;subst hc;obtain⟨k1,k2⟩:=hob;have hv:=hρ p du s h1 k1;cases hd:(J s).d<;>simp only[hd]at k2;rename_i b;rw[hd]at hv;obtain⟨e1,e2⟩:=hv.jW;have e:(az.rng s).bR Y J m L=dh m L (.iter b 0):=by simp[az.bR,hd]
  rw[e];refine oG (tot:=0) (blk:=.iter b 0) hs hL (ie.alloc x.w (.stringIter ⟨⟨b⟩⟩ 0)) aF ⟨dV x.w _,e2⟩ (.it L x.w.heap.size 0 0 nH) ?_ (BE f m L _);simp[execOp,ho,e1,Instr.range,run_underlying hu]
 .cases hc
def akv {o:Oper}{i:az}{s d:TypeId}{p:Operand}{a:Src}(hc:C.op defs o=some (.s2b a))(ho:o.op=.convert s d p)(hρ:vz C defs J ev x o.op.operands.toList)(hob:(az.s2b a).eL Y J m)(hs:fG C.ν x f)(hL:x.β L=none):
  BD C.ν x (jc f ((az.s2b a).wr J L) ((az.s2b a).bR Y J m L)) L ((az.s2b a).val Y J m L) ((execOp ev o).run C.P x.w):=by
 simp only[CC.op,ho]at hc;split at hc
 .simp at hc
 .rename_i eT a' hu1 hu2 h1;split at hc
  .rename_i hue;simp only[aC,az.s2b.injEq]at hc;subst hc;obtain⟨k1,k2⟩:=hob;have hv:=hρ p du a' h1 k1;cases hd:(J a').d<;>simp only[hd]at k2;rename_i b;rw[hd]at hv;obtain⟨e1,e2⟩:=hv.jW;have e:(az.s2b a').bR Y J m L=dh m L (.buf 1 (b.map λq=>.int .u8 q.toNat)):=by simp[az.bR,hd]
   rw[e];have hsz:(⟨⟨b⟩⟩:ByteArray).size=b.length:=rfl
   let cap:=grownCap x.w b.length 0 eT
   have hcap:b.length<=cap:=grownCap_ge x.w b.length 0 eT;have hcm:cap<=maxLen:=grownCap_le_maxLen x.w b.length 0 eT e2
   let row:=bytesRow ⟨⟨b⟩⟩ cap
   have hrs:row.size=cap:=by simp[row,bytesRow,hsz];show b.length+(cap-b.length)=cap;omega
   have hrun:=run_bytes_of_string (P:=C.P) x.w s d eT ⟨⟨b⟩⟩ hu1 hu2 hue;have hgrow:ie x.w (x.w.drew.alloc (.cells row eT (row.size,row.size+1))):=(ie.drew x.w).trans (ie.alloc x.w.drew _);have hnew:(x.w.drew.alloc (.cells row eT (row.size,row.size+1))).heap[x.w.heap.size]? =some (.cells row eT (row.size,row.size+1)):=dV x.w.drew _;have hget:∀i,i<b.length->row.getD i undef=.int .u8 (b.getD i 0).toNat:=by
    intro i hi;have e3:(b.map λq=>Value.int .u8 q.toNat).getD i undef=.int .u8 (b.getD i 0).toNat:=by simp[List.getD,hi]
    rw[<-e3,<-bL];simp[row,bytesRow,List.getD,List.getElem?_append,hi]
   refine oG (v:=.slice (some ⟨x.w.heap.size,0,none⟩) b.length cap) (tot:=cap) (blk:=bm.buf 1 (List.map (λq:UInt8=>D.int .u8 (q.toNat:Int)) b)) hs hL hgrow (by show _<(x.w.heap.push _).size;simp) ?_ ?_ ?_ (BE f m L _)
   .refine wL (w':=x.w) (L:=L) _ hnew ae (by simpa using hcap) ae (λo' ho'=>eJ) (λi hi=>?_);simp only[bh]at hi;have hg:(b.map λq=>D.int .u8 q.toNat).getD i .any=.int .u8 (b.getD i 0).toNat:=by simp[List.getD,hi]
    rw[hg];refine⟨rfl,λj hj=>?_⟩;have:j=0:=ae;subst this;rw[show i*1+0=i by omega,hget i hi];exact⟨rfl,.int _ _⟩
   .simp only[az.val,hd];exact .own L 1 0 b.length x.w.heap.size 0 cap cap ⟨x.w.heap.size,0,none⟩ nH (λ_=>aF) hcap hcm ae
   .simp only[execOp,ho,e1,Sem.run_bind,hrun,Result.andThen_ok,Sem.run_pure];rfl
  .cases hc
 .split at hc
  .simp at hc
  .cases hc
 .cases hc
def akq {o:Oper}{s d:TypeId}{p:Operand}{a:Src}(hc:C.op defs o=some (.b2s a))(ho:o.op=.convert s d p)(hρ:vz C defs J ev x o.op.operands.toList)(hob:(az.b2s a).eL Y J m)(hs:fG C.ν x f)(hag:E7 f m ((az.b2s a).nd J)):
  BD C.ν x (jc f ((az.b2s a).wr J L) ((az.b2s a).bR Y J m L)) L ((az.b2s a).val Y J m L) ((execOp ev o).run C.P x.w):=by
 have haf:jc f ((az.b2s a).wr J L) ((az.b2s a).bR Y J m L)=f:=by funext l;simp[jc,az.wr]
 rw[haf];simp only[CC.op,ho]at hc;split at hc
 .simp at hc
 .split at hc
  .simp at hc
  .cases hc
 .rename_i eT a' hu1 hu2 h1;split at hc
  .rename_i hue;simp only[aC,az.b2s.injEq]at hc;subst hc;obtain⟨k1,k2,k3,k4⟩:=hob;have hv:=hρ p du a' h1 k1;have hd1:C.P.underlying d=some .string:=hu2;have hconv:∀b l c,ev p=.slice b l c->(execOp ev o).run C.P x.w=((Conv.bytesToString (.slice b l c)).run C.P x.w).andThen λv w'=>.ok (.value v) w':=by
    intro b l c he;simp only[execOp,ho,he,Sem.run_bind,run_convert_bytes_string x.w s d eT b l c hu1 hue hu2,Sem.run_pure]
   have key:∀(aa:Addr) (len cap:Nat) (es:List D),es.length=len->(∀e∈es,e.Ui)->len<=maxLen->(∀i,i<len->∃v,x.w.cell? ⟨aa.block,aa.off+i,none⟩=some v/\RD C.ν x v (es.getD i .any))->(0<len->aa.spot=none)->
     ev p=.slice (some aa) len cap->BD C.ν x f L (.str (es.map D.u8)) ((execOp ev o).run C.P x.w):=by
    intro aa len cap es hlen hu8 hm hcell hspot he;have hv':∀i,i<len->∃n,es.getD i .any=.int .u8 n/\0<=n/\n<256:=by
     intro i hi;have hmem:=hu8 (es.getD i .any) KN;cases hg:es.getD i .any<;>simp only[hg,D.Ui]at hmem;obtain⟨rfl,h1,h2⟩:=hmem;exact⟨_,rfl,h1,h2⟩
    let ns:List Int:=es.map λe=>match e with| .int _ n=>n|_=>0
    have hload:(loadCells aa len).run C.P x.w=.ok (ns.map (Value.int .u8)).toArray x.w:=by
     have:=run_loadCells (P:=C.P) x.w aa len (λj=>.int .u8 (ns.getD j 0)) (λj hj=>by
      obtain⟨v,c1,c2⟩:=hcell j hj;obtain⟨n,g1,_,_⟩:=hv' j hj;have hn:ns.getD j 0=n:=by
       rw[xc _ _ _ ae]at g1;simp[ns,List.getD,show j<es.length by omega,g1]
      rw[hn];rw[g1]at c2;rw[<-c2.dr,<-c1];have hsp:=hspot ae;congr 1;obtain⟨ab,ao,aFY⟩:=aa;simp only at hsp;subst hsp;rw[Addr.A9])
     rw[this];congr 2;apply List.ext_getElem
     .simp[ns,hlen]
     .intro i h1 h2;simp at h1 h2;simp[List.getD,ns,show i<es.length by omega]
    refine nP hs (v:=.string ⟨⟨es.map D.u8⟩⟩) ?_ (.str _ eJ);rw[hconv _ _ _ he,run_bytesToString x.w aa len cap ns hload];simp only[Result.andThen_ok];congr 3;have hfold:∀(l:List Int) (s0:ByteArray),l.foldl (λr n=>r.push (UInt8.ofNat n.toNat)) s0=⟨⟨s0.data.toList++l.map λn=>UInt8.ofNat n.toNat⟩⟩:=by
     intro l;induction l with
     |nil=>intro s0;simp
     |cons n r ih=>
      intro s0;rw[List.foldl_cons,ih];congr 2;simp[ByteArray.push]
    rw[hfold];have e0:(ByteArray.empty.data.toList:List UInt8)=[]:=rfl;rw[e0,pA];congr 2;simp only[ns,List.map_map];apply List.map_congr_left;intro e he';have:=hu8 e he';cases e<;>simp only[D.Ui]at this;rfl
   cases hd:(J a').d<;>simp only[hd,Cu]at k2 k3 k4
   ·
    rw[hd]at hv;simp only[az.val,hd,qw,List.map_nil];generalize hep:ev p=vp at hv;cases hv;refine nP hs (v:=.string ⟨⟨[]⟩⟩) ?_ (.str _ aF);rw[hconv _ _ _ hep];rfl
   .rename_i k es;rw[hd]at hv;simp only[az.val,hd,qw];simp only[qw]at k4;subst k3;generalize hep:ev p=vp at hv;cases hv with
    |sl aa b off len cap _ _ c hlen ha hcap hm hk hn hcc hone hh=>
     by_cases he0:es=[]
     .subst he0;simp at hlen;subst hlen;refine nP hs (v:=.string ⟨⟨[]⟩⟩) ?_ (.str _ aF);rw[hconv _ _ _ hep];cases aa with
      |none=>rfl
      |some aa=>
       rw[run_bytesToString x.w aa 0 cap [] (by simp[loadCells,loadCellsFrom])];rfl
     .rcases ha with h|⟨rfl,hI⟩
      .exact absurd h he0
      .refine key _ len cap es hlen.symm k4 ae (λi hi=>⟨c i 0,by have:=hcc i 0 hi ae;simpa using this, ?_⟩) (λ_=>rfl) hep;have:=hh i 0 hi ae;have hk1:=hk i hi;cases hg:es.getD i .any<;>rw[hg]at this hk1<;>simp only[D.cells,b7,bH]at hk1 this<;>first|omega|exact this|skip
       rename_i cs;have hmem:=k4 (es.getD i .any) KN;rw[hg]at hmem;simp[D.Ui]at hmem
   .rename_i l k i n;rw[hd]at hv;simp only[az.val,hd,qw];simp only[qw]at k4;obtain⟨k5,k6⟩:=k3;subst k5;generalize hep:ev p=vp at hv;cases hv with
    |own _ _ _ _ b base tot cap aa hβ ha hcap hm ht=>
     obtain⟨g1,g2,g3⟩:=vB hs (hag l (by simp[hd,ca])) k6;obtain⟨hnI,hk0,ht',c,T,fr,q1,q2,q3,q4⟩:=hs.own l _ b base tot g1 hβ;have hlen:(((aL m l).drop i).take n).length=n:=gX _ _ _ g2;refine key aa n cap _ hlen k4 ae (λj hj=>?_) (λh=>by rw[ha ae]) hep;have ha':=ha ae;subst ha';have hij:i+j<(aL m l).length:=ae;refine⟨c.getD (base+(i+j)*1+0) undef, ?_, ?_⟩
     .rw[show base+i*1+j=base+(i+j)*1+0 by omega];exact cell_of_heap q1 ae
     .rw[eh _ _ _ _ _ hj];have:=((q4 (i+j) hij).2 0 ae).2;have hk1:=(q4 (i+j) hij).1;cases hg:(aL m l).getD (i+j) .any<;>rw[hg]at this hk1<;>simp only[D.cells,b7,bH]at hk1 this<;>first|omega|exact this|skip
      rename_i cs;have hmem:=k4 ((((aL m l).drop i).take n).getD j .any) KN;rw[eh _ _ _ _ _ hj,hg]at hmem;simp[D.Ui]at hmem
    |own0 _ _ _ a0=>
     simp only[List.take_zero,List.map_nil];refine nP hs (v:=.string ⟨⟨[]⟩⟩) ?_ (.str _ aF);rw[hconv _ _ _ hep];cases a0<;>rfl
  .cases hc
 .cases hc
def aen {o:Oper}{i:az}{p:Operand}(hc:C.op defs o=some i)(ho:o.op=.next p true)(hρ:vz C defs J ev x o.op.operands.toList)(hob:i.eL Y J m)(hs:fG C.ν x f)(hag:E7 f m (i.nd J)):
  BD C.ν x (jc f (i.wr J L) (i.bR Y J m L)) L (i.val Y J m L) ((execOp ev o).run C.P x.w):=by
 simp only[CC.op,ho,c7]at hc;obtain⟨s,h1,rfl⟩:=hc;obtain⟨k1,k2⟩:=hob;have hv:=hρ p du s h1 k1;cases hd:(J s).d<;>simp only[hd]at k2;rename_i l;rw[hd]at hv;cases hl:look m l with
 |none=>simp[hl]at k2
 |some blk=>
  cases blk with
  |buf k es=>simp[hl]at k2
  |row s=>simp[hl]at k2
  |bld o n u=>simp[hl]at k2
  |mpb s=>simp[hl]at k2
  |iter b pos=>
   have hfl:f l=some (.iter b pos):=by rw[<-hl];exact hag l (by simp[hd,ca])
   generalize hep:ev p=vp at hv;cases hv with
   |it _ bb base tot hβ=>
    obtain⟨hnI,hb1,pF⟩:=hs.own l _ bb base tot hfl hβ;have hlt:=hs.ef l bb base tot hβ;by_cases hp:pos<b.length
    .have hsz:(⟨⟨b⟩⟩:ByteArray).size=b.length:=rfl
     let w':World:={x.w with heap:=x.w.heap.setIfInBounds bb (.stringIter ⟨⟨b⟩⟩ (pos+(yM b pos).2))}
     have hother:∀b',b'≠bb->w'.heap[b']? =x.w.heap[b']? :=λb' hb'=>by simp[w',Array.getElem?_setIfInBounds,show ¬bb=b' by omega]
     have hhere:w'.heap[bb]? =some (.stringIter ⟨⟨b⟩⟩ (pos+(yM b pos).2)):=by simp[w',hlt]
     have hsize:w'.heap.size=x.w.heap.size:=by simp[w']
     have hstep:Step x ⟨w',x.I,x.β⟩:=
      ⟨rfl,rfl,rfl,by show _<=w'.heap.size;omega,λ_ h=>h,λb' hb'=>hother b' (λe=>hnI (e▸hb')),λ_ _ h=>h,λb' _ hn=>hother b' (λe=>hn l _ hβ e.symm),λ_ h=>.inl h,λ_ _ h=>.inl h⟩
     have haf:∀l',jc f ((az.aI s).wr J L) ((az.aI s).bR Y J m L) l'=jt f l (some (.iter b (pos+(yM b pos).2))) l':=by
      intro l';simp only[jc,az.wr,hd,ca,az.bR,hl,hp,decide_true,cond_true,aJ,bM,jt];by_cases e:l'=l
      .rw[ak e,ak e,ak e]
      .rw[ai e,ai e]
     refine⟨.tuple #[.bool true,.int .i64 pos,.int .i32 (yM b pos).1],⟨w',x.I,x.β⟩,.inl ?_,hstep, ?_, ?_,λ_ _=>rfl⟩
     .have hobj:(getObj bb).run C.P x.w=.ok (.stringIter ⟨⟨b⟩⟩ pos) x.w:=by simp[getObj,Sem.run,hb1]
      have hset:∀ob:Obj,(setObj bb ob).run C.P x.w=.ok () {x.w with heap:=x.w.heap.setIfInBounds bb ob}:=by intro ob;simp[setObj,Sem.run,hb1]
      simp[execOp,ho,hep,Instr.next,hobj,hsz,hp,hset,goInt,yM,w']
     .simp only[az.val,hd,hl,hp,decide_true,cond_true];refine .tup _ _ aF (λi hi=>?_);simp at hi
      match i,hi with
      |0,_=>simpa using RD.bool true
      |1,_=>simpa using RD.int .i64 pos
      |2,_=>simpa using RD.int .i32 (yM b pos).1
     .refine⟨λl' blk b' base' tot' e1 e2=>?_,λl1 l2 b' base' tot' base'' tot'' e1 e2 e3 e4=>?_,λb' hb'=>by show b'<w'.heap.size;rw[hsize];exact hs.imm b' hb',λl' b' base' tot' e=>by show b'<w'.heap.size;rw[hsize];exact hs.ef l' b' base' tot' e,rH hstep.le hs.gd⟩
      .rw[haf]at e1;by_cases e:l'=l
       .subst e;simp only[jt,bo,aC]at e1;subst e1;have e2':x.β l'=some (b',base',tot'):=e2;rw[hβ]at e2';simp only[aC,dw]at e2';obtain⟨rfl,rfl,rfl⟩:=e2';exact⟨hnI,hhere,pF⟩
       .simp only[jt,e,a8]at e1;obtain⟨a1,a2⟩:=hs.own l' blk b' base' tot' e1 e2;refine⟨a1,a2.mono hstep.le (hother b' (λeb=>?_))⟩;subst eb;exact e (hs.inj l' l b' base' tot' base tot (by rw[e1];simp) (by rw[hfl];simp) e2 hβ)
      .rw[haf]at e1 e2;refine hs.inj l1 l2 b' base' tot' base'' tot'' ?_ ?_ e3 e4
       .by_cases e:l1=l
        .rw[e,hfl];simp
        .simpa[jt,e]using e1
       .by_cases e:l2=l
        .rw[e,hfl];simp
        .simpa[jt,e]using e2
    .have haf:jc f ((az.aI s).wr J L) ((az.aI s).bR Y J m L)=f:=by
      funext l';simp only[jc,az.wr,hd,ca,az.bR,hl,hp,decide_false,cond_false,aJ];by_cases e:l'=l
      .rw[ak e,e,hl,hfl]
      .rw[ai e]
     rw[haf];refine nP hs (v:=.tuple #[.bool false]) ?_ ?_
     .have hsz:(⟨⟨b⟩⟩:ByteArray).size=b.length:=rfl;have hobj:(getObj bb).run C.P x.w=.ok (.stringIter ⟨⟨b⟩⟩ pos) x.w:=by simp[getObj,Sem.run,hb1]
      simp[execOp,ho,hep,Instr.next,hobj,hsz,hp]
     .simp only[az.val,hd,hl,hp,decide_false,cond_false];refine .tup _ _ aF (λi hi=>?_);simp at hi;subst hi;simpa using RD.bool false
def Ae {k n:Nat}{os':List Operand}(hρ:vz C defs J ev x os')(hk0:k≠0):∀(ps:List (Nat×Operand)) (ss:List (Nat×Src)),(∀p∈ps,p.2∈os')->C.zh defs ps=some ss->qF J k n ss->
  ∀(cs:Array Value) (es:List D),cs.size=n*k->es.length=n->
   (∀i,i<n->(es.getD i .any).cells.length=k/\∀j,j<k->(cs.getD (i*k+j) undef).oneCell'=true/\RD C.ν x (cs.getD (i*k+j) undef) ((es.getD i .any).cells.getD j .any))->
  ∃cs',Instr.fill (λi=>some (i*k,k)) cs (ps.map fun(i,o)=>(i,ev o))=some cs'/\cs'.size=n*k/\(mc J es ss).length=n/\
   ∀i,i<n->((mc J es ss).getD i .any).cells.length=k/\∀j,j<k->(cs'.getD (i*k+j) undef).oneCell'=true/\RD C.ν x (cs'.getD (i*k+j) undef) (((mc J es ss).getD i .any).cells.getD j .any)
 |[],ss,_,h,_,cs,es,h1,h2,h3=>by simp[CC.zh]at h;subst h;exact⟨cs,by simp[Instr.fill],h1,by simpa[mc]using h2,by simpa[mc]using h3⟩
 |(i,o)::r,ss,hm,h,hk,cs,es,h1,h2,h3=>by
  simp only[CC.zh]at h;split at h
  .rename_i s l g1 g2;simp only[aC]at h;subst h;simp only[qF]at hk;obtain⟨k1,k2,k3,k4⟩:=hk;have hv:=hρ o (hm _ (.head _)) s g1 k2;obtain⟨c1,c2⟩:=hv.cells ae;have hsz:(ev o).cells.size=k:=ae;have hb:i*k+k<=n*k:=by rw[<-Nat.succ_mul];exact fL _ k1
   obtain⟨f1,f2⟩:=CN (i*k) (ev o).cells.toList 0 cs eJ
   let cs1:Array Value:=((ev o).cells.toList.zipIdx 0).foldl (λcs (c,j)=>cs.setIfInBounds (i*k+j) c) cs
   have hcs1:(ev o).cells.zipIdx.foldl (λcs (c,j)=>cs.setIfInBounds (i*k+j) c) cs=cs1:=by
    rw[<-Array.foldl_toList];simp[cs1]
   have hget:∀q,cs1.getD q undef=if i*k<=q/\q<i*k+k then(ev o).cells.getD (q-i*k) undef else cs.getD q undef:=by
    intro q;have:=f2 q;rw[<-bL,<-bL cs,<-bL (ev o).cells];simp only[List.getD,Array.getElem?_toList];rw[show cs1[q]? =_ from this];simp only[Array.length_toList,hsz,Nat.add_zero];split
    .simp
    .rfl
   have hel:∀i',i'<n->((es.set i (J s).d).getD i' .any)=if i'=i then(J s).d else es.getD i' .any:=by
    intro i' hi';by_cases e:i'=i
    .subst e;simp[List.getD,List.getElem?_set,show i'<es.length by omega]
    .simp[List.getD,List.getElem?_set,show ¬i=i' by omega,e]
   obtain⟨cs',r1,r2,r3,r4⟩:=Ae hρ hk0 r l (λp hp=>hm p (.tail _ hp)) g2 k4 cs1 (es.set i (J s).d) (f1.trans h1) (by simpa using h2) (λi' hi'=>by
    rw[hel i' hi'];by_cases e:i'=i
    .subst e;rw[ak rfl];refine⟨k3,λj hj=>?_⟩;rw[hget,ak ae,show i'*k+j-i'*k=j by omega];exact c2 j ae
    .rw[ai e];refine⟨(h3 i' hi').1,λj hj=>?_⟩;have hne:¬(i*k<=i'*k+j/\i'*k+j<i*k+k):=by
      rcases dZ i' i with hlt|hge
      .have:(i'+1)*k<=i*k:=fL _ hlt;rw[Nat.succ_mul]at this;omega
      .have:(i+1)*k<=i'*k:=fL _ ae;rw[Nat.succ_mul]at this;omega
     rw[hget,ai hne];exact(h3 i' hi').2 j hj)
   refine⟨cs', ?_,r2,by simpa[mc]using r3,by simpa[mc]using r4⟩;simp only[List.map_cons,Instr.fill];rw[ai (by simp[hsz];omega),hcs1];exact r1
  .cases h
theorem Gx {d:D}(hz:RD C.ν x z d)(hk:d.cells.length=k)(hk0:k≠0):
  ∀i,i<n->((List.replicate n d).getD i .any).cells.length=k/\∀j,j<k->(((Array.range (n*k)).map (z.cells[· %z.cells.size]!)).getD (i*k+j) undef).oneCell'=true/\RD C.ν x (((Array.range (n*k)).map (z.cells[· %z.cells.size]!)).getD (i*k+j) undef) (((List.replicate n d).getD i .any).cells.getD j .any):=by
 intro i hi;obtain⟨_,c2⟩:=hz.cells ae
 grind [Vp]
def akr {o:Oper}{i:az}{ps:Array (Nat×Operand)}(hc:C.op defs o=some i)(ho:o.op=.buildSlice t n ps)(hρ:vz C defs J ev x o.op.operands.toList)(hob:i.eL Y J m)(hs:fG C.ν x f)(hL:x.β L=none):
  BD C.ν x (jc f (i.wr J L) (i.bR Y J m L)) L (i.val Y J m L) ((execOp ev o).run C.P x.w):=by
 simp only[CC.op,ho]at hc;split at hc
 .rename_i e hu;split at hc
  .rename_i z l hz h1;split at hc
   .cases hc
   rename_i hce;simp only[aC]at hc;subst hc;obtain⟨k1,k2⟩:=hob;obtain⟨ti,v,hi,hzv,hr⟩:=qn (x:=x) hz;have hce0:C.P.cellsOf e≠0:=λh=>hce (.inl h)
   have hsz:ti.size=C.P.cellsOf e:=by simp[Program.cellsOf,hi]
   have hsmall:¬n*ti.size>2^24:=λh=>hce (.inr (by rw[hsz]at h;simpa using h))
   obtain⟨cs',r1,r2,r3,r4⟩:=Ae hρ hce0 ps.toList l (λp hp=>KK) h1 k2 ((Array.range (n*C.P.cellsOf e)).map (v.cells[· %v.cells.size]!)) (List.replicate n z) aF aF (Gx hr k1 hce0);have hgrow:=ie.alloc x.w (.cells cs' e);have hle:=HK (tot:=n) hs hgrow hL;have he:(az.bsl (C.P.cellsOf e) z n l).bR Y J m L=dh m L (bm.buf (C.P.cellsOf e) (mc J (List.replicate n z) l)):=rfl;rw[he];have hrun:(Instr.buildSlice t n (ps.map fun(i,x)=>(i,ev x))).run C.P x.w=.ok (.slice (some ⟨x.w.heap.size,0,none⟩) n n) (x.w.alloc (.cells cs' e)):=by
    by_cases hn:n=0
    .subst hn;have hcs0:cs'=#[]:=Array.eq_empty_of_size_eq_zero (by simpa using r2);have hps:ps.toList=[]:=by
      cases hp:ps.toList with
      |nil=>rfl
      |cons q r=>
       rw[hp]at h1;obtain⟨i0,o0⟩:=q;simp only[CC.zh]at h1;split at h1
       .rename_i s' l' _ _;simp only[aC]at h1;subst h1;simp[qF]at k2
       .cases h1
     have hps':ps=#[]:=by apply Array.ext';simpa using hps
     subst hps';simp[Instr.buildSlice,run_underlying hu,sizeOf,typeInfo,hi,Instr.fill,newRow,hcs0,show Array.range 0=#[]from rfl]
    .refine run_buildSlice x.w t e n _ cs' ti v hu hi hzv hsmall ?_ ?_
     .rw[hsz];intro h0;rcases Nat.mul_eq_zero.1 h0 with h|h
      .exact hn h
      .exact hce0 h
     .rw[hsz,Array.toList_map];exact r1
   refine oG (v:=.slice (some ⟨x.w.heap.size,0,none⟩) n n) (tot:=n) (blk:=bm.buf (C.P.cellsOf e) (mc J (List.replicate n z) l)) hs hL hgrow aF ?_ ?_ ?_ (BE f m L _)
   .exact wL (w':=x.w) (L:=L) _ (dV x.w _) ae ae ae (λo' _=>aF) (λi hi=>⟨(r4 i ae).1,λj hj=>⟨((r4 i ae).2 j hj).1,((r4 i ae).2 j hj).2.mono hle⟩⟩)
   .exact .own L (C.P.cellsOf e) 0 n x.w.heap.size 0 n n ⟨x.w.heap.size,0,none⟩ nH (λ_=>aF) (aT _) (by have:n*1<=n*C.P.cellsOf e:=Nat.mul_le_mul_left _ ae;have h3:¬n*C.P.cellsOf e>16777216:=λh=>hce (.inr h);simp only[maxLen];omega) ae
   .simp only[execOp,ho,Sem.run_bind,hrun,Result.andThen_ok,Sem.run_pure]
  .cases hc
 .cases hc
def aku {o:Oper}{i:az}{p:Operand}(hc:C.op defs o=some i)(ho:o.op=.makeSlice t p q)(hρ:vz C defs J ev x o.op.operands.toList)(hob:i.eL Y J m)(hs:fG C.ν x f)(hL:x.β L=none):
  BD C.ν x (jc f (i.wr J L) (i.bR Y J m L)) L (i.val Y J m L) ((execOp ev o).run C.P x.w):=by
 simp only[CC.op,ho]at hc;split at hc
 .rename_i e hu;split at hc
  .rename_i z ln cp hz h1 h2;split at hc
   .cases hc
   rename_i hce;simp only[aC]at hc;subst hc;obtain⟨k1,k2,k3,k4⟩:=hob;have hv:=hρ p du ln h1 k1;have hw:=hρ q du cp h2 k2;cases hd:(J ln).d<;>cases hd2:(J cp).d<;>simp only[hd,hd2]at k4;rename_i kk n kk' c;rw[hd]at hv;rw[hd2]at hw;obtain⟨ti,v,hi,hzv,hr⟩:=qn (x:=x) hz;have hce0:C.P.cellsOf e≠0:=λh=>hce (.inl h)
   have hsz:ti.size=C.P.cellsOf e:=by simp[Program.cellsOf,hi]
   have hby:ti.bytes<=65536:=by
    have:¬C.P.bytesOf e>65536:=λh=>hce (.inr h)
    simp[Program.bytesOf,hi]at this;omega
   have hbytes:(ti.bytes:Int)*c<=281474976710656:=by
    have h1:(ti.bytes:Int)*c<=65536*c:=Int.mul_le_mul_of_nonneg_right ae ae;have h2:(65536:Int)*c<=65536*1073741824:=Int.mul_le_mul_of_nonneg_left ae ae;omega
   have hrun:=run_make (P:=C.P) x.w t e ti v hu hi hzv kk kk' n c k4.1 k4.2.1 hbytes ae;rw[hsz]at hrun;have hgrow:=ie.alloc x.w (.cells (madeCells v.cells (c.toNat*C.P.cellsOf e)) e);have hle:=HK (tot:=c.toNat) hs hgrow hL;have hrep:=Gx (n:=c.toNat) hr k3 hce0;have hms:(madeCells v.cells (c.toNat*C.P.cellsOf e)).size=c.toNat*C.P.cellsOf e:=size_madeCells _ _;have he:(az.mks (C.P.cellsOf e) z ln cp).bR Y J m L=dh m L (.buf (C.P.cellsOf e) (List.replicate n.toNat z)):=by simp[az.bR,hd,D.nat]
   rw[he];refine oG (v:=.slice (some ⟨x.w.heap.size,0,none⟩) n.toNat c.toNat) (tot:=c.toNat) (blk:=.buf (C.P.cellsOf e) (List.replicate n.toNat z)) hs hL hgrow aF ?_ ?_ ?_ (BE f m L _)
   .refine wL (w':=x.w) (L:=L) _ (dV x.w _) ae eJ ae (λo' _=>aF) (λi hi=>?_);simp only[List.length_replicate]at hi;have:=hrep i ae;have e1:(List.replicate n.toNat z).getD i .any=(List.replicate c.toNat z).getD i .any:=by simp[List.getD,hi,show i<c.toNat by omega]
    rw[e1];refine⟨this.1,λj hj=>?_⟩;have h2:=this.2 j hj;have e2:(Array.range (c.toNat*C.P.cellsOf e)).map (v.cells[· %v.cells.size]!)=madeCells v.cells (c.toNat*C.P.cellsOf e):=rfl;rw[e2]at h2;exact⟨h2.1,h2.2.mono hle⟩
   .simp only[az.val,hd,D.nat];exact .own L _ 0 n.toNat x.w.heap.size 0 c.toNat c.toNat ⟨x.w.heap.size,0,none⟩ nH (λ_=>aF) ae (by simp only[maxLen];omega) ae
   .simp only[execOp,ho,hv.dr,hw.dr,Sem.run_bind,hrun,Result.andThen_ok,Sem.run_pure]
  .cases hc
 .cases hc
end
end
section
variable [cI]
def Yi {k:TypeId}(h:Ph P k=true):∃e,WideMaps.ArrKey P k e 2/\P.underlying e=some .string/\∃m,P.types.size=m+1:=by
 unfold Ph at h;split at h
 .rename_i e hk;split at h
  .rename_i he;simp only[aK,beq_iff_eq,cg,beq_eq_false_iff_ne]at h;exact⟨e,⟨hk,by unfold Program.plainKey;rw[he],h.1,h.2.1⟩,he,P.types.size-1,ae⟩
  .cases h
 .cases h
def Up {k e:TypeId}(A:WideMaps.ArrKey P k e 2)(he:P.underlying e=some .string)(hsz:∃m,P.types.size=m+1){a b:List UInt8}(wa:a.length<=maxLen)(wb:b.length<=maxLen):
  keyOf P k (.agg #[.string ⟨⟨a⟩⟩,.string ⟨⟨b⟩⟩])=some (.string (keyBytes [.string a,.string b])):=by
 have hkt:=A.keyType hsz;obtain⟨m,hm⟩:=hsz;unfold keyOf;simp only[A.hu];rw[ak (by simp[hkt,Value.formed,A.hu,A.size]),hm];unfold Program.keyLits;simp only[A.hu,Value.cells];rw[ak (by rw[A.size];rfl),show List.range 2=[0,1]from rfl,List.mapM_cons,List.mapM_cons,List.mapM_nil];simp[A.one,Program.keyLits,he,ByteArray.size,wa,wb]
def RD.key {x:X}{v:Value}{d:D}(h:RD ν x v d)(hk:Bk d=true):∃a b,d=.agg [.str a,.str b]/\v=.agg #[.string ⟨⟨a⟩⟩,.string ⟨⟨b⟩⟩]/\a.length<=maxLen/\b.length<=maxLen:=by
 unfold Bk at hk;split at hk
 .rename_i a b;refine⟨a,b,rfl, ?_⟩;cases h with
  |agg cs ds hl h1 h=>
   have e0:=h 0 aF;have e1:=h 1 aF;simp only[iR,List.getD_cons_succ]at e0 e1;have hl2:cs.size=2:=hl;generalize hq:cs.getD 0 undef=q at e0;generalize hq2:cs.getD 1 undef=q2 at e1;cases e0 with
   |str _ ha=>
    cases e1 with
    |str _ hb=>
     refine⟨?_,ha,hb⟩;congr 1;apply Array.ext
     .simpa using hl2
     .intro i hi1 hi2;have hi:i=0\/i=1:=ae;rcases hi with rfl|rfl
      .simp[Array.getD,hi1]at hq;simpa using hq
      .simp[Array.getD,hi1]at hq2;simpa using hq2
 .cases hk
def n7 (e:MapEntry)(es:List MapEntry)(j:Nat):UD (e::es) (j+2)=UD es j:=by
 unfold UD;rw[show(j+2) /2=j/2+1 by omega,List.getElem?_cons_succ,show(j+2)%2=j%2 by omega]
def HG {x:X}{v w:Value}{d e:D}(h1:RD ν x v d)(h2:RD ν x w e)(k1:Bk d=true)(k2:Bk e=true):yZ d e=true↔v=w:=by
 obtain⟨a,b,rfl,rfl,_,_⟩:=h1.key k1;obtain⟨a',b',rfl,rfl,_,_⟩:=h2.key k2;simp only[yZ,aK,beq_iff_eq];constructor
 .rintro⟨rfl,rfl⟩;rfl
 .intro h;injection h with h
  have h3:=ar Array.toList h;simp only[th,Value.string.injEq,dE]at h3;obtain⟨p,q⟩:=h3;injection p with p;injection p with p
  injection q with q;injection q with q
  exact⟨p,q⟩
section
variable {x:X}{key:Value}{k:D}
def Sc (hk:RD ν x key k)(hb:Bk k=true):∀(es:List MapEntry) (kvs:List D),PE kvs=true->2*es.length=kvs.length->(∀j,j<kvs.length->RD ν x (UD es j) (kvs.getD j .any))->
  ((∀e∈es,e.key≠key)->mpF k kvs=none)/\∀e∈es,e.key=key->(es.map (·.key)).Nodup->∃v,mpF k kvs=some v/\RD ν x e.val v
 |[],[],_,_,_=>⟨λ_=>rfl,λe he=>by cases he⟩
 |e::es,a::v::r,ho,hl,h=>by
  simp only[PE,aK]at ho;have h0:RD ν x e.key a:=h 0 aF;have h1:RD ν x e.val v:=h 1 aF;obtain⟨i1,i2⟩:=Sc hk hb es r ho.2 (by simp only[bH]at hl;omega) λj hj=>by
   have:=h (j+2) uC;rw[n7]at this;simpa using this
  have he:=HG h0 hk ho.1 hb;constructor
  .intro hn;have:yZ a k=false:=by
    cases q:yZ a k with
    |false=>rfl
    |true=>exact absurd (he.1 q) (hn e (.head _))
   simp only[mpF,this,cond_false];exact i1 λe' h'=>hn e' (.tail _ h')
  .intro e' h' hkey hnd;simp only[List.map_cons,List.nodup_cons]at hnd;rcases bU.1 h' with rfl|h'
   .simp only[mpF,he.2 hkey,cond_true];exact⟨v,rfl,h1⟩
   .have:yZ a k=false:=by
     cases q:yZ a k with
     |false=>rfl
     |true=>exact absurd (ch.2 ⟨e',h',hkey.trans (he.1 q).symm⟩) hnd.1
    simp only[mpF,this,cond_false];exact i2 e' h' hkey hnd.2
 |_::_,[],_,hl,_=>by simp at hl
 |[],_::_,_,hl,_=>by simp at hl
 |_::es,[_],ho,hl,_=>by simp at hl;omega
def Sd (hk:RD ν x key k)(hb:Bk k=true){val:Value}{d:D}(cl:Nat)(hv:RD ν x val d):∀(es:List MapEntry) (kvs:List D),PE kvs=true->2*es.length=kvs.length->(∀j,j<kvs.length->RD ν x (UD es j) (kvs.getD j .any))->(∀e∈es,e.key≠key)->
  K9 k d kvs=kvs++[k,d]/\∀j,j<(kvs++[k,d]).length->RD ν x (UD (es++[⟨key,val,cl⟩]) j) ((kvs++[k,d]).getD j .any)
 |[],[],_,_,_,_=>⟨rfl,λj hj=>by
   have:j=0\/j=1:=by simp at hj;omega
   rcases this with rfl|rfl
   .exact hk
   .exact hv⟩
 |e::es,a::v::r,ho,hl,h,hn=>by
  simp only[PE,aK]at ho;have h0:RD ν x e.key a:=h 0 aF;have h1:RD ν x e.val v:=h 1 aF;obtain⟨i1,i2⟩:=Sd hk hb cl hv es r ho.2 (by simp only[bH]at hl;omega) (λj hj=>by
   have:=h (j+2) uC;rw[n7]at this;simpa using this) λe' h'=>hn e' (.tail _ h')
  have he:=HG h0 hk ho.1 hb;have:yZ a k=false:=by
   cases q:yZ a k with
   |false=>rfl
   |true=>exact absurd (he.1 q) (hn e (.head _))
  refine⟨by simp only[K9,this,cond_false,i1];rfl,λj hj=>?_⟩
  match j,hj with
  |0,_=>exact h0
  |1,_=>exact h1
  |j+2,hj=>
   have:=i2 j (by simp only[bV,bH,b7]at hj⊢;omega);rw[<-n7 e]at this;simpa using this
 |_::_,[],_,hl,_,_=>by simp at hl
 |[],_::_,_,hl,_,_=>by simp at hl
 |_::es,[_],ho,hl,_,_=>by simp at hl;omega
def YE (hk:RD ν x key k)(hb:Bk k=true){val:Value}{d:D}(hv:RD ν x val d):∀(es:List MapEntry) (kvs:List D) (i:Nat) (e:MapEntry),PE kvs=true->2*es.length=kvs.length->(∀j,j<kvs.length->RD ν x (UD es j) (kvs.getD j .any))->(es.map (·.key)).Nodup->es[i]? =some e->e.key=key->
  (K9 k d kvs).length=kvs.length/\∀j,j<kvs.length->RD ν x (UD (es.modify i λe=>{e with key:=key,val:=val}) j) ((K9 k d kvs).getD j .any)
 |[],_,i,e,_,_,_,_,hi,_=>by simp at hi
 |e0::es,a::v::r,0,e,ho,hl,h,hnd,hi,hkey=>by
  simp only[PE,aK]at ho;obtain rfl:e0=e:=by simpa using hi
  have h0:RD ν x e0.key a:=h 0 aF;have he:=(HG h0 hk ho.1 hb).2 hkey;refine⟨by simp only[K9,he,cond_true];rfl,λj hj=>?_⟩;simp only[K9,he,cond_true]
  match j,hj with
  |0,_=>rw[hkey]at h0;exact h0
  |1,_=>exact hv
  |j+2,hj=>
   have:=h (j+2) hj;rw[n7]at this;simp only[List.modify_zero_cons];rw[n7];simpa using this
 |e0::es,a::v::r,i+1,e,ho,hl,h,hnd,hi,hkey=>by
  simp only[PE,aK]at ho;simp only[List.map_cons,List.nodup_cons]at hnd;have hi':es[i]? =some e:=by simpa using hi
  have h0:RD ν x e0.key a:=h 0 aF;have h1:RD ν x e0.val v:=h 1 aF;obtain⟨i1,i2⟩:=YE hk hb hv es r i e ho.2 (by simp only[bH]at hl;omega) (λj hj=>by
   have:=h (j+2) uC;rw[n7]at this;simpa using this) hnd.2 hi' hkey
  have:yZ a k=false:=by
   cases q:yZ a k with
   |false=>rfl
   |true=>exact absurd (ch.2 ⟨e,List.mem_of_getElem? hi',hkey.trans ((HG h0 hk ho.1 hb).1 q).symm⟩) hnd.1
  refine⟨by simp only[K9,this,cond_false,bH,i1],λj hj=>?_⟩;simp only[K9,this,cond_false,List.modify_succ_cons]
  match j,hj with
  |0,_=>exact h0
  |1,_=>exact h1
  |j+2,hj=>
   have:=i2 j (by simp only[bH]at hj;omega);rw[<-n7 e0]at this;simpa using this
 |_::_,[],_,_,_,hl,_,_,_,_=>by simp at hl
 |_::es,[_],_,_,ho,hl,_,_,_,_=>by simp at hl;omega
end
section
variable {x:X}{f:Nat->Option bm}{C:CC}{defs:List (Option Nat)}{J:Src->aY}{ev:Operand->Value}{Y:Ctx}{m:List (Nat×bm)}{L:Nat}
def tD {d:D}(h:mpO m d):∃l kvs,d=.fn 5000000 [.it l]/\look m l=some (.mpb kvs)/\PE kvs=true:=by
 unfold mpO at h;split at h
 .rename_i n l;obtain⟨rfl,h⟩:=h;split at h
  .rename_i kvs hl;exact⟨l,kvs,rfl,hl,h⟩
  .exact h.elim
 .exact h.elim
def RD.HO (hsm:∀fid n,dK ν fid=some n->n<1000000){v:Value}(h:RD ν x v (.fn 5000000 [.it l])):∃b base tot,v=.map (some b)/\x.β l=some (b,base,tot):=by
 generalize hd:D.fn 5000000 [.it l]=d at h;cases h<;>simp only[reduceCtorEq,D.fn.injEq]at hd
 case fn fid n cs ds hν hl h=>have:=hsm _ _ hν;omega
 case ef fid n cs ds hν hl h=>have:=hsm _ _ hν;omega
 case im l' b base tot hβ=>
  obtain⟨_,hd⟩:=hd;simp only[th,D.it.injEq,dE]at hd;subst hd;exact⟨b,base,tot,rfl,hβ⟩
 all_goals (first|omega|(obtain⟨h1,_⟩:=hd;omega))
def akt {o:Oper}{i:az}{r:Option Operand}(hc:C.op defs o=some i)(ho:o.op=.makeMap t r)(hρ:vz C defs J ev x o.op.operands.toList)(hob:i.eL Y J m)(hs:fG C.ν x f)(hL:x.β L=none):
  BD C.ν x (jc f (i.wr J L) (i.bR Y J m L)) L (i.val Y J m L) ((execOp ev o).run C.P x.w):=by
 cases r with
 |some r=>simp[CC.op,ho]at hc
 |none=>
  simp only[CC.op,ho]at hc;split at hc
  .split at hc
   .simp only[aC]at hc;subst hc;refine oG (tot:=1) (blk:=.mpb []) hs hL (ie.alloc x.w (.map #[] 0)) aF ⟨rfl,#[],0,dV x.w _,rfl,aF,λi hi=>by simp at hi⟩ (.im L x.w.heap.size 0 1 nH) ?_ (λl=>?_)
    .simp[execOp,ho,Instr.makeMap]
    .by_cases e:l=L
     .subst e;simp[jc,az.wr,az.bR,bM,jt]
     .simp[jc,az.wr,e,jt]
   .cases hc
  .cases hc
def HP {kvs:List D}(h:look m l=some (.mpb kvs)):mpAt m (.fn 5000000 [.it l])=kvs:=by simp only[mpAt,h]
def Pn {k:TypeId}(h:Ph P k=true):WideMaps.KeyLaw P k/\∀{ν:List (Nat×Nat)}{x:X}{v:Value}{d:D},RD ν x v d->Bk d=true->∃l,keyOf P k v=some l:=by
 obtain⟨e,A,he,hsz⟩:=Yi h;refine⟨A.law,λhv hk=>?_⟩;obtain⟨a,b,_,rfl,ha,hb⟩:=hv.key hk;exact⟨_,Up A he hsz ha hb⟩
def YD:∀(kvs:List D) (j:Nat),PE kvs=true->2*j<kvs.length->Bk (kvs.getD (2*j) .any)=true
 |[],j,_,h=>by simp at h
 |[_],j,h,_=>by simp[PE]at h
 |a::v::r,0,h,_=>by simp only[PE,aK]at h;exact h.1
 |a::v::r,j+1,h,hl=>by
  simp only[PE,aK]at h;have:=YD r j h.2 (by simp only[bH]at hl;omega);rw[show 2*(j+1)=2*j+2 by omega];simpa using this
def R4 {x:X}{k:TypeId}(h:Ph P k=true){es:List MapEntry}{kvs:List D}(ho:PE kvs=true)(hl:2*es.length=kvs.length)(hd:∀j,j<kvs.length->RD ν x (UD es j) (kvs.getD j .any)):∀e∈es,∃l,keyOf P k e.key=some l:=by
 intro e he;obtain⟨j,hj,rfl⟩:=List.mem_iff_getElem.1 he;have h1:=hd (2*j) ae;have h2:UD es (2*j)=es[j].key:=by
  unfold UD;rw[show 2*j/2=j by omega,List.getElem?_eq_getElem hj];simp
 rw[h2]at h1;exact(Pn h).2 h1 (YD kvs j ho ae)
def aks {o:Oper}{i:az}{p:Operand}(hsm:∀fid n,dK C.ν fid=some n->n<1000000)(hc:C.op defs o=some i)(ho:o.op=.lookup t p q true)(hρ:vz C defs J ev x o.op.operands.toList)(hob:i.eL Y J m)(hs:fG C.ν x f)(hag:E7 f m (i.nd J)):
  BD C.ν x (jc f (i.wr J L) (i.bR Y J m L)) L (i.val Y J m L) ((execOp ev o).run C.P x.w):=by
 simp only[CC.op,ho]at hc;split at hc
 .rename_i a b kt et h1 h2 hu;split at hc
  .rename_i z hz;split at hc
   .rename_i hk;simp only[aC]at hc;subst hc;obtain⟨k1,k2,k3,k4⟩:=hob;obtain⟨l,kvs,hd,hl,hK⟩:=tD k3;have hfl:f l=some (.mpb kvs):=by rw[<-hl];exact hag l (by simp[hd,Dg])
    have hv:=hρ p rB a h1 k1;rw[hd]at hv;obtain⟨bb,base,tot,hv1,hβ⟩:=hv.HO hsm;have hkv:=hρ q rB b h2 k2;obtain⟨hnI,hnl,es,cl,hb1,pF,hb3,hb4⟩:=hs.own l _ bb base tot hfl hβ;obtain⟨law,hko⟩:=Pn hk;obtain⟨kl,hkl⟩:=hko hkv k4;have hall:=R4 hk hK (by simpa using pF) hb4;have hck:=law.check x.w es.isEmpty hkl;obtain⟨ti,zv,hi,hzv,hr⟩:=qn (x:=x) hz;have haf:jc f ((az.lkM z a b).wr J L) ((az.lkM z a b).bR Y J m L)=f:=by funext l';simp[jc,az.wr]
    have htup:∀{a b:Value} {da db:D},RD C.ν x a da->RD C.ν x b db->RD C.ν x (.tuple #[a,b]) (.tup [da,db]):=λha hb=>.tup _ _ rfl λi hi=>by
     match i,hi with
     |0,_=>exact ha
     |1,_=>exact hb
    obtain⟨f1,f2⟩:=Sc hkv k4 es.toList kvs hK (by simpa using pF) hb4;have hobj:=MapKept.run_getObj_map (P:=C.P) hb1;rw[haf];rcases law.find x.w hkl es.toList hall with⟨r1,r2⟩|⟨j,e,r1,r2,r3⟩
    .simp only[az.val,hd,HP hl,f1 r2];refine nP hs (v:=.tuple #[zv,.bool false]) ?_ (htup hr (.bool _));simp[execOp,ho,hv1,Instr.lookup,run_underlying hu,hobj,hck,r1,zeroValue,run_typeInfo x.w hi,hzv,Result.andThen]
    .obtain⟨v,f3,f4⟩:=f2 e (List.mem_of_getElem? r2) r3 hb3;simp only[az.val,hd,HP hl,f3];refine nP hs (v:=.tuple #[e.val,.bool true]) ?_ (htup f4 (.bool _));simp[execOp,ho,hv1,Instr.lookup,run_underlying hu,hobj,hck,r1,Result.andThen]
   .cases hc
  .cases hc
 .cases hc
def af3 {k d:D}(hk:k.aU=true)(hd:d.aU=true):∀(kvs:List D),aP kvs=true->aP (K9 k d kvs)=true
 |[],_=>by simp[K9,aP,hk,hd]
 |[_],_=>by simp[K9,aP,hk,hd]
 |a::v::r,h=>by
  simp only[aP,aK]at h;simp only[K9];cases yZ a k
  .simp only[cond_false,aP,aK];exact⟨h.1,h.2.1,af3 hk hd r h.2.2⟩
  .simp only[cond_true,aP,aK];exact⟨h.1,hd,h.2.2⟩
def akw {o:Oper}{i:az}{p r:Operand}(hsm:∀fid n,dK C.ν fid=some n->n<1000000)(hc:C.op defs o=some i)(ho:o.op=.mapUpdate t p q r)(hρ:vz C defs J ev x o.op.operands.toList)(hob:i.eL Y J m)(hs:fG C.ν x f)(hag:E7 f m (i.nd J)):
  BD C.ν x (jc f (i.wr J L) (i.bR Y J m L)) L (i.val Y J m L) ((execOp ev o).run C.P x.w):=by
 simp only[CC.op,ho]at hc;split at hc
 .rename_i a b c h1 h2 h3;split at hc
  .rename_i kt et hu;split at hc
   .rename_i hk;simp only[aC]at hc;subst hc;obtain⟨k1,k2,k2',k3,k4,vk,vn,hvd⟩:=hob;obtain⟨l,kvs,hd,hl,hK⟩:=tD k3;have hfl:f l=some (.mpb kvs):=by rw[<-hl];exact hag l (by simp[hd,Dg])
    have hv:=hρ p rB a h1 k1;rw[hd]at hv;obtain⟨bb,base,tot,hv1,hβ⟩:=hv.HO hsm;have hkv:=hρ q rB b h2 k2;have hvv:=hρ r rB c h3 k2';obtain⟨hnI,hnl,es,cl,hb1,pF,hb3,hb4⟩:=hs.own l _ bb base tot hfl hβ;have hlt:=hs.ef l bb base tot hβ;obtain⟨law,hko⟩:=Pn hk;obtain⟨kl,hkl⟩:=hko hkv k4;have hall:=R4 hk hK (by simpa using pF) hb4;have hck:=law.check x.w false hkl;have hobj:=MapKept.run_getObj_map (P:=C.P) hb1;have hset:∀ob,(setObj bb ob).run C.P x.w=.ok () {x.w with heap:=x.w.heap.setIfInBounds bb ob}:=λob=>MapKept.run_setObj_map ob hb1
    have hknl:(J b).d.aU=true:=by obtain⟨s1,s2,e1,_⟩:=hkv.key k4;rw[e1];rfl
    have hvnl:(J c).d.aU=true:=by rw[hvd];rfl

    obtain⟨es',cl',hrun,hlen',hnd',hrd'⟩:∃es' cl',(execOp ev o).run C.P x.w=.ok .skip {x.w with heap:=x.w.heap.setIfInBounds bb (.map es' cl')}/\2*es'.size=(K9 (J b).d (J c).d kvs).length/\(es'.toList.map (·.key)).Nodup/\∀j,j<(K9 (J b).d (J c).d kvs).length->RD C.ν x (UD es'.toList j) ((K9 (J b).d (J c).d kvs).getD j .any):=by
     rcases law.find x.w hkl es.toList hall with⟨r1,r2⟩|⟨j,e,r1,r2,r3⟩
     .obtain⟨p1,p2⟩:=Sd hkv k4 cl hvv es.toList kvs hK (by simpa using pF) hb4 r2;refine⟨es.push ⟨ev q,ev r,cl⟩,cl+1, ?_,by rw[p1];simp;omega, ?_,by rw[p1];simpa using p2⟩
      .simp[execOp,ho,hv1,Instr.mapUpdate,run_underlying hu,hobj,hck,r1,hset,Result.andThen]
      .simp only[Array.toList_push,List.map_append,List.map_cons,List.map_nil];rw[List.nodup_append];refine⟨hb3,aF,λy hy z hz=>?_⟩;obtain⟨e,he,rfl⟩:=ch.1 hy;simp only[aJ]at hz;subst hz;exact r2 e he
     .obtain⟨p1,p2⟩:=YE hkv k4 hvv es.toList kvs j e hK (by simpa using pF) hb4 hb3 r2 r3;have hst:(Instr.keyThatStays (((es[j]?).map (·.key)).getD (ev q)) (ev q)).run C.P x.w=.ok (ev q) x.w:=by
       have:es[j]? =some e:=by simpa using r2
       rw[this];simp only[Option.map_some,Option.getD_some,r3];exact law.stays x.w hkl
      refine⟨es.modify j λe=>{e with key:=ev q,val:=ev r},cl, ?_,by rw[p1];simp;omega, ?_,by rw[p1];simpa using p2⟩
      .simp[execOp,ho,hv1,Instr.mapUpdate,run_underlying hu,hobj,hck,r1,hset,hst,Result.andThen]
      .have:=MapKept.modify_keys (es:=es) j (λe=>{e with key:=ev q,val:=ev r}) (λe' he'=>by
        have h4:es[j]? =some e:=by simpa using r2
        rw[h4]at he';obtain rfl:=bc he';exact r3.symm)
       rw[this];exact hb3
    let w':World:={x.w with heap:=x.w.heap.setIfInBounds bb (.map es' cl')}
    have hother:∀b',b'≠bb->w'.heap[b']? =x.w.heap[b']? :=λb' hb'=>by simp[w',Array.getElem?_setIfInBounds,show ¬bb=b' by omega]
    have hhere:w'.heap[bb]? =some (.map es' cl'):=by simp[w',hlt]
    have hsize:w'.heap.size=x.w.heap.size:=by simp[w']
    have hstep:Step x ⟨w',x.I,x.β⟩:=
     ⟨rfl,rfl,rfl,by show _<=w'.heap.size;omega,λ_ h=>h,λb' hb'=>hother b' (λe=>hnI (e▸hb')),λ_ _ h=>h,λb' _ hn=>hother b' (λe=>hn l _ hβ e.symm),λ_ h=>.inl h,λ_ _ h=>.inl h⟩
    have haf:∀l',jc f ((az.upM a b c).wr J L) ((az.upM a b c).bR Y J m L) l'=jt f l (some (.mpb (K9 (J b).d (J c).d kvs))) l':=by
     intro l';simp only[jc,az.wr,hd,Dg,az.bR,HP hl,aJ,bM,jt];by_cases e:l'=l
     .rw[ak e,ak e,ak e]
     .rw[ai e,ai e]
    refine⟨undef,⟨w',x.I,x.β⟩,.inr ⟨hrun,rfl⟩,hstep,.any _, ?_,λ_ _=>rfl⟩;refine⟨λl' blk b' base' tot' e1 e2=>?_,λl1 l2 b' base' tot' base'' tot'' e1 e2 e3 e4=>?_,λb' hb'=>by show b'<w'.heap.size;rw[hsize];exact hs.imm b' hb',λl' b' base' tot' e=>by show b'<w'.heap.size;rw[hsize];exact hs.ef l' b' base' tot' e,rH hstep.le hs.gd⟩
    .rw[haf]at e1;by_cases e:l'=l
     .subst e;simp only[jt,bo,aC]at e1;subst e1;have e2':x.β l'=some (b',base',tot'):=e2;rw[hβ]at e2';simp only[aC,dw]at e2';obtain⟨rfl,rfl,rfl⟩:=e2';exact⟨hnI,af3 hknl hvnl kvs hnl,es',cl',hhere,hlen',hnd',λj hj=>(hrd' j hj).mono hstep.le⟩
     .simp only[jt,e,a8]at e1;obtain⟨a1,a2⟩:=hs.own l' blk b' base' tot' e1 e2;refine⟨a1,a2.mono hstep.le (hother b' (λeb=>?_))⟩;subst eb;exact e (hs.inj l' l b' base' tot' base tot (by rw[e1];simp) (by rw[hfl];simp) e2 hβ)
    .rw[haf]at e1 e2;refine hs.inj l1 l2 b' base' tot' base'' tot'' ?_ ?_ e3 e4
     .by_cases e:l1=l
      .rw[e,hfl];simp
      .simpa[jt,e]using e1
     .by_cases e:l2=l
      .rw[e,hfl];simp
      .simpa[jt,e]using e2
   .cases hc
  .cases hc
 .cases hc
end
end
section
variable [cI]
section
variable {x:X}{f:Nat->Option bm}{C:CC}{defs:List (Option Nat)}{J:Src->aY}{ev:Operand->Value}{Y:Ctx}{m:List (Nat×bm)}{L:Nat}
def flat_get (n k:Nat)(g:Nat->Nat->Value)(i j:Nat)(hi:i<n)(hj:j<k):((List.range (n*k)).map λq=>g (q/k) (q%k)).getD (i*k+j) undef=g i j:=by
 have hlt:=kM hi hj;have h1:(i*k+j) /k=i:=by rw[Nat.mul_comm,Nat.mul_add_div ae,Nat.div_eq_of_lt hj];omega
 have h2:(i*k+j)%k=j:=by rw[Nat.mul_comm,Nat.mul_add_mod];exact Nat.mod_eq_of_lt hj
 simp[List.getD,hlt,h1,h2]
def alq {u:TypeId}(hk0:k≠0)(hkind:(∃e',C.P.underlying u=some (.slice e'))\/C.P.underlying u=some .string){v:Value}{d:D}(hv:RD C.ν x v d)(hd:Cu m k d)(hs:fG C.ν x f)(hag:∀l,l∈ca d->f l=look m l):
  ∃news,Go.Src C.P k u v (qw m d).length news x.w/\∀i,i<(qw m d).length->((qw m d).getD i .any).cells.length=k/\∀j,j<k->
   RD C.ν x (news.getD (i*k+j) undef) (((qw m d).getD i .any).cells.getD j .any):=by
 have nothing:∀(a:Option Addr) (c:Nat),Go.Src C.P k u (.slice a 0 c) 0 [] x.w:=by
  intro a c;have hf:∀w':World,(Builtin.firstCells k 0 (.slice a 0 c)).run C.P w'=.ok #[] w':=by
   intro w';cases a<;>simp[Builtin.firstCells,loadCells,loadCellsFrom]
  exact⟨hkind,λ_=>rfl,hf _,hf _,aF,λ_ h=>cw⟩
 have some_:∀(b off n cap:Nat) (g:Nat->Nat->Value),(∀i j,i<n->j<k->x.w.cell? ⟨b,off+i*k+j,none⟩=some (g i j)/\(g i j).oneCell'=true)->
   Go.Src C.P k u (.slice (some ⟨b,off,none⟩) n cap) n ((List.range (n*k)).map λq=>g (q/k) (q%k)) x.w:=by
  intro b off n cap g hg;have hqd:∀q,q<n*k->q/k<n/\q%k<k/\q/k*k+q%k=q:=λq hq=>
   ⟨Nat.div_lt_of_lt_mul (by rw[Nat.mul_comm];exact hq),Nat.mod_lt _ ae,by rw[Nat.mul_comm];exact Nat.div_add_mod q k⟩
  have hcell:∀j u',((List.range (n*k)).map λq=>g (q/k) (q%k))[j]? =some u'->x.w.cell? ((⟨b,off,none⟩:Addr).add j)=some u':=by
   intro j u' hj;obtain⟨hj2,rfl⟩:=List.getElem?_eq_some_iff.1 hj;simp at hj2;obtain⟨h1,h2,h3⟩:=hqd j hj2;rw[Addr.A9];simp only[List.getElem_map,List.getElem_range];rw[<-(hg _ _ h1 h2).1];congr 2;omega
  refine⟨hkind,λ_=>rfl,run_firstCells_some x.w k n _ n cap _ aF hcell,run_firstCells_some x.w.drew k n _ n cap _ aF (by simpa using hcell),aF,λu' hu'=>?_⟩;obtain⟨q,hq,rfl⟩:=ch.1 hu';obtain⟨h1,h2,_⟩:=hqd q (by simpa using hq);exact(hg _ _ h1 h2).2
 cases d<;>simp only[Cu]at hd
 ·
  rename_i s;obtain⟨rfl,h2⟩:=hv.jW;subst hd;have hsz:(⟨⟨s⟩⟩:ByteArray).size=s.length:=rfl;refine⟨byteCells ⟨⟨s⟩⟩, ?_,λi hi=>?_⟩
  .have:(qw m (.str s)).length=(⟨⟨s⟩⟩:ByteArray).size:=by simp[qw,hsz]
   rw[this];exact⟨hkind,λ_=>rfl,firstCells_string _ _,firstCells_string _ _,by rw[byteCells_length,Nat.mul_one],λu' hu'=>by
    obtain⟨_,_,rfl⟩:=ch.1 hu';rfl⟩
  .have hi':i<s.length:=by simpa[qw]using hi
   have e:(qw m (.str s)).getD i .any=.int .u8 (s.getD i 0).toNat:=by simp[qw,List.getD,hi']
   rw[e];refine⟨rfl,λj hj=>?_⟩;obtain rfl:j=0:=ae;have e2:(byteCells ⟨⟨s⟩⟩).getD (i*1+0) undef=.int .u8 (s.getD i 0).toNat:=by simp[byteCells,List.getD,hi']
   rw[e2];exact .int _ _
 .cases hv;exact⟨[],nothing none 0,λi hi=>by simp[qw]at hi⟩
 .rename_i k' es;subst hd;cases hv with
  |sl a b off len cap _ _ c hlen ha hcap hm hk hn hcc hone hh=>
   subst hlen;rcases ha with rfl|⟨rfl,hI⟩
   .exact⟨[],by simpa[qw]using nothing a cap,λi hi=>by simp[qw]at hi⟩
   .refine⟨_,some_ b off es.length cap c (λi j hi hj=>⟨hcc i j hi hj,hone i j hi hj⟩),λi hi=>⟨hk i hi,λj hj=>?_⟩⟩;rw[flat_get es.length k' c i j hi hj];exact hh i j hi hj
 .rename_i l k' i0 n;obtain⟨rfl,hb⟩:=hd;cases hv with
  |own0 _ _ _ a=>exact⟨[],by simpa[qw]using nothing a 0,λi hi=>by simp[qw]at hi⟩
  |own _ _ _ _ b base tot cap aa hβ ha hcap hm ht=>
   obtain⟨g1,g2,g3⟩:=vB hs (hag l (by simp[ca])) hb;obtain⟨hnI,hk0',ht',c,T,fr,q1,q2,q3,q4⟩:=hs.own l _ b base tot g1 hβ;have hlen:(qw m (.own l k' i0 n)).length=n:=by simp only[qw];exact gX _ _ _ g2
   rw[hlen];by_cases hn0:n=0
   .subst hn0;exact⟨[],nothing _ _,λi hi=>ae⟩
   .have ha':=ha ae;subst ha';have hg:∀i,i<n->(qw m (.own l k' i0 n)).getD i .any=(aL m l).getD (i0+i) .any:=λi hi=>by simp only[qw];exact eh _ _ _ _ _ hi
    refine⟨_,some_ b (base+i0*k') n cap (λi j=>c.getD (base+(i0+i)*k'+j) undef) (λi j hi hj=>?_),λi hi=>?_⟩
    .have h1:=kM (tot:=tot) (show i0+i<tot by omega) hj;refine⟨?_,((q4 (i0+i) ae).2 j hj).1⟩;rw[<-cell_of_heap q1 (by omega:base+(i0+i)*k'+j<c.size)];congr 2;rw[Nat.add_mul];omega
    .rw[hg i hi];refine⟨(q4 (i0+i) ae).1,λj hj=>?_⟩;rw[flat_get n k' (λi j=>c.getD (base+(i0+i)*k'+j) undef) i j hi hj];exact((q4 (i0+i) ae).2 j hj).2
theorem cS {α:Type}(a b:List α)(i:Nat)(d:α):(a++b).getD i d=if i<a.length then a.getD i d else b.getD (i-a.length) d:=by
 grind
theorem Ub {mm cap:Nat}{olds:List Value}{zs:Array Value}{es1 es2:List D}(x':X)(b:Nat)(hk0:k≠0)(hlo:olds.length=n*k)(hln:news.length=mm*k)(h1:es1.length=n)(h2:es2.length=mm)(hcap:n+mm<=cap)(hzs:zs.size=(cap-(n+mm))*k)(hx:x'.w.heap[b]? =some (.cells ((olds++news).toArray++zs) T (0,0)))(ho:∀i,i<n->(es1.getD i .any).cells.length=k/\∀j,j<k->(olds.getD (i*k+j) undef).oneCell'=true/\RD C.ν x' (olds.getD (i*k+j) undef) ((es1.getD i .any).cells.getD j .any))(hn:∀i,i<mm->(es2.getD i .any).cells.length=k/\∀j,j<k->(news.getD (i*k+j) undef).oneCell'=true/\RD C.ν x' (news.getD (i*k+j) undef) ((es2.getD i .any).cells.getD j .any)):
  oW C.ν x' b 0 cap (.buf k (es1++es2)):=by
 have hsz:((olds++news).toArray++zs).size=cap*k:=by
  simp only[Array.size_append,List.size_toArray,bV,hlo,hln,hzs,<-Nat.add_mul];congr 1;omega
 refine wL (w':=x'.w) (L:=0) x' hx ae eJ ae (λo _=>aF) (λi hi=>?_);simp only[bV,h1,h2]at hi;have hge:∀j,j<k->(((olds++news).toArray++zs).getD (i*k+j) undef)=(olds++news).getD (i*k+j) undef:=by
  intro j hj;have:=kM hi hj;rw[Nat.add_mul]at this;rw[<-bL];simp only[Array.toList_append];rw[cS,ak eJ]
 rw[cS];by_cases h:i<n
 .grind [cS,kM]
 .rw[ai ae,h1];refine⟨(hn (i-n) ae).1,λj hj=>?_⟩;have hnk:n*k<=i*k:=fL _ ae;rw[hge j hj,cS,ai ae,show i*k+j-olds.length=(i-n)*k+j by rw[hlo,Nat.sub_mul];omega];exact(hn (i-n) ae).2 j hj
theorem YZ (h:∀u∈news,u.oneCell'=true)(q:Nat)(hq:q<news.length):(news.getD q undef).oneCell'=true:=by
 grind
theorem fG.less {f:Nat->Option bm}(h:fG ν x f)(hf:∀l,f' l=f l\/f' l=none\/x.β l=none):fG ν x f':=by
 refine⟨λl blk b base tot e1 e2=>?_,λl1 l2 b base tot base' tot' e1 e2 e3 e4=>?_,h.imm,h.ef,h.gd⟩
 .rcases hf l with e|e|e
  .exact h.own l blk b base tot (e▸e1) e2
  .rw[e]at e1;cases e1
  .rw[e]at e2;cases e2
 .refine h.inj l1 l2 b base tot base' tot' ?_ ?_ e3 e4
  .grind
  grind
def Lt {u e:TypeId}{base:Option Addr}{sLen sCap mm:Nat}{olds:List Value}{es1 E:List D}(hs:fG C.ν x f)(hL:x.β L=none)(ht:C.P.underlying t=some (.slice e))(hi:C.P.info? e=some ti)(hz:ti.zero=some z)(hzd:z.cells.size=ti.size)(hk:ti.size=k)(hk0:k≠0)(hby:ti.bytes<=65536)(hold:(Builtin.firstCells k sLen (.slice base sLen sCap)).run C.P x.w.drew=.ok olds.toArray x.w.drew)(hol:olds.length=sLen*k)(h1:es1.length=sLen)(h2:E.length=mm)(ho:∀i,i<sLen->(es1.getD i .any).cells.length=k/\∀j,j<k->(olds.getD (i*k+j) undef).oneCell'=true/\RD C.ν x (olds.getD (i*k+j) undef) ((es1.getD i .any).cells.getD j .any))(hsrc:Go.Src C.P k u xv mm news x.w)(hn:∀i,i<mm->(E.getD i .any).cells.length=k/\∀j,j<k->RD C.ν x (news.getD (i*k+j) undef) ((E.getD i .any).cells.getD j .any))(hg:sCap<sLen+mm)(hle:sLen+mm<=1073741824)(hf:∀l,l≠L->f' l=f l\/f' l=none)(hfL:f' L=some (.buf k (es1++E)))(hr:r=((Builtin.append_ #[t,u] ty #[.slice base sLen sCap,xv]).run C.P x.w).andThen λv w'=>.ok (.value v) w'):
  BD C.ν x f' L (.own L k 0 (sLen+mm)) r:=by
 subst hk;have hfit:=growslice_fits_wide (need:=sLen+mm) (old:=sCap) (bytes:=ti.bytes) hg (by
  have:(sLen+mm+(sLen+mm) /4+192)*ti.bytes<=(sLen+mm+(sLen+mm) /4+192)*65536:=Nat.mul_le_mul_left _ hby;omega)
 have hrun:=run_append_grow_src x.w t u ty e ti z ht hi hz base sLen sCap olds hold xv mm news hsrc hg ae hfit;have hcge:=grownCap_ge x.w (sLen+mm) sCap e;have hcle:=grownCap_le_maxLen x.w (sLen+mm) sCap e (by simp only[maxLen];omega);generalize grownCap x.w (sLen+mm) sCap e=cap at hrun hcge hcle;have hgrow:ie x.w (x.w.drew.alloc (.cells ((olds++news).toArray++Builtin.zeroCells z.cells (cap-(sLen+mm))) e)):=by
  refine⟨rfl,rfl,rfl, ?_,λb hb=>?_⟩
  .have:=(ie.alloc x.w.drew (.cells ((olds++news).toArray++Builtin.zeroCells z.cells (cap-(sLen+mm))) e)).size;exact this
  .exact lU x.w.drew _ b hb
 have hlex:=HK (tot:=cap) hs hgrow hL;have hs':fG C.ν x (λl=>if f' l=none then none else f l):=hs.less (λl=>by
  by_cases h:f' l=none
  .right;left;simp[h]
  .left;simp[h])
 refine oG (f:=λl=>if f' l=none then none else f l) (v:=.slice (some ⟨x.w.heap.size,0,none⟩) (sLen+mm) cap) (tot:=cap) (blk:=.buf ti.size (es1++E)) hs' hL hgrow ?_ ?_ ?_ ?_ (λl=>?_)
 .show x.w.heap.size<(x.w.drew.heap.push _).size;rw[Array.size_push];exact Nat.lt_succ_self _
 .exact Ub (n:=sLen) (mm:=mm) (olds:=olds) (news:=news) (T:=e) (zs:=Builtin.zeroCells z.cells (cap-(sLen+mm))) _ _ hk0 hol hsrc.newsLen h1 h2 hcge
   (by rw[size_zeroCells,hzd]) (dV x.w.drew _)
   (λi hi=>⟨(ho i hi).1,λj hj=>⟨((ho i hi).2 j hj).1,((ho i hi).2 j hj).2.mono hlex⟩⟩)
   (λi hi=>⟨(hn i hi).1,λj hj=>⟨YZ hsrc.one _ (by rw[hsrc.newsLen];exact kM hi hj),((hn i hi).2 j hj).mono hlex⟩⟩)
 .exact .own L _ 0 (sLen+mm) x.w.heap.size 0 cap cap ⟨x.w.heap.size,0,none⟩ nH (λ_=>aF) hcge hcle ae
 .rw[hr,hrun];rfl
 .by_cases e:l=L
  .subst e;simp[jt,hfL]
  .simp only[jt,e,a8];rcases hf l e with h|h
   .by_cases h':f' l=none
    .rw[ak h'];exact h'
    .rw[ai h'];exact h
   .rw[ak h];exact h
def zY {u e:TypeId}{a:Addr}{sLen sCap:Nat}(ht:C.P.underlying t=some (.slice e))(hi:C.P.info? e=some ti)(hk:ti.size=k)(hsrc:Go.Src C.P k u xv 0 [] x.w)(hc:sLen<=sCap):
  (Builtin.append_ #[t,u] ty #[.slice (some a) sLen sCap,xv]).run C.P x.w=.ok (.slice (some a) sLen sCap) x.w:=by
 subst hk;rcases hsrc.kind with⟨e',hk⟩|hk<;>simp[Builtin.append_,run_underlying ht,run_underlying hk,sizeOf,typeInfo,hi,hsrc.len,hc,hsrc.cells,storeCells]
def Hd {u e:TypeId}(ht:C.P.underlying t=some (.slice e))(hi:C.P.info? e=some ti)(hk:ti.size=k)(hsrc:Go.Src C.P k u xv 0 [] x.w):
  (Builtin.append_ #[t,u] ty #[.slice none 0 0,xv]).run C.P x.w=.ok (.slice none 0 0) x.w:=by
 subst hk;rcases hsrc.kind with⟨e',hk⟩|hk<;>simp[Builtin.append_,run_underlying ht,run_underlying hk,sizeOf,typeInfo,hi,hsrc.len,hsrc.cells,storeCells]
def akp {o:Oper}{i:az}{p:Operand}{u:TypeId}(hc:C.op defs o=some i)(ho:o.op=.call {callee:=.builtin .append,args:=#[p,q],argTypes:=#[t,u]})(hρ:vz C defs J ev x o.op.operands.toList)(hob:i.eL Y J m)(hs:fG C.ν x f)(hag:E7 f m (i.nd J))(hL:x.β L=none):
  BD C.ν x (jc f (i.wr J L) (i.bR Y J m L)) L (i.val Y J m L) ((execOp ev o).run C.P x.w):=by
 have hcc:∃a b e,C.src defs p=some a/\C.src defs q=some b/\C.P.underlying t=some (.slice e)/\((∃e',C.P.underlying u=some (.slice e'))\/C.P.underlying u=some .string)/\
   ¬(C.P.cellsOf e=0\/C.P.bytesOf e>65536\/C.P.bytesOf e=0\/qo C.P e=false)/\i=.app (C.P.cellsOf e) a b:=by
  simp only[CC.op,ho]at hc;split at hc
  .rename_i a b e e' h1 h2 h3 h4;split at hc
   .cases hc
   .rename_i hn;simp only[aC]at hc;exact⟨a,b,e,h1,h2,h3,.inl ⟨_,h4⟩,hn,hc.symm⟩
  .rename_i a b e h1 h2 h3 h4;split at hc
   .cases hc
   .rename_i hn;simp only[aC]at hc;exact⟨a,b,e,h1,h2,h3,.inr h4,hn,hc.symm⟩
  .cases hc
 obtain⟨a,b,e,h1,h2,hu,hu2,hn,rfl⟩:=hcc;have hce:C.P.cellsOf e≠0:=λh=>hn (.inl h)
 obtain⟨ti,hti,htis⟩:=pf hce;have hby:ti.bytes<=65536:=by
  have:¬C.P.bytesOf e>65536:=λh=>hn (.inr (.inl h))
  simp[Program.bytesOf,hti]at this;omega
 obtain⟨z,hz,hzl⟩:∃z,tg C.P e=some z/\z.cells.length=C.P.cellsOf e:=by
  have hzf:qo C.P e=true:=by
   cases h:qo C.P e
   .exact absurd (.inr (.inr (.inr h))) hn
   .rfl
  unfold qo at hzf;split at hzf
  .rename_i z hz;exact⟨z,hz,by simpa using hzf⟩
  .cases hzf
 obtain⟨ti',z',hti',hzv,hzr⟩:=qn (x:=x) hz;obtain rfl:ti'=ti:=by rw[hti]at hti';exact(bc hti').symm
 obtain⟨k1,k2,k3,k4⟩:=hob;have hv:=hρ p du a h1 k1;have hw:=hρ q du b h2 k2;have hag2:∀l,l∈ca (J b).d->f l=look m l:=λl hl=>hag l (by simp;exact .inr hl)
 have hag1:∀l,l∈ca (J a).d->f l=look m l:=λl hl=>hag l (by simp;exact .inl hl)
 obtain⟨news,hsrc,hnews⟩:=alq (u:=u) hce (hu2.imp (λ⟨e',h⟩=>⟨e',h⟩) id) hw k3 hs hag2;have hsz:z'.cells.size=ti'.size:=by have:=(hzr.cells ae).1;omega
 have hr:(execOp ev o).run C.P x.w=((Builtin.append_ #[t,u] o.type #[ev p,ev q]).run C.P x.w).andThen λv w'=>.ok (.value v) w':=by
  simp[execOp,ho,resolve,invoke,builtin]
 generalize hels:qw m (J b).d=E at*
 generalize hep:ev p=vp at*

 have nobase:∀(a0:Option Addr) (f':Nat->Option bm),vp=.slice a0 0 0->E.length<=1073741824->(∀l,l≠L->f' l=f l\/f' l=none)->f' L=some (.buf (C.P.cellsOf e) E)->
   BD C.ν x f' L (.own L (C.P.cellsOf e) 0 E.length) ((execOp ev o).run C.P x.w):=by
  intro a0 f' hvp hle hf hfL;subst hvp;by_cases hm0:E.length=0
  .have hn0:news=[]:=lP (by rw[hsrc.newsLen,hm0];simp);rw[hm0]at hsrc⊢;subst hn0;have hap:(Builtin.append_ #[t,u] o.type #[.slice a0 0 0,ev q]).run C.P x.w=.ok (.slice a0 0 0) x.w:=by
    cases a0 with
    |none=>exact Hd hu hti htis hsrc
    |some a=>exact zY hu hti htis hsrc (aT _)
   rw[hr,hap];refine⟨.slice a0 0 0,x,.inl rfl,.refl x,.own0 L _ 0 a0,hs.less λl=>?_,λ_ _=>rfl⟩;by_cases e:l=L
   .subst e;exact .inr (.inr hL)
   .rcases hf l e with h|h
    .exact .inl h
    .exact .inr (.inl h)
  .have:=Lt (f':=f') (base:=a0) (sLen:=0) (sCap:=0) (olds:=[]) (es1:=[]) (E:=E) (mm:=E.length) hs hL hu hti hzv hsz htis hce hby
    (by cases a0<;>simp[Builtin.firstCells,loadCells,loadCellsFrom]) aF rfl rfl (λi hi=>ae) hsrc hnews ae ae hf (by simpa using hfL) hr
   simpa using this
 cases hd:(J a).d<;>simp only[hd]at k4
 ·
  have he:(az.app (C.P.cellsOf e) a b).bR Y J m L=dh m L (.buf (C.P.cellsOf e) E):=by simp[az.bR,hd,hels]
  have hva:(az.app (C.P.cellsOf e) a b).val Y J m L=.own L (C.P.cellsOf e) 0 E.length:=by simp[az.val,hd,hels]
  have hwr:(az.app (C.P.cellsOf e) a b).wr J L=[L]:=by simp[az.wr,hd,ca]
  rw[he,hva,hwr];rw[hd]at hv;cases hv;exact nobase _ _ rfl k4 (λl hl=>.inl (by simp[jc,hl])) (by simp[jc,bM])
 .rename_i l k' i n;obtain⟨rfl,hbk,hle⟩:=k4;rw[hd]at hv;have he:(az.app (C.P.cellsOf e) a b).bR Y J m L=dh (dd m l) L (.buf (C.P.cellsOf e) ((((aL m l).drop i).take n)++E)):=by simp[az.bR,hd,hels]
  have hva:(az.app (C.P.cellsOf e) a b).val Y J m L=.own L (C.P.cellsOf e) 0 (n+E.length):=by simp[az.val,hd,hels]
  have hwr:(az.app (C.P.cellsOf e) a b).wr J L=[L,l]:=by simp[az.wr,hd,ca]
  rw[he,hva,hwr];have hff:∀l',l'≠L->jc f [L,l] (dh (dd m l) L (.buf (C.P.cellsOf e) ((((aL m l).drop i).take n)++E))) l'=if l'=l then none else f l':=by
   intro l' hl';by_cases e1:l'=l
   .subst e1;simp[jc,bM,fm,hl']
   .simp[jc,hl',e1]
  have hffL:jc f [L,l] (dh (dd m l) L (.buf (C.P.cellsOf e) ((((aL m l).drop i).take n)++E))) L=some (.buf (C.P.cellsOf e) ((((aL m l).drop i).take n)++E)):=by simp[jc,bM]
  have hff':∀l',l'≠L->jc f [L,l] (dh (dd m l) L (.buf (C.P.cellsOf e) ((((aL m l).drop i).take n)++E))) l'=f l'\/jc f [L,l] (dh (dd m l) L (.buf (C.P.cellsOf e) ((((aL m l).drop i).take n)++E))) l'=none:=by
   intro l' hl';rw[hff l' hl'];by_cases e1:l'=l
   .rw[ak e1];exact .inr rfl
   .rw[ai e1];exact .inl rfl
  cases hv with
  |own0=>
   have:=nobase _ (jc f [L,l] (dh (dd m l) L (.buf (C.P.cellsOf e) ((((aL m l).drop i).take 0)++E)))) rfl ae hff' (by simpa using hffL);simpa using this
  |own _ _ _ _ bk base tot cap ad hβ ha hcap hm ht=>
   obtain⟨g1,g2,g3⟩:=vB hs (hag1 l (by simp[hd,ca])) hbk;obtain⟨hnI,hk0',ht',c,T,fr,q1,q2,q3,q4⟩:=hs.own l _ bk base tot g1 hβ;have hlen1:(((aL m l).drop i).take n).length=n:=gX _ _ _ g2;have hgt:∀j,j<n->(((aL m l).drop i).take n).getD j .any=(aL m l).getD (i+j) .any:=λj hj=>eh _ _ _ _ _ hj
   by_cases hroom:n+E.length<=cap
   ·
    have hcsz:base+i*C.P.cellsOf e+cap*C.P.cellsOf e<=c.size:=by
     have:i*C.P.cellsOf e+cap*C.P.cellsOf e<=tot*C.P.cellsOf e:=by rw[<-Nat.add_mul];exact fL _ ae
     omega
    have hnc:n*C.P.cellsOf e+news.length<=cap*C.P.cellsOf e:=by rw[hsrc.newsLen,<-Nat.add_mul];exact fL _ hroom
    have hrun:(Builtin.append_ #[t,u] o.type #[.slice (some ad) n cap,ev q]).run C.P x.w=.ok (.slice (some ad) (n+E.length) cap) (x.w.setCells bk (base+i*C.P.cellsOf e+n*C.P.cellsOf e) news):=by
     by_cases hc0:cap=0
     .have hm0:E.length=0:=ae;have hn0:news=[]:=lP (by rw[hsrc.newsLen,hm0];simp);subst hn0;rw[hm0]at hsrc⊢;rw[zY hu hti htis hsrc hcap];rfl
     .have ha':=ha ae;subst ha';have:=run_append_room_src x.w t u o.type e ti' hu hti bk (base+i*C.P.cellsOf e) n cap (ev q) E.length news (by rw[htis];exact hsrc) hroom
       (λj hj=>by rw[htis,cell_of_heap q1 ae];rfl)
       (λj hj=>by
         rw[htis];have:=q3 (base+i*C.P.cellsOf e+n*C.P.cellsOf e+j) ae;simp only[World.frozen?,q1];simp only[ew,b8];omega)
      rw[htis]at this;exact this
    obtain⟨c',s1,s2,s3⟩:=lW bk news (base+i*C.P.cellsOf e+n*C.P.cellsOf e) x.w c T fr q1 ae;obtain⟨f1,f2,f3,f4⟩:=kV bk news (base+i*C.P.cellsOf e+n*C.P.cellsOf e) x.w;generalize hw':x.w.setCells bk (base+i*C.P.cellsOf e+n*C.P.cellsOf e) news=w' at*
    have hother:∀b',b'≠bk->w'.heap[b']? =x.w.heap[b']? :=λb' hb'=>by rw[<-hw'];exact kW bk _ _ _ b' hb'
    have hlL:l≠L:=λe1=>by subst e1;rw[hβ]at hL;cases hL
    have hstep:Step x ⟨w',x.I,fe x.β L (bk,base+i*C.P.cellsOf e,cap)⟩:=by
     refine⟨f1,f2,f3,by show _<=w'.heap.size;rw[f4];exact aT _,λ_ h=>h,λb' hb'=>hother b' (λe1=>hnI (e1▸hb')),λl' p' hp=>?_,
      λb' _ hn'=>hother b' (λe1=>hn' l _ hβ e1.symm),λ_ h=>.inl h,λl' p' hp=>?_⟩
     .have:l'≠L:=λe1=>by rw[e1,hL]at hp;cases hp
      simp[fe,this,hp]
     .by_cases e1:l'=L
      .simp only[fe,e1,bo,aC]at hp;exact .inr (.inr ⟨l,_,hβ,by rw[<-hp]⟩)
      .simp only[fe,e1,a8]at hp;exact .inl hp
    have hle2:=hstep.le;rw[hr,hrun];refine⟨_,⟨w',x.I,fe x.β L (bk,base+i*C.P.cellsOf e,cap)⟩,.inl rfl,hstep,
     .own L _ 0 _ bk (base+i*C.P.cellsOf e) cap cap ad nH (λh=>by rw[ha h];simp) hroom hm ae, ?_,λl' hl'=>by simp[fe,hl']⟩
    have hblk:oW C.ν ⟨w',x.I,fe x.β L (bk,base+i*C.P.cellsOf e,cap)⟩ bk (base+i*C.P.cellsOf e) cap (.buf (C.P.cellsOf e) ((((aL m l).drop i).take n)++E)):=by
     refine⟨hk0',by rw[bV,hlen1];exact hroom,c',T,fr,s1,ae,λo'' ho''=>q3 o'' ae,λi' hi'=>?_⟩;rw[bV,hlen1]at hi';rw[cS,hlen1];by_cases hi2:i'<n
     .rw[ak hi2,hgt i' hi2];refine⟨(q4 (i+i') ae).1,λj hj=>?_⟩;have hlt:=kM hi2 hj;rw[s3,ai ae];have:=(q4 (i+i') ae).2 j hj;rw[show base+(i+i')*C.P.cellsOf e+j=base+i*C.P.cellsOf e+i'*C.P.cellsOf e+j by rw[Nat.add_mul];omega]at this;exact⟨this.1,this.2.mono hle2⟩
     .rw[ai hi2];obtain⟨a1,a2⟩:=hnews (i'-n) ae;refine⟨a1,λj hj=>?_⟩;have hnk:n*C.P.cellsOf e<=i'*C.P.cellsOf e:=fL _ ae;have hlt:=kM (show i'-n<E.length by omega) hj;rw[<-hsrc.newsLen,Nat.sub_mul]at hlt;rw[s3,ak ae,show base+i*C.P.cellsOf e+i'*C.P.cellsOf e+j-(base+i*C.P.cellsOf e+n*C.P.cellsOf e)=(i'-n)*C.P.cellsOf e+j by rw[Nat.sub_mul];omega];exact⟨YZ hsrc.one _ (by rw[Nat.sub_mul];omega),(a2 j hj).mono hle2⟩
    refine⟨λl' blk b' base' tot' e1 e2=>?_,λl1 l2 b' base' tot' base'' tot'' e1 e2 e3 e4=>?_,λb' hb'=>by show b'<w'.heap.size;rw[f4];exact hs.imm b' hb',λl' b' base' tot' e1=>?_,rH hstep.le hs.gd⟩
    .by_cases h:l'=L
     .subst h;rw[hffL]at e1;simp only[fe,bo,aC,dw]at e2;obtain⟨rfl,rfl,rfl⟩:=e2;obtain rfl:=bc e1;exact⟨hnI,hblk⟩
     .rw[hff l' h]at e1;by_cases h2:l'=l
      .rw[ak h2]at e1;cases e1
      .rw[ai h2]at e1;simp only[fe,h,a8]at e2;obtain⟨a1,a2⟩:=hs.own l' blk b' base' tot' e1 e2;refine⟨a1,a2.mono hle2 (hother b' (λeb=>?_))⟩;subst eb;exact h2 (hs.inj l' l b' base' tot' base tot (by rw[e1];simp) (by rw[g1];simp) e2 hβ)
    .have key:∀l1 b1 base1 tot1,l1≠L->jc f [L,l] (dh (dd m l) L (.buf (C.P.cellsOf e) ((((aL m l).drop i).take n)++E))) l1≠none->x.β l1=some (b1,base1,tot1)->b1≠bk/\f l1≠none:=by
      intro l1 b1 base1 tot1 h1' h2' h3';rw[hff l1 h1']at h2';by_cases h:l1=l
      .rw[ak h]at h2';exact absurd rfl h2'
      .rw[ai h]at h2';refine⟨λeb=>?_,h2'⟩;subst eb;exact h (hs.inj l1 l b1 base1 tot1 base tot h2' (by rw[g1];simp) h3' hβ)
     by_cases h1':l1=L<;>by_cases h2':l2=L
     .rw[h1',h2']
     .exfalso;simp only[fe,h1',bo,aC,dw]at e3;simp only[fe,h2',a8]at e4;exact(key l2 b' _ _ h2' e2 e4).1 e3.1.symm
     .exfalso;simp only[fe,h2',bo,aC,dw]at e4;simp only[fe,h1',a8]at e3;exact(key l1 b' _ _ h1' e1 e3).1 e4.1.symm
     .simp only[fe,h1',a8]at e3;simp only[fe,h2',a8]at e4;exact hs.inj l1 l2 b' base' tot' base'' tot'' (key l1 b' _ _ h1' e1 e3).2 (key l2 b' _ _ h2' e2 e4).2 e3 e4
    .show b'<w'.heap.size;rw[f4];by_cases h:l'=L
     .simp only[fe,h,bo,aC,dw]at e1;obtain⟨rfl,_,_⟩:=e1;exact hs.ef l _ _ _ hβ
     .simp only[fe,h,a8]at e1;exact hs.ef l' _ _ _ e1
   ·
    have hold:∃olds:List Value,(Builtin.firstCells (C.P.cellsOf e) n (.slice (some ad) n cap)).run C.P x.w.drew=.ok olds.toArray x.w.drew/\olds.length=n*C.P.cellsOf e/\
      ∀j,j<n->∀j',j'<C.P.cellsOf e->(olds.getD (j*C.P.cellsOf e+j') undef).oneCell'=true/\RD C.ν x (olds.getD (j*C.P.cellsOf e+j') undef) (((aL m l).getD (i+j) .any).cells.getD j' .any):=by
     by_cases hn0:n=0
     .subst hn0;exact⟨[],by simp[Builtin.firstCells,loadCells,loadCellsFrom],aF,λj hj=>ae⟩
     .have ha':=ha ae;subst ha';have hqd:∀q,q<n*C.P.cellsOf e->q/C.P.cellsOf e<n/\q%C.P.cellsOf e<C.P.cellsOf e/\q/C.P.cellsOf e*C.P.cellsOf e+q%C.P.cellsOf e=q:=λq hq=>
       ⟨Nat.div_lt_of_lt_mul (by rw[Nat.mul_comm];exact hq),Nat.mod_lt _ ae,by rw[Nat.mul_comm];exact Nat.div_add_mod q _⟩
      have hbase:∀q,q<n*C.P.cellsOf e->base+i*C.P.cellsOf e+q<c.size:=λq hq=>by
       have:i*C.P.cellsOf e+n*C.P.cellsOf e<=tot*C.P.cellsOf e:=by rw[<-Nat.add_mul];exact fL _ ae
       omega
      refine⟨(List.range (n*C.P.cellsOf e)).map λq=>c.getD (base+i*C.P.cellsOf e+q) undef, ?_,aF,λj hj j' hj'=>?_⟩
      .refine run_firstCells_some x.w.drew _ n _ n cap _ aF (λj u' hj=>?_);obtain⟨hj2,rfl⟩:=List.getElem?_eq_some_iff.1 hj;simp at hj2;rw[Addr.A9];simp only[List.getElem_map,List.getElem_range];exact cell_of_heap (w:=x.w.drew) q1 (hbase j hj2)
      .have hlt:=kM hj hj';have e1:((List.range (n*C.P.cellsOf e)).map λq=>c.getD (base+i*C.P.cellsOf e+q) undef).getD (j*C.P.cellsOf e+j') undef=c.getD (base+(i+j)*C.P.cellsOf e+j') undef:=by
        simp only[List.getD,List.getElem?_map,List.getElem?_range hlt,Option.map_some,Option.getD_some];congr 1;rw[Nat.add_mul];omega
       rw[e1];exact(q4 (i+j) ae).2 j' hj'
    obtain⟨olds,o1,o2,o3⟩:=hold;refine Lt (base:=some ad) (sLen:=n) (sCap:=cap) (olds:=olds) (es1:=((aL m l).drop i).take n) (E:=E) (mm:=E.length) hs hL hu hti hzv hsz htis hce hby
     o1 o2 hlen1 rfl (λj hj=>?_) hsrc hnews ae ae hff' hffL hr
    rw[hgt j hj];exact⟨(q4 (i+j) ae).1,o3 j hj⟩
end
end
section
variable [cI]
section
variable {x:X}{f:Nat->Option bm}{m:List (Nat×bm)}
def X.nt (x:X)(f:Nat->Option bm):X:=⟨x.w,λb=>x.I b\/∃l p,x.β l=some p/\p.1=b/\f l≠none,x.β⟩
def oM (x:X)(f:Nat->Option bm):Le x (x.nt f):=⟨λ_ h=>.inl h,λ_ _=>rfl,λ_ _ h=>h⟩
theorem D.tF (ds:List D):(D.agg ds).aU=aP ds:=by simp[D.aU]
def wN (hs:fG ν x f)(hag:∀l,look m l≠none->f l=look m l)(hb:ed m l k n){b base:Nat}(hβ:x.β l=some (b,base,tot)):
  f l=some (.buf k (aL m l))/\n<=(aL m l).length/\¬x.I b/\oW ν x b base tot (.buf k (aL m l)):=by
 have hne:look m l≠none:=by
  intro h;simp[ed,h]at hb
 obtain⟨g1,g2,_⟩:=vB hs (hag l hne) hb;exact⟨g1,g2,hs.own l _ b base tot g1 hβ⟩
def D8 {es:List D}{cs:List Sh}{g:Nat->Nat->Value}(hk0:0<k)(hV:∀(e:D) (c:Nat->Value),e.cells.length=k->(∀j,j<k->RD ν x (c j) (e.cells.getD j .any))->gv m cs e->
    (iZ m cs e).cells.length=k/\(iZ m cs e).aU=true/\∀j,j<k->RD ν (x.nt f) (c j) ((iZ m cs e).cells.getD j .any))(hes:∀i,i<es.length->(es.getD i .any).cells.length=k/\∀j,j<k->RD ν x (g i j) ((es.getD i .any).cells.getD j .any))(ho:∀e∈es,gv m cs e)(i:Nat)(hi:i<es.length):
  ((es.map (iZ m cs)).getD i .any).cells.length=k/\((es.map (iZ m cs)).getD i .any).aU=true/\∀j,j<k->RD ν (x.nt f) (g i j) (((es.map (iZ m cs)).getD i .any).cells.getD j .any):=by
 have e1:(es.map (iZ m cs)).getD i .any=iZ m cs (es.getD i .any):=by simp[List.getD,hi]
 rw[e1];exact hV _ (g i) (hes i hi).1 (hes i hi).2 (ho _ (by rw[xc _ _ _ hi];exact List.getElem_mem _))
mutual
theorem vR (hs:fG ν x f)(hag:∀l,look m l≠none->f l=look m l):∀(s:Sh) (v:Value) (d:D),RD ν x v d->il m s d->
  RD ν (x.nt f) v (kR m s d)/\(kR m s d).aU=true/\(d.cells.length=1->d.isAgg=false->(kR m s d).cells=[kR m s d])
 | .a,v,d,h,ho=>by
  simp only[il]at ho;have hm:RD ν (x.nt f) v d:=h.mono (oM x f);cases d<;>simp only[kR]<;>first
   |exact⟨hm,ho,λh1 h2=>by simp_all[D.cells,D.isAgg]⟩
   |skip
  cases h;exact⟨.sl none 0 0 0 0 0 [] (λ_ _=>undef) rfl (.inl rfl) (aT _) (by simp[maxLen]) (λ_ h=>ae) (λ_ h=>ae) (λ_ _ h=>ae) (λ_ _ h=>ae) (λ_ _ h=>ae),rfl,λ_ _=>rfl⟩
 | .sl k cs,v,d,h,ho=>by
  have hm:RD ν (x.nt f) v d:=h.mono (oM x f);cases d<;>simp only[kR]<;>simp only[il]at ho<;>first
   |exact⟨hm,ho,λh1 h2=>by simp_all[D.cells,D.isAgg]⟩
   |skip
  .cases h;exact⟨.sl none 0 0 0 0 k [] (λ_ _=>undef) rfl (.inl rfl) (aT _) (by simp[maxLen]) (λ_ h=>ic) (λ_ h=>ic) (λ_ _ h=>ic) (λ_ _ h=>ic) (λ_ _ h=>ic),rfl,λ_ _=>rfl⟩
  .rename_i l k' i c;obtain⟨hb,hel⟩:=ho;cases h with
   |own0=>
    simp only[List.take_zero,List.map_nil];exact⟨.sl _ 0 0 0 0 k' [] (λ_ _=>undef) rfl (.inl rfl) (aT _) (by simp[maxLen]) (λ_ h=>ic) (λ_ h=>ic) (λ_ _ h=>ic) (λ_ _ h=>ic) (λ_ _ h=>ic),rfl,λ_ _=>rfl⟩
   |own _ _ _ _ b base tot cap a hβ ha hcap hmx ht=>
    obtain⟨g1,g2,hnI,hk0,ht',cc,T,fr,q1,q2,q3,q4⟩:=wN hs hag hb hβ;have hlen:(((aL m l).drop i).take c).length=c:=gX _ _ _ g2;have hgt:∀j,j<c->(((aL m l).drop i).take c).getD j .any=(aL m l).getD (i+j) .any:=λj hj=>eh _ _ _ _ _ hj
    have hrow:=D8 (f:=f) (k:=k') (cs:=cs) (es:=((aL m l).drop i).take c) (g:=λi' j=>cc.getD (base+(i+i')*k'+j) undef) hk0 (vS hs hag cs)
     (λi' hi'=>by
       rw[hlen]at hi';rw[hgt i' hi'];exact⟨(q4 (i+i') ae).1,λj hj=>((q4 (i+i') ae).2 j hj).2⟩) hel
    refine⟨.sl (some a) b (base+i*k') c cap k' _ (λi' j=>cc.getD (base+(i+i')*k'+j) undef) (by rw[bh,hlen]) ?_ hcap hmx (λi' hi'=>(hrow i' ae).1) (λi' hi'=>(hrow i' ae).2.1) (λi' j hi' hj=>?_) (λi' j hi' hj=>?_) (λi' j hi' hj=>(hrow i' ae).2.2 j hj),rfl,λ_ _=>rfl⟩
    .by_cases hc0:c=0
     .left;exact lP (by simp[hlen,hc0])
     .right;exact⟨by rw[ha ae],.inr ⟨l,_,hβ,rfl,by rw[g1];simp⟩⟩
    .have h1:=kM (tot:=tot) (show i+i'<tot by omega) hj;show x.w.cell? _=_;rw[<-cell_of_heap q1 (by omega:base+(i+i')*k'+j<cc.size)];congr 2;rw[Nat.add_mul];omega
    .exact((q4 (i+i') ae).2 j hj).1
 | .pt cs,v,d,h,ho=>by
  have hm:RD ν (x.nt f) v d:=h.mono (oM x f);cases d<;>simp only[kR]<;>simp only[il]at ho<;>first
   |exact⟨hm,ho,λh1 h2=>by simp_all[D.cells,D.isAgg]⟩
   |skip
  rename_i l k' i o;obtain⟨hb,hel⟩:=ho;cases h with
  |ptr _ _ _ _ b base tot at_ hβ hat=>
   obtain⟨g1,g2,hnI,hk0,ht',cc,T,fr,q1,q2,q3,q4⟩:=wN hs hag hb hβ;have hrow:=D8 (f:=f) (k:=k') (cs:=cs) (es:=aL m l) (g:=λi' j=>cc.getD (base+i'*k'+j) undef) hk0 (vS hs hag cs)
    (λi' hi'=>⟨(q4 i' hi').1,λj hj=>((q4 i' hi').2 j hj).2⟩) hel
   refine⟨.ref b base k' i o at_ _ (λi' j=>cc.getD (base+i'*k'+j) undef) (.inr ⟨l,_,hβ,rfl,by rw[g1];simp⟩) hat (λi' hi'=>(hrow i' (by simpa using hi')).1) (λi' hi'=>(hrow i' (by simpa using hi')).2.1)
    (λi' j hi' hj=>?_) (λi' j hi' hj=>((q4 i' (by simpa using hi')).2 j hj).1) (λi' j hi' hj=>(hrow i' (by simpa using hi')).2.2 j hj),rfl,λ_ _=>rfl⟩
   have h1:=kM (tot:=tot) (show i'<tot by simp at hi';omega) hj;exact cell_of_heap q1 ae
 | .kp cs,v,d,h,ho=>by
  have hm:RD ν (x.nt f) v d:=h.mono (oM x f);cases d<;>simp only[kR]<;>simp only[il]at ho<;>first
   |exact⟨hm,ho,λh1 h2=>by simp_all[D.cells,D.isAgg]⟩
   |skip
  rename_i l k' i c;obtain⟨hb,hel⟩:=ho;cases h with
  |own0=>
   simp only[List.take_zero,List.map_nil];exact⟨.sl _ 0 0 0 0 k' [] (λ_ _=>undef) rfl (.inl rfl) (aT _) (by simp[maxLen]) (λ_ h=>ic) (λ_ h=>ic) (λ_ _ h=>ic) (λ_ _ h=>ic) (λ_ _ h=>ic),rfl,λ_ _=>rfl⟩
  |own _ _ _ _ b base tot cap a hβ ha hcap hmx ht=>
   obtain⟨g1,g2,hnI,hk0,ht',cc,T,fr,q1,q2,q3,q4⟩:=wN hs hag hb hβ;have hlen:(((aL m l).drop i).take c).length=c:=gX _ _ _ g2;have hgt:∀j,j<c->(((aL m l).drop i).take c).getD j .any=(aL m l).getD (i+j) .any:=λj hj=>eh _ _ _ _ _ hj
   have hrow:=D8 (f:=f) (k:=k') (cs:=cs) (es:=((aL m l).drop i).take c) (g:=λi' j=>cc.getD (base+(i+i')*k'+j) undef) hk0 (vS hs hag cs)
    (λi' hi'=>by
      rw[hlen]at hi';rw[hgt i' hi'];exact⟨(q4 (i+i') ae).1,λj hj=>((q4 (i+i') ae).2 j hj).2⟩) hel
   refine⟨.sl (some a) b (base+i*k') c cap k' _ (λi' j=>cc.getD (base+(i+i')*k'+j) undef) (by rw[bh,hlen]) ?_ hcap hmx (λi' hi'=>(hrow i' ae).1) (λi' hi'=>(hrow i' ae).2.1) (λi' j hi' hj=>?_) (λi' j hi' hj=>?_) (λi' j hi' hj=>(hrow i' ae).2.2 j hj),rfl,λ_ _=>rfl⟩
   .by_cases hc0:c=0
    .left;exact lP (by simp[hlen,hc0])
    .right;exact⟨by rw[ha ae],.inr ⟨l,_,hβ,rfl,by rw[g1];simp⟩⟩
   .have h1:=kM (tot:=tot) (show i+i'<tot by omega) hj;show x.w.cell? _=_;rw[<-cell_of_heap q1 (by omega:base+(i+i')*k'+j<cc.size)];congr 2;rw[Nat.add_mul];omega
   .exact((q4 (i+i') ae).2 j hj).1
theorem vS (hs:fG ν x f)(hag:∀l,look m l≠none->f l=look m l):∀(cs:List Sh){k:Nat} (e:D) (c:Nat->Value),e.cells.length=k->(∀j,j<k->RD ν x (c j) (e.cells.getD j .any))->gv m cs e->
  (iZ m cs e).cells.length=k/\(iZ m cs e).aU=true/\∀j,j<k->RD ν (x.nt f) (c j) ((iZ m cs e).cells.getD j .any)
 |[],k,e,c,hk,hc,ho=>by
  simp only[iZ];simp only[gv]at ho;exact⟨hk,ho,λj hj=>(hc j hj).mono (oM x f)⟩
 |s::r,k,e,c,hk,hc,ho=>by
  cases e<;>simp only[iZ]<;>simp only[gv]at ho<;>try
   (obtain⟨h1,h2,h3⟩:=vR hs hag s (c 0) _ (by simp only[D.cells,bH,b7]at hk;exact hc 0 ae) ho
    simp only[D.cells,bH,b7]at hk;rw[h3 rfl rfl];subst hk;exact⟨rfl,h2,fun j hj=>by obtain rfl:j=0:=ae
                                                                                    exact h1⟩)
  .simp only[D.cells,b7]at hk;subst hk;cases s<;>simp only[kR]<;>exact⟨rfl,rfl,λj hj=>ae⟩
  .rename_i ds;obtain⟨a1,a2,a3⟩:=vT hs hag (s::r) ds c (λj hj=>hc j (by simpa[D.cells]using hk▸hj)) ho;simp only[D.cells]at hk⊢;exact⟨a1.trans hk,by rw[D.tF];exact a2,λj hj=>a3 j ae⟩
  .simp only[D.cells,b7]at hk;subst hk;cases s<;>simp only[kR,il]at ho⊢ <;>exact⟨rfl,ho,λj hj=>ae⟩
theorem vT (hs:fG ν x f)(hag:∀l,look m l≠none->f l=look m l):∀(cs:List Sh) (ds:List D) (c:Nat->Value),(∀j,j<ds.length->RD ν x (c j) (ds.getD j .any))->ki m cs ds->
  (nA m cs ds).length=ds.length/\aP (nA m cs ds)=true/\∀j,j<ds.length->RD ν (x.nt f) (c j) ((nA m cs ds).getD j .any)
 |[],ds,c,hc,ho=>by
  simp only[ki]at ho;exact⟨by simp[nA],by simpa[nA]using ho,λj hj=>by simpa only[nA]using(hc j hj).mono (oM x f)⟩
 |s::r,[],c,hc,ho=>by
  exact⟨by simp[nA],by simp[nA,aP],λj hj=>by simp at hj⟩
 |s::r,d::ds,c,hc,ho=>by
  simp only[nA];simp only[ki]at ho;obtain⟨h1,h2,_⟩:=vR hs hag s (c 0) d (by simpa using hc 0 aF) ho.1;obtain⟨a1,a2,a3⟩:=vT hs hag r ds (λj=>c (j+1)) (λj hj=>by simpa using hc (j+1) eJ) ho.2;refine⟨by simp[a1],by simp[aP,h2,a2],λj hj=>?_⟩;cases j with
  |zero=>simpa using h1
  |succ j=>simpa using a3 j nG
end
def vU (hs:fG ν x f)(hag:∀l,look m l≠none->f l=look m l)(sh:List Sh)(v:Value)(d:D)(h:RD ν x v d)(ho:gv m sh d):RD ν (x.nt f) v (iZ m sh d)/\(iZ m sh d).aU=true:=by
 cases sh with
 |nil=>simp only[iZ];simp only[gv]at ho;exact⟨h.mono (oM x f),ho⟩
 |cons s r=>
  cases d<;>simp only[iZ]<;>simp only[gv]at ho<;>first
   |(obtain⟨h1,h2,_⟩:=vR hs hag s v _ h ho;exact⟨h1,h2⟩)
   |skip
  rename_i ds;cases h with
  |agg cs _ hl h1 h=>
   obtain⟨a1,a2,a3⟩:=vT hs hag (s::r) ds (λj=>cs.getD j undef) h ho;exact⟨.agg cs _ (by rw[a1,hl]) (λi hi=>h1 i ae) (λi hi=>a3 i ae),by rw[D.tF];exact a2⟩
theorem j3 (hs:fG ν x f)(hag:∀l,look m l≠none->f l=look m l):∀(ss:List (List Sh)) (ds:List D) (c:Nat->Value),(∀j,j<ds.length->RD ν x (c j) (ds.getD j .any))->je m ss ds->
  (iy m ss ds).length=ds.length/\aP (iy m ss ds)=true/\∀j,j<ds.length->RD ν (x.nt f) (c j) ((iy m ss ds).getD j .any)
 |ss,[],c,hc,ho=>⟨by simp[iy],by simp[iy,aP],λj hj=>by simp at hj⟩
 |[],d::r,c,hc,ho=>by
  simp only[je]at ho;obtain⟨h1,h2⟩:=vU hs hag [.a] (c 0) d (by simpa using hc 0 aF) ho.1;obtain⟨a1,a2,a3⟩:=j3 hs hag [] r (λj=>c (j+1)) (λj hj=>by simpa using hc (j+1) eJ) ho.2
  grind [iy,aP]
 |s::ss,d::r,c,hc,ho=>by
  simp only[je]at ho;obtain⟨h1,h2⟩:=vU hs hag s (c 0) d (by simpa using hc 0 aF) ho.1;obtain⟨a1,a2,a3⟩:=j3 hs hag ss r (λj=>c (j+1)) (λj hj=>by simpa using hc (j+1) eJ) ho.2
  grind [iy,aP]
end
end
end Go.Abs
