/- A part of the proofs. -/
import Derived.Deep.DeepAppendWide
import Derived.Great.BuildSlice
import Derived.Laws.Cover4
import Derived.Laws.IdiomStrings
import Derived.Laws.MakeOwn
import Derived.Lib.Strings
import Derived.MapKept
import Derived.WideKeyArr
import Derived.Test.YtkmlboofmolbaaaGreatDoorP01
set_option linter.all false
set_option maxRecDepth 60000
set_option maxHeartbeats 2000000
namespace Go.Abs
variable{t T ty:TypeId}{ν:List (Nat×Nat)}{k n tot l:Nat}{r:Result Next}{P:Program}(f:Nat->Option bj){lo:Option Operand}{f':Nat->Option bj}{news:List Value}{ti:TypeInfo}{q:Operand}{a:Option Addr}{c:Array Value}{xv z:Value}{fr:Nat×Nat}
section
variable [cL]
section
variable {x:X}
def qE {e:D}{o b at0:Nat}{ag:Bool}{c:Nat->Value}(hk:e.cells.length=k)(hle:o+n<=k)(hc:∀j,j<k->x.w.cell? ⟨b,at0+j,none⟩=some (c j)/\(c j).oneCell'=true/\RD ν x (c j) (e.cells.getD j .any))(hn:n=P.cellsOf ty)(hn0:P.cellsOf ty≠0)(hu:(P.underlying ty).isNone=false)(hag:ag=b7 P ty)(h1:ag=false->n=1):
  ∃v,(loadVar ty ⟨b,at0+o,none⟩).run P x.w=.ok v x.w/\RD ν x v (kP e k n o ag):=by
 have hcut:∃v,(loadVar ty ⟨b,at0+o,none⟩).run P x.w=.ok v x.w/\RD ν x v (cut e.cells o n ag)/\(ag=true->v=.agg ((List.range n).map λj=>c (o+j)).toArray)/\(ag=false->v=c o):=by
  cases hb:ag
  .have hn1:=h1 hb;refine⟨c o, ?_,by simp only[cut,cond_false];exact(hc o ae).2.2,aC,λ_=>rfl⟩;rw[hb]at hag;unfold loadVar;rw[Sem.run_bind,v7 hu,<-hag];simp[Result.andThen,(hc o ae).1]
  .rw[hb]at hag;refine⟨.agg ((List.range n).map λj=>c (o+j)).toArray, ?_, ?_,λ_=>rfl,aC⟩
   .unfold loadVar;rw[Sem.run_bind,v7 hu,<-hag];have:=run_loadCells (P:=P) x.w ⟨b,at0+o,none⟩ n (λj=>c (o+j)) (λj hj=>by rw[Addr.AN,Nat.add_assoc];exact(hc (o+j) ae).1);simp[Result.andThen,dD hn0,<-hn,this]
   .simp only[cut,cond_true];refine .agg _ _ fh (λi hi=>?_) (λi hi=>?_)
    .simp at hi;have:=(hc (o+i) ae).2.1;simpa[Array.getD,show i<n by omega]using this
    .simp at hi;rw[eg _ _ _ _ _ ae];have:=(hc (o+i) ae).2.2;simpa[Array.getD,show i<n by omega]using this
 obtain⟨v,r1,r2,r3,r4⟩:=hcut;refine⟨v,r1, ?_⟩;unfold kP;cases hb:(n==k)&&(e.isAgg==ag)
 .simpa using r2
 .simp only[aA,beq_iff_eq]at hb;obtain⟨hnk,hea⟩:=hb;simp only[cond_true];have ho:o=0:=ae;subst ho;cases hb:ag
  .rw[hb]at hea;have hv:=r4 hb;have hn1:=h1 hb;have hcell:=(hc 0 ae).2.2;rw[hv];cases e<;>simp only[D.cells,D.isAgg,ca,bD]at hk hea hcell<;>first|omega|exact absurd hea aV|exact hcell
  .rw[hb]at hea;cases e<;>simp only[D.isAgg,iJ]at hea;rename_i ds;rw[r3 hb];simp only[D.cells]at hk hc;refine .agg _ _ fh (λi hi=>?_) (λi hi=>?_)
   .have:=(hc i ae).2.1;simpa[Array.getD,show i<n by omega]using this
   .have:=(hc i ae).2.2;simpa[Array.getD,show i<n by omega]using this
end
section
variable {x:X}{f:Nat->Option bj}{C:CC}{defs:List (Option Nat)}{J:Src->aY}{ev:Operand->Value}{Y:Ctx}{m:List (Nat×bj)}{L:Nat}
def GH {z:List D}(h:sT C.P t=some (.agg z)):∃i cs,C.P.info? t=some i/\i.zero=some (.agg cs)/\RD C.ν x (.agg cs) (.agg z):=by
 unfold sT at h;cases hi:C.P.info? t with
 |none=>simp[hi]at h
 |some i=>
  cases hz:i.zero with
  |none=>simp[hi,hz]at h
  |some v=>
   simp only[hi,hz,Option.bind_some]at h;have hr:RD C.ν x v (.agg z):=nu v _ h;cases v with
   |agg cs=>exact⟨i,cs,rfl,hz,hr⟩
   |_=>cases hr
theorem qf {z:D}(h:sT C.P t=some z):∃i v,C.P.info? t=some i/\i.zero=some v/\RD C.ν x v z:=by
 unfold sT at h;cases hi:C.P.info? t with
 |none=>simp[hi]at h
 |some i=>
  cases hz:i.zero with
  |none=>simp[hi,hz]at h
  |some v=>
   grind [nu]
def AF {P:Program}(w:World):∀(fs:List Field),(∀f∈fs,(P.info? f.type).isSome=true)->
  (fs.mapM (λf=>(do pure (f.offset,<-sizeOf f.type):Sem (Nat×Nat)))).run P w=.ok (fs.map λf=>(f.offset,P.cellsOf f.type)) w
 |[],_=>aC
 |f::r,h=>by
  have hf:=h f aC;cases hi:P.info? f.type with
  |none=>simp[hi]at hf
  |some i=>
   have hr:=AF w r (λg hg=>h g (by simp[hg]));simp only[List.mapM_cons,Sem.run_bind,run_sizeOf w hi,Result.andThen_ok,Sem.run_pure,hr];simp
def Oa {op:BinOp}{d e:D}(h:AO op d e):(∃k a k' b,d=.int k a/\e=.int k' b)\/(∃a b,d=.str a/\e=.str b):=by
 cases d<;>cases e<;>first|exact .inl ⟨_,_,_,_,rfl,rfl⟩|exact .inr ⟨_,_,rfl,rfl⟩|(simp only[AO]at h)
def r9 {op:BinOp}{u:TypeId}{p:Operand}{o:Oper}{v:Value}{w:World}(ho:o.op=.binOp op t p q u)(hg:(eqGuard op t p q (ev p) (ev q)).run P w=.ok () w)(hr:(binOp op t (ev p) (ev q)).run P w=.ok v w):(execOp ev o).run P w=.ok (.value v) w:=by
 simp[execOp,ho,hg,hr]
def GZ (op:BinOp)(hop:op=.eql\/op=.neq)(t:TypeId)(xs ys:Array Value)(b:Bool)(w:World)(P:Program)(h:(Op.equalIn 10000 t (.agg xs) (.agg ys)).run P w=.ok b w):
  (binOp op t (.agg xs) (.agg ys)).run P w=.ok (.bool (if op=.neq then !b else b)) w:=by
 rcases hop with rfl|rfl
 .rw[run_eql_struct,h];rfl
 .rw[run_neq_struct,h];rfl
theorem ak3 {len cap:Nat}{es:List D}{h:Nat}(hv:RD C.ν x (.slice a len cap) (.sl k es))(h1:l<=h)(h2:h<=es.length):
  RD C.ν x (.slice (if cap=l then a else a.map (·.add (l*k))) (h-l) (cap-l)) (.sl k ((es.take h).drop l)):=by
 cases hv with
 |sl _ b off _ _ _ _ c hlen ha hcap hm hk hn hc hone hh=>
  have hl':((es.take h).drop l).length=h-l:=fh;have hg:∀i,i<h-l->((es.take h).drop l).getD i .any=es.getD (l+i) .any:=by
   intro i hi;simp[List.getD,List.getElem?_drop,List.getElem?_take,show l+i<h by omega]
  refine .sl _ b (off+l*k) (h-l) (cap-l) k _ (λi j=>c (l+i) j) hl'.symm ?_ ae ae (λi hi=>?_) (λi hi=>?_) (λi j hi hj=>?_) (λi j hi hj=>hone _ _ ae hj) (λi j hi hj=>?_)
  .grind [Addr.AN]
  .rw[hg i hi];exact hk _ ae
  .rw[hg i hi];exact hn _ ae
  .have:=hc (l+i) j ae hj;rw[<-this];congr 2;rw[Nat.add_mul];omega
  .rw[hg i hi];exact hh _ _ ae hj
def ak1 {len cap:Nat}{es:List D}{h m:Nat}(hv:RD C.ν x (.slice a len cap) (.sl k es))(h1:h<=m)(h2:m<=es.length):
  RD C.ν x (.slice (if m=0 then a else a.map (·.add (0*k))) h m) (.sl k (es.take h)):=by
 cases hv with
 |sl _ b off _ _ _ _ c hlen ha hcap hm hk hn hc hone hh=>
  have hl':(es.take h).length=h:=fh;have hg:∀i,i<h->(es.take h).getD i .any=es.getD i .any:=by
   intro i hi;simp[List.getD,List.getElem?_take,hi]
  refine .sl _ b off h m k _ (λi j=>c i j) hl'.symm ?_ h1 ae (λi hi=>?_) (λi hi=>?_) (λi j hi hj=>hc i j ae hj) (λi j hi hj=>hone _ _ ae hj) (λi j hi hj=>?_)
  .by_cases he:h=0
   .left;exact lV ae
   .right;rw[ah ae];rcases ha with rfl|⟨rfl,hI⟩
    .simp at h2;omega
    .exact⟨by simp[Addr.add],hI⟩
  .rw[hg i hi];exact hk _ ae
  .rw[hg i hi];exact hn _ ae
  .rw[hg i hi];exact hh _ _ ae hj
def ad3 {v:Value}{L' i:Nat}(hv:RD C.ν x v (.own L' k i n)):
  ∃a cap,v=.slice a n cap/\n<=cap/\∀h m,h<=m->m<=n->RD C.ν x (.slice (if m=0 then a else a.map (·.add (0*k))) h m) (.own L' k i h):=by
 cases hv with
 |own _ _ _ _ b base tot cap a hβ ha hcap hm ht=>
  refine⟨some a,cap,rfl,hcap,λh m h1 h2=>?_⟩;have e:(if m=0 then some a else(some a).map (·.add (0*k)))=some a:=by simp[Addr.add]
  rw[e];exact .own L' k i h b base tot m a hβ (λhp=>ha ae) h1 ae ae
 |own0 _ _ _ a=>
  refine⟨a,0,rfl,aN _,λh m h1 h2=>?_⟩;obtain rfl:m=0:=ae;obtain rfl:h=0:=ae;exact .own0 _ _ _ _
def vA {vh vm:Value}{kh km:IntKind}{h m:Int}{len cap:Nat}(e1:vh=.int kh h)(e2:vm=.int km m)(h0:0<=h)(h1:h<=m)(h2:m<=cap):
  (Instr.sliceBounds true len cap none (some vh) (some vm)).run C.P x.w=.ok (0,h.toNat,m.toNat) x.w:=by
 subst e1;subst e2;simp[Instr.sliceBounds,run_sliceBound x.w km m cap .slice3Acap ae h2,run_sliceBound x.w kh h m.toNat .slice3B h0 ae]
theorem ad4 {v:Value}{L' i:Nat}(hv:RD C.ν x v (.own L' k i n)):
  ∃a cap,v=.slice a n cap/\n<=cap/\∀l h,l<=h->h<=n->RD C.ν x (.slice (if cap=l then a else a.map (·.add (l*k))) (h-l) (cap-l)) (.own L' k (i+l) (h-l)):=by
 cases hv with
 |own _ _ _ _ b base tot cap a hβ ha hcap hm ht=>
  refine⟨some a,cap,rfl,hcap,λl h h1 h2=>?_⟩;have e:(if cap=l then some a else(some a).map (·.add (l*k)))=some (if cap=l then a else a.add (l*k)):=by split<;>rfl
  rw[e];refine .own L' k (i+l) (h-l) b base tot (cap-l) _ hβ (λhp=>?_) ae ae ae
  grind [Addr.AN]
 |own0 _ _ _ a=>
  refine⟨a,0,rfl,aN _,λl h h1 h2=>?_⟩;obtain rfl:h=0:=ae;obtain rfl:l=0:=ae;exact .own0 _ _ _ _
def Fb (s:List UInt8)(l h:Nat):(⟨⟨s⟩⟩:ByteArray).extract l h=⟨⟨(s.take h).drop l⟩⟩:=by
 rw[Lib.extract_eq,List.drop_take]
def C8 (h:C.opt defs lo=some none):lo=none:=by
 cases lo with
 |none=>rfl
 |some o=>simp[CC.opt]at h
def C9 {s:Src}(h:C.opt defs lo=some (some s)):∃o,lo=some o/\C.src defs o=some s:=by
 cases lo with
 |none=>simp[CC.opt]at h
 |some o=>simp only[CC.opt,dd,aE]at h;obtain⟨a,h1,rfl⟩:=h;exact⟨o,rfl,h1⟩
def qu {os':List Operand}(hρ:vt C defs J ev x os'){hi:Option Operand}(hml:∀o,lo=some o->o∈os')(hmh:∀o,hi=some o->o∈os'){l h:Option Src}(hl:C.opt defs lo=some l)(hh:C.opt defs hi=some h)(k1:Ma J l)(k2:Ma J h)(AZ:Bool)(len cap:Nat)(hcap:AZ=false->len=cap)(hle:len<=cap)(b2:nt (dO J h) len)(b1:nt (dO J l) (ee (dO J h) len)):
  (Instr.sliceBounds AZ len cap (lo.map ev) (hi.map ev) none).run C.P x.w=.ok (ee (dO J l) 0,ee (dO J h) len,cap) x.w/\ee (dO J l) 0<=ee (dO J h) len/\ee (dO J h) len<=len:=by
 have hh':∃code,(match hi.map ev with|some v=>Instr.sliceBound v cap code|none=>pure len:Sem Nat).run C.P x.w=.ok (ee (dO J h) len) x.w/\ee (dO J h) len<=len/\code=(if AZ then BoundsCode.sliceAcap else .sliceAlen):=by
  cases h with
  |none=>
   obtain rfl:=C8 hh;exact⟨_,by simp[dO,ee],by simp[dO,ee],rfl⟩
  |some s=>
   obtain⟨o,rfl,h1⟩:=C9 hh;have hv:=hρ o (hmh o rfl) s  h1 k2;simp only[dO]at b2;cases hd:(J s).d<;>simp only[hd,nt]at b2;rename_i kk n;rw[hd]at hv;refine⟨_, ?_, ?_,rfl⟩
   .simp only[Option.map_some,dO,ee,hd];rw[hv.dq,run_sliceBound x.w kk n cap _ b2.1 ae]
   .simp only[dO,ee,hd];omega
 obtain⟨code,g1,g2,rfl⟩:=hh';generalize ee (dO J h) len=B at*
 have hl':(match lo.map ev with|some v=>Instr.sliceBound v B .sliceB|none=>pure 0:Sem Nat).run C.P x.w=.ok (ee (dO J l) 0) x.w/\ee (dO J l) 0<=B:=by
  cases l with
  |none=>
   obtain rfl:=C8 hl;exact⟨by simp[dO,ee],by simp[dO,ee]⟩
  |some s=>
   obtain⟨o,rfl,h1⟩:=C9 hl;have hv:=hρ o (hml o rfl) s  h1 k1;simp only[dO]at b1;cases hd:(J s).d<;>simp only[hd,nt]at b1;rename_i kk n;rw[hd]at hv;refine⟨?_, ?_⟩
   .simp only[Option.map_some,dO,ee,hd];rw[hv.dq,run_sliceBound x.w kk n _ _ b1.1 b1.2]
   .simp only[dO,ee,hd];omega
 obtain⟨f1,f2⟩:=hl';refine⟨?_,f2,g2⟩;cases lo with
 |none=>
  simp only[Option.map_none,Sem.run_pure,Result.ok.injEq,dw]at f1;cases hi with
  |none=>
   simp only[Option.map_none,Sem.run_pure,Result.ok.injEq,dw]at g1;rw[<-f1,<-g1];simp[Instr.sliceBounds]
  |some v=>
   simp only[Option.map_some]at g1;rw[<-f1];simp[Instr.sliceBounds,g1]
 |some u=>
  have f1':(Instr.sliceBound (ev u) B .sliceB).run C.P x.w=.ok (ee (dO J l) 0) x.w:=f1;clear f1;generalize ee (dO J l) 0=A at*
  cases hi with
  |none=>
   simp only[Option.map_none,Sem.run_pure,Result.ok.injEq,dw]at g1;subst g1;simp only[Instr.sliceBounds,Option.map_some,Option.map_none,Sem.run_bind,Sem.run_pure,Result.andThen_ok,Option.isSome_none,iJ,aX,f1']
  |some v=>
   have g1':(Instr.sliceBound (ev v) cap (if AZ then BoundsCode.sliceAcap else .sliceAlen)).run C.P x.w=.ok B x.w:=g1;simp only[Instr.sliceBounds,Option.map_some,Option.map_none,Sem.run_bind,Sem.run_pure,Result.andThen_ok,Option.isSome_none,iJ,aX,g1',f1']
theorem Hn {ks:List CK}{d:Nat}(ha:b7 P t=false)(h1:∀k,P.underlying t=some (.int k)->False)(h2:P.underlying t=some .string->False)(h:hR P (d+1) t=some ks):P.underlying t=some .bool:=by
 grind [b7,hR]
def A0 {d:Nat}(h:P.underlying t=some .bool):hR P (d+1) t=some [.b]:=by
 unfold hR;simp[h]
def NY (ν:List (Nat×Nat))(x:X)(d:D)(r:Result Next):=∃v,(r=.ok (.value v) x.w\/r=.ok .skip x.w/\v=undef)/\RD ν x v d
def gQ {d:D}{v:Value}(hr:r=.ok (.value v) x.w)(hd:RD ν x v d):NY ν x d r:=⟨v,.inl hr,hd⟩
def NY.did {d:D}(h:NY ν x d r)(hs:fF ν x f):Bi ν x f L d r:=by
 obtain⟨v,h1,h2⟩:=h;exact⟨v,x,h1,.refl x,h2,hs,λ_ _=>rfl⟩
def Yz {o:Oper}{i:ax}(hgz:∀g,C.bN.contains (500000000+g)=true/\g<400000000->cL.gz g)(hcst:∀d,J (.c d)=⟨true,d⟩)(hsm:∀fid n,dN C.ν fid=some n->n<1000000)(hc:C.op defs o=some i)(hp:i.pure=true)(hρ:vt C defs J ev x o.op.operands.toList)(hob:i.eE Y J m)(hs:fF C.ν x f)(hgl:∀g,ev (.global g)=.pointer (some ⟨g,0,none⟩)):
  NY C.ν x (i.val Y J m L) ((execOp ev o).run C.P x.w):=by
 cases ho:o.op with
 |move p=>
  simp only[CC.op,ho,dd]at hc;obtain⟨s,h1,rfl⟩:=hc;exact gQ (by simp[execOp,ho]) (hρ p dt s h1 hob)
 |assign p=>
  simp only[CC.op,ho,dd]at hc;obtain⟨s,h1,rfl⟩:=hc;exact gQ (by simp[execOp,ho]) (hρ p dt s h1 hob)
 |pick c a b=>
  simp only[CC.op,ho]at hc;split at hc
  .rename_i c' a' b' h1 h2 h3;simp only[aE]at hc;subst hc;obtain⟨k1,k2⟩:=hob;have hcv:=hρ c dt c' h1 k1;cases hd:(J c').d<;>simp only[hd]at k2;rename_i t;rw[hd]at hcv;simp only[ax.val,hd];refine gQ ?_ (RD.pick (λht=>hρ a dt a' h2 (k2.1 ht)) (λht=>hρ b dt b' h3 (k2.2 ht)));simp[execOp,ho,hcv.jR,asBool]
  .cases hc
 |build t ps=>
  simp only[CC.op,ho]at hc;split at hc
  .rename_i z fs hz hu;split at hc;rotate_left
   .cases hc
   rename_i hplaces;simp only[dd]at hc;obtain⟨ss,h1,rfl⟩:=hc;obtain⟨ti,cs,hi,hzv,hr⟩:=GH (x:=x) hz;have hsz:cs.size=z.length:=by cases hr with|agg _ _ hl _ _=>exact hl
   obtain⟨cs',g1,g2⟩:=sy hρ _ z.length ps.toList ss (λp hp=>Km) h1 hob cs z hsz hr;refine gQ ?_ g2;have hpl:=AF (P:=C.P) x.w fs.toList (λf hf=>(List.all_eq_true.1 hplaces) f hf);have hpl':(fs.mapM (λf:Field=>(do pure (f.offset,<-sizeOf f.type):Sem (Nat×Nat)))).run C.P x.w=.ok (fs.map λf:Field=>(f.offset,C.P.cellsOf f.type)) x.w:=by
    rw[Array.mapM_eq_mapM_toList,Sem.run_map,hpl];simp[Result.andThen,List.map_toArray];apply Array.ext';simp
   have hg:Instr.fill (λi:Nat=>(fs.map λf:Field=>(f.offset,C.P.cellsOf f.type))[i]?) cs (ps.map fun(i,o)=>(i,ev o)).toList=some cs':=by
    have e:(λi:Nat=>(fs.map λf:Field=>(f.offset,C.P.cellsOf f.type))[i]?)=(λi=>(fs[i]?).map λf:Field=>(f.offset,C.P.cellsOf f.type)):=by
     funext q;simp
    rw[e,Array.toList_map];exact g1
   simp only[execOp,ho,Instr.build,Sem.run_bind,zeroValue,run_typeInfo x.w hi,Result.andThen_ok,hzv,Sem.run_pure,run_underlying hu,hpl',Value.cells,hg]
  .rename_i z n e hz hu;split at hc
   .cases hc
   rename_i hce;simp only[dd]at hc;obtain⟨ss,h1,rfl⟩:=hc;obtain⟨ti,cs,hi,hzv,hr⟩:=GH (x:=x) hz;have hsz:cs.size=z.length:=by cases hr with|agg _ _ hl _ _=>exact hl
   obtain⟨cs',g1,g2⟩:=sy hρ _ z.length ps.toList ss (λp hp=>Km) h1 hob cs z hsz hr;refine gQ ?_ g2;have hg:Instr.fill (λi=>some (i*C.P.cellsOf e,C.P.cellsOf e)) cs (ps.map fun(i,o)=>(i,ev o)).toList=some cs':=by
    rw[Array.toList_map];exact g1
   simp only[execOp,ho,Instr.build,Sem.run_bind,zeroValue,run_typeInfo x.w hi,Result.andThen_ok,hzv,Sem.run_pure,run_underlying hu,dD hce,Value.cells,hg]
  .cases hc
 |nilCheck p=>
  simp only[CC.op,ho,dd]at hc;obtain⟨s,h1,rfl⟩:=hc;obtain⟨k1,k2⟩:=hob;have hv:=hρ p dt s h1 k1;refine gQ ?_ hv;cases hd:(J s).d<;>simp only[hd]at k2<;>rw[hd]at hv<;>generalize he:ev p=vp at hv<;>cases hv<;>simp[execOp,ho,he]
 |binOp op t p q u=>
  simp only[CC.op,ho]at hc;split at hc
  .rename_i a b h1 h2;have hbin:∀(i':ax),i'=.bin op a b->i'.eE Y J m->NY C.ν x (i'.val Y J m L) ((execOp ev o).run C.P x.w):=by
    rintro _ rfl ⟨k1,k2,k3⟩;have hv:=hρ p dt a h1 k1;have hw:=hρ q dt b h2 k2;rcases Oa k3 with⟨kk,n,kk',n',e1,e2⟩|⟨s,s',e1,e2⟩
    .rw[e1]at hv k3;rw[e2]at hw k3;obtain⟨v,r1,r2⟩:=Nf (ν:=C.ν) (x:=x) (P:=C.P) (t:=t) x.w k3;refine gQ (r9 ho (oK _ _ _ _ (by rw[hv.dq];exact⟨aC,aC⟩) _) (by rw[hv.dq,hw.dq];exact r1)) ?_;simp only[ax.val,e1,e2];exact r2
    .rw[e1]at hv k3;rw[e2]at hw k3;obtain⟨v,r1,r2⟩:=Ng (ν:=C.ν) (x:=x) (P:=C.P) (t:=t) x.w k3;refine gQ (r9 ho (oK _ _ _ _ (by rw[hv.j3.1];exact⟨aC,aC⟩) _) (by rw[hv.j3.1,hw.j3.1];exact r1)) ?_;simp only[ax.val,e1,e2];exact r2
   split at hc
   .simp only[aE]at hc;exact hc▸hbin _ rfl (hc▸hob)
   .simp only[aE]at hc;exact hc▸hbin _ rfl (hc▸hob)
   .rename_i hu1 hu2;split at hc
    .cases hc
    .rename_i hge;have hge':C.P.eqGuardType C.P.depth t=false:=by simpa using hge
     have heq:∀(neg:Bool) (ks:List CK),hR C.P 30 t=some ks->op=(if neg then .neq else .eql)->i=.eqA neg (b7 C.P t) ks a b->NY C.ν x (i.val Y J m L) ((execOp ev o).run C.P x.w):=by
      rintro neg ks hks hop rfl;obtain⟨k1,k2,a1,a2,f1,f2⟩:=hob;have hv:=hρ p dt a h1 k1;have hw:=hρ q dt b h2 k2;have hrun:=r7 (ν:=C.ν) (x:=x) (P:=C.P) 30 t ks hks 10000 ae (ev p) (ev q) _ _ x.w hv hw a1 a2 f1 f2;cases hag:b7 C.P t
      .rw[hag]at a1 a2

       have hub:C.P.underlying t=some .bool:=Hn (d:=29) hag hu1 hu2 hks;rw[A0 (d:=29) hub,aE]at hks;subst hks;have g1:=mi f1 a1;have g2:=mi f2 a2;cases e1:(J a).d<;>simp only[e1,CK.fits]at g1;cases e2:(J b).d<;>simp only[e2,CK.fits]at g2;rename_i b1 b2;rw[e1]at hv;rw[e2]at hw;refine gQ (v:=.bool (if neg then !(b1==b2)else b1==b2)) (r9 ho (oK _ _ _ _ (by rw[hv.jR];exact⟨aC,aC⟩) _) ?_) ?_
       .rw[hv.jR,hw.jR,hop];cases neg
        .simpa using run_eql_bool x.w t b1 b2 hub
        .simpa using run_neq_bool x.w t b1 b2 hub
       .simp only[ax.val,e1,e2,D.cells,ib,eqD,gC];cases neg<;>exact .bool _
      .rw[hag]at a1 a2;cases e1:(J a).d<;>simp only[e1,D.isAgg,iJ]at a1;cases e2:(J b).d<;>simp only[e2,D.isAgg,iJ]at a2;rw[e1]at hv;rw[e2]at hw;rw[e1,e2]at hrun;generalize hep:ev p=vp at*
       generalize heq':ev q=vq at*
       cases hv with
       |agg xs _ p1 p2 p3=>
        cases hw with
        |agg ys _ q1 q2 q3=>
         refine gQ (r9 (v:=.bool (if op=.neq then !(ib (D.agg _).cells (D.agg _).cells)else ib (D.agg _).cells (D.agg _).cells)) ho (by rw[hep,heq'];exact run_eqGuard_agg x.w _ _ _ _ _ _ hge') (by rw[hep,heq'];exact GZ op (by cases neg<;>simp[hop]) t xs ys _ x.w C.P hrun)) ?_;simp only[ax.val,e1,e2];cases neg<;>simp only[hop,bh,aX,iJ,cond_true,cond_false,reduceCtorEq]<;>exact .bool _
     split at hc
     .rename_i ks hks;simp only[aE]at hc;exact heq false ks hks rfl hc.symm
     .rename_i ks hks;simp only[aE]at hc;exact heq true ks hks rfl hc.symm
     .split at hc
      .simp only[aE]at hc;subst hc;simp[ax.pure]at hp
      .cases hc
     .split at hc
      .simp only[aE]at hc;subst hc;simp[ax.pure]at hp
      .cases hc
     .cases hc
  .cases hc
 |store t p q=>simp only[CC.op,ho]at hc;(repeat' split at hc)<;>simp_all[ax.pure]<;>(subst hc;simp at hp)
 |unOp op t p=>
  simp only[CC.op,ho,dd]at hc;obtain⟨s,h1,rfl⟩:=hc;obtain⟨k1,k2⟩:=hob;have hv:=hρ p dt s h1 k1;cases op<;>cases hd:(J s).d<;>simp only[hd]at k2<;>rw[hd]at hv<;>simp only[ax.val,hd]
  .exact gQ (by simp[execOp,ho,hv.dq,Op.unary,Op.intArith]) (.int _ _)
  .exact gQ (by simp[execOp,ho,hv.jR,Op.unary]) (.bool _)
 |convert s d p=>
  simp only[CC.op,ho]at hc;split at hc
  .rename_i ks k a hu1 hu2 h1;simp only[aE]at hc;subst hc;obtain⟨k1,k2⟩:=hob;have hv:=hρ p dt a h1 k1;cases hd:(J a).d<;>simp only[hd]at k2;rw[hd]at hv;simp only[ax.val,hd];exact gQ (by simp[execOp,ho,hv.dq,convert,run_underlying hu1,run_underlying hu2,Conv.intToInt]) (.int _ _)
  .split at hc
   .simp only[aE]at hc;subst hc;simp[ax.pure]at hp
   .cases hc
  .split at hc
   .simp only[aE]at hc;subst hc;simp[ax.pure]at hp
   .cases hc
  .cases hc
 |makeFunc fn first caps=>
  cases fn with
  |func fid=>
   simp only[CC.op,ho]at hc;split at hc
   .rename_i n l h1 h2;split at hc
    .rename_i hfe;simp only[aE]at hc;subst hc;obtain⟨e1,e2,e3⟩:=iI hρ caps.toList l (λo' ho'=>by simp only[ho,Op.operands,Array.toList_append,List.mem_append];exact .inr ho') h2 hob;have hf0:first=#[]:=by simpa using hfe
     refine gQ (v:=.func (.func fid) #[] (caps.map ev)) (by simp[execOp,ho,Instr.makeFunc,hf0]) ?_;refine .fn fid n _ _ h1 (by simp[e2]) (λi hi=>?_);have:=e3 i hi;rw[<-bO,Array.toList_map];exact this
    .split at hc
     .rename_i hle;simp only[dd]at hc;obtain⟨l1,hl1,rfl⟩:=hc;obtain⟨e1,e2,e3⟩:=iI hρ first.toList l1 (λo' ho'=>by simp only[ho,Op.operands,Array.toList_append,List.mem_append];exact .inl ho') hl1 hob
      obtain⟨_,q2,_⟩:=iI hρ caps.toList l (λo' ho'=>by simp only[ho,Op.operands,Array.toList_append,List.mem_append];exact .inr ho') h2 (by rw[List.isEmpty_iff.1 hle];trivial);have hf0:caps=#[]:=by
       rw[List.isEmpty_iff.1 hle]at q2;exact Array.eq_empty_of_size_eq_zero (by simpa[iS]using q2.symm)
      refine gQ (v:=.func (.func fid) (first.map ev) #[]) (by simp[execOp,ho,Instr.makeFunc,hf0]) ?_;refine .ee fid n _ _ h1 (by simp[e2]) (λi hi=>?_);have:=e3 i hi;rw[<-bO,Array.toList_map];exact this
     .cases hc
   .cases hc
  |_=>simp[CC.op,ho]at hc
 |lookup t p q ok=>
  cases ok with
  |true=>simp only[CC.op,ho]at hc;(repeat' split at hc)<;>simp_all[ax.pure]<;>(subst hc;simp_all[ax.pure])
  |false=>simp[CC.op,ho]at hc
 |slice t p lo hi mx=>
  simp only[CC.op,ho]at hc;split at hc
  .rename_i a l h hu h1 hl hh;simp only[aE]at hc;subst hc;obtain⟨k1,k2,k3,k4⟩:=hob;have hv:=hρ p dt a h1 k1;cases hd:(J a).d<;>simp only[hd]at k4;rename_i s;rw[hd]at hv;obtain⟨e1,e2⟩:=hv.j3;obtain⟨b1,b2,b3⟩:=qu hρ sX sX hl hh k2 k3 false s.length s.length (λ_=>rfl) (aN _) k4.1 k4.2;simp only[ax.val,hd];have hsz:(⟨⟨s⟩⟩:ByteArray).size=s.length:=rfl;refine gQ (v:=.string ⟨⟨(s.take (ee (dO J h) s.length)).drop (ee (dO J l) 0)⟩⟩) ?_ (.str _ fh);simp[execOp,ho,e1,Instr.sliceAt,Instr.slice,run_underlying hu,hsz,b1,Fb]
  .rename_i e a l h hu h1 hl hh;split at hc
   .cases hc
   rename_i hce;simp only[aE]at hc;subst hc;obtain⟨k1,k2,k3,k4⟩:=hob;have hv:=hρ p dt a h1 k1;cases hd:(J a).d<;>simp only[hd]at k4
   ·
    rw[hd]at hv;obtain⟨b1,b2,b3⟩:=qu hρ sX sX hl hh k2 k3 true 0 0 (λe=>by simp at e) (aN _) k4.1 (by
     have:ee (dO J h) 0=0:=by
      have:=k4.1;cases hdh:dO J h with
      |none=>rfl
      |some d=>rw[hdh]at this;cases d<;>simp_all[nt,ee]
     rw[this];exact k4.2)
    simp only[ax.val,hd];have e0:ev p=.slice none 0 0:=by generalize ev p=vp at hv;cases hv;rfl
    refine gQ (v:=.slice none 0 0) ?_ .aL;have z1:ee (dO J l) 0=0:=ae;have z2:ee (dO J h) 0=0:=ae;rw[z1,z2]at b1;simp[execOp,ho,e0,Instr.sliceAt,Instr.slice,run_underlying hu,b1,dD hce]
   .rename_i k es;rw[hd]at hv;simp only[ax.val,hd];generalize hep:ev p=vp at hv;have hv2:=hv;cases hv with
    |sl aa b off len cap _ _ c hlen ha hcap hm hk hn hc' hone hh'=>
     subst hlen;obtain⟨b1,b2,b3⟩:=qu hρ sX sX hl hh k2 k3 true es.length cap (λe=>by simp at e) hcap k4.2.1 k4.2.2;refine gQ (v:=.slice (if cap=ee (dO J l) 0 then aa else aa.map (·.add (ee (dO J l) 0*C.P.cellsOf e))) (ee (dO J h) es.length-ee (dO J l) 0) (cap-ee (dO J l) 0)) ?_ ?_
     .simp[execOp,ho,hep,Instr.sliceAt,Instr.slice,run_underlying hu,b1,dD hce]
     .rw[<-k4.1];exact ak3 hv2 b2 b3
   .rename_i L' k i n;rw[hd]at hv;simp only[ax.val,hd];obtain⟨k5,k6,k7⟩:=k4;obtain⟨aa,cap,he,hle0,hr⟩:=ad4 hv;obtain⟨b1,b2,b3⟩:=qu hρ sX sX hl hh k2 k3 true n cap (λe=>by simp at e) hle0 k6 k7;refine gQ ?_ (hr _ _ b2 b3);simp only[execOp,ho,he,Instr.sliceAt,Instr.slice,run_underlying hu,Sem.run_bind,Result.andThen_ok,Option.map_none,b1,dD hce,Sem.run_pure,k5]
  .rename_i e a h mo hu h1 hl hh;obtain rfl:=C8 hl;obtain⟨oh,rfl,hh1⟩:=C9 hh;split at hc;rotate_left
   .cases hc
   rename_i ms hms;split at hc
   .cases hc
   rename_i hce;simp only[aE]at hc;subst hc;obtain⟨k1,k2,k3,k4⟩:=hob;have hv:=hρ p dt a h1 k1;have hvh:=hρ oh rl h hh1 k2;have hvm:=hρ mo rl ms hms k3;cases hdh:(J h).d<;>simp only[hdh]at k4;cases hdm:(J ms).d<;>simp only[hdm]at k4;rename_i kh nh km nm;rw[hdh]at hvh;rw[hdm]at hvm;obtain⟨p1,p2,p3⟩:=k4;cases hd:(J a).d<;>simp only[hd]at p3
   ·
    rw[hd]at hv;simp only[ax.val,hd,hdh];have e0:ev p=.slice none 0 0:=by generalize ev p=vp at hv;cases hv;rfl
    have b1:=vA (C:=C) (x:=x) (len:=0) (cap:=0) hvh.dq hvm.dq p1 p2 ae;refine gQ (v:=.slice none 0 0) ?_ .aL;have z1:nh.toNat=0:=ae;have z2:nm.toNat=0:=ae;rw[z1,z2]at b1;simp[execOp,ho,e0,Instr.sliceAt,Instr.slice,run_underlying hu,b1,dD hce]
   .rename_i k es;rw[hd]at hv;simp only[ax.val,hd,hdh];generalize hep:ev p=vp at hv;have hv2:=hv;cases hv with
    |sl aa b off len cap _ _ c hlen ha hcap hm hk hn hc' hone hh'=>
     subst hlen;have b1:=vA (C:=C) (x:=x) (len:=es.length) (cap:=cap) hvh.dq hvm.dq p1 p2 ae;refine gQ (v:=.slice (if nm.toNat=0 then aa else aa.map (·.add (0*C.P.cellsOf e))) nh.toNat nm.toNat) ?_ ?_
     .simp[execOp,ho,hep,Instr.sliceAt,Instr.slice,run_underlying hu,b1,dD hce]
     .rw[<-p3.1];exact ak1 hv2 ae ae
   .rename_i L' k i n;rw[hd]at hv;simp only[ax.val,hd,hdh];obtain⟨k5,k6⟩:=p3;obtain⟨aa,cap,he,hle0,hr⟩:=ad3 hv;have b1:=vA (C:=C) (x:=x) (len:=n) (cap:=cap) hvh.dq hvm.dq p1 p2 ae;refine gQ ?_ (hr nh.toNat nm.toNat ae ae);simp only[execOp,ho,he,Instr.sliceAt,Instr.slice,run_underlying hu,Sem.run_bind,Result.andThen_ok,Option.map_none,Option.map_some,b1,dD hce,Sem.run_pure,k5,Nat.sub_zero]
  .cases hc
 |fieldAddr t p fi=>
  simp only[CC.op,ho]at hc;split at hc
  .rename_i fs a hu h1;split at hc
   .rename_i fl hfl;split at hc
    .cases hc
    rename_i hce;simp only[aE]at hc;subst hc;obtain⟨k1,k2⟩:=hob;have hv:=hρ p dt a h1 k1;have hrun:∀(b c:Nat),ev p=.pointer (some ⟨b,c,none⟩)->(execOp ev o).run C.P x.w=.ok (.value (.pointer (some ⟨b,c+fl.offset,none⟩))) x.w:=by
     intro b c he;simp[execOp,ho,he,Instr.fieldAt,run_underlying hu,hfl,Instr.sureAddr,fieldPlace,dD hce,hce,Addr.AN]
    cases hd:(J a).d<;>simp only[hd]at k2
    .rename_i k es i o';rw[hd]at hv;simp only[ax.val,hd];generalize hep:ev p=vp at hv;cases hv with
     |ref b off _ _ _ at_ _ c hI hat hk hn hc' h1' hh'=>
      exact gQ (hrun _ _ hep) (.ref b off k i (o'+fl.offset) _ es c hI ae hk hn hc' h1' hh')
    .rename_i l k i o';rw[hd]at hv;simp only[ax.val,hd];generalize hep:ev p=vp at hv;cases hv with
     |ptr _ _ _ _ b base tot at_ hβ hat=>
      exact gQ (hrun _ _ hep) (.ptr l k i (o'+fl.offset) b base tot _ hβ ae)
   .cases hc
  .cases hc
 |field t p fi=>
  simp only[CC.op,ho]at hc;split at hc
  .rename_i fs a hu h1;split at hc
   .rename_i fl hfl;split at hc
    .cases hc
    rename_i hce;simp only[aE]at hc;subst hc;obtain⟨k1,k2⟩:=hob;have hv:=hρ p dt a h1 k1;cases hd:(J a).d<;>simp only[hd]at k2;rename_i ds;rw[hd]at hv;generalize hep:ev p=vp at hv;have hv2:=hv;cases hv with
    |agg cs _ _ _ _=>
     obtain⟨v,r1,r2⟩:=p8 (P:=C.P) (t:=fl.type) (off:=fl.offset) (n:=C.P.cellsOf fl.type) (ag:=b7 C.P fl.type) x.w hv2 (λe=>hce (.inl e)) (by cases hn:(C.P.underlying fl.type).isNone with|false=>rfl|true=>exact absurd (.inr hn) hce) rfl rfl k2.1 k2.2;refine gQ (v:=v) ?_ (by simp only[ax.val,hd,D.cells];exact r2);simp[execOp,ho,hep,Instr.field,run_underlying hu,hfl,asAgg,r1]
   .cases hc
  .cases hc
 |indexAddr t p q=>
  simp only[CC.op,ho]at hc;split at hc
  .rename_i e a b hu h1 h2;split at hc
   .cases hc
   rename_i hce;simp only[aE]at hc;subst hc;obtain⟨k1,k2,k3⟩:=hob;have hv:=hρ p dt a h1 k1;have hw:=hρ q dt b h2 k2;cases hd2:(J b).d<;>cases hd:(J a).d<;>simp only[hd,hd2]at k3
   .rename_i kk n k es;rw[hd]at hv;rw[hd2]at hw;obtain⟨k4,k5,k6⟩:=k3;simp only[ax.val,hd,hd2];generalize hep:ev p=vp at hv;cases hv with
    |sl aa b' off len cap _ _ c hlen ha hcap hm hk hn hc' hone hh'=>
     rcases ha with rfl|⟨rfl,hI⟩
     .simp at k6;omega
     .refine gQ (v:=.pointer (some ⟨b',off+n.toNat*C.P.cellsOf e,none⟩)) ?_ ?_
      .simp[execOp,ho,hep,hw.dq,Instr.indexAt,asIntOf,run_underlying hu,hlen,k5,k6,dD hce,Addr.AN]
      .subst hlen;exact .ref b' off k n.toNat 0 _ es c hI (by rw[k4];omega) hk hn hc' hone hh'
   .rename_i kk n L' k i len;rw[hd]at hv;rw[hd2]at hw;obtain⟨k4,k5,k6⟩:=k3;simp only[ax.val,hd,hd2];generalize hep:ev p=vp at hv;cases hv with
    |own _ _ _ _ b' base tot cap aa hβ ha hcap hm ht=>
     have ha':=ha ae;subst ha';refine gQ (v:=.pointer (some ⟨b',base+i*k+n.toNat*C.P.cellsOf e,none⟩)) ?_ ?_
     .simp[execOp,ho,hep,hw.dq,Instr.indexAt,asIntOf,run_underlying hu,k5,k6,dD hce,Addr.AN]
     .exact .ptr L' k (i+n.toNat) 0 b' base tot _ hβ (by rw[Nat.add_mul,k4];omega)
    |own0=>omega
  .rename_i len e a b hu h1 h2;split at hc
   .cases hc
   rename_i hce;simp only[aE]at hc;subst hc;obtain⟨k1,k2,k3⟩:=hob;have hv:=hρ p dt a h1 k1;have hw:=hρ q dt b h2 k2;have hrun:∀(b c:Nat) (kk:IntKind) (n:Int),ev p=.pointer (some ⟨b,c,none⟩)->ev q=.int kk n->0<=n->n<len->(execOp ev o).run C.P x.w=.ok (.value (.pointer (some ⟨b,c+n.toNat*C.P.cellsOf e,none⟩))) x.w:=by
    intro b c kk n he he' g1 g2;simp[execOp,ho,he,he',Instr.indexAt,asIntOf,run_underlying hu,Instr.sureAddr,g1,g2,dD hce,Addr.AN]
   cases hd2:(J b).d<;>cases hd:(J a).d<;>simp only[hd,hd2]at k3
   .rename_i kk n k es i o';rw[hd]at hv;rw[hd2]at hw;simp only[ax.val,hd,hd2];generalize hep:ev p=vp at hv;cases hv with
    |ref b' off _ _ _ at_ _ c hI hat hk hn hc' h1' hh'=>
     exact gQ (hrun _ _ _ _ hep hw.dq k3.1 k3.2) (.ref b' off k i (o'+n.toNat*C.P.cellsOf e) _ es c hI ae hk hn hc' h1' hh')
   .rename_i kk n L' k i o';rw[hd]at hv;rw[hd2]at hw;simp only[ax.val,hd,hd2];generalize hep:ev p=vp at hv;cases hv with
    |ptr _ _ _ _ b' base tot at_ hβ hat=>
     exact gQ (hrun _ _ _ _ hep hw.dq k3.1 k3.2) (.ptr L' k i (o'+n.toNat*C.P.cellsOf e) b' base tot _ hβ ae)
  .cases hc
 |index t p q=>
  simp only[CC.op,ho]at hc;split at hc
  .rename_i a b hu h1 h2;simp only[aE]at hc;subst hc;obtain⟨k1,k2,k3⟩:=hob;have hv:=hρ p dt a h1 k1;have hw:=hρ q dt b h2 k2;cases hd2:(J b).d<;>cases hd:(J a).d<;>simp only[hd,hd2]at k3;rename_i kk n s;rw[hd]at hv;rw[hd2]at hw;obtain⟨e1,e2⟩:=hv.j3;simp only[ax.val,hd,hd2];have hsz:(⟨⟨s⟩⟩:ByteArray).size=s.length:=rfl;have hlt:n.toNat<s.length:=ae;refine gQ (v:=.int .u8 (s.getD n.toNat 0).toNat) ?_ (.int _ _);simp only[execOp,ho,e1,hw.dq,Sem.run_bind,run_index_string x.w t _ kk n hu,hsz];rw[dif_pos k3];simp only[Result.andThen_ok,Sem.run_pure];congr 4;show(((⟨s⟩:Array UInt8)[n.toNat]'hlt)).toNat=_;simp[List.getD,hlt]
  .rename_i len e a b hu h1 h2;split at hc
   .cases hc
   rename_i hce;simp only[aE]at hc;subst hc;obtain⟨k1,k2,k0,k3⟩:=hob;have hv:=hρ p dt a h1 k1;have hw:=hρ q dt b h2 k2;cases hd2:(J b).d<;>cases hd:(J a).d<;>simp only[hd,hd2]at k3;rename_i kk n ds;rw[hd]at hv;rw[hd2]at hw;generalize hep:ev p=vp at hv;have hv2:=hv;cases hv with
   |agg cs _ _ _ _=>
    have hb:n.toNat*C.P.cellsOf e+C.P.cellsOf e<=ds.length:=by
     rw[k3.2.2,<-Nat.succ_mul];exact fP _ ae
    obtain⟨v,r1,r2⟩:=p8 (P:=C.P) (t:=e) (off:=n.toNat*C.P.cellsOf e) (n:=C.P.cellsOf e) (ag:=b7 C.P e) x.w hv2 (λe=>hce (.inl e)) (by cases hn:(C.P.underlying e).isNone with|false=>rfl|true=>exact absurd (.inr hn) hce) rfl rfl hb k0;refine gQ (v:=v) ?_ (by simp only[ax.val,hd,hd2,D.cells];exact r2);simp[execOp,ho,hep,hw.dq,Instr.index,asIntOf,run_underlying hu,k3.1,k3.2.1,dD (λe=>hce (.inl e)),r1]
  .cases hc
 |extract p n=>
  simp only[CC.op,ho,dd]at hc;obtain⟨s,h1,rfl⟩:=hc;obtain⟨k1,k2⟩:=hob;have hv:=hρ p dt s h1 k1;cases hd:(J s).d<;>simp only[hd]at k2;rw[hd]at hv;generalize hep:ev p=vp at hv;cases hv with
  |tup cs _ hl hh=>
   have hlt:n<cs.size:=ae;refine gQ (v:=cs.getD n undef) ?_ (by simp only[ax.val,hd];exact hh n k2);simp[execOp,ho,hep,Instr.extract,Array.getElem?_eq_getElem hlt,Array.getD,hlt]
 |call c=>
  obtain⟨callee,args,argTypes⟩:=c;cases callee with
  |builtin bu=>
   cases bu with
   |len=>
    simp only[CC.op,ho]at hc;split at hc
    .rename_i p t hargs htys;have hargs':args=#[p]:=by apply Array.ext';simpa using hargs
     have htys':argTypes=#[t]:=by apply Array.ext';simpa using htys
     subst hargs';subst htys';split at hc
     .rename_i a h1 hu;simp only[aE]at hc;subst hc;obtain⟨k1,k2⟩:=hob;have hv:=hρ p dt a h1 k1;have hrun:∀s,ev p=.string s->(execOp ev o).run C.P x.w=.ok (.value (.int .i64 s.size)) x.w:=by
       intro s he;simp[execOp,ho,resolve,invoke,builtin,Builtin.len_,he,run_underlying hu,goInt]
      cases hd:(J a).d<;>simp only[hd]at k2
      .rw[hd]at hv;simp only[ax.val,hd];exact gQ (hrun _ hv.j3.1) (.int _ _)
     .rename_i a e h1 hu;simp only[aE]at hc;subst hc;obtain⟨k1,k2⟩:=hob;have hv:=hρ p dt a h1 k1;have hrun:∀b n cc,ev p=.slice b n cc->(execOp ev o).run C.P x.w=.ok (.value (.int .i64 n)) x.w:=by
       intro b n cc he;simp[execOp,ho,resolve,invoke,builtin,Builtin.len_,he,run_underlying hu,goInt]
      cases hd:(J a).d<;>simp only[hd]at k2
      .rw[hd]at hv;simp only[ax.val,hd];generalize hep:ev p=vp at hv;cases hv;exact gQ (hrun _ _ _ hep) (.int _ _)
      .rw[hd]at hv;simp only[ax.val,hd];generalize hep:ev p=vp at hv;cases hv with
       |sl aa b off len cap _ _ cf hlen ha hcap hm hk hn hc' hone hh'=>
        subst hlen;exact gQ (hrun _ _ _ hep) (.int _ _)
      .rw[hd]at hv;simp only[ax.val,hd];generalize hep:ev p=vp at hv;cases hv with
       |own _ _ _ _ b base tot cap aa hβ ha hcap hm ht=>
        exact gQ (hrun _ _ _ hep) (.int _ _)
       |own0=>exact gQ (hrun _ _ _ hep) (.int _ _)
     .cases hc
    .cases hc
   |min=>
    simp only[CC.op,ho]at hc;split at hc
    .rename_i p q hargs;have hargs':args=#[p,q]:=by apply Array.ext';simpa using hargs
     subst hargs';split at hc
     .rename_i a b h1 h2;simp only[aE]at hc;subst hc;obtain⟨k1,k2,k3⟩:=hob;have hv:=hρ p dt a h1 k1;have hw:=hρ q dt b h2 k2;cases hd:(J a).d<;>cases he:(J b).d<;>simp only[hd,he]at k3;rw[hd]at hv;rw[he]at hw;simp only[ax.val,hd,he];refine gQ ?_ (.int _ _);simp[execOp,ho,resolve,invoke,builtin,Builtin.min_,Builtin.min2,hv.dq,hw.dq]
     .cases hc
    .cases hc
   |max=>
    simp only[CC.op,ho]at hc;split at hc
    .rename_i p q hargs;have hargs':args=#[p,q]:=by apply Array.ext';simpa using hargs
     subst hargs';split at hc
     .rename_i a b h1 h2;simp only[aE]at hc;subst hc;obtain⟨k1,k2,k3⟩:=hob;have hv:=hρ p dt a h1 k1;have hw:=hρ q dt b h2 k2;cases hd:(J a).d<;>cases he:(J b).d<;>simp only[hd,he]at k3;rw[hd]at hv;rw[he]at hw;simp only[ax.val,hd,he];refine gQ ?_ (.int _ _);simp[execOp,ho,resolve,invoke,builtin,Builtin.max_,Builtin.max2,hv.dq,hw.dq]
     .cases hc
    .cases hc
   |append=>simp only[CC.op,ho]at hc;(repeat' split at hc)<;>simp_all[ax.pure]<;>(subst hc;simp_all[ax.pure])
   |_=>simp[CC.op,ho]at hc
  |value f=>
   cases f with
   |func fid=>simp only[CC.op,ho]at hc;(repeat' split at hc)<;>simp_all[ax.pure]<;>(subst hc;simp_all[ax.pure])
   |tmp t=>simp only[CC.op,ho]at hc;(repeat' split at hc)<;>simp_all[ax.pure]<;>(subst hc;simp_all[ax.pure])
   |_=>simp[CC.op,ho]at hc
  |invoke r n=>simp[CC.op,ho]at hc
 |alloc t=>simp only[CC.op,ho]at hc;(repeat' split at hc)<;>simp_all[ax.pure]<;>(subst hc;simp_all[ax.pure])
 |box t p=>simp only[CC.op,ho]at hc;(repeat' split at hc)<;>simp_all[ax.pure]<;>(subst hc;simp_all[ax.pure])
 |buildSlice t n ps=>simp only[CC.op,ho]at hc;(repeat' split at hc)<;>simp_all[ax.pure]<;>(subst hc;simp_all[ax.pure])
 |load t p=>
  simp only[CC.op,ho]at hc;split at hc
  .rename_i d hg;obtain rfl:=aW hc;cases p with
   |global g=>
    simp only[CC.Xk]at hg;split at hg
    .rename_i hh;obtain rfl:=aW hg;obtain⟨h1,h2,h3,h4⟩:=hh;have hcell:=cL.gzr x g hs.gd (hgz g h1);obtain⟨v,r1,r2⟩:=qE (ν:=C.ν) (x:=x) (P:=C.P) (e:=zVD) (k:=5) (n:=5) (o:=0) (b:=g) (at0:=0) (ag:=true) (ty:=t) (c:=zVv) rfl ae
      (λj hj=>⟨by simpa using hcell j hj,by unfold zVv;split<;>rfl,by
        unfold zVv zVD
        match j,hj with
        |0,_=>exact .int _ _
        |1,_=>exact .int _ _
        |2,_=>exact .int _ _
        |3,_=>exact .str [] aC
        |4,_=>exact .str [] aC⟩) h2.symm ae h4 h3.symm (λh=>bZ)
     refine gQ (v:=v) ?_ (by simp only[ax.val,hcst];exact r2);have hev:ev (.global g)=.pointer (some ⟨g,0,none⟩):=hgl g;simp[execOp,ho,hev,Instr.loadAt,Instr.sureAddr,r1]
    .cases hg
   |_=>simp[CC.Xk]at hg
  ·(repeat' split at hc)<;>simp_all[ax.pure]<;>(subst hc;simp_all[ax.pure])
 |makeSlice t a b=>simp only[CC.op,ho]at hc;(repeat' split at hc)<;>simp_all[ax.pure]<;>(subst hc;simp_all[ax.pure])
 |range t p=>simp only[CC.op,ho]at hc;(repeat' split at hc)<;>simp_all[ax.pure]<;>(subst hc;simp_all[ax.pure])
 |next it b=>
  cases b
  .simp[CC.op,ho]at hc
  .simp only[CC.op,ho,dd]at hc;obtain⟨s,h1,rfl⟩:=hc;simp[ax.pure]at hp
 |makeMap t r=>cases r<;>simp only[CC.op,ho]at hc<;>(try cases hc)<;>(repeat' split at hc)<;>simp_all[ax.pure]<;>(subst hc;simp_all[ax.pure])
 |mapUpdate t a b c=>simp only[CC.op,ho]at hc;(repeat' split at hc)<;>simp_all[ax.pure]<;>(subst hc;simp_all[ax.pure])
 |_=>simp[CC.op,ho]at hc
def adZ {o:Oper}{i:ax}(hgz:∀g,C.bN.contains (500000000+g)=true/\g<400000000->cL.gz g)(hcst:∀d,J (.c d)=⟨true,d⟩)(hsm:∀fid n,dN C.ν fid=some n->n<1000000)(hc:C.op defs o=some i)(hp:i.pure=true)(hρ:vt C defs J ev x o.op.operands.toList)(hob:i.eE Y J m)(hs:fF C.ν x f)(hgl:∀g,ev (.global g)=.pointer (some ⟨g,0,none⟩)):
  Bi C.ν x f L (i.val Y J m L) ((execOp ev o).run C.P x.w):=(Yz hgz hcst hsm hc hp hρ hob hs hgl).did hs
end
end
abbrev aG (Y:Ctx)(n:Nat)(ds:List D)(d:D):Prop:=Y.pre n ds/\Y.val n ds=d
section
variable [cL]
def xe {α:Type}(l:List α)(j:Nat)(d:α)(h:j<l.length):l.getD j d=l[j]:=by simp[List.getD,h]
theorem YK (cs new:List D)(o:Nat)(h:o+new.length<=cs.length):(over cs o new).length=cs.length:=by
 grind [over]
theorem Ut (cs new:List D)(o:Nat)(h:o+new.length<=cs.length)(j:Nat)(d:D):(over cs o new).getD j d=if o<=j/\j<o+new.length then new.getD (j-o) d else cs.getD j d:=by
 grind [over]
theorem bM (m:List (Nat×bj))(L:Nat)(b:bj)(l:Nat):look (cT m L b) l=if l=L then some b else look m l:=by
 induction m with
 |nil=>by_cases h:l=L<;>simp[cT,look,h,eq_comm]<;>omega
 |cons p r ih=>
  grind [cT,look]
theorem fk (m:List (Nat×bj))(k l:Nat):look (c7 m k) l=if l=k then none else look m l:=by
 induction m with
 |nil=>simp[c7,look]
 |cons p r ih=>
  grind [c7,look]
def ji (ws:List Nat)(m':List (Nat×bj)):Nat->Option bj:=λl=>if l∈ws then look m' l else f l
section
variable {x:X}
def mc (b:Nat):∀(vs:List Value) (o:Nat) (w:World) (c:Array Value) (T:TypeId) (fr:Nat×Nat),w.heap[b]? =some (.cells c T fr)->o+vs.length<=c.size->
  ∃c',(w.setCells b o vs).heap[b]? =some (.cells c' T fr)/\c'.size=c.size/\∀q,c'.getD q undef=if o<=q/\q<o+vs.length then vs.getD (q-o) undef else c.getD q undef
 |[],o,w,c,T,fr,h,_=>⟨c,by simpa[World.setCells]using h,rfl,λq=>by rw[ah (λe=>by have:=e.1;have:=e.2;simp at this;omega)]⟩
 |v::r,o,w,c,T,fr,h,hl=>by
  simp only[bD]at hl;have h1:(w.setCell ⟨b,o,none⟩ v).heap[b]? =some (.cells (c.setIfInBounds o v) T fr):=by
   simp[World.setCell,Array.getElem?_modify,h]
  obtain⟨c',g1,g2,g3⟩:=mc b r (o+1) _ _ T fr h1 fh;refine⟨c',by simpa[World.setCells]using g1,by simpa using g2,λq=>?_⟩;rw[g3 q];simp only[bD];by_cases q1:o+1<=q/\q<o+1+r.length
  .rw[ak q1,ak ae,show q-o=(q-(o+1))+1 by omega];simp
  .rw[ah q1];by_cases q2:q=o
   .subst q2;rw[ak ae];simp[Array.getD,show q<c.size by omega]
   .rw[ah ae];rw[<-bO,<-bO];simp[List.getD,List.getElem?_set,show ¬o=q by omega]
def kZ (b:Nat):∀(vs:List Value) (o:Nat) (w:World) (b':Nat),b'≠b->(w.setCells b o vs).heap[b']? =w.heap[b']?
 |[],o,w,b',_=>rfl
 |v::r,o,w,b',h=>by
  rw[show w.setCells b o (v::r)=(w.setCell ⟨b,o,none⟩ v).setCells b (o+1) r from rfl,kZ b r (o+1) _ b' h];simp[World.setCell,Array.getElem?_modify,show b≠b' by omega]
def kY (b:Nat):∀(vs:List Value) (o:Nat) (w:World),(w.setCells b o vs).os=w.os/\(w.setCells b o vs).tape=w.tape/\(w.setCells b o vs).output=w.output/\(w.setCells b o vs).heap.size=w.heap.size
 |[],o,w=>⟨rfl,rfl,rfl,rfl⟩
 |v::r,o,w=>by
  have:=kY b r (o+1) (w.setCell ⟨b,o,none⟩ v);exact⟨this.1,this.2.1,this.2.2.1,by rw[show w.setCells b o (v::r)=(w.setCell ⟨b,o,none⟩ v).setCells b (o+1) r from rfl,this.2.2.2];simp⟩
def cell_of_heap {w:World}{b o:Nat}(h:w.heap[b]? =some (.cells c T fr))(ho:o<c.size):w.cell? ⟨b,o,none⟩=some (c.getD o undef):=by
 rw[cell_of_row w b o c T fr h];simp[Array.getD,ho]
theorem vv {f:Nat->Option bj}{m:List (Nat×bj)}(hs:fF ν x f)(hf:f l=look m l)(hb:dT m l k n):
  f l=some (.buf k (aH m l))/\n<=(aH m l).length/\look m l=some (.buf k (aH m l)):=by
 grind [dT,aH,look]
theorem kO {i j:Nat}(hi:i<tot)(hj:j<k):i*k+j<tot*k:=by
 have:(i+1)*k<=tot*k:=fP _ hi;rw[Nat.succ_mul]at this;omega
def EO (m:List (Nat×bj)):Option (List Nat)->Prop
 |none=>∀l,look m l≠none->f l=look m l
 |some ls=>∀l,l∈ls->f l=look m l
def oJ {f:Nat->Option bj}{L:Nat}{w':World}{blk:bj}{v:Value}{d:D}(hs:fF ν x f)(hL:x.β L=none)(hw:iz x.w w')(hnw:x.w.heap.size<w'.heap.size)(hb:oV ν ⟨w',x.I,e8 x.β L (x.w.heap.size,0,tot)⟩ x.w.heap.size 0 tot blk)(hv:RD ν ⟨w',x.I,e8 x.β L (x.w.heap.size,0,tot)⟩ v d)(hr:r=.ok (.value v) w')(hf:∀l,f' l=jC f L (some blk) l):Bi ν x f' L d r:=by
 have e:f'=jC f L (some blk):=funext hf;subst e;exact⟨v,⟨w',x.I,e8 x.β L (x.w.heap.size,0,tot)⟩,.inl hr,D3 hw (aN _) hL hs.imm,hv,aeE hs hw (aN _) hnw hL hb,λl hl=>by simp[e8,hl]⟩
def wK {w':World}{L:Nat}{es:List D}(x':X)(hx:x'.w.heap[n]? =some (.cells c T fr))(hk:0<k)(ht:es.length<=tot)(hc:tot*k<=c.size)(hfr:∀o,o<c.size->¬(fr.1<=o/\o<fr.2))(he:∀i,i<es.length->(es.getD i .any).cells.length=k/\∀j,j<k->(c.getD (i*k+j) undef).oneCell'=true/\RD ν x' (c.getD (i*k+j) undef) ((es.getD i .any).cells.getD j .any)):
  oV ν x' n 0 tot (.buf k es):=
 ⟨hk,ht,c,T,fr,hx,ae,hfr,λi hi=>⟨(he i hi).1,λj hj=>by simpa using(he i hi).2 j hj⟩⟩
end
section
variable {x:X}{f:Nat->Option bj}{C:CC}{defs:List (Option Nat)}{J:Src->aY}{ev:Operand->Value}{Y:Ctx}{m:List (Nat×bj)}{L:Nat}
def Hp (hs:fF C.ν x f){w':World}(hw:iz x.w w')(hL:x.β L=none):Le x ⟨w',x.I,e8 x.β L (x.w.heap.size,0,tot)⟩:=
 (D3 hw (aN _) hL hs.imm).le
theorem Ri {v:Value}{d:D}(hs:fF C.ν x f)(hL:x.β L=none)(hv:RD C.ν x v d)(hk:d.cells.length=k)(hk0:k≠0)(hr:r=.ok (.value (.pointer (some ⟨x.w.heap.size,0,none⟩))) (x.w.alloc (.cells v.cells T))):
  Bi C.ν x (ji f [L] (cT m L (.buf k [d]))) L (.ptr L k 0 0) r:=by
 have hw:=iz.alloc x.w (.cells v.cells T);have hle:=Hp (tot:=1) hs hw hL;obtain⟨c1,c2⟩:=hv.cells ae;refine oJ (tot:=1) (blk:=.buf k [d]) hs hL hw aC ?_ (.ptr L k 0 0 x.w.heap.size 0 1 0 nL aC) hr (λl=>?_)
 .refine wK (w':=x.w) (L:=L) _ (dV x.w _) ae aC ae (λo _=>aC) (λi hi=>?_);simp at hi;subst hi;refine⟨by simpa using hk,λj hj=>?_⟩;have:=c2 j ae;exact⟨by simpa using this.1,by simpa using this.2.mono hle⟩
 grind [ji,bM,jC]
def acD {v:Value}(hs:fF C.ν x f)(hL:x.β L=none)(hv:RD C.ν x v (.agg [.nilp,.aL]))(hr:r=.ok (.value (.pointer (some ⟨x.w.heap.size,0,none⟩))) (x.w.alloc (.cells v.cells cL.tB))):
  Bi C.ν x (ji f [L] (cT m L (.bld none 0 false))) L (.ptr L 2 0 0) r:=by
 have hw:=iz.alloc x.w (.cells v.cells cL.tB);refine oJ (tot:=1) (blk:=.bld none 0 false) hs hL hw aC ?_ (.ptr L 2 0 0 x.w.heap.size 0 1 0 nL aC) hr (λl=>?_)
 .refine⟨rfl,.slice none 0 0, ?_,rfl,rfl⟩;refine(dV x.w _).trans ?_;cases hv with
  |agg cs _ hl h1 h=>
   have e0:=h 0 aC;have e1:=h 1 aC;simp only[iW,List.getD_cons_succ]at e0 e1;have hl2:cs.size=2:=hl;have hcs:cs=#[.pointer none,.slice none 0 0]:=by
    apply Array.ext
    .simpa using hl2
    .intro i hi1 hi2;have hi:i=0\/i=1:=ae;rcases hi with rfl|rfl
     .generalize hq:cs.getD 0 undef=q at e0;cases e0;simp[Array.getD,hi1]at hq;simpa using hq
     .generalize hq:cs.getD 1 undef=q at e1;cases e1;simp[Array.getD,hi1]at hq;simpa using hq
   subst hcs;rfl
 .by_cases e:l=L
  .subst e;simp[ji,bM,jC]
  .simp[ji,e,jC]
def Yu {o:Oper}{i:ax}(hc:C.op defs o=some i)(ho:(∃t,o.op=.alloc t)\/∃t p,o.op=.box t p)(hρ:vt C defs J ev x o.op.operands.toList)(hcst:∀d,J (.c d)=⟨true,d⟩)(hob:i.eE Y J m)(hs:fF C.ν x f)(hL:x.β L=none)(hB:∀t,C.bN.contains (1000000000+t)=true->t=cL.tB):
  Bi C.ν x (ji f (i.wr J L) (i.bN Y J m L)) L (i.val Y J m L) ((execOp ev o).run C.P x.w):=by
 rcases ho with⟨t,ho⟩|⟨t,p,ho⟩
 .simp only[CC.op,ho]at hc;split at hc
  .rename_i z hz;obtain⟨ti,v,hi,hzv,hr⟩:=qf (x:=x) hz;split at hc
   .cases hc
   rename_i hce;split at hc
   .rename_i hB0;split at hc
    .simp only[aE]at hc;subst hc;exact acD hs hL hr (by rw[<-hB t hB0];simp[execOp,ho,Instr.alloc,zeroValue,typeInfo,hi,hzv,newVar,newRow])
    .cases hc
   simp only[aE]at hc;subst hc;obtain⟨k1,k2⟩:=hob;simp only[hcst]at k2;have e:(ax.box (C.P.cellsOf t) (.c z)).bN Y J m L=cT m L (.buf (C.P.cellsOf t) [z]):=by simp[ax.bN,hcst]
   rw[e];refine Ri (T:=t) hs hL hr k2 hce ?_;simp[execOp,ho,Instr.alloc,zeroValue,typeInfo,hi,hzv,newVar,newRow]
  .cases hc
 .simp only[CC.op,ho]at hc;split at hc
  .rename_i s h1;split at hc
   .cases hc
   rename_i hce;simp only[aE]at hc;subst hc;obtain⟨k1,k2⟩:=hob;exact Ri (T:=t) hs hL (hρ p dt s h1 k1) k2 hce (by simp[execOp,ho,Instr.box,newVar,newRow])
  .cases hc
def Yy {o:Oper}{i:ax}{p:Operand}(hpu:¬i.pure=true)(hsm:∀fid n,dN C.ν fid=some n->n<1000000)(hc:C.op defs o=some i)(ho:o.op=.load t p)(hρ:vt C defs J ev x o.op.operands.toList)(hob:i.eE Y J m)(hs:fF C.ν x f)(hag:EO f m (i.nq J)):
  NY C.ν x (i.val Y J m L) ((execOp ev o).run C.P x.w):=by
 simp only[CC.op,ho]at hc;split at hc
 .obtain rfl:=aW hc;exact absurd rfl hpu
 split at hc
 .rename_i s h1;split at hc
  .cases hc
  rename_i hce;simp only[aE]at hc;subst hc;obtain⟨k1,k2⟩:=hob;have hv:=hρ p dt s h1 k1;have hn0:C.P.cellsOf t≠0:=λe=>hce (.inl e)
  have hu:(C.P.underlying t).isNone=false:=by cases hn:(C.P.underlying t).isNone with|false=>rfl|true=>exact absurd (.inr (.inl hn)) hce
  have h1':b7 C.P t=false->C.P.cellsOf t=1:=λe=>by
   rcases Nat.decEq (C.P.cellsOf t) 1 with h|h
   .exact absurd (.inr (.inr ⟨e,h⟩)) hce
   .exact h
  cases hd:(J s).d<;>simp only[hd,KJ]at k2
  .rename_i k es i o';rw[hd]at hv;generalize hep:ev p=vp at hv;cases hv with
   |ref b off _ _ _ at_ _ c hI hat hk hn hcc hone hh=>
    obtain⟨v,r1,r2⟩:=qE (P:=C.P) (ν:=C.ν) (x:=x) (e:=es.getD i .any) (k:=k) (n:=C.P.cellsOf t) (o:=o') (b:=b) (at0:=off+i*k) (ag:=b7 C.P t) (ty:=t) (c:=c i) (hk i k2.1) k2.2
     (λj hj=>⟨hcc i j k2.1 hj,hone i j k2.1 hj,hh i j k2.1 hj⟩) rfl hn0 hu rfl h1'
    refine gQ (v:=v) ?_ (by simp only[ax.val,hd,KK];exact r2);simp[execOp,ho,hep,Instr.loadAt,Instr.sureAddr,hat,r1]
  .rename_i l k i o';rw[hd]at hv;generalize hep:ev p=vp at hv;cases hv with
   |ptr _ _ _ _ b base tot at_ hβ hat=>
    obtain⟨g1,g2,g3⟩:=vv (n:=i+1) hs (hag l (by simp[hd,cg])) k2.1;obtain⟨hnI,hk0,ht,c,T,fr,q1,q2,q3,q4⟩:=hs.own l _ b base tot g1 hβ;have hi:i<(aH m l).length:=ae;obtain⟨v,r1,r2⟩:=qE (P:=C.P) (ν:=C.ν) (x:=x) (e:=(aH m l).getD i .any) (k:=k) (n:=C.P.cellsOf t) (o:=o') (b:=b) (at0:=base+i*k) (ag:=b7 C.P t) (ty:=t) (c:=λj=>c.getD (base+i*k+j) undef)
     ((q4 i hi).1) k2.2
     (λj hj=>⟨cell_of_heap q1 KA,((q4 i hi).2 j hj).1,((q4 i hi).2 j hj).2⟩) rfl hn0 hu rfl h1'
    refine gQ (v:=v) ?_ (by simp only[ax.val,hd,KK];exact r2);simp[execOp,ho,hep,Instr.loadAt,Instr.sureAddr,hat,r1]
  .rename_i q es;obtain⟨hq2,e1,e2,e3⟩:=k2;rw[hd]at hv;generalize hep:ev p=vp at hv;cases hv with
   |mpn=>exfalso;omega
   |im=>exfalso;omega
   |fn fid _ cs ds hν=>exact absurd (hsm _ _ hν) ae
   |ee fid _ cs ds hν=>exact absurd (hsm _ _ hν) ae
   |bx b at_ _ v0 hI hc0 h1 hl hh=>
    obtain⟨v,r1,r2⟩:=qE (P:=C.P) (ν:=C.ν) (x:=x) (e:=es.getD 0 .any) (k:=1) (n:=C.P.cellsOf t) (o:=0) (b:=b) (at0:=at_) (ag:=b7 C.P t) (ty:=t) (c:=λ_=>v0) (by rw[e3];rfl) ae
     (λj hj=>by obtain rfl:j=0:=ae;exact⟨hc0,h1,by rw[e3];exact hh 0 ae⟩) rfl hn0 hu rfl h1'
    refine gQ (v:=v) ?_ (by simp only[ax.val,hd,KK];exact r2);simp only[Nat.add_zero]at r1;simp[execOp,ho,hep,Instr.loadAt,Instr.sureAddr,r1]
 .cases hc
def adX {o:Oper}{i:ax}{p:Operand}(hpu:¬i.pure=true)(hsm:∀fid n,dN C.ν fid=some n->n<1000000)(hc:C.op defs o=some i)(ho:o.op=.load t p)(hρ:vt C defs J ev x o.op.operands.toList)(hob:i.eE Y J m)(hs:fF C.ν x f)(hag:EO f m (i.nq J)):
  Bi C.ν x (ji f (i.wr J L) (i.bN Y J m L)) L (i.val Y J m L) ((execOp ev o).run C.P x.w):=by
 have haf:ji f (i.wr J L) (i.bN Y J m L)=f:=by
  have hw:i.wr J L=[]:=by
   simp only[CC.op,ho]at hc
   (repeat' split at hc)<;>simp only[aE,reduceCtorEq]at hc<;>subst hc<;>rfl
  funext l;simp[ji,hw]
 rw[haf];exact(Yy hpu hsm hc ho hρ hob hs hag).did hs
def YB {o:Oper}{i:ax}{p:Operand}(hpu:¬i.pure=true)(hc:C.op defs o=some i)(ho:o.op=.store t p q)(hρ:vt C defs J ev x o.op.operands.toList)(hob:i.eE Y J m)(hs:fF C.ν x f)(hag:EO f m (i.nq J)):
  Bi C.ν x (ji f (i.wr J L) (i.bN Y J m L)) L (i.val Y J m L) ((execOp ev o).run C.P x.w):=by
 simp only[CC.op,ho]at hc;split at hc
 .rename_i s u h1 h2;split at hc
  .cases hc
  rename_i hce;simp only[aE]at hc;subst hc;obtain⟨k1,k2,k3,k4⟩:=hob;have hv:=hρ p dt s h1 k1;have hw:=hρ q dt u h2 k2;cases hd:(J s).d<;>simp only[hd]at k4;rename_i l k i o';rw[hd]at hv;generalize hep:ev p=vp at hv;cases hv with
  |ptr _ _ _ _ b base tot at_ hβ hat=>
   obtain⟨g1,g2,g3⟩:=vv (n:=i+1) hs (hag l (by simp[hd,cg])) k4.1;obtain⟨hnI,hk0,ht,c,T,fr,q1,q2,q3,q4⟩:=hs.own l _ b base tot g1 hβ;have hi:i<(aH m l).length:=ae;obtain⟨c1,c2⟩:=hw.cells ae;have hnl:(ev q).cells.toList.length=C.P.cellsOf t:=fh;have hin:∀j,j<C.P.cellsOf t->base+i*k+o'+j<c.size:=λj hj=>by
    have:=kO (tot:=tot) (i:=i) (k:=k) (j:=o'+j) ae ae;omega
   have hst:=run_storeCells_cells (P:=C.P) b (base+i*k+o') (ev q).cells.toList 0 x.w
    (λj hj=>by rw[cell_of_heap q1 (by have:=hin j ae;omega)];rfl)
    (λj hj=>by
      have:=q3 (base+i*k+o'+0+j) (by have:=hin j ae;omega);simp only[World.frozen?,q1];simp only[ep,ct];omega)
    (λv hv=>by
      obtain⟨j,hj,rfl⟩:=List.mem_iff_getElem.1 hv;rw[<-xe _ j undef hj,bO];exact(c2 j ae).1)
   simp only[Nat.add_zero]at hst;obtain⟨c',s1,s2,s3⟩:=mc b (ev q).cells.toList (base+i*k+o') x.w c T fr q1 (by have:=hin (C.P.cellsOf t-1) ae;omega);obtain⟨f1,f2,f3,f4⟩:=kY b (ev q).cells.toList (base+i*k+o') x.w
   let w':=x.w.setCells b (base+i*k+o') (ev q).cells.toList
   have hother:∀b',b'≠b->w'.heap[b']? =x.w.heap[b']? :=λb' hb'=>kZ b _ _ _ b' hb'
   have hstep:Step x ⟨w',x.I,x.β⟩:=by
    refine⟨f1,f2,f3,by show _<=w'.heap.size;rw[f4];exact aN _,λ_ h=>h,λb' hb'=>hother b' (λe=>hnI (e▸hb')),λ_ _ h=>h,λb' _ hn=>hother b' (λe=>hn l _ hβ e.symm),λ_ h=>.inl h,λ_ _ h=>.inl h⟩
   let es':=(aH m l).set i (rO ((aH m l).getD i .any) k (C.P.cellsOf t) o' (J u).d)
   have hle:=hstep.le

   have hel:(rO ((aH m l).getD i .any) k (C.P.cellsOf t) o' (J u).d).cells.length=k/\∀j,j<k->
     (rO ((aH m l).getD i .any) k (C.P.cellsOf t) o' (J u).d).cells.getD j .any=if o'<=j/\j<o'+C.P.cellsOf t then(J u).d.cells.getD (j-o') .any else((aH m l).getD i .any).cells.getD j .any:=by
    unfold rO;have hkl:=(q4 i hi).1;cases hnk:((C.P.cellsOf t==k)&&((J u).d.isAgg ||!((aH m l).getD i .any).isAgg))
    .simp only[cond_false];refine⟨(YK _ _ _ ae).trans hkl,λj hj=>?_⟩;rw[<-k3];exact Ut _ _ _ ae _ _
    .simp only[aA,beq_iff_eq]at hnk;have hnk:=hnk.1;simp only[cond_true];refine⟨ae,λj hj=>?_⟩;have:o'=0:=ae;subst this;rw[ak ae];simp
   have hblk:oV C.ν ⟨w',x.I,x.β⟩ b base tot (.buf k es'):=by
    refine⟨hk0,by simp[es'];omega,c',T,fr,s1,ae,λo'' ho''=>q3 o'' ae,λi' hi'=>?_⟩;have hi2:i'<(aH m l).length:=by simpa[es']using hi'
    by_cases e:i'=i
    .subst e;have hg:es'.getD i' .any=rO ((aH m l).getD i' .any) k (C.P.cellsOf t) o' (J u).d:=by simp[es',List.getD,List.getElem?_set,hi2]
     rw[hg];refine⟨hel.1,λj hj=>?_⟩;rw[hel.2 j hj,s3];by_cases hj2:o'<=j/\j<o'+C.P.cellsOf t
     .rw[ak ae,ak hj2,show base+i'*k+j-(base+i'*k+o')=j-o' by omega,bO];have:=c2 (j-o') ae;exact⟨this.1,this.2.mono hle⟩
     .rw[ah ae,ah hj2];exact⟨((q4 i' hi2).2 j hj).1,((q4 i' hi2).2 j hj).2.mono hle⟩
    .have hg:es'.getD i' .any=(aH m l).getD i' .any:=by simp[es',List.getD,List.getElem?_set,show ¬i=i' by omega]
     rw[hg];refine⟨(q4 i' hi2).1,λj hj=>?_⟩;rw[s3];have hne:¬(base+i*k+o'<=base+i'*k+j/\base+i'*k+j<base+i*k+o'+(ev q).cells.toList.length):=by
      rw[hnl];rcases dX i' i with hlt|hge
      .have:(i'+1)*k<=i*k:=fP _ hlt;rw[Nat.succ_mul]at this;omega
      .have:(i+1)*k<=i'*k:=fP _ ae;rw[Nat.succ_mul]at this;omega
     rw[ah hne];exact⟨((q4 i' hi2).2 j hj).1,((q4 i' hi2).2 j hj).2.mono hle⟩
   refine⟨undef,⟨w',x.I,x.β⟩,.inr ⟨?_,rfl⟩,hstep,.any _, ?_,λ_ _=>rfl⟩
   .have hsz:(ev q).cells.size=C.P.cellsOf t:=ae;simp[execOp,ho,hep,Instr.storeAt,Instr.sureAddr,storeVar,dD hce,hsz,hat,hst,w']
   .have haf:∀l',ji f ((ax.st (C.P.cellsOf t) s u).wr J L) ((ax.st (C.P.cellsOf t) s u).bN Y J m L) l'=jC f l (some (.buf k es')) l':=by
     intro l';simp only[ji,ax.wr,hd,cg,ax.bN,aD,bM,jC,es'];by_cases e:l'=l
     .rw[ak e,ak e,ak e]
     .rw[ah e,ah e]
    refine⟨λl' blk b' base' tot' e1 e2=>?_,λl1 l2 b' base' tot' base'' tot'' e1 e2 e3 e4=>?_,λb' hb'=>by show b'<w'.heap.size;rw[f4];exact hs.imm b' hb',λl' b' base' tot' e=>by show b'<w'.heap.size;rw[f4];exact hs.ee l' b' base' tot' e,ru hle hs.gd⟩
    .rw[haf]at e1;by_cases e:l'=l
     .subst e;simp only[jC,bh,aE]at e1;subst e1;have e2':x.β l'=some (b',base',tot'):=e2;rw[hβ]at e2';simp only[aE,dj]at e2';obtain⟨rfl,rfl,rfl⟩:=e2';exact⟨hnI,hblk⟩
     .simp only[jC,e,aX]at e1;obtain⟨a1,a2⟩:=hs.own l' blk b' base' tot' e1 e2;refine⟨a1,a2.mono hle (hother b' (λeb=>?_))⟩;subst eb;exact e (hs.inj l' l b' base' tot' base tot (by rw[e1];simp) (by rw[g1];simp) e2 hβ)
    .rw[haf]at e1 e2;refine hs.inj l1 l2 b' base' tot' base'' tot'' ?_ ?_ e3 e4
     .by_cases e:l1=l
      .rw[e,g1];simp
      .simpa[jC,e]using e1
     .by_cases e:l2=l
      .rw[e,g1];simp
      .simpa[jC,e]using e2
 .cases hc
end
end
section
variable [cL]
section
variable {x:X}{f:Nat->Option bj}{C:CC}{defs:List (Option Nat)}{J:Src->aY}{ev:Operand->Value}{Y:Ctx}{m:List (Nat×bj)}{L:Nat}
theorem Bk (f:Nat->Option bj)(m:List (Nat×bj))(L:Nat)(b:bj):∀l,ji f [L] (cT m L b) l=jC f L (some b) l:=by
 grind [ji,bM,jC]
theorem UZ {d:D}(hz:RD C.ν x z d)(hk:d.cells.length=k)(hk0:k≠0)(n i j:Nat)(hi:i<n)(hj:j<k):
  (((Array.range (n*k)).map (z.cells[· %z.cells.size]!)).getD (i*k+j) undef)=z.cells.getD j undef:=by
 obtain⟨c1,_⟩:=hz.cells ae;have hlt:=kO hi hj;have hm:(i*k+j)%k=j:=by rw[Nat.mul_comm,Nat.mul_add_mod];exact Nat.mod_eq_of_lt hj
 simp[Array.getD,hlt,c1,hk,hm,show j<k from hj]
def YA {o:Oper}{i:ax}{p:Operand}(hc:C.op defs o=some i)(ho:o.op=.range t p)(hρ:vt C defs J ev x o.op.operands.toList)(hob:i.eE Y J m)(hs:fF C.ν x f)(hL:x.β L=none):
  Bi C.ν x (ji f (i.wr J L) (i.bN Y J m L)) L (i.val Y J m L) ((execOp ev o).run C.P x.w):=by
 simp only[CC.op,ho]at hc;split at hc
 .rename_i s hu h1;simp only[aE]at hc;subst hc;obtain⟨k1,k2⟩:=hob;have hv:=hρ p dt s h1 k1;cases hd:(J s).d<;>simp only[hd]at k2;rename_i b;rw[hd]at hv;obtain⟨e1,e2⟩:=hv.j3;have e:(ax.rng s).bN Y J m L=cT m L (.iter b 0):=by simp[ax.bN,hd]
  rw[e];refine oJ (tot:=0) (blk:=.iter b 0) hs hL (iz.alloc x.w (.stringIter ⟨⟨b⟩⟩ 0)) aC ⟨dV x.w _,e2⟩ (.it L x.w.heap.size 0 0 nL) ?_ (Bk f m L _);simp[execOp,ho,e1,Instr.range,run_underlying hu]
 .cases hc
def aj1 {o:Oper}{i:ax}{s d:TypeId}{p:Operand}{a:Src}(hc:C.op defs o=some (.s2b a))(ho:o.op=.convert s d p)(hρ:vt C defs J ev x o.op.operands.toList)(hob:(ax.s2b a).eE Y J m)(hs:fF C.ν x f)(hL:x.β L=none):
  Bi C.ν x (ji f ((ax.s2b a).wr J L) ((ax.s2b a).bN Y J m L)) L ((ax.s2b a).val Y J m L) ((execOp ev o).run C.P x.w):=by
 simp only[CC.op,ho]at hc;split at hc
 .simp at hc
 .rename_i eT a' hu1 hu2 h1;split at hc
  .rename_i hue;simp only[aE,ax.s2b.injEq]at hc;subst hc;obtain⟨k1,k2⟩:=hob;have hv:=hρ p dt a' h1 k1;cases hd:(J a').d<;>simp only[hd]at k2;rename_i b;rw[hd]at hv;obtain⟨e1,e2⟩:=hv.j3;have e:(ax.s2b a').bN Y J m L=cT m L (.buf 1 (b.map λq=>.int .u8 q.toNat)):=by simp[ax.bN,hd]
   rw[e];have hsz:(⟨⟨b⟩⟩:ByteArray).size=b.length:=rfl
   let cap:=grownCap x.w b.length 0 eT
   have hcap:b.length<=cap:=grownCap_ge x.w b.length 0 eT;have hcm:cap<=maxLen:=grownCap_le_maxLen x.w b.length 0 eT e2
   let row:=bytesRow ⟨⟨b⟩⟩ cap
   have hrs:row.size=cap:=by simp[row,bytesRow,hsz];show b.length+(cap-b.length)=cap;omega
   have hrun:=run_bytes_of_string (P:=C.P) x.w s d eT ⟨⟨b⟩⟩ hu1 hu2 hue;have hgrow:iz x.w (x.w.drew.alloc (.cells row eT (row.size,row.size+1))):=(iz.drew x.w).trans (iz.alloc x.w.drew _);have hnew:(x.w.drew.alloc (.cells row eT (row.size,row.size+1))).heap[x.w.heap.size]? =some (.cells row eT (row.size,row.size+1)):=dV x.w.drew _;have hget:∀i,i<b.length->row.getD i undef=.int .u8 (b.getD i 0).toNat:=by
    intro i hi;have e3:(b.map λq=>Value.int .u8 q.toNat).getD i undef=.int .u8 (b.getD i 0).toNat:=by simp[List.getD,hi]
    rw[<-e3,<-bO];simp[row,bytesRow,List.getD,List.getElem?_append,hi]
   refine oJ (v:=.slice (some ⟨x.w.heap.size,0,none⟩) b.length cap) (tot:=cap) (blk:=bj.buf 1 (List.map (λq:UInt8=>D.int .u8 (q.toNat:Int)) b)) hs hL hgrow (by show _<(x.w.heap.push _).size;simp) ?_ ?_ ?_ (Bk f m L _)
   .refine wK (w':=x.w) (L:=L) _ hnew ae (by simpa using hcap) ae (λo' ho'=>fh) (λi hi=>?_);simp only[a8]at hi;have hg:(b.map λq=>D.int .u8 q.toNat).getD i .any=.int .u8 (b.getD i 0).toNat:=by simp[List.getD,hi]
    rw[hg];refine⟨rfl,λj hj=>?_⟩;have:j=0:=ae;subst this;rw[show i*1+0=i by omega,hget i hi];exact⟨rfl,.int _ _⟩
   .simp only[ax.val,hd];exact .own L 1 0 b.length x.w.heap.size 0 cap cap ⟨x.w.heap.size,0,none⟩ nL (λ_=>aC) hcap hcm ae
   .simp only[execOp,ho,e1,Sem.run_bind,hrun,Result.andThen_ok,Sem.run_pure];rfl
  .cases hc
 .split at hc
  .simp at hc
  .cases hc
 .cases hc
def ajW {o:Oper}{s d:TypeId}{p:Operand}{a:Src}(hc:C.op defs o=some (.b2s a))(ho:o.op=.convert s d p)(hρ:vt C defs J ev x o.op.operands.toList)(hob:(ax.b2s a).eE Y J m)(hs:fF C.ν x f)(hag:EO f m ((ax.b2s a).nq J)):
  Bi C.ν x (ji f ((ax.b2s a).wr J L) ((ax.b2s a).bN Y J m L)) L ((ax.b2s a).val Y J m L) ((execOp ev o).run C.P x.w):=by
 have haf:ji f ((ax.b2s a).wr J L) ((ax.b2s a).bN Y J m L)=f:=by funext l;simp[ji,ax.wr]
 rw[haf];simp only[CC.op,ho]at hc;split at hc
 .simp at hc
 .split at hc
  .simp at hc
  .cases hc
 .rename_i eT a' hu1 hu2 h1;split at hc
  .rename_i hue;simp only[aE,ax.b2s.injEq]at hc;subst hc;obtain⟨k1,k2,k3,k4⟩:=hob;have hv:=hρ p dt a' h1 k1;have hd1:C.P.underlying d=some .string:=hu2;have hconv:∀b l c,ev p=.slice b l c->(execOp ev o).run C.P x.w=((Conv.bytesToString (.slice b l c)).run C.P x.w).andThen λv w'=>.ok (.value v) w':=by
    intro b l c he;simp only[execOp,ho,he,Sem.run_bind,run_convert_bytes_string x.w s d eT b l c hu1 hue hu2,Sem.run_pure]
   have key:∀(aa:Addr) (len cap:Nat) (es:List D),es.length=len->(∀e∈es,e.T1)->len<=maxLen->(∀i,i<len->∃v,x.w.cell? ⟨aa.block,aa.off+i,none⟩=some v/\RD C.ν x v (es.getD i .any))->(0<len->aa.spot=none)->
     ev p=.slice (some aa) len cap->Bi C.ν x f L (.str (es.map D.u8)) ((execOp ev o).run C.P x.w):=by
    intro aa len cap es hlen hu8 hm hcell hspot he;have hv':∀i,i<len->∃n,es.getD i .any=.int .u8 n/\0<=n/\n<256:=by
     intro i hi;have hmem:=hu8 (es.getD i .any) Kq;cases hg:es.getD i .any<;>simp only[hg,D.T1]at hmem;obtain⟨rfl,h1,h2⟩:=hmem;exact⟨_,rfl,h1,h2⟩
    let ns:List Int:=es.map λe=>match e with| .int _ n=>n|_=>0
    have hload:(loadCells aa len).run C.P x.w=.ok (ns.map (Value.int .u8)).toArray x.w:=by
     have:=run_loadCells (P:=C.P) x.w aa len (λj=>.int .u8 (ns.getD j 0)) (λj hj=>by
      obtain⟨v,c1,c2⟩:=hcell j hj;obtain⟨n,g1,_,_⟩:=hv' j hj;have hn:ns.getD j 0=n:=by
       rw[xe _ _ _ ae]at g1;simp[ns,List.getD,show j<es.length by omega,g1]
      rw[hn];rw[g1]at c2;rw[<-c2.dq,<-c1];have hsp:=hspot ae;congr 1;obtain⟨ab,ao,aE5⟩:=aa;simp only at hsp;subst hsp;rw[Addr.AN])
     rw[this];congr 2;apply List.ext_getElem
     .simp[ns,hlen]
     .intro i h1 h2;simp at h1 h2;simp[List.getD,ns,show i<es.length by omega]
    refine nU hs (v:=.string ⟨⟨es.map D.u8⟩⟩) ?_ (.str _ fh);rw[hconv _ _ _ he,run_bytesToString x.w aa len cap ns hload];simp only[Result.andThen_ok];congr 3;have hfold:∀(l:List Int) (s0:ByteArray),l.foldl (λr n=>r.push (UInt8.ofNat n.toNat)) s0=⟨⟨s0.data.toList++l.map λn=>UInt8.ofNat n.toNat⟩⟩:=by
     intro l;induction l with
     |nil=>intro s0;simp
     |cons n r ih=>
      intro s0;rw[List.foldl_cons,ih];congr 2;simp[ByteArray.push]
    rw[hfold];have e0:(ByteArray.empty.data.toList:List UInt8)=[]:=rfl;rw[e0,rh];congr 2;simp only[ns,List.map_map];apply List.map_congr_left;intro e he';have:=hu8 e he';cases e<;>simp only[D.T1]at this;rfl
   cases hd:(J a').d<;>simp only[hd,Ca]at k2 k3 k4
   ·
    rw[hd]at hv;simp only[ax.val,hd,qn,List.map_nil];generalize hep:ev p=vp at hv;cases hv;refine nU hs (v:=.string ⟨⟨[]⟩⟩) ?_ (.str _ aC);rw[hconv _ _ _ hep];rfl
   .rename_i k es;rw[hd]at hv;simp only[ax.val,hd,qn];simp only[qn]at k4;subst k3;generalize hep:ev p=vp at hv;cases hv with
    |sl aa b off len cap _ _ c hlen ha hcap hm hk hn hcc hone hh=>
     by_cases he0:es=[]
     .subst he0;simp at hlen;subst hlen;refine nU hs (v:=.string ⟨⟨[]⟩⟩) ?_ (.str _ aC);rw[hconv _ _ _ hep];cases aa with
      |none=>rfl
      |some aa=>
       rw[run_bytesToString x.w aa 0 cap [] (by simp[loadCells,loadCellsFrom])];rfl
     .rcases ha with h|⟨rfl,hI⟩
      .exact absurd h he0
      .refine key _ len cap es hlen.symm k4 ae (λi hi=>⟨c i 0,by have:=hcc i 0 hi ae;simpa using this, ?_⟩) (λ_=>rfl) hep;have:=hh i 0 hi ae;have hk1:=hk i hi;cases hg:es.getD i .any<;>rw[hg]at this hk1<;>simp only[D.cells,ca,bD]at hk1 this<;>first|omega|exact this|skip
       rename_i cs;have hmem:=k4 (es.getD i .any) Kq;rw[hg]at hmem;simp[D.T1]at hmem
   .rename_i l k i n;rw[hd]at hv;simp only[ax.val,hd,qn];simp only[qn]at k4;obtain⟨k5,k6⟩:=k3;subst k5;generalize hep:ev p=vp at hv;cases hv with
    |own _ _ _ _ b base tot cap aa hβ ha hcap hm ht=>
     obtain⟨g1,g2,g3⟩:=vv hs (hag l (by simp[hd,cg])) k6;obtain⟨hnI,hk0,ht',c,T,fr,q1,q2,q3,q4⟩:=hs.own l _ b base tot g1 hβ;have hlen:(((aH m l).drop i).take n).length=n:=ie _ _ _ g2;refine key aa n cap _ hlen k4 ae (λj hj=>?_) (λh=>by rw[ha ae]) hep;have ha':=ha ae;subst ha';have hij:i+j<(aH m l).length:=ae;refine⟨c.getD (base+(i+j)*1+0) undef, ?_, ?_⟩
     .rw[show base+i*1+j=base+(i+j)*1+0 by omega];exact cell_of_heap q1 ae
     .rw[eg _ _ _ _ _ hj];have:=((q4 (i+j) hij).2 0 ae).2;have hk1:=(q4 (i+j) hij).1;cases hg:(aH m l).getD (i+j) .any<;>rw[hg]at this hk1<;>simp only[D.cells,ca,bD]at hk1 this<;>first|omega|exact this|skip
      rename_i cs;have hmem:=k4 ((((aH m l).drop i).take n).getD j .any) Kq;rw[eg _ _ _ _ _ hj,hg]at hmem;simp[D.T1]at hmem
    |own0 _ _ _ a0=>
     simp only[List.take_zero,List.map_nil];refine nU hs (v:=.string ⟨⟨[]⟩⟩) ?_ (.str _ aC);rw[hconv _ _ _ hep];cases a0<;>rfl
  .cases hc
 .cases hc
def adY {o:Oper}{i:ax}{p:Operand}(hc:C.op defs o=some i)(ho:o.op=.next p true)(hρ:vt C defs J ev x o.op.operands.toList)(hob:i.eE Y J m)(hs:fF C.ν x f)(hag:EO f m (i.nq J)):
  Bi C.ν x (ji f (i.wr J L) (i.bN Y J m L)) L (i.val Y J m L) ((execOp ev o).run C.P x.w):=by
 simp only[CC.op,ho,dd]at hc;obtain⟨s,h1,rfl⟩:=hc;obtain⟨k1,k2⟩:=hob;have hv:=hρ p dt s h1 k1;cases hd:(J s).d<;>simp only[hd]at k2;rename_i l;rw[hd]at hv;cases hl:look m l with
 |none=>simp[hl]at k2
 |some blk=>
  cases blk with
  |buf k es=>simp[hl]at k2
  |row s=>simp[hl]at k2
  |bld o n u=>simp[hl]at k2
  |mpb s=>simp[hl]at k2
  |iter b pos=>
   have hfl:f l=some (.iter b pos):=by rw[<-hl];exact hag l (by simp[hd,cg])
   generalize hep:ev p=vp at hv;cases hv with
   |it _ bb base tot hβ=>
    obtain⟨hnI,hb1,qD⟩:=hs.own l _ bb base tot hfl hβ;have hlt:=hs.ee l bb base tot hβ;by_cases hp:pos<b.length
    .have hsz:(⟨⟨b⟩⟩:ByteArray).size=b.length:=rfl
     let w':World:={x.w with heap:=x.w.heap.setIfInBounds bb (.stringIter ⟨⟨b⟩⟩ (pos+(yI b pos).2))}
     have hother:∀b',b'≠bb->w'.heap[b']? =x.w.heap[b']? :=λb' hb'=>by simp[w',Array.getElem?_setIfInBounds,show ¬bb=b' by omega]
     have hhere:w'.heap[bb]? =some (.stringIter ⟨⟨b⟩⟩ (pos+(yI b pos).2)):=by simp[w',hlt]
     have hsize:w'.heap.size=x.w.heap.size:=by simp[w']
     have hstep:Step x ⟨w',x.I,x.β⟩:=
      ⟨rfl,rfl,rfl,by show _<=w'.heap.size;omega,λ_ h=>h,λb' hb'=>hother b' (λe=>hnI (e▸hb')),λ_ _ h=>h,λb' _ hn=>hother b' (λe=>hn l _ hβ e.symm),λ_ h=>.inl h,λ_ _ h=>.inl h⟩
     have haf:∀l',ji f ((ax.aS s).wr J L) ((ax.aS s).bN Y J m L) l'=jC f l (some (.iter b (pos+(yI b pos).2))) l':=by
      intro l';simp only[ji,ax.wr,hd,cg,ax.bN,hl,hp,decide_true,cond_true,aD,bM,jC];by_cases e:l'=l
      .rw[ak e,ak e,ak e]
      .rw[ah e,ah e]
     refine⟨.tuple #[.bool true,.int .i64 pos,.int .i32 (yI b pos).1],⟨w',x.I,x.β⟩,.inl ?_,hstep, ?_, ?_,λ_ _=>rfl⟩
     .have hobj:(getObj bb).run C.P x.w=.ok (.stringIter ⟨⟨b⟩⟩ pos) x.w:=by simp[getObj,Sem.run,hb1]
      have hset:∀ob:Obj,(setObj bb ob).run C.P x.w=.ok () {x.w with heap:=x.w.heap.setIfInBounds bb ob}:=by intro ob;simp[setObj,Sem.run,hb1]
      simp[execOp,ho,hep,Instr.next,hobj,hsz,hp,hset,goInt,yI,w']
     .simp only[ax.val,hd,hl,hp,decide_true,cond_true];refine .tup _ _ aC (λi hi=>?_);simp at hi
      match i,hi with
      |0,_=>simpa using RD.bool true
      |1,_=>simpa using RD.int .i64 pos
      |2,_=>simpa using RD.int .i32 (yI b pos).1
     .refine⟨λl' blk b' base' tot' e1 e2=>?_,λl1 l2 b' base' tot' base'' tot'' e1 e2 e3 e4=>?_,λb' hb'=>by show b'<w'.heap.size;rw[hsize];exact hs.imm b' hb',λl' b' base' tot' e=>by show b'<w'.heap.size;rw[hsize];exact hs.ee l' b' base' tot' e,ru hstep.le hs.gd⟩
      .rw[haf]at e1;by_cases e:l'=l
       .subst e;simp only[jC,bh,aE]at e1;subst e1;have e2':x.β l'=some (b',base',tot'):=e2;rw[hβ]at e2';simp only[aE,dj]at e2';obtain⟨rfl,rfl,rfl⟩:=e2';exact⟨hnI,hhere,qD⟩
       .simp only[jC,e,aX]at e1;obtain⟨a1,a2⟩:=hs.own l' blk b' base' tot' e1 e2;refine⟨a1,a2.mono hstep.le (hother b' (λeb=>?_))⟩;subst eb;exact e (hs.inj l' l b' base' tot' base tot (by rw[e1];simp) (by rw[hfl];simp) e2 hβ)
      .rw[haf]at e1 e2;refine hs.inj l1 l2 b' base' tot' base'' tot'' ?_ ?_ e3 e4
       .by_cases e:l1=l
        .rw[e,hfl];simp
        .simpa[jC,e]using e1
       .by_cases e:l2=l
        .rw[e,hfl];simp
        .simpa[jC,e]using e2
    .have haf:ji f ((ax.aS s).wr J L) ((ax.aS s).bN Y J m L)=f:=by
      funext l';simp only[ji,ax.wr,hd,cg,ax.bN,hl,hp,decide_false,cond_false,aD];by_cases e:l'=l
      .rw[ak e,e,hl,hfl]
      .rw[ah e]
     rw[haf];refine nU hs (v:=.tuple #[.bool false]) ?_ ?_
     .have hsz:(⟨⟨b⟩⟩:ByteArray).size=b.length:=rfl;have hobj:(getObj bb).run C.P x.w=.ok (.stringIter ⟨⟨b⟩⟩ pos) x.w:=by simp[getObj,Sem.run,hb1]
      simp[execOp,ho,hep,Instr.next,hobj,hsz,hp]
     .simp only[ax.val,hd,hl,hp,decide_false,cond_false];refine .tup _ _ aC (λi hi=>?_);simp at hi;subst hi;simpa using RD.bool false
def zP {k n:Nat}{os':List Operand}(hρ:vt C defs J ev x os')(hk0:k≠0):∀(ps:List (Nat×Operand)) (ss:List (Nat×Src)),(∀p∈ps,p.2∈os')->C.y4 defs ps=some ss->qA J k n ss->
  ∀(cs:Array Value) (es:List D),cs.size=n*k->es.length=n->
   (∀i,i<n->(es.getD i .any).cells.length=k/\∀j,j<k->(cs.getD (i*k+j) undef).oneCell'=true/\RD C.ν x (cs.getD (i*k+j) undef) ((es.getD i .any).cells.getD j .any))->
  ∃cs',Instr.fill (λi=>some (i*k,k)) cs (ps.map fun(i,o)=>(i,ev o))=some cs'/\cs'.size=n*k/\(mh J es ss).length=n/\
   ∀i,i<n->((mh J es ss).getD i .any).cells.length=k/\∀j,j<k->(cs'.getD (i*k+j) undef).oneCell'=true/\RD C.ν x (cs'.getD (i*k+j) undef) (((mh J es ss).getD i .any).cells.getD j .any)
 |[],ss,_,h,_,cs,es,h1,h2,h3=>by simp[CC.y4]at h;subst h;exact⟨cs,by simp[Instr.fill],h1,by simpa[mh]using h2,by simpa[mh]using h3⟩
 |(i,o)::r,ss,hm,h,hk,cs,es,h1,h2,h3=>by
  simp only[CC.y4]at h;split at h
  .rename_i s l g1 g2;simp only[aE]at h;subst h;simp only[qA]at hk;obtain⟨k1,k2,k3,k4⟩:=hk;have hv:=hρ o (hm _ (.head _)) s g1 k2;obtain⟨c1,c2⟩:=hv.cells ae;have hsz:(ev o).cells.size=k:=ae;have hb:i*k+k<=n*k:=by rw[<-Nat.succ_mul];exact fP _ k1
   obtain⟨f1,f2⟩:=Cs (i*k) (ev o).cells.toList 0 cs fh
   let cs1:Array Value:=((ev o).cells.toList.zipIdx 0).foldl (λcs (c,j)=>cs.setIfInBounds (i*k+j) c) cs
   have hcs1:(ev o).cells.zipIdx.foldl (λcs (c,j)=>cs.setIfInBounds (i*k+j) c) cs=cs1:=by
    rw[<-Array.foldl_toList];simp[cs1]
   have hget:∀q,cs1.getD q undef=if i*k<=q/\q<i*k+k then(ev o).cells.getD (q-i*k) undef else cs.getD q undef:=by
    intro q;have:=f2 q;rw[<-bO,<-bO cs,<-bO (ev o).cells];simp only[List.getD,Array.getElem?_toList];rw[show cs1[q]? =_ from this];simp only[Array.length_toList,hsz,Nat.add_zero];split
    .simp
    .rfl
   have hel:∀i',i'<n->((es.set i (J s).d).getD i' .any)=if i'=i then(J s).d else es.getD i' .any:=by
    intro i' hi';by_cases e:i'=i
    .subst e;simp[List.getD,List.getElem?_set,show i'<es.length by omega]
    .simp[List.getD,List.getElem?_set,show ¬i=i' by omega,e]
   obtain⟨cs',r1,r2,r3,r4⟩:=zP hρ hk0 r l (λp hp=>hm p (.tail _ hp)) g2 k4 cs1 (es.set i (J s).d) (f1.trans h1) (by simpa using h2) (λi' hi'=>by
    rw[hel i' hi'];by_cases e:i'=i
    .subst e;rw[ak rfl];refine⟨k3,λj hj=>?_⟩;rw[hget,ak ae,show i'*k+j-i'*k=j by omega];exact c2 j ae
    .rw[ah e];refine⟨(h3 i' hi').1,λj hj=>?_⟩;have hne:¬(i*k<=i'*k+j/\i'*k+j<i*k+k):=by
      rcases dX i' i with hlt|hge
      .have:(i'+1)*k<=i*k:=fP _ hlt;rw[Nat.succ_mul]at this;omega
      .have:(i+1)*k<=i'*k:=fP _ ae;rw[Nat.succ_mul]at this;omega
     rw[hget,ah hne];exact(h3 i' hi').2 j hj)
   refine⟨cs', ?_,r2,by simpa[mh]using r3,by simpa[mh]using r4⟩;simp only[List.map_cons,Instr.fill];rw[ah (by simp[hsz];omega),hcs1];exact r1
  .cases h
theorem F8 {d:D}(hz:RD C.ν x z d)(hk:d.cells.length=k)(hk0:k≠0):
  ∀i,i<n->((List.replicate n d).getD i .any).cells.length=k/\∀j,j<k->(((Array.range (n*k)).map (z.cells[· %z.cells.size]!)).getD (i*k+j) undef).oneCell'=true/\RD C.ν x (((Array.range (n*k)).map (z.cells[· %z.cells.size]!)).getD (i*k+j) undef) (((List.replicate n d).getD i .any).cells.getD j .any):=by
 intro i hi;obtain⟨_,c2⟩:=hz.cells ae
 grind [UZ]
def ajX {o:Oper}{i:ax}{ps:Array (Nat×Operand)}(hc:C.op defs o=some i)(ho:o.op=.buildSlice t n ps)(hρ:vt C defs J ev x o.op.operands.toList)(hob:i.eE Y J m)(hs:fF C.ν x f)(hL:x.β L=none):
  Bi C.ν x (ji f (i.wr J L) (i.bN Y J m L)) L (i.val Y J m L) ((execOp ev o).run C.P x.w):=by
 simp only[CC.op,ho]at hc;split at hc
 .rename_i e hu;split at hc
  .rename_i z l hz h1;split at hc
   .cases hc
   rename_i hce;simp only[aE]at hc;subst hc;obtain⟨k1,k2⟩:=hob;obtain⟨ti,v,hi,hzv,hr⟩:=qf (x:=x) hz;have hce0:C.P.cellsOf e≠0:=λh=>hce (.inl h)
   have hsz:ti.size=C.P.cellsOf e:=by simp[Program.cellsOf,hi]
   have hsmall:¬n*ti.size>2^24:=λh=>hce (.inr (by rw[hsz]at h;simpa using h))
   obtain⟨cs',r1,r2,r3,r4⟩:=zP hρ hce0 ps.toList l (λp hp=>Km) h1 k2 ((Array.range (n*C.P.cellsOf e)).map (v.cells[· %v.cells.size]!)) (List.replicate n z) aC aC (F8 hr k1 hce0);have hgrow:=iz.alloc x.w (.cells cs' e);have hle:=Hp (tot:=n) hs hgrow hL;have he:(ax.bsl (C.P.cellsOf e) z n l).bN Y J m L=cT m L (bj.buf (C.P.cellsOf e) (mh J (List.replicate n z) l)):=rfl;rw[he];have hrun:(Instr.buildSlice t n (ps.map fun(i,x)=>(i,ev x))).run C.P x.w=.ok (.slice (some ⟨x.w.heap.size,0,none⟩) n n) (x.w.alloc (.cells cs' e)):=by
    by_cases hn:n=0
    .subst hn;have hcs0:cs'=#[]:=Array.eq_empty_of_size_eq_zero (by simpa using r2);have hps:ps.toList=[]:=by
      cases hp:ps.toList with
      |nil=>rfl
      |cons q r=>
       rw[hp]at h1;obtain⟨i0,o0⟩:=q;simp only[CC.y4]at h1;split at h1
       .rename_i s' l' _ _;simp only[aE]at h1;subst h1;simp[qA]at k2
       .cases h1
     have hps':ps=#[]:=by apply Array.ext';simpa using hps
     subst hps';simp[Instr.buildSlice,run_underlying hu,sizeOf,typeInfo,hi,Instr.fill,newRow,hcs0,show Array.range 0=#[]from rfl]
    .refine run_buildSlice x.w t e n _ cs' ti v hu hi hzv hsmall ?_ ?_
     .rw[hsz];intro h0;rcases Nat.mul_eq_zero.1 h0 with h|h
      .exact hn h
      .exact hce0 h
     .rw[hsz,Array.toList_map];exact r1
   refine oJ (v:=.slice (some ⟨x.w.heap.size,0,none⟩) n n) (tot:=n) (blk:=bj.buf (C.P.cellsOf e) (mh J (List.replicate n z) l)) hs hL hgrow aC ?_ ?_ ?_ (Bk f m L _)
   .exact wK (w':=x.w) (L:=L) _ (dV x.w _) ae ae ae (λo' _=>aC) (λi hi=>⟨(r4 i ae).1,λj hj=>⟨((r4 i ae).2 j hj).1,((r4 i ae).2 j hj).2.mono hle⟩⟩)
   .exact .own L (C.P.cellsOf e) 0 n x.w.heap.size 0 n n ⟨x.w.heap.size,0,none⟩ nL (λ_=>aC) (aN _) (by have:n*1<=n*C.P.cellsOf e:=Nat.mul_le_mul_left _ ae;have h3:¬n*C.P.cellsOf e>16777216:=λh=>hce (.inr h);simp only[maxLen];omega) ae
   .simp only[execOp,ho,Sem.run_bind,hrun,Result.andThen_ok,Sem.run_pure]
  .cases hc
 .cases hc
def aj0 {o:Oper}{i:ax}{p:Operand}(hc:C.op defs o=some i)(ho:o.op=.makeSlice t p q)(hρ:vt C defs J ev x o.op.operands.toList)(hob:i.eE Y J m)(hs:fF C.ν x f)(hL:x.β L=none):
  Bi C.ν x (ji f (i.wr J L) (i.bN Y J m L)) L (i.val Y J m L) ((execOp ev o).run C.P x.w):=by
 simp only[CC.op,ho]at hc;split at hc
 .rename_i e hu;split at hc
  .rename_i z ln cp hz h1 h2;split at hc
   .cases hc
   rename_i hce;simp only[aE]at hc;subst hc;obtain⟨k1,k2,k3,k4⟩:=hob;have hv:=hρ p dt ln h1 k1;have hw:=hρ q dt cp h2 k2;cases hd:(J ln).d<;>cases hd2:(J cp).d<;>simp only[hd,hd2]at k4;rename_i kk n kk' c;rw[hd]at hv;rw[hd2]at hw;obtain⟨ti,v,hi,hzv,hr⟩:=qf (x:=x) hz;have hce0:C.P.cellsOf e≠0:=λh=>hce (.inl h)
   have hsz:ti.size=C.P.cellsOf e:=by simp[Program.cellsOf,hi]
   have hby:ti.bytes<=65536:=by
    have:¬C.P.bytesOf e>65536:=λh=>hce (.inr h)
    simp[Program.bytesOf,hi]at this;omega
   have hbytes:(ti.bytes:Int)*c<=281474976710656:=by
    have h1:(ti.bytes:Int)*c<=65536*c:=Int.mul_le_mul_of_nonneg_right ae ae;have h2:(65536:Int)*c<=65536*1073741824:=Int.mul_le_mul_of_nonneg_left ae ae;omega
   have hrun:=run_make (P:=C.P) x.w t e ti v hu hi hzv kk kk' n c k4.1 k4.2.1 hbytes ae;rw[hsz]at hrun;have hgrow:=iz.alloc x.w (.cells (madeCells v.cells (c.toNat*C.P.cellsOf e)) e);have hle:=Hp (tot:=c.toNat) hs hgrow hL;have hrep:=F8 (n:=c.toNat) hr k3 hce0;have hms:(madeCells v.cells (c.toNat*C.P.cellsOf e)).size=c.toNat*C.P.cellsOf e:=size_madeCells _ _;have he:(ax.mks (C.P.cellsOf e) z ln cp).bN Y J m L=cT m L (.buf (C.P.cellsOf e) (List.replicate n.toNat z)):=by simp[ax.bN,hd,D.nat]
   rw[he];refine oJ (v:=.slice (some ⟨x.w.heap.size,0,none⟩) n.toNat c.toNat) (tot:=c.toNat) (blk:=.buf (C.P.cellsOf e) (List.replicate n.toNat z)) hs hL hgrow aC ?_ ?_ ?_ (Bk f m L _)
   .refine wK (w':=x.w) (L:=L) _ (dV x.w _) ae fh ae (λo' _=>aC) (λi hi=>?_);simp only[List.length_replicate]at hi;have:=hrep i ae;have e1:(List.replicate n.toNat z).getD i .any=(List.replicate c.toNat z).getD i .any:=by simp[List.getD,hi,show i<c.toNat by omega]
    rw[e1];refine⟨this.1,λj hj=>?_⟩;have h2:=this.2 j hj;have e2:(Array.range (c.toNat*C.P.cellsOf e)).map (v.cells[· %v.cells.size]!)=madeCells v.cells (c.toNat*C.P.cellsOf e):=rfl;rw[e2]at h2;exact⟨h2.1,h2.2.mono hle⟩
   .simp only[ax.val,hd,D.nat];exact .own L _ 0 n.toNat x.w.heap.size 0 c.toNat c.toNat ⟨x.w.heap.size,0,none⟩ nL (λ_=>aC) ae (by simp only[maxLen];omega) ae
   .simp only[execOp,ho,hv.dq,hw.dq,Sem.run_bind,hrun,Result.andThen_ok,Sem.run_pure]
  .cases hc
 .cases hc
end
end
section
variable [cL]
def XM {k:TypeId}(h:OL P k=true):∃e,WideMaps.ArrKey P k e 2/\P.underlying e=some .string/\∃m,P.types.size=m+1:=by
 unfold OL at h;split at h
 .rename_i e hk;split at h
  .rename_i he;simp only[aA,beq_iff_eq,cE,beq_eq_false_iff_ne]at h;exact⟨e,⟨hk,by unfold Program.plainKey;rw[he],h.1,h.2.1⟩,he,P.types.size-1,ae⟩
  .cases h
 .cases h
def T6 {k e:TypeId}(A:WideMaps.ArrKey P k e 2)(he:P.underlying e=some .string)(hsz:∃m,P.types.size=m+1){a b:List UInt8}(wa:a.length<=maxLen)(wb:b.length<=maxLen):
  keyOf P k (.agg #[.string ⟨⟨a⟩⟩,.string ⟨⟨b⟩⟩])=some (.string (keyBytes [.string a,.string b])):=by
 have hkt:=A.keyType hsz;obtain⟨m,hm⟩:=hsz;unfold keyOf;simp only[A.hu];rw[ak (by simp[hkt,Value.formed,A.hu,A.size]),hm];unfold Program.keyLits;simp only[A.hu,Value.cells];rw[ak (by rw[A.size];rfl),show List.range 2=[0,1]from rfl,List.mapM_cons,List.mapM_cons,List.mapM_nil];simp[A.one,Program.keyLits,he,ByteArray.size,wa,wb]
def RD.key {x:X}{v:Value}{d:D}(h:RD ν x v d)(hk:vJ d=true):∃a b,d=.agg [.str a,.str b]/\v=.agg #[.string ⟨⟨a⟩⟩,.string ⟨⟨b⟩⟩]/\a.length<=maxLen/\b.length<=maxLen:=by
 unfold vJ at hk;split at hk
 .rename_i a b;refine⟨a,b,rfl, ?_⟩;cases h with
  |agg cs ds hl h1 h=>
   have e0:=h 0 aC;have e1:=h 1 aC;simp only[iW,List.getD_cons_succ]at e0 e1;have hl2:cs.size=2:=hl;generalize hq:cs.getD 0 undef=q at e0;generalize hq2:cs.getD 1 undef=q2 at e1;cases e0 with
   |str _ ha=>
    cases e1 with
    |str _ hb=>
     refine⟨?_,ha,hb⟩;congr 1;apply Array.ext
     .simpa using hl2
     .intro i hi1 hi2;have hi:i=0\/i=1:=ae;rcases hi with rfl|rfl
      .simp[Array.getD,hi1]at hq;simpa using hq
      .simp[Array.getD,hi1]at hq2;simpa using hq2
 .cases hk
def oe (e:MapEntry)(es:List MapEntry)(j:Nat):Uf (e::es) (j+2)=Uf es j:=by
 unfold Uf;rw[show(j+2) /2=j/2+1 by omega,List.getElem?_cons_succ,show(j+2)%2=j%2 by omega]
def Hk {x:X}{v w:Value}{d e:D}(h1:RD ν x v d)(h2:RD ν x w e)(k1:vJ d=true)(k2:vJ e=true):pR d e=true↔v=w:=by
 obtain⟨a,b,rfl,rfl,_,_⟩:=h1.key k1;obtain⟨a',b',rfl,rfl,_,_⟩:=h2.key k2;simp only[pR,aA,beq_iff_eq];constructor
 .rintro⟨rfl,rfl⟩;rfl
 .intro h;injection h with h
  have h3:=aw Array.toList h;simp only[sV,Value.string.injEq,dw]at h3;obtain⟨p,q⟩:=h3;injection p with p;injection p with p
  injection q with q;injection q with q
  exact⟨p,q⟩
section
variable {x:X}{key:Value}{k:D}
def RN (hk:RD ν x key k)(hb:vJ k=true):∀(es:List MapEntry) (kvs:List D),xr kvs=true->2*es.length=kvs.length->(∀j,j<kvs.length->RD ν x (Uf es j) (kvs.getD j .any))->
  ((∀e∈es,e.key≠key)->NW k kvs=none)/\∀e∈es,e.key=key->(es.map (·.key)).Nodup->∃v,NW k kvs=some v/\RD ν x e.val v
 |[],[],_,_,_=>⟨λ_=>rfl,λe he=>by cases he⟩
 |e::es,a::v::r,ho,hl,h=>by
  simp only[xr,aA]at ho;have h0:RD ν x e.key a:=h 0 aC;have h1:RD ν x e.val v:=h 1 aC;obtain⟨i1,i2⟩:=RN hk hb es r ho.2 (by simp only[bD]at hl;omega) λj hj=>by
   have:=h (j+2) uv;rw[oe]at this;simpa using this
  have he:=Hk h0 hk ho.1 hb;constructor
  .intro hn;have:pR a k=false:=by
    cases q:pR a k with
    |false=>rfl
    |true=>exact absurd (he.1 q) (hn e (.head _))
   simp only[NW,this,cond_false];exact i1 λe' h'=>hn e' (.tail _ h')
  .intro e' h' hkey hnd;simp only[List.map_cons,List.nodup_cons]at hnd;rcases bG.1 h' with rfl|h'
   .simp only[NW,he.2 hkey,cond_true];exact⟨v,rfl,h1⟩
   .have:pR a k=false:=by
     cases q:pR a k with
     |false=>rfl
     |true=>exact absurd (bY.2 ⟨e',h',hkey.trans (he.1 q).symm⟩) hnd.1
    simp only[NW,this,cond_false];exact i2 e' h' hkey hnd.2
 |_::_,[],_,hl,_=>by simp at hl
 |[],_::_,_,hl,_=>by simp at hl
 |_::es,[_],ho,hl,_=>by simp at hl;omega
def RO (hk:RD ν x key k)(hb:vJ k=true){val:Value}{d:D}(cl:Nat)(hv:RD ν x val d):∀(es:List MapEntry) (kvs:List D),xr kvs=true->2*es.length=kvs.length->(∀j,j<kvs.length->RD ν x (Uf es j) (kvs.getD j .any))->(∀e∈es,e.key≠key)->
  z8 k d kvs=kvs++[k,d]/\∀j,j<(kvs++[k,d]).length->RD ν x (Uf (es++[⟨key,val,cl⟩]) j) ((kvs++[k,d]).getD j .any)
 |[],[],_,_,_,_=>⟨rfl,λj hj=>by
   have:j=0\/j=1:=by simp at hj;omega
   rcases this with rfl|rfl
   .exact hk
   .exact hv⟩
 |e::es,a::v::r,ho,hl,h,hn=>by
  simp only[xr,aA]at ho;have h0:RD ν x e.key a:=h 0 aC;have h1:RD ν x e.val v:=h 1 aC;obtain⟨i1,i2⟩:=RO hk hb cl hv es r ho.2 (by simp only[bD]at hl;omega) (λj hj=>by
   have:=h (j+2) uv;rw[oe]at this;simpa using this) λe' h'=>hn e' (.tail _ h')
  have he:=Hk h0 hk ho.1 hb;have:pR a k=false:=by
   cases q:pR a k with
   |false=>rfl
   |true=>exact absurd (he.1 q) (hn e (.head _))
  refine⟨by simp only[z8,this,cond_false,i1];rfl,λj hj=>?_⟩
  match j,hj with
  |0,_=>exact h0
  |1,_=>exact h1
  |j+2,hj=>
   have:=i2 j (by simp only[cu,bD,ca]at hj⊢;omega);rw[<-oe e]at this;simpa using this
 |_::_,[],_,hl,_,_=>by simp at hl
 |[],_::_,_,hl,_,_=>by simp at hl
 |_::es,[_],ho,hl,_,_=>by simp at hl;omega
def Ya (hk:RD ν x key k)(hb:vJ k=true){val:Value}{d:D}(hv:RD ν x val d):∀(es:List MapEntry) (kvs:List D) (i:Nat) (e:MapEntry),xr kvs=true->2*es.length=kvs.length->(∀j,j<kvs.length->RD ν x (Uf es j) (kvs.getD j .any))->(es.map (·.key)).Nodup->es[i]? =some e->e.key=key->
  (z8 k d kvs).length=kvs.length/\∀j,j<kvs.length->RD ν x (Uf (es.modify i λe=>{e with key:=key,val:=val}) j) ((z8 k d kvs).getD j .any)
 |[],_,i,e,_,_,_,_,hi,_=>by simp at hi
 |e0::es,a::v::r,0,e,ho,hl,h,hnd,hi,hkey=>by
  simp only[xr,aA]at ho;obtain rfl:e0=e:=by simpa using hi
  have h0:RD ν x e0.key a:=h 0 aC;have he:=(Hk h0 hk ho.1 hb).2 hkey;refine⟨by simp only[z8,he,cond_true];rfl,λj hj=>?_⟩;simp only[z8,he,cond_true]
  match j,hj with
  |0,_=>rw[hkey]at h0;exact h0
  |1,_=>exact hv
  |j+2,hj=>
   have:=h (j+2) hj;rw[oe]at this;simp only[List.modify_zero_cons];rw[oe];simpa using this
 |e0::es,a::v::r,i+1,e,ho,hl,h,hnd,hi,hkey=>by
  simp only[xr,aA]at ho;simp only[List.map_cons,List.nodup_cons]at hnd;have hi':es[i]? =some e:=by simpa using hi
  have h0:RD ν x e0.key a:=h 0 aC;have h1:RD ν x e0.val v:=h 1 aC;obtain⟨i1,i2⟩:=Ya hk hb hv es r i e ho.2 (by simp only[bD]at hl;omega) (λj hj=>by
   have:=h (j+2) uv;rw[oe]at this;simpa using this) hnd.2 hi' hkey
  have:pR a k=false:=by
   cases q:pR a k with
   |false=>rfl
   |true=>exact absurd (bY.2 ⟨e,List.mem_of_getElem? hi',hkey.trans ((Hk h0 hk ho.1 hb).1 q).symm⟩) hnd.1
  refine⟨by simp only[z8,this,cond_false,bD,i1],λj hj=>?_⟩;simp only[z8,this,cond_false,List.modify_succ_cons]
  match j,hj with
  |0,_=>exact h0
  |1,_=>exact h1
  |j+2,hj=>
   have:=i2 j (by simp only[bD]at hj;omega);rw[<-oe e0]at this;simpa using this
 |_::_,[],_,_,_,hl,_,_,_,_=>by simp at hl
 |_::es,[_],_,_,ho,hl,_,_,_,_=>by simp at hl;omega
end
section
variable {x:X}{f:Nat->Option bj}{C:CC}{defs:List (Option Nat)}{J:Src->aY}{ev:Operand->Value}{Y:Ctx}{m:List (Nat×bj)}{L:Nat}
def tq {d:D}(h:mpO m d):∃l kvs,d=.fn 5000000 [.it l]/\look m l=some (.mpb kvs)/\xr kvs=true:=by
 unfold mpO at h;split at h
 .rename_i n l;obtain⟨rfl,h⟩:=h;split at h
  .rename_i kvs hl;exact⟨l,kvs,rfl,hl,h⟩
  .exact h.elim
 .exact h.elim
def RD.Hv (hsm:∀fid n,dN ν fid=some n->n<1000000){v:Value}(h:RD ν x v (.fn 5000000 [.it l])):∃b base tot,v=.map (some b)/\x.β l=some (b,base,tot):=by
 generalize hd:D.fn 5000000 [.it l]=d at h;cases h<;>simp only[reduceCtorEq,D.fn.injEq]at hd
 case fn fid n cs ds hν hl h=>have:=hsm _ _ hν;omega
 case ee fid n cs ds hν hl h=>have:=hsm _ _ hν;omega
 case im l' b base tot hβ=>
  obtain⟨_,hd⟩:=hd;simp only[sV,D.it.injEq,dw]at hd;subst hd;exact⟨b,base,tot,rfl,hβ⟩
 all_goals (first|omega|(obtain⟨h1,_⟩:=hd;omega))
def ajZ {o:Oper}{i:ax}{r:Option Operand}(hc:C.op defs o=some i)(ho:o.op=.makeMap t r)(hρ:vt C defs J ev x o.op.operands.toList)(hob:i.eE Y J m)(hs:fF C.ν x f)(hL:x.β L=none):
  Bi C.ν x (ji f (i.wr J L) (i.bN Y J m L)) L (i.val Y J m L) ((execOp ev o).run C.P x.w):=by
 cases r with
 |some r=>simp[CC.op,ho]at hc
 |none=>
  simp only[CC.op,ho]at hc;split at hc
  .split at hc
   .simp only[aE]at hc;subst hc;refine oJ (tot:=1) (blk:=.mpb []) hs hL (iz.alloc x.w (.map #[] 0)) aC ⟨rfl,#[],0,dV x.w _,rfl,aC,λi hi=>by simp at hi⟩ (.im L x.w.heap.size 0 1 nL) ?_ (λl=>?_)
    .simp[execOp,ho,Instr.makeMap]
    .by_cases e:l=L
     .subst e;simp[ji,ax.wr,ax.bN,bM,jC]
     .simp[ji,ax.wr,e,jC]
   .cases hc
  .cases hc
def Hw {kvs:List D}(h:look m l=some (.mpb kvs)):Ue m (.fn 5000000 [.it l])=kvs:=by simp only[Ue,h]
def OQ {k:TypeId}(h:OL P k=true):WideMaps.KeyLaw P k/\∀{ν:List (Nat×Nat)}{x:X}{v:Value}{d:D},RD ν x v d->vJ d=true->∃l,keyOf P k v=some l:=by
 obtain⟨e,A,he,hsz⟩:=XM h;refine⟨A.law,λhv hk=>?_⟩;obtain⟨a,b,_,rfl,ha,hb⟩:=hv.key hk;exact⟨_,T6 A he hsz ha hb⟩
def X9:∀(kvs:List D) (j:Nat),xr kvs=true->2*j<kvs.length->vJ (kvs.getD (2*j) .any)=true
 |[],j,_,h=>by simp at h
 |[_],j,h,_=>by simp[xr]at h
 |a::v::r,0,h,_=>by simp only[xr,aA]at h;exact h.1
 |a::v::r,j+1,h,hl=>by
  simp only[xr,aA]at h;have:=X9 r j h.2 (by simp only[bD]at hl;omega);rw[show 2*(j+1)=2*j+2 by omega];simpa using this
def Rz {x:X}{k:TypeId}(h:OL P k=true){es:List MapEntry}{kvs:List D}(ho:xr kvs=true)(hl:2*es.length=kvs.length)(hd:∀j,j<kvs.length->RD ν x (Uf es j) (kvs.getD j .any)):∀e∈es,∃l,keyOf P k e.key=some l:=by
 intro e he;obtain⟨j,hj,rfl⟩:=List.mem_iff_getElem.1 he;have h1:=hd (2*j) ae;have h2:Uf es (2*j)=es[j].key:=by
  unfold Uf;rw[show 2*j/2=j by omega,List.getElem?_eq_getElem hj];simp
 rw[h2]at h1;exact(OQ h).2 h1 (X9 kvs j ho ae)
def ajY {o:Oper}{i:ax}{p:Operand}(hsm:∀fid n,dN C.ν fid=some n->n<1000000)(hc:C.op defs o=some i)(ho:o.op=.lookup t p q true)(hρ:vt C defs J ev x o.op.operands.toList)(hob:i.eE Y J m)(hs:fF C.ν x f)(hag:EO f m (i.nq J)):
  Bi C.ν x (ji f (i.wr J L) (i.bN Y J m L)) L (i.val Y J m L) ((execOp ev o).run C.P x.w):=by
 simp only[CC.op,ho]at hc;split at hc
 .rename_i a b kt et h1 h2 hu;split at hc
  .rename_i z hz;split at hc
   .rename_i hk;simp only[aE]at hc;subst hc;obtain⟨k1,k2,k3,k4⟩:=hob;obtain⟨l,kvs,hd,hl,hK⟩:=tq k3;have hfl:f l=some (.mpb kvs):=by rw[<-hl];exact hag l (by simp[hd,CX])
    have hv:=hρ p rl a h1 k1;rw[hd]at hv;obtain⟨bb,base,tot,hv1,hβ⟩:=hv.Hv hsm;have hkv:=hρ q rl b h2 k2;obtain⟨hnI,hnl,es,cl,hb1,qD,hb3,hb4⟩:=hs.own l _ bb base tot hfl hβ;obtain⟨law,hko⟩:=OQ hk;obtain⟨kl,hkl⟩:=hko hkv k4;have hall:=Rz hk hK (by simpa using qD) hb4;have hck:=law.check x.w es.isEmpty hkl;obtain⟨ti,zv,hi,hzv,hr⟩:=qf (x:=x) hz;have haf:ji f ((ax.lkM z a b).wr J L) ((ax.lkM z a b).bN Y J m L)=f:=by funext l';simp[ji,ax.wr]
    have htup:∀{a b:Value} {da db:D},RD C.ν x a da->RD C.ν x b db->RD C.ν x (.tuple #[a,b]) (.tup [da,db]):=λha hb=>.tup _ _ rfl λi hi=>by
     match i,hi with
     |0,_=>exact ha
     |1,_=>exact hb
    obtain⟨f1,f2⟩:=RN hkv k4 es.toList kvs hK (by simpa using qD) hb4;have hobj:=MapKept.run_getObj_map (P:=C.P) hb1;rw[haf];rcases law.find x.w hkl es.toList hall with⟨r1,r2⟩|⟨j,e,r1,r2,r3⟩
    .simp only[ax.val,hd,Hw hl,f1 r2];refine nU hs (v:=.tuple #[zv,.bool false]) ?_ (htup hr (.bool _));simp[execOp,ho,hv1,Instr.lookup,run_underlying hu,hobj,hck,r1,zeroValue,run_typeInfo x.w hi,hzv,Result.andThen]
    .obtain⟨v,f3,f4⟩:=f2 e (List.mem_of_getElem? r2) r3 hb3;simp only[ax.val,hd,Hw hl,f3];refine nU hs (v:=.tuple #[e.val,.bool true]) ?_ (htup f4 (.bool _));simp[execOp,ho,hv1,Instr.lookup,run_underlying hu,hobj,hck,r1,Result.andThen]
   .cases hc
  .cases hc
 .cases hc
def afH {k d:D}(hk:k.aR=true)(hd:d.aR=true):∀(kvs:List D),aK kvs=true->aK (z8 k d kvs)=true
 |[],_=>by simp[z8,aK,hk,hd]
 |[_],_=>by simp[z8,aK,hk,hd]
 |a::v::r,h=>by
  simp only[aK,aA]at h;simp only[z8];cases pR a k
  .simp only[cond_false,aK,aA];exact⟨h.1,h.2.1,afH hk hd r h.2.2⟩
  .simp only[cond_true,aK,aA];exact⟨h.1,hd,h.2.2⟩
def aj2 {o:Oper}{i:ax}{p r:Operand}(hsm:∀fid n,dN C.ν fid=some n->n<1000000)(hc:C.op defs o=some i)(ho:o.op=.mapUpdate t p q r)(hρ:vt C defs J ev x o.op.operands.toList)(hob:i.eE Y J m)(hs:fF C.ν x f)(hag:EO f m (i.nq J)):
  Bi C.ν x (ji f (i.wr J L) (i.bN Y J m L)) L (i.val Y J m L) ((execOp ev o).run C.P x.w):=by
 simp only[CC.op,ho]at hc;split at hc
 .rename_i a b c h1 h2 h3;split at hc
  .rename_i kt et hu;split at hc
   .rename_i hk;simp only[aE]at hc;subst hc;obtain⟨k1,k2,k2',k3,k4,vk,vn,hvd⟩:=hob;obtain⟨l,kvs,hd,hl,hK⟩:=tq k3;have hfl:f l=some (.mpb kvs):=by rw[<-hl];exact hag l (by simp[hd,CX])
    have hv:=hρ p rl a h1 k1;rw[hd]at hv;obtain⟨bb,base,tot,hv1,hβ⟩:=hv.Hv hsm;have hkv:=hρ q rl b h2 k2;have hvv:=hρ r rl c h3 k2';obtain⟨hnI,hnl,es,cl,hb1,qD,hb3,hb4⟩:=hs.own l _ bb base tot hfl hβ;have hlt:=hs.ee l bb base tot hβ;obtain⟨law,hko⟩:=OQ hk;obtain⟨kl,hkl⟩:=hko hkv k4;have hall:=Rz hk hK (by simpa using qD) hb4;have hck:=law.check x.w false hkl;have hobj:=MapKept.run_getObj_map (P:=C.P) hb1;have hset:∀ob,(setObj bb ob).run C.P x.w=.ok () {x.w with heap:=x.w.heap.setIfInBounds bb ob}:=λob=>MapKept.run_setObj_map ob hb1
    have hknl:(J b).d.aR=true:=by obtain⟨s1,s2,e1,_⟩:=hkv.key k4;rw[e1];rfl
    have hvnl:(J c).d.aR=true:=by rw[hvd];rfl

    obtain⟨es',cl',hrun,hlen',hnd',hrd'⟩:∃es' cl',(execOp ev o).run C.P x.w=.ok .skip {x.w with heap:=x.w.heap.setIfInBounds bb (.map es' cl')}/\2*es'.size=(z8 (J b).d (J c).d kvs).length/\(es'.toList.map (·.key)).Nodup/\∀j,j<(z8 (J b).d (J c).d kvs).length->RD C.ν x (Uf es'.toList j) ((z8 (J b).d (J c).d kvs).getD j .any):=by
     rcases law.find x.w hkl es.toList hall with⟨r1,r2⟩|⟨j,e,r1,r2,r3⟩
     .obtain⟨p1,p2⟩:=RO hkv k4 cl hvv es.toList kvs hK (by simpa using qD) hb4 r2;refine⟨es.push ⟨ev q,ev r,cl⟩,cl+1, ?_,by rw[p1];simp;omega, ?_,by rw[p1];simpa using p2⟩
      .simp[execOp,ho,hv1,Instr.mapUpdate,run_underlying hu,hobj,hck,r1,hset,Result.andThen]
      .simp only[Array.toList_push,List.map_append,List.map_cons,List.map_nil];rw[List.nodup_append];refine⟨hb3,aC,λy hy z hz=>?_⟩;obtain⟨e,he,rfl⟩:=bY.1 hy;simp only[aD]at hz;subst hz;exact r2 e he
     .obtain⟨p1,p2⟩:=Ya hkv k4 hvv es.toList kvs j e hK (by simpa using qD) hb4 hb3 r2 r3;have hst:(Instr.keyThatStays (((es[j]?).map (·.key)).getD (ev q)) (ev q)).run C.P x.w=.ok (ev q) x.w:=by
       have:es[j]? =some e:=by simpa using r2
       rw[this];simp only[Option.map_some,Option.getD_some,r3];exact law.stays x.w hkl
      refine⟨es.modify j λe=>{e with key:=ev q,val:=ev r},cl, ?_,by rw[p1];simp;omega, ?_,by rw[p1];simpa using p2⟩
      .simp[execOp,ho,hv1,Instr.mapUpdate,run_underlying hu,hobj,hck,r1,hset,hst,Result.andThen]
      .have:=MapKept.modify_keys (es:=es) j (λe=>{e with key:=ev q,val:=ev r}) (λe' he'=>by
        have h4:es[j]? =some e:=by simpa using r2
        rw[h4]at he';obtain rfl:=aW he';exact r3.symm)
       rw[this];exact hb3
    let w':World:={x.w with heap:=x.w.heap.setIfInBounds bb (.map es' cl')}
    have hother:∀b',b'≠bb->w'.heap[b']? =x.w.heap[b']? :=λb' hb'=>by simp[w',Array.getElem?_setIfInBounds,show ¬bb=b' by omega]
    have hhere:w'.heap[bb]? =some (.map es' cl'):=by simp[w',hlt]
    have hsize:w'.heap.size=x.w.heap.size:=by simp[w']
    have hstep:Step x ⟨w',x.I,x.β⟩:=
     ⟨rfl,rfl,rfl,by show _<=w'.heap.size;omega,λ_ h=>h,λb' hb'=>hother b' (λe=>hnI (e▸hb')),λ_ _ h=>h,λb' _ hn=>hother b' (λe=>hn l _ hβ e.symm),λ_ h=>.inl h,λ_ _ h=>.inl h⟩
    have haf:∀l',ji f ((ax.upM a b c).wr J L) ((ax.upM a b c).bN Y J m L) l'=jC f l (some (.mpb (z8 (J b).d (J c).d kvs))) l':=by
     intro l';simp only[ji,ax.wr,hd,CX,ax.bN,Hw hl,aD,bM,jC];by_cases e:l'=l
     .rw[ak e,ak e,ak e]
     .rw[ah e,ah e]
    refine⟨undef,⟨w',x.I,x.β⟩,.inr ⟨hrun,rfl⟩,hstep,.any _, ?_,λ_ _=>rfl⟩;refine⟨λl' blk b' base' tot' e1 e2=>?_,λl1 l2 b' base' tot' base'' tot'' e1 e2 e3 e4=>?_,λb' hb'=>by show b'<w'.heap.size;rw[hsize];exact hs.imm b' hb',λl' b' base' tot' e=>by show b'<w'.heap.size;rw[hsize];exact hs.ee l' b' base' tot' e,ru hstep.le hs.gd⟩
    .rw[haf]at e1;by_cases e:l'=l
     .subst e;simp only[jC,bh,aE]at e1;subst e1;have e2':x.β l'=some (b',base',tot'):=e2;rw[hβ]at e2';simp only[aE,dj]at e2';obtain⟨rfl,rfl,rfl⟩:=e2';exact⟨hnI,afH hknl hvnl kvs hnl,es',cl',hhere,hlen',hnd',λj hj=>(hrd' j hj).mono hstep.le⟩
     .simp only[jC,e,aX]at e1;obtain⟨a1,a2⟩:=hs.own l' blk b' base' tot' e1 e2;refine⟨a1,a2.mono hstep.le (hother b' (λeb=>?_))⟩;subst eb;exact e (hs.inj l' l b' base' tot' base tot (by rw[e1];simp) (by rw[hfl];simp) e2 hβ)
    .rw[haf]at e1 e2;refine hs.inj l1 l2 b' base' tot' base'' tot'' ?_ ?_ e3 e4
     .by_cases e:l1=l
      .rw[e,hfl];simp
      .simpa[jC,e]using e1
     .by_cases e:l2=l
      .rw[e,hfl];simp
      .simpa[jC,e]using e2
   .cases hc
  .cases hc
 .cases hc
end
end
section
variable [cL]
section
variable {x:X}{f:Nat->Option bj}{C:CC}{defs:List (Option Nat)}{J:Src->aY}{ev:Operand->Value}{Y:Ctx}{m:List (Nat×bj)}{L:Nat}
def flat_get (n k:Nat)(g:Nat->Nat->Value)(i j:Nat)(hi:i<n)(hj:j<k):((List.range (n*k)).map λq=>g (q/k) (q%k)).getD (i*k+j) undef=g i j:=by
 have hlt:=kO hi hj;have h1:(i*k+j) /k=i:=by rw[Nat.mul_comm,Nat.mul_add_div ae,Nat.div_eq_of_lt hj];omega
 have h2:(i*k+j)%k=j:=by rw[Nat.mul_comm,Nat.mul_add_mod];exact Nat.mod_eq_of_lt hj
 simp[List.getD,hlt,h1,h2]
def ak6 {u:TypeId}(hk0:k≠0)(hkind:(∃e',C.P.underlying u=some (.slice e'))\/C.P.underlying u=some .string){v:Value}{d:D}(hv:RD C.ν x v d)(hd:Ca m k d)(hs:fF C.ν x f)(hag:∀l,l∈cg d->f l=look m l):
  ∃news,Go.Src C.P k u v (qn m d).length news x.w/\∀i,i<(qn m d).length->((qn m d).getD i .any).cells.length=k/\∀j,j<k->
   RD C.ν x (news.getD (i*k+j) undef) (((qn m d).getD i .any).cells.getD j .any):=by
 have nothing:∀(a:Option Addr) (c:Nat),Go.Src C.P k u (.slice a 0 c) 0 [] x.w:=by
  intro a c;have hf:∀w':World,(Builtin.firstCells k 0 (.slice a 0 c)).run C.P w'=.ok #[] w':=by
   intro w';cases a<;>simp[Builtin.firstCells,loadCells,loadCellsFrom]
  exact⟨hkind,λ_=>rfl,hf _,hf _,aC,λ_ h=>bZ⟩
 have some_:∀(b off n cap:Nat) (g:Nat->Nat->Value),(∀i j,i<n->j<k->x.w.cell? ⟨b,off+i*k+j,none⟩=some (g i j)/\(g i j).oneCell'=true)->
   Go.Src C.P k u (.slice (some ⟨b,off,none⟩) n cap) n ((List.range (n*k)).map λq=>g (q/k) (q%k)) x.w:=by
  intro b off n cap g hg;have hqd:∀q,q<n*k->q/k<n/\q%k<k/\q/k*k+q%k=q:=λq hq=>
   ⟨Nat.div_lt_of_lt_mul (by rw[Nat.mul_comm];exact hq),Nat.mod_lt _ ae,by rw[Nat.mul_comm];exact Nat.div_add_mod q k⟩
  have hcell:∀j u',((List.range (n*k)).map λq=>g (q/k) (q%k))[j]? =some u'->x.w.cell? ((⟨b,off,none⟩:Addr).add j)=some u':=by
   intro j u' hj;obtain⟨hj2,rfl⟩:=List.getElem?_eq_some_iff.1 hj;simp at hj2;obtain⟨h1,h2,h3⟩:=hqd j hj2;rw[Addr.AN];simp only[List.getElem_map,List.getElem_range];rw[<-(hg _ _ h1 h2).1];congr 2;omega
  refine⟨hkind,λ_=>rfl,run_firstCells_some x.w k n _ n cap _ aC hcell,run_firstCells_some x.w.drew k n _ n cap _ aC (by simpa using hcell),aC,λu' hu'=>?_⟩;obtain⟨q,hq,rfl⟩:=bY.1 hu';obtain⟨h1,h2,_⟩:=hqd q (by simpa using hq);exact(hg _ _ h1 h2).2
 cases d<;>simp only[Ca]at hd
 ·
  rename_i s;obtain⟨rfl,h2⟩:=hv.j3;subst hd;have hsz:(⟨⟨s⟩⟩:ByteArray).size=s.length:=rfl;refine⟨byteCells ⟨⟨s⟩⟩, ?_,λi hi=>?_⟩
  .have:(qn m (.str s)).length=(⟨⟨s⟩⟩:ByteArray).size:=by simp[qn,hsz]
   rw[this];exact⟨hkind,λ_=>rfl,firstCells_string _ _,firstCells_string _ _,by rw[byteCells_length,Nat.mul_one],λu' hu'=>by
    obtain⟨_,_,rfl⟩:=bY.1 hu';rfl⟩
  .have hi':i<s.length:=by simpa[qn]using hi
   have e:(qn m (.str s)).getD i .any=.int .u8 (s.getD i 0).toNat:=by simp[qn,List.getD,hi']
   rw[e];refine⟨rfl,λj hj=>?_⟩;obtain rfl:j=0:=ae;have e2:(byteCells ⟨⟨s⟩⟩).getD (i*1+0) undef=.int .u8 (s.getD i 0).toNat:=by simp[byteCells,List.getD,hi']
   rw[e2];exact .int _ _
 .cases hv;exact⟨[],nothing none 0,λi hi=>by simp[qn]at hi⟩
 .rename_i k' es;subst hd;cases hv with
  |sl a b off len cap _ _ c hlen ha hcap hm hk hn hcc hone hh=>
   subst hlen;rcases ha with rfl|⟨rfl,hI⟩
   .exact⟨[],by simpa[qn]using nothing a cap,λi hi=>by simp[qn]at hi⟩
   .refine⟨_,some_ b off es.length cap c (λi j hi hj=>⟨hcc i j hi hj,hone i j hi hj⟩),λi hi=>⟨hk i hi,λj hj=>?_⟩⟩;rw[flat_get es.length k' c i j hi hj];exact hh i j hi hj
 .rename_i l k' i0 n;obtain⟨rfl,hb⟩:=hd;cases hv with
  |own0 _ _ _ a=>exact⟨[],by simpa[qn]using nothing a 0,λi hi=>by simp[qn]at hi⟩
  |own _ _ _ _ b base tot cap aa hβ ha hcap hm ht=>
   obtain⟨g1,g2,g3⟩:=vv hs (hag l (by simp[cg])) hb;obtain⟨hnI,hk0',ht',c,T,fr,q1,q2,q3,q4⟩:=hs.own l _ b base tot g1 hβ;have hlen:(qn m (.own l k' i0 n)).length=n:=by simp only[qn];exact ie _ _ _ g2
   rw[hlen];by_cases hn0:n=0
   .subst hn0;exact⟨[],nothing _ _,λi hi=>ae⟩
   .have ha':=ha ae;subst ha';have hg:∀i,i<n->(qn m (.own l k' i0 n)).getD i .any=(aH m l).getD (i0+i) .any:=λi hi=>by simp only[qn];exact eg _ _ _ _ _ hi
    refine⟨_,some_ b (base+i0*k') n cap (λi j=>c.getD (base+(i0+i)*k'+j) undef) (λi j hi hj=>?_),λi hi=>?_⟩
    .have h1:=kO (tot:=tot) (show i0+i<tot by omega) hj;refine⟨?_,((q4 (i0+i) ae).2 j hj).1⟩;rw[<-cell_of_heap q1 (by omega:base+(i0+i)*k'+j<c.size)];congr 2;rw[Nat.add_mul];omega
    .rw[hg i hi];refine⟨(q4 (i0+i) ae).1,λj hj=>?_⟩;rw[flat_get n k' (λi j=>c.getD (base+(i0+i)*k'+j) undef) i j hi hj];exact((q4 (i0+i) ae).2 j hj).2
theorem cV {α:Type}(a b:List α)(i:Nat)(d:α):(a++b).getD i d=if i<a.length then a.getD i d else b.getD (i-a.length) d:=by
 grind
theorem TR {mm cap:Nat}{olds:List Value}{zs:Array Value}{es1 es2:List D}(x':X)(b:Nat)(hk0:k≠0)(hlo:olds.length=n*k)(hln:news.length=mm*k)(h1:es1.length=n)(h2:es2.length=mm)(hcap:n+mm<=cap)(hzs:zs.size=(cap-(n+mm))*k)(hx:x'.w.heap[b]? =some (.cells ((olds++news).toArray++zs) T (0,0)))(ho:∀i,i<n->(es1.getD i .any).cells.length=k/\∀j,j<k->(olds.getD (i*k+j) undef).oneCell'=true/\RD C.ν x' (olds.getD (i*k+j) undef) ((es1.getD i .any).cells.getD j .any))(hn:∀i,i<mm->(es2.getD i .any).cells.length=k/\∀j,j<k->(news.getD (i*k+j) undef).oneCell'=true/\RD C.ν x' (news.getD (i*k+j) undef) ((es2.getD i .any).cells.getD j .any)):
  oV C.ν x' b 0 cap (.buf k (es1++es2)):=by
 have hsz:((olds++news).toArray++zs).size=cap*k:=by
  simp only[Array.size_append,List.size_toArray,cu,hlo,hln,hzs,<-Nat.add_mul];congr 1;omega
 refine wK (w':=x'.w) (L:=0) x' hx ae fh ae (λo _=>aC) (λi hi=>?_);simp only[cu,h1,h2]at hi;have hge:∀j,j<k->(((olds++news).toArray++zs).getD (i*k+j) undef)=(olds++news).getD (i*k+j) undef:=by
  intro j hj;have:=kO hi hj;rw[Nat.add_mul]at this;rw[<-bO];simp only[Array.toList_append];rw[cV,ak fh]
 rw[cV];by_cases h:i<n
 .grind [cV,kO]
 .rw[ah ae,h1];refine⟨(hn (i-n) ae).1,λj hj=>?_⟩;have hnk:n*k<=i*k:=fP _ ae;rw[hge j hj,cV,ah ae,show i*k+j-olds.length=(i-n)*k+j by rw[hlo,Nat.sub_mul];omega];exact(hn (i-n) ae).2 j hj
theorem Ys (h:∀u∈news,u.oneCell'=true)(q:Nat)(hq:q<news.length):(news.getD q undef).oneCell'=true:=by
 grind
theorem fF.less {f:Nat->Option bj}(h:fF ν x f)(hf:∀l,f' l=f l\/f' l=none\/x.β l=none):fF ν x f':=by
 refine⟨λl blk b base tot e1 e2=>?_,λl1 l2 b base tot base' tot' e1 e2 e3 e4=>?_,h.imm,h.ee,h.gd⟩
 .rcases hf l with e|e|e
  .exact h.own l blk b base tot (e▸e1) e2
  .rw[e]at e1;cases e1
  .rw[e]at e2;cases e2
 .refine h.inj l1 l2 b base tot base' tot' ?_ ?_ e3 e4
  .grind
  grind
def K1 {u e:TypeId}{base:Option Addr}{sLen sCap mm:Nat}{olds:List Value}{es1 E:List D}(hs:fF C.ν x f)(hL:x.β L=none)(ht:C.P.underlying t=some (.slice e))(hi:C.P.info? e=some ti)(hz:ti.zero=some z)(hzd:z.cells.size=ti.size)(hk:ti.size=k)(hk0:k≠0)(hby:ti.bytes<=65536)(hold:(Builtin.firstCells k sLen (.slice base sLen sCap)).run C.P x.w.drew=.ok olds.toArray x.w.drew)(hol:olds.length=sLen*k)(h1:es1.length=sLen)(h2:E.length=mm)(ho:∀i,i<sLen->(es1.getD i .any).cells.length=k/\∀j,j<k->(olds.getD (i*k+j) undef).oneCell'=true/\RD C.ν x (olds.getD (i*k+j) undef) ((es1.getD i .any).cells.getD j .any))(hsrc:Go.Src C.P k u xv mm news x.w)(hn:∀i,i<mm->(E.getD i .any).cells.length=k/\∀j,j<k->RD C.ν x (news.getD (i*k+j) undef) ((E.getD i .any).cells.getD j .any))(hg:sCap<sLen+mm)(hle:sLen+mm<=1073741824)(hf:∀l,l≠L->f' l=f l\/f' l=none)(hfL:f' L=some (.buf k (es1++E)))(hr:r=((Builtin.append_ #[t,u] ty #[.slice base sLen sCap,xv]).run C.P x.w).andThen λv w'=>.ok (.value v) w'):
  Bi C.ν x f' L (.own L k 0 (sLen+mm)) r:=by
 subst hk;have hfit:=growslice_fits_wide (need:=sLen+mm) (old:=sCap) (bytes:=ti.bytes) hg (by
  have:(sLen+mm+(sLen+mm) /4+192)*ti.bytes<=(sLen+mm+(sLen+mm) /4+192)*65536:=Nat.mul_le_mul_left _ hby;omega)
 have hrun:=run_append_grow_src x.w t u ty e ti z ht hi hz base sLen sCap olds hold xv mm news hsrc hg ae hfit;have hcge:=grownCap_ge x.w (sLen+mm) sCap e;have hcle:=grownCap_le_maxLen x.w (sLen+mm) sCap e (by simp only[maxLen];omega);generalize grownCap x.w (sLen+mm) sCap e=cap at hrun hcge hcle;have hgrow:iz x.w (x.w.drew.alloc (.cells ((olds++news).toArray++Builtin.zeroCells z.cells (cap-(sLen+mm))) e)):=by
  refine⟨rfl,rfl,rfl, ?_,λb hb=>?_⟩
  .have:=(iz.alloc x.w.drew (.cells ((olds++news).toArray++Builtin.zeroCells z.cells (cap-(sLen+mm))) e)).size;exact this
  .exact ma x.w.drew _ b hb
 have hlex:=Hp (tot:=cap) hs hgrow hL;have hs':fF C.ν x (λl=>if f' l=none then none else f l):=hs.less (λl=>by
  by_cases h:f' l=none
  .right;left;simp[h]
  .left;simp[h])
 refine oJ (f:=λl=>if f' l=none then none else f l) (v:=.slice (some ⟨x.w.heap.size,0,none⟩) (sLen+mm) cap) (tot:=cap) (blk:=.buf ti.size (es1++E)) hs' hL hgrow ?_ ?_ ?_ ?_ (λl=>?_)
 .show x.w.heap.size<(x.w.drew.heap.push _).size;rw[Array.size_push];exact Nat.lt_succ_self _
 .exact TR (n:=sLen) (mm:=mm) (olds:=olds) (news:=news) (T:=e) (zs:=Builtin.zeroCells z.cells (cap-(sLen+mm))) _ _ hk0 hol hsrc.newsLen h1 h2 hcge
   (by rw[size_zeroCells,hzd]) (dV x.w.drew _)
   (λi hi=>⟨(ho i hi).1,λj hj=>⟨((ho i hi).2 j hj).1,((ho i hi).2 j hj).2.mono hlex⟩⟩)
   (λi hi=>⟨(hn i hi).1,λj hj=>⟨Ys hsrc.one _ (by rw[hsrc.newsLen];exact kO hi hj),((hn i hi).2 j hj).mono hlex⟩⟩)
 .exact .own L _ 0 (sLen+mm) x.w.heap.size 0 cap cap ⟨x.w.heap.size,0,none⟩ nL (λ_=>aC) hcge hcle ae
 .rw[hr,hrun];rfl
 .by_cases e:l=L
  .subst e;simp[jC,hfL]
  .simp only[jC,e,aX];rcases hf l e with h|h
   .by_cases h':f' l=none
    .rw[ak h'];exact h'
    .rw[ah h'];exact h
   .rw[ak h];exact h
def zG {u e:TypeId}{a:Addr}{sLen sCap:Nat}(ht:C.P.underlying t=some (.slice e))(hi:C.P.info? e=some ti)(hk:ti.size=k)(hsrc:Go.Src C.P k u xv 0 [] x.w)(hc:sLen<=sCap):
  (Builtin.append_ #[t,u] ty #[.slice (some a) sLen sCap,xv]).run C.P x.w=.ok (.slice (some a) sLen sCap) x.w:=by
 subst hk;rcases hsrc.kind with⟨e',hk⟩|hk<;>simp[Builtin.append_,run_underlying ht,run_underlying hk,sizeOf,typeInfo,hi,hsrc.len,hc,hsrc.cells,storeCells]
def GS {u e:TypeId}(ht:C.P.underlying t=some (.slice e))(hi:C.P.info? e=some ti)(hk:ti.size=k)(hsrc:Go.Src C.P k u xv 0 [] x.w):
  (Builtin.append_ #[t,u] ty #[.slice none 0 0,xv]).run C.P x.w=.ok (.slice none 0 0) x.w:=by
 subst hk;rcases hsrc.kind with⟨e',hk⟩|hk<;>simp[Builtin.append_,run_underlying ht,run_underlying hk,sizeOf,typeInfo,hi,hsrc.len,hsrc.cells,storeCells]
def ajV {o:Oper}{i:ax}{p:Operand}{u:TypeId}(hc:C.op defs o=some i)(ho:o.op=.call {callee:=.builtin .append,args:=#[p,q],argTypes:=#[t,u]})(hρ:vt C defs J ev x o.op.operands.toList)(hob:i.eE Y J m)(hs:fF C.ν x f)(hag:EO f m (i.nq J))(hL:x.β L=none):
  Bi C.ν x (ji f (i.wr J L) (i.bN Y J m L)) L (i.val Y J m L) ((execOp ev o).run C.P x.w):=by
 have hcc:∃a b e,C.src defs p=some a/\C.src defs q=some b/\C.P.underlying t=some (.slice e)/\((∃e',C.P.underlying u=some (.slice e'))\/C.P.underlying u=some .string)/\
   ¬(C.P.cellsOf e=0\/C.P.bytesOf e>65536\/C.P.bytesOf e=0\/qg C.P e=false)/\i=.app (C.P.cellsOf e) a b:=by
  simp only[CC.op,ho]at hc;split at hc
  .rename_i a b e e' h1 h2 h3 h4;split at hc
   .cases hc
   .rename_i hn;simp only[aE]at hc;exact⟨a,b,e,h1,h2,h3,.inl ⟨_,h4⟩,hn,hc.symm⟩
  .rename_i a b e h1 h2 h3 h4;split at hc
   .cases hc
   .rename_i hn;simp only[aE]at hc;exact⟨a,b,e,h1,h2,h3,.inr h4,hn,hc.symm⟩
  .cases hc
 obtain⟨a,b,e,h1,h2,hu,hu2,hn,rfl⟩:=hcc;have hce:C.P.cellsOf e≠0:=λh=>hn (.inl h)
 obtain⟨ti,hti,htis⟩:=oZ hce;have hby:ti.bytes<=65536:=by
  have:¬C.P.bytesOf e>65536:=λh=>hn (.inr (.inl h))
  simp[Program.bytesOf,hti]at this;omega
 obtain⟨z,hz,hzl⟩:∃z,sT C.P e=some z/\z.cells.length=C.P.cellsOf e:=by
  have hzf:qg C.P e=true:=by
   cases h:qg C.P e
   .exact absurd (.inr (.inr (.inr h))) hn
   .rfl
  unfold qg at hzf;split at hzf
  .rename_i z hz;exact⟨z,hz,by simpa using hzf⟩
  .cases hzf
 obtain⟨ti',z',hti',hzv,hzr⟩:=qf (x:=x) hz;obtain rfl:ti'=ti:=by rw[hti]at hti';exact(aW hti').symm
 obtain⟨k1,k2,k3,k4⟩:=hob;have hv:=hρ p dt a h1 k1;have hw:=hρ q dt b h2 k2;have hag2:∀l,l∈cg (J b).d->f l=look m l:=λl hl=>hag l (by simp;exact .inr hl)
 have hag1:∀l,l∈cg (J a).d->f l=look m l:=λl hl=>hag l (by simp;exact .inl hl)
 obtain⟨news,hsrc,hnews⟩:=ak6 (u:=u) hce (hu2.imp (λ⟨e',h⟩=>⟨e',h⟩) id) hw k3 hs hag2;have hsz:z'.cells.size=ti'.size:=by have:=(hzr.cells ae).1;omega
 have hr:(execOp ev o).run C.P x.w=((Builtin.append_ #[t,u] o.type #[ev p,ev q]).run C.P x.w).andThen λv w'=>.ok (.value v) w':=by
  simp[execOp,ho,resolve,invoke,builtin]
 generalize hels:qn m (J b).d=E at*
 generalize hep:ev p=vp at*

 have nobase:∀(a0:Option Addr) (f':Nat->Option bj),vp=.slice a0 0 0->E.length<=1073741824->(∀l,l≠L->f' l=f l\/f' l=none)->f' L=some (.buf (C.P.cellsOf e) E)->
   Bi C.ν x f' L (.own L (C.P.cellsOf e) 0 E.length) ((execOp ev o).run C.P x.w):=by
  intro a0 f' hvp hle hf hfL;subst hvp;by_cases hm0:E.length=0
  .have hn0:news=[]:=lV (by rw[hsrc.newsLen,hm0];simp);rw[hm0]at hsrc⊢;subst hn0;have hap:(Builtin.append_ #[t,u] o.type #[.slice a0 0 0,ev q]).run C.P x.w=.ok (.slice a0 0 0) x.w:=by
    cases a0 with
    |none=>exact GS hu hti htis hsrc
    |some a=>exact zG hu hti htis hsrc (aN _)
   rw[hr,hap];refine⟨.slice a0 0 0,x,.inl rfl,.refl x,.own0 L _ 0 a0,hs.less λl=>?_,λ_ _=>rfl⟩;by_cases e:l=L
   .subst e;exact .inr (.inr hL)
   .rcases hf l e with h|h
    .exact .inl h
    .exact .inr (.inl h)
  .have:=K1 (f':=f') (base:=a0) (sLen:=0) (sCap:=0) (olds:=[]) (es1:=[]) (E:=E) (mm:=E.length) hs hL hu hti hzv hsz htis hce hby
    (by cases a0<;>simp[Builtin.firstCells,loadCells,loadCellsFrom]) aC rfl rfl (λi hi=>ae) hsrc hnews ae ae hf (by simpa using hfL) hr
   simpa using this
 cases hd:(J a).d<;>simp only[hd]at k4
 ·
  have he:(ax.app (C.P.cellsOf e) a b).bN Y J m L=cT m L (.buf (C.P.cellsOf e) E):=by simp[ax.bN,hd,hels]
  have hva:(ax.app (C.P.cellsOf e) a b).val Y J m L=.own L (C.P.cellsOf e) 0 E.length:=by simp[ax.val,hd,hels]
  have hwr:(ax.app (C.P.cellsOf e) a b).wr J L=[L]:=by simp[ax.wr,hd,cg]
  rw[he,hva,hwr];rw[hd]at hv;cases hv;exact nobase _ _ rfl k4 (λl hl=>.inl (by simp[ji,hl])) (by simp[ji,bM])
 .rename_i l k' i n;obtain⟨rfl,hbk,hle⟩:=k4;rw[hd]at hv;have he:(ax.app (C.P.cellsOf e) a b).bN Y J m L=cT (c7 m l) L (.buf (C.P.cellsOf e) ((((aH m l).drop i).take n)++E)):=by simp[ax.bN,hd,hels]
  have hva:(ax.app (C.P.cellsOf e) a b).val Y J m L=.own L (C.P.cellsOf e) 0 (n+E.length):=by simp[ax.val,hd,hels]
  have hwr:(ax.app (C.P.cellsOf e) a b).wr J L=[L,l]:=by simp[ax.wr,hd,cg]
  rw[he,hva,hwr];have hff:∀l',l'≠L->ji f [L,l] (cT (c7 m l) L (.buf (C.P.cellsOf e) ((((aH m l).drop i).take n)++E))) l'=if l'=l then none else f l':=by
   intro l' hl';by_cases e1:l'=l
   .subst e1;simp[ji,bM,fk,hl']
   .simp[ji,hl',e1]
  have hffL:ji f [L,l] (cT (c7 m l) L (.buf (C.P.cellsOf e) ((((aH m l).drop i).take n)++E))) L=some (.buf (C.P.cellsOf e) ((((aH m l).drop i).take n)++E)):=by simp[ji,bM]
  have hff':∀l',l'≠L->ji f [L,l] (cT (c7 m l) L (.buf (C.P.cellsOf e) ((((aH m l).drop i).take n)++E))) l'=f l'\/ji f [L,l] (cT (c7 m l) L (.buf (C.P.cellsOf e) ((((aH m l).drop i).take n)++E))) l'=none:=by
   intro l' hl';rw[hff l' hl'];by_cases e1:l'=l
   .rw[ak e1];exact .inr rfl
   .rw[ah e1];exact .inl rfl
  cases hv with
  |own0=>
   have:=nobase _ (ji f [L,l] (cT (c7 m l) L (.buf (C.P.cellsOf e) ((((aH m l).drop i).take 0)++E)))) rfl ae hff' (by simpa using hffL);simpa using this
  |own _ _ _ _ bk base tot cap ad hβ ha hcap hm ht=>
   obtain⟨g1,g2,g3⟩:=vv hs (hag1 l (by simp[hd,cg])) hbk;obtain⟨hnI,hk0',ht',c,T,fr,q1,q2,q3,q4⟩:=hs.own l _ bk base tot g1 hβ;have hlen1:(((aH m l).drop i).take n).length=n:=ie _ _ _ g2;have hgt:∀j,j<n->(((aH m l).drop i).take n).getD j .any=(aH m l).getD (i+j) .any:=λj hj=>eg _ _ _ _ _ hj
   by_cases hroom:n+E.length<=cap
   ·
    have hcsz:base+i*C.P.cellsOf e+cap*C.P.cellsOf e<=c.size:=by
     have:i*C.P.cellsOf e+cap*C.P.cellsOf e<=tot*C.P.cellsOf e:=by rw[<-Nat.add_mul];exact fP _ ae
     omega
    have hnc:n*C.P.cellsOf e+news.length<=cap*C.P.cellsOf e:=by rw[hsrc.newsLen,<-Nat.add_mul];exact fP _ hroom
    have hrun:(Builtin.append_ #[t,u] o.type #[.slice (some ad) n cap,ev q]).run C.P x.w=.ok (.slice (some ad) (n+E.length) cap) (x.w.setCells bk (base+i*C.P.cellsOf e+n*C.P.cellsOf e) news):=by
     by_cases hc0:cap=0
     .have hm0:E.length=0:=ae;have hn0:news=[]:=lV (by rw[hsrc.newsLen,hm0];simp);subst hn0;rw[hm0]at hsrc⊢;rw[zG hu hti htis hsrc hcap];rfl
     .have ha':=ha ae;subst ha';have:=run_append_room_src x.w t u o.type e ti' hu hti bk (base+i*C.P.cellsOf e) n cap (ev q) E.length news (by rw[htis];exact hsrc) hroom
       (λj hj=>by rw[htis,cell_of_heap q1 ae];rfl)
       (λj hj=>by
         rw[htis];have:=q3 (base+i*C.P.cellsOf e+n*C.P.cellsOf e+j) ae;simp only[World.frozen?,q1];simp only[ep,ct];omega)
      rw[htis]at this;exact this
    obtain⟨c',s1,s2,s3⟩:=mc bk news (base+i*C.P.cellsOf e+n*C.P.cellsOf e) x.w c T fr q1 ae;obtain⟨f1,f2,f3,f4⟩:=kY bk news (base+i*C.P.cellsOf e+n*C.P.cellsOf e) x.w;generalize hw':x.w.setCells bk (base+i*C.P.cellsOf e+n*C.P.cellsOf e) news=w' at*
    have hother:∀b',b'≠bk->w'.heap[b']? =x.w.heap[b']? :=λb' hb'=>by rw[<-hw'];exact kZ bk _ _ _ b' hb'
    have hlL:l≠L:=λe1=>by subst e1;rw[hβ]at hL;cases hL
    have hstep:Step x ⟨w',x.I,e8 x.β L (bk,base+i*C.P.cellsOf e,cap)⟩:=by
     refine⟨f1,f2,f3,by show _<=w'.heap.size;rw[f4];exact aN _,λ_ h=>h,λb' hb'=>hother b' (λe1=>hnI (e1▸hb')),λl' p' hp=>?_,
      λb' _ hn'=>hother b' (λe1=>hn' l _ hβ e1.symm),λ_ h=>.inl h,λl' p' hp=>?_⟩
     .have:l'≠L:=λe1=>by rw[e1,hL]at hp;cases hp
      simp[e8,this,hp]
     .by_cases e1:l'=L
      .simp only[e8,e1,bh,aE]at hp;exact .inr (.inr ⟨l,_,hβ,by rw[<-hp]⟩)
      .simp only[e8,e1,aX]at hp;exact .inl hp
    have hle2:=hstep.le;rw[hr,hrun];refine⟨_,⟨w',x.I,e8 x.β L (bk,base+i*C.P.cellsOf e,cap)⟩,.inl rfl,hstep,
     .own L _ 0 _ bk (base+i*C.P.cellsOf e) cap cap ad nL (λh=>by rw[ha h];simp) hroom hm ae, ?_,λl' hl'=>by simp[e8,hl']⟩
    have hblk:oV C.ν ⟨w',x.I,e8 x.β L (bk,base+i*C.P.cellsOf e,cap)⟩ bk (base+i*C.P.cellsOf e) cap (.buf (C.P.cellsOf e) ((((aH m l).drop i).take n)++E)):=by
     refine⟨hk0',by rw[cu,hlen1];exact hroom,c',T,fr,s1,ae,λo'' ho''=>q3 o'' ae,λi' hi'=>?_⟩;rw[cu,hlen1]at hi';rw[cV,hlen1];by_cases hi2:i'<n
     .rw[ak hi2,hgt i' hi2];refine⟨(q4 (i+i') ae).1,λj hj=>?_⟩;have hlt:=kO hi2 hj;rw[s3,ah ae];have:=(q4 (i+i') ae).2 j hj;rw[show base+(i+i')*C.P.cellsOf e+j=base+i*C.P.cellsOf e+i'*C.P.cellsOf e+j by rw[Nat.add_mul];omega]at this;exact⟨this.1,this.2.mono hle2⟩
     .rw[ah hi2];obtain⟨a1,a2⟩:=hnews (i'-n) ae;refine⟨a1,λj hj=>?_⟩;have hnk:n*C.P.cellsOf e<=i'*C.P.cellsOf e:=fP _ ae;have hlt:=kO (show i'-n<E.length by omega) hj;rw[<-hsrc.newsLen,Nat.sub_mul]at hlt;rw[s3,ak ae,show base+i*C.P.cellsOf e+i'*C.P.cellsOf e+j-(base+i*C.P.cellsOf e+n*C.P.cellsOf e)=(i'-n)*C.P.cellsOf e+j by rw[Nat.sub_mul];omega];exact⟨Ys hsrc.one _ (by rw[Nat.sub_mul];omega),(a2 j hj).mono hle2⟩
    refine⟨λl' blk b' base' tot' e1 e2=>?_,λl1 l2 b' base' tot' base'' tot'' e1 e2 e3 e4=>?_,λb' hb'=>by show b'<w'.heap.size;rw[f4];exact hs.imm b' hb',λl' b' base' tot' e1=>?_,ru hstep.le hs.gd⟩
    .by_cases h:l'=L
     .subst h;rw[hffL]at e1;simp only[e8,bh,aE,dj]at e2;obtain⟨rfl,rfl,rfl⟩:=e2;obtain rfl:=aW e1;exact⟨hnI,hblk⟩
     .rw[hff l' h]at e1;by_cases h2:l'=l
      .rw[ak h2]at e1;cases e1
      .rw[ah h2]at e1;simp only[e8,h,aX]at e2;obtain⟨a1,a2⟩:=hs.own l' blk b' base' tot' e1 e2;refine⟨a1,a2.mono hle2 (hother b' (λeb=>?_))⟩;subst eb;exact h2 (hs.inj l' l b' base' tot' base tot (by rw[e1];simp) (by rw[g1];simp) e2 hβ)
    .have key:∀l1 b1 base1 tot1,l1≠L->ji f [L,l] (cT (c7 m l) L (.buf (C.P.cellsOf e) ((((aH m l).drop i).take n)++E))) l1≠none->x.β l1=some (b1,base1,tot1)->b1≠bk/\f l1≠none:=by
      intro l1 b1 base1 tot1 h1' h2' h3';rw[hff l1 h1']at h2';by_cases h:l1=l
      .rw[ak h]at h2';exact absurd rfl h2'
      .rw[ah h]at h2';refine⟨λeb=>?_,h2'⟩;subst eb;exact h (hs.inj l1 l b1 base1 tot1 base tot h2' (by rw[g1];simp) h3' hβ)
     by_cases h1':l1=L<;>by_cases h2':l2=L
     .rw[h1',h2']
     .exfalso;simp only[e8,h1',bh,aE,dj]at e3;simp only[e8,h2',aX]at e4;exact(key l2 b' _ _ h2' e2 e4).1 e3.1.symm
     .exfalso;simp only[e8,h2',bh,aE,dj]at e4;simp only[e8,h1',aX]at e3;exact(key l1 b' _ _ h1' e1 e3).1 e4.1.symm
     .simp only[e8,h1',aX]at e3;simp only[e8,h2',aX]at e4;exact hs.inj l1 l2 b' base' tot' base'' tot'' (key l1 b' _ _ h1' e1 e3).2 (key l2 b' _ _ h2' e2 e4).2 e3 e4
    .show b'<w'.heap.size;rw[f4];by_cases h:l'=L
     .simp only[e8,h,bh,aE,dj]at e1;obtain⟨rfl,_,_⟩:=e1;exact hs.ee l _ _ _ hβ
     .simp only[e8,h,aX]at e1;exact hs.ee l' _ _ _ e1
   ·
    have hold:∃olds:List Value,(Builtin.firstCells (C.P.cellsOf e) n (.slice (some ad) n cap)).run C.P x.w.drew=.ok olds.toArray x.w.drew/\olds.length=n*C.P.cellsOf e/\
      ∀j,j<n->∀j',j'<C.P.cellsOf e->(olds.getD (j*C.P.cellsOf e+j') undef).oneCell'=true/\RD C.ν x (olds.getD (j*C.P.cellsOf e+j') undef) (((aH m l).getD (i+j) .any).cells.getD j' .any):=by
     by_cases hn0:n=0
     .subst hn0;exact⟨[],by simp[Builtin.firstCells,loadCells,loadCellsFrom],aC,λj hj=>ae⟩
     .have ha':=ha ae;subst ha';have hqd:∀q,q<n*C.P.cellsOf e->q/C.P.cellsOf e<n/\q%C.P.cellsOf e<C.P.cellsOf e/\q/C.P.cellsOf e*C.P.cellsOf e+q%C.P.cellsOf e=q:=λq hq=>
       ⟨Nat.div_lt_of_lt_mul (by rw[Nat.mul_comm];exact hq),Nat.mod_lt _ ae,by rw[Nat.mul_comm];exact Nat.div_add_mod q _⟩
      have hbase:∀q,q<n*C.P.cellsOf e->base+i*C.P.cellsOf e+q<c.size:=λq hq=>by
       have:i*C.P.cellsOf e+n*C.P.cellsOf e<=tot*C.P.cellsOf e:=by rw[<-Nat.add_mul];exact fP _ ae
       omega
      refine⟨(List.range (n*C.P.cellsOf e)).map λq=>c.getD (base+i*C.P.cellsOf e+q) undef, ?_,aC,λj hj j' hj'=>?_⟩
      .refine run_firstCells_some x.w.drew _ n _ n cap _ aC (λj u' hj=>?_);obtain⟨hj2,rfl⟩:=List.getElem?_eq_some_iff.1 hj;simp at hj2;rw[Addr.AN];simp only[List.getElem_map,List.getElem_range];exact cell_of_heap (w:=x.w.drew) q1 (hbase j hj2)
      .have hlt:=kO hj hj';have e1:((List.range (n*C.P.cellsOf e)).map λq=>c.getD (base+i*C.P.cellsOf e+q) undef).getD (j*C.P.cellsOf e+j') undef=c.getD (base+(i+j)*C.P.cellsOf e+j') undef:=by
        simp only[List.getD,List.getElem?_map,List.getElem?_range hlt,Option.map_some,Option.getD_some];congr 1;rw[Nat.add_mul];omega
       rw[e1];exact(q4 (i+j) ae).2 j' hj'
    obtain⟨olds,o1,o2,o3⟩:=hold;refine K1 (base:=some ad) (sLen:=n) (sCap:=cap) (olds:=olds) (es1:=((aH m l).drop i).take n) (E:=E) (mm:=E.length) hs hL hu hti hzv hsz htis hce hby
     o1 o2 hlen1 rfl (λj hj=>?_) hsrc hnews ae ae hff' hffL hr
    rw[hgt j hj];exact⟨(q4 (i+j) ae).1,o3 j hj⟩
end
end
section
variable [cL]
section
variable {x:X}{f:Nat->Option bj}{m:List (Nat×bj)}
def X.nw (x:X)(f:Nat->Option bj):X:=⟨x.w,λb=>x.I b\/∃l p,x.β l=some p/\p.1=b/\f l≠none,x.β⟩
def oM (x:X)(f:Nat->Option bj):Le x (x.nw f):=⟨λ_ h=>.inl h,λ_ _=>rfl,λ_ _ h=>h⟩
theorem D.tu (ds:List D):(D.agg ds).aR=aK ds:=by simp[D.aR]
def wM (hs:fF ν x f)(hag:∀l,look m l≠none->f l=look m l)(hb:dT m l k n){b base:Nat}(hβ:x.β l=some (b,base,tot)):
  f l=some (.buf k (aH m l))/\n<=(aH m l).length/\¬x.I b/\oV ν x b base tot (.buf k (aH m l)):=by
 have hne:look m l≠none:=by
  intro h;simp[dT,h]at hb
 obtain⟨g1,g2,_⟩:=vv hs (hag l hne) hb;exact⟨g1,g2,hs.own l _ b base tot g1 hβ⟩
def DO {es:List D}{cs:List Sh}{g:Nat->Nat->Value}(hk0:0<k)(hV:∀(e:D) (c:Nat->Value),e.cells.length=k->(∀j,j<k->RD ν x (c j) (e.cells.getD j .any))->gH m cs e->
    (jg m cs e).cells.length=k/\(jg m cs e).aR=true/\∀j,j<k->RD ν (x.nw f) (c j) ((jg m cs e).cells.getD j .any))(hes:∀i,i<es.length->(es.getD i .any).cells.length=k/\∀j,j<k->RD ν x (g i j) ((es.getD i .any).cells.getD j .any))(ho:∀e∈es,gH m cs e)(i:Nat)(hi:i<es.length):
  ((es.map (jg m cs)).getD i .any).cells.length=k/\((es.map (jg m cs)).getD i .any).aR=true/\∀j,j<k->RD ν (x.nw f) (g i j) (((es.map (jg m cs)).getD i .any).cells.getD j .any):=by
 have e1:(es.map (jg m cs)).getD i .any=jg m cs (es.getD i .any):=by simp[List.getD,hi]
 rw[e1];exact hV _ (g i) (hes i hi).1 (hes i hi).2 (ho _ (by rw[xe _ _ _ hi];exact List.getElem_mem _))
mutual
theorem vS (hs:fF ν x f)(hag:∀l,look m l≠none->f l=look m l):∀(s:Sh) (v:Value) (d:D),RD ν x v d->ix m s d->
  RD ν (x.nw f) v (kS m s d)/\(kS m s d).aR=true/\(d.cells.length=1->d.isAgg=false->(kS m s d).cells=[kS m s d])
 | .a,v,d,h,ho=>by
  simp only[ix]at ho;have hm:RD ν (x.nw f) v d:=h.mono (oM x f);cases d<;>simp only[kS]<;>first
   |exact⟨hm,ho,λh1 h2=>by simp_all[D.cells,D.isAgg]⟩
   |skip
  cases h;exact⟨.sl none 0 0 0 0 0 [] (λ_ _=>undef) rfl (.inl rfl) (aN _) (by simp[maxLen]) (λ_ h=>ae) (λ_ h=>ae) (λ_ _ h=>ae) (λ_ _ h=>ae) (λ_ _ h=>ae),rfl,λ_ _=>rfl⟩
 | .sl k cs,v,d,h,ho=>by
  have hm:RD ν (x.nw f) v d:=h.mono (oM x f);cases d<;>simp only[kS]<;>simp only[ix]at ho<;>first
   |exact⟨hm,ho,λh1 h2=>by simp_all[D.cells,D.isAgg]⟩
   |skip
  .cases h;exact⟨.sl none 0 0 0 0 k [] (λ_ _=>undef) rfl (.inl rfl) (aN _) (by simp[maxLen]) (λ_ h=>iu) (λ_ h=>iu) (λ_ _ h=>iu) (λ_ _ h=>iu) (λ_ _ h=>iu),rfl,λ_ _=>rfl⟩
  .rename_i l k' i c;obtain⟨hb,hel⟩:=ho;cases h with
   |own0=>
    simp only[List.take_zero,List.map_nil];exact⟨.sl _ 0 0 0 0 k' [] (λ_ _=>undef) rfl (.inl rfl) (aN _) (by simp[maxLen]) (λ_ h=>iu) (λ_ h=>iu) (λ_ _ h=>iu) (λ_ _ h=>iu) (λ_ _ h=>iu),rfl,λ_ _=>rfl⟩
   |own _ _ _ _ b base tot cap a hβ ha hcap hmx ht=>
    obtain⟨g1,g2,hnI,hk0,ht',cc,T,fr,q1,q2,q3,q4⟩:=wM hs hag hb hβ;have hlen:(((aH m l).drop i).take c).length=c:=ie _ _ _ g2;have hgt:∀j,j<c->(((aH m l).drop i).take c).getD j .any=(aH m l).getD (i+j) .any:=λj hj=>eg _ _ _ _ _ hj
    have hrow:=DO (f:=f) (k:=k') (cs:=cs) (es:=((aH m l).drop i).take c) (g:=λi' j=>cc.getD (base+(i+i')*k'+j) undef) hk0 (vT hs hag cs)
     (λi' hi'=>by
       rw[hlen]at hi';rw[hgt i' hi'];exact⟨(q4 (i+i') ae).1,λj hj=>((q4 (i+i') ae).2 j hj).2⟩) hel
    refine⟨.sl (some a) b (base+i*k') c cap k' _ (λi' j=>cc.getD (base+(i+i')*k'+j) undef) (by rw[a8,hlen]) ?_ hcap hmx (λi' hi'=>(hrow i' ae).1) (λi' hi'=>(hrow i' ae).2.1) (λi' j hi' hj=>?_) (λi' j hi' hj=>?_) (λi' j hi' hj=>(hrow i' ae).2.2 j hj),rfl,λ_ _=>rfl⟩
    .by_cases hc0:c=0
     .left;exact lV (by simp[hlen,hc0])
     .right;exact⟨by rw[ha ae],.inr ⟨l,_,hβ,rfl,by rw[g1];simp⟩⟩
    .have h1:=kO (tot:=tot) (show i+i'<tot by omega) hj;show x.w.cell? _=_;rw[<-cell_of_heap q1 (by omega:base+(i+i')*k'+j<cc.size)];congr 2;rw[Nat.add_mul];omega
    .exact((q4 (i+i') ae).2 j hj).1
 | .pt cs,v,d,h,ho=>by
  have hm:RD ν (x.nw f) v d:=h.mono (oM x f);cases d<;>simp only[kS]<;>simp only[ix]at ho<;>first
   |exact⟨hm,ho,λh1 h2=>by simp_all[D.cells,D.isAgg]⟩
   |skip
  rename_i l k' i o;obtain⟨hb,hel⟩:=ho;cases h with
  |ptr _ _ _ _ b base tot at_ hβ hat=>
   obtain⟨g1,g2,hnI,hk0,ht',cc,T,fr,q1,q2,q3,q4⟩:=wM hs hag hb hβ;have hrow:=DO (f:=f) (k:=k') (cs:=cs) (es:=aH m l) (g:=λi' j=>cc.getD (base+i'*k'+j) undef) hk0 (vT hs hag cs)
    (λi' hi'=>⟨(q4 i' hi').1,λj hj=>((q4 i' hi').2 j hj).2⟩) hel
   refine⟨.ref b base k' i o at_ _ (λi' j=>cc.getD (base+i'*k'+j) undef) (.inr ⟨l,_,hβ,rfl,by rw[g1];simp⟩) hat (λi' hi'=>(hrow i' (by simpa using hi')).1) (λi' hi'=>(hrow i' (by simpa using hi')).2.1)
    (λi' j hi' hj=>?_) (λi' j hi' hj=>((q4 i' (by simpa using hi')).2 j hj).1) (λi' j hi' hj=>(hrow i' (by simpa using hi')).2.2 j hj),rfl,λ_ _=>rfl⟩
   have h1:=kO (tot:=tot) (show i'<tot by simp at hi';omega) hj;exact cell_of_heap q1 ae
 | .kp cs,v,d,h,ho=>by
  have hm:RD ν (x.nw f) v d:=h.mono (oM x f);cases d<;>simp only[kS]<;>simp only[ix]at ho<;>first
   |exact⟨hm,ho,λh1 h2=>by simp_all[D.cells,D.isAgg]⟩
   |skip
  rename_i l k' i c;obtain⟨hb,hel⟩:=ho;cases h with
  |own0=>
   simp only[List.take_zero,List.map_nil];exact⟨.sl _ 0 0 0 0 k' [] (λ_ _=>undef) rfl (.inl rfl) (aN _) (by simp[maxLen]) (λ_ h=>iu) (λ_ h=>iu) (λ_ _ h=>iu) (λ_ _ h=>iu) (λ_ _ h=>iu),rfl,λ_ _=>rfl⟩
  |own _ _ _ _ b base tot cap a hβ ha hcap hmx ht=>
   obtain⟨g1,g2,hnI,hk0,ht',cc,T,fr,q1,q2,q3,q4⟩:=wM hs hag hb hβ;have hlen:(((aH m l).drop i).take c).length=c:=ie _ _ _ g2;have hgt:∀j,j<c->(((aH m l).drop i).take c).getD j .any=(aH m l).getD (i+j) .any:=λj hj=>eg _ _ _ _ _ hj
   have hrow:=DO (f:=f) (k:=k') (cs:=cs) (es:=((aH m l).drop i).take c) (g:=λi' j=>cc.getD (base+(i+i')*k'+j) undef) hk0 (vT hs hag cs)
    (λi' hi'=>by
      rw[hlen]at hi';rw[hgt i' hi'];exact⟨(q4 (i+i') ae).1,λj hj=>((q4 (i+i') ae).2 j hj).2⟩) hel
   refine⟨.sl (some a) b (base+i*k') c cap k' _ (λi' j=>cc.getD (base+(i+i')*k'+j) undef) (by rw[a8,hlen]) ?_ hcap hmx (λi' hi'=>(hrow i' ae).1) (λi' hi'=>(hrow i' ae).2.1) (λi' j hi' hj=>?_) (λi' j hi' hj=>?_) (λi' j hi' hj=>(hrow i' ae).2.2 j hj),rfl,λ_ _=>rfl⟩
   .by_cases hc0:c=0
    .left;exact lV (by simp[hlen,hc0])
    .right;exact⟨by rw[ha ae],.inr ⟨l,_,hβ,rfl,by rw[g1];simp⟩⟩
   .have h1:=kO (tot:=tot) (show i+i'<tot by omega) hj;show x.w.cell? _=_;rw[<-cell_of_heap q1 (by omega:base+(i+i')*k'+j<cc.size)];congr 2;rw[Nat.add_mul];omega
   .exact((q4 (i+i') ae).2 j hj).1
theorem vT (hs:fF ν x f)(hag:∀l,look m l≠none->f l=look m l):∀(cs:List Sh){k:Nat} (e:D) (c:Nat->Value),e.cells.length=k->(∀j,j<k->RD ν x (c j) (e.cells.getD j .any))->gH m cs e->
  (jg m cs e).cells.length=k/\(jg m cs e).aR=true/\∀j,j<k->RD ν (x.nw f) (c j) ((jg m cs e).cells.getD j .any)
 |[],k,e,c,hk,hc,ho=>by
  simp only[jg];simp only[gH]at ho;exact⟨hk,ho,λj hj=>(hc j hj).mono (oM x f)⟩
 |s::r,k,e,c,hk,hc,ho=>by
  cases e<;>simp only[jg]<;>simp only[gH]at ho<;>try
   (obtain⟨h1,h2,h3⟩:=vS hs hag s (c 0) _ (by simp only[D.cells,bD,ca]at hk;exact hc 0 ae) ho
    simp only[D.cells,bD,ca]at hk;rw[h3 rfl rfl];subst hk;exact⟨rfl,h2,fun j hj=>by obtain rfl:j=0:=ae
                                                                                    exact h1⟩)
  .simp only[D.cells,ca]at hk;subst hk;cases s<;>simp only[kS]<;>exact⟨rfl,rfl,λj hj=>ae⟩
  .rename_i ds;obtain⟨a1,a2,a3⟩:=vU hs hag (s::r) ds c (λj hj=>hc j (by simpa[D.cells]using hk▸hj)) ho;simp only[D.cells]at hk⊢;exact⟨a1.trans hk,by rw[D.tu];exact a2,λj hj=>a3 j ae⟩
  .simp only[D.cells,ca]at hk;subst hk;cases s<;>simp only[kS,ix]at ho⊢ <;>exact⟨rfl,ho,λj hj=>ae⟩
theorem vU (hs:fF ν x f)(hag:∀l,look m l≠none->f l=look m l):∀(cs:List Sh) (ds:List D) (c:Nat->Value),(∀j,j<ds.length->RD ν x (c j) (ds.getD j .any))->ku m cs ds->
  (nD m cs ds).length=ds.length/\aK (nD m cs ds)=true/\∀j,j<ds.length->RD ν (x.nw f) (c j) ((nD m cs ds).getD j .any)
 |[],ds,c,hc,ho=>by
  simp only[ku]at ho;exact⟨by simp[nD],by simpa[nD]using ho,λj hj=>by simpa only[nD]using(hc j hj).mono (oM x f)⟩
 |s::r,[],c,hc,ho=>by
  exact⟨by simp[nD],by simp[nD,aK],λj hj=>by simp at hj⟩
 |s::r,d::ds,c,hc,ho=>by
  simp only[nD];simp only[ku]at ho;obtain⟨h1,h2,_⟩:=vS hs hag s (c 0) d (by simpa using hc 0 aC) ho.1;obtain⟨a1,a2,a3⟩:=vU hs hag r ds (λj=>c (j+1)) (λj hj=>by simpa using hc (j+1) fh) ho.2;refine⟨by simp[a1],by simp[aK,h2,a2],λj hj=>?_⟩;cases j with
  |zero=>simpa using h1
  |succ j=>simpa using a3 j nK
end
def vV (hs:fF ν x f)(hag:∀l,look m l≠none->f l=look m l)(sh:List Sh)(v:Value)(d:D)(h:RD ν x v d)(ho:gH m sh d):RD ν (x.nw f) v (jg m sh d)/\(jg m sh d).aR=true:=by
 cases sh with
 |nil=>simp only[jg];simp only[gH]at ho;exact⟨h.mono (oM x f),ho⟩
 |cons s r=>
  cases d<;>simp only[jg]<;>simp only[gH]at ho<;>first
   |(obtain⟨h1,h2,_⟩:=vS hs hag s v _ h ho;exact⟨h1,h2⟩)
   |skip
  rename_i ds;cases h with
  |agg cs _ hl h1 h=>
   obtain⟨a1,a2,a3⟩:=vU hs hag (s::r) ds (λj=>cs.getD j undef) h ho;exact⟨.agg cs _ (by rw[a1,hl]) (λi hi=>h1 i ae) (λi hi=>a3 i ae),by rw[D.tu];exact a2⟩
theorem j9 (hs:fF ν x f)(hag:∀l,look m l≠none->f l=look m l):∀(ss:List (List Sh)) (ds:List D) (c:Nat->Value),(∀j,j<ds.length->RD ν x (c j) (ds.getD j .any))->jl m ss ds->
  (iG m ss ds).length=ds.length/\aK (iG m ss ds)=true/\∀j,j<ds.length->RD ν (x.nw f) (c j) ((iG m ss ds).getD j .any)
 |ss,[],c,hc,ho=>⟨by simp[iG],by simp[iG,aK],λj hj=>by simp at hj⟩
 |[],d::r,c,hc,ho=>by
  simp only[jl]at ho;obtain⟨h1,h2⟩:=vV hs hag [.a] (c 0) d (by simpa using hc 0 aC) ho.1;obtain⟨a1,a2,a3⟩:=j9 hs hag [] r (λj=>c (j+1)) (λj hj=>by simpa using hc (j+1) fh) ho.2
  grind [iG,aK]
 |s::ss,d::r,c,hc,ho=>by
  simp only[jl]at ho;obtain⟨h1,h2⟩:=vV hs hag s (c 0) d (by simpa using hc 0 aC) ho.1;obtain⟨a1,a2,a3⟩:=j9 hs hag ss r (λj=>c (j+1)) (λj hj=>by simpa using hc (j+1) fh) ho.2
  grind [iG,aK]
end
end
end Go.Abs
