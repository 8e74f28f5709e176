/- A part of the proofs. -/
import Derived.Carry
import Derived.ChangeArms
import Derived.ChangeSame
import Derived.OpenShut
import Derived.RowKit
import Derived.WideKeyArgs
import Derived.WideShapes
import Derived.Test.YtkllcniplomebaaGreatDoorP09
set_option linter.all false
set_option maxRecDepth 60000
set_option maxHeartbeats 2000000
namespace Go.Abs
variable{n:Nat}{d:D}{args:Array Value}{W:World}
section
open Go.RowKit Go.ChangeShapes
def ie.below {w w':World}(h:ie w w'):Below w.heap.size w w':=⟨h.os,h.tape,h.output,h.size,h.old⟩
section
variable {H:Type}{enc:TypeId×Value->H}{P:Program}
theorem Fv {f:Func}{s:ChangeSpec}{apart fresh handsOn again:Bool}{W':World}{v:Value}{ds gs:List (DataW H)}{before pa pv:List MemPlace}(hW:DataW.Whole enc P f.params.toList s.vars apart W args.toList ds gs before)(hres:∀(b:Nat) (sp:Nat->Bool) (hd:Bool),DataW.TrodAll enc P W' b sp hd f.resultTypes.toList (v.resultList f.resultTypes.size) (s.fn H (ds++gs)).results [])(hargs:∀sp:Nat->Bool,(∀p∈before,sp p.block=true)->DataW.TrodAll enc P W' 0 sp true f.params.toList args.toList (s.fn H (ds++gs)).args pa)(hvars:∀sp:Nat->Bool,(∀p∈before,sp p.block=true)->DataW.TrodVars enc P W' sp s.vars (s.fn H (ds++gs)).vars pv)(hps:before=pa++pv)(hb:Below W.heap.size W W')(hok:∀(j:Nat) (t:TypeId) (r:Value),f.resultTypes[j]? =some t->(v.resultList f.resultTypes.size)[j]? =some r->Value.okWide P W' .any 0 t r):
  s.post enc P f apart fresh handsOn again W args v W':=by
 have hold:∀p∈before,(λb=>decide (b<W.heap.size)) p.block=true:=λp hp=>by simpa using hW.lt p hp
 refine⟨ds,gs,before,[],pa,pv,hW,hres _ _ _,hargs _ hold,hvars _ hold,World.keptBut_mono (λp hp=>⟨hp, ?_⟩) (hb.frame (· ∈before)),λ_=>?_⟩
 .rw[hps,List.mem_append]at hp;exact Or.inr hp
 .have hlt:=hW.lt;obtain⟨_,_,_,_,_,hz,hn⟩:=hW;refine⟨hok,_,_,([]++pa)++pv,⟨[]++pa,pv,trodAll_append (hargs _ (λ_ _=>rfl)) (hres _ _ _),hvars _ (λ_ _=>rfl),rfl, ?_, ?_⟩, ?_⟩
  .intro b off hp;have hmem:MemPlace.cell b off∈before:=by rw[hps];simpa using hp
   have hq:=hz b off hmem;have hl:b<W.heap.size:=hlt _ hmem;simpa only[World.frozen?,hb.block b hl]using hq
  .grind
  .intro p hp _;rw[hps];simpa using hp
end
end
inductive Lf
 |str
 |int (k:IntKind)
 |bool
 |sl (ag:Bool) (k:Nat) (cs:List Lf)
variable{c:Lf}
mutual
def fit:Lf->D->Nat->Prop
 | .str,d,n=>∃s,d=.str s/\s.length+1<=n
 | .int k,d,n=>(∃m,d=.int k m/\(Lit.int k m).wf=true)/\1<=n
 | .bool,d,n=>(∃b,d=.bool b)/\1<=n
 | .sl ag k cs,d,n=>∃es,d=.sl k es/\∃ns:List Nat,ns.length=es.length/\ns.sum+1<=n/\∀i,i<es.length->∃ds,es.getD i .any=(bif ag then .agg ds else ds.getD 0 .any)/\lh cs ds (ns.getD i 0)
def lh:List Lf->List D->Nat->Prop
 |[],ds,_=>ds=[]
 |c::r,ds,n=>∃d ds' n1 n2,ds=d::ds'/\n1+n2<=n/\fit c d n1/\lh r ds' n2
end
def w9:∀{cs:List Lf}{ds:List D}{n:Nat},lh cs ds n->ds.length=cs.length
 |[],ds,n,h=>by simp only[lh]at h;simp[h]
 |c::r,ds,n,h=>by
  simp only[lh]at h;obtain⟨d,ds',n1,n2,rfl,_,_,h2⟩:=h;simp[w9 h2]
def Aj:∀{a b:List Lf}{da db:List D}{n m:Nat},lh a da n->lh b db m->lh (a++b) (da++db) (n+m)
 |[],b,da,db,n,m,h1,h2=>by
  simp only[lh]at h1;subst h1;simp only[pA];exact fitL_mono h2 ae
 |c::r,b,da,db,n,m,h1,h2=>by
  simp only[lh]at h1;obtain⟨d,ds',n1,n2,rfl,h3,h4,h5⟩:=h1;simp only[rv,lh];exact⟨d,ds'++db,n1,n2+m,rfl,ae,h4,Aj h5 h2⟩
where
 fitL_mono:∀{cs:List Lf} {ds:List D} {n m:Nat},lh cs ds n->n<=m->lh cs ds m
 |[],_,_,_,h,_=>h
 |c::r,ds,n,m,h,hm=>by
  simp only[lh]at h⊢;obtain⟨d,ds',n1,n2,rfl,h3,h4,h5⟩:=h;exact⟨d,ds',n1,n2,rfl,ae,h4,h5⟩
def RS (h:fit c d n):d.cells=[d]/\d.aU=true:=by
 cases c<;>simp only[fit]at h
 .obtain⟨s,rfl,_⟩:=h;exact⟨rfl,rfl⟩
 .obtain⟨⟨m,rfl,_⟩,_⟩:=h;exact⟨rfl,rfl⟩
 .obtain⟨⟨b,rfl⟩,_⟩:=h;exact⟨rfl,rfl⟩
 .obtain⟨es,rfl,_⟩:=h;exact⟨rfl,rfl⟩
def vJ:∀{cs:List Lf}{ds:List D}{n:Nat},lh cs ds n->aP ds=true
 |[],ds,n,h=>by simp only[lh]at h;subst h;rfl
 |c::r,ds,n,h=>by
  simp only[lh]at h;obtain⟨d,ds',n1,n2,rfl,_,h1,h2⟩:=h;simp only[aP,(RS h1).2,vJ h2,Bool.and_self]
def TJ (b o m j:Nat):((⟨b,o,none⟩:Addr).add m).add j=⟨b,o+m+j,none⟩:=by
 unfold Addr.add;split<;>split<;>simp_all
section
variable {H:Type}
mutual
def dB:DataW H->Nat
 | .lit (.string s)=>s.length+1
 | .slice es _=>dBs es+1
 | .agg ps=>dBs ps
 |_=>1
def dBs:List (DataW H)->Nat
 |[]=>0
 |d::r=>dB d+dBs r
end
def RM:∀ds:List (DataW H),dBs ds=(ds.map dB).sum
 |[]=>rfl
 |d::r=>by simp only[dBs,List.map_cons,List.sum_cons,RM r]
end
def yY (P:Program)(t:TypeId):Bool:=match P.underlying t with
 |some (.struct _)=>true
 |some (.array _ _)=>true
 |_=>false
def lfs (P:Program)(F:TypeId->Option (List Lf)):List Field->Nat->Option (List Lf)
 |[],_=>some []
 |f::r,off=>match F f.type,lfs P F r (off+P.cellsOf f.type)with
  |some a,some b=>if f.offset=off/\a.length=P.cellsOf f.type then some (a++b)else none
  |_,_=>none
def arrF (e:TypeId)(off:Nat):Field:={(default:Field)with type:=e,offset:=off}
def Fj (P:Program):Nat->TypeId->Option (List Lf)
 |0,_=>none
 |n+1,t=>match P.underlying t with
  |some .bool=>some [.bool]
  |some (.int k)=>some [.int k]
  |some .string=>some [.str]
  |some (.slice e)=>match Fj P n e with
   |some cs=>if cs.length=P.cellsOf e/\0<cs.length/\(yY P e=true\/cs.length=1)then some [.sl (yY P e) (P.cellsOf e) cs]else none
   |none=>none
  |some (.struct fs)=>match lfs P (Fj P n) fs.toList 0 with
   |some a=>if a.length=P.cellsOf t then some a else none
   |none=>none
  |some (.array k e)=>match lfs P (Fj P n) ((List.range k).map λi=>arrF e (i*P.cellsOf e)) 0 with
   |some a=>if a.length=P.cellsOf t then some a else none
   |none=>none
  |_=>none
section
variable {H:Type}{enc:TypeId×Value->H}{P:Program}{ν:List (Nat×Nat)}
def BC (W:World):X:=⟨W,λb=>b<W.heap.size,λ_=>none⟩
def Rds (ν:List (Nat×Nat))(W:World)(cs:List Value)(a:List Lf)(n:Nat):Prop:=
 cs.length=a.length/\∃ds:List D,lh a ds n/\∀i,i<cs.length->RD ν (BC W) (cs.getD i undef) (ds.getD i .any)/\(cs.getD i undef).oneCell'=true
def Rds.one {v:Value}(hf:fit c d n)(hr:RD ν (BC W) v d)(h1:v.oneCell'=true):Rds ν W [v] [c] n:=
 ⟨rfl,[d],by simp only[lh];exact⟨d,[],n,0,rfl,ae,hf,rfl⟩,λi hi=>by
  obtain rfl:i=0:=by simpa using hi
  exact⟨hr,h1⟩⟩
def Po {W:World}{F:TypeId->Option (List Lf)}{m:Nat}{sp:Nat->Bool}{held:Bool}{cs:List Value}
  (hF:∀t a cs (x:DataW H×List MemPlace),F t=some a->DataW.trod enc P W 0 sp held m t cs=some x->Rds ν W cs a (dB x.1)):
  ∀(r:List Field) (off:Nat) (a:List Lf) (xs:List (DataW H×List MemPlace)),lfs P F r off=some a->xs.length=r.length->
   (∀(i:Nat) (f:Field),r[i]? =some f->DataW.trod enc P W 0 sp held m f.type ((cs.drop f.offset).take (P.cellsOf f.type))=xs[i]?)->off+a.length<=cs.length->
   ∃ds:List D,lh a ds (dBs (xs.map (·.1)))/\∀i,i<a.length->RD ν (BC W) (cs.getD (off+i) undef) (ds.getD i .any)/\(cs.getD (off+i) undef).oneCell'=true
 |[],off,a,xs,h,hl,_,_=>by
  simp only[lfs,aC]at h;subst h;exact⟨[],rfl,λi hi=>by simp at hi⟩
 |f::r,off,a,xs,h,hl,hx,hoff=>by
  simp only[lfs]at h;split at h
  .rename_i a1 a2 h1 h2;split at h
   .rename_i hc;simp only[aC]at h;subst h
    match xs,hl with
    |x::xs,hl=>
    have q:=hx 0 f rfl;simp only[List.getElem?_cons_zero]at q;obtain⟨l1,ds1,g1,g2⟩:=hF _ _ _ _ h1 q;simp only[bV]at hoff;have hlen:((cs.drop f.offset).take (P.cellsOf f.type)).length=a1.length:=by rw[<-l1]
    obtain⟨ds2,g3,g4⟩:=Po hF r _ a2 xs h2 (by simpa using hl) (λi f' hf=>by simpa using hx (i+1) f' (by simpa using hf)) ae;have hd1:=w9 g1;refine⟨ds1++ds2,by simp only[List.map_cons,dBs];exact Aj g1 g3,λi hi=>?_⟩;simp only[bV]at hi;by_cases hi1:i<a1.length
    .have:=g2 i ae;have e1:(ds1++ds2).getD i .any=ds1.getD i .any:=by simp[List.getD,List.getElem?_append,hd1,hi1]
     have e2:((cs.drop f.offset).take (P.cellsOf f.type)).getD i undef=cs.getD (off+i) undef:=by
      simp only[List.getD,List.getElem?_take,List.getElem?_drop,hc.1];rw[ak ae]
     rw[e1,<-e2];exact this
    .have:=g4 (i-a1.length) ae;have e1:(ds1++ds2).getD i .any=ds2.getD (i-a1.length) .any:=by simp[List.getD,List.getElem?_append,hd1,hi1]
     rw[e1,show off+i=off+P.cellsOf f.type+(i-a1.length)by omega];exact this
   .cases h
  .cases h
def B3 {W:World}{sp:Nat->Bool}{held:Bool}:∀(fl:Nat) (t:TypeId) (a:List Lf) (fuel:Nat) (cs:List Value) (x:DataW H×List MemPlace),
  Fj P fl t=some a->DataW.trod enc P W 0 sp held fuel t cs=some x->Rds ν W cs a (dB x.1)
 |0,t,a,fuel,cs,x,h,_=>by simp[Fj]at h
 |n+1,t,a,fuel,cs,x,h,hx=>by
  unfold Fj at h;split at h
  .rename_i ht;simp only[aC]at h;subst h;obtain⟨b,rfl,rfl⟩:=DataW.trod_bool ht hx;exact .one (by simp only[fit];exact⟨⟨b,rfl⟩,by simp[dB]⟩) (.bool b) rfl
  .rename_i k ht;simp only[aC]at h;subst h;obtain⟨m,rfl,rfl,hw⟩:=DataW.trod_int ht hx;exact .one (by simp only[fit];exact⟨⟨m,rfl,hw⟩,by simp[dB]⟩) (.int k m) rfl
  .rename_i ht;simp only[aC]at h;subst h;obtain⟨s,rfl,rfl,hs⟩:=DataW.trod_string ht hx;obtain⟨⟨l⟩⟩:=s;exact .one (d:=.str l) (by simp only[fit];exact⟨l,rfl,by simp[dB]⟩) (.str l hs) rfl
  .rename_i e ht;split at h
   .rename_i ce hce;split at h
    .rename_i hk;obtain⟨hk1,hk0,hkag⟩:=hk;simp only[aC]at h;subst h;rcases DataW.trod_slice ht hx with⟨rfl,rfl⟩|⟨ad,len,cap,elems,rest,m,rfl,rfl,rfl,hb,hlc,hcm,hel,hat,_,_⟩
     .refine .one (d:=.sl (P.cellsOf e) []) (by simp only[fit];exact⟨[],rfl,[],rfl,by simp[dB],λi hi=>by simp at hi⟩) ?_ rfl;exact .sl none 0 0 0 0 _ [] (λ_ _=>undef) rfl (.inl rfl) (aT _) (Nat.zero_le _) (λi hi=>ae) (λi hi=>ae) (λi j hi=>ae) (λi j hi=>ae) (λi j hi=>ae)
     .have key:∀i,i<len->∃(csi:List Value) (dsi:List D),(csi.length=ce.length/\∀j,j<P.cellsOf e->W.cell? ((ad.add (i*P.cellsOf e)).add j)=csi[j]?)/\lh ce dsi (dB (elems.getD i (.nil,[])).1)/\
        ∀j,j<csi.length->RD ν (BC W) (csi.getD j undef) (dsi.getD j .any)/\(csi.getD j undef).oneCell'=true:=by
       intro i hi;have q:=hat i hi;have hgi:elems[i]? =some (elems.getD i (.nil,[])):=by simp[List.getD,show i<elems.length by omega]
       rw[hgi,Option.bind_eq_some_iff]at q;obtain⟨csi,q1,q2⟩:=q;obtain⟨l1,dsi,g1,g2⟩:=B3 n e ce m csi _ hce q2;obtain⟨_,_,q3⟩:=World.cells?_some q1;exact⟨csi,dsi,⟨l1,q3⟩,g1,g2⟩
      let f:Nat->List Value×List D:=λi=>if h:i<len then((key i h).choose,(key i h).choose_spec.choose)else([],[])
      have hf:∀i,i<len->((f i).1.length=ce.length/\∀j,j<P.cellsOf e->W.cell? ((ad.add (i*P.cellsOf e)).add j)=(f i).1[j]?)/\lh ce (f i).2 (dB (elems.getD i (.nil,[])).1)/\
        ∀j,j<(f i).1.length->RD ν (BC W) ((f i).1.getD j undef) ((f i).2.getD j .any)/\((f i).1.getD j undef).oneCell'=true:=by
       intro i hi;have e1:f i=((key i hi).choose,(key i hi).choose_spec.choose):=by simp[f,hi]
       rw[e1];exact(key i hi).choose_spec.choose_spec
      let es:List D:=(List.range len).map λi=>bif yY P e then .agg (f i).2 else(f i).2.getD 0 .any
      have hes:∀i,i<len->es.getD i .any=bif yY P e then .agg (f i).2 else(f i).2.getD 0 .any:=λi hi=>by simp[es,hi]
      have hcells:∀i,i<len->(es.getD i .any).cells=(f i).2:=λi hi=>by
       rw[hes i hi];cases hag:yY P e with
       |true=>rfl
       |false=>
        have h1:ce.length=1:=by
         rcases hkag with h|h
         .rw[hag]at h;cases h
         .exact h
        match ce,h1 with
        |[c],_=>
        have g:=(hf i hi).2.1;simp only[lh]at g;obtain⟨d,ds',n1,n2,e1,_,g1,rfl⟩:=g;rw[e1];exact(RS g1).1
      have hnl:∀i,i<len->(es.getD i .any).aU=true:=λi hi=>by
       have g:=vJ (hf i hi).2.1;rw[hes i hi];cases hag:yY P e with
       |true=>exact g
       |false=>
        show((f i).2.getD 0 .any).aU=true
        match hq:(f i).2 with
        |[]=>rfl
        |d::r=>
         rw[hq]at g;simp only[aP,aK]at g;exact g.1
      refine .one (d:=.sl (P.cellsOf e) es) ?_ ?_ rfl
      .simp only[fit];refine⟨es,rfl,elems.map λq=>dB q.1,by simp[es,hel],by simp only[dB,RM,List.map_map];exact aT _,λi hi=>?_⟩;have hi':i<len:=by simpa[es]using hi
       refine⟨(f i).2,hes i hi', ?_⟩;have:=(hf i hi').2.1;have e2:(elems.map λq=>dB q.1).getD i 0=dB (elems.getD i (.nil,[])).1:=by simp[List.getD,show i<elems.length by omega]
       rw[e2];exact this
      .have hfl:∀i,i<len->(f i).1.length=P.cellsOf e:=λi hi=>by rw[(hf i hi).1.1,hk1]
       have hdl:∀i,i<len->(f i).2.length=P.cellsOf e:=λi hi=>by rw[w9 (hf i hi).2.1,hk1]
       have hcell:∀i j,i<len->j<P.cellsOf e->W.cell? ((ad.add (i*P.cellsOf e)).add j)=some ((f i).1.getD j undef):=λi j hi hj=>by
        rw[(hf i hi).1.2 j hj];simp[List.getD,show j<(f i).1.length by rw[hfl i hi];exact hj]
       have hsp:es=[]\/(ad.spot=none/\ad.block<W.heap.size):=by
        by_cases h0:len=0
        .left;simp[es,h0]
        .right;have h1:=hcell 0 0 ae ae;have e3:(ad.add (0*P.cellsOf e)).add 0=ad:=by simp[Addr.add]
         rw[e3]at h1;refine⟨World.cell?_spot h1, ?_⟩;unfold World.cell? at h1;split at h1
         .rename_i h2;exact(Array.getElem?_eq_some_iff.mp h2).1
         .cases h1
       obtain⟨ab,ao,asp⟩:=ad;refine .sl (some ⟨ab,ao,asp⟩) ab ao len cap _ es (λi j=>(f i).1.getD j undef) (by simp[es]) ?_ hlc hcm (λi hi=>by rw[hcells i hi,hdl i hi]) hnl ?_ ?_ ?_
       .rcases hsp with h|⟨h,h2⟩
        .exact .inl h
        .obtain rfl:asp=none:=h;exact .inr ⟨rfl,h2⟩
       .intro i j hi hj;have h1:=hcell i j hi hj;rcases hsp with h|⟨h,h2⟩
        .have:es.length=0:=by rw[h];rfl
         simp[es]at this;omega
        .obtain rfl:asp=none:=h
         rwa [TJ]at h1
       .intro i j hi hj;exact((hf i hi).2.2 j (by rw[hfl i hi];exact hj)).2
       .intro i j hi hj;rw[hcells i hi];exact((hf i hi).2.2 j (by rw[hfl i hi];exact hj)).1
    .cases h
   .cases h
  .rename_i fs ht;split at h
   .rename_i b hb;split at h
    .rename_i hlen;simp only[aC]at h;subst h;obtain⟨xs,m,rfl,rfl,hcl,hxl,hat⟩:=DataW.trod_struct ht hx;obtain⟨ds,g1,g2⟩:=Po (W:=W) (ν:=ν) (sp:=sp) (held:=held) (enc:=enc) (m:=m) (cs:=cs) (λt a cs x h1 h2=>B3 n t a m cs x h1 h2) fs.toList 0 b xs hb (by simpa using hxl) (λi f hf=>hat i f (by simpa using hf)) ae;refine⟨ae,ds,by simpa only[dB]using g1,λi hi=>?_⟩;have:=g2 i ae
     rwa [cL]at this
    .cases h
   .cases h
  .rename_i k e ht;split at h
   .rename_i b hb;split at h
    .rename_i hlen;simp only[aC]at h;subst h;obtain⟨xs,m,rfl,rfl,hcl,hxl,hat⟩:=DataW.trod_array ht hx;obtain⟨ds,g1,g2⟩:=Po (W:=W) (ν:=ν) (sp:=sp) (held:=held) (enc:=enc) (m:=m) (cs:=cs) (λt a cs x h1 h2=>B3 n t a m cs x h1 h2) _ 0 b xs hb (by simpa using hxl) (λi f hf=>by
      simp only[List.getElem?_map,c7]at hf;obtain⟨j,hj,rfl⟩:=hf;have hi:i<k:=by
       have:=(List.getElem?_eq_some_iff.1 hj).1;simpa using this
      obtain rfl:j=i:=by simpa[hi]using hj.symm
      exact hat j hi) ae
     refine⟨ae,ds,by simpa only[dB]using g1,λi hi=>?_⟩;have:=g2 i ae
     rwa [cL]at this
    .cases h
   .cases h
  .cases h
end
section
open Go.RowKit Go.ChangeShapes Go.WideShapes
def OI (sh:Bool×List Lf)(d:D)(n:Nat):=∃ds,lh sh.2 ds n/\d=bif sh.1 then .agg ds else ds.getD 0 .any
def BG:List (Bool×List Lf)->List D->Nat->Prop
 |[],ds,_=>ds=[]
 |s::r,ds,n=>∃d ds' n1 n2,ds=d::ds'/\n1+n2<=n/\OI s d n1/\BG r ds' n2
def qe (P:Program)(k:Nat):List TypeId->Option (List (Bool×List Lf))
 |[]=>some []
 |t::r=>match Fj P k t,qe P k r with
  |some a,some b=>if yY P t=true\/a.length=1 then some ((yY P t,a)::b)else none
  |_,_=>none
section
variable {H:Type}{enc:TypeId×Value->H}{P:Program}{ν:List (Nat×Nat)}
def ahO {sp:Nat->Bool}{held:Bool}{k base:Nat}{t:TypeId}{a:List Lf}{v:Value}{d:DataW H}{p:List MemPlace}{r:Reach}(ha:Fj P k t=some a)(h1:yY P t=true\/a.length=1)(Bh:Value.okWide P W r base t v)(h:DataW.Trod enc P W 0 sp held t v d p):
  ∃e,OI (yY P t,a) e (dB d)/\e.aU=true/\RD ν (BC W) v e:=by
 obtain⟨fuel,hf⟩:=h;obtain⟨hl,ds,g1,g2⟩:=B3 (ν:=ν) k t a fuel v.cells.toList (d,p) ha hf;have hdl:=w9 g1;have hnl:=vJ g1;refine⟨_,⟨ds,g1,rfl⟩, ?_⟩;cases hag:yY P t with
 |true=>
  have:∃cs,v=.agg cs/\cs.size=P.cellsOf t:=by
   match k,ha with
   |n+1,ha=>
   unfold Fj at ha;unfold yY at hag;split at ha
   .simp_all
   .simp_all
   .simp_all
   .simp_all
   .rename_i fs ht;exact okWide_struct ht Bh
   .rename_i m e ht;simp only[Value.okWide,ht]at Bh;obtain⟨cs,h1,h2,_⟩:=Bh;exact⟨cs,h1,h2⟩
   .simp_all
  obtain⟨cs,rfl,hcs⟩:=this;refine⟨hnl, ?_⟩;have hl':cs.size=a.length:=by simpa[Value.cells]using hl
  have e:∀i,(Value.agg cs).cells.toList.getD i undef=cs.getD i undef:=λi=>by
   simp only[Value.cells];by_cases hi:i<cs.size<;>simp[List.getD,Array.getD,hi]
  refine .agg cs ds ae (λi hi=>?_) λi hi=>?_
  .rw[<-e];exact(g2 i (by simp only[Value.cells,Array.length_toList];omega)).2
  .rw[<-e];exact(g2 i (by simp only[Value.cells,Array.length_toList];omega)).1
 |false=>
  have h1:a.length=1:=by
   rcases h1 with h|h
   .rw[hag]at h;cases h
   .exact h
  have hv:v.cells.toList.getD 0 undef=v:=by
   match k,ha with
   |n+1,ha=>
   unfold Fj at ha;unfold yY at hag;split at ha
   .rename_i ht;obtain⟨b,rfl⟩:=okWide_bool ht Bh;rfl
   .rename_i k ht;obtain⟨b,rfl⟩:=okWide_int ht Bh;rfl
   .rename_i ht;obtain⟨b,rfl⟩:=okWide_string ht Bh;rfl
   .rename_i e ht;obtain⟨b,c,f,rfl⟩:=okWide_slice ht Bh;rfl
   .rename_i fs ht;rw[ht]at hag;cases hag
   .rename_i m e ht;rw[ht]at hag;cases hag
   .cases ha
  have g:=g2 0 ae;rw[hv]at g;refine⟨?_,g.1⟩
  match ds,hdl with
  |[d0],_=>simpa[aP]using hnl
  |[],h=>simp at h;omega
  |_::_::_,h=>simp at h;omega
def Ru {W:World}{sp:Nat->Bool}{held:Bool}{k base:Nat}{r:Reach}:∀(ts:List TypeId) (shs:List (Bool×List Lf)) (vs:List Value) (dws:List (DataW H)) (ps:List MemPlace),
  qe P k ts=some shs->(∀(j:Nat) t v,ts[j]? =some t->vs[j]? =some v->Value.okWide P W r base t v)->DataW.TrodAll enc P W 0 sp held ts vs dws ps->
  ∃es:List D,BG shs es (dBs dws)/\es.length=vs.length/\dws.length=ts.length/\aP es=true/\∀i,i<es.length->RD ν (BC W) (vs.getD i undef) (es.getD i .any)
 |[],shs,vs,dws,ps,hs,_,h=>by
  simp only[qe,aC]at hs;subst hs;obtain⟨rfl,rfl,rfl⟩:=trodAll_nil h;exact⟨[],rfl,rfl,rfl,rfl,λi hi=>by simp at hi⟩
 |t::ts,shs,vs,dws,ps,hs,hv,h=>by
  simp only[qe]at hs;split at hs
  .rename_i a b h1 h2;split at hs
   .rename_i hc;simp only[aC]at hs;subst hs;obtain⟨v,vs',d,ds',p,q,rfl,rfl,rfl,h3,h4⟩:=trodAll_cons h;obtain⟨e,g1,g2,g3⟩:=ahO (ν:=ν) h1 hc (hv 0 t v rfl rfl) h3;obtain⟨es,k1,k2,k3,k4,k5⟩:=Ru ts b vs' ds' q h2 (λj t v h5 h6=>hv (j+1) t v (by simpa using h5) (by simpa using h6)) h4;refine⟨e::es,⟨e,es,_,_,rfl,aT _,g1,k1⟩,by simp[k2],by simp[k3],by simp[aP,g2,k4],λi hi=>?_⟩
    match i,hi with
    |0,_=>exact g3
    |i+1,hi=>exact k5 i oz
   .cases hs
  .cases hs
def vy {W W':World}(hl:laidOutB P=true)(hb:Below W.heap.size W W'){sp':Nat->Bool}:∀(ts:List TypeId) (vs:List Value) (dws:List (DataW H)) (ps:List MemPlace),
  (ts.all λt=>P.readableRec t&&decide (t<P.types.size))=true->(∀x∈ps,x.block<W.heap.size)->(∀x∈ps,sp' x.block=true)->
  DataW.TrodAll enc P W 0 (λ_=>true) true ts vs dws ps->DataW.TrodAll enc P W' 0 sp' true ts vs dws ps
 |[],vs,dws,ps,_,_,_,h=>by
  obtain⟨rfl,rfl,rfl⟩:=trodAll_nil h;exact trodAll_mk0
 |t::ts,vs,dws,ps,ht,hlt,hsp,h=>by
  obtain⟨v,vs',d,ds',p,q,rfl,rfl,rfl,h3,h4⟩:=trodAll_cons h;simp only[List.all_cons,aK,aX]at ht;refine trodAll_cons_mk (WideElems.Trod_stays hl ht.1.1 ht.1.2 h3 (λx hx=>hb.same (hlt x (by simp[hx]))) λx hx=>hsp x (by simp[hx])) ?_;exact vy hl hb ts vs' ds' q ht.2 (λx hx=>hlt x (by simp[hx])) (λx hx=>hsp x (by simp[hx])) h4
end
end
theorem adk (h:fit c d n):1<=n:=by
 cases c<;>simp only[fit]at h
 .obtain⟨s,_,h⟩:=h;omega
 .exact h.2
 .exact h.2
 grind
theorem XJ {m:Nat}(h:fit c d n)(hm:n<=m):fit c d m:=by
 cases c<;>simp only[fit]at h⊢
 .grind
 .exact⟨h.1,ae⟩
 .exact⟨h.1,ae⟩
 grind
theorem S1:∀(ns:List Nat) (i:Nat),i<ns.length->ns.getD i 0<=ns.sum
 |a::r,0,_=>aF
 |a::r,i+1,h=>by
  have:=S1 r i rA
  grind
theorem S2:∀(ns:List Nat),(∀i,i<ns.length->1<=ns.getD i 0)->ns.length<=ns.sum
 |[],_=>aF
 |a::r,h=>by
  have h0:=h 0 aF;have:=S2 r λi hi=>h (i+1) oz
  grind
theorem alm {α:Type}{q:α->D}{G:α->Prop}{ag:Bool}{k:Nat}{cs:List Lf}(hcs:cs≠[])(hd:∀ds m,m<=n->lh cs ds m->∃x,(bif ag then D.agg ds else ds.getD 0 .any)=q x/\G x)(h:fit (.sl ag k cs) d n):
  ∃xs:List α,d=.sl k (xs.map q)/\xs.length+1<=n/\∀x∈xs,G x:=by
 simp only[fit]at h;obtain⟨es,rfl,ns,hl,hs,he⟩:=h;have hone:∀i,i<ns.length->1<=ns.getD i 0:=λi hi=>by
  obtain⟨ds,_,h2⟩:=he i ae
  match cs,hcs with
  |c::r,_=>
  simp only[lh]at h2;obtain⟨d,ds',n1,n2,_,h3,h4,_⟩:=h2;have:=adk h4;omega
 have hlen:=S2 ns hone;have key:∀i,i<es.length->∃x,es.getD i .any=q x/\G x:=λi hi=>by
  grind [S1]
 have conv:∀es:List D,(∀i,i<es.length->∃x,es.getD i .any=q x/\G x)->∃xs:List α,es=xs.map q/\∀x∈xs,G x:=by
  intro es;induction es with
  |nil=>exact λ_=>⟨[],rfl,λx hx=>by cases hx⟩
  |cons e r ih=>
   intro h;obtain⟨x,h1,h2⟩:=h 0 aF;obtain⟨xs,h3,h4⟩:=ih λi hi=>by simpa using h (i+1) oz
   simp only[iR]at h1;refine⟨x::xs,by rw[h3,h1];rfl,λy hy=>?_⟩;rcases bU.1 hy with rfl|hy
   .exact h2
   .exact h4 y hy
 obtain⟨xs,rfl,hx⟩:=conv es key
 refine⟨xs,rfl, ?_,hx⟩;simp only[bh]at hl;omega
def C0 {k:IntKind}(h:fit (.sl false 1 [.int k]) d n):∃xs:List Int,d=.sl 1 (xs.map (D.int k))/\xs.length+1<=n/\∀x∈xs,True:=
 alm (q:=D.int k) (G:=λ_=>True) aF (λds m hm h=>by
  simp only[lh,fit]at h;obtain⟨d,ds',n1,n2,rfl,_,⟨⟨x,rfl,_⟩,_⟩,rfl⟩:=h;exact⟨x,rfl,trivial⟩) h
theorem BX (h:OI (false,[c]) d n):fit c d n:=by
 obtain⟨ds,h,rfl⟩:=h
 grind [lh,XJ]
theorem adL {k:IntKind}(h:fit (.int k) d n):∃x:Int,d=.int k x:=by
 grind [fit]
section
open Go.RowKit Go.ChangeShapes Go.WideShapes
def ctxp {t:List (Nat×mG)}{ds:List D}(hD:Det (lk t n mZ).rel)(h:(lk t n mZ).rel ds d):(Fe t).pre n ds/\(Fe t).val n ds=d:=⟨⟨d,h⟩,hD _ _ _ (lK ⟨d,h⟩) h⟩
section
variable {H:Type}{enc:TypeId×Value->H}{P:Program}{ν:List (Nat×Nat)}
def Pm [cI]{bR:List Nat}{Y:Ctx}(hok:Ok P ν bR Y){fid k base:Nat}{f:Func}{s:ChangeSpec}{tb:TypeId}{shs:List (Bool×List Lf)}{r:Reach}{ds gs:List (DataW H)}{before:List MemPlace}(hf:P.funcs[fid]? =some f)(hnm:(f.name== "runtime.NumGoroutine")=false)(hbody:f.body.isSome=true)(hn:dK ν fid=some n)(hl:laidOutB P=true)(hts:(f.params.toList.all λt=>P.readableRec t&&decide (t<P.types.size))=true)(hsh:qe P k f.params.toList=some shs)(hres:f.resultTypes=#[tb])(htb:P.underlying tb=some .bool)(hvars:s.vars=[])(hfn:∀xs:List (DataW H),xs.length=f.params.toList.length->s.fn H xs={results:=[.lit (.bool true)],args:=xs})(hgd:cI.gd (BC W))(hpre:∀es,BG shs es (dBs ds)->(∀i,i<es.length->∃v,RD ν (BC W) v (es.getD i .any))->Y.pre n es/\Y.val n es=.bool true)(hargs:∀(j:Nat) t v,f.params[j]? =some t->args[j]? =some v->Value.okWide P W r base t v)(hW:DataW.Whole enc P f.params.toList s.vars false W args.toList ds gs before):
  Calls P fid args W λe W'=>∃v,e=.returned v/\s.post enc P f false true false false W args v W':=by
 have hW':=hW;obtain⟨p,q,hA,hV,rfl,hz,hnd⟩:=hW;rw[hvars]at hV;obtain⟨rfl,rfl⟩:=trodVars_none hV;obtain⟨es,h1,h2,h3,h4,h5⟩:=Ru (ν:=ν) f.params.toList shs args.toList ds p hsh (λj t v e1 e2=>hargs j t v (by simpa using e1) (by simpa using e2)) hA;have hsz:args.size=es.length:=by simpa using h2.symm
 obtain⟨hp1,hp2⟩:=hpre es h1 λi hi=>⟨_,h5 i hi⟩
 have hd:=hok.pure fid n hn (BC W) args es hsz (λi hi=>by
  have:=h5 i hi;have e:args.toList.getD i undef=args.getD i undef:=by
   have hi':i<args.size:=ae;simp[List.getD,Array.getD,hi']
  rwa [e]at this) h4 (λb hb=>hb) hgd hp1
 rw[gR hf hnm hbody args]at hd;rcases hd with⟨v,x',hd|hd,_⟩|⟨f',args',hd,hc⟩
 .cases hd
 .cases hd.1
 .cases hd;refine Calls.mono hc λe W' he=>?_
  match e,he with
  | .returned v,he=>
   obtain⟨x',rfl,hp,hr⟩:=he;rw[hp2]at hr;obtain rfl:v=.bool true:=by cases hr;rfl
   have hb:Below W.heap.size W x'.w:=hp.grow.below;have hlt:=hW'.lt;have e1:s.fn H (ds++[])={results:=[.lit (.bool true)],args:=ds}:=by rw[fZ];exact hfn ds h3
   refine⟨_,rfl,Fv (pa:=p) (pv:=[]) hW' (λb sp hd=>?_) (λsp hsp=>?_) (λsp hsp=>?_) rfl hb (ok_one hres rfl (okWide_bool_mk htb _))⟩
   .rw[e1,hres];exact trodAll_mk1 (shut_bool htb _)
   .rw[e1];exact vy hl hb _ _ _ _ hts (λx hx=>by simpa using hlt x (by simpa using hx)) (λx hx=>hsp x (by simpa using hx)) hA
   .rw[e1,hvars];rfl
end
end
end Go.Abs
