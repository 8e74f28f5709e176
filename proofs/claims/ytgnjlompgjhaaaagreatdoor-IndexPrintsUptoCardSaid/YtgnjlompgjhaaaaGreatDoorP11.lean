/- The package index prints every shelf as the reference does, for shelves whose bulk is at most 1048576. -/
import Derived.ChangeArms
import Derived.Deep.DeepHandedRow
import Derived.Lib.LaidTab
import Derived.OpenShut
import Derived.RowKit
import Derived.Test.YtgnjlompgjhaaaaGreatDoorCards
import Derived.Test.YtgnjlompgjhaaaaGreatDoorTie
import Derived.WideKeyArgs
import Derived.WideShapes
import Derived.Test.YtgnjlompgjhaaaaGreatDoorP10
set_option linter.all false
set_option maxRecDepth 4000
namespace Go.Abs
section
inductive Lf
 |str
 |int (k:IntKind)
 |bool
 |sl (ag:Bool) (k:Nat) (cs:List Lf)
mutual
def fit:Lf->D->Nat->Prop
 | .str,d,n=>∃s,d=.str s/\s.length+1<=n
 | .int k,d,n=>(∃m,d=.int k m/\(Lit.int k m).wf=true)/\1<=n
 | .bool,d,n=>(∃b,d=.bool b)/\1<=n
 | .sl ag k cs,d,n=>∃es,d=.sl k es/\∃ns:List Nat,ns.length=es.length/\ns.sum+1<=n/\∀i,i<es.length->∃ds,es.getD i .any=(bif ag then .agg ds else ds.getD 0 .any)/\fY cs ds (ns.getD i 0)
def fY:List Lf->List D->Nat->Prop
 |[],ds,_=>ds=[]
 |c::r,ds,n=>∃d ds' n1 n2,ds=d::ds'/\n1+n2<=n/\fit c d n1/\fY r ds' n2
end
def qW:∀{cs:List Lf}{ds:List D}{n:Nat},fY cs ds n->ds.length=cs.length
 |[],ds,n,h=>by simp only[fY]at h;simp[h]
 |c::r,ds,n,h=>by
  simp only[fY]at h;obtain⟨d,ds',n1,n2,rfl,_,_,h2⟩:=h;simp[qW h2]
def sK:∀{a b:List Lf}{da db:List D}{n m:Nat},fY a da n->fY b db m->fY (a++b) (da++db) (n+m)
 |[],b,da,db,n,m,h1,h2=>by
  simp only[fY]at h1;subst h1;simp only[eG];exact fitL_mono h2 ae
 |c::r,b,da,db,n,m,h1,h2=>by
  simp only[fY]at h1;obtain⟨d,ds',n1,n2,rfl,h3,h4,h5⟩:=h1;simp only[fk,fY];exact⟨d,ds'++db,n1,n2+m,rfl,ae,h4,sK h5 h2⟩
where
 fitL_mono:∀{cs:List Lf} {ds:List D} {n m:Nat},fY cs ds n->n<=m->fY cs ds m
 |[],_,_,_,h,_=>h
 |c::r,ds,n,m,h,hm=>by
  simp only[fY]at h⊢;obtain⟨d,ds',n1,n2,rfl,h3,h4,h5⟩:=h;exact⟨d,ds',n1,n2,rfl,ae,h4,h5⟩
def C3 {c:Lf}{d:D}{n:Nat}(h:fit c d n):d.cells=[d]/\d.bG=true:=by
 cases c<;>simp only[fit]at h
 ·obtain⟨s,rfl,_⟩:=h;exact⟨rfl,rfl⟩
 ·obtain⟨⟨m,rfl,_⟩,_⟩:=h;exact⟨rfl,rfl⟩
 ·obtain⟨⟨b,rfl⟩,_⟩:=h;exact⟨rfl,rfl⟩
 ·obtain⟨es,rfl,_⟩:=h;exact⟨rfl,rfl⟩
def p8:∀{cs:List Lf}{ds:List D}{n:Nat},fY cs ds n->bt ds=true
 |[],ds,n,h=>by simp only[fY]at h;subst h;rfl
 |c::r,ds,n,h=>by
  simp only[fY]at h;obtain⟨d,ds',n1,n2,rfl,_,h1,h2⟩:=h;simp only[bt,(C3 h1).2,p8 h2,Bool.and_self]
def Ea (b o m j:Nat):((⟨b,o,none⟩:Addr).add m).add j=⟨b,o+m+j,none⟩:=by
 unfold Addr.add;split<;>split<;>simp_all
section
variable {H:Type}
mutual
def dB:DataW H->Nat
 | .lit (.string s)=>s.length+1
 | .slice es _=>Et es+1
 | .agg ps=>Et ps
 |_=>1
def Et:List (DataW H)->Nat
 |[]=>0
 |d::r=>dB d+Et r
end
def CY:∀ds:List (DataW H),Et ds=(ds.map dB).sum
 |[]=>rfl
 |d::r=>by simp only[Et,List.map_cons,List.sum_cons,CY r]
end
def rW (P:Program)(t:TypeId):Bool:=match P.underlying t with
 |some (.struct _)=>true
 |some (.array _ _)=>true
 |_=>false
def NM (P:Program)(F:TypeId->Option (List Lf)):List Field->Nat->Option (List Lf)
 |[],_=>some []
 |f::r,off=>match F f.type,NM P F r (off+P.cellsOf f.type)with
  |some a,some b=>if f.offset=off/\a.length=P.cellsOf f.type then some (a++b)else none
  |_,_=>none
def arrF (e:TypeId)(off:Nat):Field:={(default:Field)with type:=e,offset:=off}
def wi (P:Program):Nat->TypeId->Option (List Lf)
 |0,_=>none
 |n+1,t=>match P.underlying t with
  |some .bool=>some [.bool]
  |some (.int k)=>some [.int k]
  |some .string=>some [.str]
  |some (.slice e)=>match wi P n e with
   |some cs=>if cs.length=P.cellsOf e/\0<cs.length/\(rW P e=true\/cs.length=1)then some [.sl (rW P e) (P.cellsOf e) cs]else none
   |none=>none
  |some (.struct fs)=>match NM P (wi P n) fs.toList 0 with
   |some a=>if a.length=P.cellsOf t then some a else none
   |none=>none
  |some (.array k e)=>match NM P (wi P n) ((List.range k).map fun i=>arrF e (i*P.cellsOf e)) 0 with
   |some a=>if a.length=P.cellsOf t then some a else none
   |none=>none
  |_=>none
section
variable {H:Type} {enc:TypeId×Value->H} {P:Program} {ν:List (Nat×Nat)}
def vL (W:World):X:=⟨W,fun b=>b<W.heap.size,fun _=>none⟩
def Rds (ν:List (Nat×Nat))(W:World)(cs:List Value)(a:List Lf)(n:Nat):Prop:=
 cs.length=a.length/\∃ds:List D,fY a ds n/\∀i,i<cs.length->RD ν (vL W) (cs.getD i undef) (ds.getD i .any)/\(cs.getD i undef).oneCell'=true
def Rds.one {W:World}{v:Value}{c:Lf}{d:D}{n:Nat}(hf:fit c d n)(hr:RD ν (vL W) v d)(h1:v.oneCell'=true):Rds ν W [v] [c] n:=
 ⟨rfl,[d],by simp only[fY];exact⟨d,[],n,0,rfl,ae,hf,rfl⟩,fun i hi=>by
  obtain rfl:i=0:=by simpa using hi
  exact⟨hr,h1⟩⟩
def BR {W:World}{F:TypeId->Option (List Lf)}{m:Nat}{sp:Nat->Bool}{held:Bool}{cs:List Value}
  (hF:∀t a cs (x:DataW H×List MemPlace),F t=some a->DataW.trod enc P W 0 sp held m t cs=some x->Rds ν W cs a (dB x.1)):
  ∀(r:List Field) (off:Nat) (a:List Lf) (xs:List (DataW H×List MemPlace)),NM P F r off=some a->xs.length=r.length->
   (∀(i:Nat) (f:Field),r[i]? =some f->DataW.trod enc P W 0 sp held m f.type ((cs.drop f.offset).take (P.cellsOf f.type))=xs[i]?)->off+a.length<=cs.length->
   ∃ds:List D,fY a ds (Et (xs.map (·.1)))/\∀i,i<a.length->RD ν (vL W) (cs.getD (off+i) undef) (ds.getD i .any)/\(cs.getD (off+i) undef).oneCell'=true
 |[],off,a,xs,h,hl,_,_=>by
  simp only[NM,aQ]at h;subst h;exact⟨[],rfl,fun i hi=>by simp at hi⟩
 |f::r,off,a,xs,h,hl,hx,hoff=>by
  simp only[NM]at h;split at h
  ·rename_i a1 a2 h1 h2;split at h
   ·rename_i hc;simp only[aQ]at h;subst h
    match xs,hl with
    |x::xs,hl=>
    have q:=hx 0 f rfl;simp only[List.getElem?_cons_zero]at q;obtain⟨l1,ds1,g1,g2⟩:=hF _ _ _ _ h1 q;simp only[bA]at hoff;have hlen:((cs.drop f.offset).take (P.cellsOf f.type)).length=a1.length:=by rw[<-l1]
    obtain⟨ds2,g3,g4⟩:=BR hF r _ a2 xs h2 (by simpa using hl) (fun i f' hf=>by simpa using hx (i+1) f' (by simpa using hf)) ae;have hd1:=qW g1;refine⟨ds1++ds2,by simp only[List.map_cons,Et];exact sK g1 g3,fun i hi=>?_⟩;simp only[bA]at hi;by_cases hi1:i<a1.length
    ·have:=g2 i ae;have e1:(ds1++ds2).getD i .any=ds1.getD i .any:=by simp[List.getD,List.getElem?_append,hd1,hi1]
     have e2:((cs.drop f.offset).take (P.cellsOf f.type)).getD i undef=cs.getD (off+i) undef:=by
      simp only[List.getD,List.getElem?_take,List.getElem?_drop,hc.1];rw[av ae]
     rw[e1,<-e2];exact this
    ·have:=g4 (i-a1.length) ae;have e1:(ds1++ds2).getD i .any=ds2.getD (i-a1.length) .any:=by simp[List.getD,List.getElem?_append,hd1,hi1]
     rw[e1,show off+i=off+P.cellsOf f.type+(i-a1.length)by omega];exact this
   ·cases h
  ·cases h
def tM {W:World}{sp:Nat->Bool}{held:Bool}:∀(fl:Nat)(t:TypeId)(a:List Lf)(fuel:Nat)(cs:List Value)(x:DataW H×List MemPlace),
  wi P fl t=some a->DataW.trod enc P W 0 sp held fuel t cs=some x->Rds ν W cs a (dB x.1)
 |0,t,a,fuel,cs,x,h,_=>by simp[wi]at h
 |n+1,t,a,fuel,cs,x,h,hx=>by
  unfold wi at h;split at h
  ·rename_i ht;simp only[aQ]at h;subst h;obtain⟨b,rfl,rfl⟩:=DataW.trod_bool ht hx;exact .one (by simp only[fit];exact⟨⟨b,rfl⟩,by simp[dB]⟩) (.bool b) rfl
  ·rename_i k ht;simp only[aQ]at h;subst h;obtain⟨m,rfl,rfl,hw⟩:=DataW.trod_int ht hx;exact .one (by simp only[fit];exact⟨⟨m,rfl,hw⟩,by simp[dB]⟩) (.int k m) rfl
  ·rename_i ht;simp only[aQ]at h;subst h;obtain⟨s,rfl,rfl,hs⟩:=DataW.trod_string ht hx;obtain⟨⟨l⟩⟩:=s;exact .one (d:=.str l) (by simp only[fit];exact⟨l,rfl,by simp[dB]⟩) (.str l hs) rfl
  ·rename_i e ht;split at h
   ·rename_i ce hce;split at h
    ·rename_i hk;obtain⟨hk1,hk0,hkag⟩:=hk;simp only[aQ]at h;subst h;rcases DataW.trod_slice ht hx with⟨rfl,rfl⟩|⟨ad,len,cap,elems,rest,m,rfl,rfl,rfl,hb,hlc,hcm,hel,hat,_,_⟩
     ·refine .one (d:=.sl (P.cellsOf e) []) (by simp only[fit];exact⟨[],rfl,[],rfl,by simp[dB],fun i hi=>by simp at hi⟩) ?_ rfl;exact .sl none 0 0 0 0 _ [] (fun _ _=>undef) rfl (.inl rfl) (aY _) (Nat.zero_le _) (fun i hi=>ae) (fun i hi=>ae) (fun i j hi=>ae) (fun i j hi=>ae) (fun i j hi=>ae)
     ·have key:∀i,i<len->∃(csi:List Value) (dsi:List D),(csi.length=ce.length/\∀j,j<P.cellsOf e->W.cell? ((ad.add (i*P.cellsOf e)).add j)=csi[j]?)/\fY ce dsi (dB (elems.getD i (.nil,[])).1)/\
        ∀j,j<csi.length->RD ν (vL W) (csi.getD j undef) (dsi.getD j .any)/\(csi.getD j undef).oneCell'=true:=by
       intro i hi;have q:=hat i hi;have hgi:elems[i]? =some (elems.getD i (.nil,[])):=by simp[List.getD,show i<elems.length by omega]
       rw[hgi,Option.bind_eq_some_iff]at q;obtain⟨csi,q1,q2⟩:=q;obtain⟨l1,dsi,g1,g2⟩:=tM n e ce m csi _ hce q2;obtain⟨_,_,q3⟩:=World.cells?_some q1;exact⟨csi,dsi,⟨l1,q3⟩,g1,g2⟩
      let f:Nat->List Value×List D:=fun i=>if h:i<len then((key i h).choose,(key i h).choose_spec.choose)else([],[])
      have hf:∀i,i<len->((f i).1.length=ce.length/\∀j,j<P.cellsOf e->W.cell? ((ad.add (i*P.cellsOf e)).add j)=(f i).1[j]?)/\fY ce (f i).2 (dB (elems.getD i (.nil,[])).1)/\
        ∀j,j<(f i).1.length->RD ν (vL W) ((f i).1.getD j undef) ((f i).2.getD j .any)/\((f i).1.getD j undef).oneCell'=true:=by
       intro i hi;have e1:f i=((key i hi).choose,(key i hi).choose_spec.choose):=by simp[f,hi]
       rw[e1];exact(key i hi).choose_spec.choose_spec
      let es:List D:=(List.range len).map fun i=>bif rW P e then .agg (f i).2 else(f i).2.getD 0 .any
      have hes:∀i,i<len->es.getD i .any=bif rW P e then .agg (f i).2 else(f i).2.getD 0 .any:=fun i hi=>by simp[es,hi]
      have hcells:∀i,i<len->(es.getD i .any).cells=(f i).2:=fun i hi=>by
       rw[hes i hi];cases hag:rW P e with
       |true=>rfl
       |false=>
        have h1:ce.length=1:=by
         rcases hkag with h|h
         ·rw[hag]at h;cases h
         ·exact h
        match ce,h1 with
        |[c],_=>
        have g:=(hf i hi).2.1;simp only[fY]at g;obtain⟨d,ds',n1,n2,e1,_,g1,rfl⟩:=g;rw[e1];exact(C3 g1).1
      have hnl:∀i,i<len->(es.getD i .any).bG=true:=fun i hi=>by
       have g:=p8 (hf i hi).2.1;rw[hes i hi];cases hag:rW P e with
       |true=>exact g
       |false=>
        show((f i).2.getD 0 .any).bG=true
        match hq:(f i).2 with
        |[]=>rfl
        |d::r=>
         rw[hq]at g;simp only[bt,aZ]at g;exact g.1
      refine .one (d:=.sl (P.cellsOf e) es) ?_ ?_ rfl
      ·simp only[fit];refine⟨es,rfl,elems.map fun q=>dB q.1,by simp[es,hel],by simp only[dB,CY,List.map_map];exact aY _,fun i hi=>?_⟩;have hi':i<len:=by simpa[es]using hi
       refine⟨(f i).2,hes i hi', ?_⟩;have:=(hf i hi').2.1;have e2:(elems.map fun q=>dB q.1).getD i 0=dB (elems.getD i (.nil,[])).1:=by simp[List.getD,show i<elems.length by omega]
       rw[e2];exact this
      ·have hfl:∀i,i<len->(f i).1.length=P.cellsOf e:=fun i hi=>by rw[(hf i hi).1.1,hk1]
       have hdl:∀i,i<len->(f i).2.length=P.cellsOf e:=fun i hi=>by rw[qW (hf i hi).2.1,hk1]
       have hcell:∀i j,i<len->j<P.cellsOf e->W.cell? ((ad.add (i*P.cellsOf e)).add j)=some ((f i).1.getD j undef):=fun i j hi hj=>by
        rw[(hf i hi).1.2 j hj];simp[List.getD,show j<(f i).1.length by rw[hfl i hi];exact hj]
       have hsp:es=[]\/(ad.spot=none/\ad.block<W.heap.size):=by
        by_cases h0:len=0
        ·left;simp[es,h0]
        ·right;have h1:=hcell 0 0 ae ae;have e3:(ad.add (0*P.cellsOf e)).add 0=ad:=by simp[Addr.add]
         rw[e3]at h1;refine⟨World.cell?_spot h1, ?_⟩;unfold World.cell? at h1;split at h1
         ·rename_i h2;exact(Array.getElem?_eq_some_iff.mp h2).1
         ·cases h1
       obtain⟨ab,ao,asp⟩:=ad;refine .sl (some ⟨ab,ao,asp⟩) ab ao len cap _ es (fun i j=>(f i).1.getD j undef) (by simp[es]) ?_ hlc hcm (fun i hi=>by rw[hcells i hi,hdl i hi]) hnl ?_ ?_ ?_
       ·rcases hsp with h|⟨h,h2⟩
        ·exact .inl h
        ·obtain rfl:asp=none:=h;exact .inr ⟨rfl,h2⟩
       ·intro i j hi hj;have h1:=hcell i j hi hj;rcases hsp with h|⟨h,h2⟩
        ·have:es.length=0:=by rw[h];rfl
         simp[es]at this;omega
        ·obtain rfl:asp=none:=h
         rwa [Ea]at h1
       ·intro i j hi hj;exact((hf i hi).2.2 j (by rw[hfl i hi];exact hj)).2
       ·intro i j hi hj;rw[hcells i hi];exact((hf i hi).2.2 j (by rw[hfl i hi];exact hj)).1
    ·cases h
   ·cases h
  ·rename_i fs ht;split at h
   ·rename_i b hb;split at h
    ·rename_i hlen;simp only[aQ]at h;subst h;obtain⟨xs,m,rfl,rfl,hcl,hxl,hat⟩:=DataW.trod_struct ht hx;obtain⟨ds,g1,g2⟩:=BR (W:=W) (ν:=ν) (sp:=sp) (held:=held) (enc:=enc) (m:=m) (cs:=cs) (fun t a cs x h1 h2=>tM n t a m cs x h1 h2) fs.toList 0 b xs hb (by simpa using hxl) (fun i f hf=>hat i f (by simpa using hf)) ae;refine⟨ae,ds,by simpa only[dB]using g1,fun i hi=>?_⟩;have:=g2 i ae
     rwa [cT]at this
    ·cases h
   ·cases h
  ·rename_i k e ht;split at h
   ·rename_i b hb;split at h
    ·rename_i hlen;simp only[aQ]at h;subst h;obtain⟨xs,m,rfl,rfl,hcl,hxl,hat⟩:=DataW.trod_array ht hx;obtain⟨ds,g1,g2⟩:=BR (W:=W) (ν:=ν) (sp:=sp) (held:=held) (enc:=enc) (m:=m) (cs:=cs) (fun t a cs x h1 h2=>tM n t a m cs x h1 h2) _ 0 b xs hb (by simpa using hxl) (fun i f hf=>by
      simp only[List.getElem?_map,dj]at hf;obtain⟨j,hj,rfl⟩:=hf;have hi:i<k:=by
       have:=(List.getElem?_eq_some_iff.1 hj).1;simpa using this
      obtain rfl:j=i:=by simpa[hi]using hj.symm
      exact hat j hi) ae
     refine⟨ae,ds,by simpa only[dB]using g1,fun i hi=>?_⟩;have:=g2 i ae
     rwa [cT]at this
    ·cases h
   ·cases h
  ·cases h
end
end
section
open Go.RowKit Go.ChangeShapes Go.WideShapes
def Bn (sh:Bool×List Lf)(d:D)(n:Nat):Prop:=∃ds,fY sh.2 ds n/\d=bif sh.1 then .agg ds else ds.getD 0 .any
def tz:List (Bool×List Lf)->List D->Nat->Prop
 |[],ds,_=>ds=[]
 |s::r,ds,n=>∃d ds' n1 n2,ds=d::ds'/\n1+n2<=n/\Bn s d n1/\tz r ds' n2
def mN (P:Program)(k:Nat):List TypeId->Option (List (Bool×List Lf))
 |[]=>some []
 |t::r=>match wi P k t,mN P k r with
  |some a,some b=>if rW P t=true\/a.length=1 then some ((rW P t,a)::b)else none
  |_,_=>none
section
variable {H:Type} {enc:TypeId×Value->H} {P:Program} {ν:List (Nat×Nat)}
def Ml {W:World}{sp:Nat->Bool}{held:Bool}{k base:Nat}{t:TypeId}{a:List Lf}{v:Value}{d:DataW H}{p:List MemPlace}{r:Reach}
  (ha:wi P k t=some a) (h1:rW P t=true\/a.length=1) (tf:Value.okWide P W r base t v) (h:DataW.Trod enc P W 0 sp held t v d p):
  ∃e,Bn (rW P t,a) e (dB d)/\e.bG=true/\RD ν (vL W) v e:=by
 obtain⟨fuel,hf⟩:=h;obtain⟨hl,ds,g1,g2⟩:=tM (ν:=ν) k t a fuel v.cells.toList (d,p) ha hf;have hdl:=qW g1;have hnl:=p8 g1;refine⟨_,⟨ds,g1,rfl⟩, ?_⟩;cases hag:rW P t with
 |true=>
  have:∃cs,v=.agg cs/\cs.size=P.cellsOf t:=by
   match k,ha with
   |n+1,ha=>
   unfold wi at ha;unfold rW at hag;split at ha
   ·simp_all
   ·simp_all
   ·simp_all
   ·simp_all
   ·rename_i fs ht;exact okWide_struct ht tf
   ·rename_i m e ht;simp only[Value.okWide,ht]at tf;obtain⟨cs,h1,h2,_⟩:=tf;exact⟨cs,h1,h2⟩
   ·simp_all
  obtain⟨cs,rfl,hcs⟩:=this;refine⟨hnl, ?_⟩;have hl':cs.size=a.length:=by simpa[Value.cells]using hl
  have e:∀i,(Value.agg cs).cells.toList.getD i undef=cs.getD i undef:=fun i=>by
   simp only[Value.cells];by_cases hi:i<cs.size<;>simp[List.getD,Array.getD,hi]
  refine .agg cs ds ae (fun i hi=>?_) fun i hi=>?_
  ·rw[<-e];exact(g2 i (by simp only[Value.cells,Array.length_toList];omega)).2
  ·rw[<-e];exact(g2 i (by simp only[Value.cells,Array.length_toList];omega)).1
 |false=>
  have h1:a.length=1:=by
   rcases h1 with h|h
   ·rw[hag]at h;cases h
   ·exact h
  have hv:v.cells.toList.getD 0 undef=v:=by
   match k,ha with
   |n+1,ha=>
   unfold wi at ha;unfold rW at hag;split at ha
   ·rename_i ht;obtain⟨b,rfl⟩:=okWide_bool ht tf;rfl
   ·rename_i k ht;obtain⟨b,rfl⟩:=okWide_int ht tf;rfl
   ·rename_i ht;obtain⟨b,rfl⟩:=okWide_string ht tf;rfl
   ·rename_i e ht;obtain⟨b,c,f,rfl⟩:=okWide_slice ht tf;rfl
   ·rename_i fs ht;rw[ht]at hag;cases hag
   ·rename_i m e ht;rw[ht]at hag;cases hag
   ·cases ha
  have g:=g2 0 ae;rw[hv]at g;refine⟨?_,g.1⟩
  match ds,hdl with
  |[d0],_=>simpa[bt]using hnl
  |[],h=>simp at h;omega
  |_::_::_,h=>simp at h;omega
def CR {W:World}{sp:Nat->Bool}{held:Bool}{k base:Nat}{r:Reach}:∀(ts:List TypeId)(shs:List (Bool×List Lf))(vs:List Value)(dws:List (DataW H))(ps:List MemPlace),
  mN P k ts=some shs->(∀(j:Nat) t v,ts[j]? =some t->vs[j]? =some v->Value.okWide P W r base t v)->DataW.TrodAll enc P W 0 sp held ts vs dws ps->
  ∃es:List D,tz shs es (Et dws)/\es.length=vs.length/\dws.length=ts.length/\bt es=true/\∀i,i<es.length->RD ν (vL W) (vs.getD i undef) (es.getD i .any)
 |[],shs,vs,dws,ps,hs,_,h=>by
  simp only[mN,aQ]at hs;subst hs;obtain⟨rfl,rfl,rfl⟩:=trodAll_nil h;exact⟨[],rfl,rfl,rfl,rfl,fun i hi=>by simp at hi⟩
 |t::ts,shs,vs,dws,ps,hs,hv,h=>by
  simp only[mN]at hs;split at hs
  ·rename_i a b h1 h2;split at hs
   ·rename_i hc;simp only[aQ]at hs;subst hs;obtain⟨v,vs',d,ds',p,q,rfl,rfl,rfl,h3,h4⟩:=trodAll_cons h;obtain⟨e,g1,g2,g3⟩:=Ml (ν:=ν) h1 hc (hv 0 t v rfl rfl) h3;obtain⟨es,k1,k2,k3,k4,k5⟩:=CR ts b vs' ds' q h2 (fun j t v h5 h6=>hv (j+1) t v (by simpa using h5) (by simpa using h6)) h4;refine⟨e::es,⟨e,es,_,_,rfl,aY _,g1,k1⟩,by simp[k2],by simp[k3],by simp[bt,g2,k4],fun i hi=>?_⟩
    match i,hi with
    |0,_=>exact g3
    |i+1,hi=>exact k5 i (by simpa using hi)
   ·cases hs
  ·cases hs
def pN {W W':World}(hl:laidOutB P=true)(hb:Below W.heap.size W W'){sp':Nat->Bool}:∀(ts:List TypeId)(vs:List Value)(dws:List (DataW H))(ps:List MemPlace),
  (ts.all fun t=>P.readableRec t&&decide (t<P.types.size))=true->(∀x∈ps,x.block<W.heap.size)->(∀x∈ps,sp' x.block=true)->
  DataW.TrodAll enc P W 0 (fun _=>true) true ts vs dws ps->DataW.TrodAll enc P W' 0 sp' true ts vs dws ps
 |[],vs,dws,ps,_,_,_,h=>by
  obtain⟨rfl,rfl,rfl⟩:=trodAll_nil h;exact trodAll_mk0
 |t::ts,vs,dws,ps,ht,hlt,hsp,h=>by
  obtain⟨v,vs',d,ds',p,q,rfl,rfl,rfl,h3,h4⟩:=trodAll_cons h;simp only[List.all_cons,aZ,aR]at ht;refine trodAll_cons_mk (WideElems.Trod_stays hl ht.1.1 ht.1.2 h3 (fun x hx=>hb.same (hlt x (by simp[hx]))) fun x hx=>hsp x (by simp[hx])) ?_;exact pN hl hb ts vs' ds' q ht.2 (fun x hx=>hlt x (by simp[hx])) (fun x hx=>hsp x (by simp[hx])) h4
end
end
def Jy {c:Lf}{d:D}{n:Nat}(h:fit c d n):1<=n:=by
 cases c<;>simp only[fit]at h
 ·obtain⟨s,_,h⟩:=h;omega
 ·exact h.2
 ·exact h.2
 ·obtain⟨es,_,ns,_,h,_⟩:=h;omega
def DQ:∀(ns:List Nat)(i:Nat),i<ns.length->ns.getD i 0<=ns.sum
 |a::r,0,_=>aT
 |a::r,i+1,h=>by
  have:=DQ r i (by simpa using h);simp only[List.getD_cons_succ,List.sum_cons];omega
def DR:∀(ns:List Nat),(∀i,i<ns.length->1<=ns.getD i 0)->ns.length<=ns.sum
 |[],_=>aT
 |a::r,h=>by
  have h0:=h 0 aT;have:=DR r fun i hi=>h (i+1) (by simpa using hi)
  simp only[ku]at h0;simp only[ay,List.sum_cons];omega
def sn {α:Type}{q:α->D}{G:α->Prop}{ag:Bool}{k:Nat}{cs:List Lf}{d:D}{n:Nat}(hcs:cs≠[])
  (hd:∀ds m,m<=n->fY cs ds m->∃x,(bif ag then D.agg ds else ds.getD 0 .any)=q x/\G x) (h:fit (.sl ag k cs) d n):
  ∃xs:List α,d=.sl k (xs.map q)/\xs.length+1<=n/\∀x∈xs,G x:=by
 simp only[fit]at h;obtain⟨es,rfl,ns,hl,hs,he⟩:=h;have hone:∀i,i<ns.length->1<=ns.getD i 0:=fun i hi=>by
  obtain⟨ds,_,h2⟩:=he i ae
  match cs,hcs with
  |c::r,_=>
  simp only[fY]at h2;obtain⟨d,ds',n1,n2,_,h3,h4,_⟩:=h2;have:=Jy h4;omega
 have hlen:=DR ns hone;have key:∀i,i<es.length->∃x,es.getD i .any=q x/\G x:=fun i hi=>by
  obtain⟨ds,h1,h2⟩:=he i hi;obtain⟨x,h3,h4⟩:=hd ds _ (by have:=DQ ns i ae;omega) h2;exact⟨x,h1.trans h3,h4⟩
 have conv:∀es:List D,(∀i,i<es.length->∃x,es.getD i .any=q x/\G x)->∃xs:List α,es=xs.map q/\∀x∈xs,G x:=by
  intro es;induction es with
  |nil=>exact fun _=>⟨[],rfl,fun x hx=>by cases hx⟩
  |cons e r ih=>
   intro h;obtain⟨x,h1,h2⟩:=h 0 aT;obtain⟨xs,h3,h4⟩:=ih fun i hi=>by simpa using h (i+1) (by simpa using hi)
   simp only[ku]at h1;refine⟨x::xs,by rw[h3,h1];rfl,fun y hy=>?_⟩;rcases dy.1 hy with rfl|hy
   ·exact h2
   ·exact h4 y hy
 obtain⟨xs,rfl,hx⟩:=conv es key
 refine⟨xs,rfl, ?_,hx⟩;simp only[cI]at hl;omega
def AQ {d:D}{n:Nat}(h:fit (.sl false 1 [.str]) d n):∃xs:List au,d=.sl 1 (xs.map D.str)/\xs.length+1<=n/\∀x∈xs,x.length+1<=n:=
 sn (q:=D.str) (G:=fun x=>x.length+1<=n) aT (fun ds m hm h=>by
  simp only[fY,fit]at h;obtain⟨d,ds',n1,n2,rfl,_,⟨x,rfl,_⟩,rfl⟩:=h;exact⟨x,rfl,ae⟩) h
section
open Go.RowKit Go.ChangeShapes Go.WideShapes
def ctxp {t:List (Nat×pP)}{n:Nat}{ds:List D}{d:D}(hD:PE (lk t n lN).rel)(h:(lk t n lN).rel ds d):(vZ t).pre n ds/\(vZ t).val n ds=d:=⟨⟨d,h⟩,hD _ _ _ (mI ⟨d,h⟩) h⟩
def DX:List Lf:=[.str,.str,.sl false 1 [.str],.bool]
def Dq:List Lf:=[.sl true 4 DX,.str,.str]
def Jk:List Lf:=[.str,.str,.str]
def C2:List Lf:=[.str,.sl false 1 [.str]]
section
variable {H:Type} {enc:TypeId×Value->H} {P:Program} {ν:List (Nat×Nat)}
def BO [c7]{cE:List Nat}{Y:Ctx}(hok:Ok P ν cE Y){fid n k base:Nat}{f:Func}{s:ChangeSpec}{tb:TypeId}{shs:List (Bool×List Lf)}{r:Reach}
  {W:World} {args:Array Value} {ds gs:List (DataW H)} {before:List MemPlace}
  (hf:P.funcs[fid]? =some f) (hnm:(f.name== "runtime.NumGoroutine")=false) (hbody:f.body.isSome=true) (hn:ez ν fid=some n)
  (hl:laidOutB P=true) (hts:(f.params.toList.all fun t=>P.readableRec t&&decide (t<P.types.size))=true)
  (hsh:mN P k f.params.toList=some shs) (hres:f.resultTypes=#[tb]) (htb:P.underlying tb=some .bool)
  (hvars:s.vars=[]) (hfn:∀xs:List (DataW H),xs.length=f.params.toList.length->s.fn H xs={results:=[.lit (.bool true)],args:=xs})
  (hgd:c7.gd (vL W)) (hpre:∀es,tz shs es (Et ds)->(∀i,i<es.length->∃v,RD ν (vL W) v (es.getD i .any))->Y.pre n es/\Y.val n es=.bool true)
  (hargs:∀(j:Nat) t v,f.params[j]? =some t->args[j]? =some v->Value.okWide P W r base t v)
  (hW:DataW.Whole enc P f.params.toList s.vars false W args.toList ds gs before):
  Calls P fid args W fun e W'=>∃v,e=.returned v/\s.post enc P f false true false false W args v W':=by
 have hW':=hW;obtain⟨p,q,hA,hV,rfl,hz,hnd⟩:=hW;rw[hvars]at hV;obtain⟨rfl,rfl⟩:=trodVars_none hV;obtain⟨es,h1,h2,h3,h4,h5⟩:=CR (ν:=ν) f.params.toList shs args.toList ds p hsh (fun j t v e1 e2=>hargs j t v (by simpa using e1) (by simpa using e2)) hA;have hsz:args.size=es.length:=by simpa using h2.symm
 obtain⟨hp1,hp2⟩:=hpre es h1 fun i hi=>⟨_,h5 i hi⟩
 have hd:=hok.pure fid n hn (vL W) args es hsz (fun i hi=>by
  have:=h5 i hi;have e:args.toList.getD i undef=args.getD i undef:=by
   have hi':i<args.size:=ae;simp[List.getD,Array.getD,hi']
  rwa [e]at this) h4 (fun b hb=>hb) hgd hp1
 rw[iZ hf hnm hbody args]at hd;rcases hd with⟨v,x',hd|hd,_⟩|⟨f',args',hd,hc⟩
 ·cases hd
 ·cases hd.1
 ·cases hd;refine Calls.mono hc fun e W' he=>?_
  match e,he with
  | .returned v,he=>
   obtain⟨x',rfl,hp,hr⟩:=he;rw[hp2]at hr;obtain rfl:v=.bool true:=by cases hr;rfl
   have hb:Below W.heap.size W x'.w:=hp.grow.below;have hlt:=hW'.lt;have e1:s.fn H (ds++[])={results:=[.lit (.bool true)],args:=ds}:=by rw[jq];exact hfn ds h3
   refine⟨_,rfl,wm (pa:=p) (pv:=[]) hW' (fun b sp hd=>?_) (fun sp hsp=>?_) (fun sp hsp=>?_) rfl hb (ok_one hres rfl (okWide_bool_mk htb _))⟩
   ·rw[e1,hres];exact trodAll_mk1 (shut_bool htb _)
   ·rw[e1];exact pN hl hb _ _ _ _ hts (fun x hx=>by simpa using hlt x (by simpa using hx)) (fun x hx=>hsp x (by simpa using hx)) hA
   ·rw[e1,hvars];rfl
end
end
section
open Go.RowKit Go.ChangeShapes Go.WideShapes
def Ju:List Lf:=[.str,.int .i64,.int .i64,.int .i64,.str,.str,.sl true 3 Dq,.sl true 3 Jk,.sl true 2 C2,.int .u64,.bool]
def Kq:List Lf:=[.str,.sl true 11 Ju]
def FW {ds:List D}{n:Nat}(h:fY DX ds n):∃x:cQ,D.agg ds=x.D/\(n<=1048576->x.sm):=by
 simp only[DX,fY]at h;obtain⟨d1,_,m1,r1,rfl,a1,h1,d2,_,m2,r2,rfl,a2,h2,d3,_,m3,r3,rfl,a3,h3,d4,_,m4,r4,rfl,a4,h4,rfl⟩:=h;obtain⟨xs,rfl,b1,b2⟩:=AQ h3;simp only[fit]at h1 h2 h4;obtain⟨s1,rfl,c1⟩:=h1;obtain⟨s2,rfl,c2⟩:=h2;obtain⟨⟨s4,rfl⟩,c4⟩:=h4;exact⟨⟨s1,s2,xs,s4⟩,rfl,fun hn=>⟨⟨eB,eB⟩,fun t ht=>by have:=b2 t ht;omega⟩⟩
def EX {ds:List D}{n:Nat}(hn:n<=1048576)(h:fY Dq ds n):∃x:cB,D.agg ds=x.D/\x.sm:=by
 simp only[Dq,fY]at h;obtain⟨d1,_,m1,r1,rfl,a1,h1,d2,_,m2,r2,rfl,a2,h2,d3,_,m3,r3,rfl,a3,h3,rfl⟩:=h;obtain⟨xs,rfl,b1,b2⟩:=sn (ag:=true) (q:=cQ.D) (G:=cQ.sm) (by simp[DX]) (fun ds m hm h=>(FW h).imp fun x h=>⟨h.1,h.2 ae⟩) h1;simp only[fit]at h2 h3;obtain⟨s2,rfl,c2⟩:=h2;obtain⟨s3,rfl,c3⟩:=h3;exact⟨⟨xs,s2,s3⟩,rfl,b2,eB,eB⟩
def GA {ds:List D}{n:Nat}(hn:n<=1048576)(h:fY Jk ds n):∃x:kJ,D.agg ds=x.D/\x.sm:=by
 simp only[Jk,fY]at h;obtain⟨d1,_,m1,r1,rfl,a1,h1,d2,_,m2,r2,rfl,a2,h2,d3,_,m3,r3,rfl,a3,h3,rfl⟩:=h;simp only[fit]at h1 h2 h3;obtain⟨s1,rfl,c1⟩:=h1;obtain⟨s2,rfl,c2⟩:=h2;obtain⟨s3,rfl,c3⟩:=h3;exact⟨⟨s1,s2,s3⟩,rfl,eB,eB,eB⟩
def Ez {ds:List D}{n:Nat}(hn:n<=1048576)(h:fY C2 ds n):∃x:bW,D.agg ds=x.D/\x.sm:=by
 simp only[C2,fY]at h;obtain⟨d1,_,m1,r1,rfl,a1,h1,d2,_,m2,r2,rfl,a2,h2,rfl⟩:=h;obtain⟨xs,rfl,b1,b2⟩:=AQ h2;simp only[fit]at h1;obtain⟨s1,rfl,c1⟩:=h1;exact⟨⟨s1,xs⟩,rfl,eB,eB,fun t ht=>by have:=b2 t ht;omega⟩
def Jv {ds:List D}{n:Nat}(hn:n<=1048576)(h:fY Ju ds n):∃x:eu,D.agg ds=x.D/\dh x.r:=by
 simp only[Ju,fY]at h;obtain⟨d1,_,m1,r1,rfl,a1,h1,d2,_,m2,r2,rfl,a2,h2,d3,_,m3,r3,rfl,a3,h3,d4,_,m4,r4,rfl,a4,h4,d5,_,m5,r5,rfl,a5,h5,d6,_,m6,r6,rfl,a6,h6,d7,_,m7,r7,rfl,a7,h7,d8,_,m8,r8,rfl,a8,h8,d9,_,m9,r9,rfl,a9,h9,d10,_,m10,r10,rfl,a10,h10,d11,_,m11,r11,rfl,a11,h11,rfl⟩:=h;obtain⟨x7,rfl,_,b7⟩:=sn (ag:=true) (q:=cB.D) (G:=cB.sm) (by simp[Dq]) (fun ds m hm h=>EX ae h) h7;obtain⟨x8,rfl,_,b8⟩:=sn (ag:=true) (q:=kJ.D) (G:=kJ.sm) (by simp[Jk]) (fun ds m hm h=>GA ae h) h8;obtain⟨x9,rfl,_,b9⟩:=sn (ag:=true) (q:=bW.D) (G:=bW.sm) (by simp[C2]) (fun ds m hm h=>Ez ae h) h9;simp only[fit]at h1 h2 h3 h4 h5 h6 h10 h11;obtain⟨s1,rfl,c1⟩:=h1;obtain⟨⟨s2,rfl,_⟩,c2⟩:=h2;obtain⟨⟨s3,rfl,_⟩,c3⟩:=h3;obtain⟨⟨s4,rfl,_⟩,c4⟩:=h4;obtain⟨s5,rfl,c5⟩:=h5;obtain⟨s6,rfl,c6⟩:=h6;obtain⟨⟨iP,rfl,_⟩,c10⟩:=h10;obtain⟨⟨kp,rfl⟩,c11⟩:=h11;exact⟨⟨⟨s1,⟨s2,s3,s4,s5,s6⟩,x7,x8,x9⟩,iP,kp⟩,rfl,⟨eB,by unfold bX.sm;dsimp only;omega⟩,b7,b8,b9⟩
def Kr {d:D}{n:Nat}(hn:n<=1048576)(h:Bn (true,Kq) d n):∃s:fD,d=s.D/\∀x∈s.es,dh x.r:=by
 obtain⟨ds,h,rfl⟩:=h;simp only[Kq,fY]at h;obtain⟨d1,_,m1,r1,rfl,a1,h1,d2,_,m2,r2,rfl,a2,h2,rfl⟩:=h;obtain⟨es,rfl,_,b⟩:=sn (ag:=true) (q:=eu.D) (G:=fun x=>dh x.r) (by simp[Ju]) (fun ds m hm h=>Jv ae h) h2;simp only[fit]at h1;obtain⟨s1,rfl,c1⟩:=h1;exact⟨⟨s1,es⟩,rfl,b⟩
end
end Go.Abs
section
namespace Go.Proofs.YtgnjlompgjhaaaaGreatDoor
open Go.Abs Go.ChangeShapes Go.WideShapes Go.ChangeAt Go.RowKit Go.Proofs
def own:ownKnob Tryz.prog.godebug=none:=by kernel_rfl
def Hl:laidOutB Tryz.prog=true:=by kernel_rfl
def q9 {P:Program}{W:World}{y:String×DataW Unit}{l:List (String×DataW Unit)}(h:laidMet P (y::l) W):laidMet P l W:=by
 obtain⟨ps,⟨g,t,cs,fuel,p,q,_,_,_,_,h1,rfl⟩,h2,h3⟩:=h;refine⟨q,h1,(List.nodup_append.1 h2).2.1,fun b off hm=>h3 b off (by simp[hm])⟩
def Dk {W:World}{b:Nat}{o:Nat}{v:Value}(h:W.cell? ⟨b,o,none⟩=some v):b<W.heap.size:=by
 unfold World.cell? at h;split at h
 ·rename_i h2;exact(Array.getElem?_eq_some_iff.mp h2).1
 ·cases h
def Rb {W:World}(hL:laidMetH Tryz.prog Rows.indexPrintsRow.laid W)(hsh:W.ShapedOpen Tryz.prog):c7.gd (vL W):=by
 have hL':laidMet Tryz.prog Rows.indexPrintsRow.laid W:=hL;have htab:Lib.TabIs Tryz.prog W "internal/strconv.uint64pow10" .u64 Lib.pow10Tab:=
  Lib.tabIs_of_head (g:=3) (t:=275) (e:=52) (n:=20) (by kernel_rfl) (by kernel_rfl) (by kernel_rfl) (by kernel_rfl) (by kernel_rfl) (by kernel_rfl) (q9 (q9 hL'))
 obtain⟨m,hm⟩:∃m,W.cell? ⟨0,0,none⟩=some (.int .i64 m):=Tryz.laysM219.s1_3 W hsh
 have h3:=htab.cell sR 0 (by decide);exact⟨⟨Dk hm,m,hm⟩,Dk h3,htab⟩
def Eg {H:Type}:(∀d:DataW H,dB d<=Rows.uptoBulk d)/\(∀ds:List (DataW H),Et ds<=Rows.uptoBulkAll ds):=by
 have key:∀n,(∀d:DataW H,SizeOf.sizeOf d<=n->dB d<=Rows.uptoBulk d)/\(∀ds:List (DataW H),SizeOf.sizeOf ds<=n->Et ds<=Rows.uptoBulkAll ds):=by
  intro n;induction n with
  |zero=>
   refine⟨fun d h=>?_,fun ds h=>?_⟩
   ·cases d<;>simp at h<;>omega
   ·cases ds<;>simp at h<;>omega
  |succ n ih=>
   refine⟨fun d h=>?_,fun ds h=>?_⟩
   ·cases d with
    |lit l=>cases l<;>simp[dB,Rows.uptoBulk]
    |slice es sp=>
     have:=ih.2 es (by simp at h;omega);simp only[dB,Rows.uptoBulk];omega
    |agg ps=>
     have:=ih.2 ps (by simp at h;omega);simp only[dB,Rows.uptoBulk];omega
    |_=>simp[dB,Rows.uptoBulk]
   ·cases ds with
    |nil=>simp[Et]
    |cons d r=>
     have h1:=ih.1 d (by simp at h;omega);have h2:=ih.2 r (by simp at h;omega);simp only[Et,Rows.uptoBulkAll];omega
 exact⟨fun d=>(key _).1 d (Nat.le_refl _),fun ds=>(key _).2 ds (Nat.le_refl _)⟩
mutual
def zl {H:Type}:DataW H->List Value
 | .lit (.int k n)=>[.int k n]
 | .agg ps=>GP ps
 |_=>[]
def GP {H:Type}:List (DataW H)->List Value
 |[]=>[]
 |d::r=>zl d++GP r
end
def put (d:DataW Unit):Obj->Obj
 | .cells _ t frozen=>.cells (zl d).toArray t frozen
 |o=>o
noncomputable def rY (os:Os):World:=
 {World.holding Tryz.prog os ⟨#[],#[],[]⟩with heap:=(((((World.holding Tryz.prog os ⟨#[],#[],[]⟩).heap.modify 1 (put Rows.laid_unicode_utf8_first)).modify 2 (put Rows.laid_unicode_utf8_acceptRanges)).modify 3 (put Rows.laid_internal_strconv_uint64pow10)).modify 4 (put Rows.laid_math_bits_deBruijn32tab)).modify 5 (put Rows.laid_math_bits_deBruijn64tab)}
def strZ:Value:=.string ⟨#[]⟩
end Go.Proofs.YtgnjlompgjhaaaaGreatDoor
end
section
namespace Go.Proofs.YtgnjlompgjhaaaaGreatDoor
open Go.Abs Go.ChangeShapes Go.WideShapes Go.ChangeAt Go.RowKit Go.Proofs
def gZ:Array Value:=#[.agg #[strZ,.slice none 0 0]]
def ou (os:Os):laidMet Tryz.prog Rows.indexPrintsRow.laid ((rY os).forCall (fun _ _=>0) ⟨#[],gZ,[]⟩).memory:=
 laidMet_of_run' 8 (by kernel_rfl) (by kernel_rfl)
def qq:mN Tryz.prog 20 Tryz.f3.params.toList=some [(true,Kq)]:=by kernel_rfl
def tp {es:List D}{n:Nat}(hn:n<=1048576)(h:tz [(true,Kq)] es n):(vZ aX).pre 1196 es/\(vZ aX).val 1196 es=.bool true:=by
 obtain⟨d1,_,n1,m1,rfl,a1,h1,rfl⟩:=h;obtain⟨v1,rfl,k1⟩:=Kr (by omega) h1;exact ctxp PD fun T h=>h v1 k1
def rq (os:Os){H:Type}(enc:TypeId×Value->H):∃places,DataW.whole enc Tryz.prog ((rY os).forCall (fun _ _=>0) ⟨#[],gZ,[]⟩).memory Tryz.f3.params.toList Rows.indexPrintsSpec.vars false gZ.toList 8=
  some ([.agg [.lit (.string []),.nil]],[],places):=
 ⟨[],by kernel_rfl⟩
set_option maxRecDepth 100000 in
theorem qa (os:Os)(started:os.Started)(H:Type)(enc:TypeId×Value->H)(F:Stop.Interp):
  ReturnsInHanded {} Tryz.checked os 3 .any ((Rows.OpenSpec.upto Rows.indexPrintsSpec).preRow enc Tryz.prog Tryz.f3 Rows.indexPrintsUptoRow.domain false Rows.indexPrintsUptoRow.laid) (((Rows.OpenSpec.upto Rows.indexPrintsSpec).at F).post enc Tryz.prog Tryz.f3 false true false false):=by
 obtain⟨places,hx⟩:=rq os enc;refine returnsInHanded_of_row (C:=Tryz.checked) (s:=Rows.OpenSpec.upto Rows.indexPrintsSpec) own started (by kernel_rfl) Tryz.func3
  (witness_row_at (enc:=enc) (C:=Tryz.checked) false (rY os) gZ rfl (by kernel_rfl) (by kernel_rfl) (by kernel_rfl)
    (OpenSpec.preRow_of_cond 8 hx (by kernel_rfl) (fun k hk=>by cases hk;kernel_rfl) (by kernel_rfl) (ou os))) ?_
 intro W base args ds gs before tf hW _ hcond _ hL hsh _;have hk:Rows.uptoSmall H (ds++gs)=true:=hcond _ rfl;have hb:Rows.uptoBulkAll ds<=1048576:=by
  have h1:Rows.uptoBulkAll (ds++gs)<=1048576:=of_decide_eq_true hk;have h2:∀(l r:List (DataW H)),Rows.uptoBulkAll l<=Rows.uptoBulkAll (l++r):=fun l r=>by
   induction l with
   |nil=>simp[Rows.uptoBulkAll]
   |cons x l ih=>simp only[List.cons_append,Rows.uptoBulkAll];omega
  exact Nat.le_trans (h2 _ _) h1
 refine BO (n:=1196) (k:=20) (s:=(Rows.OpenSpec.upto Rows.indexPrintsSpec).at F) (tb:=4) okY Tryz.func3 (by kernel_rfl) (by kernel_rfl) (by kernel_rfl) Hl (by kernel_rfl) qq (by kernel_rfl) (by kernel_rfl) rfl (fun xs hx=>?_) (Rb hL hsh)
  (fun es he _=>tp (Nat.le_trans (Eg.2 ds) hb) he) tf hW
 match xs,hx with
 |[a],_=>rfl
def uu:Tryz.prog.inPlace 3=Rows.indexPrintsUptoRow.inPlace:=by kernel_rfl
def uv:Tryz.prog.unfollowed 3=Rows.indexPrintsUptoRow.unfollowed:=by kernel_rfl
def uw:Tryz.prog.recurses 3=Rows.indexPrintsUptoRow.recurses:=by kernel_rfl
def ux:Tryz.prog.varsNamed 3=Rows.indexPrintsUptoRow.named:=by kernel_rfl
def pV:joinedFacts Tryz.prog 3 Tryz.f3 (Rows.OpenSpec.upto Rows.indexPrintsSpec).bare Rows.indexPrintsUptoRow=true:=by
 unfold joinedFacts;rw[uu,uv,uw,ux]
 kernel_rfl
def oI:Rows.IndexPrintsUptoSaid:=
 OpenClaim.holds_of_cond 3 Tryz.f3 rfl rfl rfl rfl rfl rfl rfl ⟨rfl,rfl,rfl,rfl,rfl⟩ rfl rfl rfl rfl rfl (by kernel_rfl) Tryz.func3 pV
  (of_decide_eq_true (by kernel_rfl)) (by unfold Func.isWrapper;first|(rw[if_pos (by decide+kernel)];kernel_rfl)|(rw[if_neg (by decide+kernel)];exact⟨rfl,rfl⟩))
  (fun os started H enc _ F=>by rw[OpenClaim.pre_eq_preRow];exact qa os started H enc F)
def rk (f:FuncId)(fn:Func)(hf:Tryz.pinned.checked.prog.funcNamed "linchpin/linchpinlaw14.IndexPrints" =some f)(hfn:Tryz.pinned.checked.prog.funcs[f]? =some fn):
  false=Tryz.pinned.checked.prog.looks []/\∀(j:Nat) t,fn.params[j]? =some t->Tryz.pinned.checked.prog.wantsStandIn t=false:=by
 obtain rfl:f=3:=Option.some.inj ((show Tryz.prog.funcNamed "linchpin/linchpinlaw14.IndexPrints" =some 3 by kernel_rfl).symm.trans hf) |>.symm
 obtain rfl:fn=Tryz.f3:=(Option.some.inj (Tryz.func3.symm.trans hfn)).symm;refine⟨by kernel_rfl,fun j t ht=>?_⟩;have hall:(Tryz.f3.params.toList.all fun t=>!Tryz.prog.wantsStandIn t)=true:=by kernel_rfl
 have:=List.all_eq_true.1 hall t (by simpa using Array.mem_of_getElem? ht);show Tryz.prog.wantsStandIn t=false;simpa using this
theorem cardUpto_indexPrints:Rows.IndexPrintsUptoCardSaid:=
 Claim7.holds_tied_plain_at .later [] _ _ _ _ oI (fun _ h=>by cases h) (by kernel_rfl) (fun _ h=>by cases h) indexPrintsUpto_row_tie rfl ⟨rfl,rfl⟩ (by kernel_rfl) rfl rk (by kernel_rfl)
end Go.Proofs.YtgnjlompgjhaaaaGreatDoor
end
#print axioms Go.Proofs.YtgnjlompgjhaaaaGreatDoor.cardUpto_indexPrints
