/- In a shelf's text with one entry, a digit of the sum that is changed is told by Parse with the number of its line. -/
import Derived.Carry
import Derived.ChangeArms
import Derived.ChangeSame
import Derived.Deep.DeepHandedRow
import Derived.Lib.LaidTab
import Derived.OpenShut
import Derived.RowKit
import Derived.Test.YtgnjlompgjhaaaaGreatDoorCards
import Derived.Test.YtgnjlompgjhaaaaGreatDoorTie
import Derived.WideKeyArgs
import Derived.WideShapes
import Derived.Test.YtgnjlompgjhaaaaGreatDoorP11
set_option linter.all false
set_option maxRecDepth 4000
namespace Go.Abs
section
open Go.Proofs Go.Shelf Go.RowKit
section
variable [dz] {P:Program} {ν:List (Nat×Nat)} {cP:List Nat} {Y:Ctx} {x:X}
def Hy {m:List (Nat×bO)}{l:Nat}{t:List UInt8}{v:Value}(hs:fW ν x (look m))(hb:sP m l t)(hv:RD ν x v (.ptr l 2 0 0)):
  ∃b tot u w,v=.pointer (some ⟨b,0,none⟩)/\x.β l=some (b,0,tot)/\¬x.I b/\x.w.heap[b]? =some (sF b u w dz.tB)/\mW dz.tU x.w w t/\
   (w.ownBlock=none/\fZ m l=m\/∃l2 g t2,w=.slice (some ⟨g,0,none⟩) t.length t2/\x.β l2=some (g,0,t2)/\¬x.I g/\look m l2=some (.row t)/\l2≠l/\fZ m l=cX m l2):=by
 cases hv with
 |ptr _ _ _ _ b base tot at_ hβ hat=>
  rcases hb with⟨u,h1,rfl⟩|⟨l2,u,h1,h2⟩
  ·obtain⟨o1,rfl,w,o2,_,rfl⟩:=hs.own l _ b base tot h1 hβ;simp only[Nat.zero_mul,Nat.add_zero]at hat;subst hat;exact⟨b,tot,u,_,rfl,hβ,o1,o2,.inl ⟨rfl,rfl⟩,.inl ⟨rfl,by simp only[fZ,h1]⟩⟩
  ·obtain⟨o1,rfl,w,o2,g,t2,rfl,o3,o4⟩:=hs.own l _ b base tot h1 hβ;simp only[Nat.zero_mul,Nat.add_zero]at hat;subst hat;obtain⟨p1,_,c,p2,p3,p4,p5,p6⟩:=hs.own l2 _ g 0 t2 h2 o4;have hne:l2≠l:=by rintro rfl;rw[h1]at h2;cases h2
   exact⟨b,tot,u,_,rfl,hβ,o1,o2,.inr ⟨g,t2,c,rfl,p2,p3,p4,p5,p6⟩,.inr ⟨l2,g,t2,rfl,o4,p1,h2,hne,by simp only[fZ,h1]⟩⟩
def CX {st:St}{l:Nat}{t s:List UInt8}{b tot:Nat}{w:Value}{w':World}(hs:fW ν x (look st.m))(hf:fU st x)(hlive:look st.m l≠none)(hl:l<st.nx)
  (hβ:x.β l=some (b,0,tot)) (hI:¬x.I b)
  (hrow:w.ownBlock=none/\fZ st.m l=st.m\/∃l2 g t2,w=.slice (some ⟨g,0,none⟩) t.length t2/\x.β l2=some (g,0,t2)/\¬x.I g/\look st.m l2=some (.row t)/\l2≠l/\fZ st.m l=cX st.m l2)
  (hw:EK dz.tB dz.tU b w.ownBlock s x.w w'):
  ∃x':X,x'.w=w'/\Step x x'/\fW ν x' (look (qL st.m l st.nx s))/\fU ⟨st.nx+1,qL st.m l st.nx s⟩ x':=by
 obtain⟨g',t',h1,h2,h3,h4,h5,k1,k2,k3,k4,k5⟩:=hw;have hn:=hf.β st.nx (aQ _)

 have hg:∀g,w.ownBlock=some g->∃l2 t2,x.β l2=some (g,0,t2)/\¬x.I g/\look st.m l2=some (.row t)/\l2≠l/\fZ st.m l=cX st.m l2:=by
  intro g hg;rcases hrow with⟨h,_⟩|⟨l2,g0,t2,rfl,q⟩
  ·rw[h]at hg;cases hg
  ·obtain rfl:=b9 hg;exact⟨l2,t2,q⟩
 have hlook:∀l' blk,l'≠l->look (fZ st.m l) l'=some blk->look st.m l'=some blk/\∀g,w.ownBlock=some g->∀p,x.β l'=some p->p.1≠g:=by
  intro l' blk hl' hk;rcases hrow with⟨h,e⟩|⟨l2,g0,t2,rfl,q1,q2,q3,q4,e⟩
  ·rw[e]at hk;exact⟨hk,fun g hg=>by rw[h]at hg;cases hg⟩
  ·rw[e,gM]at hk;split at hk
   ·cases hk
   ·rename_i hne;refine⟨hk,fun g hg p hp e=>?_⟩;obtain rfl:=b9 hg;obtain⟨b',base',tot'⟩:=p;simp only at e;subst e;exact hne (hs.inj l' l2 _ _ _ _ _ (by rw[hk];simp) (by rw[q3];simp) hp q1)
 have hbg:∀l' p,x.β l'=some p->p.1<x.w.heap.size:=fun l' ⟨b',base',tot'⟩ hp=>hs.eJ l' b' base' tot' hp
 have hkeep:∀k,k<x.w.heap.size->k≠b->some k≠w.ownBlock->w'.heap[k]? =x.w.heap[k]? :=k5
 let x':X:=⟨w',x.I,eB x.β st.nx (g',0,t')⟩
 have hst:Step x x':=by
  refine⟨k1,k2,k3,k4,fun _ h=>h,fun k hk=>hkeep k (hs.imm k hk) (fun e=>hI (e▸hk)) (fun e=>?_),fun l' p hp=>?_,fun k hk hn'=>hkeep k hk (fun e=>hn' l _ hβ e.symm) (fun e=>?_),fun _ h=>.inl h,fun l' p hp=>?_⟩
  ·obtain⟨l2,t2,q1,q2,_⟩:=hg k e.symm;exact q2 hk
  ·have:l'≠st.nx:=fun e=>by rw[e,hn]at hp;cases hp
   simp[x',eB,this,hp]
  ·obtain⟨l2,t2,q1,_⟩:=hg k e.symm;exact hn' l2 _ q1 rfl
  ·by_cases e1:l'=st.nx
   ·simp only[x',eB,e1,ba,a8]at hp;subst hp;rcases h3 with h3|h3
    ·obtain⟨l2,t2,q1,_⟩:=hg g' h3;exact .inr (.inr ⟨l2,_,q1,rfl⟩)
    ·exact .inr (.inl h3)
   ·simp only[x',eB,e1,bc]at hp;exact .inl hp
 have hle:=hst.le;have hlm:∀l',look (qL st.m l st.nx s) l'=if l'=st.nx then some (.row s)else if l'=l then some (.bld (some st.nx) s.length true)else look (fZ st.m l) l':=by
  intro l';simp only[qL,look];by_cases e:l'=st.nx
  ·rw[ax e.symm,ax e]
  ·rw[aj (fun h=>e h.symm),aj e,cA]
 have hfr:∀l' p,l'≠st.nx->x.β l'=some p->l'≠l->look (fZ st.m l) l'≠none->p.1≠g':=by
  intro l' p hl' hp hne hk e;cases hq:look (fZ st.m l) l' with
  |none=>exact hk hq
  |some blk=>
   rcases h3 with h3|h3
   ·exact(hlook l' blk hne hq).2 g' h3 p hp e
   ·have:=hbg l' p hp;omega
 refine⟨x',rfl,hst,⟨fun l' blk b' base' tot' e1 e2=>?_,fun l1 l2 b' base1 tot1 base2 tot2 e1 e2 e3 e4=>?_,fun k hk=>eS (hs.imm k hk) k4,fun l' b' base' tot' e=>?_,rb hle hs.gd⟩,⟨fun l' hl'=>?_,fun l' hl'=>?_⟩⟩
 ·rw[hlm]at e1;by_cases c1:l'=st.nx
  ·rw[ax c1]at e1;simp only[x',eB,ax c1,a8,ep]at e2;obtain⟨rfl,rfl,rfl⟩:=e2;obtain rfl:=b9 e1;refine⟨fun h=>?_,rfl, ?_⟩
   ·rcases h3 with h3|h3
    ·obtain⟨l2,t2,_,q2,_⟩:=hg g' h3;exact q2 h
    ·have:=hs.imm g' h;omega
   ·rcases h2 with⟨h2,_⟩|⟨g2,t2,c,h2,r⟩
    ·cases h2
    ·simp only[Value.slice.injEq,a8,Addr.mk.injEq]at h2;obtain⟨⟨rfl,_⟩,_,rfl⟩:=h2;exact⟨c,r⟩
  ·rw[aj c1]at e1;simp only[x',eB,aj c1]at e2;by_cases c2:l'=l
   ·subst c2;rw[ax rfl]at e1;rw[hβ]at e2;simp only[a8,ep]at e2;obtain⟨rfl,rfl,rfl⟩:=e2;obtain rfl:=b9 e1;refine⟨hI,rfl,_,h1,g',t',rfl, ?_,by simp[x',eB]⟩;rcases h2 with⟨h2,_⟩|⟨g2,t2,c,h2,_,_,_,r,_⟩
    ·cases h2
    ·simp only[Value.slice.injEq]at h2;obtain⟨_,_,rfl⟩:=h2;exact r
   ·rw[aj c2]at e1;obtain⟨q1,q2⟩:=hlook l' blk c2 e1;obtain⟨o1,o2⟩:=hs.own l' blk b' base' tot' q1 e2;refine⟨o1,o2.mono hle (hkeep b' (hs.eJ _ _ _ _ e2) (fun e=>?_) (fun e=>q2 b' e.symm _ e2 rfl))⟩;subst e;exact c2 (hs.inj l' l _ _ _ _ _ (by rw[q1];simp) hlive e2 hβ)
 ·rw[hlm]at e1 e2;by_cases c1:l1=st.nx
  ·by_cases c2:l2=st.nx
   ·rw[c1,c2]
   ·exfalso;rw[aj c2]at e2;simp only[x',eB,ax c1,a8,ep]at e3;simp only[x',eB,aj c2]at e4;obtain⟨rfl,_⟩:=e3;by_cases c3:l2=l
    ·subst c3;rw[hβ]at e4;simp only[a8,ep]at e4;exact h5 e4.1.symm
    ·rw[aj c3]at e2;exact hfr l2 _ c2 e4 c3 e2 rfl
  ·rw[aj c1]at e1;simp only[x',eB,aj c1]at e3;by_cases c2:l2=st.nx
   ·exfalso;simp only[x',eB,ax c2,a8,ep]at e4;obtain⟨rfl,_⟩:=e4;by_cases c3:l1=l
    ·subst c3;rw[hβ]at e3;simp only[a8,ep]at e3;exact h5 e3.1.symm
    ·rw[aj c3]at e1;exact hfr l1 _ c1 e3 c3 e1 rfl
   ·rw[aj c2]at e2;simp only[x',eB,aj c2]at e4;have live:∀l',(if l'=l then some (bO.bld (some st.nx) s.length true)else look (fZ st.m l) l')≠none->look st.m l'≠none:=by
     intro l' h;by_cases c:l'=l
     ·rw[c];exact hlive
     ·rw[aj c]at h;cases hq:look (fZ st.m l) l' with
      |none=>exact absurd hq h
      |some blk=>rw[(hlook l' blk c hq).1];simp
    exact hs.inj l1 l2 b' base1 tot1 base2 tot2 (live l1 e1) (live l2 e2) e3 e4
 ·by_cases c1:l'=st.nx
  ·simp only[x',eB,ax c1,a8,ep]at e;obtain⟨rfl,_⟩:=e;exact h4
  ·simp only[x',eB,aj c1]at e;exact eS (hs.eJ _ _ _ _ e) k4
 ·have hl':st.nx+1<=l':=hl';simp only[x',eB,aj (show ¬l'=st.nx by omega)];exact hf.β l' ae
 ·show l'<st.nx+1;simp only[hlm]at hl';by_cases c1:l'=st.nx
  ·omega
  ·rw[aj c1]at hl';by_cases c2:l'=l
   ·omega
   ·rw[aj c2]at hl';cases hq:look (fZ st.m l) l' with
    |none=>exact absurd hq hl'
    |some blk=>have:=hf.m l' (by rw[(hlook l' blk c2 hq).1];simp);omega
def sP.live {m:List (Nat×bO)}{l:Nat}{t:List UInt8}(h:sP m l t):look m l≠none:=by
 rcases h with⟨u,h,_⟩|⟨l2,u,h,_⟩<;>rw[h]<;>simp
variable {J:Ren}
def O0 {args:Array Value}(h:args.size=2):args=#[args.getD 0 undef,args.getD 1 undef]:=by
 apply Array.ext
 ·simpa using h
 ·intro i h1 h2
  match i,h1 with
  |0,h1=>simp[Array.getD,h1]
  |1,h1=>simp[Array.getD,h1]
  |i+2,h1=>omega
def V1 {args:Array Value}(h:args.size=1):args=#[args.getD 0 undef]:=by
 apply Array.ext
 ·simpa using h
 ·intro i h1 h2
  match i,h1 with
  |0,h1=>simp[Array.getD,h1]
  |i+1,h1=>omega
def S3 (hB:dz.tB=J.t 72)(hU:dz.tU=J.t 5)(L:Lays.n166 P J)(X':Builder.Extra P J)(hen:∀args w,(callFunc (J.f 166) args).run P w=.ok (.enter (J.f 166) args) w):OS P ν Y cP trWS (J.f 166):=by
 rintro ds st K ⟨s,l,t,rfl,hb,hl,h0,hle,hK⟩ hok x args hl2 hargs hs hf;obtain⟨b,tot,u,w,e0,hβ,hI,hh,hv,hrow⟩:=Hy hs hb (hargs 0 aT);have h1:=hargs 1 aT;simp only[List.getD_cons_succ,jE]at h1;obtain⟨e1,hm⟩:=h1.jN;rw[hB]at hh;rw[hU]at hv;refine .inr ⟨J.f 166,args,hen args x.w, ?_⟩;rw[O0 (args:=args) (by simpa using hl2),e0,e1];refine(xr L X' hh hv h0 hm hle).mono ?_;rintro e w' ⟨⟨r,rfl⟩,hw⟩;rw[<-hB,<-hU]at hw;obtain⟨x',q1,q2,q3,q4⟩:=CX hs hf hb.live hl hβ hI hrow hw;exact⟨x',q1,.any,_,hK,q2,.any _,q3,q4⟩
def S2 (hB:dz.tB=J.t 72)(hU:dz.tU=J.t 5)(L:Lays.n167 P J)(X':Builder.Extra P J)(hen:∀args w,(callFunc (J.f 167) args).run P w=.ok (.enter (J.f 167) args) w):OS P ν Y cP trWB (J.f 167):=by
 rintro ds st K ⟨c,l,t,rfl,hb,hl,h0,hle,hK⟩ hok x args hl2 hargs hs hf;obtain⟨b,tot,u,w,e0,hβ,hI,hh,hv,hrow⟩:=Hy hs hb (hargs 0 aT);have h1:=hargs 1 aT;simp only[List.getD_cons_succ,jE]at h1;have e1:=h1.dP;rw[hB]at hh;rw[hU]at hv;refine .inr ⟨J.f 167,args,hen args x.w, ?_⟩;rw[O0 (args:=args) (by simpa using hl2),e0,e1];refine(A6 L X' hh hv hle).mono ?_;rintro e w' ⟨⟨r,rfl⟩,hw⟩;rw[<-hB,<-hU]at hw;obtain⟨x',q1,q2,q3,q4⟩:=CX hs hf hb.live hl hβ hI hrow hw;exact⟨x',q1,.any,_,hK,q2,.any _,q3,q4⟩
def S1 (hB:dz.tB=J.t 72)(hU:dz.tU=J.t 5)(L:Lays.n169 P J)(X':Builder.Extra P J)(hen:∀args w,(callFunc (J.f 169) args).run P w=.ok (.enter (J.f 169) args) w):OS P ν Y cP trBS (J.f 169):=by
 rintro ds st K ⟨l,t,rfl,hb,h0,hK⟩ hok x args hl2 hargs hs hf;obtain⟨b,tot,u,w,e0,hβ,hI,hh,hv,hrow⟩:=Hy hs hb (hargs 0 aT);rcases hrow with⟨hn,_⟩|⟨l2,g,t2,rfl,q1,q2,q3,q4,q5⟩
 ·exfalso;rcases hv with⟨_,h⟩|⟨g,t',c,rfl,_⟩
  ·exact h0 h
  ·cases hn
 rw[hB]at hh;rw[hU]at hv;have htm:t.length<=maxLen:=by
  rcases hv with⟨_,rfl⟩|⟨g',t',c,h1,_,_,h4,h5,_⟩
  ·exact absurd rfl h0
  ·omega
 refine .inr ⟨J.f 169,args,hen args x.w, ?_⟩;rw[V1 (args:=args) (by simpa using hl2),e0];refine(Hz L X' hh hv h0).mono ?_;rintro e w' ⟨rfl,k1,k2,k3,k4,k5⟩;have hkeep:∀k,(∀l' p,look (cX (fZ st.m l) l) l'≠none->x.β l'=some p->p.1=k->False)->True:=fun _ _=>trivial
 have hst:Step x ⟨w',x.I,x.β⟩:=⟨k1,k2,k3,Nat.le_of_eq k4.symm,fun _ h=>h,fun k hk=>k5 k (fun e=>q2 (e▸hk)),fun _ _ h=>h,fun k hk hn=>k5 k (fun e=>hn l2 _ q1 e.symm),fun _ h=>.inl h,fun _ _ h=>.inl h⟩;have hlm:∀l',look (cX (fZ st.m l) l) l'=if l'=l then none else if l'=l2 then none else look st.m l':=fun l'=>by rw[gM,q5,gM]
 refine⟨⟨w',x.I,x.β⟩,rfl,.str t,_,hK,hst,.str t htm,⟨fun l' blk b' base' tot' e1 e2=>?_,fun l1 l3 b' base1 tot1 base2 tot2 e1 e2 e3 e4=>?_,fun k hk=>by show k<w'.heap.size;rw[k4];exact hs.imm k hk,fun l' b' base' tot' e=>by show b'<w'.heap.size;rw[k4];exact hs.eJ _ _ _ _ e,rb hst.le hs.gd⟩,⟨hf.β,fun l' hl'=>?_⟩⟩
 ·rw[hlm]at e1;split at e1
  ·cases e1
  split at e1
  ·cases e1
  rename_i c1 c2;obtain⟨o1,o2⟩:=hs.own l' blk b' base' tot' e1 e2;refine⟨o1,o2.mono hst.le (k5 b' (fun e=>c2 ?_))⟩;subst e;exact hs.inj l' l2 _ _ _ _ _ (by rw[e1];simp) (by rw[q3];simp) e2 q1
 ·have live:∀l',look (cX (fZ st.m l) l) l'≠none->look st.m l'≠none:=by
   intro l' h;rw[hlm]at h;split at h
   ·exact absurd rfl h
   split at h
   ·exact absurd rfl h
   ·exact h
  exact hs.inj l1 l3 b' base1 tot1 base2 tot2 (live l1 e1) (live l3 e2) e3 e4
 ·simp only[hlm]at hl';split at hl'
  ·exact absurd rfl hl'
  split at hl'
  ·exact absurd rfl hl'
  ·exact hf.m l' hl'
end
end
section
open Go.Proofs
def QM:Nat:=3
def xc:Tryz.prog.globalNamed "internal/strconv.uint64pow10" =some QM:=od
instance seatGlob:dz where
 tB:=60
 tU:=5
 gd x:=(x.I 0/\∃m,x.w.cell? ⟨0,0,none⟩=some (.int .i64 m))/\x.I QM/\Lib.TabIs Tryz.prog x.w "internal/strconv.uint64pow10" .u64 Lib.pow10Tab
 le x x' hI hk h:=by
  obtain⟨⟨h1,m,h2⟩,h3,h4⟩:=h;refine⟨⟨hI _ h1,m,oW (hk _ h1) h2⟩,hI _ h3, ?_⟩;unfold Lib.TabIs World.var? at h4⊢;rw[xc]at h4⊢;simp only[Option.bind_some]at h4⊢;rw[hk _ h3];exact h4
def sc {fid:Nat}{x:X}{args:Array Value}{d:D}(hn:(Tryz.prog.funcs[fid]?).map (fun f=>f.name== "runtime.NumGoroutine" ||!f.body.isSome)=some false)
  (himm:∀b,x.I b->b<x.w.heap.size)
  (hc:Calls Tryz.prog fid args x.w fun e w'=>∃v,e=.returned v/\gL x.w w'/\∃I:Nat->Prop,(∀b,x.I b->I b)/\(∀b,I b->x.I b\/x.w.heap.size<=b/\b<w'.heap.size)/\RD xE ⟨w',I,x.β⟩ v d):
  jO Tryz.prog x (fun v x'=>nM x x'/\RD xE x' v d) ((callFunc fid args).run Tryz.prog x.w):=by
 cases h:Tryz.prog.funcs[fid]? with
 |none=>rw[h]at hn;cases hn
 |some fn=>
  rw[h]at hn;have h2:(fn.name== "runtime.NumGoroutine" ||!fn.body.isSome)=false:=b9 hn;rw[dW,b6]at h2;refine .inr ⟨fid,args,iW h h2.1 h2.2 args x.w,Calls.mono hc fun e w' he=>?_⟩;obtain⟨v,rfl,hg,I,h3,h4,hr⟩:=he;refine⟨⟨w',I,x.β⟩,rfl,⟨hg,h3,fun b hb=>(h4 b hb).imp id And.left,fun b hb=>?_,rfl⟩,hr⟩;rcases h4 b hb with h5|h5
  ·exact eS (himm b h5) hg.size
  ·exact h5.2
def HO (w:World):∀n,gL w (w.drewN n)
 |n=>⟨rfl,rfl,rfl,aQ _,fun _ _=>rfl⟩
def j4 {fid:Nat}{x:X}{args:Array Value}{d:D}{v:Value}(hn:(Tryz.prog.funcs[fid]?).map (fun f=>f.name== "runtime.NumGoroutine" ||!f.body.isSome)=some false)
  (himm:∀b,x.I b->b<x.w.heap.size) (hc:Calls Tryz.prog fid args x.w fun e w'=>e=.returned v/\gL x.w w') (hr:∀x',RD xE x' v d):
  jO Tryz.prog x (fun v x'=>nM x x'/\RD xE x' v d) ((callFunc fid args).run Tryz.prog x.w):=
 sc hn himm (Calls.mono hc fun e w' ⟨h1,h2⟩=>⟨v,h1,h2,x.I,fun _ h=>h,fun _ h=>.inl h,hr _⟩)
def fe {x:X}{v:Value}{s:au}(h:RD xE x v (.str s)):v=.string ⟨⟨s⟩⟩/\s.length<=maxLen:=by
 cases h with
 |str s h=>exact⟨rfl,h⟩
def x9 {x:X}{v:Value}{k:IntKind}{n:Int}(h:RD xE x v (.int k n)):v=.int k n:=by
 cases h with
 |int k n=>rfl
def y9 {args:Array Value}(h:args.size=2):args=#[args.getD 0 undef,args.getD 1 undef]:=by
 obtain⟨l⟩:=args
 match l,h with
 |[a,b],_=>rfl
def args3 {args:Array Value}(h:args.size=3):args=#[args.getD 0 undef,args.getD 1 undef,args.getD 2 undef]:=by
 obtain⟨l⟩:=args
 match l,h with
 |[a,b,c],_=>rfl
def Ur {args:Array Value}(h:args.size=1):args=#[args.getD 0 undef]:=by
 obtain⟨l⟩:=args
 match l,h with
 |[a],_=>rfl
def Kb {x:X}{a b:Value}{d e:D}(h1:RD xE x a d)(h2:RD xE x b e):RD xE x (.tuple #[a,b]) (.tup [d,e]):=by
 refine .tup _ _ rfl fun i hi=>?_
 match i,hi with
 |0,_=>exact h1
 |1,_=>exact h2
def TG {x:X}{a b c:Value}{d e f:D}(h1:RD xE x a d)(h2:RD xE x b e)(h3:RD xE x c f):RD xE x (.tuple #[a,b,c]) (.tup [d,e,f]):=by
 refine .tup _ _ rfl fun i hi=>?_
 match i,hi with
 |0,_=>exact h1
 |1,_=>exact h2
 |2,_=>exact h3
def tR {x:X}(s:au)(h:s.length<=4294967296):RD xE x (.string ⟨s.toArray⟩) (.str s):=.str s (by simp only[maxLen];omega)
def Mn (s:au)(b:UInt8):(ic s b).2.1.length<=s.length:=by
 unfold ic;split<;>simp
def E487:Ow 69 487:=by
 refine br rfl ?_;rintro s b hp hok x args hl hargs hnl himm ⟨⟨_,m,hm⟩,_⟩;obtain⟨h0,hs⟩:=fe (hargs 0 aT);obtain⟨h1,_⟩:=fe (hargs 1 aT);rw[y9 hl,h0,h1];refine j4 od himm (Calls.mono (Tryz.strings_Cut ⟨⟨s⟩⟩ ⟨⟨[b]⟩⟩ m x.w (by show s.length<_;omega) hm) fun e w' ⟨h1,n,h2⟩=>⟨h1,h2▸HO _ n⟩) (fun x'=>?_);have hc:Lib.cut (⟨⟨s⟩⟩:ByteArray).data.toList (⟨⟨[b]⟩⟩:ByteArray).data.toList=ic s b:=V8 s b;rw[hc];have:=(Pj s b).1;have:=Mn s b;exact TG (tR _ ae) (tR _ ae) (.bool _)
def E254:Ow 30 254:=by
 refine br rfl ?_;rintro s p hp hp2 hok x args hl hargs hnl himm _;obtain⟨h0,hs⟩:=fe (hargs 0 aT);obtain⟨h1,_⟩:=fe (hargs 1 aT);rw[y9 hl,h0,h1];refine j4 od himm (Calls.mono (Tryz.strings_CutPrefix ⟨⟨s⟩⟩ ⟨⟨p⟩⟩ x.w) fun e w' ⟨h1,h2⟩=>⟨h1,h2▸gL.refl _⟩) (fun x'=>?_);have hc:(Lib.trimPrefix s p,Lib.hasPrefix s p)=cE s p:=Mp s p;have:=HD s p;rw[<-hc]at this⊢;have h9:(Lib.trimPrefix s p).length<=s.length:=this;exact Kb (tR (Lib.trimPrefix s p) ae) (.bool _)
def E336:Ow 183 336:=by
 refine br rfl ?_;rintro n hp hok x args hl hargs hnl himm ⟨_,_,ht⟩;have h0:=x9 (hargs 0 aT);rw[Ur hl,h0];refine j4 od himm (Calls.mono (Tryz.strconv_Itoa n ae ae x.w ht) fun e w' ⟨h1,k,os,h2⟩=>⟨h1, ?_⟩) (fun x'=>?_)
 ·subst h2;refine⟨rfl,rfl,rfl,by simp[Sort.grow],fun b hb=>?_⟩;show(x.w.heap++os)[b]? =x.w.heap[b]?;rw[Array.getElem?_append,ax hb]
 ·rw[Ti hp.1];have:=eo 4 n.toNat ae ae;exact tR _ ae
def qg {fid:Nat}{x:X}{args:Array Value}{ts:List ByteArray}{cap:Nat}{ty:TypeId}{L:List au}(hn:(Tryz.prog.funcs[fid]?).map (fun f=>f.name== "runtime.NumGoroutine" ||!f.body.isSome)=some false)(himm:∀b,x.I b->b<x.w.heap.size)
  (hL:ts.map (fun t=>t.data.toList)=L) (hcap:ts.length<=cap) (hm:cap<=maxLen) (hs:∀t∈L,t.length<=maxLen)
  (hc:Calls Tryz.prog fid args x.w fun e w'=>e=.returned (.slice (some ⟨x.w.heap.size,0,none⟩) ts.length cap)/\w'=x.w.alloc (.cells (Lib.cellsOf ts cap) ty)):
  jO Tryz.prog x (fun v x'=>nM x x'/\RD xE x' v (.sl 1 (L.map D.str))) ((callFunc fid args).run Tryz.prog x.w):=by
 refine sc hn himm (Calls.mono hc fun e w' ⟨h1,h2⟩=>?_);subst h2;refine⟨_,h1,gL.alloc _ _,fun q=>x.I q\/q=x.w.heap.size,fun _ h=>.inl h,fun q hq=>hq.imp id fun h=>⟨ae,by rw[h];show _<(x.w.heap.push _).size;simp⟩, ?_⟩;have hsl:L.length=ts.length:=by rw[<-hL];simp
 have hget:∀i,i<ts.length->(L.map D.str).getD i .any=.str (ts.getD i default).data.toList:=fun i hi=>by
  rw[<-hL];simp[hi]
 refine .sl _ x.w.heap.size 0 ts.length cap 1 _ (fun i _=>.string (ts.getD i default)) (by simp[hsl]) (.inr ⟨rfl,.inr rfl⟩) hcap hm (fun i hi=>by rw[hget i hi];rfl) (fun i hi=>by rw[hget i hi];rfl) (fun i j hi hj=>?_) (fun i j hi hj=>rfl) (fun i j hi hj=>?_)
 ·obtain rfl:j=0:=ae;have:=eC x.w (.cells (Lib.cellsOf ts cap) ty);refine(cell_of_heap (c:=Lib.cellsOf ts cap) (T:=ty) (fr:=(0,0)) this (by rw[Lib.cellsOf_size hcap];omega)).trans ?_;have hi2:i<(ts.map Value.string).length:=by simpa using hi
  simp only[Lib.cellsOf];simp[hi,List.getElem?_append_left hi2]
 ·obtain rfl:j=0:=ae;rw[hget i hi];show RD xE _ (.string (ts.getD i default)) (.str (ts.getD i default).data.toList);generalize hq:ts.getD i default=q;have hmem:q.data.toList∈L:=by
   rw[<-hL];refine dX.2 ⟨q, ?_,rfl⟩;rw[<-hq];simp[hi]
  have:=hs _ hmem;obtain⟨⟨ql⟩⟩:=q;exact .str ql this
def CB {x:X}{s p:au}{m:Int}{L:List au}(hL:∀ts,ts=Lib.splitB ⟨⟨p⟩⟩ 0 (Lib.countB ⟨⟨s⟩⟩ ⟨⟨p⟩⟩) ⟨⟨s⟩⟩->ts.map (fun t=>t.data.toList)=L)(himm:∀b,x.I b->b<x.w.heap.size)(h1:1<=p.length)(hs:s.length<=1048576)(hl:L.length<=1048577)(hb:∀t∈L,t.length<=1048576)
  (hm:x.w.cell? ⟨0,0,none⟩=some (.int .i64 m)):jO Tryz.prog x (fun v x'=>nM x x'/\RD xE x' v (.sl 1 (L.map D.str))) ((callFunc 67 #[.string ⟨⟨s⟩⟩,.string ⟨⟨p⟩⟩]).run Tryz.prog x.w):=by
 have h2:1<=(⟨⟨p⟩⟩:ByteArray).size:=h1;have hlen:=Lib.splitB_all ⟨⟨p⟩⟩ h2 0 _ (⟨⟨s⟩⟩:ByteArray) rfl;have hc:=Tryz.strings_Split ⟨⟨s⟩⟩ ⟨⟨p⟩⟩ m x.w (by show s.length<_;omega) hm h2;rw[<-hlen,<-Lib.cellsOf_full]at hc;have hL2:=hL _ rfl;have hle:(Lib.splitB ⟨⟨p⟩⟩ 0 (Lib.countB ⟨⟨s⟩⟩ ⟨⟨p⟩⟩) ⟨⟨s⟩⟩).length<=maxLen:=by
  have:L.length=(Lib.splitB ⟨⟨p⟩⟩ 0 (Lib.countB ⟨⟨s⟩⟩ ⟨⟨p⟩⟩) ⟨⟨s⟩⟩).length:=by rw[<-hL2];simp
  simp only[maxLen];omega
 exact qg od himm hL2 (aQ _) hle (fun t ht=>by have:=hb t ht;simp only[maxLen];omega) hc
def wu:∀(s cur:au),(aK s cur).length<=s.length+1/\∀t∈aK s cur,t.length<=cur.length+s.length
 |[],cur=>by simp[aK]
 |[c],cur=>by simp[aK]
 |c::d::r,cur=>by
  unfold aK;split
  ·obtain⟨h1,h2⟩:=wu r [];refine⟨by simp only[ay];omega,fun t ht=>?_⟩;rcases bV.1 ht with rfl|ht
   ·omega
   ·have:=h2 t ht;simp only[ay,aB]at this⊢;omega
  ·obtain⟨h1,h2⟩:=wu (d::r) (cur++[c]);refine⟨by simp only[ay]at h1⊢;omega,fun t ht=>?_⟩;have:=h2 t ht;simp only[bG,ay,aB]at this⊢;omega
def E124:Ow 67 124:=by
 refine br rfl ⟨?_, ?_⟩
 ·rintro s b hp hok x args hl hargs hnl himm ⟨⟨_,m,hm⟩,_⟩;obtain⟨h0,hs⟩:=fe (hargs 0 aT);obtain⟨h1,_⟩:=fe (hargs 1 aT);rw[y9 hl,h0,h1];have:=dD s b.toNat;exact CB (fun ts e=>by rw[e];exact Cw b _ (⟨⟨s⟩⟩:ByteArray) rfl) himm (aQ 1) hp ae (fun t ht=>c9 (eH s b.toNat ht) hp) hm
 ·rintro s hp hok x args hl hargs hnl himm ⟨⟨_,m,hm⟩,_⟩;obtain⟨h0,hs⟩:=fe (hargs 0 aT);obtain⟨h1,_⟩:=fe (hargs 1 aT);rw[y9 hl,h0,h1];obtain⟨q1,q2⟩:=wu s [];exact CB (fun ts e=>by rw[e];exact N6 _ (⟨⟨s⟩⟩:ByteArray) rfl) himm aG hp ae (fun t ht=>by have:=q2 t ht;simp only[aB]at this;omega) hm
def SC (n:Nat)(h:1<=n)(s:au):(qP n (ak s 32)).length<=s.length+1/\∀t∈qP n (ak s 32),t.length<=s.length:=by
 have hl:=dD s 32;have hj:aP [32] (ak s 32)=s:=by
  have:=kK 32 s [];simpa[ak]using this
 unfold qP;split
 ·exact⟨hl,fun t ht=>eH s 32 ht⟩
 ·rename_i hn;refine⟨by simp only[bG,fj,ay,aB];omega,fun t ht=>?_⟩;rcases List.mem_append.1 ht with ht|ht
  ·exact eH s 32 (lY ht)
  ·rw[cN.1 ht];have h2:(aP [32] (ak s 32)).length=s.length:=by rw[hj]
   have h3:∀(l:List au) (k:Nat),(aP [32] (l.drop k)).length<=(aP [32] l).length:=by
    intro l;induction l with
    |nil=>simp
    |cons a l ih=>
     intro k;cases k with
     |zero=>simp
     |succ k=>
      refine c9 (ih k) ?_;cases l with
      |nil=>simp[aP]
      |cons b l=>rw[gD [32] a (b::l) aT];simp only[bG];omega
   have:=h3 (ak s 32) (n-1);omega
def E245:Ow 159 245:=by
 refine br rfl ?_;rintro s n hp hn hok x args hl hargs hnl himm ⟨⟨_,m,hm⟩,_⟩;obtain⟨h0,hs⟩:=fe (hargs 0 aT);obtain⟨h1,_⟩:=fe (hargs 1 aT);have h2:=x9 (hargs 2 aT);rw[args3 hl,h0,h1,h2];rcases hn with rfl|⟨hn1,hn2⟩
 ·have hc:=I0 Tryz.lays147 od ⟨⟨s⟩⟩ ⟨⟨[32]⟩⟩ m x.w (by show s.length<_;omega) hm (aQ 1);have hlen:=Lib.splitB_all ⟨⟨[32]⟩⟩ (aQ 1) 0 _ (⟨⟨s⟩⟩:ByteArray) rfl;have hL:(Lib.splitB ⟨⟨[32]⟩⟩ 0 (Lib.countB ⟨⟨s⟩⟩ ⟨⟨[32]⟩⟩) ⟨⟨s⟩⟩).map (fun t=>t.data.toList)=lW (-1) s:=Cw 32 _ (⟨⟨s⟩⟩:ByteArray) rfl;have hsl:=dD s 32;have hll:(lW (-1) s).length=(Lib.splitB ⟨⟨[32]⟩⟩ 0 (Lib.countB ⟨⟨s⟩⟩ ⟨⟨[32]⟩⟩) ⟨⟨s⟩⟩).length:=by rw[<-hL];simp
  have hw:lW (-1) s=ak s 32:=rfl;rw[hw]at hll;exact qg od himm hL ae (by simp only[maxLen];omega) (fun t ht=>by have:=eH s 32 ht;simp only[maxLen];omega) hc
 ·obtain⟨k,rfl⟩:∃k:Nat,n=k:=⟨n.toNat,ae⟩
  have hc:=Tryz.strings_SplitN ⟨⟨s⟩⟩ ⟨⟨[32]⟩⟩ k m x.w (by show s.length<_;omega) hm (aQ 1) ae ae;have hle:=Lib.splitB_length_le ⟨⟨[32]⟩⟩ 0 (min k ((⟨⟨s⟩⟩:ByteArray).size+1) -1) ⟨⟨s⟩⟩;have hsz:(⟨⟨s⟩⟩:ByteArray).size=s.length:=rfl;obtain⟨q1,q2⟩:=SC k ae s;refine qg od himm (L:=lW (k:Int) s) ?_ ae (by simp only[maxLen];omega) (fun t ht=>?_) hc
  ·rw[Lib.splitB_data];exact I8 k ae s
  ·have:lW (k:Int) s=qP k (ak s 32):=by unfold lW;rw[aj ae,Int.toNat_natCast]
   rw[this]at ht;have:=q2 t ht;simp only[maxLen];omega
def args4 {args:Array Value}(h:args.size=4):args=#[args.getD 0 undef,args.getD 1 undef,args.getD 2 undef,args.getD 3 undef]:=by
 obtain⟨l⟩:=args
 match l,h with
 |[a,b,c,d],_=>rfl
def E331:Ow 110 331:=by
 refine br rfl ?_;rintro s hp hok x args hl hargs hnl himm ⟨⟨_,m,hm⟩,_⟩;obtain⟨h0,hs⟩:=fe (hargs 0 aT);obtain⟨h1,_⟩:=fe (hargs 1 aT);have h2:=x9 (hargs 2 aT);have h3:=x9 (hargs 3 aT);rw[args4 hl,h0,h1,h2,h3];have hle:=Lib.countB_le ⟨⟨[10]⟩⟩ (aQ 1) (⟨⟨s⟩⟩:ByteArray).size ⟨⟨s⟩⟩ (aQ _);have hlen:=Lib.splitB_all ⟨⟨[10]⟩⟩ (aQ 1) 1 _ (⟨⟨s⟩⟩:ByteArray) rfl;have hc:=Any.strings_genSplit Tryz.lays221 od ⟨⟨s⟩⟩ ⟨⟨[10]⟩⟩ 1 (-1) (Lib.countB ⟨⟨s⟩⟩ ⟨⟨[10]⟩⟩+1) m x.w (by show s.length<_;omega) hm (aQ 1) (aQ 1) aG aG (by rw[ax aG];omega);rw[Nat.add_sub_cancel]at hc;obtain⟨q1,q2⟩:=TA s;have hL:=OX _ (⟨⟨s⟩⟩:ByteArray) rfl;have hsz:(⟨⟨s⟩⟩:ByteArray).size=s.length:=rfl;exact qg od himm hL ae (by simp only[maxLen];omega) (fun t ht=>by have:=q2 t ht;simp only[maxLen];omega) hc
def E244:Ow 65 244:=by
 refine br rfl ?_;rintro s hp hok x args hl hargs hnl himm _;obtain⟨h0,hs⟩:=fe (hargs 0 aT);obtain⟨h1,_⟩:=fe (hargs 1 aT);rw[y9 hl,h0,h1];refine j4 od himm (Calls.mono (Tryz.strings_CutSuffix ⟨⟨s⟩⟩ ⟨⟨[10]⟩⟩ x.w (by show s.length<=_;omega)) fun e w' ⟨h1,h2⟩=>⟨h1,h2▸gL.refl _⟩) (fun x'=>?_);have hc:(Lib.trimSuffix s [10],Lib.hasSuffix s [10])=bF s:=N8 s;have:=qj s;rw[<-hc]at this⊢;have h9:(Lib.trimSuffix s [10]).length<=s.length:=this;exact Kb (tR (Lib.trimSuffix s [10]) ae) (.bool _)
def E683:Ow 208 683:=by
 refine br rfl ?_;rintro s b rfl hp hok x args hl hargs hnl himm _;obtain⟨h0,hs⟩:=fe (hargs 0 aT);obtain⟨h1,_⟩:=fe (hargs 1 aT);rw[y9 hl,h0,h1];refine j4 od himm (Calls.mono (Tryz.strings_Trim_one ⟨⟨s⟩⟩ 32 aG x.w (by show s.length<=_;omega)) fun e w' ⟨h1,h2⟩=>⟨h1, ?_⟩) (fun x'=>?_)
 ·rcases h2 with rfl|rfl
  ·exact gL.refl _
  ·exact⟨rfl,rfl,rfl,aQ _,fun _ _=>rfl⟩
 ·have:Lib.trimB (⟨⟨s⟩⟩:ByteArray).data.toList 32=eu s:=O9 s;rw[this];have hb:(eu s).length<=s.length:=by
   unfold eu;have h1:=rZ s;have h2:=rZ (kv s).reverse;simp only[List.length_reverse]at h2⊢;omega
  exact tR _ ae
def E469:Ow 86 469:=by
 refine br rfl ?_;rintro l hp hok x args hl hargs hnl himm _;have h0:=hargs 0 aT;rw[Ur hl];simp only[jE]at h0;generalize args.getD 0 undef=v0 at h0⊢;cases h0 with
 |sl a b off len cap k es c hlen ha hcap hm hk hn hc h1 h=>
  simp only[bP]at hlen;subst hlen;have fin:∀(e:Ending) (w':World) v' ty,e=.returned v'->w'.ownsRow x.w.heap.size ty 1 v' l.length (l.map fun t=>Value.string ⟨⟨t⟩⟩)->Go.RowKit.Below x.w.heap.size x.w w'->
    ∃v,e=.returned v/\gL x.w w'/\∃I:Nat->Prop,(∀b,x.I b->I b)/\(∀b,I b->x.I b\/x.w.heap.size<=b/\b<w'.heap.size)/\RD xE ⟨w',I,x.β⟩ v (.sl 1 (l.map D.str)):=by
   rintro e w' v' ty rfl ⟨hxl,ho⟩ hB;refine⟨v',rfl,⟨hB.os,hB.tape,hB.output,hB.size,hB.block⟩, ?_⟩;rcases ho with⟨rfl,hl0⟩|⟨g,cap',cur,rfl,hg,hh,hle,hml,hcs,htk⟩
   ·have:l=[]:=ug.1 hl0;subst this;exact⟨x.I,fun _ h=>h,fun _ h=>.inl h,.sl none 0 0 0 0 1 [] (fun _ _=>.nilIface) rfl (.inl rfl) (aQ _) (by simp[maxLen]) (fun i hi=>ae) (fun i hi=>ae) (fun i j hi=>ae) (fun i j hi=>ae) (fun i j hi=>ae)⟩
   ·have hgl:g<w'.heap.size:=(Array.getElem?_eq_some_iff.1 hh).1;have hgt:∀i (hi:i<l.length),((l.map D.str).getD i .any)=.str l[i]:=fun i hi=>by simp[hi]
    refine⟨fun q=>x.I q\/q=g,fun _ h=>.inl h,fun q hq=>hq.imp id fun h=>by subst h;exact⟨hg,hgl⟩, ?_⟩;refine .sl _ g 0 l.length cap' 1 _ (fun i _=>.string ⟨⟨l.getD i []⟩⟩) aT (.inr ⟨rfl,.inr rfl⟩) hle hml (fun i hi=>by rw[hgt i hi];rfl) (fun i hi=>by rw[hgt i hi];rfl) (fun i j hi hj=>?_) (fun _ _ _ _=>rfl) (fun i j hi hj=>?_)
    ·obtain rfl:j=0:=ae;refine(cell_of_heap (c:=cur) (T:=ty) (fr:=(0,0)) hh ae).trans ?_;have e1:cur.toList[i]? =some (.string ⟨⟨l.getD i []⟩⟩):=by
      have e2:(cur.toList.take (l.length*1))[i]? =(l.map fun t=>Value.string ⟨⟨t⟩⟩)[i]? :=by rw[htk]
      rw[List.getElem?_take,ax ae]at e2;rw[e2];simp[hi]
     have e3:cur[i]? =some (.string ⟨⟨l.getD i []⟩⟩):=by rw[<-e1];simp
     rw[show(0+i*1+0:Nat)=i by omega,Array.getD_eq_getD_getElem?,e3];rfl
    ·obtain rfl:j=0:=ae;rw[hgt i hi];have q2:=h i 0 hi ae;rw[hgt i hi]at q2;obtain⟨_,q3⟩:=fe q2;have:l.getD i []=l[i]:=by simp[hi]
     rw[this];exact .str _ q3
  rcases ha with he|⟨rfl,hI⟩
  ·have hnil:l=[]:=by simpa using he
   subst hnil;cases a with
   |none=>exact j4 od himm (Calls.mono (Tryz.slices_Clone_string_nil 0 cap x.w) fun e w' ⟨h1,h2⟩=>⟨h1,h2▸gL.refl _⟩) (fun x'=>.sl none 0 0 0 0 1 [] (fun _ _=>.nilIface) rfl (.inl rfl) (aQ _) (by simp[maxLen]) (fun i hi=>ae) (fun i hi=>ae) (fun i j hi=>ae) (fun i j hi=>ae) (fun i j hi=>ae))
   |some a=>exact sc od himm (Calls.mono (Tryz.slices_Clone_string_zero a cap x.w) fun e w' ⟨v',h1,h2,_,h3⟩=>fin e w' v' _ h1 h2 h3)
  ·have hcell:∀i,(hi:i<l.length)->x.w.cell? ⟨b,off+i,none⟩=some (.string ⟨⟨l[i]⟩⟩):=fun i hi=>by
    have q1:=hc i 0 hi ae;have q2:=h i 0 hi ae;have e:((l.map D.str).getD i .any).cells.getD 0 .any=.str l[i]:=by simp[hi,D.cells]
    rw[e]at q2;rw[(fe q2).1]at q1;simpa using q1
   refine sc od himm (Calls.mono (Tryz.slices_Clone_string b off l.length cap (l.map fun t=>⟨⟨t⟩⟩) x.w aT ae (fun j hj=>?_)) fun e w' ⟨v',h1,h2,_,h3⟩=>?_)
   ·rw[bP]at hj;rw[hcell j hj];simp[hj]
   ·have:((l.map fun t=>(⟨⟨t⟩⟩:ByteArray)).take l.length).map Value.string=l.map fun t=>Value.string ⟨⟨t⟩⟩:=by
     rw[ek aT,List.map_map];rfl
    rw[this]at h2;exact fin e w' v' _ h1 h2 h3
def E489:Ow 21 489:=py rfl fun ds st K h hok=>S3 rfl rfl Tryz.Jk Tryz.V5 (Go.Proofs.enters_of Tryz.Jk.f166 od rfl) ds st K h hok
def E664:Ow 144 664:=py rfl fun ds st K h hok=>S2 rfl rfl Tryz.Jl Tryz.V5 (Go.Proofs.enters_of Tryz.Jl.f167 od rfl) ds st K h hok
def E452:Ow 24 452:=py rfl fun ds st K h hok=>S1 rfl rfl Tryz.Jm Tryz.V5 (Go.Proofs.enters_of Tryz.Jm.f169 od rfl) ds st K h hok
def zH (sep:au)(B:Nat):∀l:List au,(∀t∈l,t.length<=B)->(aP sep l).length<=l.length*(B+sep.length)
 |[],_=>by simp[aP]
 |[t],h=>by have:=h t (.head _);simp only[aP,ay,aB];omega
 |t::u::r,h=>by
  have h1:=h t (.head _);have h2:=zH sep B (u::r) fun x hx=>h x (.tail _ hx)
  rw[gD _ _ _ aT];rw[ay,Nat.succ_mul];simp only[bG];omega
def E242:Ow 35 242:=by
 refine br rfl ?_;rintro l sep hp1 hp2 hp3 hok x args hl hargs hnl himm _;have h0:=hargs 0 aT;obtain⟨h1,_⟩:=fe (hargs 1 aT);rw[y9 hl,h1];have hj:=zH sep 2097200 l hp3;have hj2:=fk (2097200+sep.length) hp1;have hj3:1048600*(2097200+sep.length)<=140737488355328:=by
  have:=Nat.mul_le_mul_left 1048600 (show 2097200+sep.length<=2097204 by omega);omega
 have hjm:(aP sep l).length<=140737488355328:=ae;simp only[jE]at h0;generalize args.getD 0 undef=v0 at h0⊢;cases h0 with
 |sl a b off len cap k es c hlen ha hcap hm hk hn hc h1 h=>
  simp only[bP]at hlen;subst hlen;rcases ha with he|⟨rfl,hI⟩
  ·have hnil:l=[]:=by simpa using he
   subst hnil;refine j4 od himm (Calls.mono (Tryz.strings_Join_none a cap ⟨⟨sep⟩⟩ x.w) fun e w' ⟨h1,h2⟩=>⟨h1,h2▸gL.refl _⟩) (fun x'=>?_);exact tR [] aT
  ·have hcell:∀i,(hi:i<l.length)->x.w.cell? ⟨b,off+i,none⟩=some (.string ⟨⟨l[i]⟩⟩):=fun i hi=>by
    have q1:=hc i 0 hi ae;have q2:=h i 0 hi ae;have e:((l.map D.str).getD i .any).cells.getD 0 .any=.str l[i]:=by simp[hi,D.cells]
    rw[e]at q2;rw[(fe q2).1]at q1;simpa using q1
   have e2:(l.map fun t=>(⟨⟨t⟩⟩:ByteArray)).map (fun t=>t.data.toList)=l:=by rw[List.map_map];exact List.map_id l
   have hjl:Lib.join ((l.map fun t=>(⟨⟨t⟩⟩:ByteArray)).map (fun t=>t.data.toList)) (⟨⟨sep⟩⟩:ByteArray).data.toList=aP sep l:=by rw[e2];exact(Fw sep l).symm
   have key:=Tryz.strings_Join b off cap (l.map fun t=>⟨⟨t⟩⟩) ⟨⟨sep⟩⟩ x.w (fun j y hy=>by
    rw[List.getElem?_map,dR]at hy;obtain⟨t,ht,rfl⟩:=hy;obtain⟨hlt,rfl⟩:=List.getElem?_eq_some_iff.1 ht;exact hcell j hlt) (himm b hI) cH (by simpa using hcap) (by rw[hjl];exact hjm)
   rw[hjl,bP]at key;refine j4 od himm (Calls.mono key fun e w' ⟨h1,h2⟩=>⟨h1,h2.os,h2.tape,h2.output,h2.size,h2.block⟩) (fun x'=>?_);exact .str _ (by simp only[maxLen];omega)
end
section
section
variable [dz]
def H70:Ow 56 70:=br rfl fun r hp0=>aR bn ck rfl (w70 bo ON L3 G210 Zs Zt G213 G214 Zu r hp0)
def H76:Ow 34 76:=br rfl fun s=>aR bn ck rfl (w76 bo G70 OM G222 s)
def H210:Ow 95 210:=br rfl fun r n hp0=>aR bn ck rfl (w210 bo Zt L5 G443 r n hp0)
def H216:Ow 59 216:=br rfl fun s=>aR bn ck rfl (w216 bo ZI VL s)
def H222:Ow 70 222:=WN rfl Zb fun r hp0=>Ff 2 bn ck rfl rfl (w222 bo G466 G467 ZK G469 Z8 r hp0)
def H232:Ow 54 232:=br rfl fun l i r hp0 hp1=>aR bn ck rfl (w232 bo OQ VM G483 l i r hp0 hp1)
def H253:Ow 29 253:=br rfl fun s hp0=>aR bn ck rfl (w253 bo G244 s hp0)
def H349:Ow 137 349:=br rfl fun s=>aR bn ck rfl (w349 bo s)
def H441:Ow 134 441:=br rfl fun s hp0=>aR bn ck rfl (w441 bo ZE OR So ZR s hp0)
def H447:Ow 141 447:=br rfl fun l=>aR bn ck rfl (w447 bo l)
def H454:Ow 103 454:=br rfl fun c=>aR bn ck rfl (w454 bo c)
def H460:Ow 152 460:=br rfl fun r of hp0=>aR bn ck rfl (w460 bo ZY G673 G674 r of hp0)
def H466:Ow 115 466:=br rfl fun s hp0=>aR bn ck rfl (w466 bo L3 ZG OR So G675 s hp0)
def H480:Ow 89 480:=br rfl fun l i own alone hp0 hp1=>aR bn ck rfl (w480 bo Zw L4 Zx l i own alone hp0 hp1)
def H496:Ow 178 496:=br rfl fun r hp0=>aR bn ck rfl (w496 bo VQ r hp0)
def H516:Ow 166 516:=br rfl fun a b=>aR bn ck rfl (w516 bo G704 a b)
def H554:Ow 153 554:=br rfl fun v hp0=>aR bn ck rfl (w554 bo Z1 v hp0)
def H659:Ow 165 659:=br rfl fun t=>aR bn ck rfl (w659 bo t)
def H666:Ow 184 666:=br rfl fun t=>aR bn ck rfl (w666 bo t)
def H672:Ow 192 672:=br rfl fun s hp0=>aR bn ck rfl (w672 bo OO L6 L7 s hp0)
def H678:Ow 132 678:=br rfl fun op=>aR bn ck rfl (w678 bo op)
def H700:Ow 82 700:=br rfl fun x nm v hp0=>aR bn ck rfl (w700 bo G701 x nm v hp0)
def H745:Ow 220 745:=br rfl fun r hp0=>aR bn ck rfl (w745 bo VT G901 r hp0)
def H812:Ow 216 812:=br rfl fun l al=>aR bn ck rfl (w812 bo L6 Z3 l al)
def H827:Ow 237 827:=br rfl fun c hp0=>aR bn ck rfl (w827 bo L3 c hp0)
def H899:Ow 252 899:=br rfl fun r hp0=>aR bn ck rfl (w899 bo ZZ r hp0)
def H948:Ow 241 948:=py rfl fun x w nd b hp0 nx lp ln m K h1 h2 h3 h4 hK=>gr ry aG rfl (fun _=>rfl) bn ck rfl h1 h2 h3 h4 hK (w948 bo x w nd b hp0)
def H954:Ow 248 954:=br rfl fun l hp0=>aR bn ck rfl (w954 bo Zl l hp0)
def H1008:Ow 273 1008:=br rfl fun l=>aR bn ck rfl (w1008 bo VP l)
def H1036:Ow 270 1036:=br rfl fun l i hp0=>aR bn ck rfl (w1036 bo Uj Zo l i (VI (aQ _)) hp0)
def H1126:Ow 290 1126:=py rfl fun W w nd hp0 hp1 nx lp ln m K h1 h2 h3 h4 hK=>gr (tQ _) aG rfl (fun _=>rfl) bn ck rfl h1 h2 h3 h4 hK (w1126 bo W w nd L6 Jc Uj Zq hp0 hp1)
end
end
section
section
variable [dz]
def H71:Ow 62 71:=br rfl fun r hp0=>aR bn ck rfl (w71 bo OO OP G218 Zv r hp0)
def H79:Ow 19 79:=br rfl fun l i own hp0 hp1=>aR bn ck rfl (w79 bo Zw L4 G229 Zx Zy G232 l i own hp0 hp1)
def H211:Ow 96 211:=br rfl fun r name ui hp0=>aR bn ck rfl (w211 bo ON G444 r name ui hp0)
def H217:Ow 105 217:=br rfl fun v hp0=>aR bn ck rfl (w217 bo G455 G456 v hp0)
def H227:Ow 50 227:=br rfl fun n=>aR bn ck rfl (w227 bo OQ n)
def H239:Ow 64 239:=br rfl fun s hp0=>aR bn ck rfl (w239 bo G331 s hp0)
def H255:Ow 32 255:=br rfl fun s hp0=>aR bn ck rfl (w255 bo OM VK G499 s hp0)
def H353:Ow 20 353:=br rfl fun s hp0=>aR bn ck rfl (w353 bo G74 ON G511 s hp0)
def H442:Ow 135 442:=br rfl fun s hp0=>aR bn ck rfl (w442 bo OR s hp0)
def H448:Ow 142 448:=br rfl fun s hp0=>aR bn ck rfl (w448 bo ON ZC L5 ZM s hp0)
def H455:Ow 147 455:=br rfl fun n=>aR bn ck rfl (w455 bo n)
def H461:Ow 108 461:=br rfl fun w hp0=>aR bn ck rfl (w461 bo VJ w hp0)
def H467:Ow 116 467:=WN rfl Zd fun r hp0=>Ff 2 bn ck rfl rfl (w467 bo OM ZJ ZK r hp0)
def H481:Ow 90 481:=br rfl fun n=>aR bn ck rfl (w481 bo OQ n)
def H497:Ow 23 497:=br rfl fun n=>aR bn ck rfl (w497 bo G686 n)
def H530:Ow 119 530:=br rfl fun v=>aR bn ck rfl (w530 bo v)
def H572:Ow 190 572:=br rfl fun s hp0=>aR bn ck rfl (w572 bo G744 G745 s hp0)
def H660:Ow 179 660:=py rfl fun w nd hp0 nx lp ln m K h1 h2 h3 h4 hK=>gr ry aG rfl (fun _=>rfl) bn ck rfl h1 h2 h3 h4 hK (w660 bo w nd (Uk (Nat.le_of_eq (nX (c:=fun _=>4) h1).symm)) hp0)
def H667:Ow 185 667:=br rfl fun s=>aR bn ck rfl (w667 bo VL s)
def H673:Ow 193 673:=br rfl fun r x=>aR bn ck rfl (w673 bo r x)
def H682:Ow 207 682:=br rfl fun s hp0=>aR bn ck rfl (w682 bo G819 s hp0)
def H701:Ow 83 701:=br rfl fun a b hp0=>aR bn ck rfl (w701 bo L3 ZD a b hp0)
def H783:Ow 205 783:=br rfl fun a b=>aR bn ck rfl (w783 bo VO VP ZW G927 a b)
def H813:Ow 217 813:=br rfl fun s=>aR bn ck rfl (w813 bo L7 G952 G953 s)
def H828:Ow 238 828:=br rfl fun c hp0=>aR bn ck rfl (w828 bo ZV VR G957 c hp0)
def H900:Ow 253 900:=br rfl fun r hp0=>aR bn ck rfl (w900 bo VN r hp0)
def H949:Ow 242 949:=py rfl fun w nd hp0 nx lp ln m K h1 h2 h3 h4 hK=>gr ry aG rfl (fun _=>rfl) bn ck rfl h1 h2 h3 h4 hK (w949 bo w nd (ZS (Nat.le_of_eq (nX (c:=fun _=>0) h1).symm)) Sp Sq (Um (Nat.le_of_eq (nX (c:=fun _=>0) h1).symm)) Zj hp0)
def H955:Ow 255 955:=br rfl fun l nm=>aR bn ck rfl (w955 bo l nm)
def H1031:Ow 261 1031:=py rfl fun k w nd b hp0 nx lp ln m K h1 h2 h3 h4 hK=>gr ry aG rfl (fun _=>rfl) bn ck rfl h1 h2 h3 h4 hK (w1031 bo k w nd b L5 Sp Sq Z9 hp0)
def H1079:Ow 285 1079:=br rfl fun s w=>aR bn ck rfl (w1079 bo s w)
def H1141:Ow 291 1141:=py rfl fun W w nd b hp0 nx lp ln m K h1 h2 h3 h4 hK=>wc (tQ _) aG rfl (fun _=>rfl) bn ck rfl h1 h2 h3 h4 hK (w1141 bo W w nd b hp0)
end
end
section
section
variable [dz]
def H72:Ow 22 72:=br rfl fun r hp0=>aR bn ck rfl (w72 bo G70 Zu r hp0)
def H85:Ow 10 85:=br rfl (aR bn ck rfl (w85 bo ZB Z6))
def H212:Ow 97 212:=br rfl fun s=>aR bn ck rfl (w212 bo G445 G446 s)
def H218:Ow 106 218:=br rfl fun r hp0=>aR bn ck rfl (w218 bo G457 G458 G459 G460 r hp0)
def H228:Ow 44 228:=br rfl fun l i n hp0=>aR bn ck rfl (w228 bo OQ VM l i n hp0)
def H246:Ow 160 246:=br rfl fun l x=>aR bn ck rfl (w246 bo G494 l x)
def H256:Ow 33 256:=br rfl fun s hp0=>aR bn ck rfl (w256 bo VK ZM s hp0)
def H357:Ow 189 357:=br rfl fun s=>aR bn ck rfl (w357 bo ZI VL s)
def H443:Ow 136 443:=br rfl fun r w al hp0=>aR bn ck rfl (w443 bo Zs L5 r w al hp0)
def H449:Ow 143 449:=br rfl fun l nm=>aR bn ck rfl (w449 bo G663 l nm)
def H456:Ow 148 456:=br rfl fun s p hp0=>aR bn ck rfl (w456 bo L7 G666 VP ZW s p hp0)
def H462:Ow 109 462:=br rfl fun s hp0=>aR bn ck rfl (w462 bo s hp0)
def H468:Ow 117 468:=WN rfl Ze fun r hp0=>Ff 2 bn ck rfl rfl (w468 bo ZJ r hp0)
def H482:Ow 91 482:=br rfl fun c hp0=>aR bn ck rfl (w482 bo VJ ZZ G677 Z0 c hp0)
def H499:Ow 68 499:=br rfl fun s=>aR bn ck rfl (w499 bo s)
def H531:Ow 120 531:=br rfl fun l=>aR bn ck rfl (w531 bo l)
def H580:Ow 61 580:=br rfl fun l nm v hp0=>aR bn ck rfl (w580 bo G501 l nm v hp0)
def H661:Ow 180 661:=br rfl fun m=>aR bn ck rfl (w661 bo ZU G810 m)
def H668:Ow 186 668:=br rfl fun t=>aR bn ck rfl (w668 bo t)
def H674:Ow 194 674:=br rfl fun r x=>aR bn ck rfl (w674 bo r x)
def H684:Ow 209 684:=br rfl fun r hp0=>aR bn ck rfl (w684 bo Sn VR Z4 r hp0)
def H704:Ow 203 704:=br rfl fun x=>aR bn ck rfl (w704 bo x)
def H808:Ow 211 808:=py rfl ⟨fun w nd hp0 nx lp ln m K h1 h2 h3 h4 hK=>gr ry aG rfl (fun _=>rfl) bn ck rfl h1 h2 h3 h4 hK (w808 bo kC 809 qF 4 w nd VU Sp Sq hp0 zi aG aG (fun w2 nd2 hl hp=>Z2 (aQ _) w2 nd2 hp (by rw[nX h1];exact(show 6*w2.length+2<6*w.length+3 by omega)))),fun w nd hp0 nx lp ln m K h1 h2 h3 h4 hK=>gr ry aG rfl (fun _=>rfl) bn ck rfl h1 h2 h3 h4 hK (w808 bo jR 949 lz 3 w nd VU Sp Sq hp0 vF aG aG (fun w2 nd2 hl hp=>Um (aQ _) w2 nd2 hp (by rw[nX h1];exact(show 6*w2.length+0<6*w.length+1 by omega))))⟩
def H814:Ow 218 814:=br rfl fun m=>aR bn ck rfl (w814 bo G953 G954 m)
def H882:Ow 206 882:=br rfl fun n hp0=>aR bn ck rfl (w882 bo n hp0)
def H901:Ow 254 901:=br rfl fun r hp0=>aR bn ck rfl (w901 bo Z5 VT r hp0)
def H950:Ow 243 950:=br rfl (aR bn ck rfl (w950 bo))
def H956:Ow 256 956:=br rfl fun s w=>aR bn ck rfl (w956 bo s w)
def H1032:Ow 266 1032:=py rfl fun W w nd hp0 hp1 nx lp ln m K h1 h2 h3 h4 hK=>gr (tQ _) aG rfl (fun _=>rfl) bn ck rfl h1 h2 h3 h4 hK (w1032 bo W w nd OK Jc (OL (Nat.le_of_eq (tI (c:=fun _=>1) hp0.1 h1).symm)) hp0 hp1)
def H1097:Ow 281 1097:=py rfl fun W w nd hp0 hp1 nx lp ln m K h1 h2 h3 h4 hK=>gr (tQ _) aG rfl (fun _=>rfl) bn ck rfl h1 h2 h3 h4 hK (w1097 bo W w nd (G952u (Nat.le_of_eq (tI (c:=fun _=>0) hp0.1 h1).symm)) OK Jc (OL (Nat.le_of_eq (tI (c:=fun _=>0) hp0.1 h1).symm)) Zp hp0 hp1)
def H1199:Ow 7 1199:=br rfl fun l a b=>aR bn ck rfl (w1199 bo G85 G86 ZB OQ Zr l a b)
end
end
section
section
variable [dz]
def H73:Ow 26 73:=br rfl fun r hp0=>aR bn ck rfl (w73 bo G71 Zv r hp0)
def H86:Ow 13 86:=br rfl fun s hp0=>aR bn ck rfl (w86 bo G76 ON Sn G252 VK ZC G255 G256 G257 s hp0)
def H213:Ow 98 213:=br rfl fun l hp0=>aR bn ck rfl (w213 bo L5 G447 ZF G449 l hp0)
def H219:Ow 63 219:=br rfl fun r hp0=>aR bn ck rfl (w219 bo VJ G316 G461 G462 r hp0)
def H229:Ow 51 229:=br rfl fun l i own hp0 hp1=>aR bn ck rfl (w229 bo L4 Zy VM G480 ZL l i own hp0 hp1)
def H249:Ow 77 249:=br rfl fun l x hp0=>aR bn ck rfl (w249 bo l x hp0)
def H257:Ow 36 257:=br rfl fun s r n hp0=>aR bn ck rfl (w257 bo G74 ZD s r n hp0)
def H358:Ow 25 358:=br rfl fun s hp0=>aR bn ck rfl (w358 bo G75 OO ZQ s hp0)
def H444:Ow 138 444:=br rfl fun s hp0=>aR bn ck rfl (w444 bo G495 G496 s hp0)
def H450:Ow 100 450:=py rfl fun ws t l lw nx m K h1 h2 h3 h4 hp2 hK=>M0 bn ck rfl h1 h2 h3 h4 hK fun m0 hp0 hp1=>w450 bo ws t m0 Sn ZN G664 hp0 hp1 hp2
def H457:Ow 149 457:=br rfl fun r n hp0=>aR bn ck rfl (w457 bo L6 G669 ZX r n hp0)
def H463:Ow 129 463:=br rfl fun h k hp0=>aR bn ck rfl (w463 bo h k hp0)
def H470:Ow 73 470:=br rfl fun s b hp0=>aR bn ck rfl (w470 bo s b hp0)
def H483:Ow 92 483:=br rfl fun l s hp0=>aR bn ck rfl (w483 bo l s hp0)
def H501:Ow 76 501:=br rfl fun a b hp0=>aR bn ck rfl (w501 bo OP G424 a b hp0)
def H532:Ow 121 532:=br rfl fun a b=>aR bn ck rfl (w532 bo G714 a b)
def H630:Ow 173 630:=br rfl fun a b=>aR bn ck rfl (w630 bo a b)
def H662:Ow 181 662:=br rfl fun l hp0=>aR bn ck rfl (w662 bo G811 l hp0)
def H669:Ow 187 669:=br rfl fun r w al hp0=>aR bn ck rfl (w669 bo OO ZP G812 r w al hp0)
def H675:Ow 161 675:=br rfl fun s b=>aR bn ck rfl (w675 bo s b)
def H685:Ow 210 685:=br rfl fun r hp0=>aR bn ck rfl (w685 bo VQ r hp0)
def H714:Ow 164 714:=br rfl fun x=>aR bn ck rfl (w714 bo x)
def H809:Ow 212 809:=py rfl fun w nd hp0 nx lp ln m K h1 h2 h3 h4 hK=>gr ry aG rfl (fun _=>rfl) bn ck rfl h1 h2 h3 h4 hK (w809 bo w nd (Uk (Nat.le_of_eq (nX (c:=fun _=>2) h1).symm)) hp0)
def H815:Ow 221 815:=br rfl fun l=>aR bn ck rfl (w815 bo l)
def H896:Ow 249 896:=br rfl fun s hp0=>aR bn ck rfl (w896 bo s hp0)
def H927:Ow 228 927:=br rfl fun a b=>aR bn ck rfl (w927 bo a b)
def H951:Ow 244 951:=br rfl fun l i b hp0=>aR bn ck rfl (w951 bo l i b (Ul (aQ _)) hp0)
def H957:Ow 257 957:=br rfl fun op=>aR bn ck rfl (w957 bo op)
def H1033:Ow 267 1033:=py rfl fun s W w nd b hp0 nx lp ln m K h1 h2 h3 h4 hK=>wc (tQ _) aG rfl (fun _=>rfl) bn ck rfl h1 h2 h3 h4 hK (w1033 bo s W w nd b hp0)
def H1098:Ow 282 1098:=br rfl fun n=>aR bn ck rfl (w1098 bo L6 n)
def H1203:Ow 16 1203:=br rfl fun l i nm most hp0=>aR bn ck rfl (w1203 bo G79 L4 G504 l i nm most hp0)
end
end
section
section
variable [dz]
def H74:Ow 46 74:=br rfl fun r hp0=>aR bn ck rfl (w74 bo G72 G220 r hp0)
def H208:Ow 31 208:=br rfl fun s=>aR bn ck rfl (w208 bo s)
def H214:Ow 99 214:=br rfl fun r s hp0=>aR bn ck rfl (w214 bo ZF r s hp0)
def H220:Ow 80 220:=br rfl fun s=>aR bn ck rfl (w220 bo G463 s)
def H230:Ow 52 230:=br rfl fun l i hp0=>aR bn ck rfl (w230 bo L4 VN l i hp0)
def H251:Ow 11 251:=br rfl fun s hp0=>aR bn ck rfl (w251 bo G72 G353 ZH ZN G497 s hp0)
def H295:Ow 72 295:=br rfl fun a b hp0=>aR bn ck rfl (w295 bo L3 G530 G531 ZO OR G534 a b hp0)
def H424:Ow 126 424:=br rfl fun a b hp0=>aR bn ck rfl (w424 bo OP VO G631 a b hp0)
def H445:Ow 139 445:=br rfl fun s=>aR bn ck rfl (w445 bo OM G660 ZT s)
def H451:Ow 101 451:=br rfl fun v hp0=>aR bn ck rfl (w451 bo L3 ZV v hp0)
def H458:Ow 150 458:=br rfl fun r b hp0=>aR bn ck rfl (w458 bo OO ZP ZX r b hp0)
def H464:Ow 146 464:=br rfl fun h n hp0=>aR bn ck rfl (w464 bo h n hp0)
def H478:Ow 17 478:=br rfl fun v n hp0=>aR bn ck rfl (w478 bo v n hp0)
def H494:Ow 202 494:=br rfl fun l x=>aR bn ck rfl (w494 bo l x)
def H504:Ow 45 504:=py rfl fun s r hp0 nx m K hK1 hK2=>QT bn ck rfl hK1 hK2 (w504 bo s r G75 G358 ZQ hp0)
def H533:Ow 122 533:=br rfl fun s b hp0=>aR bn ck rfl (w533 bo s b hp0)
def H631:Ow 174 631:=br rfl fun a b hp0=>aR bn ck rfl (w631 bo L7 VO G783 a b hp0)
def H663:Ow 182 663:=br rfl fun l nm=>aR bn ck rfl (w663 bo l nm)
def H670:Ow 188 670:=br rfl fun s=>aR bn ck rfl (w670 bo G813 G814 s)
def H676:Ow 130 676:=br rfl fun c hp0=>aR bn ck rfl (w676 bo OP c hp0)
def H686:Ow 58 686:=br rfl fun k hp0=>aR bn ck rfl (w686 bo k hp0)
def H734:Ow 176 734:=br rfl fun n hp0=>aR bn ck rfl (w734 bo G882 n hp0)
def H810:Ow 213 810:=br rfl fun l=>aR bn ck rfl (w810 bo L5 l)
def H816:Ow 222 816:=br rfl fun l nm=>aR bn ck rfl (w816 bo G955 l nm)
def H897:Ow 250 897:=br rfl fun s hp0=>aR bn ck rfl (w897 bo L7 VN Zg Zh Zi s hp0)
def H946:Ow 239 946:=br rfl fun w es b=>aR bn ck rfl (w946 bo w es b)
def H952:Ow 246 952:=py rfl fun W w nd hp0 hp1 nx lp ln m K h1 h2 h3 h4 hK=>gr (tQ _) aG rfl (fun _=>rfl) bn ck rfl h1 h2 h3 h4 hK (w952 bo W w nd (VH (Nat.le_of_eq (tI (c:=fun _=>2) hp0.1 h1).symm)) OK Jc hp0 hp1)
def H1006:Ow 271 1006:=br rfl fun s=>aR bn ck rfl (w1006 bo Z0 Zm s)
def H1034:Ow 268 1034:=py rfl fun x W w nd b hp0 nx lp ln m K h1 h2 h3 h4 hK=>gr (tQ _) aG rfl (fun _=>rfl) bn ck rfl h1 h2 h3 h4 hK (w1034 bo x W w nd b hp0)
def H1099:Ow 283 1099:=br rfl fun k hp0=>aR bn ck rfl (w1099 bo k hp0)
end
end
section
section
variable [dz]
def H75:Ow 60 75:=br rfl fun r hp0=>aR bn ck rfl (w75 bo G73 G221 r hp0)
def H209:Ow 94 209:=br rfl fun v hp0=>aR bn ck rfl (w209 bo G440 G441 ZE v hp0)
def H215:Ow 57 215:=br rfl fun r hp0=>aR bn ck rfl (w215 bo Sn G450 ZG ZH r hp0)
def H221:Ow 104 221:=br rfl fun s=>aR bn ck rfl (w221 bo G464 s)
def H231:Ow 53 231:=br rfl fun l i hp0=>aR bn ck rfl (w231 bo L4 ZL l i hp0)
def H252:Ow 28 252:=br rfl fun s hp0=>aR bn ck rfl (w252 bo G239 s hp0)
def H316:Ow 107 316:=br rfl fun v hp0=>aR bn ck rfl (w316 bo OP G554 v hp0)
def H440:Ow 133 440:=br rfl fun n=>aR bn ck rfl (w440 bo n)
def H446:Ow 140 446:=br rfl fun m=>aR bn ck rfl (w446 bo ZT ZU m)
def H453:Ow 102 453:=br rfl fun c=>aR bn ck rfl (w453 bo c)
def H459:Ow 151 459:=br rfl fun l hp0=>aR bn ck rfl (w459 bo L6 G671 l hp0)
def H465:Ow 114 465:=oweFG rfl Zc (fun r w n op hp0 hp1 hp2=>Ff 2 bn ck rfl rfl (w465 bo Zz ZA r w n op hp0 hp1 hp2)) fun r w n op l nx m K hp0 hp1 hp2 hl hK=>S0 (Ff 2 bn ck rfl rfl (w465 bo Zz ZA r w n op hp0 hp1 hp2)) hl rfl rfl hK
def H479:Ow 79 479:=br rfl fun l i=>aR bn ck rfl (w479 bo l i)
def H495:Ow 177 495:=br rfl fun s hp0=>aR bn ck rfl (w495 bo OM G682 G683 VQ G685 Z7 s hp0)
def H511:Ow 47 511:=br rfl fun l nm v hp0=>aR bn ck rfl (w511 bo G699 l nm v hp0)
def H534:Ow 123 534:=br rfl fun a b=>aR bn ck rfl (w534 bo G516 ZO So ZR a b)
def H658:Ow 162 658:=br rfl fun s=>aR bn ck rfl (w658 bo s)
def H665:Ow 145 665:=br rfl fun n hp0=>aR bn ck rfl (w665 bo G336 n hp0)
def H671:Ow 191 671:=br rfl fun l of hp0=>aR bn ck rfl (w671 bo ZY Z3 G816 l of hp0)
def H677:Ow 131 677:=py rfl fun c hp0 nx m K hK=>Oc rfl rfl bn ck rfl rfl hK (w677 bo c Z1 hp0)
def H699:Ow 81 699:=br rfl fun l nm v hp0=>aR bn ck rfl (w699 bo G700 l nm v hp0)
def H744:Ow 219 744:=br rfl fun s hp0=>aR bn ck rfl (w744 bo L7 G896 G897 G898 Z5 VT s hp0)
def H811:Ow 214 811:=br rfl fun l i hp0=>aR bn ck rfl (w811 bo Z9 l i (Ul (aQ _)) (G951u (aQ _)) hp0)
def H819:Ow 229 819:=br rfl fun s hp0=>aR bn ck rfl (w819 bo OR So VR Z4 G956 G957 s hp0)
def H898:Ow 251 898:=br rfl fun s=>aR bn ck rfl (w898 bo s)
def H947:Ow 240 947:=py rfl fun w nd b nx lp ln m K h1 h2 h3 h4 hK=>wc ry aG rfl (fun _=>rfl) bn ck rfl h1 h2 h3 h4 hK (w947 bo w nd b VU)
def H953:Ow 247 953:=br rfl fun m=>aR bn ck rfl (w953 bo G954 Zk m)
def H1007:Ow 272 1007:=br rfl fun s=>aR bn ck rfl (w1007 bo s)
def H1035:Ow 269 1035:=br rfl fun l hp0=>aR bn ck rfl (w1035 bo Zn l hp0)
def H1100:Ow 284 1100:=br rfl fun s b hp0=>aR bn ck rfl (w1100 bo s b hp0)
end
end
def R7:List (Nat×Nat)->Prop
 |[]=>True
 |p::r=>Ow p.1 p.2/\R7 r
def R7.mem:∀{l:List (Nat×Nat)},R7 l->∀p∈l,Ow p.1 p.2
 |p::r,h,q,hq=>by
  rcases bV.1 hq with rfl|hq
  ·exact h.1
  ·exact h.2.mem q hq
def allY:R7 xE:=⟨H1199,H85,H251,H86,H1203,H478,H79,H353,E489,H72,H497,E452,H358,H73,H252,H253,E254,H208,H255,H256,H76,E242,H257,H228,H504,H74,H511,H227,H229,H230,H231,H232,H70,H215,H686,H216,H75,H580,H71,H219,H239,E244,E124,H499,E487,H222,H295,H470,H501,H249,H479,H220,H699,H700,H701,E469,H480,H481,H482,H483,H209,H210,H211,H212,H213,H214,H450,H451,H453,H454,H221,H217,H218,H316,H461,H462,E331,H465,H466,H467,H468,H530,H531,H532,H533,H534,H424,H463,H676,H677,H678,H440,H441,H442,H443,H349,H444,H445,H446,H447,H448,H449,E664,H665,H464,H455,H456,H457,H458,H459,H460,H554,E245,H246,H675,H658,H714,H659,H516,H630,H631,H734,H495,H496,H660,H661,H662,H663,E336,H666,H667,H668,H669,H670,H357,H572,H671,H672,H673,H674,H494,H704,H783,H882,H682,E683,H684,H685,H808,H809,H810,H811,H812,H813,H814,H744,H745,H815,H816,H927,H819,H827,H828,H946,H947,H948,H949,H950,H951,H952,H953,H954,H896,H897,H898,H899,H900,H901,H955,H956,H957,H1031,H1032,H1033,H1034,H1035,H1036,H1006,H1007,H1008,H1097,H1098,H1099,H1100,H1079,H1126,H1141,trivial⟩
def vt:∀{l:List (Nat×Nat)}{a b:Nat},fu l a=some b->(a,b)∈l
 |[],_,_,h=>by simp[fu]at h
 |(c,d)::r,a,b,h=>by
  simp only[fu]at h;split at h
  ·rename_i e;simp_all
  ·exact .tail _ (vt h)
def okY:Ok (Go.Proofs.Tryz.prog) xE Pm (Ba aX):=okA (fun fid n hn=>(show ∀p∈xE,p.2<1000000 by decide+kernel) _ (vt hn)) (fun t ht=>by simp[Pm]at ht;show t=60;omega) fun fid n hn=>allY.mem (fid,n) (vt hn)
section
open Go.RowKit Go.ChangeShapes
def gL.below {w w':World}(h:gL w w'):Below w.heap.size w w':=⟨h.os,h.tape,h.output,h.size,h.old⟩
section
variable {H:Type} {enc:TypeId×Value->H} {P:Program}
def Bk {f:Func}{s:ChangeSpec}{apart fresh handsOn again:Bool}{W W':World}{args:Array Value}{v:Value}{ds gs:List (DataW H)}{before pa pv:List MemPlace}
  (hW:DataW.Whole enc P f.params.toList s.vars apart W args.toList ds gs before)
  (hres:∀(b:Nat) (sp:Nat->Bool) (hd:Bool),DataW.TrodAll enc P W' b sp hd f.resultTypes.toList (v.resultList f.resultTypes.size) (s.fn H (ds++gs)).results [])
  (hargs:∀sp:Nat->Bool,(∀p∈before,sp p.block=true)->DataW.TrodAll enc P W' 0 sp true f.params.toList args.toList (s.fn H (ds++gs)).args pa)
  (hvars:∀sp:Nat->Bool,(∀p∈before,sp p.block=true)->DataW.TrodVars enc P W' sp s.vars (s.fn H (ds++gs)).vars pv)
  (hps:before=pa++pv) (hb:Below W.heap.size W W')
  (hok:∀(j:Nat) (t:TypeId) (r:Value),f.resultTypes[j]? =some t->(v.resultList f.resultTypes.size)[j]? =some r->Value.okWide P W' .any 0 t r):
  s.post enc P f apart fresh handsOn again W args v W':=by
 have hold:∀p∈before,(fun b=>decide (b<W.heap.size)) p.block=true:=fun p hp=>by simpa using hW.lt p hp
 refine⟨ds,gs,before,[],pa,pv,hW,hres _ _ _,hargs _ hold,hvars _ hold,World.keptBut_mono (fun p hp=>⟨hp, ?_⟩) (hb.frame (· ∈before)),fun _=>?_⟩
 ·rw[hps,List.mem_append]at hp;exact Or.inr hp
 ·have hlt:=hW.lt;obtain⟨_,_,_,_,_,hz,hn⟩:=hW;refine⟨hok,_,_,([]++pa)++pv,⟨[]++pa,pv,trodAll_append (hargs _ (fun _ _=>rfl)) (hres _ _ _),hvars _ (fun _ _=>rfl),rfl, ?_, ?_⟩, ?_⟩
  ·intro b off hp;have hmem:MemPlace.cell b off∈before:=by rw[hps];simpa using hp
   have hq:=hz b off hmem;have hl:b<W.heap.size:=hlt _ hmem;simpa only[World.frozen?,hb.block b hl]using hq
  ·grind
  ·intro p hp _;rw[hps];simpa using hp
end
end
section
inductive Lf
 |str
 |int (k:IntKind)
 |bool
 |sl (ag:Bool) (k:Nat) (cs:List Lf)
mutual
def fit:Lf->D->Nat->Prop
 | .str,d,n=>∃s,d=.str s/\s.length+1<=n
 | .int k,d,n=>(∃m,d=.int k m/\(Lit.int k m).wf=true)/\1<=n
 | .bool,d,n=>(∃b,d=.bool b)/\1<=n
 | .sl ag k cs,d,n=>∃es,d=.sl k es/\∃ns:List Nat,ns.length=es.length/\ns.sum+1<=n/\∀i,i<es.length->∃ds,es.getD i .any=(bif ag then .agg ds else ds.getD 0 .any)/\lf cs ds (ns.getD i 0)
def lf:List Lf->List D->Nat->Prop
 |[],ds,_=>ds=[]
 |c::r,ds,n=>∃d ds' n1 n2,ds=d::ds'/\n1+n2<=n/\fit c d n1/\lf r ds' n2
end
def uH:∀{cs:List Lf}{ds:List D}{n:Nat},lf cs ds n->ds.length=cs.length
 |[],ds,n,h=>by simp only[lf]at h;simp[h]
 |c::r,ds,n,h=>by
  simp only[lf]at h;obtain⟨d,ds',n1,n2,rfl,_,_,h2⟩:=h;simp[uH h2]
def wT:∀{a b:List Lf}{da db:List D}{n m:Nat},lf a da n->lf b db m->lf (a++b) (da++db) (n+m)
 |[],b,da,db,n,m,h1,h2=>by
  simp only[lf]at h1;subst h1;simp only[fC];exact fitL_mono h2 ae
 |c::r,b,da,db,n,m,h1,h2=>by
  simp only[lf]at h1;obtain⟨d,ds',n1,n2,rfl,h3,h4,h5⟩:=h1;simp only[fm,lf];exact⟨d,ds'++db,n1,n2+m,rfl,ae,h4,wT h5 h2⟩
where
 fitL_mono:∀{cs:List Lf} {ds:List D} {n m:Nat},lf cs ds n->n<=m->lf cs ds m
 |[],_,_,_,h,_=>h
 |c::r,ds,n,m,h,hm=>by
  simp only[lf]at h⊢;obtain⟨d,ds',n1,n2,rfl,h3,h4,h5⟩:=h;exact⟨d,ds',n1,n2,rfl,ae,h4,h5⟩
def Jr {c:Lf}{d:D}{n:Nat}(h:fit c d n):d.cells=[d]/\d.bC=true:=by
 cases c<;>simp only[fit]at h
 ·obtain⟨s,rfl,_⟩:=h;exact⟨rfl,rfl⟩
 ·obtain⟨⟨m,rfl,_⟩,_⟩:=h;exact⟨rfl,rfl⟩
 ·obtain⟨⟨b,rfl⟩,_⟩:=h;exact⟨rfl,rfl⟩
 ·obtain⟨es,rfl,_⟩:=h;exact⟨rfl,rfl⟩
def tv:∀{cs:List Lf}{ds:List D}{n:Nat},lf cs ds n->bB ds=true
 |[],ds,n,h=>by simp only[lf]at h;subst h;rfl
 |c::r,ds,n,h=>by
  simp only[lf]at h;obtain⟨d,ds',n1,n2,rfl,_,h1,h2⟩:=h;simp only[bB,(Jr h1).2,tv h2,Bool.and_self]
def Ma (b o m j:Nat):((⟨b,o,none⟩:Addr).add m).add j=⟨b,o+m+j,none⟩:=by
 unfold Addr.add;split<;>split<;>simp_all
section
variable {H:Type}
mutual
def dB:DataW H->Nat
 | .lit (.string s)=>s.length+1
 | .slice es _=>SD es+1
 | .agg ps=>SD ps
 |_=>1
def SD:List (DataW H)->Nat
 |[]=>0
 |d::r=>dB d+SD r
end
def Jn:∀ds:List (DataW H),SD ds=(ds.map dB).sum
 |[]=>rfl
 |d::r=>by simp only[SD,List.map_cons,List.sum_cons,Jn r]
end
def vO (P:Program)(t:TypeId):Bool:=match P.underlying t with
 |some (.struct _)=>true
 |some (.array _ _)=>true
 |_=>false
def Xu (P:Program)(F:TypeId->Option (List Lf)):List Field->Nat->Option (List Lf)
 |[],_=>some []
 |f::r,off=>match F f.type,Xu P F r (off+P.cellsOf f.type)with
  |some a,some b=>if f.offset=off/\a.length=P.cellsOf f.type then some (a++b)else none
  |_,_=>none
def arrF (e:TypeId)(off:Nat):Field:={(default:Field)with type:=e,offset:=off}
def Bh (P:Program):Nat->TypeId->Option (List Lf)
 |0,_=>none
 |n+1,t=>match P.underlying t with
  |some .bool=>some [.bool]
  |some (.int k)=>some [.int k]
  |some .string=>some [.str]
  |some (.slice e)=>match Bh P n e with
   |some cs=>if cs.length=P.cellsOf e/\0<cs.length/\(vO P e=true\/cs.length=1)then some [.sl (vO P e) (P.cellsOf e) cs]else none
   |none=>none
  |some (.struct fs)=>match Xu P (Bh P n) fs.toList 0 with
   |some a=>if a.length=P.cellsOf t then some a else none
   |none=>none
  |some (.array k e)=>match Xu P (Bh P n) ((List.range k).map fun i=>arrF e (i*P.cellsOf e)) 0 with
   |some a=>if a.length=P.cellsOf t then some a else none
   |none=>none
  |_=>none
section
variable {H:Type} {enc:TypeId×Value->H} {P:Program} {ν:List (Nat×Nat)}
def xO (W:World):X:=⟨W,fun b=>b<W.heap.size,fun _=>none⟩
def Rds (ν:List (Nat×Nat))(W:World)(cs:List Value)(a:List Lf)(n:Nat):Prop:=
 cs.length=a.length/\∃ds:List D,lf a ds n/\∀i,i<cs.length->RD ν (xO W) (cs.getD i undef) (ds.getD i .any)/\(cs.getD i undef).oneCell'=true
def Rds.one {W:World}{v:Value}{c:Lf}{d:D}{n:Nat}(hf:fit c d n)(hr:RD ν (xO W) v d)(h1:v.oneCell'=true):Rds ν W [v] [c] n:=
 ⟨rfl,[d],by simp only[lf];exact⟨d,[],n,0,rfl,ae,hf,rfl⟩,fun i hi=>by
  obtain rfl:i=0:=by simpa using hi
  exact⟨hr,h1⟩⟩
def H4 {W:World}{F:TypeId->Option (List Lf)}{m:Nat}{sp:Nat->Bool}{held:Bool}{cs:List Value}
  (hF:∀t a cs (x:DataW H×List MemPlace),F t=some a->DataW.trod enc P W 0 sp held m t cs=some x->Rds ν W cs a (dB x.1)):
  ∀(r:List Field) (off:Nat) (a:List Lf) (xs:List (DataW H×List MemPlace)),Xu P F r off=some a->xs.length=r.length->
   (∀(i:Nat) (f:Field),r[i]? =some f->DataW.trod enc P W 0 sp held m f.type ((cs.drop f.offset).take (P.cellsOf f.type))=xs[i]?)->off+a.length<=cs.length->
   ∃ds:List D,lf a ds (SD (xs.map (·.1)))/\∀i,i<a.length->RD ν (xO W) (cs.getD (off+i) undef) (ds.getD i .any)/\(cs.getD (off+i) undef).oneCell'=true
 |[],off,a,xs,h,hl,_,_=>by
  simp only[Xu,a8]at h;subst h;exact⟨[],rfl,fun i hi=>by simp at hi⟩
 |f::r,off,a,xs,h,hl,hx,hoff=>by
  simp only[Xu]at h;split at h
  ·rename_i a1 a2 h1 h2;split at h
   ·rename_i hc;simp only[a8]at h;subst h
    match xs,hl with
    |x::xs,hl=>
    have q:=hx 0 f rfl;simp only[List.getElem?_cons_zero]at q;obtain⟨l1,ds1,g1,g2⟩:=hF _ _ _ _ h1 q;simp only[bG]at hoff;have hlen:((cs.drop f.offset).take (P.cellsOf f.type)).length=a1.length:=by rw[<-l1]
    obtain⟨ds2,g3,g4⟩:=H4 hF r _ a2 xs h2 (by simpa using hl) (fun i f' hf=>by simpa using hx (i+1) f' (by simpa using hf)) ae;have hd1:=uH g1;refine⟨ds1++ds2,by simp only[List.map_cons,SD];exact wT g1 g3,fun i hi=>?_⟩;simp only[bG]at hi;by_cases hi1:i<a1.length
    ·have:=g2 i ae;have e1:(ds1++ds2).getD i .any=ds1.getD i .any:=by simp[List.getD,List.getElem?_append,hd1,hi1]
     have e2:((cs.drop f.offset).take (P.cellsOf f.type)).getD i undef=cs.getD (off+i) undef:=by
      simp only[List.getD,List.getElem?_take,List.getElem?_drop,hc.1];rw[ax ae]
     rw[e1,<-e2];exact this
    ·have:=g4 (i-a1.length) ae;have e1:(ds1++ds2).getD i .any=ds2.getD (i-a1.length) .any:=by simp[List.getD,List.getElem?_append,hd1,hi1]
     rw[e1,show off+i=off+P.cellsOf f.type+(i-a1.length)by omega];exact this
   ·cases h
  ·cases h
def yn {W:World}{sp:Nat->Bool}{held:Bool}:∀(fl:Nat) (t:TypeId) (a:List Lf) (fuel:Nat) (cs:List Value) (x:DataW H×List MemPlace),
  Bh P fl t=some a->DataW.trod enc P W 0 sp held fuel t cs=some x->Rds ν W cs a (dB x.1)
 |0,t,a,fuel,cs,x,h,_=>by simp[Bh]at h
 |n+1,t,a,fuel,cs,x,h,hx=>by
  unfold Bh at h;split at h
  ·rename_i ht;simp only[a8]at h;subst h;obtain⟨b,rfl,rfl⟩:=DataW.trod_bool ht hx;exact .one (by simp only[fit];exact⟨⟨b,rfl⟩,by simp[dB]⟩) (.bool b) rfl
  ·rename_i k ht;simp only[a8]at h;subst h;obtain⟨m,rfl,rfl,hw⟩:=DataW.trod_int ht hx;exact .one (by simp only[fit];exact⟨⟨m,rfl,hw⟩,by simp[dB]⟩) (.int k m) rfl
  ·rename_i ht;simp only[a8]at h;subst h;obtain⟨s,rfl,rfl,hs⟩:=DataW.trod_string ht hx;obtain⟨⟨l⟩⟩:=s;exact .one (d:=.str l) (by simp only[fit];exact⟨l,rfl,by simp[dB]⟩) (.str l hs) rfl
  ·rename_i e ht;split at h
   ·rename_i ce hce;split at h
    ·rename_i hk;obtain⟨hk1,hk0,hkag⟩:=hk;simp only[a8]at h;subst h;rcases DataW.trod_slice ht hx with⟨rfl,rfl⟩|⟨ad,len,cap,elems,rest,m,rfl,rfl,rfl,hb,hlc,hcm,hel,hat,_,_⟩
     ·refine .one (d:=.sl (P.cellsOf e) []) (by simp only[fit];exact⟨[],rfl,[],rfl,by simp[dB],fun i hi=>by simp at hi⟩) ?_ rfl;exact .sl none 0 0 0 0 _ [] (fun _ _=>undef) rfl (.inl rfl) (aQ _) (Nat.zero_le _) (fun i hi=>ae) (fun i hi=>ae) (fun i j hi=>ae) (fun i j hi=>ae) (fun i j hi=>ae)
     ·have key:∀i,i<len->∃(csi:List Value) (dsi:List D),(csi.length=ce.length/\∀j,j<P.cellsOf e->W.cell? ((ad.add (i*P.cellsOf e)).add j)=csi[j]?)/\lf ce dsi (dB (elems.getD i (.nil,[])).1)/\
        ∀j,j<csi.length->RD ν (xO W) (csi.getD j undef) (dsi.getD j .any)/\(csi.getD j undef).oneCell'=true:=by
       intro i hi;have q:=hat i hi;have hgi:elems[i]? =some (elems.getD i (.nil,[])):=by simp[List.getD,show i<elems.length by omega]
       rw[hgi,Option.bind_eq_some_iff]at q;obtain⟨csi,q1,q2⟩:=q;obtain⟨l1,dsi,g1,g2⟩:=yn n e ce m csi _ hce q2;obtain⟨_,_,q3⟩:=World.cells?_some q1;exact⟨csi,dsi,⟨l1,q3⟩,g1,g2⟩
      let f:Nat->List Value×List D:=fun i=>if h:i<len then((key i h).choose,(key i h).choose_spec.choose)else([],[])
      have hf:∀i,i<len->((f i).1.length=ce.length/\∀j,j<P.cellsOf e->W.cell? ((ad.add (i*P.cellsOf e)).add j)=(f i).1[j]?)/\lf ce (f i).2 (dB (elems.getD i (.nil,[])).1)/\
        ∀j,j<(f i).1.length->RD ν (xO W) ((f i).1.getD j undef) ((f i).2.getD j .any)/\((f i).1.getD j undef).oneCell'=true:=by
       intro i hi;have e1:f i=((key i hi).choose,(key i hi).choose_spec.choose):=by simp[f,hi]
       rw[e1];exact(key i hi).choose_spec.choose_spec
      let es:List D:=(List.range len).map fun i=>bif vO P e then .agg (f i).2 else(f i).2.getD 0 .any
      have hes:∀i,i<len->es.getD i .any=bif vO P e then .agg (f i).2 else(f i).2.getD 0 .any:=fun i hi=>by simp[es,hi]
      have hcells:∀i,i<len->(es.getD i .any).cells=(f i).2:=fun i hi=>by
       rw[hes i hi];cases hag:vO P e with
       |true=>rfl
       |false=>
        have h1:ce.length=1:=by
         rcases hkag with h|h
         ·rw[hag]at h;cases h
         ·exact h
        match ce,h1 with
        |[c],_=>
        have g:=(hf i hi).2.1;simp only[lf]at g;obtain⟨d,ds',n1,n2,e1,_,g1,rfl⟩:=g;rw[e1];exact(Jr g1).1
      have hnl:∀i,i<len->(es.getD i .any).bC=true:=fun i hi=>by
       have g:=tv (hf i hi).2.1;rw[hes i hi];cases hag:vO P e with
       |true=>exact g
       |false=>
        show((f i).2.getD 0 .any).bC=true
        match hq:(f i).2 with
        |[]=>rfl
        |d::r=>
         rw[hq]at g;simp only[bB,bw]at g;exact g.1
      refine .one (d:=.sl (P.cellsOf e) es) ?_ ?_ rfl
      ·simp only[fit];refine⟨es,rfl,elems.map fun q=>dB q.1,by simp[es,hel],by simp only[dB,Jn,List.map_map];exact aQ _,fun i hi=>?_⟩;have hi':i<len:=by simpa[es]using hi
       refine⟨(f i).2,hes i hi', ?_⟩;have:=(hf i hi').2.1;have e2:(elems.map fun q=>dB q.1).getD i 0=dB (elems.getD i (.nil,[])).1:=by simp[List.getD,show i<elems.length by omega]
       rw[e2];exact this
      ·have hfl:∀i,i<len->(f i).1.length=P.cellsOf e:=fun i hi=>by rw[(hf i hi).1.1,hk1]
       have hdl:∀i,i<len->(f i).2.length=P.cellsOf e:=fun i hi=>by rw[uH (hf i hi).2.1,hk1]
       have hcell:∀i j,i<len->j<P.cellsOf e->W.cell? ((ad.add (i*P.cellsOf e)).add j)=some ((f i).1.getD j undef):=fun i j hi hj=>by
        rw[(hf i hi).1.2 j hj];simp[List.getD,show j<(f i).1.length by rw[hfl i hi];exact hj]
       have hsp:es=[]\/(ad.spot=none/\ad.block<W.heap.size):=by
        by_cases h0:len=0
        ·left;simp[es,h0]
        ·right;have h1:=hcell 0 0 ae ae;have e3:(ad.add (0*P.cellsOf e)).add 0=ad:=by simp[Addr.add]
         rw[e3]at h1;refine⟨World.cell?_spot h1, ?_⟩;unfold World.cell? at h1;split at h1
         ·rename_i h2;exact(Array.getElem?_eq_some_iff.mp h2).1
         ·cases h1
       obtain⟨ab,ao,asp⟩:=ad;refine .sl (some ⟨ab,ao,asp⟩) ab ao len cap _ es (fun i j=>(f i).1.getD j undef) (by simp[es]) ?_ hlc hcm (fun i hi=>by rw[hcells i hi,hdl i hi]) hnl ?_ ?_ ?_
       ·rcases hsp with h|⟨h,h2⟩
        ·exact .inl h
        ·obtain rfl:asp=none:=h;exact .inr ⟨rfl,h2⟩
       ·intro i j hi hj;have h1:=hcell i j hi hj;rcases hsp with h|⟨h,h2⟩
        ·have:es.length=0:=by rw[h];rfl
         simp[es]at this;omega
        ·obtain rfl:asp=none:=h
         rwa [Ma]at h1
       ·intro i j hi hj;exact((hf i hi).2.2 j (by rw[hfl i hi];exact hj)).2
       ·intro i j hi hj;rw[hcells i hi];exact((hf i hi).2.2 j (by rw[hfl i hi];exact hj)).1
    ·cases h
   ·cases h
  ·rename_i fs ht;split at h
   ·rename_i b hb;split at h
    ·rename_i hlen;simp only[a8]at h;subst h;obtain⟨xs,m,rfl,rfl,hcl,hxl,hat⟩:=DataW.trod_struct ht hx;obtain⟨ds,g1,g2⟩:=H4 (W:=W) (ν:=ν) (sp:=sp) (held:=held) (enc:=enc) (m:=m) (cs:=cs) (fun t a cs x h1 h2=>yn n t a m cs x h1 h2) fs.toList 0 b xs hb (by simpa using hxl) (fun i f hf=>hat i f (by simpa using hf)) ae;refine⟨ae,ds,by simpa only[dB]using g1,fun i hi=>?_⟩;have:=g2 i ae
     rwa [bU]at this
    ·cases h
   ·cases h
  ·rename_i k e ht;split at h
   ·rename_i b hb;split at h
    ·rename_i hlen;simp only[a8]at h;subst h;obtain⟨xs,m,rfl,rfl,hcl,hxl,hat⟩:=DataW.trod_array ht hx;obtain⟨ds,g1,g2⟩:=H4 (W:=W) (ν:=ν) (sp:=sp) (held:=held) (enc:=enc) (m:=m) (cs:=cs) (fun t a cs x h1 h2=>yn n t a m cs x h1 h2) _ 0 b xs hb (by simpa using hxl) (fun i f hf=>by
      simp only[List.getElem?_map,dR]at hf;obtain⟨j,hj,rfl⟩:=hf;have hi:i<k:=by
       have:=(List.getElem?_eq_some_iff.1 hj).1;simpa using this
      obtain rfl:j=i:=by simpa[hi]using hj.symm
      exact hat j hi) ae
     refine⟨ae,ds,by simpa only[dB]using g1,fun i hi=>?_⟩;have:=g2 i ae
     rwa [bU]at this
    ·cases h
   ·cases h
  ·cases h
end
end
section
open Go.RowKit Go.ChangeShapes Go.WideShapes
def Hr (sh:Bool×List Lf)(d:D)(n:Nat):Prop:=∃ds,lf sh.2 ds n/\d=bif sh.1 then .agg ds else ds.getD 0 .any
def xU:List (Bool×List Lf)->List D->Nat->Prop
 |[],ds,_=>ds=[]
 |s::r,ds,n=>∃d ds' n1 n2,ds=d::ds'/\n1+n2<=n/\Hr s d n1/\xU r ds' n2
def pE (P:Program)(k:Nat):List TypeId->Option (List (Bool×List Lf))
 |[]=>some []
 |t::r=>match Bh P k t,pE P k r with
  |some a,some b=>if vO P t=true\/a.length=1 then some ((vO P t,a)::b)else none
  |_,_=>none
section
variable {H:Type} {enc:TypeId×Value->H} {P:Program} {ν:List (Nat×Nat)}
def V0 {W:World}{sp:Nat->Bool}{held:Bool}{k base:Nat}{t:TypeId}{a:List Lf}{v:Value}{d:DataW H}{p:List MemPlace}{r:Reach}
  (ha:Bh P k t=some a) (h1:vO P t=true\/a.length=1) (iP:Value.okWide P W r base t v) (h:DataW.Trod enc P W 0 sp held t v d p):
  ∃e,Hr (vO P t,a) e (dB d)/\e.bC=true/\RD ν (xO W) v e:=by
 obtain⟨fuel,hf⟩:=h;obtain⟨hl,ds,g1,g2⟩:=yn (ν:=ν) k t a fuel v.cells.toList (d,p) ha hf;have hdl:=uH g1;have hnl:=tv g1;refine⟨_,⟨ds,g1,rfl⟩, ?_⟩;cases hag:vO P t with
 |true=>
  have:∃cs,v=.agg cs/\cs.size=P.cellsOf t:=by
   match k,ha with
   |n+1,ha=>
   unfold Bh at ha;unfold vO at hag;split at ha
   ·simp_all
   ·simp_all
   ·simp_all
   ·simp_all
   ·rename_i fs ht;exact okWide_struct ht iP
   ·rename_i m e ht;simp only[Value.okWide,ht]at iP;obtain⟨cs,h1,h2,_⟩:=iP;exact⟨cs,h1,h2⟩
   ·simp_all
  obtain⟨cs,rfl,hcs⟩:=this;refine⟨hnl, ?_⟩;have hl':cs.size=a.length:=by simpa[Value.cells]using hl
  have e:∀i,(Value.agg cs).cells.toList.getD i undef=cs.getD i undef:=fun i=>by
   simp only[Value.cells];by_cases hi:i<cs.size<;>simp[List.getD,Array.getD,hi]
  refine .agg cs ds ae (fun i hi=>?_) fun i hi=>?_
  ·rw[<-e];exact(g2 i (by simp only[Value.cells,Array.length_toList];omega)).2
  ·rw[<-e];exact(g2 i (by simp only[Value.cells,Array.length_toList];omega)).1
 |false=>
  have h1:a.length=1:=by
   rcases h1 with h|h
   ·rw[hag]at h;cases h
   ·exact h
  have hv:v.cells.toList.getD 0 undef=v:=by
   match k,ha with
   |n+1,ha=>
   unfold Bh at ha;unfold vO at hag;split at ha
   ·rename_i ht;obtain⟨b,rfl⟩:=okWide_bool ht iP;rfl
   ·rename_i k ht;obtain⟨b,rfl⟩:=okWide_int ht iP;rfl
   ·rename_i ht;obtain⟨b,rfl⟩:=okWide_string ht iP;rfl
   ·rename_i e ht;obtain⟨b,c,f,rfl⟩:=okWide_slice ht iP;rfl
   ·rename_i fs ht;rw[ht]at hag;cases hag
   ·rename_i m e ht;rw[ht]at hag;cases hag
   ·cases ha
  have g:=g2 0 ae;rw[hv]at g;refine⟨?_,g.1⟩
  match ds,hdl with
  |[d0],_=>simpa[bB]using hnl
  |[],h=>simp at h;omega
  |_::_::_,h=>simp at h;omega
def Jg {W:World}{sp:Nat->Bool}{held:Bool}{k base:Nat}{r:Reach}:∀(ts:List TypeId) (shs:List (Bool×List Lf)) (vs:List Value) (dws:List (DataW H)) (ps:List MemPlace),
  pE P k ts=some shs->(∀(j:Nat) t v,ts[j]? =some t->vs[j]? =some v->Value.okWide P W r base t v)->DataW.TrodAll enc P W 0 sp held ts vs dws ps->
  ∃es:List D,xU shs es (SD dws)/\es.length=vs.length/\dws.length=ts.length/\bB es=true/\∀i,i<es.length->RD ν (xO W) (vs.getD i undef) (es.getD i .any)
 |[],shs,vs,dws,ps,hs,_,h=>by
  simp only[pE,a8]at hs;subst hs;obtain⟨rfl,rfl,rfl⟩:=trodAll_nil h;exact⟨[],rfl,rfl,rfl,rfl,fun i hi=>by simp at hi⟩
 |t::ts,shs,vs,dws,ps,hs,hv,h=>by
  simp only[pE]at hs;split at hs
  ·rename_i a b h1 h2;split at hs
   ·rename_i hc;simp only[a8]at hs;subst hs;obtain⟨v,vs',d,ds',p,q,rfl,rfl,rfl,h3,h4⟩:=trodAll_cons h;obtain⟨e,g1,g2,g3⟩:=V0 (ν:=ν) h1 hc (hv 0 t v rfl rfl) h3;obtain⟨es,k1,k2,k3,k4,k5⟩:=Jg ts b vs' ds' q h2 (fun j t v h5 h6=>hv (j+1) t v (by simpa using h5) (by simpa using h6)) h4;refine⟨e::es,⟨e,es,_,_,rfl,aQ _,g1,k1⟩,by simp[k2],by simp[k3],by simp[bB,g2,k4],fun i hi=>?_⟩
    match i,hi with
    |0,_=>exact g3
    |i+1,hi=>exact k5 i (by simpa using hi)
   ·cases hs
  ·cases hs
def ta {W W':World}(hl:laidOutB P=true)(hb:Below W.heap.size W W'){sp':Nat->Bool}:∀(ts:List TypeId) (vs:List Value) (dws:List (DataW H)) (ps:List MemPlace),
  (ts.all fun t=>P.readableRec t&&decide (t<P.types.size))=true->(∀x∈ps,x.block<W.heap.size)->(∀x∈ps,sp' x.block=true)->
  DataW.TrodAll enc P W 0 (fun _=>true) true ts vs dws ps->DataW.TrodAll enc P W' 0 sp' true ts vs dws ps
 |[],vs,dws,ps,_,_,_,h=>by
  obtain⟨rfl,rfl,rfl⟩:=trodAll_nil h;exact trodAll_mk0
 |t::ts,vs,dws,ps,ht,hlt,hsp,h=>by
  obtain⟨v,vs',d,ds',p,q,rfl,rfl,rfl,h3,h4⟩:=trodAll_cons h;simp only[List.all_cons,bw,aW]at ht;refine trodAll_cons_mk (WideElems.Trod_stays hl ht.1.1 ht.1.2 h3 (fun x hx=>hb.same (hlt x (by simp[hx]))) fun x hx=>hsp x (by simp[hx])) ?_;exact ta hl hb ts vs' ds' q ht.2 (fun x hx=>hlt x (by simp[hx])) (fun x hx=>hsp x (by simp[hx])) h4
end
end
def SM {c:Lf}{d:D}{n:Nat}(h:fit c d n):1<=n:=by
 cases c<;>simp only[fit]at h
 ·obtain⟨s,_,h⟩:=h;omega
 ·exact h.2
 ·exact h.2
 grind
theorem Py {c:Lf}{d:D}{n m:Nat}(h:fit c d n)(hm:n<=m):fit c d m:=by
 cases c<;>simp only[fit]at h⊢
 ·grind
 ·exact⟨h.1,ae⟩
 ·exact⟨h.1,ae⟩
 grind
theorem Kq:∀(ns:List Nat) (i:Nat),i<ns.length->ns.getD i 0<=ns.sum
 |a::r,0,_=>aT
 |a::r,i+1,h=>by
  have:=Kq r i (by simpa using h)
  grind
def Kr:∀(ns:List Nat),(∀i,i<ns.length->1<=ns.getD i 0)->ns.length<=ns.sum
 |[],_=>aT
 |a::r,h=>by
  have h0:=h 0 aT;have:=Kr r fun i hi=>h (i+1) (by simpa using hi)
  grind
def Xc {α:Type}{q:α->D}{G:α->Prop}{ag:Bool}{k:Nat}{cs:List Lf}{d:D}{n:Nat}(hcs:cs≠[])
  (hd:∀ds m,m<=n->lf cs ds m->∃x,(bif ag then D.agg ds else ds.getD 0 .any)=q x/\G x) (h:fit (.sl ag k cs) d n):
  ∃xs:List α,d=.sl k (xs.map q)/\xs.length+1<=n/\∀x∈xs,G x:=by
 simp only[fit]at h;obtain⟨es,rfl,ns,hl,hs,he⟩:=h;have hone:∀i,i<ns.length->1<=ns.getD i 0:=fun i hi=>by
  obtain⟨ds,_,h2⟩:=he i ae
  match cs,hcs with
  |c::r,_=>
  simp only[lf]at h2;obtain⟨d,ds',n1,n2,_,h3,h4,_⟩:=h2;have:=SM h4;omega
 have hlen:=Kr ns hone;have key:∀i,i<es.length->∃x,es.getD i .any=q x/\G x:=fun i hi=>by
  grind [Kq]
 have conv:∀es:List D,(∀i,i<es.length->∃x,es.getD i .any=q x/\G x)->∃xs:List α,es=xs.map q/\∀x∈xs,G x:=by
  intro es;induction es with
  |nil=>exact fun _=>⟨[],rfl,fun x hx=>by cases hx⟩
  |cons e r ih=>
   intro h;obtain⟨x,h1,h2⟩:=h 0 aT;obtain⟨xs,h3,h4⟩:=ih fun i hi=>by simpa using h (i+1) (by simpa using hi)
   simp only[jE]at h1;refine⟨x::xs,by rw[h3,h1];rfl,fun y hy=>?_⟩;rcases bV.1 hy with rfl|hy
   ·exact h2
   ·exact h4 y hy
 obtain⟨xs,rfl,hx⟩:=conv es key
 refine⟨xs,rfl, ?_,hx⟩;simp only[bP]at hl;omega
def PX {k:IntKind}{d:D}{n:Nat}(h:fit (.sl false 1 [.int k]) d n):∃xs:List Int,d=.sl 1 (xs.map (D.int k))/\xs.length+1<=n/\∀x∈xs,True:=
 Xc (q:=D.int k) (G:=fun _=>True) aT (fun ds m hm h=>by
  simp only[lf,fit]at h;obtain⟨d,ds',n1,n2,rfl,_,⟨⟨x,rfl,_⟩,_⟩,rfl⟩:=h;exact⟨x,rfl,trivial⟩) h
def DL {c:Lf}{d:D}{n:Nat}(h:Hr (false,[c]) d n):fit c d n:=by
 obtain⟨ds,h,rfl⟩:=h
 grind [lf,Py]
def Jx {k:IntKind}{d:D}{n:Nat}(h:fit (.int k) d n):∃x:Int,d=.int k x:=by
 grind [fit]
section
open Go.RowKit Go.ChangeShapes Go.WideShapes
def ctxp {t:List (Nat×qw)}{n:Nat}{ds:List D}{d:D}(hD:Zf (lk t n m9).rel)(h:(lk t n m9).rel ds d):(Ba t).pre n ds/\(Ba t).val n ds=d:=⟨⟨d,h⟩,hD _ _ _ (lO ⟨d,h⟩) h⟩
section
variable {H:Type} {enc:TypeId×Value->H} {P:Program} {ν:List (Nat×Nat)}
def H0 [dz]{cP:List Nat}{Y:Ctx}(hok:Ok P ν cP Y){fid n k base:Nat}{f:Func}{s:ChangeSpec}{tb:TypeId}{shs:List (Bool×List Lf)}{r:Reach}
  {W:World} {args:Array Value} {ds gs:List (DataW H)} {before:List MemPlace}
  (hf:P.funcs[fid]? =some f) (hnm:(f.name== "runtime.NumGoroutine")=false) (hbody:f.body.isSome=true) (hn:fu ν fid=some n)
  (hl:laidOutB P=true) (hts:(f.params.toList.all fun t=>P.readableRec t&&decide (t<P.types.size))=true)
  (hsh:pE P k f.params.toList=some shs) (hres:f.resultTypes=#[tb]) (htb:P.underlying tb=some .bool)
  (hvars:s.vars=[]) (hfn:∀xs:List (DataW H),xs.length=f.params.toList.length->s.fn H xs={results:=[.lit (.bool true)],args:=xs})
  (hgd:dz.gd (xO W)) (hpre:∀es,xU shs es (SD ds)->(∀i,i<es.length->∃v,RD ν (xO W) v (es.getD i .any))->Y.pre n es/\Y.val n es=.bool true)
  (hargs:∀(j:Nat) t v,f.params[j]? =some t->args[j]? =some v->Value.okWide P W r base t v)
  (hW:DataW.Whole enc P f.params.toList s.vars false W args.toList ds gs before):
  Calls P fid args W fun e W'=>∃v,e=.returned v/\s.post enc P f false true false false W args v W':=by
 have hW':=hW;obtain⟨p,q,hA,hV,rfl,hz,hnd⟩:=hW;rw[hvars]at hV;obtain⟨rfl,rfl⟩:=trodVars_none hV;obtain⟨es,h1,h2,h3,h4,h5⟩:=Jg (ν:=ν) f.params.toList shs args.toList ds p hsh (fun j t v e1 e2=>hargs j t v (by simpa using e1) (by simpa using e2)) hA;have hsz:args.size=es.length:=by simpa using h2.symm
 obtain⟨hp1,hp2⟩:=hpre es h1 fun i hi=>⟨_,h5 i hi⟩
 have hd:=hok.pure fid n hn (xO W) args es hsz (fun i hi=>by
  have:=h5 i hi;have e:args.toList.getD i undef=args.getD i undef:=by
   have hi':i<args.size:=ae;simp[List.getD,Array.getD,hi']
  rwa [e]at this) h4 (fun b hb=>hb) hgd hp1
 rw[iW hf hnm hbody args]at hd;rcases hd with⟨v,x',hd|hd,_⟩|⟨f',args',hd,hc⟩
 ·cases hd
 ·cases hd.1
 ·cases hd;refine Calls.mono hc fun e W' he=>?_
  match e,he with
  | .returned v,he=>
   obtain⟨x',rfl,hp,hr⟩:=he;rw[hp2]at hr;obtain rfl:v=.bool true:=by cases hr;rfl
   have hb:Below W.heap.size W x'.w:=hp.grow.below;have hlt:=hW'.lt;have e1:s.fn H (ds++[])={results:=[.lit (.bool true)],args:=ds}:=by rw[gh];exact hfn ds h3
   refine⟨_,rfl,Bk (pa:=p) (pv:=[]) hW' (fun b sp hd=>?_) (fun sp hsp=>?_) (fun sp hsp=>?_) rfl hb (ok_one hres rfl (okWide_bool_mk htb _))⟩
   ·rw[e1,hres];exact trodAll_mk1 (shut_bool htb _)
   ·rw[e1];exact ta hl hb _ _ _ _ hts (fun x hx=>by simpa using hlt x (by simpa using hx)) (fun x hx=>hsp x (by simpa using hx)) hA
   ·rw[e1,hvars];rfl
end
end
section
open Go.RowKit Go.ChangeShapes Go.WideShapes
end
end Go.Abs
section
namespace Go.Proofs.YtgnjlompgjhaaaaGreatDoor
open Go.Abs Go.ChangeShapes Go.WideShapes Go.ChangeAt Go.RowKit Go.Proofs
def own:ownKnob Tryz.prog.godebug=none:=by kernel_rfl
def P2:laidOutB Tryz.prog=true:=by kernel_rfl
def uP {P:Program}{W:World}{y:String×DataW Unit}{l:List (String×DataW Unit)}(h:laidMet P (y::l) W):laidMet P l W:=by
 obtain⟨ps,⟨g,t,cs,fuel,p,q,_,_,_,_,h1,rfl⟩,h2,h3⟩:=h;refine⟨q,h1,(List.nodup_append.1 h2).2.1,fun b off hm=>h3 b off (by simp[hm])⟩
def JJ {W:World}{b:Nat}{o:Nat}{v:Value}(h:W.cell? ⟨b,o,none⟩=some v):b<W.heap.size:=by
 unfold World.cell? at h;split at h
 ·rename_i h2;exact(Array.getElem?_eq_some_iff.mp h2).1
 ·cases h
def gd_of {W:World}(hL:laidMetH Tryz.prog Rows.indexSumsRow.laid W)(hsh:W.ShapedOpen Tryz.prog):dz.gd (xO W):=by
 have hL':laidMet Tryz.prog Rows.indexSumsRow.laid W:=hL;have htab:Lib.TabIs Tryz.prog W "internal/strconv.uint64pow10" .u64 Lib.pow10Tab:=
  Lib.tabIs_of_head (g:=3) (t:=275) (e:=52) (n:=20) (by kernel_rfl) (by kernel_rfl) (by kernel_rfl) (by kernel_rfl) (by kernel_rfl) (by kernel_rfl) (uP (uP hL'))
 obtain⟨m,hm⟩:∃m,W.cell? ⟨0,0,none⟩=some (.int .i64 m):=Go.Proofs.cell_of_shapedOpen_int (zero:=#[.int .i64 0]) (t:=3) hsh (of_decide_eq_true (by kernel_rfl)) (by kernel_rfl) rfl (by kernel_rfl) (by kernel_rfl) Tryz.underlying3
 have h3:=htab.cell xc 0 (by decide);exact⟨⟨JJ hm,m,hm⟩,JJ h3,htab⟩
mutual
def EU {H:Type}:DataW H->List Value
 | .lit (.int k n)=>[.int k n]
 | .agg ps=>Pl ps
 |_=>[]
def Pl {H:Type}:List (DataW H)->List Value
 |[]=>[]
 |d::r=>EU d++Pl r
end
def put (d:DataW Unit):Obj->Obj
 | .cells _ t frozen=>.cells (EU d).toArray t frozen
 |o=>o
noncomputable def vQ (os:Os):World:=
 {World.holding Tryz.prog os ⟨#[],#[],[]⟩with heap:=(((((World.holding Tryz.prog os ⟨#[],#[],[]⟩).heap.modify 1 (put Rows.laid_unicode_utf8_first)).modify 2 (put Rows.laid_unicode_utf8_acceptRanges)).modify 3 (put Rows.laid_internal_strconv_uint64pow10)).modify 4 (put Rows.laid_math_bits_deBruijn32tab)).modify 5 (put Rows.laid_math_bits_deBruijn64tab)}
end Go.Proofs.YtgnjlompgjhaaaaGreatDoor
end
section
namespace Go.Proofs.YtgnjlompgjhaaaaGreatDoor
open Go.Abs Go.ChangeShapes Go.WideShapes Go.ChangeAt Go.RowKit Go.Proofs
def kt:Array Value:=#[.slice none 0 0,.int .i64 0,.int .i64 0]
def tF (os:Os):laidMet Tryz.prog Rows.indexSumsRow.laid ((vQ os).forCall (fun _ _=>0) ⟨#[],kt,[]⟩).memory:=
 laidMet_of_run' 8 (by kernel_rfl) (by kernel_rfl)
def wo:pE Tryz.prog 20 Tryz.f7.params.toList=some [(false,[.sl false 1 [.int .i64]]),(false,[.int .i64]),(false,[.int .i64])]:=by kernel_rfl
def Bl {W:World}{es:List D}{n:Nat}(h:xU [(false,[.sl false 1 [.int .i64]]),(false,[.int .i64]),(false,[.int .i64])] es n)(hr:∀i,i<es.length->∃v,RD xE (xO W) v (es.getD i .any)):(Ba aX).pre 1199 es/\(Ba aX).val 1199 es=.bool true:=by
 obtain⟨d1,_,n1,m1,rfl,a1,h1,d2,_,n2,m2,rfl,a2,h2,d3,_,n3,m3,rfl,a3,h3,rfl⟩:=h;obtain⟨v1,rfl,k1⟩:=PX (DL h1);obtain⟨v2,rfl⟩:=Jx (DL h2);obtain⟨v3,rfl⟩:=Jx (DL h3);exact ctxp Za fun T h=>h v1 v2 v3
def xG (os:Os){H:Type}(enc:TypeId×Value->H):∃places,DataW.whole enc Tryz.prog ((vQ os).forCall (fun _ _=>0) ⟨#[],kt,[]⟩).memory Tryz.f7.params.toList Rows.indexSumsSpec.vars false kt.toList 8=
  some ([.nil,.lit (.int .i64 0),.lit (.int .i64 0)],[],places):=
 ⟨[],by kernel_rfl⟩
set_option maxRecDepth 100000 in
theorem vR (os:Os)(started:os.Started)(H:Type)(enc:TypeId×Value->H)(F:Stop.Interp):
  ReturnsInHanded {} Tryz.checked os 7 .any ((OpenSpec.ofChange Rows.indexSumsSpec).preRow enc Tryz.prog Tryz.f7 Rows.indexSumsRow.domain false Rows.indexSumsRow.laid) (((OpenSpec.ofChange Rows.indexSumsSpec).at F).post enc Tryz.prog Tryz.f7 false true false false):=by
 obtain⟨places,hx⟩:=xG os enc;refine returnsInHanded_of_row (C:=Tryz.checked) (s:=OpenSpec.ofChange Rows.indexSumsSpec) own started (by kernel_rfl) Tryz.func7
  (witness_row_at (enc:=enc) (C:=Tryz.checked) false (vQ os) kt rfl (by kernel_rfl) (by kernel_rfl) (by kernel_rfl)
    (OpenSpec.preRow_of_cond 8 hx (by kernel_rfl) (fun k hk=>by cases hk) (by kernel_rfl) (tF os))) ?_
 intro W base args ds gs before iP hW _ _ _ hL hsh _;refine H0 (n:=1199) (k:=20) (s:=(OpenSpec.ofChange Rows.indexSumsSpec).at F) (tb:=4) okY Tryz.func7 (by kernel_rfl) (by kernel_rfl) (by kernel_rfl) P2 (by kernel_rfl) wo (by kernel_rfl) (by kernel_rfl) rfl (fun xs hx=>?_) (gd_of hL hsh)
  (fun es he hr=>Bl he hr) iP hW
 match xs,hx with
 |[a,b,c],_=>rfl
def Ds:Tryz.prog.inPlace 7=Rows.indexSumsRow.inPlace:=by kernel_rfl
def Dt:Tryz.prog.unfollowed 7=Rows.indexSumsRow.unfollowed:=by kernel_rfl
def Du:Tryz.prog.recurses 7=Rows.indexSumsRow.recurses:=by kernel_rfl
def Dv:Tryz.prog.varsNamed 7=Rows.indexSumsRow.named:=by kernel_rfl
def vx:joinedFacts Tryz.prog 7 Tryz.f7 (OpenSpec.ofChange Rows.indexSumsSpec).bare Rows.indexSumsRow=true:=by
 unfold joinedFacts;rw[Ds,Dt,Du,Dv]
 kernel_rfl
def AB:Rows.IndexSumsSaid:=
 OpenClaim.holds_of_cond 7 Tryz.f7 rfl rfl rfl rfl rfl rfl rfl ⟨rfl,rfl,rfl,rfl,rfl⟩ rfl rfl rfl rfl rfl (by kernel_rfl) Tryz.func7 vx
  (of_decide_eq_true (by kernel_rfl)) (by unfold Func.isWrapper;first|(rw[if_pos (by decide+kernel)];kernel_rfl)|(rw[if_neg (by decide+kernel)];exact⟨rfl,rfl⟩))
  (fun os started H enc _ F=>by rw[OpenClaim.pre_eq_preRow];exact vR os started H enc F)
def xF (f:FuncId)(fn:Func)(hf:Tryz.pinned.checked.prog.funcNamed "linchpin/linchpinlaw14.IndexSums" =some f)(hfn:Tryz.pinned.checked.prog.funcs[f]? =some fn):
  false=Tryz.pinned.checked.prog.looks []/\∀(j:Nat) t,fn.params[j]? =some t->Tryz.pinned.checked.prog.wantsStandIn t=false:=by
 obtain rfl:f=7:=Option.some.inj ((show Tryz.prog.funcNamed "linchpin/linchpinlaw14.IndexSums" =some 7 by kernel_rfl).symm.trans hf) |>.symm
 obtain rfl:fn=Tryz.f7:=(Option.some.inj (Tryz.func7.symm.trans hfn)).symm;refine⟨by kernel_rfl,fun j t ht=>?_⟩;have hall:(Tryz.f7.params.toList.all fun t=>!Tryz.prog.wantsStandIn t)=true:=by kernel_rfl
 have:=List.all_eq_true.1 hall t (by simpa using Array.mem_of_getElem? ht);show Tryz.prog.wantsStandIn t=false;simpa using this
theorem card_indexSums:Rows.IndexSumsCardSaid:=
 Claim7.holds_tied_plain_at .later [] _ _ _ _ AB (fun _ h=>by cases h) (by kernel_rfl) (fun _ h=>by cases h) indexSums_row_tie rfl ⟨rfl,rfl⟩ (by kernel_rfl) rfl xF (by kernel_rfl)
end Go.Proofs.YtgnjlompgjhaaaaGreatDoor
end
#print axioms Go.Proofs.YtgnjlompgjhaaaaGreatDoor.card_indexSums
