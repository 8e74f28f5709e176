/- A shelf that is printed is parsed back; with an entry told twice Parse tells ErrTwice and its line. -/
import Derived.Carry
import Derived.ChangeArms
import Derived.ChangeSame
import Derived.Deep.DeepHandedRow
import Derived.Lib.LaidTab
import Derived.OpenShut
import Derived.RowKit
import Derived.Test.YtgnjlompgjhaaaaGreatDoorCards
import Derived.Test.YtgnjlompgjhaaaaGreatDoorTie
import Derived.WideKeyArgs
import Derived.WideShapes
import Derived.Test.YtgnjlompgjhaaaaGreatDoorP11
set_option linter.all false
set_option maxRecDepth 4000
namespace Go.Abs
section
open Go.Proofs Go.Shelf Go.RowKit
section
variable [dD] {P:Program} {ν:List (Nat×Nat)} {cQ:List Nat} {Y:Ctx} {x:X}
def Hz {m:List (Nat×bR)}{l:Nat}{t:List UInt8}{v:Value}(hs:fZ ν x (look m))(hb:sM m l t)(hv:RD ν x v (.ptr l 2 0 0)):
  ∃b tot u w,v=.pointer (some ⟨b,0,none⟩)/\x.β l=some (b,0,tot)/\¬x.I b/\x.w.heap[b]? =some (sA b u w dD.tB)/\mT dD.tU x.w w t/\
   (w.ownBlock=none/\gr m l=m\/∃l2 g t2,w=.slice (some ⟨g,0,none⟩) t.length t2/\x.β l2=some (g,0,t2)/\¬x.I g/\look m l2=some (.row t)/\l2≠l/\gr m l=c8 m l2):=by
 cases hv with
 |ptr _ _ _ _ b base tot at_ hβ hat=>
  rcases hb with⟨u,h1,rfl⟩|⟨l2,u,h1,h2⟩
  .obtain⟨o1,rfl,w,o2,_,rfl⟩:=hs.own l _ b base tot h1 hβ;simp only[Nat.zero_mul,Nat.add_zero]at hat;subst hat;exact⟨b,tot,u,_,rfl,hβ,o1,o2,.inl ⟨rfl,rfl⟩,.inl ⟨rfl,by simp only[gr,h1]⟩⟩
  .obtain⟨o1,rfl,w,o2,g,t2,rfl,o3,o4⟩:=hs.own l _ b base tot h1 hβ;simp only[Nat.zero_mul,Nat.add_zero]at hat;subst hat;obtain⟨p1,_,c,p2,p3,p4,p5,p6⟩:=hs.own l2 _ g 0 t2 h2 o4;have hne:l2≠l:=by rintro rfl;rw[h1]at h2;cases h2
   exact⟨b,tot,u,_,rfl,hβ,o1,o2,.inr ⟨g,t2,c,rfl,p2,p3,p4,p5,p6⟩,.inr ⟨l2,g,t2,rfl,o4,p1,h2,hne,by simp only[gr,h1]⟩⟩
def C0 {st:St}{l:Nat}{t s:List UInt8}{b tot:Nat}{w:Value}{w':World}(hs:fZ ν x (look st.m))(hf:fW st x)(hlive:look st.m l≠none)(hl:l<st.nx)
  (hβ:x.β l=some (b,0,tot)) (hI:¬x.I b)
  (hrow:w.ownBlock=none/\gr st.m l=st.m\/∃l2 g t2,w=.slice (some ⟨g,0,none⟩) t.length t2/\x.β l2=some (g,0,t2)/\¬x.I g/\look st.m l2=some (.row t)/\l2≠l/\gr st.m l=c8 st.m l2)
  (hw:EJ dD.tB dD.tU b w.ownBlock s x.w w'):
  ∃x':X,x'.w=w'/\Step x x'/\fZ ν x' (look (qN st.m l st.nx s))/\fW ⟨st.nx+1,qN st.m l st.nx s⟩ x':=by
 obtain⟨g',t',h1,h2,h3,h4,h5,k1,k2,k3,k4,k5⟩:=hw;have hn:=hf.β st.nx (aP _)

 have hg:∀g,w.ownBlock=some g->∃l2 t2,x.β l2=some (g,0,t2)/\¬x.I g/\look st.m l2=some (.row t)/\l2≠l/\gr st.m l=c8 st.m l2:=by
  intro g hg;rcases hrow with⟨h,_⟩|⟨l2,g0,t2,rfl,q⟩
  .rw[h]at hg;cases hg
  .obtain rfl:=ch hg;exact⟨l2,t2,q⟩
 have hlook:∀l' blk,l'≠l->look (gr st.m l) l'=some blk->look st.m l'=some blk/\∀g,w.ownBlock=some g->∀p,x.β l'=some p->p.1≠g:=by
  intro l' blk hl' hk;rcases hrow with⟨h,e⟩|⟨l2,g0,t2,rfl,q1,q2,q3,q4,e⟩
  .rw[e]at hk;exact⟨hk,fun g hg=>by rw[h]at hg;cases hg⟩
  .rw[e,gO]at hk;split at hk
   .cases hk
   .rename_i hne;refine⟨hk,fun g hg p hp e=>?_⟩;obtain rfl:=ch hg;obtain⟨b',base',tot'⟩:=p;simp only at e;subst e;exact hne (hs.inj l' l2 _ _ _ _ _ (by rw[hk];simp) (by rw[q3];simp) hp q1)
 have hbg:∀l' p,x.β l'=some p->p.1<x.w.heap.size:=fun l' ⟨b',base',tot'⟩ hp=>hs.eM l' b' base' tot' hp
 have hkeep:∀k,k<x.w.heap.size->k≠b->some k≠w.ownBlock->w'.heap[k]? =x.w.heap[k]? :=k5
 let x':X:=⟨w',x.I,eD x.β st.nx (g',0,t')⟩
 have hst:Step x x':=by
  refine⟨k1,k2,k3,k4,fun _ h=>h,fun k hk=>hkeep k (hs.imm k hk) (fun e=>hI (e▸hk)) (fun e=>?_),fun l' p hp=>?_,fun k hk hn'=>hkeep k hk (fun e=>hn' l _ hβ e.symm) (fun e=>?_),fun _ h=>.inl h,fun l' p hp=>?_⟩
  .obtain⟨l2,t2,q1,q2,_⟩:=hg k e.symm;exact q2 hk
  .have:l'≠st.nx:=fun e=>by rw[e,hn]at hp;cases hp
   simp[x',eD,this,hp]
  .obtain⟨l2,t2,q1,_⟩:=hg k e.symm;exact hn' l2 _ q1 rfl
  .by_cases e1:l'=st.nx
   .simp only[x',eD,e1,ba,a8]at hp;subst hp;rcases h3 with h3|h3
    .obtain⟨l2,t2,q1,_⟩:=hg g' h3;exact .inr (.inr ⟨l2,_,q1,rfl⟩)
    .exact .inr (.inl h3)
   .simp only[x',eD,e1,bc]at hp;exact .inl hp
 have hle:=hst.le;have hlm:∀l',look (qN st.m l st.nx s) l'=if l'=st.nx then some (.row s)else if l'=l then some (.bld (some st.nx) s.length true)else look (gr st.m l) l':=by
  intro l';simp only[qN,look];by_cases e:l'=st.nx
  .rw[ax e.symm,ax e]
  .rw[aj (fun h=>e h.symm),aj e,cD]
 have hfr:∀l' p,l'≠st.nx->x.β l'=some p->l'≠l->look (gr st.m l) l'≠none->p.1≠g':=by
  intro l' p hl' hp hne hk e;cases hq:look (gr st.m l) l' with
  |none=>exact hk hq
  |some blk=>
   rcases h3 with h3|h3
   .exact(hlook l' blk hne hq).2 g' h3 p hp e
   .have:=hbg l' p hp;omega
 refine⟨x',rfl,hst,⟨fun l' blk b' base' tot' e1 e2=>?_,fun l1 l2 b' base1 tot1 base2 tot2 e1 e2 e3 e4=>?_,fun k hk=>eV (hs.imm k hk) k4,fun l' b' base' tot' e=>?_,rh hle hs.gd⟩,⟨fun l' hl'=>?_,fun l' hl'=>?_⟩⟩
 .rw[hlm]at e1;by_cases c1:l'=st.nx
  .rw[ax c1]at e1;simp only[x',eD,ax c1,a8,eo]at e2;obtain⟨rfl,rfl,rfl⟩:=e2;obtain rfl:=ch e1;refine⟨fun h=>?_,rfl, ?_⟩
   .rcases h3 with h3|h3
    .obtain⟨l2,t2,_,q2,_⟩:=hg g' h3;exact q2 h
    .have:=hs.imm g' h;omega
   .rcases h2 with⟨h2,_⟩|⟨g2,t2,c,h2,r⟩
    .cases h2
    .simp only[Value.slice.injEq,a8,Addr.mk.injEq]at h2;obtain⟨⟨rfl,_⟩,_,rfl⟩:=h2;exact⟨c,r⟩
  .rw[aj c1]at e1;simp only[x',eD,aj c1]at e2;by_cases c2:l'=l
   .subst c2;rw[ax rfl]at e1;rw[hβ]at e2;simp only[a8,eo]at e2;obtain⟨rfl,rfl,rfl⟩:=e2;obtain rfl:=ch e1;refine⟨hI,rfl,_,h1,g',t',rfl, ?_,by simp[x',eD]⟩;rcases h2 with⟨h2,_⟩|⟨g2,t2,c,h2,_,_,_,r,_⟩
    .cases h2
    .simp only[Value.slice.injEq]at h2;obtain⟨_,_,rfl⟩:=h2;exact r
   .rw[aj c2]at e1;obtain⟨q1,q2⟩:=hlook l' blk c2 e1;obtain⟨o1,o2⟩:=hs.own l' blk b' base' tot' q1 e2;refine⟨o1,o2.mono hle (hkeep b' (hs.eM _ _ _ _ e2) (fun e=>?_) (fun e=>q2 b' e.symm _ e2 rfl))⟩;subst e;exact c2 (hs.inj l' l _ _ _ _ _ (by rw[q1];simp) hlive e2 hβ)
 .rw[hlm]at e1 e2;by_cases c1:l1=st.nx
  .by_cases c2:l2=st.nx
   .rw[c1,c2]
   .exfalso;rw[aj c2]at e2;simp only[x',eD,ax c1,a8,eo]at e3;simp only[x',eD,aj c2]at e4;obtain⟨rfl,_⟩:=e3;by_cases c3:l2=l
    .subst c3;rw[hβ]at e4;simp only[a8,eo]at e4;exact h5 e4.1.symm
    .rw[aj c3]at e2;exact hfr l2 _ c2 e4 c3 e2 rfl
  .rw[aj c1]at e1;simp only[x',eD,aj c1]at e3;by_cases c2:l2=st.nx
   .exfalso;simp only[x',eD,ax c2,a8,eo]at e4;obtain⟨rfl,_⟩:=e4;by_cases c3:l1=l
    .subst c3;rw[hβ]at e3;simp only[a8,eo]at e3;exact h5 e3.1.symm
    .rw[aj c3]at e1;exact hfr l1 _ c1 e3 c3 e1 rfl
   .rw[aj c2]at e2;simp only[x',eD,aj c2]at e4;have live:∀l',(if l'=l then some (bR.bld (some st.nx) s.length true)else look (gr st.m l) l')≠none->look st.m l'≠none:=by
     intro l' h;by_cases c:l'=l
     .rw[c];exact hlive
     .rw[aj c]at h;cases hq:look (gr st.m l) l' with
      |none=>exact absurd hq h
      |some blk=>rw[(hlook l' blk c hq).1];simp
    exact hs.inj l1 l2 b' base1 tot1 base2 tot2 (live l1 e1) (live l2 e2) e3 e4
 .by_cases c1:l'=st.nx
  .simp only[x',eD,ax c1,a8,eo]at e;obtain⟨rfl,_⟩:=e;exact h4
  .simp only[x',eD,aj c1]at e;exact eV (hs.eM _ _ _ _ e) k4
 .have hl':st.nx+1<=l':=hl';simp only[x',eD,aj (show ¬l'=st.nx by omega)];exact hf.β l' ae
 .show l'<st.nx+1;simp only[hlm]at hl';by_cases c1:l'=st.nx
  .omega
  .rw[aj c1]at hl';by_cases c2:l'=l
   .omega
   .rw[aj c2]at hl';cases hq:look (gr st.m l) l' with
    |none=>exact absurd hq hl'
    |some blk=>have:=hf.m l' (by rw[(hlook l' blk c2 hq).1];simp);omega
def sM.live {m:List (Nat×bR)}{l:Nat}{t:List UInt8}(h:sM m l t):look m l≠none:=by
 rcases h with⟨u,h,_⟩|⟨l2,u,h,_⟩<;>rw[h]<;>simp
variable {J:Ren}
def Pb {args:Array Value}(h:args.size=2):args=#[args.getD 0 undef,args.getD 1 undef]:=by
 apply Array.ext
 .simpa using h
 .intro i h1 h2
  match i,h1 with
  |0,h1=>simp[Array.getD,h1]
  |1,h1=>simp[Array.getD,h1]
  |i+2,h1=>omega
def Wc {args:Array Value}(h:args.size=1):args=#[args.getD 0 undef]:=by
 apply Array.ext
 .simpa using h
 .intro i h1 h2
  match i,h1 with
  |0,h1=>simp[Array.getD,h1]
  |i+1,h1=>omega
def Tc (hB:dD.tB=J.t 72)(hU:dD.tU=J.t 5)(L:Lays.n166 P J)(X':Builder.Extra P J)(hen:∀args w,(callFunc (J.f 166) args).run P w=.ok (.enter (J.f 166) args) w):O4 P ν Y cQ trWS (J.f 166):=by
 rintro ds st K ⟨s,l,t,rfl,hb,hl,h0,hle,hK⟩ hok x args hl2 hargs hs hf;obtain⟨b,tot,u,w,e0,hβ,hI,hh,hv,hrow⟩:=Hz hs hb (hargs 0 aT);have h1:=hargs 1 aT;simp only[List.getD_cons_succ,jH]at h1;obtain⟨e1,hm⟩:=h1.jP;rw[hB]at hh;rw[hU]at hv;refine .inr ⟨J.f 166,args,hen args x.w, ?_⟩;rw[Pb (args:=args) (by simpa using hl2),e0,e1];refine(xr L X' hh hv h0 hm hle).mono ?_;rintro e w' ⟨⟨r,rfl⟩,hw⟩;rw[<-hB,<-hU]at hw;obtain⟨x',q1,q2,q3,q4⟩:=C0 hs hf hb.live hl hβ hI hrow hw;exact⟨x',q1,.any,_,hK,q2,.any _,q3,q4⟩
def Tb (hB:dD.tB=J.t 72)(hU:dD.tU=J.t 5)(L:Lays.n167 P J)(X':Builder.Extra P J)(hen:∀args w,(callFunc (J.f 167) args).run P w=.ok (.enter (J.f 167) args) w):O4 P ν Y cQ trWB (J.f 167):=by
 rintro ds st K ⟨c,l,t,rfl,hb,hl,h0,hle,hK⟩ hok x args hl2 hargs hs hf;obtain⟨b,tot,u,w,e0,hβ,hI,hh,hv,hrow⟩:=Hz hs hb (hargs 0 aT);have h1:=hargs 1 aT;simp only[List.getD_cons_succ,jH]at h1;have e1:=h1.dQ;rw[hB]at hh;rw[hU]at hv;refine .inr ⟨J.f 167,args,hen args x.w, ?_⟩;rw[Pb (args:=args) (by simpa using hl2),e0,e1];refine(A8 L X' hh hv hle).mono ?_;rintro e w' ⟨⟨r,rfl⟩,hw⟩;rw[<-hB,<-hU]at hw;obtain⟨x',q1,q2,q3,q4⟩:=C0 hs hf hb.live hl hβ hI hrow hw;exact⟨x',q1,.any,_,hK,q2,.any _,q3,q4⟩
def Ta (hB:dD.tB=J.t 72)(hU:dD.tU=J.t 5)(L:Lays.n169 P J)(X':Builder.Extra P J)(hen:∀args w,(callFunc (J.f 169) args).run P w=.ok (.enter (J.f 169) args) w):O4 P ν Y cQ trBS (J.f 169):=by
 rintro ds st K ⟨l,t,rfl,hb,h0,hK⟩ hok x args hl2 hargs hs hf;obtain⟨b,tot,u,w,e0,hβ,hI,hh,hv,hrow⟩:=Hz hs hb (hargs 0 aT);rcases hrow with⟨hn,_⟩|⟨l2,g,t2,rfl,q1,q2,q3,q4,q5⟩
 .exfalso;rcases hv with⟨_,h⟩|⟨g,t',c,rfl,_⟩
  .exact h0 h
  .cases hn
 rw[hB]at hh;rw[hU]at hv;have htm:t.length<=maxLen:=by
  rcases hv with⟨_,rfl⟩|⟨g',t',c,h1,_,_,h4,h5,_⟩
  .exact absurd rfl h0
  .omega
 refine .inr ⟨J.f 169,args,hen args x.w, ?_⟩;rw[Wc (args:=args) (by simpa using hl2),e0];refine(HA L X' hh hv h0).mono ?_;rintro e w' ⟨rfl,k1,k2,k3,k4,k5⟩;have hkeep:∀k,(∀l' p,look (c8 (gr st.m l) l) l'≠none->x.β l'=some p->p.1=k->False)->True:=fun _ _=>trivial
 have hst:Step x ⟨w',x.I,x.β⟩:=⟨k1,k2,k3,Nat.le_of_eq k4.symm,fun _ h=>h,fun k hk=>k5 k (fun e=>q2 (e▸hk)),fun _ _ h=>h,fun k hk hn=>k5 k (fun e=>hn l2 _ q1 e.symm),fun _ h=>.inl h,fun _ _ h=>.inl h⟩;have hlm:∀l',look (c8 (gr st.m l) l) l'=if l'=l then none else if l'=l2 then none else look st.m l':=fun l'=>by rw[gO,q5,gO]
 refine⟨⟨w',x.I,x.β⟩,rfl,.str t,_,hK,hst,.str t htm,⟨fun l' blk b' base' tot' e1 e2=>?_,fun l1 l3 b' base1 tot1 base2 tot2 e1 e2 e3 e4=>?_,fun k hk=>by show k<w'.heap.size;rw[k4];exact hs.imm k hk,fun l' b' base' tot' e=>by show b'<w'.heap.size;rw[k4];exact hs.eM _ _ _ _ e,rh hst.le hs.gd⟩,⟨hf.β,fun l' hl'=>?_⟩⟩
 .rw[hlm]at e1;split at e1
  .cases e1
  split at e1
  .cases e1
  rename_i c1 c2;obtain⟨o1,o2⟩:=hs.own l' blk b' base' tot' e1 e2;refine⟨o1,o2.mono hst.le (k5 b' (fun e=>c2 ?_))⟩;subst e;exact hs.inj l' l2 _ _ _ _ _ (by rw[e1];simp) (by rw[q3];simp) e2 q1
 .have live:∀l',look (c8 (gr st.m l) l) l'≠none->look st.m l'≠none:=by
   intro l' h;rw[hlm]at h;split at h
   .exact absurd rfl h
   split at h
   .exact absurd rfl h
   .exact h
  exact hs.inj l1 l3 b' base1 tot1 base2 tot2 (live l1 e1) (live l3 e2) e3 e4
 .simp only[hlm]at hl';split at hl'
  .exact absurd rfl hl'
  split at hl'
  .exact absurd rfl hl'
  .exact hf.m l' hl'
end
end
section
open Go.Proofs
def QU:Nat:=3
def wY:Tryz.prog.globalNamed "internal/strconv.uint64pow10" =some QU:=n8
instance seatGlob:dD where
 tB:=60
 tU:=5
 gd x:=(x.I 0/\∃m,x.w.cell? ⟨0,0,none⟩=some (.int .i64 m))/\x.I QU/\Lib.TabIs Tryz.prog x.w "internal/strconv.uint64pow10" .u64 Lib.pow10Tab
 le x x' hI hk h:=by
  obtain⟨⟨h1,m,h2⟩,h3,h4⟩:=h;refine⟨⟨hI _ h1,m,oT (hk _ h1) h2⟩,hI _ h3, ?_⟩;unfold Lib.TabIs World.var? at h4⊢;rw[wY]at h4⊢;simp only[Option.bind_some]at h4⊢;rw[hk _ h3];exact h4
def sb {fid:Nat}{x:X}{args:Array Value}{d:D}(hn:(Tryz.prog.funcs[fid]?).map (fun f=>f.name== "runtime.NumGoroutine" ||!f.body.isSome)=some false)
  (himm:∀b,x.I b->b<x.w.heap.size)
  (hc:Calls Tryz.prog fid args x.w fun e w'=>∃v,e=.returned v/\gN x.w w'/\∃I:Nat->Prop,(∀b,x.I b->I b)/\(∀b,I b->x.I b\/x.w.heap.size<=b/\b<w'.heap.size)/\RD xF ⟨w',I,x.β⟩ v d):
  jQ Tryz.prog x (fun v x'=>nJ x x'/\RD xF x' v d) ((callFunc fid args).run Tryz.prog x.w):=by
 cases h:Tryz.prog.funcs[fid]? with
 |none=>rw[h]at hn;cases hn
 |some fn=>
  rw[h]at hn;have h2:(fn.name== "runtime.NumGoroutine" ||!fn.body.isSome)=false:=ch hn;rw[dH,bP]at h2;refine .inr ⟨fid,args,ja h h2.1 h2.2 args x.w,Calls.mono hc fun e w' he=>?_⟩;obtain⟨v,rfl,hg,I,h3,h4,hr⟩:=he;refine⟨⟨w',I,x.β⟩,rfl,⟨hg,h3,fun b hb=>(h4 b hb).imp id And.left,fun b hb=>?_,rfl⟩,hr⟩;rcases h4 b hb with h5|h5
  .exact eV (himm b h5) hg.size
  .exact h5.2
def HQ (w:World):∀n,gN w (w.drewN n)
 |n=>⟨rfl,rfl,rfl,aP _,fun _ _=>rfl⟩
def j4 {fid:Nat}{x:X}{args:Array Value}{d:D}{v:Value}(hn:(Tryz.prog.funcs[fid]?).map (fun f=>f.name== "runtime.NumGoroutine" ||!f.body.isSome)=some false)
  (himm:∀b,x.I b->b<x.w.heap.size) (hc:Calls Tryz.prog fid args x.w fun e w'=>e=.returned v/\gN x.w w') (hr:∀x',RD xF x' v d):
  jQ Tryz.prog x (fun v x'=>nJ x x'/\RD xF x' v d) ((callFunc fid args).run Tryz.prog x.w):=
 sb hn himm (Calls.mono hc fun e w' ⟨h1,h2⟩=>⟨v,h1,h2,x.I,fun _ h=>h,fun _ h=>.inl h,hr _⟩)
def fq {x:X}{v:Value}{s:au}(h:RD xF x v (.str s)):v=.string ⟨⟨s⟩⟩/\s.length<=maxLen:=by
 cases h with
 |str s h=>exact⟨rfl,h⟩
def x8 {x:X}{v:Value}{k:IntKind}{n:Int}(h:RD xF x v (.int k n)):v=.int k n:=by
 cases h with
 |int k n=>rfl
def y9 {args:Array Value}(h:args.size=2):args=#[args.getD 0 undef,args.getD 1 undef]:=by
 obtain⟨l⟩:=args
 match l,h with
 |[a,b],_=>rfl
def args3 {args:Array Value}(h:args.size=3):args=#[args.getD 0 undef,args.getD 1 undef,args.getD 2 undef]:=by
 obtain⟨l⟩:=args
 match l,h with
 |[a,b,c],_=>rfl
def Uz {args:Array Value}(h:args.size=1):args=#[args.getD 0 undef]:=by
 obtain⟨l⟩:=args
 match l,h with
 |[a],_=>rfl
def Kh {x:X}{a b:Value}{d e:D}(h1:RD xF x a d)(h2:RD xF x b e):RD xF x (.tuple #[a,b]) (.tup [d,e]):=by
 refine .tup _ _ rfl fun i hi=>?_
 match i,hi with
 |0,_=>exact h1
 |1,_=>exact h2
def TP {x:X}{a b c:Value}{d e f:D}(h1:RD xF x a d)(h2:RD xF x b e)(h3:RD xF x c f):RD xF x (.tuple #[a,b,c]) (.tup [d,e,f]):=by
 refine .tup _ _ rfl fun i hi=>?_
 match i,hi with
 |0,_=>exact h1
 |1,_=>exact h2
 |2,_=>exact h3
def tM {x:X}(s:au)(h:s.length<=4294967296):RD xF x (.string ⟨s.toArray⟩) (.str s):=.str s (by simp only[maxLen];omega)
def Mv (s:au)(b:UInt8):(ie s b).2.1.length<=s.length:=by
 unfold ie;split<;>simp
def E487:Ow 69 487:=by
 refine bq rfl ?_;rintro s b hp hok x args hl hargs hnl himm ⟨⟨_,m,hm⟩,_⟩;obtain⟨h0,hs⟩:=fq (hargs 0 aT);obtain⟨h1,_⟩:=fq (hargs 1 aT);rw[y9 hl,h0,h1];refine j4 n8 himm (Calls.mono (Tryz.strings_Cut ⟨⟨s⟩⟩ ⟨⟨[b]⟩⟩ m x.w (by show s.length<_;omega) hm) fun e w' ⟨h1,n,h2⟩=>⟨h1,h2▸HQ _ n⟩) (fun x'=>?_);have hc:Lib.cut (⟨⟨s⟩⟩:ByteArray).data.toList (⟨⟨[b]⟩⟩:ByteArray).data.toList=ie s b:=Wj s b;rw[hc];have:=(Pv s b).1;have:=Mv s b;exact TP (tM _ ae) (tM _ ae) (.bool _)
def E254:Ow 30 254:=by
 refine bq rfl ?_;rintro s p hp hp2 hok x args hl hargs hnl himm _;obtain⟨h0,hs⟩:=fq (hargs 0 aT);obtain⟨h1,_⟩:=fq (hargs 1 aT);rw[y9 hl,h0,h1];refine j4 n8 himm (Calls.mono (Tryz.strings_CutPrefix ⟨⟨s⟩⟩ ⟨⟨p⟩⟩ x.w) fun e w' ⟨h1,h2⟩=>⟨h1,h2▸gN.refl _⟩) (fun x'=>?_);have hc:(Lib.trimPrefix s p,Lib.hasPrefix s p)=cG s p:=Mx s p;have:=HE s p;rw[<-hc]at this⊢;have h9:(Lib.trimPrefix s p).length<=s.length:=this;exact Kh (tM (Lib.trimPrefix s p) ae) (.bool _)
def E336:Ow 183 336:=by
 refine bq rfl ?_;rintro n hp hok x args hl hargs hnl himm ⟨_,_,ht⟩;have h0:=x8 (hargs 0 aT);rw[Uz hl,h0];refine j4 n8 himm (Calls.mono (Tryz.strconv_Itoa n ae ae x.w ht) fun e w' ⟨h1,k,os,h2⟩=>⟨h1, ?_⟩) (fun x'=>?_)
 .subst h2;refine⟨rfl,rfl,rfl,by simp[Sort.grow],fun b hb=>?_⟩;show(x.w.heap++os)[b]? =x.w.heap[b]?;rw[Array.getElem?_append,ax hb]
 .rw[Tq hp.1];have:=ep 4 n.toNat ae ae;exact tM _ ae
def qh {fid:Nat}{x:X}{args:Array Value}{ts:List ByteArray}{cap:Nat}{ty:TypeId}{L:List au}(hn:(Tryz.prog.funcs[fid]?).map (fun f=>f.name== "runtime.NumGoroutine" ||!f.body.isSome)=some false)(himm:∀b,x.I b->b<x.w.heap.size)
  (hL:ts.map (fun t=>t.data.toList)=L) (hcap:ts.length<=cap) (hm:cap<=maxLen) (hs:∀t∈L,t.length<=maxLen)
  (hc:Calls Tryz.prog fid args x.w fun e w'=>e=.returned (.slice (some ⟨x.w.heap.size,0,none⟩) ts.length cap)/\w'=x.w.alloc (.cells (Lib.cellsOf ts cap) ty)):
  jQ Tryz.prog x (fun v x'=>nJ x x'/\RD xF x' v (.sl 1 (L.map D.str))) ((callFunc fid args).run Tryz.prog x.w):=by
 refine sb hn himm (Calls.mono hc fun e w' ⟨h1,h2⟩=>?_);subst h2;refine⟨_,h1,gN.alloc _ _,fun q=>x.I q\/q=x.w.heap.size,fun _ h=>.inl h,fun q hq=>hq.imp id fun h=>⟨ae,by rw[h];show _<(x.w.heap.push _).size;simp⟩, ?_⟩;have hsl:L.length=ts.length:=by rw[<-hL];simp
 have hget:∀i,i<ts.length->(L.map D.str).getD i .any=.str (ts.getD i default).data.toList:=fun i hi=>by
  rw[<-hL];simp[hi]
 refine .sl _ x.w.heap.size 0 ts.length cap 1 _ (fun i _=>.string (ts.getD i default)) (by simp[hsl]) (.inr ⟨rfl,.inr rfl⟩) hcap hm (fun i hi=>by rw[hget i hi];rfl) (fun i hi=>by rw[hget i hi];rfl) (fun i j hi hj=>?_) (fun i j hi hj=>rfl) (fun i j hi hj=>?_)
 .obtain rfl:j=0:=ae;have:=eE x.w (.cells (Lib.cellsOf ts cap) ty);refine(cell_of_heap (c:=Lib.cellsOf ts cap) (T:=ty) (fr:=(0,0)) this (by rw[Lib.cellsOf_size hcap];omega)).trans ?_;have hi2:i<(ts.map Value.string).length:=by simpa using hi
  simp only[Lib.cellsOf];simp[hi,List.getElem?_append_left hi2]
 .obtain rfl:j=0:=ae;rw[hget i hi];show RD xF _ (.string (ts.getD i default)) (.str (ts.getD i default).data.toList);generalize hq:ts.getD i default=q;have hmem:q.data.toList∈L:=by
   rw[<-hL];refine dZ.2 ⟨q, ?_,rfl⟩;rw[<-hq];simp[hi]
  have:=hs _ hmem;obtain⟨⟨ql⟩⟩:=q;exact .str ql this
def CE {x:X}{s p:au}{m:Int}{L:List au}(hL:∀ts,ts=Lib.splitB ⟨⟨p⟩⟩ 0 (Lib.countB ⟨⟨s⟩⟩ ⟨⟨p⟩⟩) ⟨⟨s⟩⟩->ts.map (fun t=>t.data.toList)=L)(himm:∀b,x.I b->b<x.w.heap.size)(h1:1<=p.length)(hs:s.length<=1048576)(hl:L.length<=1048577)(hb:∀t∈L,t.length<=1048576)
  (hm:x.w.cell? ⟨0,0,none⟩=some (.int .i64 m)):jQ Tryz.prog x (fun v x'=>nJ x x'/\RD xF x' v (.sl 1 (L.map D.str))) ((callFunc 67 #[.string ⟨⟨s⟩⟩,.string ⟨⟨p⟩⟩]).run Tryz.prog x.w):=by
 have h2:1<=(⟨⟨p⟩⟩:ByteArray).size:=h1;have hlen:=Lib.splitB_all ⟨⟨p⟩⟩ h2 0 _ (⟨⟨s⟩⟩:ByteArray) rfl;have hc:=Tryz.strings_Split ⟨⟨s⟩⟩ ⟨⟨p⟩⟩ m x.w (by show s.length<_;omega) hm h2;rw[<-hlen,<-Lib.cellsOf_full]at hc;have hL2:=hL _ rfl;have hle:(Lib.splitB ⟨⟨p⟩⟩ 0 (Lib.countB ⟨⟨s⟩⟩ ⟨⟨p⟩⟩) ⟨⟨s⟩⟩).length<=maxLen:=by
  have:L.length=(Lib.splitB ⟨⟨p⟩⟩ 0 (Lib.countB ⟨⟨s⟩⟩ ⟨⟨p⟩⟩) ⟨⟨s⟩⟩).length:=by rw[<-hL2];simp
  simp only[maxLen];omega
 exact qh n8 himm hL2 (aP _) hle (fun t ht=>by have:=hb t ht;simp only[maxLen];omega) hc
def wm:∀(s cur:au),(aK s cur).length<=s.length+1/\∀t∈aK s cur,t.length<=cur.length+s.length
 |[],cur=>by simp[aK]
 |[c],cur=>by simp[aK]
 |c::d::r,cur=>by
  unfold aK;split
  .obtain⟨h1,h2⟩:=wm r [];refine⟨by simp only[az];omega,fun t ht=>?_⟩;rcases bY.1 ht with rfl|ht
   .omega
   .have:=h2 t ht;simp only[az,aB]at this⊢;omega
  .obtain⟨h1,h2⟩:=wm (d::r) (cur++[c]);refine⟨by simp only[az]at h1⊢;omega,fun t ht=>?_⟩;have:=h2 t ht;simp only[bF,az,aB]at this⊢;omega
def E124:Ow 67 124:=by
 refine bq rfl ⟨?_, ?_⟩
 .rintro s b hp hok x args hl hargs hnl himm ⟨⟨_,m,hm⟩,_⟩;obtain⟨h0,hs⟩:=fq (hargs 0 aT);obtain⟨h1,_⟩:=fq (hargs 1 aT);rw[y9 hl,h0,h1];have:=dG s b.toNat;exact CE (fun ts e=>by rw[e];exact Cy b _ (⟨⟨s⟩⟩:ByteArray) rfl) himm (aP 1) hp ae (fun t ht=>dc (eJ s b.toNat ht) hp) hm
 .rintro s hp hok x args hl hargs hnl himm ⟨⟨_,m,hm⟩,_⟩;obtain⟨h0,hs⟩:=fq (hargs 0 aT);obtain⟨h1,_⟩:=fq (hargs 1 aT);rw[y9 hl,h0,h1];obtain⟨q1,q2⟩:=wm s [];exact CE (fun ts e=>by rw[e];exact Og _ (⟨⟨s⟩⟩:ByteArray) rfl) himm aH hp ae (fun t ht=>by have:=q2 t ht;simp only[aB]at this;omega) hm
def SM (n:Nat)(h:1<=n)(s:au):(qR n (ak s 32)).length<=s.length+1/\∀t∈qR n (ak s 32),t.length<=s.length:=by
 have hl:=dG s 32;have hj:aS [32] (ak s 32)=s:=by
  have:=kL 32 s [];simpa[ak]using this
 unfold qR;split
 .exact⟨hl,fun t ht=>eJ s 32 ht⟩
 .rename_i hn;refine⟨by simp only[bF,ff,az,aB];omega,fun t ht=>?_⟩;rcases List.mem_append.1 ht with ht|ht
  .exact eJ s 32 (lW ht)
  .rw[cN.1 ht];have h2:(aS [32] (ak s 32)).length=s.length:=by rw[hj]
   have h3:∀(l:List au) (k:Nat),(aS [32] (l.drop k)).length<=(aS [32] l).length:=by
    intro l;induction l with
    |nil=>simp
    |cons a l ih=>
     intro k;cases k with
     |zero=>simp
     |succ k=>
      refine dc (ih k) ?_;cases l with
      |nil=>simp[aS]
      |cons b l=>rw[gE [32] a (b::l) aT];simp only[bF];omega
   have:=h3 (ak s 32) (n-1);omega
def E245:Ow 159 245:=by
 refine bq rfl ?_;rintro s n hp hn hok x args hl hargs hnl himm ⟨⟨_,m,hm⟩,_⟩;obtain⟨h0,hs⟩:=fq (hargs 0 aT);obtain⟨h1,_⟩:=fq (hargs 1 aT);have h2:=x8 (hargs 2 aT);rw[args3 hl,h0,h1,h2];rcases hn with rfl|⟨hn1,hn2⟩
 .have hc:=I6 Tryz.lays147 n8 ⟨⟨s⟩⟩ ⟨⟨[32]⟩⟩ m x.w (by show s.length<_;omega) hm (aP 1);have hlen:=Lib.splitB_all ⟨⟨[32]⟩⟩ (aP 1) 0 _ (⟨⟨s⟩⟩:ByteArray) rfl;have hL:(Lib.splitB ⟨⟨[32]⟩⟩ 0 (Lib.countB ⟨⟨s⟩⟩ ⟨⟨[32]⟩⟩) ⟨⟨s⟩⟩).map (fun t=>t.data.toList)=lT (-1) s:=Cy 32 _ (⟨⟨s⟩⟩:ByteArray) rfl;have hsl:=dG s 32;have hll:(lT (-1) s).length=(Lib.splitB ⟨⟨[32]⟩⟩ 0 (Lib.countB ⟨⟨s⟩⟩ ⟨⟨[32]⟩⟩) ⟨⟨s⟩⟩).length:=by rw[<-hL];simp
  have hw:lT (-1) s=ak s 32:=rfl;rw[hw]at hll;exact qh n8 himm hL ae (by simp only[maxLen];omega) (fun t ht=>by have:=eJ s 32 ht;simp only[maxLen];omega) hc
 .obtain⟨k,rfl⟩:∃k:Nat,n=k:=⟨n.toNat,ae⟩
  have hc:=Tryz.strings_SplitN ⟨⟨s⟩⟩ ⟨⟨[32]⟩⟩ k m x.w (by show s.length<_;omega) hm (aP 1) ae ae;have hle:=Lib.splitB_length_le ⟨⟨[32]⟩⟩ 0 (min k ((⟨⟨s⟩⟩:ByteArray).size+1) -1) ⟨⟨s⟩⟩;have hsz:(⟨⟨s⟩⟩:ByteArray).size=s.length:=rfl;obtain⟨q1,q2⟩:=SM k ae s;refine qh n8 himm (L:=lT (k:Int) s) ?_ ae (by simp only[maxLen];omega) (fun t ht=>?_) hc
  .rw[Lib.splitB_data];exact Jd k ae s
  .have:lT (k:Int) s=qR k (ak s 32):=by unfold lT;rw[aj ae,Int.toNat_natCast]
   rw[this]at ht;have:=q2 t ht;simp only[maxLen];omega
def args4 {args:Array Value}(h:args.size=4):args=#[args.getD 0 undef,args.getD 1 undef,args.getD 2 undef,args.getD 3 undef]:=by
 obtain⟨l⟩:=args
 match l,h with
 |[a,b,c,d],_=>rfl
def E331:Ow 110 331:=by
 refine bq rfl ?_;rintro s hp hok x args hl hargs hnl himm ⟨⟨_,m,hm⟩,_⟩;obtain⟨h0,hs⟩:=fq (hargs 0 aT);obtain⟨h1,_⟩:=fq (hargs 1 aT);have h2:=x8 (hargs 2 aT);have h3:=x8 (hargs 3 aT);rw[args4 hl,h0,h1,h2,h3];have hle:=Lib.countB_le ⟨⟨[10]⟩⟩ (aP 1) (⟨⟨s⟩⟩:ByteArray).size ⟨⟨s⟩⟩ (aP _);have hlen:=Lib.splitB_all ⟨⟨[10]⟩⟩ (aP 1) 1 _ (⟨⟨s⟩⟩:ByteArray) rfl;have hc:=Any.strings_genSplit Tryz.lays221 n8 ⟨⟨s⟩⟩ ⟨⟨[10]⟩⟩ 1 (-1) (Lib.countB ⟨⟨s⟩⟩ ⟨⟨[10]⟩⟩+1) m x.w (by show s.length<_;omega) hm (aP 1) (aP 1) aH aH (by rw[ax aH];omega);rw[Nat.add_sub_cancel]at hc;obtain⟨q1,q2⟩:=TJ s;have hL:=O8 _ (⟨⟨s⟩⟩:ByteArray) rfl;have hsz:(⟨⟨s⟩⟩:ByteArray).size=s.length:=rfl;exact qh n8 himm hL ae (by simp only[maxLen];omega) (fun t ht=>by have:=q2 t ht;simp only[maxLen];omega) hc
def E244:Ow 65 244:=by
 refine bq rfl ?_;rintro s hp hok x args hl hargs hnl himm _;obtain⟨h0,hs⟩:=fq (hargs 0 aT);obtain⟨h1,_⟩:=fq (hargs 1 aT);rw[y9 hl,h0,h1];refine j4 n8 himm (Calls.mono (Tryz.strings_CutSuffix ⟨⟨s⟩⟩ ⟨⟨[10]⟩⟩ x.w (by show s.length<=_;omega)) fun e w' ⟨h1,h2⟩=>⟨h1,h2▸gN.refl _⟩) (fun x'=>?_);have hc:(Lib.trimSuffix s [10],Lib.hasSuffix s [10])=bH s:=Oi s;have:=qk s;rw[<-hc]at this⊢;have h9:(Lib.trimSuffix s [10]).length<=s.length:=this;exact Kh (tM (Lib.trimSuffix s [10]) ae) (.bool _)
def E683:Ow 208 683:=by
 refine bq rfl ?_;rintro s b rfl hp hok x args hl hargs hnl himm _;obtain⟨h0,hs⟩:=fq (hargs 0 aT);obtain⟨h1,_⟩:=fq (hargs 1 aT);rw[y9 hl,h0,h1];refine j4 n8 himm (Calls.mono (Tryz.strings_Trim_one ⟨⟨s⟩⟩ 32 aH x.w (by show s.length<=_;omega)) fun e w' ⟨h1,h2⟩=>⟨h1, ?_⟩) (fun x'=>?_)
 .rcases h2 with rfl|rfl
  .exact gN.refl _
  .exact⟨rfl,rfl,rfl,aP _,fun _ _=>rfl⟩
 .have:Lib.trimB (⟨⟨s⟩⟩:ByteArray).data.toList 32=ey s:=Pl s;rw[this];have hb:(ey s).length<=s.length:=by
   unfold ey;have h1:=rZ s;have h2:=rZ (kB s).reverse;simp only[List.length_reverse]at h2⊢;omega
  exact tM _ ae
def E469:Ow 86 469:=by
 refine bq rfl ?_;rintro l hp hok x args hl hargs hnl himm _;have h0:=hargs 0 aT;rw[Uz hl];simp only[jH]at h0;generalize args.getD 0 undef=v0 at h0⊢;cases h0 with
 |sl a b off len cap k es c hlen ha hcap hm hk hn hc h1 h=>
  simp only[bU]at hlen;subst hlen;have fin:∀(e:Ending) (w':World) v' ty,e=.returned v'->w'.ownsRow x.w.heap.size ty 1 v' l.length (l.map fun t=>Value.string ⟨⟨t⟩⟩)->Go.RowKit.Below x.w.heap.size x.w w'->
    ∃v,e=.returned v/\gN x.w w'/\∃I:Nat->Prop,(∀b,x.I b->I b)/\(∀b,I b->x.I b\/x.w.heap.size<=b/\b<w'.heap.size)/\RD xF ⟨w',I,x.β⟩ v (.sl 1 (l.map D.str)):=by
   rintro e w' v' ty rfl ⟨hxl,ho⟩ hB;refine⟨v',rfl,⟨hB.os,hB.tape,hB.output,hB.size,hB.block⟩, ?_⟩;rcases ho with⟨rfl,hl0⟩|⟨g,cap',cur,rfl,hg,hh,hle,hml,hcs,htk⟩
   .have:l=[]:=uc.1 hl0;subst this;exact⟨x.I,fun _ h=>h,fun _ h=>.inl h,.sl none 0 0 0 0 1 [] (fun _ _=>.nilIface) rfl (.inl rfl) (aP _) (by simp[maxLen]) (fun i hi=>ae) (fun i hi=>ae) (fun i j hi=>ae) (fun i j hi=>ae) (fun i j hi=>ae)⟩
   .have hgl:g<w'.heap.size:=(Array.getElem?_eq_some_iff.1 hh).1;have hgt:∀i (hi:i<l.length),((l.map D.str).getD i .any)=.str l[i]:=fun i hi=>by simp[hi]
    refine⟨fun q=>x.I q\/q=g,fun _ h=>.inl h,fun q hq=>hq.imp id fun h=>by subst h;exact⟨hg,hgl⟩, ?_⟩;refine .sl _ g 0 l.length cap' 1 _ (fun i _=>.string ⟨⟨l.getD i []⟩⟩) aT (.inr ⟨rfl,.inr rfl⟩) hle hml (fun i hi=>by rw[hgt i hi];rfl) (fun i hi=>by rw[hgt i hi];rfl) (fun i j hi hj=>?_) (fun _ _ _ _=>rfl) (fun i j hi hj=>?_)
    .obtain rfl:j=0:=ae;refine(cell_of_heap (c:=cur) (T:=ty) (fr:=(0,0)) hh ae).trans ?_;have e1:cur.toList[i]? =some (.string ⟨⟨l.getD i []⟩⟩):=by
      have e2:(cur.toList.take (l.length*1))[i]? =(l.map fun t=>Value.string ⟨⟨t⟩⟩)[i]? :=by rw[htk]
      rw[List.getElem?_take,ax ae]at e2;rw[e2];simp[hi]
     have e3:cur[i]? =some (.string ⟨⟨l.getD i []⟩⟩):=by rw[<-e1];simp
     rw[show(0+i*1+0:Nat)=i by omega,Array.getD_eq_getD_getElem?,e3];rfl
    .obtain rfl:j=0:=ae;rw[hgt i hi];have q2:=h i 0 hi ae;rw[hgt i hi]at q2;obtain⟨_,q3⟩:=fq q2;have:l.getD i []=l[i]:=by simp[hi]
     rw[this];exact .str _ q3
  rcases ha with he|⟨rfl,hI⟩
  .have hnil:l=[]:=by simpa using he
   subst hnil;cases a with
   |none=>exact j4 n8 himm (Calls.mono (Tryz.slices_Clone_string_nil 0 cap x.w) fun e w' ⟨h1,h2⟩=>⟨h1,h2▸gN.refl _⟩) (fun x'=>.sl none 0 0 0 0 1 [] (fun _ _=>.nilIface) rfl (.inl rfl) (aP _) (by simp[maxLen]) (fun i hi=>ae) (fun i hi=>ae) (fun i j hi=>ae) (fun i j hi=>ae) (fun i j hi=>ae))
   |some a=>exact sb n8 himm (Calls.mono (Tryz.slices_Clone_string_zero a cap x.w) fun e w' ⟨v',h1,h2,_,h3⟩=>fin e w' v' _ h1 h2 h3)
  .have hcell:∀i,(hi:i<l.length)->x.w.cell? ⟨b,off+i,none⟩=some (.string ⟨⟨l[i]⟩⟩):=fun i hi=>by
    have q1:=hc i 0 hi ae;have q2:=h i 0 hi ae;have e:((l.map D.str).getD i .any).cells.getD 0 .any=.str l[i]:=by simp[hi,D.cells]
    rw[e]at q2;rw[(fq q2).1]at q1;simpa using q1
   refine sb n8 himm (Calls.mono (Tryz.slices_Clone_string b off l.length cap (l.map fun t=>⟨⟨t⟩⟩) x.w aT ae (fun j hj=>?_)) fun e w' ⟨v',h1,h2,_,h3⟩=>?_)
   .rw[bU]at hj;rw[hcell j hj];simp[hj]
   .have:((l.map fun t=>(⟨⟨t⟩⟩:ByteArray)).take l.length).map Value.string=l.map fun t=>Value.string ⟨⟨t⟩⟩:=by
     rw[ek aT,List.map_map];rfl
    rw[this]at h2;exact fin e w' v' _ h1 h2 h3
def E489:Ow 21 489:=py rfl fun ds st K h hok=>Tc rfl rfl Tryz.Jp Tryz.Wg (Go.Proofs.enters_of Tryz.Jp.f166 n8 rfl) ds st K h hok
def E664:Ow 144 664:=py rfl fun ds st K h hok=>Tb rfl rfl Tryz.Jq Tryz.Wg (Go.Proofs.enters_of Tryz.Jq.f167 n8 rfl) ds st K h hok
def E452:Ow 24 452:=py rfl fun ds st K h hok=>Ta rfl rfl Tryz.Jr Tryz.Wg (Go.Proofs.enters_of Tryz.Jr.f169 n8 rfl) ds st K h hok
def zJ (sep:au)(B:Nat):∀l:List au,(∀t∈l,t.length<=B)->(aS sep l).length<=l.length*(B+sep.length)
 |[],_=>by simp[aS]
 |[t],h=>by have:=h t (.head _);simp only[aS,az,aB];omega
 |t::u::r,h=>by
  have h1:=h t (.head _);have h2:=zJ sep B (u::r) fun x hx=>h x (.tail _ hx)
  rw[gE _ _ _ aT];rw[az,Nat.succ_mul];simp only[bF];omega
def E242:Ow 35 242:=by
 refine bq rfl ?_;rintro l sep hp1 hp2 hp3 hok x args hl hargs hnl himm _;have h0:=hargs 0 aT;obtain⟨h1,_⟩:=fq (hargs 1 aT);rw[y9 hl,h1];have hj:=zJ sep 2097200 l hp3;have hj2:=fD (2097200+sep.length) hp1;have hj3:1048600*(2097200+sep.length)<=140737488355328:=by
  have:=Nat.mul_le_mul_left 1048600 (show 2097200+sep.length<=2097204 by omega);omega
 have hjm:(aS sep l).length<=140737488355328:=ae;simp only[jH]at h0;generalize args.getD 0 undef=v0 at h0⊢;cases h0 with
 |sl a b off len cap k es c hlen ha hcap hm hk hn hc h1 h=>
  simp only[bU]at hlen;subst hlen;rcases ha with he|⟨rfl,hI⟩
  .have hnil:l=[]:=by simpa using he
   subst hnil;refine j4 n8 himm (Calls.mono (Tryz.strings_Join_none a cap ⟨⟨sep⟩⟩ x.w) fun e w' ⟨h1,h2⟩=>⟨h1,h2▸gN.refl _⟩) (fun x'=>?_);exact tM [] aT
  .have hcell:∀i,(hi:i<l.length)->x.w.cell? ⟨b,off+i,none⟩=some (.string ⟨⟨l[i]⟩⟩):=fun i hi=>by
    have q1:=hc i 0 hi ae;have q2:=h i 0 hi ae;have e:((l.map D.str).getD i .any).cells.getD 0 .any=.str l[i]:=by simp[hi,D.cells]
    rw[e]at q2;rw[(fq q2).1]at q1;simpa using q1
   have e2:(l.map fun t=>(⟨⟨t⟩⟩:ByteArray)).map (fun t=>t.data.toList)=l:=by rw[List.map_map];exact List.map_id l
   have hjl:Lib.join ((l.map fun t=>(⟨⟨t⟩⟩:ByteArray)).map (fun t=>t.data.toList)) (⟨⟨sep⟩⟩:ByteArray).data.toList=aS sep l:=by rw[e2];exact(Fx sep l).symm
   have key:=Tryz.strings_Join b off cap (l.map fun t=>⟨⟨t⟩⟩) ⟨⟨sep⟩⟩ x.w (fun j y hy=>by
    rw[List.getElem?_map,dS]at hy;obtain⟨t,ht,rfl⟩:=hy;obtain⟨hlt,rfl⟩:=List.getElem?_eq_some_iff.1 ht;exact hcell j hlt) (himm b hI) cM (by simpa using hcap) (by rw[hjl];exact hjm)
   rw[hjl,bU]at key;refine j4 n8 himm (Calls.mono key fun e w' ⟨h1,h2⟩=>⟨h1,h2.os,h2.tape,h2.output,h2.size,h2.block⟩) (fun x'=>?_);exact .str _ (by simp only[maxLen];omega)
end
section
section
variable [dD]
def H70:Ow 56 70:=bq rfl fun r hp0=>aQ bh ck rfl (w70 bj O0 Mc G210 ZJ ZK G213 G214 ZL r hp0)
def H76:Ow 34 76:=bq rfl fun s=>aQ bh ck rfl (w76 bj G70 OZ G222 s)
def H208:Ow 31 208:=bq rfl fun s=>aQ bh ck rfl (w208 bj s)
def H214:Ow 99 214:=bq rfl fun r s hp0=>aQ bh ck rfl (w214 bj ZX r s hp0)
def H220:Ow 80 220:=bq rfl fun s=>aQ bh ck rfl (w220 bj G463 s)
def H228:Ow 44 228:=bq rfl fun l i n hp0=>aQ bh ck rfl (w228 bj Sy VY l i n hp0)
def H246:Ow 160 246:=bq rfl fun l x=>aQ bh ck rfl (w246 bj G494 l x)
def H256:Ow 33 256:=bq rfl fun s hp0=>aQ bh ck rfl (w256 bj VW Z4 s hp0)
def H353:Ow 20 353:=bq rfl fun s hp0=>aQ bh ck rfl (w353 bj G74 O0 G511 s hp0)
def H442:Ow 135 442:=bq rfl fun s hp0=>aQ bh ck rfl (w442 bj O3 s hp0)
def H448:Ow 142 448:=bq rfl fun s hp0=>aQ bh ck rfl (w448 bj O0 ZU Me Z4 s hp0)
def H455:Ow 147 455:=bq rfl fun n=>aQ bh ck rfl (w455 bj n)
def H461:Ow 108 461:=bq rfl fun w hp0=>aQ bh ck rfl (w461 bj VV w hp0)
def H467:Ow 116 467:=W0 rfl Zu fun r hp0=>Fh 2 bh ck rfl rfl (w467 bj OZ Z1 Z2 r hp0)
def H480:Ow 89 480:=bq rfl fun l i own alone hp0 hp1=>aQ bh ck rfl (w480 bj ZO Md ZP l i own alone hp0 hp1)
def H496:Ow 178 496:=bq rfl fun r hp0=>aQ bh ck rfl (w496 bj V2 r hp0)
def H516:Ow 166 516:=bq rfl fun a b=>aQ bh ck rfl (w516 bj G704 a b)
def H554:Ow 153 554:=bq rfl fun v hp0=>aQ bh ck rfl (w554 bj G734 v hp0)
def H659:Ow 165 659:=bq rfl fun t=>aQ bh ck rfl (w659 bj t)
def H666:Ow 184 666:=bq rfl fun t=>aQ bh ck rfl (w666 bj t)
def H672:Ow 192 672:=bq rfl fun s hp0=>aQ bh ck rfl (w672 bj O1 Mf Mg s hp0)
def H678:Ow 132 678:=bq rfl fun op=>aQ bh ck rfl (w678 bj op)
def H700:Ow 82 700:=bq rfl fun x nm v hp0=>aQ bh ck rfl (w700 bj G701 x nm v hp0)
def H745:Ow 220 745:=bq rfl fun r hp0=>aQ bh ck rfl (w745 bj V4 G901 r hp0)
def H812:Ow 216 812:=bq rfl fun l al=>aQ bh ck rfl (w812 bj Mf G815 l al)
def H827:Ow 237 827:=bq rfl fun c hp0=>aQ bh ck rfl (w827 bj Mc c hp0)
def H899:Ow 252 899:=bq rfl fun r hp0=>aQ bh ck rfl (w899 bj G676 r hp0)
def H948:Ow 241 948:=py rfl fun x w nd b hp0 nx lp ln m K h1 h2 h3 h4 hK=>gv ry aH rfl (fun _=>rfl) bh ck rfl h1 h2 h3 h4 hK (w948 bj x w nd b hp0)
def H954:Ow 248 954:=bq rfl fun l hp0=>aQ bh ck rfl (w954 bj ZC l hp0)
def H1008:Ow 273 1008:=bq rfl fun l=>aQ bh ck rfl (w1008 bj V1 l)
def H1036:Ow 270 1036:=bq rfl fun l i hp0=>aQ bh ck rfl (w1036 bj Ur ZF l i (VU (aP _)) hp0)
def H1126:Ow 290 1126:=py rfl fun W w nd hp0 hp1 nx lp ln m K h1 h2 h3 h4 hK=>gv (tL _) aH rfl (fun _=>rfl) bh ck rfl h1 h2 h3 h4 hK (w1126 bj W w nd Mf Jh Ur ZH hp0 hp1)
end
end
section
section
variable [dD]
def H71:Ow 62 71:=bq rfl fun r hp0=>aQ bh ck rfl (w71 bj O1 O2 G218 ZM r hp0)
def H78:Ow 78 78:=bq rfl fun a b=>aQ bh ck rfl (w78 bj G225 ZN a b)
def H209:Ow 94 209:=bq rfl fun v hp0=>aQ bh ck rfl (w209 bj G440 G441 ZW v hp0)
def H215:Ow 57 215:=bq rfl fun r hp0=>aQ bh ck rfl (w215 bj Sx G450 ZY ZZ r hp0)
def H221:Ow 104 221:=bq rfl fun s=>aQ bh ck rfl (w221 bj G464 s)
def H229:Ow 51 229:=bq rfl fun l i own hp0 hp1=>aQ bh ck rfl (w229 bj Md ZQ VY G480 Z3 l i own hp0 hp1)
def H249:Ow 77 249:=bq rfl fun l x hp0=>aQ bh ck rfl (w249 bj l x hp0)
def H257:Ow 36 257:=bq rfl fun s r n hp0=>aQ bh ck rfl (w257 bj G74 ZV s r n hp0)
def H357:Ow 189 357:=bq rfl fun s=>aQ bh ck rfl (w357 bj Z0 VX s)
def H443:Ow 136 443:=bq rfl fun r w al hp0=>aQ bh ck rfl (w443 bj ZJ Me r w al hp0)
def H449:Ow 143 449:=bq rfl fun l nm=>aQ bh ck rfl (w449 bj G663 l nm)
def H456:Ow 148 456:=bq rfl fun s p hp0=>aQ bh ck rfl (w456 bj Mg G666 V1 G668 s p hp0)
def H462:Ow 109 462:=bq rfl fun s hp0=>aQ bh ck rfl (w462 bj s hp0)
def H468:Ow 117 468:=W0 rfl Zv fun r hp0=>Fh 2 bh ck rfl rfl (w468 bj Z1 r hp0)
def H481:Ow 90 481:=bq rfl fun n=>aQ bh ck rfl (w481 bj Sy n)
def H497:Ow 23 497:=bq rfl fun n=>aQ bh ck rfl (w497 bj G686 n)
def H530:Ow 119 530:=bq rfl fun v=>aQ bh ck rfl (w530 bj v)
def H572:Ow 190 572:=bq rfl fun s hp0=>aQ bh ck rfl (w572 bj G744 G745 s hp0)
def H660:Ow 179 660:=py rfl fun w nd hp0 nx lp ln m K h1 h2 h3 h4 hK=>gv ry aH rfl (fun _=>rfl) bh ck rfl h1 h2 h3 h4 hK (w660 bj w nd (Us (Nat.le_of_eq (nT (c:=fun _=>4) h1).symm)) hp0)
def H667:Ow 185 667:=bq rfl fun s=>aQ bh ck rfl (w667 bj VX s)
def H673:Ow 193 673:=bq rfl fun r x=>aQ bh ck rfl (w673 bj r x)
def H682:Ow 207 682:=bq rfl fun s hp0=>aQ bh ck rfl (w682 bj G819 s hp0)
def H701:Ow 83 701:=bq rfl fun a b hp0=>aQ bh ck rfl (w701 bj Mc ZV a b hp0)
def H783:Ow 205 783:=bq rfl fun a b=>aQ bh ck rfl (w783 bj V0 V1 G668 G927 a b)
def H813:Ow 217 813:=bq rfl fun s=>aQ bh ck rfl (w813 bj Mg G952 G953 s)
def H828:Ow 238 828:=bq rfl fun c hp0=>aQ bh ck rfl (w828 bj G665 V3 G957 c hp0)
def H900:Ow 253 900:=bq rfl fun r hp0=>aQ bh ck rfl (w900 bj VZ r hp0)
def H949:Ow 242 949:=py rfl fun w nd hp0 nx lp ln m K h1 h2 h3 h4 hK=>gv ry aH rfl (fun _=>rfl) bh ck rfl h1 h2 h3 h4 hK (w949 bj w nd (G660u (Nat.le_of_eq (nT (c:=fun _=>0) h1).symm)) SA SB (Uu (Nat.le_of_eq (nT (c:=fun _=>0) h1).symm)) ZA hp0)
def H955:Ow 255 955:=bq rfl fun l nm=>aQ bh ck rfl (w955 bj l nm)
def H1031:Ow 261 1031:=py rfl fun k w nd b hp0 nx lp ln m K h1 h2 h3 h4 hK=>gv ry aH rfl (fun _=>rfl) bh ck rfl h1 h2 h3 h4 hK (w1031 bj k w nd b Me SA SB G950 hp0)
def H1079:Ow 285 1079:=bq rfl fun s w=>aQ bh ck rfl (w1079 bj s w)
def H1141:Ow 291 1141:=py rfl fun W w nd b hp0 nx lp ln m K h1 h2 h3 h4 hK=>v7 (tL _) aH rfl (fun _=>rfl) bh ck rfl h1 h2 h3 h4 hK (w1141 bj W w nd b hp0)
end
end
section
section
variable [dD]
def H72:Ow 22 72:=bq rfl fun r hp0=>aQ bh ck rfl (w72 bj G70 ZL r hp0)
def H79:Ow 19 79:=bq rfl fun l i own hp0 hp1=>aQ bh ck rfl (w79 bj ZO Md G229 ZP ZQ G232 l i own hp0 hp1)
def H210:Ow 95 210:=bq rfl fun r n hp0=>aQ bh ck rfl (w210 bj ZK Me G443 r n hp0)
def H216:Ow 59 216:=bq rfl fun s=>aQ bh ck rfl (w216 bj Z0 VX s)
def H222:Ow 70 222:=W0 rfl Zs fun r hp0=>Fh 2 bh ck rfl rfl (w222 bj G466 G467 Z2 G469 G9465 r hp0)
def H230:Ow 52 230:=bq rfl fun l i hp0=>aQ bh ck rfl (w230 bj Md VZ l i hp0)
def H251:Ow 11 251:=bq rfl fun s hp0=>aQ bh ck rfl (w251 bj G72 G353 ZZ Z5 G497 s hp0)
def H263:Ow 43 263:=bq rfl fun a b=>aQ bh ck rfl (w263 bj G78 a b)
def H358:Ow 25 358:=bq rfl fun s hp0=>aQ bh ck rfl (w358 bj G75 O1 Z8 s hp0)
def H444:Ow 138 444:=bq rfl fun s hp0=>aQ bh ck rfl (w444 bj G495 G496 s hp0)
def H450:Ow 100 450:=py rfl fun ws t l lw nx m K h1 h2 h3 h4 hp2 hK=>M7 bh ck rfl h1 h2 h3 h4 hK fun m0 hp0 hp1=>w450 bj ws t m0 Sx Z5 G664 hp0 hp1 hp2
def H457:Ow 149 457:=bq rfl fun r n hp0=>aQ bh ck rfl (w457 bj Mf G669 G670 r n hp0)
def H463:Ow 129 463:=bq rfl fun h k hp0=>aQ bh ck rfl (w463 bj h k hp0)
def H470:Ow 73 470:=bq rfl fun s b hp0=>aQ bh ck rfl (w470 bj s b hp0)
def H482:Ow 91 482:=bq rfl fun c hp0=>aQ bh ck rfl (w482 bj VV G676 G677 G678 c hp0)
def H499:Ow 68 499:=bq rfl fun s=>aQ bh ck rfl (w499 bj s)
def H531:Ow 120 531:=bq rfl fun l=>aQ bh ck rfl (w531 bj l)
def H580:Ow 61 580:=bq rfl fun l nm v hp0=>aQ bh ck rfl (w580 bj G501 l nm v hp0)
def H661:Ow 180 661:=bq rfl fun m=>aQ bh ck rfl (w661 bj G662 G810 m)
def H668:Ow 186 668:=bq rfl fun t=>aQ bh ck rfl (w668 bj t)
def H674:Ow 194 674:=bq rfl fun r x=>aQ bh ck rfl (w674 bj r x)
def H684:Ow 209 684:=bq rfl fun r hp0=>aQ bh ck rfl (w684 bj Sx V3 G828 r hp0)
def H704:Ow 203 704:=bq rfl fun x=>aQ bh ck rfl (w704 bj x)
def H808:Ow 211 808:=py rfl ⟨fun w nd hp0 nx lp ln m K h1 h2 h3 h4 hK=>gv ry aH rfl (fun _=>rfl) bh ck rfl h1 h2 h3 h4 hK (w808 bj kE 809 qH 4 w nd V5 SA SB hp0 zi aH aH (fun w2 nd2 hl hp=>G809u (aP _) w2 nd2 hp (by rw[nT h1];exact(show 6*w2.length+2<6*w.length+3 by omega)))),fun w nd hp0 nx lp ln m K h1 h2 h3 h4 hK=>gv ry aH rfl (fun _=>rfl) bh ck rfl h1 h2 h3 h4 hK (w808 bj jT 949 lx 3 w nd V5 SA SB hp0 vB aH aH (fun w2 nd2 hl hp=>Uu (aP _) w2 nd2 hp (by rw[nT h1];exact(show 6*w2.length+0<6*w.length+1 by omega))))⟩
def H814:Ow 218 814:=bq rfl fun m=>aQ bh ck rfl (w814 bj G953 G954 m)
def H882:Ow 206 882:=bq rfl fun n hp0=>aQ bh ck rfl (w882 bj n hp0)
def H901:Ow 254 901:=bq rfl fun r hp0=>aQ bh ck rfl (w901 bj G899 V4 r hp0)
def H950:Ow 243 950:=bq rfl (aQ bh ck rfl (w950 bj))
def H956:Ow 256 956:=bq rfl fun s w=>aQ bh ck rfl (w956 bj s w)
def H1032:Ow 266 1032:=py rfl fun W w nd hp0 hp1 nx lp ln m K h1 h2 h3 h4 hK=>gv (tL _) aH rfl (fun _=>rfl) bh ck rfl h1 h2 h3 h4 hK (w1032 bj W w nd OX Jh (OY (Nat.le_of_eq (tE (c:=fun _=>1) hp0.1 h1).symm)) hp0 hp1)
def H1097:Ow 281 1097:=py rfl fun W w nd hp0 hp1 nx lp ln m K h1 h2 h3 h4 hK=>gv (tL _) aH rfl (fun _=>rfl) bh ck rfl h1 h2 h3 h4 hK (w1097 bj W w nd (G952u (Nat.le_of_eq (tE (c:=fun _=>0) hp0.1 h1).symm)) OX Jh (OY (Nat.le_of_eq (tE (c:=fun _=>0) hp0.1 h1).symm)) ZG hp0 hp1)
def H1198:Ow 6 1198:=bq rfl fun l=>aQ bh ck rfl (w1198 bj G85 G86 G88 ZT ZI l)
end
end
section
section
variable [dD]
def H73:Ow 26 73:=bq rfl fun r hp0=>aQ bh ck rfl (w73 bj G71 ZM r hp0)
def H85:Ow 10 85:=bq rfl (aQ bh ck rfl (w85 bj ZT G9086))
def H211:Ow 96 211:=bq rfl fun r name tO hp0=>aQ bh ck rfl (w211 bj O0 G444 r name tO hp0)
def H217:Ow 105 217:=bq rfl fun v hp0=>aQ bh ck rfl (w217 bj G455 G456 v hp0)
def H225:Ow 127 225:=bq rfl fun a b=>aQ bh ck rfl (w225 bj G477 a b)
def H231:Ow 53 231:=bq rfl fun l i hp0=>aQ bh ck rfl (w231 bj Md Z3 l i hp0)
def H252:Ow 28 252:=bq rfl fun s hp0=>aQ bh ck rfl (w252 bj G239 s hp0)
def H295:Ow 72 295:=bq rfl fun a b hp0=>aQ bh ck rfl (w295 bj Mc G530 G531 Z6 O3 G534 a b hp0)
def H424:Ow 126 424:=bq rfl fun a b hp0=>aQ bh ck rfl (w424 bj O2 V0 G631 a b hp0)
def H445:Ow 139 445:=bq rfl fun s=>aQ bh ck rfl (w445 bj OZ G660 G661 s)
def H451:Ow 101 451:=bq rfl fun v hp0=>aQ bh ck rfl (w451 bj Mc G665 v hp0)
def H458:Ow 150 458:=bq rfl fun r b hp0=>aQ bh ck rfl (w458 bj O1 Z7 G670 r b hp0)
def H464:Ow 146 464:=bq rfl fun h n hp0=>aQ bh ck rfl (w464 bj h n hp0)
def H477:Ow 175 477:=bq rfl fun a b=>aQ bh ck rfl (w477 bj ZN a b)
def H483:Ow 92 483:=bq rfl fun l s hp0=>aQ bh ck rfl (w483 bj l s hp0)
def H501:Ow 76 501:=bq rfl fun a b hp0=>aQ bh ck rfl (w501 bj O2 G424 a b hp0)
def H532:Ow 121 532:=bq rfl fun a b=>aQ bh ck rfl (w532 bj G714 a b)
def H630:Ow 173 630:=bq rfl fun a b=>aQ bh ck rfl (w630 bj a b)
def H662:Ow 181 662:=bq rfl fun l hp0=>aQ bh ck rfl (w662 bj G811 l hp0)
def H669:Ow 187 669:=bq rfl fun r w al hp0=>aQ bh ck rfl (w669 bj O1 Z7 G812 r w al hp0)
def H675:Ow 161 675:=bq rfl fun s b=>aQ bh ck rfl (w675 bj s b)
def H685:Ow 210 685:=bq rfl fun r hp0=>aQ bh ck rfl (w685 bj V2 r hp0)
def H714:Ow 164 714:=bq rfl fun x=>aQ bh ck rfl (w714 bj x)
def H809:Ow 212 809:=py rfl fun w nd hp0 nx lp ln m K h1 h2 h3 h4 hK=>gv ry aH rfl (fun _=>rfl) bh ck rfl h1 h2 h3 h4 hK (w809 bj w nd (Us (Nat.le_of_eq (nT (c:=fun _=>2) h1).symm)) hp0)
def H815:Ow 221 815:=bq rfl fun l=>aQ bh ck rfl (w815 bj l)
def H896:Ow 249 896:=bq rfl fun s hp0=>aQ bh ck rfl (w896 bj s hp0)
def H927:Ow 228 927:=bq rfl fun a b=>aQ bh ck rfl (w927 bj a b)
def H951:Ow 244 951:=bq rfl fun l i b hp0=>aQ bh ck rfl (w951 bj l i b (Ut (aP _)) hp0)
def H957:Ow 257 957:=bq rfl fun op=>aQ bh ck rfl (w957 bj op)
def H1033:Ow 267 1033:=py rfl fun s W w nd b hp0 nx lp ln m K h1 h2 h3 h4 hK=>v7 (tL _) aH rfl (fun _=>rfl) bh ck rfl h1 h2 h3 h4 hK (w1033 bj s W w nd b hp0)
def H1098:Ow 282 1098:=bq rfl fun n=>aQ bh ck rfl (w1098 bj Mf n)
def H1203:Ow 16 1203:=bq rfl fun l i nm most hp0=>aQ bh ck rfl (w1203 bj G79 Md G504 l i nm most hp0)
end
end
section
section
variable [dD]
def H74:Ow 46 74:=bq rfl fun r hp0=>aQ bh ck rfl (w74 bj G72 G220 r hp0)
def H86:Ow 13 86:=bq rfl fun s hp0=>aQ bh ck rfl (w86 bj G76 O0 Sx G252 VW ZU G255 G256 G257 s hp0)
def H212:Ow 97 212:=bq rfl fun s=>aQ bh ck rfl (w212 bj G445 G446 s)
def H218:Ow 106 218:=bq rfl fun r hp0=>aQ bh ck rfl (w218 bj G457 G458 G459 G460 r hp0)
def H226:Ow 128 226:=bq rfl fun a b=>aQ bh ck rfl (w226 bj a b)
def H232:Ow 54 232:=bq rfl fun l i r hp0 hp1=>aQ bh ck rfl (w232 bj Sy VY G483 l i r hp0 hp1)
def H253:Ow 29 253:=bq rfl fun s hp0=>aQ bh ck rfl (w253 bj G244 s hp0)
def H316:Ow 107 316:=bq rfl fun v hp0=>aQ bh ck rfl (w316 bj O2 G554 v hp0)
def H440:Ow 133 440:=bq rfl fun n=>aQ bh ck rfl (w440 bj n)
def H446:Ow 140 446:=bq rfl fun m=>aQ bh ck rfl (w446 bj G661 G662 m)
def H453:Ow 102 453:=bq rfl fun c=>aQ bh ck rfl (w453 bj c)
def H459:Ow 151 459:=bq rfl fun l hp0=>aQ bh ck rfl (w459 bj Mf G671 l hp0)
def H465:Ow 114 465:=oweFG rfl Zt (fun r w n op hp0 hp1 hp2=>Fh 2 bh ck rfl rfl (w465 bj ZR ZS r w n op hp0 hp1 hp2)) fun r w n op l nx m K hp0 hp1 hp2 hl hK=>S9 (Fh 2 bh ck rfl rfl (w465 bj ZR ZS r w n op hp0 hp1 hp2)) hl rfl rfl hK
def H478:Ow 17 478:=bq rfl fun v n hp0=>aQ bh ck rfl (w478 bj v n hp0)
def H494:Ow 202 494:=bq rfl fun l x=>aQ bh ck rfl (w494 bj l x)
def H504:Ow 45 504:=py rfl fun s r hp0 nx m K hK1 hK2=>Q3 bh ck rfl hK1 hK2 (w504 bj s r G75 G358 Z8 hp0)
def H533:Ow 122 533:=bq rfl fun s b hp0=>aQ bh ck rfl (w533 bj s b hp0)
def H631:Ow 174 631:=bq rfl fun a b hp0=>aQ bh ck rfl (w631 bj Mg V0 G783 a b hp0)
def H663:Ow 182 663:=bq rfl fun l nm=>aQ bh ck rfl (w663 bj l nm)
def H670:Ow 188 670:=bq rfl fun s=>aQ bh ck rfl (w670 bj G813 G814 s)
def H676:Ow 130 676:=bq rfl fun c hp0=>aQ bh ck rfl (w676 bj O2 c hp0)
def H686:Ow 58 686:=bq rfl fun k hp0=>aQ bh ck rfl (w686 bj k hp0)
def H734:Ow 176 734:=bq rfl fun n hp0=>aQ bh ck rfl (w734 bj G882 n hp0)
def H810:Ow 213 810:=bq rfl fun l=>aQ bh ck rfl (w810 bj Me l)
def H816:Ow 222 816:=bq rfl fun l nm=>aQ bh ck rfl (w816 bj G955 l nm)
def H897:Ow 250 897:=bq rfl fun s hp0=>aQ bh ck rfl (w897 bj Mg VZ Zx Zy Zz s hp0)
def H946:Ow 239 946:=bq rfl fun w es b=>aQ bh ck rfl (w946 bj w es b)
def H952:Ow 246 952:=py rfl fun W w nd hp0 hp1 nx lp ln m K h1 h2 h3 h4 hK=>gv (tL _) aH rfl (fun _=>rfl) bh ck rfl h1 h2 h3 h4 hK (w952 bj W w nd (VT (Nat.le_of_eq (tE (c:=fun _=>2) hp0.1 h1).symm)) OX Jh hp0 hp1)
def H1006:Ow 271 1006:=bq rfl fun s=>aQ bh ck rfl (w1006 bj G678 ZD s)
def H1034:Ow 268 1034:=py rfl fun x W w nd b hp0 nx lp ln m K h1 h2 h3 h4 hK=>gv (tL _) aH rfl (fun _=>rfl) bh ck rfl h1 h2 h3 h4 hK (w1034 bj x W w nd b hp0)
def H1099:Ow 283 1099:=bq rfl fun k hp0=>aQ bh ck rfl (w1099 bj k hp0)
end
end
section
section
variable [dD]
def H75:Ow 60 75:=bq rfl fun r hp0=>aQ bh ck rfl (w75 bj G73 G221 r hp0)
def H88:Ow 15 88:=bq rfl fun a b=>aQ bh ck rfl (w88 bj G263 a b)
def H213:Ow 98 213:=bq rfl fun l hp0=>aQ bh ck rfl (w213 bj Me G447 ZX G449 l hp0)
def H219:Ow 63 219:=bq rfl fun r hp0=>aQ bh ck rfl (w219 bj VV G316 G461 G462 r hp0)
def H227:Ow 50 227:=bq rfl fun n=>aQ bh ck rfl (w227 bj Sy n)
def H239:Ow 64 239:=bq rfl fun s hp0=>aQ bh ck rfl (w239 bj G331 s hp0)
def H255:Ow 32 255:=bq rfl fun s hp0=>aQ bh ck rfl (w255 bj OZ VW G499 s hp0)
def H349:Ow 137 349:=bq rfl fun s=>aQ bh ck rfl (w349 bj s)
def H441:Ow 134 441:=bq rfl fun s hp0=>aQ bh ck rfl (w441 bj ZW O3 Sz Z9 s hp0)
def H447:Ow 141 447:=bq rfl fun l=>aQ bh ck rfl (w447 bj l)
def H454:Ow 103 454:=bq rfl fun c=>aQ bh ck rfl (w454 bj c)
def H460:Ow 152 460:=bq rfl fun r of hp0=>aQ bh ck rfl (w460 bj G672 G673 G674 r of hp0)
def H466:Ow 115 466:=bq rfl fun s hp0=>aQ bh ck rfl (w466 bj Mc ZY O3 Sz G675 s hp0)
def H479:Ow 79 479:=bq rfl fun l i=>aQ bh ck rfl (w479 bj l i)
def H495:Ow 177 495:=bq rfl fun s hp0=>aQ bh ck rfl (w495 bj OZ G682 G683 V2 G685 G9124 s hp0)
def H511:Ow 47 511:=bq rfl fun l nm v hp0=>aQ bh ck rfl (w511 bj G699 l nm v hp0)
def H534:Ow 123 534:=bq rfl fun a b=>aQ bh ck rfl (w534 bj G516 Z6 Sz Z9 a b)
def H658:Ow 162 658:=bq rfl fun s=>aQ bh ck rfl (w658 bj s)
def H665:Ow 145 665:=bq rfl fun n hp0=>aQ bh ck rfl (w665 bj G336 n hp0)
def H671:Ow 191 671:=bq rfl fun l of hp0=>aQ bh ck rfl (w671 bj G672 G815 G816 l of hp0)
def H677:Ow 131 677:=py rfl fun c hp0 nx m K hK=>On rfl rfl bh ck rfl rfl hK (w677 bj c G734 hp0)
def H699:Ow 81 699:=bq rfl fun l nm v hp0=>aQ bh ck rfl (w699 bj G700 l nm v hp0)
def H744:Ow 219 744:=bq rfl fun s hp0=>aQ bh ck rfl (w744 bj Mg G896 G897 G898 G899 V4 s hp0)
def H811:Ow 214 811:=bq rfl fun l i hp0=>aQ bh ck rfl (w811 bj G950 l i (Ut (aP _)) (G951u (aP _)) hp0)
def H819:Ow 229 819:=bq rfl fun s hp0=>aQ bh ck rfl (w819 bj O3 Sz V3 G828 G956 G957 s hp0)
def H898:Ow 251 898:=bq rfl fun s=>aQ bh ck rfl (w898 bj s)
def H947:Ow 240 947:=py rfl fun w nd b nx lp ln m K h1 h2 h3 h4 hK=>v7 ry aH rfl (fun _=>rfl) bh ck rfl h1 h2 h3 h4 hK (w947 bj w nd b V5)
def H953:Ow 247 953:=bq rfl fun m=>aQ bh ck rfl (w953 bj G954 ZB m)
def H1007:Ow 272 1007:=bq rfl fun s=>aQ bh ck rfl (w1007 bj s)
def H1035:Ow 269 1035:=bq rfl fun l hp0=>aQ bh ck rfl (w1035 bj ZE l hp0)
def H1100:Ow 284 1100:=bq rfl fun s b hp0=>aQ bh ck rfl (w1100 bj s b hp0)
end
end
def Sg:List (Nat×Nat)->Prop
 |[]=>True
 |p::r=>Ow p.1 p.2/\Sg r
def Sg.mem:∀{l:List (Nat×Nat)},Sg l->∀p∈l,Ow p.1 p.2
 |p::r,h,q,hq=>by
  rcases bY.1 hq with rfl|hq
  .exact h.1
  .exact h.2.mem q hq
def allY:Sg xF:=⟨H1198,H85,H251,H86,H88,H1203,H478,H79,H353,E489,H72,H497,E452,H358,H73,H252,H253,E254,H208,H255,H256,H76,E242,H257,H263,H228,H504,H74,H511,H227,H229,H230,H231,H232,H70,H215,H686,H216,H75,H580,H71,H219,H239,E244,E124,H499,E487,H222,H295,H470,H501,H249,H78,H479,H220,H699,H700,H701,E469,H480,H481,H482,H483,H209,H210,H211,H212,H213,H214,H450,H451,H453,H454,H221,H217,H218,H316,H461,H462,E331,H465,H466,H467,H468,H530,H531,H532,H533,H534,H424,H225,H226,H463,H676,H677,H678,H440,H441,H442,H443,H349,H444,H445,H446,H447,H448,H449,E664,H665,H464,H455,H456,H457,H458,H459,H460,H554,E245,H246,H675,H658,H714,H659,H516,H630,H631,H477,H734,H495,H496,H660,H661,H662,H663,E336,H666,H667,H668,H669,H670,H357,H572,H671,H672,H673,H674,H494,H704,H783,H882,H682,E683,H684,H685,H808,H809,H810,H811,H812,H813,H814,H744,H745,H815,H816,H927,H819,H827,H828,H946,H947,H948,H949,H950,H951,H952,H953,H954,H896,H897,H898,H899,H900,H901,H955,H956,H957,H1031,H1032,H1033,H1034,H1035,H1036,H1006,H1007,H1008,H1097,H1098,H1099,H1100,H1079,H1126,H1141,trivial⟩
def vl:∀{l:List (Nat×Nat)}{a b:Nat},fI l a=some b->(a,b)∈l
 |[],_,_,h=>by simp[fI]at h
 |(c,d)::r,a,b,h=>by
  simp only[fI]at h;split at h
  .rename_i e;simp_all
  .exact .tail _ (vl h)
def okY:Ok (Go.Proofs.Tryz.prog) xF Py (Bc aW):=okA (fun fid n hn=>(show ∀p∈xF,p.2<1000000 by decide+kernel) _ (vl hn)) (fun t ht=>by simp[Py]at ht;show t=60;omega) fun fid n hn=>allY.mem (fid,n) (vl hn)
section
open Go.RowKit Go.ChangeShapes
def gN.below {w w':World}(h:gN w w'):Below w.heap.size w w':=⟨h.os,h.tape,h.output,h.size,h.old⟩
section
variable {H:Type} {enc:TypeId×Value->H} {P:Program}
def Bl {f:Func}{s:ChangeSpec}{apart fresh handsOn again:Bool}{W W':World}{args:Array Value}{v:Value}{ds gs:List (DataW H)}{before pa pv:List MemPlace}
  (hW:DataW.Whole enc P f.params.toList s.vars apart W args.toList ds gs before)
  (hres:∀(b:Nat) (sp:Nat->Bool) (hd:Bool),DataW.TrodAll enc P W' b sp hd f.resultTypes.toList (v.resultList f.resultTypes.size) (s.fn H (ds++gs)).results [])
  (hargs:∀sp:Nat->Bool,(∀p∈before,sp p.block=true)->DataW.TrodAll enc P W' 0 sp true f.params.toList args.toList (s.fn H (ds++gs)).args pa)
  (hvars:∀sp:Nat->Bool,(∀p∈before,sp p.block=true)->DataW.TrodVars enc P W' sp s.vars (s.fn H (ds++gs)).vars pv)
  (hps:before=pa++pv) (hb:Below W.heap.size W W')
  (hok:∀(j:Nat) (t:TypeId) (r:Value),f.resultTypes[j]? =some t->(v.resultList f.resultTypes.size)[j]? =some r->Value.okWide P W' .any 0 t r):
  s.post enc P f apart fresh handsOn again W args v W':=by
 have hold:∀p∈before,(fun b=>decide (b<W.heap.size)) p.block=true:=fun p hp=>by simpa using hW.lt p hp
 refine⟨ds,gs,before,[],pa,pv,hW,hres _ _ _,hargs _ hold,hvars _ hold,World.keptBut_mono (fun p hp=>⟨hp, ?_⟩) (hb.frame (· ∈before)),fun _=>?_⟩
 .rw[hps,List.mem_append]at hp;exact Or.inr hp
 .have hlt:=hW.lt;obtain⟨_,_,_,_,_,hz,hn⟩:=hW;refine⟨hok,_,_,([]++pa)++pv,⟨[]++pa,pv,trodAll_append (hargs _ (fun _ _=>rfl)) (hres _ _ _),hvars _ (fun _ _=>rfl),rfl, ?_, ?_⟩, ?_⟩
  .intro b off hp;have hmem:MemPlace.cell b off∈before:=by rw[hps];simpa using hp
   have hq:=hz b off hmem;have hl:b<W.heap.size:=hlt _ hmem;simpa only[World.frozen?,hb.block b hl]using hq
  .grind
  .intro p hp _;rw[hps];simpa using hp
end
end
section
inductive Lf
 |str
 |int (k:IntKind)
 |bool
 |sl (ag:Bool) (k:Nat) (cs:List Lf)
mutual
def fit:Lf->D->Nat->Prop
 | .str,d,n=>∃s,d=.str s/\s.length+1<=n
 | .int k,d,n=>(∃m,d=.int k m/\(Lit.int k m).wf=true)/\1<=n
 | .bool,d,n=>(∃b,d=.bool b)/\1<=n
 | .sl ag k cs,d,n=>∃es,d=.sl k es/\∃ns:List Nat,ns.length=es.length/\ns.sum+1<=n/\∀i,i<es.length->∃ds,es.getD i .any=(bif ag then .agg ds else ds.getD 0 .any)/\lg cs ds (ns.getD i 0)
def lg:List Lf->List D->Nat->Prop
 |[],ds,_=>ds=[]
 |c::r,ds,n=>∃d ds' n1 n2,ds=d::ds'/\n1+n2<=n/\fit c d n1/\lg r ds' n2
end
def uA:∀{cs:List Lf}{ds:List D}{n:Nat},lg cs ds n->ds.length=cs.length
 |[],ds,n,h=>by simp only[lg]at h;simp[h]
 |c::r,ds,n,h=>by
  simp only[lg]at h;obtain⟨d,ds',n1,n2,rfl,_,_,h2⟩:=h;simp[uA h2]
def wO:∀{a b:List Lf}{da db:List D}{n m:Nat},lg a da n->lg b db m->lg (a++b) (da++db) (n+m)
 |[],b,da,db,n,m,h1,h2=>by
  simp only[lg]at h1;subst h1;simp only[fE];exact fitL_mono h2 ae
 |c::r,b,da,db,n,m,h1,h2=>by
  simp only[lg]at h1;obtain⟨d,ds',n1,n2,rfl,h3,h4,h5⟩:=h1;simp only[fg,lg];exact⟨d,ds'++db,n1,n2+m,rfl,ae,h4,wO h5 h2⟩
where
 fitL_mono:∀{cs:List Lf} {ds:List D} {n m:Nat},lg cs ds n->n<=m->lg cs ds m
 |[],_,_,_,h,_=>h
 |c::r,ds,n,m,h,hm=>by
  simp only[lg]at h⊢;obtain⟨d,ds',n1,n2,rfl,h3,h4,h5⟩:=h;exact⟨d,ds',n1,n2,rfl,ae,h4,h5⟩
def Jx {c:Lf}{d:D}{n:Nat}(h:fit c d n):d.cells=[d]/\d.bE=true:=by
 cases c<;>simp only[fit]at h
 .obtain⟨s,rfl,_⟩:=h;exact⟨rfl,rfl⟩
 .obtain⟨⟨m,rfl,_⟩,_⟩:=h;exact⟨rfl,rfl⟩
 .obtain⟨⟨b,rfl⟩,_⟩:=h;exact⟨rfl,rfl⟩
 .obtain⟨es,rfl,_⟩:=h;exact⟨rfl,rfl⟩
def tp:∀{cs:List Lf}{ds:List D}{n:Nat},lg cs ds n->bC ds=true
 |[],ds,n,h=>by simp only[lg]at h;subst h;rfl
 |c::r,ds,n,h=>by
  simp only[lg]at h;obtain⟨d,ds',n1,n2,rfl,_,h1,h2⟩:=h;simp only[bC,(Jx h1).2,tp h2,Bool.and_self]
def Mj (b o m j:Nat):((⟨b,o,none⟩:Addr).add m).add j=⟨b,o+m+j,none⟩:=by
 unfold Addr.add;split<;>split<;>simp_all
section
variable {H:Type}
mutual
def dB:DataW H->Nat
 | .lit (.string s)=>s.length+1
 | .slice es _=>SN es+1
 | .agg ps=>SN ps
 |_=>1
def SN:List (DataW H)->Nat
 |[]=>0
 |d::r=>dB d+SN r
end
def Js:∀ds:List (DataW H),SN ds=(ds.map dB).sum
 |[]=>rfl
 |d::r=>by simp only[SN,List.map_cons,List.sum_cons,Js r]
end
def vM (P:Program)(t:TypeId):Bool:=match P.underlying t with
 |some (.struct _)=>true
 |some (.array _ _)=>true
 |_=>false
def XI (P:Program)(F:TypeId->Option (List Lf)):List Field->Nat->Option (List Lf)
 |[],_=>some []
 |f::r,off=>match F f.type,XI P F r (off+P.cellsOf f.type)with
  |some a,some b=>if f.offset=off/\a.length=P.cellsOf f.type then some (a++b)else none
  |_,_=>none
def arrF (e:TypeId)(off:Nat):Field:={(default:Field)with type:=e,offset:=off}
def Bi (P:Program):Nat->TypeId->Option (List Lf)
 |0,_=>none
 |n+1,t=>match P.underlying t with
  |some .bool=>some [.bool]
  |some (.int k)=>some [.int k]
  |some .string=>some [.str]
  |some (.slice e)=>match Bi P n e with
   |some cs=>if cs.length=P.cellsOf e/\0<cs.length/\(vM P e=true\/cs.length=1)then some [.sl (vM P e) (P.cellsOf e) cs]else none
   |none=>none
  |some (.struct fs)=>match XI P (Bi P n) fs.toList 0 with
   |some a=>if a.length=P.cellsOf t then some a else none
   |none=>none
  |some (.array k e)=>match XI P (Bi P n) ((List.range k).map fun i=>arrF e (i*P.cellsOf e)) 0 with
   |some a=>if a.length=P.cellsOf t then some a else none
   |none=>none
  |_=>none
section
variable {H:Type} {enc:TypeId×Value->H} {P:Program} {ν:List (Nat×Nat)}
def xO (W:World):X:=⟨W,fun b=>b<W.heap.size,fun _=>none⟩
def Rds (ν:List (Nat×Nat))(W:World)(cs:List Value)(a:List Lf)(n:Nat):Prop:=
 cs.length=a.length/\∃ds:List D,lg a ds n/\∀i,i<cs.length->RD ν (xO W) (cs.getD i undef) (ds.getD i .any)/\(cs.getD i undef).oneCell'=true
def Rds.one {W:World}{v:Value}{c:Lf}{d:D}{n:Nat}(hf:fit c d n)(hr:RD ν (xO W) v d)(h1:v.oneCell'=true):Rds ν W [v] [c] n:=
 ⟨rfl,[d],by simp only[lg];exact⟨d,[],n,0,rfl,ae,hf,rfl⟩,fun i hi=>by
  obtain rfl:i=0:=by simpa using hi
  exact⟨hr,h1⟩⟩
def H7 {W:World}{F:TypeId->Option (List Lf)}{m:Nat}{sp:Nat->Bool}{held:Bool}{cs:List Value}
  (hF:∀t a cs (x:DataW H×List MemPlace),F t=some a->DataW.trod enc P W 0 sp held m t cs=some x->Rds ν W cs a (dB x.1)):
  ∀(r:List Field) (off:Nat) (a:List Lf) (xs:List (DataW H×List MemPlace)),XI P F r off=some a->xs.length=r.length->
   (∀(i:Nat) (f:Field),r[i]? =some f->DataW.trod enc P W 0 sp held m f.type ((cs.drop f.offset).take (P.cellsOf f.type))=xs[i]?)->off+a.length<=cs.length->
   ∃ds:List D,lg a ds (SN (xs.map (·.1)))/\∀i,i<a.length->RD ν (xO W) (cs.getD (off+i) undef) (ds.getD i .any)/\(cs.getD (off+i) undef).oneCell'=true
 |[],off,a,xs,h,hl,_,_=>by
  simp only[XI,a8]at h;subst h;exact⟨[],rfl,fun i hi=>by simp at hi⟩
 |f::r,off,a,xs,h,hl,hx,hoff=>by
  simp only[XI]at h;split at h
  .rename_i a1 a2 h1 h2;split at h
   .rename_i hc;simp only[a8]at h;subst h
    match xs,hl with
    |x::xs,hl=>
    have q:=hx 0 f rfl;simp only[List.getElem?_cons_zero]at q;obtain⟨l1,ds1,g1,g2⟩:=hF _ _ _ _ h1 q;simp only[bF]at hoff;have hlen:((cs.drop f.offset).take (P.cellsOf f.type)).length=a1.length:=by rw[<-l1]
    obtain⟨ds2,g3,g4⟩:=H7 hF r _ a2 xs h2 (by simpa using hl) (fun i f' hf=>by simpa using hx (i+1) f' (by simpa using hf)) ae;have hd1:=uA g1;refine⟨ds1++ds2,by simp only[List.map_cons,SN];exact wO g1 g3,fun i hi=>?_⟩;simp only[bF]at hi;by_cases hi1:i<a1.length
    .have:=g2 i ae;have e1:(ds1++ds2).getD i .any=ds1.getD i .any:=by simp[List.getD,List.getElem?_append,hd1,hi1]
     have e2:((cs.drop f.offset).take (P.cellsOf f.type)).getD i undef=cs.getD (off+i) undef:=by
      simp only[List.getD,List.getElem?_take,List.getElem?_drop,hc.1];rw[ax ae]
     rw[e1,<-e2];exact this
    .have:=g4 (i-a1.length) ae;have e1:(ds1++ds2).getD i .any=ds2.getD (i-a1.length) .any:=by simp[List.getD,List.getElem?_append,hd1,hi1]
     rw[e1,show off+i=off+P.cellsOf f.type+(i-a1.length)by omega];exact this
   .cases h
  .cases h
def ym {W:World}{sp:Nat->Bool}{held:Bool}:∀(fl:Nat) (t:TypeId) (a:List Lf) (fuel:Nat) (cs:List Value) (x:DataW H×List MemPlace),
  Bi P fl t=some a->DataW.trod enc P W 0 sp held fuel t cs=some x->Rds ν W cs a (dB x.1)
 |0,t,a,fuel,cs,x,h,_=>by simp[Bi]at h
 |n+1,t,a,fuel,cs,x,h,hx=>by
  unfold Bi at h;split at h
  .rename_i ht;simp only[a8]at h;subst h;obtain⟨b,rfl,rfl⟩:=DataW.trod_bool ht hx;exact .one (by simp only[fit];exact⟨⟨b,rfl⟩,by simp[dB]⟩) (.bool b) rfl
  .rename_i k ht;simp only[a8]at h;subst h;obtain⟨m,rfl,rfl,hw⟩:=DataW.trod_int ht hx;exact .one (by simp only[fit];exact⟨⟨m,rfl,hw⟩,by simp[dB]⟩) (.int k m) rfl
  .rename_i ht;simp only[a8]at h;subst h;obtain⟨s,rfl,rfl,hs⟩:=DataW.trod_string ht hx;obtain⟨⟨l⟩⟩:=s;exact .one (d:=.str l) (by simp only[fit];exact⟨l,rfl,by simp[dB]⟩) (.str l hs) rfl
  .rename_i e ht;split at h
   .rename_i ce hce;split at h
    .rename_i hk;obtain⟨hk1,hk0,hkag⟩:=hk;simp only[a8]at h;subst h;rcases DataW.trod_slice ht hx with⟨rfl,rfl⟩|⟨ad,len,cap,elems,rest,m,rfl,rfl,rfl,hb,hlc,hcm,hel,hat,_,_⟩
     .refine .one (d:=.sl (P.cellsOf e) []) (by simp only[fit];exact⟨[],rfl,[],rfl,by simp[dB],fun i hi=>by simp at hi⟩) ?_ rfl;exact .sl none 0 0 0 0 _ [] (fun _ _=>undef) rfl (.inl rfl) (aP _) (Nat.zero_le _) (fun i hi=>ae) (fun i hi=>ae) (fun i j hi=>ae) (fun i j hi=>ae) (fun i j hi=>ae)
     .have key:∀i,i<len->∃(csi:List Value) (dsi:List D),(csi.length=ce.length/\∀j,j<P.cellsOf e->W.cell? ((ad.add (i*P.cellsOf e)).add j)=csi[j]?)/\lg ce dsi (dB (elems.getD i (.nil,[])).1)/\
        ∀j,j<csi.length->RD ν (xO W) (csi.getD j undef) (dsi.getD j .any)/\(csi.getD j undef).oneCell'=true:=by
       intro i hi;have q:=hat i hi;have hgi:elems[i]? =some (elems.getD i (.nil,[])):=by simp[List.getD,show i<elems.length by omega]
       rw[hgi,Option.bind_eq_some_iff]at q;obtain⟨csi,q1,q2⟩:=q;obtain⟨l1,dsi,g1,g2⟩:=ym n e ce m csi _ hce q2;obtain⟨_,_,q3⟩:=World.cells?_some q1;exact⟨csi,dsi,⟨l1,q3⟩,g1,g2⟩
      let f:Nat->List Value×List D:=fun i=>if h:i<len then((key i h).choose,(key i h).choose_spec.choose)else([],[])
      have hf:∀i,i<len->((f i).1.length=ce.length/\∀j,j<P.cellsOf e->W.cell? ((ad.add (i*P.cellsOf e)).add j)=(f i).1[j]?)/\lg ce (f i).2 (dB (elems.getD i (.nil,[])).1)/\
        ∀j,j<(f i).1.length->RD ν (xO W) ((f i).1.getD j undef) ((f i).2.getD j .any)/\((f i).1.getD j undef).oneCell'=true:=by
       intro i hi;have e1:f i=((key i hi).choose,(key i hi).choose_spec.choose):=by simp[f,hi]
       rw[e1];exact(key i hi).choose_spec.choose_spec
      let es:List D:=(List.range len).map fun i=>bif vM P e then .agg (f i).2 else(f i).2.getD 0 .any
      have hes:∀i,i<len->es.getD i .any=bif vM P e then .agg (f i).2 else(f i).2.getD 0 .any:=fun i hi=>by simp[es,hi]
      have hcells:∀i,i<len->(es.getD i .any).cells=(f i).2:=fun i hi=>by
       rw[hes i hi];cases hag:vM P e with
       |true=>rfl
       |false=>
        have h1:ce.length=1:=by
         rcases hkag with h|h
         .rw[hag]at h;cases h
         .exact h
        match ce,h1 with
        |[c],_=>
        have g:=(hf i hi).2.1;simp only[lg]at g;obtain⟨d,ds',n1,n2,e1,_,g1,rfl⟩:=g;rw[e1];exact(Jx g1).1
      have hnl:∀i,i<len->(es.getD i .any).bE=true:=fun i hi=>by
       have g:=tp (hf i hi).2.1;rw[hes i hi];cases hag:vM P e with
       |true=>exact g
       |false=>
        show((f i).2.getD 0 .any).bE=true
        match hq:(f i).2 with
        |[]=>rfl
        |d::r=>
         rw[hq]at g;simp only[bC,bx]at g;exact g.1
      refine .one (d:=.sl (P.cellsOf e) es) ?_ ?_ rfl
      .simp only[fit];refine⟨es,rfl,elems.map fun q=>dB q.1,by simp[es,hel],by simp only[dB,Js,List.map_map];exact aP _,fun i hi=>?_⟩;have hi':i<len:=by simpa[es]using hi
       refine⟨(f i).2,hes i hi', ?_⟩;have:=(hf i hi').2.1;have e2:(elems.map fun q=>dB q.1).getD i 0=dB (elems.getD i (.nil,[])).1:=by simp[List.getD,show i<elems.length by omega]
       rw[e2];exact this
      .have hfl:∀i,i<len->(f i).1.length=P.cellsOf e:=fun i hi=>by rw[(hf i hi).1.1,hk1]
       have hdl:∀i,i<len->(f i).2.length=P.cellsOf e:=fun i hi=>by rw[uA (hf i hi).2.1,hk1]
       have hcell:∀i j,i<len->j<P.cellsOf e->W.cell? ((ad.add (i*P.cellsOf e)).add j)=some ((f i).1.getD j undef):=fun i j hi hj=>by
        rw[(hf i hi).1.2 j hj];simp[List.getD,show j<(f i).1.length by rw[hfl i hi];exact hj]
       have hsp:es=[]\/(ad.spot=none/\ad.block<W.heap.size):=by
        by_cases h0:len=0
        .left;simp[es,h0]
        .right;have h1:=hcell 0 0 ae ae;have e3:(ad.add (0*P.cellsOf e)).add 0=ad:=by simp[Addr.add]
         rw[e3]at h1;refine⟨World.cell?_spot h1, ?_⟩;unfold World.cell? at h1;split at h1
         .rename_i h2;exact(Array.getElem?_eq_some_iff.mp h2).1
         .cases h1
       obtain⟨ab,ao,asp⟩:=ad;refine .sl (some ⟨ab,ao,asp⟩) ab ao len cap _ es (fun i j=>(f i).1.getD j undef) (by simp[es]) ?_ hlc hcm (fun i hi=>by rw[hcells i hi,hdl i hi]) hnl ?_ ?_ ?_
       .rcases hsp with h|⟨h,h2⟩
        .exact .inl h
        .obtain rfl:asp=none:=h;exact .inr ⟨rfl,h2⟩
       .intro i j hi hj;have h1:=hcell i j hi hj;rcases hsp with h|⟨h,h2⟩
        .have:es.length=0:=by rw[h];rfl
         simp[es]at this;omega
        .obtain rfl:asp=none:=h
         rwa [Mj]at h1
       .intro i j hi hj;exact((hf i hi).2.2 j (by rw[hfl i hi];exact hj)).2
       .intro i j hi hj;rw[hcells i hi];exact((hf i hi).2.2 j (by rw[hfl i hi];exact hj)).1
    .cases h
   .cases h
  .rename_i fs ht;split at h
   .rename_i b hb;split at h
    .rename_i hlen;simp only[a8]at h;subst h;obtain⟨xs,m,rfl,rfl,hcl,hxl,hat⟩:=DataW.trod_struct ht hx;obtain⟨ds,g1,g2⟩:=H7 (W:=W) (ν:=ν) (sp:=sp) (held:=held) (enc:=enc) (m:=m) (cs:=cs) (fun t a cs x h1 h2=>ym n t a m cs x h1 h2) fs.toList 0 b xs hb (by simpa using hxl) (fun i f hf=>hat i f (by simpa using hf)) ae;refine⟨ae,ds,by simpa only[dB]using g1,fun i hi=>?_⟩;have:=g2 i ae
     rwa [b9]at this
    .cases h
   .cases h
  .rename_i k e ht;split at h
   .rename_i b hb;split at h
    .rename_i hlen;simp only[a8]at h;subst h;obtain⟨xs,m,rfl,rfl,hcl,hxl,hat⟩:=DataW.trod_array ht hx;obtain⟨ds,g1,g2⟩:=H7 (W:=W) (ν:=ν) (sp:=sp) (held:=held) (enc:=enc) (m:=m) (cs:=cs) (fun t a cs x h1 h2=>ym n t a m cs x h1 h2) _ 0 b xs hb (by simpa using hxl) (fun i f hf=>by
      simp only[List.getElem?_map,dS]at hf;obtain⟨j,hj,rfl⟩:=hf;have hi:i<k:=by
       have:=(List.getElem?_eq_some_iff.1 hj).1;simpa using this
      obtain rfl:j=i:=by simpa[hi]using hj.symm
      exact hat j hi) ae
     refine⟨ae,ds,by simpa only[dB]using g1,fun i hi=>?_⟩;have:=g2 i ae
     rwa [b9]at this
    .cases h
   .cases h
  .cases h
end
end
section
open Go.RowKit Go.ChangeShapes Go.WideShapes
def Hs (sh:Bool×List Lf)(d:D)(n:Nat):Prop:=∃ds,lg sh.2 ds n/\d=bif sh.1 then .agg ds else ds.getD 0 .any
def xU:List (Bool×List Lf)->List D->Nat->Prop
 |[],ds,_=>ds=[]
 |s::r,ds,n=>∃d ds' n1 n2,ds=d::ds'/\n1+n2<=n/\Hs s d n1/\xU r ds' n2
def pF (P:Program)(k:Nat):List TypeId->Option (List (Bool×List Lf))
 |[]=>some []
 |t::r=>match Bi P k t,pF P k r with
  |some a,some b=>if vM P t=true\/a.length=1 then some ((vM P t,a)::b)else none
  |_,_=>none
section
variable {H:Type} {enc:TypeId×Value->H} {P:Program} {ν:List (Nat×Nat)}
def Wb {W:World}{sp:Nat->Bool}{held:Bool}{k base:Nat}{t:TypeId}{a:List Lf}{v:Value}{d:DataW H}{p:List MemPlace}{r:Reach}
  (ha:Bi P k t=some a) (h1:vM P t=true\/a.length=1) (oJ:Value.okWide P W r base t v) (h:DataW.Trod enc P W 0 sp held t v d p):
  ∃e,Hs (vM P t,a) e (dB d)/\e.bE=true/\RD ν (xO W) v e:=by
 obtain⟨fuel,hf⟩:=h;obtain⟨hl,ds,g1,g2⟩:=ym (ν:=ν) k t a fuel v.cells.toList (d,p) ha hf;have hdl:=uA g1;have hnl:=tp g1;refine⟨_,⟨ds,g1,rfl⟩, ?_⟩;cases hag:vM P t with
 |true=>
  have:∃cs,v=.agg cs/\cs.size=P.cellsOf t:=by
   match k,ha with
   |n+1,ha=>
   unfold Bi at ha;unfold vM at hag;split at ha
   .simp_all
   .simp_all
   .simp_all
   .simp_all
   .rename_i fs ht;exact okWide_struct ht oJ
   .rename_i m e ht;simp only[Value.okWide,ht]at oJ;obtain⟨cs,h1,h2,_⟩:=oJ;exact⟨cs,h1,h2⟩
   .simp_all
  obtain⟨cs,rfl,hcs⟩:=this;refine⟨hnl, ?_⟩;have hl':cs.size=a.length:=by simpa[Value.cells]using hl
  have e:∀i,(Value.agg cs).cells.toList.getD i undef=cs.getD i undef:=fun i=>by
   simp only[Value.cells];by_cases hi:i<cs.size<;>simp[List.getD,Array.getD,hi]
  refine .agg cs ds ae (fun i hi=>?_) fun i hi=>?_
  .rw[<-e];exact(g2 i (by simp only[Value.cells,Array.length_toList];omega)).2
  .rw[<-e];exact(g2 i (by simp only[Value.cells,Array.length_toList];omega)).1
 |false=>
  have h1:a.length=1:=by
   rcases h1 with h|h
   .rw[hag]at h;cases h
   .exact h
  have hv:v.cells.toList.getD 0 undef=v:=by
   match k,ha with
   |n+1,ha=>
   unfold Bi at ha;unfold vM at hag;split at ha
   .rename_i ht;obtain⟨b,rfl⟩:=okWide_bool ht oJ;rfl
   .rename_i k ht;obtain⟨b,rfl⟩:=okWide_int ht oJ;rfl
   .rename_i ht;obtain⟨b,rfl⟩:=okWide_string ht oJ;rfl
   .rename_i e ht;obtain⟨b,c,f,rfl⟩:=okWide_slice ht oJ;rfl
   .rename_i fs ht;rw[ht]at hag;cases hag
   .rename_i m e ht;rw[ht]at hag;cases hag
   .cases ha
  have g:=g2 0 ae;rw[hv]at g;refine⟨?_,g.1⟩
  match ds,hdl with
  |[d0],_=>simpa[bC]using hnl
  |[],h=>simp at h;omega
  |_::_::_,h=>simp at h;omega
def Jl {W:World}{sp:Nat->Bool}{held:Bool}{k base:Nat}{r:Reach}:∀(ts:List TypeId) (shs:List (Bool×List Lf)) (vs:List Value) (dws:List (DataW H)) (ps:List MemPlace),
  pF P k ts=some shs->(∀(j:Nat) t v,ts[j]? =some t->vs[j]? =some v->Value.okWide P W r base t v)->DataW.TrodAll enc P W 0 sp held ts vs dws ps->
  ∃es:List D,xU shs es (SN dws)/\es.length=vs.length/\dws.length=ts.length/\bC es=true/\∀i,i<es.length->RD ν (xO W) (vs.getD i undef) (es.getD i .any)
 |[],shs,vs,dws,ps,hs,_,h=>by
  simp only[pF,a8]at hs;subst hs;obtain⟨rfl,rfl,rfl⟩:=trodAll_nil h;exact⟨[],rfl,rfl,rfl,rfl,fun i hi=>by simp at hi⟩
 |t::ts,shs,vs,dws,ps,hs,hv,h=>by
  simp only[pF]at hs;split at hs
  .rename_i a b h1 h2;split at hs
   .rename_i hc;simp only[a8]at hs;subst hs;obtain⟨v,vs',d,ds',p,q,rfl,rfl,rfl,h3,h4⟩:=trodAll_cons h;obtain⟨e,g1,g2,g3⟩:=Wb (ν:=ν) h1 hc (hv 0 t v rfl rfl) h3;obtain⟨es,k1,k2,k3,k4,k5⟩:=Jl ts b vs' ds' q h2 (fun j t v h5 h6=>hv (j+1) t v (by simpa using h5) (by simpa using h6)) h4;refine⟨e::es,⟨e,es,_,_,rfl,aP _,g1,k1⟩,by simp[k2],by simp[k3],by simp[bC,g2,k4],fun i hi=>?_⟩
    match i,hi with
    |0,_=>exact g3
    |i+1,hi=>exact k5 i (by simpa using hi)
   .cases hs
  .cases hs
def sV {W W':World}(hl:laidOutB P=true)(hb:Below W.heap.size W W'){sp':Nat->Bool}:∀(ts:List TypeId) (vs:List Value) (dws:List (DataW H)) (ps:List MemPlace),
  (ts.all fun t=>P.readableRec t&&decide (t<P.types.size))=true->(∀x∈ps,x.block<W.heap.size)->(∀x∈ps,sp' x.block=true)->
  DataW.TrodAll enc P W 0 (fun _=>true) true ts vs dws ps->DataW.TrodAll enc P W' 0 sp' true ts vs dws ps
 |[],vs,dws,ps,_,_,_,h=>by
  obtain⟨rfl,rfl,rfl⟩:=trodAll_nil h;exact trodAll_mk0
 |t::ts,vs,dws,ps,ht,hlt,hsp,h=>by
  obtain⟨v,vs',d,ds',p,q,rfl,rfl,rfl,h3,h4⟩:=trodAll_cons h;simp only[List.all_cons,bx,aV]at ht;refine trodAll_cons_mk (WideElems.Trod_stays hl ht.1.1 ht.1.2 h3 (fun x hx=>hb.same (hlt x (by simp[hx]))) fun x hx=>hsp x (by simp[hx])) ?_;exact sV hl hb ts vs' ds' q ht.2 (fun x hx=>hlt x (by simp[hx])) (fun x hx=>hsp x (by simp[hx])) h4
end
end
def SX {c:Lf}{d:D}{n:Nat}(h:fit c d n):1<=n:=by
 cases c<;>simp only[fit]at h
 .obtain⟨s,_,h⟩:=h;omega
 .exact h.2
 .exact h.2
 grind
theorem PJ {c:Lf}{d:D}{n m:Nat}(h:fit c d n)(hm:n<=m):fit c d m:=by
 cases c<;>simp only[fit]at h⊢
 .grind
 .exact⟨h.1,ae⟩
 .exact⟨h.1,ae⟩
 grind
theorem Kx:∀(ns:List Nat) (i:Nat),i<ns.length->ns.getD i 0<=ns.sum
 |a::r,0,_=>aT
 |a::r,i+1,h=>by
  have:=Kx r i (by simpa using h)
  grind
def Ky:∀(ns:List Nat),(∀i,i<ns.length->1<=ns.getD i 0)->ns.length<=ns.sum
 |[],_=>aT
 |a::r,h=>by
  have h0:=h 0 aT;have:=Ky r fun i hi=>h (i+1) (by simpa using hi)
  grind
def Xp {α:Type}{q:α->D}{G:α->Prop}{ag:Bool}{k:Nat}{cs:List Lf}{d:D}{n:Nat}(hcs:cs≠[])
  (hd:∀ds m,m<=n->lg cs ds m->∃x,(bif ag then D.agg ds else ds.getD 0 .any)=q x/\G x) (h:fit (.sl ag k cs) d n):
  ∃xs:List α,d=.sl k (xs.map q)/\xs.length+1<=n/\∀x∈xs,G x:=by
 simp only[fit]at h;obtain⟨es,rfl,ns,hl,hs,he⟩:=h;have hone:∀i,i<ns.length->1<=ns.getD i 0:=fun i hi=>by
  obtain⟨ds,_,h2⟩:=he i ae
  match cs,hcs with
  |c::r,_=>
  simp only[lg]at h2;obtain⟨d,ds',n1,n2,_,h3,h4,_⟩:=h2;have:=SX h4;omega
 have hlen:=Ky ns hone;have key:∀i,i<es.length->∃x,es.getD i .any=q x/\G x:=fun i hi=>by
  grind [Kx]
 have conv:∀es:List D,(∀i,i<es.length->∃x,es.getD i .any=q x/\G x)->∃xs:List α,es=xs.map q/\∀x∈xs,G x:=by
  intro es;induction es with
  |nil=>exact fun _=>⟨[],rfl,fun x hx=>by cases hx⟩
  |cons e r ih=>
   intro h;obtain⟨x,h1,h2⟩:=h 0 aT;obtain⟨xs,h3,h4⟩:=ih fun i hi=>by simpa using h (i+1) (by simpa using hi)
   simp only[jH]at h1;refine⟨x::xs,by rw[h3,h1];rfl,fun y hy=>?_⟩;rcases bY.1 hy with rfl|hy
   .exact h2
   .exact h4 y hy
 obtain⟨xs,rfl,hx⟩:=conv es key
 refine⟨xs,rfl, ?_,hx⟩;simp only[bU]at hl;omega
def P5 {k:IntKind}{d:D}{n:Nat}(h:fit (.sl false 1 [.int k]) d n):∃xs:List Int,d=.sl 1 (xs.map (D.int k))/\xs.length+1<=n/\∀x∈xs,True:=
 Xp (q:=D.int k) (G:=fun _=>True) aT (fun ds m hm h=>by
  simp only[lg,fit]at h;obtain⟨d,ds',n1,n2,rfl,_,⟨⟨x,rfl,_⟩,_⟩,rfl⟩:=h;exact⟨x,rfl,trivial⟩) h
def TA {c:Lf}{d:D}{n:Nat}(h:Hs (false,[c]) d n):fit c d n:=by
 obtain⟨ds,h,rfl⟩:=h
 grind [lg,PJ]
section
open Go.RowKit Go.ChangeShapes Go.WideShapes
def ctxp {t:List (Nat×qx)}{n:Nat}{ds:List D}{d:D}(hD:Zw (lk t n m6).rel)(h:(lk t n m6).rel ds d):(Bc t).pre n ds/\(Bc t).val n ds=d:=⟨⟨d,h⟩,hD _ _ _ (lM ⟨d,h⟩) h⟩
section
variable {H:Type} {enc:TypeId×Value->H} {P:Program} {ν:List (Nat×Nat)}
def H4 [dD]{cQ:List Nat}{Y:Ctx}(hok:Ok P ν cQ Y){fid n k base:Nat}{f:Func}{s:ChangeSpec}{tb:TypeId}{shs:List (Bool×List Lf)}{r:Reach}
  {W:World} {args:Array Value} {ds gs:List (DataW H)} {before:List MemPlace}
  (hf:P.funcs[fid]? =some f) (hnm:(f.name== "runtime.NumGoroutine")=false) (hbody:f.body.isSome=true) (hn:fI ν fid=some n)
  (hl:laidOutB P=true) (hts:(f.params.toList.all fun t=>P.readableRec t&&decide (t<P.types.size))=true)
  (hsh:pF P k f.params.toList=some shs) (hres:f.resultTypes=#[tb]) (htb:P.underlying tb=some .bool)
  (hvars:s.vars=[]) (hfn:∀xs:List (DataW H),xs.length=f.params.toList.length->s.fn H xs={results:=[.lit (.bool true)],args:=xs})
  (hgd:dD.gd (xO W)) (hpre:∀es,xU shs es (SN ds)->(∀i,i<es.length->∃v,RD ν (xO W) v (es.getD i .any))->Y.pre n es/\Y.val n es=.bool true)
  (hargs:∀(j:Nat) t v,f.params[j]? =some t->args[j]? =some v->Value.okWide P W r base t v)
  (hW:DataW.Whole enc P f.params.toList s.vars false W args.toList ds gs before):
  Calls P fid args W fun e W'=>∃v,e=.returned v/\s.post enc P f false true false false W args v W':=by
 have hW':=hW;obtain⟨p,q,hA,hV,rfl,hz,hnd⟩:=hW;rw[hvars]at hV;obtain⟨rfl,rfl⟩:=trodVars_none hV;obtain⟨es,h1,h2,h3,h4,h5⟩:=Jl (ν:=ν) f.params.toList shs args.toList ds p hsh (fun j t v e1 e2=>hargs j t v (by simpa using e1) (by simpa using e2)) hA;have hsz:args.size=es.length:=by simpa using h2.symm
 obtain⟨hp1,hp2⟩:=hpre es h1 fun i hi=>⟨_,h5 i hi⟩
 have hd:=hok.pure fid n hn (xO W) args es hsz (fun i hi=>by
  have:=h5 i hi;have e:args.toList.getD i undef=args.getD i undef:=by
   have hi':i<args.size:=ae;simp[List.getD,Array.getD,hi']
  rwa [e]at this) h4 (fun b hb=>hb) hgd hp1
 rw[ja hf hnm hbody args]at hd;rcases hd with⟨v,x',hd|hd,_⟩|⟨f',args',hd,hc⟩
 .cases hd
 .cases hd.1
 .cases hd;refine Calls.mono hc fun e W' he=>?_
  match e,he with
  | .returned v,he=>
   obtain⟨x',rfl,hp,hr⟩:=he;rw[hp2]at hr;obtain rfl:v=.bool true:=by cases hr;rfl
   have hb:Below W.heap.size W x'.w:=hp.grow.below;have hlt:=hW'.lt;have e1:s.fn H (ds++[])={results:=[.lit (.bool true)],args:=ds}:=by rw[gG];exact hfn ds h3
   refine⟨_,rfl,Bl (pa:=p) (pv:=[]) hW' (fun b sp hd=>?_) (fun sp hsp=>?_) (fun sp hsp=>?_) rfl hb (ok_one hres rfl (okWide_bool_mk htb _))⟩
   .rw[e1,hres];exact trodAll_mk1 (shut_bool htb _)
   .rw[e1];exact sV hl hb _ _ _ _ hts (fun x hx=>by simpa using hlt x (by simpa using hx)) (fun x hx=>hsp x (by simpa using hx)) hA
   .rw[e1,hvars];rfl
end
end
section
open Go.RowKit Go.ChangeShapes Go.WideShapes
end
end Go.Abs
section
namespace Go.Proofs.YtgnjlompgjhaaaaGreatDoor
open Go.Abs Go.ChangeShapes Go.WideShapes Go.ChangeAt Go.RowKit Go.Proofs
def own:ownKnob Tryz.prog.godebug=none:=by kernel_rfl
def Qa:laidOutB Tryz.prog=true:=by kernel_rfl
def uI {P:Program}{W:World}{y:String×DataW Unit}{l:List (String×DataW Unit)}(h:laidMet P (y::l) W):laidMet P l W:=by
 obtain⟨ps,⟨g,t,cs,fuel,p,q,_,_,_,_,h1,rfl⟩,h2,h3⟩:=h;refine⟨q,h1,(List.nodup_append.1 h2).2.1,fun b off hm=>h3 b off (by simp[hm])⟩
def JP {W:World}{b:Nat}{o:Nat}{v:Value}(h:W.cell? ⟨b,o,none⟩=some v):b<W.heap.size:=by
 unfold World.cell? at h;split at h
 .rename_i h2;exact(Array.getElem?_eq_some_iff.mp h2).1
 .cases h
def gd_of {W:World}(hL:laidMetH Tryz.prog Rows.indexBackRow.laid W)(hsh:W.ShapedOpen Tryz.prog):dD.gd (xO W):=by
 have hL':laidMet Tryz.prog Rows.indexBackRow.laid W:=hL;have htab:Lib.TabIs Tryz.prog W "internal/strconv.uint64pow10" .u64 Lib.pow10Tab:=
  Lib.tabIs_of_head (g:=3) (t:=275) (e:=52) (n:=20) (by kernel_rfl) (by kernel_rfl) (by kernel_rfl) (by kernel_rfl) (by kernel_rfl) (by kernel_rfl) (uI (uI hL'))
 obtain⟨m,hm⟩:∃m,W.cell? ⟨0,0,none⟩=some (.int .i64 m):=Go.Proofs.cell_of_shapedOpen_int (zero:=#[.int .i64 0]) (t:=3) hsh (of_decide_eq_true (by kernel_rfl)) (by kernel_rfl) rfl (by kernel_rfl) (by kernel_rfl) Tryz.underlying3
 have h3:=htab.cell wY 0 (by decide);exact⟨⟨JP hm,m,hm⟩,JP h3,htab⟩
mutual
def EV {H:Type}:DataW H->List Value
 | .lit (.int k n)=>[.int k n]
 | .agg ps=>Px ps
 |_=>[]
def Px {H:Type}:List (DataW H)->List Value
 |[]=>[]
 |d::r=>EV d++Px r
end
def put (d:DataW Unit):Obj->Obj
 | .cells _ t frozen=>.cells (EV d).toArray t frozen
 |o=>o
noncomputable def vO (os:Os):World:=
 {World.holding Tryz.prog os ⟨#[],#[],[]⟩with heap:=(((((World.holding Tryz.prog os ⟨#[],#[],[]⟩).heap.modify 1 (put Rows.laid_unicode_utf8_first)).modify 2 (put Rows.laid_unicode_utf8_acceptRanges)).modify 3 (put Rows.laid_internal_strconv_uint64pow10)).modify 4 (put Rows.laid_math_bits_deBruijn32tab)).modify 5 (put Rows.laid_math_bits_deBruijn64tab)}
end Go.Proofs.YtgnjlompgjhaaaaGreatDoor
end
section
namespace Go.Proofs.YtgnjlompgjhaaaaGreatDoor
open Go.Abs Go.ChangeShapes Go.WideShapes Go.ChangeAt Go.RowKit Go.Proofs
def kv:Array Value:=#[.slice none 0 0]
def tA (os:Os):laidMet Tryz.prog Rows.indexBackRow.laid ((vO os).forCall (fun _ _=>0) ⟨#[],kv,[]⟩).memory:=
 laidMet_of_run' 8 (by kernel_rfl) (by kernel_rfl)
def wi:pF Tryz.prog 20 Tryz.f6.params.toList=some [(false,[.sl false 1 [.int .i64]])]:=by kernel_rfl
def Bm {W:World}{es:List D}{n:Nat}(h:xU [(false,[.sl false 1 [.int .i64]])] es n)(hr:∀i,i<es.length->∃v,RD xF (xO W) v (es.getD i .any)):(Bc aW).pre 1198 es/\(Bc aW).val 1198 es=.bool true:=by
 obtain⟨d1,_,n1,m1,rfl,a1,h1,rfl⟩:=h;obtain⟨v1,rfl,k1⟩:=P5 (TA h1);exact ctxp Zr fun T h=>h v1
def xI (os:Os){H:Type}(enc:TypeId×Value->H):∃places,DataW.whole enc Tryz.prog ((vO os).forCall (fun _ _=>0) ⟨#[],kv,[]⟩).memory Tryz.f6.params.toList Rows.indexBackSpec.vars false kv.toList 8=
  some ([.nil],[],places):=
 ⟨[],by kernel_rfl⟩
set_option maxRecDepth 100000 in
theorem vP (os:Os)(started:os.Started)(H:Type)(enc:TypeId×Value->H)(F:Stop.Interp):
  ReturnsInHanded {} Tryz.checked os 6 .any ((OpenSpec.ofChange Rows.indexBackSpec).preRow enc Tryz.prog Tryz.f6 Rows.indexBackRow.domain false Rows.indexBackRow.laid) (((OpenSpec.ofChange Rows.indexBackSpec).at F).post enc Tryz.prog Tryz.f6 false true false false):=by
 obtain⟨places,hx⟩:=xI os enc;refine returnsInHanded_of_row (C:=Tryz.checked) (s:=OpenSpec.ofChange Rows.indexBackSpec) own started (by kernel_rfl) Tryz.func6
  (witness_row_at (enc:=enc) (C:=Tryz.checked) false (vO os) kv rfl (by kernel_rfl) (by kernel_rfl) (by kernel_rfl)
    (OpenSpec.preRow_of_cond 8 hx (by kernel_rfl) (fun k hk=>by cases hk) (by kernel_rfl) (tA os))) ?_
 intro W base args ds gs before oJ hW _ _ _ hL hsh _;refine H4 (n:=1198) (k:=20) (s:=(OpenSpec.ofChange Rows.indexBackSpec).at F) (tb:=4) okY Tryz.func6 (by kernel_rfl) (by kernel_rfl) (by kernel_rfl) Qa (by kernel_rfl) wi (by kernel_rfl) (by kernel_rfl) rfl (fun xs hx=>?_) (gd_of hL hsh)
  (fun es he hr=>Bm he hr) oJ hW
 match xs,hx with
 |[a],_=>rfl
def Dq:Tryz.prog.inPlace 6=Rows.indexBackRow.inPlace:=by kernel_rfl
def Dr:Tryz.prog.unfollowed 6=Rows.indexBackRow.unfollowed:=by kernel_rfl
def Ds:Tryz.prog.recurses 6=Rows.indexBackRow.recurses:=by kernel_rfl
def Dt:Tryz.prog.varsNamed 6=Rows.indexBackRow.named:=by kernel_rfl
def vt:joinedFacts Tryz.prog 6 Tryz.f6 (OpenSpec.ofChange Rows.indexBackSpec).bare Rows.indexBackRow=true:=by
 unfold joinedFacts;rw[Dq,Dr,Ds,Dt]
 kernel_rfl
def AF:Rows.IndexBackSaid:=
 OpenClaim.holds_of_cond 6 Tryz.f6 rfl rfl rfl rfl rfl rfl rfl ⟨rfl,rfl,rfl,rfl,rfl⟩ rfl rfl rfl rfl rfl (by kernel_rfl) Tryz.func6 vt
  (of_decide_eq_true (by kernel_rfl)) (by unfold Func.isWrapper;first|(rw[if_pos (by decide+kernel)];kernel_rfl)|(rw[if_neg (by decide+kernel)];exact⟨rfl,rfl⟩))
  (fun os started H enc _ F=>by rw[OpenClaim.pre_eq_preRow];exact vP os started H enc F)
def xG (f:FuncId)(fn:Func)(hf:Tryz.pinned.checked.prog.funcNamed "linchpin/linchpinlaw14.IndexBack" =some f)(hfn:Tryz.pinned.checked.prog.funcs[f]? =some fn):
  false=Tryz.pinned.checked.prog.looks []/\∀(j:Nat) t,fn.params[j]? =some t->Tryz.pinned.checked.prog.wantsStandIn t=false:=by
 obtain rfl:f=6:=Option.some.inj ((show Tryz.prog.funcNamed "linchpin/linchpinlaw14.IndexBack" =some 6 by kernel_rfl).symm.trans hf) |>.symm
 obtain rfl:fn=Tryz.f6:=(Option.some.inj (Tryz.func6.symm.trans hfn)).symm;refine⟨by kernel_rfl,fun j t ht=>?_⟩;have hall:(Tryz.f6.params.toList.all fun t=>!Tryz.prog.wantsStandIn t)=true:=by kernel_rfl
 have:=List.all_eq_true.1 hall t (by simpa using Array.mem_of_getElem? ht);show Tryz.prog.wantsStandIn t=false;simpa using this
theorem card_indexBack:Rows.IndexBackCardSaid:=
 Claim7.holds_tied_plain_at .later [] _ _ _ _ AF (fun _ h=>by cases h) (by kernel_rfl) (fun _ h=>by cases h) indexBack_row_tie rfl ⟨rfl,rfl⟩ (by kernel_rfl) rfl xG (by kernel_rfl)
end Go.Proofs.YtgnjlompgjhaaaaGreatDoor
end
#print axioms Go.Proofs.YtgnjlompgjhaaaaGreatDoor.card_indexBack
