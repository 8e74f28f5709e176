/- Pins and holds that do not rise are told where they stand. -/
import Derived.Carry
import Derived.ChangeArms
import Derived.ChangeSame
import Derived.Deep.DeepHandedRow
import Derived.Lib.LaidTab
import Derived.OpenShut
import Derived.RowKit
import Derived.Test.YtfijeeijkndliaaGreatDoorCards
import Derived.Test.YtfijeeijkndliaaGreatDoorTie
import Derived.WalkKit
import Derived.WideKeyArgs
import Derived.WideMake
import Derived.WideShapes
import Derived.Test.YtfijeeijkndliaaGreatDoorP09
set_option linter.all false
set_option maxRecDepth 4000
namespace Go.Abs
section
open Go.Proofs Go.Shelf Go.RowKit
section
variable [cP] {P:Program} {ν:List (Nat×Nat)} {cj:List Nat} {Y:Ctx} {x:X}
def CI {m:List (Nat×bp)}{l:Nat}{t:List UInt8}{v:Value}(hs:eR ν x (look m))(hb:qf m l t)(hv:RD ν x v (.ptr l 2 0 0)):
  ∃b tot u w,v=.pointer (some ⟨b,0,none⟩)/\x.β l=some (b,0,tot)/\¬x.I b/\x.w.heap[b]? =some (p0 b u w cP.tB)/\kG cP.tU x.w w t/\
   (w.ownBlock=none/\eU m l=m\/∃l2 g t2,w=.slice (some ⟨g,0,none⟩) t.length t2/\x.β l2=some (g,0,t2)/\¬x.I g/\look m l2=some (.row t)/\l2≠l/\eU m l=cd m l2):=by
 cases hv with
 |ptr _ _ _ _ b base tot at_ hβ hat=>
  rcases hb with⟨u,h1,rfl⟩|⟨l2,u,h1,h2⟩
  .obtain⟨o1,rfl,w,o2,_,rfl⟩:=hs.own l _ b base tot h1 hβ;simp only[Nat.zero_mul,Nat.add_zero]at hat;subst hat;exact⟨b,tot,u,_,rfl,hβ,o1,o2,.inl ⟨rfl,rfl⟩,.inl ⟨rfl,by simp only[eU,h1]⟩⟩
  .obtain⟨o1,rfl,w,o2,g,t2,rfl,o3,o4⟩:=hs.own l _ b base tot h1 hβ;simp only[Nat.zero_mul,Nat.add_zero]at hat;subst hat;obtain⟨p1,_,c,p2,p3,p4,p5,p6⟩:=hs.own l2 _ g 0 t2 h2 o4;have hne:l2≠l:=by rintro rfl;rw[h1]at h2;cases h2
   exact⟨b,tot,u,_,rfl,hβ,o1,o2,.inr ⟨g,t2,c,rfl,p2,p3,p4,p5,p6⟩,.inr ⟨l2,g,t2,rfl,o4,p1,h2,hne,by simp only[eU,h1]⟩⟩
def yX {st:St}{l:Nat}{t s:List UInt8}{b tot:Nat}{w:Value}{w':World}(hs:eR ν x (look st.m))(hf:eP st x)(hlive:look st.m l≠none)(hl:l<st.nx)
  (hβ:x.β l=some (b,0,tot)) (hI:¬x.I b)
  (hrow:w.ownBlock=none/\eU st.m l=st.m\/∃l2 g t2,w=.slice (some ⟨g,0,none⟩) t.length t2/\x.β l2=some (g,0,t2)/\¬x.I g/\look st.m l2=some (.row t)/\l2≠l/\eU st.m l=cd st.m l2)
  (hw:At cP.tB cP.tU b w.ownBlock s x.w w'):
  ∃x':X,x'.w=w'/\Step x x'/\eR ν x' (look (oe st.m l st.nx s))/\eP ⟨st.nx+1,oe st.m l st.nx s⟩ x':=by
 obtain⟨g',t',h1,h2,h3,h4,h5,k1,k2,k3,k4,k5⟩:=hw;have hn:=hf.β st.nx (aF _)

 have hg:∀g,w.ownBlock=some g->∃l2 t2,x.β l2=some (g,0,t2)/\¬x.I g/\look st.m l2=some (.row t)/\l2≠l/\eU st.m l=cd st.m l2:=by
  intro g hg;rcases hrow with⟨h,_⟩|⟨l2,g0,t2,rfl,q⟩
  .rw[h]at hg;cases hg
  .obtain rfl:=br hg;exact⟨l2,t2,q⟩
 have hlook:∀l' blk,l'≠l->look (eU st.m l) l'=some blk->look st.m l'=some blk/\∀g,w.ownBlock=some g->∀p,x.β l'=some p->p.1≠g:=by
  intro l' blk hl' hk;rcases hrow with⟨h,e⟩|⟨l2,g0,t2,rfl,q1,q2,q3,q4,e⟩
  .rw[e]at hk;exact⟨hk,fun g hg=>by rw[h]at hg;cases hg⟩
  .rw[e,eX]at hk;split at hk
   .cases hk
   .rename_i hne;refine⟨hk,fun g hg p hp e=>?_⟩;obtain rfl:=br hg;obtain⟨b',base',tot'⟩:=p;simp only at e;subst e;exact hne (hs.inj l' l2 _ _ _ _ _ (by rw[hk];simp) (by rw[q3];simp) hp q1)
 have hbg:∀l' p,x.β l'=some p->p.1<x.w.heap.size:=fun l' ⟨b',base',tot'⟩ hp=>hs.dS l' b' base' tot' hp
 have hkeep:∀k,k<x.w.heap.size->k≠b->some k≠w.ownBlock->w'.heap[k]? =x.w.heap[k]? :=k5
 let x':X:=⟨w',x.I,dN x.β st.nx (g',0,t')⟩
 have hst:Step x x':=by
  refine⟨k1,k2,k3,k4,fun _ h=>h,fun k hk=>hkeep k (hs.imm k hk) (fun e=>hI (e▸hk)) (fun e=>?_),fun l' p hp=>?_,fun k hk hn'=>hkeep k hk (fun e=>hn' l _ hβ e.symm) (fun e=>?_),fun _ h=>.inl h,fun l' p hp=>?_⟩
  .obtain⟨l2,t2,q1,q2,_⟩:=hg k e.symm;exact q2 hk
  .have:l'≠st.nx:=fun e=>by rw[e,hn]at hp;cases hp
   simp[x',dN,this,hp]
  .obtain⟨l2,t2,q1,_⟩:=hg k e.symm;exact hn' l2 _ q1 rfl
  .by_cases e1:l'=st.nx
   .simp only[x',dN,e1,aP,aL]at hp;subst hp;rcases h3 with h3|h3
    .obtain⟨l2,t2,q1,_⟩:=hg g' h3;exact .inr (.inr ⟨l2,_,q1,rfl⟩)
    .exact .inr (.inl h3)
   .simp only[x',dN,e1,aM]at hp;exact .inl hp
 have hle:=hst.le;have hlm:∀l',look (oe st.m l st.nx s) l'=if l'=st.nx then some (.row s)else if l'=l then some (.bld (some st.nx) s.length true)else look (eU st.m l) l':=by
  intro l';simp only[oe,look];by_cases e:l'=st.nx
  .rw[aw e.symm,aw e]
  .rw[aj (fun h=>e h.symm),aj e,bU]
 have hfr:∀l' p,l'≠st.nx->x.β l'=some p->l'≠l->look (eU st.m l) l'≠none->p.1≠g':=by
  intro l' p hl' hp hne hk e;cases hq:look (eU st.m l) l' with
  |none=>exact hk hq
  |some blk=>
   rcases h3 with h3|h3
   .exact(hlook l' blk hne hq).2 g' h3 p hp e
   .have:=hbg l' p hp;omega
 refine⟨x',rfl,hst,⟨fun l' blk b' base' tot' e1 e2=>?_,fun l1 l2 b' base1 tot1 base2 tot2 e1 e2 e3 e4=>?_,fun k hk=>eC (hs.imm k hk) k4,fun l' b' base' tot' e=>?_,oC hle hs.gd⟩,⟨fun l' hl'=>?_,fun l' hl'=>?_⟩⟩
 .rw[hlm]at e1;by_cases c1:l'=st.nx
  .rw[aw c1]at e1;simp only[x',dN,aw c1,aL,dn]at e2;obtain⟨rfl,rfl,rfl⟩:=e2;obtain rfl:=br e1;refine⟨fun h=>?_,rfl, ?_⟩
   .rcases h3 with h3|h3
    .obtain⟨l2,t2,_,q2,_⟩:=hg g' h3;exact q2 h
    .have:=hs.imm g' h;omega
   .rcases h2 with⟨h2,_⟩|⟨g2,t2,c,h2,r⟩
    .cases h2
    .simp only[Value.slice.injEq,aL,Addr.mk.injEq]at h2;obtain⟨⟨rfl,_⟩,_,rfl⟩:=h2;exact⟨c,r⟩
  .rw[aj c1]at e1;simp only[x',dN,aj c1]at e2;by_cases c2:l'=l
   .subst c2;rw[aw rfl]at e1;rw[hβ]at e2;simp only[aL,dn]at e2;obtain⟨rfl,rfl,rfl⟩:=e2;obtain rfl:=br e1;refine⟨hI,rfl,_,h1,g',t',rfl, ?_,by simp[x',dN]⟩;rcases h2 with⟨h2,_⟩|⟨g2,t2,c,h2,_,_,_,r,_⟩
    .cases h2
    .simp only[Value.slice.injEq]at h2;obtain⟨_,_,rfl⟩:=h2;exact r
   .rw[aj c2]at e1;obtain⟨q1,q2⟩:=hlook l' blk c2 e1;obtain⟨o1,o2⟩:=hs.own l' blk b' base' tot' q1 e2;refine⟨o1,o2.mono hle (hkeep b' (hs.dS _ _ _ _ e2) (fun e=>?_) (fun e=>q2 b' e.symm _ e2 rfl))⟩;subst e;exact c2 (hs.inj l' l _ _ _ _ _ (by rw[q1];simp) hlive e2 hβ)
 .rw[hlm]at e1 e2;by_cases c1:l1=st.nx
  .by_cases c2:l2=st.nx
   .rw[c1,c2]
   .exfalso;rw[aj c2]at e2;simp only[x',dN,aw c1,aL,dn]at e3;simp only[x',dN,aj c2]at e4;obtain⟨rfl,_⟩:=e3;by_cases c3:l2=l
    .subst c3;rw[hβ]at e4;simp only[aL,dn]at e4;exact h5 e4.1.symm
    .rw[aj c3]at e2;exact hfr l2 _ c2 e4 c3 e2 rfl
  .rw[aj c1]at e1;simp only[x',dN,aj c1]at e3;by_cases c2:l2=st.nx
   .exfalso;simp only[x',dN,aw c2,aL,dn]at e4;obtain⟨rfl,_⟩:=e4;by_cases c3:l1=l
    .subst c3;rw[hβ]at e3;simp only[aL,dn]at e3;exact h5 e3.1.symm
    .rw[aj c3]at e1;exact hfr l1 _ c1 e3 c3 e1 rfl
   .rw[aj c2]at e2;simp only[x',dN,aj c2]at e4;have live:∀l',(if l'=l then some (bp.bld (some st.nx) s.length true)else look (eU st.m l) l')≠none->look st.m l'≠none:=by
     intro l' h;by_cases c:l'=l
     .rw[c];exact hlive
     .rw[aj c]at h;cases hq:look (eU st.m l) l' with
      |none=>exact absurd hq h
      |some blk=>rw[(hlook l' blk c hq).1];simp
    exact hs.inj l1 l2 b' base1 tot1 base2 tot2 (live l1 e1) (live l2 e2) e3 e4
 .by_cases c1:l'=st.nx
  .simp only[x',dN,aw c1,aL,dn]at e;obtain⟨rfl,_⟩:=e;exact h4
  .simp only[x',dN,aj c1]at e;exact eC (hs.dS _ _ _ _ e) k4
 .have hl':st.nx+1<=l':=hl';simp only[x',dN,aj (show ¬l'=st.nx by omega)];exact hf.β l' ae
 .show l'<st.nx+1;simp only[hlm]at hl';by_cases c1:l'=st.nx
  .omega
  .rw[aj c1]at hl';by_cases c2:l'=l
   .omega
   .rw[aj c2]at hl';cases hq:look (eU st.m l) l' with
    |none=>exact absurd hq hl'
    |some blk=>have:=hf.m l' (by rw[(hlook l' blk c2 hq).1];simp);omega
def qf.live {m:List (Nat×bp)}{l:Nat}{t:List UInt8}(h:qf m l t):look m l≠none:=by
 rcases h with⟨u,h,_⟩|⟨l2,u,h,_⟩<;>rw[h]<;>simp
variable {J:Ren}
def IB {args:Array Value}(h:args.size=2):args=#[args.getD 0 undef,args.getD 1 undef]:=by
 apply Array.ext
 .simpa using h
 .intro i h1 h2
  match i,h1 with
  |0,h1=>simp[Array.getD,h1]
  |1,h1=>simp[Array.getD,h1]
  |i+2,h1=>omega
def Ps {args:Array Value}(h:args.size=1):args=#[args.getD 0 undef]:=by
 apply Array.ext
 .simpa using h
 .intro i h1 h2
  match i,h1 with
  |0,h1=>simp[Array.getD,h1]
  |i+1,h1=>omega
def Mq (hB:cP.tB=J.t 72)(hU:cP.tU=J.t 5)(L:Lays.n166 P J)(X':Builder.Extra P J)(hen:∀args w,(callFunc (J.f 166) args).run P w=.ok (.enter (J.f 166) args) w):Iw P ν Y cj Tz (J.f 166):=by
 rintro ds st K ⟨s,l,t,rfl,hb,hl,h0,hle,hK⟩ hok x args hl2 hargs hs hf;obtain⟨b,tot,u,w,e0,hβ,hI,hh,hv,hrow⟩:=CI hs hb (hargs 0 aJ);have h1:=hargs 1 aJ;simp only[List.getD_cons_succ,fY]at h1;obtain⟨e1,hm⟩:=h1.gI;rw[hB]at hh;rw[hU]at hv;refine .inr ⟨J.f 166,args,hen args x.w, ?_⟩;rw[IB (args:=args) (by simpa using hl2),e0,e1];refine(tZ L X' hh hv h0 hm hle).mono ?_;rintro e w' ⟨⟨r,rfl⟩,hw⟩;rw[<-hB,<-hU]at hw;obtain⟨x',q1,q2,q3,q4⟩:=yX hs hf hb.live hl hβ hI hrow hw;exact⟨x',q1,.any,_,hK,q2,.any _,q3,q4⟩
def Mp (hB:cP.tB=J.t 72)(hU:cP.tU=J.t 5)(L:Lays.n167 P J)(X':Builder.Extra P J)(hen:∀args w,(callFunc (J.f 167) args).run P w=.ok (.enter (J.f 167) args) w):Iw P ν Y cj Ty (J.f 167):=by
 rintro ds st K ⟨c,l,t,rfl,hb,hl,h0,hle,hK⟩ hok x args hl2 hargs hs hf;obtain⟨b,tot,u,w,e0,hβ,hI,hh,hv,hrow⟩:=CI hs hb (hargs 0 aJ);have h1:=hargs 1 aJ;simp only[List.getD_cons_succ,fY]at h1;have e1:=h1.c9;rw[hB]at hh;rw[hU]at hv;refine .inr ⟨J.f 167,args,hen args x.w, ?_⟩;rw[IB (args:=args) (by simpa using hl2),e0,e1];refine(xg L X' hh hv hle).mono ?_;rintro e w' ⟨⟨r,rfl⟩,hw⟩;rw[<-hB,<-hU]at hw;obtain⟨x',q1,q2,q3,q4⟩:=yX hs hf hb.live hl hβ hI hrow hw;exact⟨x',q1,.any,_,hK,q2,.any _,q3,q4⟩
def Mo (hB:cP.tB=J.t 72)(hU:cP.tU=J.t 5)(L:Lays.n169 P J)(X':Builder.Extra P J)(hen:∀args w,(callFunc (J.f 169) args).run P w=.ok (.enter (J.f 169) args) w):Iw P ν Y cj Tx (J.f 169):=by
 rintro ds st K ⟨l,t,rfl,hb,h0,hK⟩ hok x args hl2 hargs hs hf;obtain⟨b,tot,u,w,e0,hβ,hI,hh,hv,hrow⟩:=CI hs hb (hargs 0 aJ);rcases hrow with⟨hn,_⟩|⟨l2,g,t2,rfl,q1,q2,q3,q4,q5⟩
 .exfalso;rcases hv with⟨_,h⟩|⟨g,t',c,rfl,_⟩
  .exact h0 h
  .cases hn
 rw[hB]at hh;rw[hU]at hv;have htm:t.length<=maxLen:=by
  rcases hv with⟨_,rfl⟩|⟨g',t',c,h1,_,_,h4,h5,_⟩
  .exact absurd rfl h0
  .omega
 refine .inr ⟨J.f 169,args,hen args x.w, ?_⟩;rw[Ps (args:=args) (by simpa using hl2),e0];refine(CJ L X' hh hv h0).mono ?_;rintro e w' ⟨rfl,k1,k2,k3,k4,k5⟩;have hkeep:∀k,(∀l' p,look (cd (eU st.m l) l) l'≠none->x.β l'=some p->p.1=k->False)->True:=fun _ _=>trivial
 have hst:Step x ⟨w',x.I,x.β⟩:=⟨k1,k2,k3,Nat.le_of_eq k4.symm,fun _ h=>h,fun k hk=>k5 k (fun e=>q2 (e▸hk)),fun _ _ h=>h,fun k hk hn=>k5 k (fun e=>hn l2 _ q1 e.symm),fun _ h=>.inl h,fun _ _ h=>.inl h⟩;have hlm:∀l',look (cd (eU st.m l) l) l'=if l'=l then none else if l'=l2 then none else look st.m l':=fun l'=>by rw[eX,q5,eX]
 refine⟨⟨w',x.I,x.β⟩,rfl,.str t,_,hK,hst,.str t htm,⟨fun l' blk b' base' tot' e1 e2=>?_,fun l1 l3 b' base1 tot1 base2 tot2 e1 e2 e3 e4=>?_,fun k hk=>by show k<w'.heap.size;rw[k4];exact hs.imm k hk,fun l' b' base' tot' e=>by show b'<w'.heap.size;rw[k4];exact hs.dS _ _ _ _ e,oC hst.le hs.gd⟩,⟨hf.β,fun l' hl'=>?_⟩⟩
 .rw[hlm]at e1;split at e1
  .cases e1
  split at e1
  .cases e1
  rename_i c1 c2;obtain⟨o1,o2⟩:=hs.own l' blk b' base' tot' e1 e2;refine⟨o1,o2.mono hst.le (k5 b' (fun e=>c2 ?_))⟩;subst e;exact hs.inj l' l2 _ _ _ _ _ (by rw[e1];simp) (by rw[q3];simp) e2 q1
 .have live:∀l',look (cd (eU st.m l) l) l'≠none->look st.m l'≠none:=by
   intro l' h;rw[hlm]at h;split at h
   .exact absurd rfl h
   split at h
   .exact absurd rfl h
   .exact h
  exact hs.inj l1 l3 b' base1 tot1 base2 tot2 (live l1 e1) (live l3 e2) e3 e4
 .simp only[hlm]at hl';split at hl'
  .exact absurd rfl hl'
  split at hl'
  .exact absurd rfl hl'
  .exact hf.m l' hl'
end
end
section
open Go.Proofs
def Ke:Nat:=3
def tJ:Tryz.prog.globalNamed "internal/strconv.uint64pow10" =some Ke:=jt
instance Tt:cP where
 tB:=130
 tU:=5
 gd x:=(x.I 0/\∃m,x.w.cell? ⟨0,0,none⟩=some (.int .i64 m))/\x.I Ke/\Lib.TabIs Tryz.prog x.w "internal/strconv.uint64pow10" .u64 Lib.pow10Tab
 le x x' hI hk h:=by
  obtain⟨⟨h1,m,h2⟩,h3,h4⟩:=h;refine⟨⟨hI _ h1,m,gW (hk _ h1) h2⟩,hI _ h3, ?_⟩;unfold Lib.TabIs World.var? at h4⊢;rw[tJ]at h4⊢;simp only[Option.bind_some]at h4⊢;rw[hk _ h3];exact h4
def pG {fid:Nat}{x:X}{args:Array Value}{d:D}(hn:(Tryz.prog.funcs[fid]?).map (fun f=>f.name== "runtime.NumGoroutine" ||!f.body.isSome)=some false)
  (himm:∀b,x.I b->b<x.w.heap.size)
  (hc:Calls Tryz.prog fid args x.w fun e w'=>∃v,e=.returned v/\fh x.w w'/\∃I:Nat->Prop,(∀b,x.I b->I b)/\(∀b,I b->x.I b\/x.w.heap.size<=b/\b<w'.heap.size)/\RD qO ⟨w',I,x.β⟩ v d):
  ie Tryz.prog x (fun v x'=>kF x x'/\RD qO x' v d) ((callFunc fid args).run Tryz.prog x.w):=by
 cases h:Tryz.prog.funcs[fid]? with
 |none=>rw[h]at hn;cases hn
 |some fn=>
  rw[h]at hn;have h2:(fn.name== "runtime.NumGoroutine" ||!fn.body.isSome)=false:=br hn;rw[dT,cL]at h2;refine .inr ⟨fid,args,gQ h h2.1 h2.2 args x.w,Calls.mono hc fun e w' he=>?_⟩;obtain⟨v,rfl,hg,I,h3,h4,hr⟩:=he;refine⟨⟨w',I,x.β⟩,rfl,⟨hg,h3,fun b hb=>(h4 b hb).imp id And.left,fun b hb=>?_,rfl⟩,hr⟩;rcases h4 b hb with h5|h5
  .exact eC (himm b h5) hg.size
  .exact h5.2
def CV (w:World):∀n,fh w (w.drewN n)
 |n=>⟨rfl,rfl,rfl,aF _,fun _ _=>rfl⟩
def gY {fid:Nat}{x:X}{args:Array Value}{d:D}{v:Value}(hn:(Tryz.prog.funcs[fid]?).map (fun f=>f.name== "runtime.NumGoroutine" ||!f.body.isSome)=some false)
  (himm:∀b,x.I b->b<x.w.heap.size) (hc:Calls Tryz.prog fid args x.w fun e w'=>e=.returned v/\fh x.w w') (hr:∀x',RD qO x' v d):
  ie Tryz.prog x (fun v x'=>kF x x'/\RD qO x' v d) ((callFunc fid args).run Tryz.prog x.w):=
 pG hn himm (Calls.mono hc fun e w' ⟨h1,h2⟩=>⟨v,h1,h2,x.I,fun _ h=>h,fun _ h=>.inl h,hr _⟩)
def dV {x:X}{v:Value}{s:ak}(h:RD qO x v (.str s)):v=.string ⟨⟨s⟩⟩/\s.length<=maxLen:=by
 cases h with
 |str s h=>exact⟨rfl,h⟩
def uF {x:X}{v:Value}{k:IntKind}{n:Int}(h:RD qO x v (.int k n)):v=.int k n:=by
 cases h with
 |int k n=>rfl
def tq {args:Array Value}(h:args.size=2):args=#[args.getD 0 undef,args.getD 1 undef]:=by
 obtain⟨l⟩:=args
 match l,h with
 |[a,b],_=>rfl
def SN {args:Array Value}(h:args.size=3):args=#[args.getD 0 undef,args.getD 1 undef,args.getD 2 undef]:=by
 obtain⟨l⟩:=args
 match l,h with
 |[a,b,c],_=>rfl
def N2 {args:Array Value}(h:args.size=1):args=#[args.getD 0 undef]:=by
 obtain⟨l⟩:=args
 match l,h with
 |[a],_=>rfl
def E491:Ow 74 491:=by
 refine cg rfl ?_;rintro s b hp hok x args hl hargs hnl himm ⟨⟨_,m,hm⟩,_⟩;obtain⟨h0,hs⟩:=dV (hargs 0 aJ);obtain⟨h1,_⟩:=dV (hargs 1 aJ);rw[tq hl,h0,h1];refine gY jt himm (Calls.mono (Tryz.strings_Contains ⟨⟨s⟩⟩ ⟨⟨[b]⟩⟩ m x.w (by show s.length<_;omega) hm) fun e w' ⟨h1,h2⟩=>⟨h1,h2▸fh.refl _⟩) (fun x'=>?_);show RD qO x' (.bool (Lib.contains s [b])) _;rw[contains_eq];exact .bool _
def EH {x:X}{a b:Value}{d e:D}(h1:RD qO x a d)(h2:RD qO x b e):RD qO x (.tuple #[a,b]) (.tup [d,e]):=by
 refine .tup _ _ rfl fun i hi=>?_
 match i,hi with
 |0,_=>exact h1
 |1,_=>exact h2
def Nr {x:X}{a b c:Value}{d e f:D}(h1:RD qO x a d)(h2:RD qO x b e)(h3:RD qO x c f):RD qO x (.tuple #[a,b,c]) (.tup [d,e,f]):=by
 refine .tup _ _ rfl fun i hi=>?_
 match i,hi with
 |0,_=>exact h1
 |1,_=>exact h2
 |2,_=>exact h3
def qV {x:X}(s:ak)(h:s.length<=4294967296):RD qO x (.string ⟨s.toArray⟩) (.str s):=.str s (by simp only[maxLen];omega)
def Gy (s:ak)(b:UInt8):(fO s b).2.1.length<=s.length:=by
 unfold fO;split<;>simp
def E487:Ow 67 487:=by
 refine cg rfl ?_;rintro s b hp hok x args hl hargs hnl himm ⟨⟨_,m,hm⟩,_⟩;obtain⟨h0,hs⟩:=dV (hargs 0 aJ);obtain⟨h1,_⟩:=dV (hargs 1 aJ);rw[tq hl,h0,h1];refine gY jt himm (Calls.mono (Tryz.strings_Cut ⟨⟨s⟩⟩ ⟨⟨[b]⟩⟩ m x.w (by show s.length<_;omega) hm) fun e w' ⟨h1,n,h2⟩=>⟨h1,h2▸CV _ n⟩) (fun x'=>?_);have hc:Lib.cut (⟨⟨s⟩⟩:ByteArray).data.toList (⟨⟨[b]⟩⟩:ByteArray).data.toList=fO s b:=Pw s b;rw[hc];have:=(IX s b).1;have:=Gy s b;exact Nr (qV _ ae) (qV _ ae) (.bool _)
def E254:Ow 155 254:=by
 refine cg rfl ?_;rintro s p hp hp2 hok x args hl hargs hnl himm _;obtain⟨h0,hs⟩:=dV (hargs 0 aJ);obtain⟨h1,_⟩:=dV (hargs 1 aJ);rw[tq hl,h0,h1];refine gY jt himm (Calls.mono (Tryz.strings_CutPrefix ⟨⟨s⟩⟩ ⟨⟨p⟩⟩ x.w) fun e w' ⟨h1,h2⟩=>⟨h1,h2▸fh.refl _⟩) (fun x'=>?_);have hc:(Lib.trimPrefix s p,Lib.hasPrefix s p)=eH s p:=GA s p;have:=CP s p;rw[<-hc]at this⊢;have h9:(Lib.trimPrefix s p).length<=s.length:=this;exact EH (qV (Lib.trimPrefix s p) ae) (.bool _)
def E336:Ow 194 336:=by
 refine cg rfl ?_;rintro n hp hok x args hl hargs hnl himm ⟨_,_,ht⟩;have h0:=uF (hargs 0 aJ);rw[N2 hl,h0];refine gY jt himm (Calls.mono (Tryz.strconv_Itoa n ae ae x.w ht) fun e w' ⟨h1,k,os,h2⟩=>⟨h1, ?_⟩) (fun x'=>?_)
 .subst h2;refine⟨rfl,rfl,rfl,by simp[Sort.grow],fun b hb=>?_⟩;show(x.w.heap++os)[b]? =x.w.heap[b]?;rw[Array.getElem?_append,aw hb]
 .rw[MF hp.1];have:=fC 4 n.toNat ae ae;exact qV _ ae
def nH {fid:Nat}{x:X}{args:Array Value}{ts:List ByteArray}{cap:Nat}{ty:TypeId}{L:List ak}(hn:(Tryz.prog.funcs[fid]?).map (fun f=>f.name== "runtime.NumGoroutine" ||!f.body.isSome)=some false)(himm:∀b,x.I b->b<x.w.heap.size)
  (hL:ts.map (fun t=>t.data.toList)=L) (hcap:ts.length<=cap) (hm:cap<=maxLen) (hs:∀t∈L,t.length<=maxLen)
  (hc:Calls Tryz.prog fid args x.w fun e w'=>e=.returned (.slice (some ⟨x.w.heap.size,0,none⟩) ts.length cap)/\w'=x.w.alloc (.cells (Lib.cellsOf ts cap) ty)):
  ie Tryz.prog x (fun v x'=>kF x x'/\RD qO x' v (.sl 1 (L.map D.str))) ((callFunc fid args).run Tryz.prog x.w):=by
 refine pG hn himm (Calls.mono hc fun e w' ⟨h1,h2⟩=>?_);subst h2;refine⟨_,h1,fh.alloc _ _,fun q=>x.I q\/q=x.w.heap.size,fun _ h=>.inl h,fun q hq=>hq.imp id fun h=>⟨ae,by rw[h];show _<(x.w.heap.push _).size;simp⟩, ?_⟩;have hsl:L.length=ts.length:=by rw[<-hL];simp
 have hget:∀i,i<ts.length->(L.map D.str).getD i .any=.str (ts.getD i default).data.toList:=fun i hi=>by
  rw[<-hL];simp[hi]
 refine .sl _ x.w.heap.size 0 ts.length cap 1 _ (fun i _=>.string (ts.getD i default)) (by simp[hsl]) (.inr ⟨rfl,.inr rfl⟩) hcap hm (fun i hi=>by rw[hget i hi];rfl) (fun i hi=>by rw[hget i hi];rfl) (fun i j hi hj=>?_) (fun i j hi hj=>rfl) (fun i j hi hj=>?_)
 .obtain rfl:j=0:=ae;have:=dh x.w (.cells (Lib.cellsOf ts cap) ty);refine(cell_of_heap (c:=Lib.cellsOf ts cap) (T:=ty) (fr:=(0,0)) this (by rw[Lib.cellsOf_size hcap];omega)).trans ?_;have hi2:i<(ts.map Value.string).length:=by simpa using hi
  simp only[Lib.cellsOf];simp[hi,List.getElem?_append_left hi2]
 .obtain rfl:j=0:=ae;rw[hget i hi];show RD qO _ (.string (ts.getD i default)) (.str (ts.getD i default).data.toList);generalize hq:ts.getD i default=q;have hmem:q.data.toList∈L:=by
   rw[<-hL];refine eW.2 ⟨q, ?_,rfl⟩;rw[<-hq];simp[hi]
  have:=hs _ hmem;obtain⟨⟨ql⟩⟩:=q;exact .str ql this
def yH {x:X}{s p:ak}{m:Int}{L:List ak}(hL:∀ts,ts=Lib.splitB ⟨⟨p⟩⟩ 0 (Lib.countB ⟨⟨s⟩⟩ ⟨⟨p⟩⟩) ⟨⟨s⟩⟩->ts.map (fun t=>t.data.toList)=L)(himm:∀b,x.I b->b<x.w.heap.size)(h1:1<=p.length)(hs:s.length<=1048576)(hl:L.length<=1048577)(hb:∀t∈L,t.length<=1048576)
  (hm:x.w.cell? ⟨0,0,none⟩=some (.int .i64 m)):ie Tryz.prog x (fun v x'=>kF x x'/\RD qO x' v (.sl 1 (L.map D.str))) ((callFunc 57 #[.string ⟨⟨s⟩⟩,.string ⟨⟨p⟩⟩]).run Tryz.prog x.w):=by
 have h2:1<=(⟨⟨p⟩⟩:ByteArray).size:=h1;have hlen:=Lib.splitB_all ⟨⟨p⟩⟩ h2 0 _ (⟨⟨s⟩⟩:ByteArray) rfl;have hc:=Tryz.strings_Split ⟨⟨s⟩⟩ ⟨⟨p⟩⟩ m x.w (by show s.length<_;omega) hm h2;rw[<-hlen,<-Lib.cellsOf_full]at hc;have hL2:=hL _ rfl;have hle:(Lib.splitB ⟨⟨p⟩⟩ 0 (Lib.countB ⟨⟨s⟩⟩ ⟨⟨p⟩⟩) ⟨⟨s⟩⟩).length<=maxLen:=by
  have:L.length=(Lib.splitB ⟨⟨p⟩⟩ 0 (Lib.countB ⟨⟨s⟩⟩ ⟨⟨p⟩⟩) ⟨⟨s⟩⟩).length:=by rw[<-hL2];simp
  simp only[maxLen];omega
 exact nH jt himm hL2 (aF _) hle (fun t ht=>by have:=hb t ht;simp only[maxLen];omega) hc
def tc:∀(s cur:ak),(a7 s cur).length<=s.length+1/\∀t∈a7 s cur,t.length<=cur.length+s.length
 |[],cur=>by simp[a7]
 |[c],cur=>by simp[a7]
 |c::d::r,cur=>by
  unfold a7;split
  .obtain⟨h1,h2⟩:=tc r [];refine⟨by simp only[aH];omega,fun t ht=>?_⟩;rcases cD.1 ht with rfl|ht
   .omega
   .have:=h2 t ht;simp only[aH,aO]at this⊢;omega
  .obtain⟨h1,h2⟩:=tc (d::r) (cur++[c]);refine⟨by simp only[aH]at h1⊢;omega,fun t ht=>?_⟩;have:=h2 t ht;simp only[bA,aH,aO]at this⊢;omega
def E124:Ow 57 124:=by
 refine cg rfl ⟨?_, ?_⟩
 .rintro s b hp hok x args hl hargs hnl himm ⟨⟨_,m,hm⟩,_⟩;obtain⟨h0,hs⟩:=dV (hargs 0 aJ);obtain⟨h1,_⟩:=dV (hargs 1 aJ);rw[tq hl,h0,h1];have:=dE s b.toNat;exact yH (fun ts e=>by rw[e];exact yC b _ (⟨⟨s⟩⟩:ByteArray) rfl) himm (aF 1) hp ae (fun t ht=>cC (dm s b.toNat ht) hp) hm
 .rintro s hp hok x args hl hargs hnl himm ⟨⟨_,m,hm⟩,_⟩;obtain⟨h0,hs⟩:=dV (hargs 0 aJ);obtain⟨h1,_⟩:=dV (hargs 1 aJ);rw[tq hl,h0,h1];obtain⟨q1,q2⟩:=tc s [];exact yH (fun ts e=>by rw[e];exact HV _ (⟨⟨s⟩⟩:ByteArray) rfl) himm aE hp ae (fun t ht=>by have:=q2 t ht;simp only[aO]at this;omega) hm
def L3 (n:Nat)(h:1<=n)(s:ak):(nX n (ai s 32)).length<=s.length+1/\∀t∈nX n (ai s 32),t.length<=s.length:=by
 have hl:=dE s 32;have hj:aR [32] (ai s 32)=s:=by
  have:=kV 32 s [];simpa[ai]using this
 unfold nX;split
 .exact⟨hl,fun t ht=>dm s 32 ht⟩
 .rename_i hn;refine⟨by simp only[bA,fW,aH,aO];omega,fun t ht=>?_⟩;rcases List.mem_append.1 ht with ht|ht
  .exact dm s 32 (lU ht)
  .rw[cT.1 ht];have h2:(aR [32] (ai s 32)).length=s.length:=by rw[hj]
   have h3:∀(l:List ak) (k:Nat),(aR [32] (l.drop k)).length<=(aR [32] l).length:=by
    intro l;induction l with
    |nil=>simp
    |cons a l ih=>
     intro k;cases k with
     |zero=>simp
     |succ k=>
      refine cC (ih k) ?_;cases l with
      |nil=>simp[aR]
      |cons b l=>rw[fQ [32] a (b::l) aJ];simp only[bA];omega
   have:=h3 (ai s 32) (n-1);omega
def E245:Ow 38 245:=by
 refine cg rfl ?_;rintro s n hp hn hok x args hl hargs hnl himm ⟨⟨_,m,hm⟩,_⟩;obtain⟨h0,hs⟩:=dV (hargs 0 aJ);obtain⟨h1,_⟩:=dV (hargs 1 aJ);have h2:=uF (hargs 2 aJ);rw[SN hl,h0,h1,h2];rcases hn with rfl|⟨hn1,hn2⟩
 .have hc:=DO Tryz.lays147 jt ⟨⟨s⟩⟩ ⟨⟨[32]⟩⟩ m x.w (by show s.length<_;omega) hm (aF 1);have hlen:=Lib.splitB_all ⟨⟨[32]⟩⟩ (aF 1) 0 _ (⟨⟨s⟩⟩:ByteArray) rfl;have hL:(Lib.splitB ⟨⟨[32]⟩⟩ 0 (Lib.countB ⟨⟨s⟩⟩ ⟨⟨[32]⟩⟩) ⟨⟨s⟩⟩).map (fun t=>t.data.toList)=iE (-1) s:=yC 32 _ (⟨⟨s⟩⟩:ByteArray) rfl;have hsl:=dE s 32;have hll:(iE (-1) s).length=(Lib.splitB ⟨⟨[32]⟩⟩ 0 (Lib.countB ⟨⟨s⟩⟩ ⟨⟨[32]⟩⟩) ⟨⟨s⟩⟩).length:=by rw[<-hL];simp
  have hw:iE (-1) s=ai s 32:=rfl;rw[hw]at hll;exact nH jt himm hL ae (by simp only[maxLen];omega) (fun t ht=>by have:=dm s 32 ht;simp only[maxLen];omega) hc
 .obtain⟨k,rfl⟩:∃k:Nat,n=k:=⟨n.toNat,ae⟩
  have hc:=Tryz.strings_SplitN ⟨⟨s⟩⟩ ⟨⟨[32]⟩⟩ k m x.w (by show s.length<_;omega) hm (aF 1) ae ae;have hle:=Lib.splitB_length_le ⟨⟨[32]⟩⟩ 0 (min k ((⟨⟨s⟩⟩:ByteArray).size+1) -1) ⟨⟨s⟩⟩;have hsz:(⟨⟨s⟩⟩:ByteArray).size=s.length:=rfl;obtain⟨q1,q2⟩:=L3 k ae s;refine nH jt himm (L:=iE (k:Int) s) ?_ ae (by simp only[maxLen];omega) (fun t ht=>?_) hc
  .rw[Lib.splitB_data];exact DV k ae s
  .have:iE (k:Int) s=nX k (ai s 32):=by unfold iE;rw[aj ae,Int.toNat_natCast]
   rw[this]at ht;have:=q2 t ht;simp only[maxLen];omega
def SO {args:Array Value}(h:args.size=4):args=#[args.getD 0 undef,args.getD 1 undef,args.getD 2 undef,args.getD 3 undef]:=by
 obtain⟨l⟩:=args
 match l,h with
 |[a,b,c,d],_=>rfl
def E331:Ow 66 331:=by
 refine cg rfl ?_;rintro s hp hok x args hl hargs hnl himm ⟨⟨_,m,hm⟩,_⟩;obtain⟨h0,hs⟩:=dV (hargs 0 aJ);obtain⟨h1,_⟩:=dV (hargs 1 aJ);have h2:=uF (hargs 2 aJ);have h3:=uF (hargs 3 aJ);rw[SO hl,h0,h1,h2,h3];have hle:=Lib.countB_le ⟨⟨[10]⟩⟩ (aF 1) (⟨⟨s⟩⟩:ByteArray).size ⟨⟨s⟩⟩ (aF _);have hlen:=Lib.splitB_all ⟨⟨[10]⟩⟩ (aF 1) 1 _ (⟨⟨s⟩⟩:ByteArray) rfl;have hc:=Any.strings_genSplit Tryz.lays221 jt ⟨⟨s⟩⟩ ⟨⟨[10]⟩⟩ 1 (-1) (Lib.countB ⟨⟨s⟩⟩ ⟨⟨[10]⟩⟩+1) m x.w (by show s.length<_;omega) hm (aF 1) (aF 1) aE aE (by rw[aw aE];omega);rw[Nat.add_sub_cancel]at hc;obtain⟨q1,q2⟩:=Nc s;have hL:=Iy _ (⟨⟨s⟩⟩:ByteArray) rfl;have hsz:(⟨⟨s⟩⟩:ByteArray).size=s.length:=rfl;exact nH jt himm hL ae (by simp only[maxLen];omega) (fun t ht=>by have:=q2 t ht;simp only[maxLen];omega) hc
def E244:Ow 37 244:=by
 refine cg rfl ?_;rintro s hp hok x args hl hargs hnl himm _;obtain⟨h0,hs⟩:=dV (hargs 0 aJ);obtain⟨h1,_⟩:=dV (hargs 1 aJ);rw[tq hl,h0,h1];refine gY jt himm (Calls.mono (Tryz.strings_CutSuffix ⟨⟨s⟩⟩ ⟨⟨[10]⟩⟩ x.w (by show s.length<=_;omega)) fun e w' ⟨h1,h2⟩=>⟨h1,h2▸fh.refl _⟩) (fun x'=>?_);have hc:(Lib.trimSuffix s [10],Lib.hasSuffix s [10])=eg s:=HX s;have:=wX s;rw[<-hc]at this⊢;have h9:(Lib.trimSuffix s [10]).length<=s.length:=this;exact EH (qV (Lib.trimSuffix s [10]) ae) (.bool _)
def E683:Ow 59 683:=by
 refine cg rfl ?_;rintro s b rfl hp hok x args hl hargs hnl himm _;obtain⟨h0,hs⟩:=dV (hargs 0 aJ);obtain⟨h1,_⟩:=dV (hargs 1 aJ);rw[tq hl,h0,h1];refine gY jt himm (Calls.mono (Tryz.strings_Trim_one ⟨⟨s⟩⟩ 32 aE x.w (by show s.length<=_;omega)) fun e w' ⟨h1,h2⟩=>⟨h1, ?_⟩) (fun x'=>?_)
 .rcases h2 with rfl|rfl
  .exact fh.refl _
  .exact⟨rfl,rfl,rfl,aF _,fun _ _=>rfl⟩
 .have:Lib.trimB (⟨⟨s⟩⟩:ByteArray).data.toList 32=gF s:=IJ s;rw[this];have hb:(gF s).length<=s.length:=by
   unfold gF;have h1:=px s;have h2:=px (rA s).reverse;simp only[List.length_reverse]at h2⊢;omega
  exact qV _ ae
def E469:Ow 131 469:=by
 refine cg rfl ?_;rintro l hp hok x args hl hargs hnl himm _;have h0:=hargs 0 aJ;rw[N2 hl];simp only[fY]at h0;generalize args.getD 0 undef=v0 at h0⊢;cases h0 with
 |sl a b off len cap k es c hlen ha hcap hm hk hn hc h1 h=>
  simp only[bz]at hlen;subst hlen;have fin:∀(e:Ending) (w':World) v' ty,e=.returned v'->w'.ownsRow x.w.heap.size ty 1 v' l.length (l.map fun t=>Value.string ⟨⟨t⟩⟩)->Go.RowKit.Below x.w.heap.size x.w w'->
    ∃v,e=.returned v/\fh x.w w'/\∃I:Nat->Prop,(∀b,x.I b->I b)/\(∀b,I b->x.I b\/x.w.heap.size<=b/\b<w'.heap.size)/\RD qO ⟨w',I,x.β⟩ v (.sl 1 (l.map D.str)):=by
   rintro e w' v' ty rfl ⟨hxl,ho⟩ hB;refine⟨v',rfl,⟨hB.os,hB.tape,hB.output,hB.size,hB.block⟩, ?_⟩;rcases ho with⟨rfl,hl0⟩|⟨g,cap',cur,rfl,hg,hh,hle,hml,hcs,htk⟩
   .have:l=[]:=tl.1 hl0;subst this;exact⟨x.I,fun _ h=>h,fun _ h=>.inl h,.sl none 0 0 0 0 1 [] (fun _ _=>.nilIface) rfl (.inl rfl) (aF _) (by simp[maxLen]) (fun i hi=>ae) (fun i hi=>ae) (fun i j hi=>ae) (fun i j hi=>ae) (fun i j hi=>ae)⟩
   .have hgl:g<w'.heap.size:=(Array.getElem?_eq_some_iff.1 hh).1;have hgt:∀i (hi:i<l.length),((l.map D.str).getD i .any)=.str l[i]:=fun i hi=>by simp[hi]
    refine⟨fun q=>x.I q\/q=g,fun _ h=>.inl h,fun q hq=>hq.imp id fun h=>by subst h;exact⟨hg,hgl⟩, ?_⟩;refine .sl _ g 0 l.length cap' 1 _ (fun i _=>.string ⟨⟨l.getD i []⟩⟩) aJ (.inr ⟨rfl,.inr rfl⟩) hle hml (fun i hi=>by rw[hgt i hi];rfl) (fun i hi=>by rw[hgt i hi];rfl) (fun i j hi hj=>?_) (fun _ _ _ _=>rfl) (fun i j hi hj=>?_)
    .obtain rfl:j=0:=ae;refine(cell_of_heap (c:=cur) (T:=ty) (fr:=(0,0)) hh ae).trans ?_;have e1:cur.toList[i]? =some (.string ⟨⟨l.getD i []⟩⟩):=by
      have e2:(cur.toList.take (l.length*1))[i]? =(l.map fun t=>Value.string ⟨⟨t⟩⟩)[i]? :=by rw[htk]
      rw[List.getElem?_take,aw ae]at e2;rw[e2];simp[hi]
     have e3:cur[i]? =some (.string ⟨⟨l.getD i []⟩⟩):=by rw[<-e1];simp
     rw[show(0+i*1+0:Nat)=i by omega,Array.getD_eq_getD_getElem?,e3];rfl
    .obtain rfl:j=0:=ae;rw[hgt i hi];have q2:=h i 0 hi ae;rw[hgt i hi]at q2;obtain⟨_,q3⟩:=dV q2;have:l.getD i []=l[i]:=by simp[hi]
     rw[this];exact .str _ q3
  rcases ha with he|⟨rfl,hI⟩
  .have hnil:l=[]:=by simpa using he
   subst hnil;cases a with
   |none=>exact gY jt himm (Calls.mono (Tryz.slices_Clone_string_nil 0 cap x.w) fun e w' ⟨h1,h2⟩=>⟨h1,h2▸fh.refl _⟩) (fun x'=>.sl none 0 0 0 0 1 [] (fun _ _=>.nilIface) rfl (.inl rfl) (aF _) (by simp[maxLen]) (fun i hi=>ae) (fun i hi=>ae) (fun i j hi=>ae) (fun i j hi=>ae) (fun i j hi=>ae))
   |some a=>exact pG jt himm (Calls.mono (Tryz.slices_Clone_string_zero a cap x.w) fun e w' ⟨v',h1,h2,_,h3⟩=>fin e w' v' _ h1 h2 h3)
  .have hcell:∀i,(hi:i<l.length)->x.w.cell? ⟨b,off+i,none⟩=some (.string ⟨⟨l[i]⟩⟩):=fun i hi=>by
    have q1:=hc i 0 hi ae;have q2:=h i 0 hi ae;have e:((l.map D.str).getD i .any).cells.getD 0 .any=.str l[i]:=by simp[hi,D.cells]
    rw[e]at q2;rw[(dV q2).1]at q1;simpa using q1
   refine pG jt himm (Calls.mono (Tryz.slices_Clone_string b off l.length cap (l.map fun t=>⟨⟨t⟩⟩) x.w aJ ae (fun j hj=>?_)) fun e w' ⟨v',h1,h2,_,h3⟩=>?_)
   .rw[bz]at hj;rw[hcell j hj];simp[hj]
   .have:((l.map fun t=>(⟨⟨t⟩⟩:ByteArray)).take l.length).map Value.string=l.map fun t=>Value.string ⟨⟨t⟩⟩:=by
     rw[eM aJ,List.map_map];rfl
    rw[this]at h2;exact fin e w' v' _ h1 h2 h3
def E489:Ow 71 489:=qQ rfl fun ds st K h hok=>Mq rfl rfl Tryz.D5 Tryz.Pu (Go.Proofs.enters_of Tryz.D5.f166 jt rfl) ds st K h hok
def E664:Ow 157 664:=qQ rfl fun ds st K h hok=>Mp rfl rfl Tryz.D6 Tryz.Pu (Go.Proofs.enters_of Tryz.D6.f167 jt rfl) ds st K h hok
def E452:Ow 72 452:=qQ rfl fun ds st K h hok=>Mo rfl rfl Tryz.D7 Tryz.Pu (Go.Proofs.enters_of Tryz.D7.f169 jt rfl) ds st K h hok
def vL (sep:ak)(B:Nat):∀l:List ak,(∀t∈l,t.length<=B)->(aR sep l).length<=l.length*(B+sep.length)
 |[],_=>by simp[aR]
 |[t],h=>by have:=h t (.head _);simp only[aR,aH,aO];omega
 |t::u::r,h=>by
  have h1:=h t (.head _);have h2:=vL sep B (u::r) fun x hx=>h x (.tail _ hx)
  rw[fQ _ _ _ aJ];rw[aH,Nat.succ_mul];simp only[bA];omega
def E242:Ow 35 242:=by
 refine cg rfl ?_;rintro l sep hp1 hp2 hp3 hok x args hl hargs hnl himm _;have h0:=hargs 0 aJ;obtain⟨h1,_⟩:=dV (hargs 1 aJ);rw[tq hl,h1];have hj:=vL sep 2097200 l hp3;have hj2:=eu (2097200+sep.length) hp1;have hj3:1048600*(2097200+sep.length)<=140737488355328:=by
  have:=Nat.mul_le_mul_left 1048600 (show 2097200+sep.length<=2097204 by omega);omega
 have hjm:(aR sep l).length<=140737488355328:=ae;simp only[fY]at h0;generalize args.getD 0 undef=v0 at h0⊢;cases h0 with
 |sl a b off len cap k es c hlen ha hcap hm hk hn hc h1 h=>
  simp only[bz]at hlen;subst hlen;rcases ha with he|⟨rfl,hI⟩
  .have hnil:l=[]:=by simpa using he
   subst hnil;refine gY jt himm (Calls.mono (Tryz.strings_Join_none a cap ⟨⟨sep⟩⟩ x.w) fun e w' ⟨h1,h2⟩=>⟨h1,h2▸fh.refl _⟩) (fun x'=>?_);exact qV [] aJ
  .have hcell:∀i,(hi:i<l.length)->x.w.cell? ⟨b,off+i,none⟩=some (.string ⟨⟨l[i]⟩⟩):=fun i hi=>by
    have q1:=hc i 0 hi ae;have q2:=h i 0 hi ae;have e:((l.map D.str).getD i .any).cells.getD 0 .any=.str l[i]:=by simp[hi,D.cells]
    rw[e]at q2;rw[(dV q2).1]at q1;simpa using q1
   have e2:(l.map fun t=>(⟨⟨t⟩⟩:ByteArray)).map (fun t=>t.data.toList)=l:=by rw[List.map_map];exact List.map_id l
   have hjl:Lib.join ((l.map fun t=>(⟨⟨t⟩⟩:ByteArray)).map (fun t=>t.data.toList)) (⟨⟨sep⟩⟩:ByteArray).data.toList=aR sep l:=by rw[e2];exact(Ba sep l).symm
   have key:=Tryz.strings_Join b off cap (l.map fun t=>⟨⟨t⟩⟩) ⟨⟨sep⟩⟩ x.w (fun j y hy=>by
    rw[List.getElem?_map,df]at hy;obtain⟨t,ht,rfl⟩:=hy;obtain⟨hlt,rfl⟩:=List.getElem?_eq_some_iff.1 ht;exact hcell j hlt) (himm b hI) cX (by simpa using hcap) (by rw[hjl];exact hjm)
   rw[hjl,bz]at key;refine gY jt himm (Calls.mono key fun e w' ⟨h1,h2⟩=>⟨h1,h2.os,h2.tape,h2.output,h2.size,h2.block⟩) (fun x'=>?_);exact .str _ (by simp only[maxLen];omega)
def qY {P:Program}(w:World)(mty kt et:TypeId)(r clock:Nat)(e:MapEntry)(s:ByteArray)(val:Value)(hf:Instr.findNow .string (.string s) [e] 0=some none)(hm:P.underlying mty=some (.map kt et))(hk:P.underlying kt=some .string)(hb:w.heap[r]? =some (.map #[e] clock)):
  (Instr.mapUpdate mty (.map (some r)) (.string s) val).run P w=.ok () {w with heap:=w.heap.setIfInBounds r (.map #[e,{key:=.string s,val:=val,born:=clock}] (clock+1))}:=by
 have hc:(Instr.checkKey false 10000 kt (.string s)).run P w=.ok () w:=MapKept.run_checkKey (k:=.string s) hk (by simp[MapKept.IsKey]) false 9999;simp[Instr.mapUpdate,run_underlying hm,MapKept.run_getObj_map hb,hc,MapKept.run_findKey hk hf,MapKept.run_setObj_map _ hb,Result.andThen]
def SU (f b:Nat):Value:=.func (.func f) #[] #[.pointer (some ⟨b,0,none⟩)]
def I2 (s:List UInt8)(f b k:Nat):MapEntry:={key:=.string ⟨⟨s⟩⟩,val:=SU f b,born:=k}
def oa (w:World)(o:Obj):(w.alloc o).heap.size=w.heap.size+1:=by show(w.heap.push o).size=_;simp
def LO (w:World)(a o:Obj):((w.alloc a).alloc o).heap[w.heap.size+1]? =some o:=by
 have:=dh (w.alloc a) o
 rwa [oa]at this
def Qv {h:Array Obj}{r:Nat}{o o2:Obj}(hh:h[r]? =some o):(h.setIfInBounds r o2)[r]? =some o2:=by
 have:=(Array.getElem?_eq_some_iff.1 hh).1;simp[this]
def NA {h:Array Obj}{r b:Nat}{o2:Obj}(hb:b≠r):(h.setIfInBounds r o2)[b]? =h[b]? :=by
 simp[Ne.symm hb]
set_option maxHeartbeats 2000000 in
set_option maxRecDepth 100000 in
theorem z6 (ad:Addr)(w:World):Calls Tryz.prog 36 #[.pointer (some ad)] w fun e w'=>e=.returned (.map (some (w.heap.size+1)))/\fh w w'/\w'.heap.size=w.heap.size+2/\w'.heap[w.heap.size]? =some (.cells #[.pointer (some ad)] 81 (0,0))/\
  w'.heap[w.heap.size+1]? =some (.map #[I2 [112,105,110] 73 w.heap.size 0,I2 [104,111,108,100] 75 w.heap.size 1] 2):=by
 have t79:=Tryz.underlying79;have t9:=Tryz.underlying9;have mixed:Tryz.prog.follows .mixedOrders=true:=jt;have h2:=LO w (.cells #[.pointer (some ad)] 81) (.map #[] 0)
 go_enter Tryz.func36,Tryz.ntmps36
 go_wp2
 rw[run_makeMap_plain]
 go_wp2
 rw[run_mapUpdate_first _ 79 9 86 (w.heap.size+1) 0 _ _ t79 t9 h2]
 go_wp2
 rw[qY _ 79 9 86 (w.heap.size+1) 1 (I2 [112,105,110] 73 w.heap.size 0) _ _ (by rfl) t79 t9 (Qv h2)]
 go_wp2
 have h3:((w.alloc (Obj.cells #[.pointer (some ad)] 81)).alloc (Obj.map #[] 0)).heap.size=w.heap.size+2:=by rw[oa,oa]
 unfold bodyPost;simp[results,Tryz.f36];refine⟨⟨rfl,rfl,rfl, ?_,fun b hb=>?_⟩, ?_, ?_⟩
 .show w.heap.size<=(Array.setIfInBounds _ _ _).size;rw[Array.size_setIfInBounds,h3];omega
 .show(Array.setIfInBounds _ _ _)[b]? =_;rw[NA ae,fk _ _ b (by rw[oa];omega),fk _ _ b hb]
 .rw[fk _ _ _ (by rw[oa];omega)];exact dh w _
 .rfl
def E243:Ow 36 243:=by
 refine qQ rfl ?_;intro lm nx m K hK hok x args hl hargs hs hfr;have hv0:RD qO x (args.getD 0 undef) (.ptr lm 11 0 0):=hargs 0 aJ;obtain⟨ad,had⟩:∃ad,args.getD 0 undef=.pointer (some ad):=by
  generalize args.getD 0 undef=v at hv0;cases hv0;exact⟨_,rfl⟩
 obtain rfl:args=#[.pointer (some ad)]:=by
  have h1:args.size=1:=hl;apply Array.ext
  .simp[h1]
  .intro i h2 h3;obtain rfl:i=0:=ae;simpa[Array.getD,h1]using had
 have hv:RD qO x (.pointer (some ad)) (.ptr lm 11 0 0):=hv0;refine .inr ⟨36,#[.pointer (some ad)],Go.Proofs.enters_of Tryz.func36 jt rfl _ _,Calls.mono (z6 ad x.w) ?_⟩;rintro e w' ⟨rfl,hg,hsz,hb,hm⟩
 let x':X:=⟨w',fun b=>x.I b\/b=x.w.heap.size\/b=x.w.heap.size+1,x.β⟩
 have hp:kF x x':=⟨hg,fun b h=>.inl h,fun b h=>h.imp id fun h=>ae,fun b h=>by
  rcases h with h|h
  .exact eC (hs.imm b h) hg.size
  .show b<w'.heap.size;omega,rfl⟩
 refine⟨x',rfl,_,_,hK,hp.step hs.imm, ?_,hp.lW hs,⟨hfr.β,hfr.m⟩⟩;have hv':RD qO x' (.pointer (some ad)) (.ptr lm 11 0 0):=hv.mono (hp.step hs.imm).le;have hbx:∀f n,dH qO f=some n->RD qO x' (SU f x.w.heap.size) (.fn n [.fn 3000000 [.ptr lm 11 0 0]]):=fun f n hn=>
  .fn f n _ _ hn rfl fun i hi=>by
   obtain rfl:i=0:=by simp at hi;omega
   exact .bx _ 0 [.ptr lm 11 0 0] (.pointer (some ad)) (.inr (.inl rfl)) (by rw[cell_of_heap hb aJ];rfl) rfl rfl fun i hi=>by
    obtain rfl:i=0:=by simp at hi;omega
    exact hv'
 refine .mp _ _ 2 _ (.inr (.inr rfl)) hm rfl fun i hi=>?_
 match i,hi with
 |0,_=>exact .str _ aE
 |1,_=>exact hbx 73 490 jt
 |2,_=>exact .str _ aE
 |3,_=>exact hbx 75 492 jt
end
section
section
variable [cP]
def H70:Ow 23 70:=cg rfl fun r hp0=>bw bV ck rfl (w70 bX LC LD G210 Sd Se G213 G214 Sf r hp0)
def H125:Ow 68 125:=cg rfl fun s=>bw bV ck rfl (w125 bX G332 s)
def H213:Ow 54 213:=cg rfl fun l hp0=>bw bV ck rfl (w213 bX Gk G447 Sj G449 l hp0)
def H228:Ow 19 228:=cg rfl fun l i n hp0=>bw bV ck rfl (w228 bX LH Pe l i n hp0)
def H239:Ow 31 239:=cg rfl fun s hp0=>bw bV ck rfl (w239 bX G331 s hp0)
def H332:Ow 126 332:=cg rfl fun s=>bw bV ck rfl (w332 bX G563 s)
def H444:Ow 94 444:=cg rfl fun s hp0=>bw bV ck rfl (w444 bX Sp Sq s hp0)
def H450:Ow 100 450:=qQ rfl fun ws t l lw nx m K h1 h2 h3 h4 hp2 hK=>Hg bV ck rfl h1 h2 h3 h4 hK fun m0 hp0 hp1=>w450 bX ws t m0 LG G489 G664 hp0 hp1 hp2
def H466:Ow 128 466:=cg rfl fun s hp0=>bw bV ck rfl (w466 bX LD Sk LI Pf G675 s hp0)
def H480:Ow 142 480:=cg rfl fun l i own alone hp0 hp1=>bw bV ck rfl (w480 bX LF Gj Pa l i own alone hp0 hp1)
def H494:Ow 77 494:=cg rfl fun l x=>bw bV ck rfl (w494 bX l x)
def H659:Ow 151 659:=cg rfl fun t=>bw bV ck rfl (w659 bX t)
def H666:Ow 165 666:=cg rfl fun t=>bw bV ck rfl (w666 bX t)
def H678:Ow 147 678:=cg rfl fun op=>bw bV ck rfl (w678 bX op)
def H809:Ow 190 809:=qQ rfl fun w nd hp0 nx lp ln m K h1 h2 h3 h4 hK=>jO oQ aE rfl (fun _=>rfl) bV ck rfl h1 h2 h3 h4 hK (w809 bX w nd (NV (Nat.le_of_eq (lH (c:=fun _=>2) h1).symm)) hp0)
def H882:Ow 212 882:=cg rfl fun n hp0=>bw bV ck rfl (w882 bX n hp0)
def H951:Ow 218 951:=cg rfl fun l i b hp0=>bw bV ck rfl (w951 bX l i b (NW (aF _)) hp0)
end
end
section
section
variable [cP]
def H72:Ow 30 72:=cg rfl fun r hp0=>bw bV ck rfl (w72 bX G70 Sf r hp0)
def H208:Ow 24 208:=cg rfl fun s=>bw bV ck rfl (w208 bX s)
def H214:Ow 55 214:=cg rfl fun r s hp0=>bw bV ck rfl (w214 bX Sj r s hp0)
def H229:Ow 82 229:=cg rfl fun l i own hp0 hp1=>bw bV ck rfl (w229 bX Gj Sg Pe G480 Sn l i own hp0 hp1)
def H240:Ow 32 240:=cg rfl fun l hp0=>bw bV ck rfl (w240 bX G241 l hp0)
def H349:Ow 93 349:=cg rfl fun s=>bw bV ck rfl (w349 bX s)
def H445:Ow 95 445:=cg rfl fun s=>bw bV ck rfl (w445 bX LB G660 Ss s)
def H451:Ow 101 451:=cg rfl fun v hp0=>bw bV ck rfl (w451 bX LD Sv v hp0)
def H467:Ow 129 467:=P7 rfl R6 fun r hp0=>A4 2 bV ck rfl rfl (w467 bX LB Sl Sm r hp0)
def H481:Ow 143 481:=cg rfl fun n=>bw bV ck rfl (w481 bX LH n)
def H495:Ow 25 495:=cg rfl fun s hp0=>bw bV ck rfl (w495 bX LB G682 G683 Pg G685 Sy s hp0)
def H660:Ow 152 660:=qQ rfl fun w nd hp0 nx lp ln m K h1 h2 h3 h4 hK=>jO oQ aE rfl (fun _=>rfl) bV ck rfl h1 h2 h3 h4 hK (w660 bX w nd (NV (Nat.le_of_eq (lH (c:=fun _=>4) h1).symm)) hp0)
def H667:Ow 166 667:=cg rfl fun s=>bw bV ck rfl (w667 bX G454 s)
def H682:Ow 58 682:=cg rfl fun s hp0=>bw bV ck rfl (w682 bX G819 s hp0)
def H810:Ow 191 810:=cg rfl fun l=>bw bV ck rfl (w810 bX Gk l)
def H946:Ow 213 946:=cg rfl fun w es b=>bw bV ck rfl (w946 bX w es b)
def H956:Ow 159 956:=cg rfl fun s w=>bw bV ck rfl (w956 bX s w)
end
end
section
section
variable [cP]
def H76:Ow 34 76:=cg rfl fun s=>bw bV ck rfl (w76 bX G70 LB G222 s)
def H209:Ow 50 209:=cg rfl fun v hp0=>bw bV ck rfl (w209 bX G440 G441 Si v hp0)
def H215:Ow 56 215:=cg rfl fun r hp0=>bw bV ck rfl (w215 bX LG G450 Sk G452 r hp0)
def H230:Ow 47 230:=cg rfl fun l i hp0=>bw bV ck rfl (w230 bX Gj G482 l i hp0)
def H241:Ow 33 241:=cg rfl fun s hp0=>bw bV ck rfl (w241 bX G125 So s hp0)
def H440:Ow 89 440:=cg rfl fun n=>bw bV ck rfl (w440 bX n)
def H446:Ow 96 446:=cg rfl fun m=>bw bV ck rfl (w446 bX Ss Su m)
def H454:Ow 113 454:=cg rfl fun c=>bw bV ck rfl (w454 bX c)
def H468:Ow 130 468:=P7 rfl R7 fun r hp0=>A4 2 bV ck rfl rfl (w468 bX Sl r hp0)
def H482:Ow 85 482:=cg rfl fun c hp0=>bw bV ck rfl (w482 bX G249 G676 G677 G678 c hp0)
def H496:Ow 26 496:=cg rfl fun r hp0=>bw bV ck rfl (w496 bX Pg r hp0)
def H661:Ow 153 661:=cg rfl fun m=>bw bV ck rfl (w661 bX Su G810 m)
def H668:Ow 167 668:=cg rfl fun t=>bw bV ck rfl (w668 bX t)
def H684:Ow 60 684:=cg rfl fun r hp0=>bw bV ck rfl (w684 bX LG Ph Sx r hp0)
def H811:Ow 192 811:=cg rfl fun l i hp0=>bw bV ck rfl (w811 bX SA l i (NW (aF _)) (SB (aF _)) hp0)
def H947:Ow 214 947:=qQ rfl fun w nd b nx lp ln m K h1 h2 h3 h4 hK=>HF oQ aE rfl (fun _=>rfl) bV ck rfl h1 h2 h3 h4 hK (w947 bX w nd b Pj)
def H957:Ow 160 957:=cg rfl fun op=>bw bV ck rfl (w957 bX op)
end
end
section
section
variable [cP]
def H79:Ow 46 79:=cg rfl fun l i own hp0 hp1=>bw bV ck rfl (w79 bX LF Gj G229 Pa Sg G232 l i own hp0 hp1)
def H210:Ow 51 210:=cg rfl fun r n hp0=>bw bV ck rfl (w210 bX Se Gk G443 r n hp0)
def H217:Ow 63 217:=cg rfl fun v hp0=>bw bV ck rfl (w217 bX G455 G456 v hp0)
def H231:Ow 83 231:=cg rfl fun l i hp0=>bw bV ck rfl (w231 bX Gj Sn l i hp0)
def H246:Ow 39 246:=cg rfl fun l x=>bw bV ck rfl (w246 bX G494 l x)
def H441:Ow 90 441:=cg rfl fun s hp0=>bw bV ck rfl (w441 bX Si LI Pf G659 s hp0)
def H447:Ow 97 447:=cg rfl fun l=>bw bV ck rfl (w447 bX l)
def H455:Ow 114 455:=cg rfl fun n=>bw bV ck rfl (w455 bX n)
def H470:Ow 78 470:=cg rfl fun s b hp0=>bw bV ck rfl (w470 bX s b hp0)
def H483:Ow 144 483:=cg rfl fun l s hp0=>bw bV ck rfl (w483 bX l s hp0)
def H533:Ow 149 533:=cg rfl fun s b hp0=>bw bV ck rfl (w533 bX s b hp0)
def H662:Ow 154 662:=cg rfl fun l hp0=>bw bV ck rfl (w662 bX G811 l hp0)
def H675:Ow 184 675:=cg rfl fun s b=>bw bV ck rfl (w675 bX s b)
def H685:Ow 61 685:=cg rfl fun r hp0=>bw bV ck rfl (w685 bX Pg r hp0)
def H819:Ow 102 819:=cg rfl fun s hp0=>bw bV ck rfl (w819 bX LI Pf Ph Sx G956 SC s hp0)
def H948:Ow 215 948:=qQ rfl fun x w nd b hp0 nx lp ln m K h1 h2 h3 h4 hK=>jO oQ aE rfl (fun _=>rfl) bV ck rfl h1 h2 h3 h4 hK (w948 bX x w nd b hp0)
def SD:Ow 230 1031:=qQ rfl fun k w nd b hp0 nx lp ln m K h1 h2 h3 h4 hK=>jO oQ aE rfl (fun _=>rfl) bV ck rfl h1 h2 h3 h4 hK (TB bX k w nd b Gk LJ LK SA hp0)
end
end
section
section
variable [cP]
def H81:Ow 9 81:=cg rfl (bw bV ck rfl (w81 bX G82 G238))
def H211:Ow 52 211:=cg rfl fun r name sa hp0=>bw bV ck rfl (w211 bX LC G444 r name sa hp0)
def H222:Ow 69 222:=P7 rfl R4 fun r hp0=>A4 2 bV ck rfl rfl (w222 bX G466 G467 Sm G469 Sz r hp0)
def H232:Ow 84 232:=cg rfl fun l i r hp0 hp1=>bw bV ck rfl (w232 bX LH Pe G483 l i r hp0 hp1)
def H247:Ow 10 247:=cg rfl fun m hp0=>bw bV ck rfl (w247 bX G70 LC Sp Sq m hp0)
def H442:Ow 91 442:=cg rfl fun s hp0=>bw bV ck rfl (w442 bX LI s hp0)
def H448:Ow 98 448:=cg rfl fun s hp0=>bw bV ck rfl (w448 bX LC G254 Gk So s hp0)
def H456:Ow 115 456:=cg rfl fun s p hp0=>bw bV ck rfl (w456 bX G470 G666 G667 G668 s p hp0)
def H478:Ow 18 478:=cg rfl fun v n hp0=>bw bV ck rfl (w478 bX v n hp0)
def H490:Ow 73 490:=qQ rfl fun r ps hs a b hp0 nx m K h1 h2 hK=>AH bV ck rfl h1 h2 hK (w490 bX r ps hs a b G491 hp0)
def H563:Ow 134 563:=cg rfl fun s=>bw bV ck rfl (w563 bX s)
def H663:Ow 156 663:=cg rfl fun l nm=>bw bV ck rfl (w663 bX l nm)
def H676:Ow 145 676:=cg rfl fun c hp0=>bw bV ck rfl (w676 bX G217 c hp0)
def H734:Ow 188 734:=cg rfl fun n hp0=>bw bV ck rfl (w734 bX G882 n hp0)
def H827:Ow 110 827:=cg rfl fun c hp0=>bw bV ck rfl (w827 bX LD c hp0)
def H949:Ow 216 949:=qQ rfl fun w nd hp0 nx lp ln m K h1 h2 h3 h4 hK=>jO oQ aE rfl (fun _=>rfl) bV ck rfl h1 h2 h3 h4 hK (w949 bX w nd (Sr (Nat.le_of_eq (lH (c:=fun _=>0) h1).symm)) LJ LK (NX (Nat.le_of_eq (lH (c:=fun _=>0) h1).symm)) Sb hp0)
def SE:Ow 7 1207:=cg rfl fun l own=>bw bV ck rfl (TC bX G81 LF Pd Sc l own)
end
end
section
section
variable [cP]
def H82:Ow 14 82:=cg rfl fun s hp0=>bw bV ck rfl (w82 bX G76 G239 G240 LG G243 G244 Pb Pc Pd G490 G492 s hp0)
def H212:Ow 53 212:=cg rfl fun s=>bw bV ck rfl (w212 bX G445 G446 s)
def H227:Ow 21 227:=cg rfl fun n=>bw bV ck rfl (w227 bX LH n)
def H238:Ow 12 238:=cg rfl fun m hp0=>bw bV ck rfl (w238 bX G72 Pd m hp0)
def H249:Ow 42 249:=cg rfl fun l x hp0=>bw bV ck rfl (w249 bX l x hp0)
def H443:Ow 92 443:=cg rfl fun r w al hp0=>bw bV ck rfl (w443 bX Sd Gk r w al hp0)
def H449:Ow 99 449:=cg rfl fun l nm=>bw bV ck rfl (w449 bX G663 l nm)
def H465:Ow 127 465:=Tb rfl R5 (fun r w n op hp0 hp1 hp2=>A4 2 bV ck rfl rfl (TE bX Pb Pc r w n op hp0 hp1 hp2)) fun r w n op l nx m K hp0 hp1 hp2 hl hK=>Mn (A4 2 bV ck rfl rfl (TE bX Pb Pc r w n op hp0 hp1 hp2)) hl rfl rfl hK
def H479:Ow 48 479:=cg rfl fun l i=>bw bV ck rfl (w479 bX l i)
def H492:Ow 75 492:=qQ rfl fun r ps hs a b hp0 nx m K h1 h2 hK=>AH bV ck rfl h1 h2 hK (w492 bX r ps hs a b hp0)
def H658:Ow 150 658:=cg rfl fun s=>bw bV ck rfl (w658 bX s)
def H665:Ow 158 665:=cg rfl fun n hp0=>bw bV ck rfl (w665 bX G336 n hp0)
def H677:Ow 146 677:=qQ rfl fun c hp0 nx m K hK=>H0 rfl rfl bV ck rfl rfl hK (w677 bX c G734 hp0)
def H808:Ow 189 808:=qQ rfl ⟨fun w nd hp0 nx lp ln m K h1 h2 h3 h4 hK=>jO oQ aE rfl (fun _=>rfl) bV ck rfl h1 h2 h3 h4 hK (TF bX rC 809 B8 4 w nd Pj LJ LK hp0 CL aE aE (fun w2 nd2 hl hp=>Sw (aF _) w2 nd2 hp (by rw[lH h1];exact(show 6*w2.length+2<6*w.length+3 by omega)))),fun w nd hp0 nx lp ln m K h1 h2 h3 h4 hK=>jO oQ aE rfl (fun _=>rfl) bV ck rfl h1 h2 h3 h4 hK (TF bX nw 949 tT 3 w nd Pj LJ LK hp0 xU aE aE (fun w2 nd2 hl hp=>NX (aF _) w2 nd2 hp (by rw[lH h1];exact(show 6*w2.length+0<6*w.length+1 by omega))))⟩
def H828:Ow 111 828:=cg rfl fun c hp0=>bw bV ck rfl (w828 bX Sv Ph SC c hp0)
def H950:Ow 217 950:=cg rfl (bw bV ck rfl (w950 bX))
def SF:Ow 17 1209:=cg rfl fun l i own hp0 hp1=>bw bV ck rfl (TD bX G79 LF Gj Pa l i own hp0 hp1)
end
end
def Ls:List (Nat×Nat)->Prop
 |[]=>True
 |p::r=>Ow p.1 p.2/\Ls r
def Ls.mem:∀{l:List (Nat×Nat)},Ls l->∀p∈l,Ow p.1 p.2
 |p::r,h,q,hq=>by
  rcases cD.1 hq with rfl|hq
  .exact h.1
  .exact h.2.mem q hq
def allY:Ls qO:=⟨SE,H81,H247,H238,H82,SF,H478,H228,H227,H70,H208,H495,H496,H72,H239,H240,H241,H76,E242,E243,E244,E245,H246,H249,H79,H230,H479,H209,H210,H211,H212,H213,H214,H215,E124,H682,E683,H684,H685,H217,E331,E487,H125,H222,E489,E452,H490,E491,H492,H494,H470,H229,H231,H232,H482,H440,H441,H442,H443,H349,H444,H445,H446,H447,H448,H449,H450,H451,H819,H827,H828,H454,H455,H456,H332,H465,H466,H467,H468,E469,H563,H480,H481,H483,H676,H677,H678,H533,H658,H659,H660,H661,H662,E254,H663,E664,H665,H956,H957,H666,H667,H668,H675,H734,H808,H809,H810,H811,E336,H882,H946,H947,H948,H949,H950,H951,SD,trivial⟩
def sv:∀{l:List (Nat×Nat)}{a b:Nat},dH l a=some b->(a,b)∈l
 |[],_,_,h=>by simp[dH]at h
 |(c,d)::r,a,b,h=>by
  simp only[dH]at h;split at h
  .rename_i e;simp_all
  .exact .tail _ (sv h)
def okY:Ok (Go.Proofs.Tryz.prog) qO I1 (xi bB):=okA (fun fid n hn=>(show ∀p∈qO,p.2<1000000 by decide+kernel) _ (sv hn)) (fun t ht=>by simp[I1]at ht;show t=130;omega) fun fid n hn=>allY.mem (fid,n) (sv hn)
section
open Go.RowKit Go.ChangeShapes
def fh.below {w w':World}(h:fh w w'):Below w.heap.size w w':=⟨h.os,h.tape,h.output,h.size,h.old⟩
section
variable {H:Type} {enc:TypeId×Value->H} {P:Program}
def xx {f:Func}{s:ChangeSpec}{apart fresh handsOn again:Bool}{W W':World}{args:Array Value}{v:Value}{ds gs:List (DataW H)}{before pa pv:List MemPlace}
  (hW:DataW.Whole enc P f.params.toList s.vars apart W args.toList ds gs before)
  (hres:∀(b:Nat) (sp:Nat->Bool) (hd:Bool),DataW.TrodAll enc P W' b sp hd f.resultTypes.toList (v.resultList f.resultTypes.size) (s.fn H (ds++gs)).results [])
  (hargs:∀sp:Nat->Bool,(∀p∈before,sp p.block=true)->DataW.TrodAll enc P W' 0 sp true f.params.toList args.toList (s.fn H (ds++gs)).args pa)
  (hvars:∀sp:Nat->Bool,(∀p∈before,sp p.block=true)->DataW.TrodVars enc P W' sp s.vars (s.fn H (ds++gs)).vars pv)
  (hps:before=pa++pv) (hb:Below W.heap.size W W')
  (hok:∀(j:Nat) (t:TypeId) (r:Value),f.resultTypes[j]? =some t->(v.resultList f.resultTypes.size)[j]? =some r->Value.okWide P W' .any 0 t r):
  s.post enc P f apart fresh handsOn again W args v W':=by
 have hold:∀p∈before,(fun b=>decide (b<W.heap.size)) p.block=true:=fun p hp=>by simpa using hW.lt p hp
 refine⟨ds,gs,before,[],pa,pv,hW,hres _ _ _,hargs _ hold,hvars _ hold,World.keptBut_mono (fun p hp=>⟨hp, ?_⟩) (hb.frame (· ∈before)),fun _=>?_⟩
 .rw[hps,List.mem_append]at hp;exact Or.inr hp
 .have hlt:=hW.lt;obtain⟨_,_,_,_,_,hz,hn⟩:=hW;refine⟨hok,_,_,([]++pa)++pv,⟨[]++pa,pv,trodAll_append (hargs _ (fun _ _=>rfl)) (hres _ _ _),hvars _ (fun _ _=>rfl),rfl, ?_, ?_⟩, ?_⟩
  .intro b off hp;have hmem:MemPlace.cell b off∈before:=by rw[hps];simpa using hp
   have hq:=hz b off hmem;have hl:b<W.heap.size:=hlt _ hmem;simpa only[World.frozen?,hb.block b hl]using hq
  .grind
  .intro p hp _;rw[hps];simpa using hp
end
end
section
inductive Lf
 |str
 |int (k:IntKind)
 |bool
 |sl (ag:Bool) (k:Nat) (cs:List Lf)
mutual
def fit:Lf->D->Nat->Prop
 | .str,d,n=>∃s,d=.str s/\s.length+1<=n
 | .int k,d,n=>(∃m,d=.int k m/\(Lit.int k m).wf=true)/\1<=n
 | .bool,d,n=>(∃b,d=.bool b)/\1<=n
 | .sl ag k cs,d,n=>∃es,d=.sl k es/\∃ns:List Nat,ns.length=es.length/\ns.sum+1<=n/\∀i,i<es.length->∃ds,es.getD i .any=(bif ag then .agg ds else ds.getD 0 .any)/\jq cs ds (ns.getD i 0)
def jq:List Lf->List D->Nat->Prop
 |[],ds,_=>ds=[]
 |c::r,ds,n=>∃d ds' n1 n2,ds=d::ds'/\n1+n2<=n/\fit c d n1/\jq r ds' n2
end
def rO:∀{cs:List Lf}{ds:List D}{n:Nat},jq cs ds n->ds.length=cs.length
 |[],ds,n,h=>by simp only[jq]at h;simp[h]
 |c::r,ds,n,h=>by
  simp only[jq]at h;obtain⟨d,ds',n1,n2,rfl,_,_,h2⟩:=h;simp[rO h2]
def tC:∀{a b:List Lf}{da db:List D}{n m:Nat},jq a da n->jq b db m->jq (a++b) (da++db) (n+m)
 |[],b,da,db,n,m,h1,h2=>by
  simp only[jq]at h1;subst h1;simp only[eN];exact fitL_mono h2 ae
 |c::r,b,da,db,n,m,h1,h2=>by
  simp only[jq]at h1;obtain⟨d,ds',n1,n2,rfl,h3,h4,h5⟩:=h1;simp only[eV,jq];exact⟨d,ds'++db,n1,n2+m,rfl,ae,h4,tC h5 h2⟩
where
 fitL_mono:∀{cs:List Lf} {ds:List D} {n m:Nat},jq cs ds n->n<=m->jq cs ds m
 |[],_,_,_,h,_=>h
 |c::r,ds,n,m,h,hm=>by
  simp only[jq]at h⊢;obtain⟨d,ds',n1,n2,rfl,h3,h4,h5⟩:=h;exact⟨d,ds',n1,n2,rfl,ae,h4,h5⟩
def Ed {c:Lf}{d:D}{n:Nat}(h:fit c d n):d.cells=[d]/\d.aX=true:=by
 cases c<;>simp only[fit]at h
 .obtain⟨s,rfl,_⟩:=h;exact⟨rfl,rfl⟩
 .obtain⟨⟨m,rfl,_⟩,_⟩:=h;exact⟨rfl,rfl⟩
 .obtain⟨⟨b,rfl⟩,_⟩:=h;exact⟨rfl,rfl⟩
 .obtain⟨es,rfl,_⟩:=h;exact⟨rfl,rfl⟩
def qG:∀{cs:List Lf}{ds:List D}{n:Nat},jq cs ds n->aY ds=true
 |[],ds,n,h=>by simp only[jq]at h;subst h;rfl
 |c::r,ds,n,h=>by
  simp only[jq]at h;obtain⟨d,ds',n1,n2,rfl,_,h1,h2⟩:=h;simp only[aY,(Ed h1).2,qG h2,Bool.and_self]
def Gn (b o m j:Nat):((⟨b,o,none⟩:Addr).add m).add j=⟨b,o+m+j,none⟩:=by
 unfold Addr.add;split<;>split<;>simp_all
section
variable {H:Type}
mutual
def dB:DataW H->Nat
 | .lit (.string s)=>s.length+1
 | .slice es _=>L4 es+1
 | .agg ps=>L4 ps
 |_=>1
def L4:List (DataW H)->Nat
 |[]=>0
 |d::r=>dB d+L4 r
end
def D8:∀ds:List (DataW H),L4 ds=(ds.map dB).sum
 |[]=>rfl
 |d::r=>by simp only[L4,List.map_cons,List.sum_cons,D8 r]
end
def sP (P:Program)(t:TypeId):Bool:=match P.underlying t with
 |some (.struct _)=>true
 |some (.array _ _)=>true
 |_=>false
def QV (P:Program)(F:TypeId->Option (List Lf)):List Field->Nat->Option (List Lf)
 |[],_=>some []
 |f::r,off=>match F f.type,QV P F r (off+P.cellsOf f.type)with
  |some a,some b=>if f.offset=off/\a.length=P.cellsOf f.type then some (a++b)else none
  |_,_=>none
def arrF (e:TypeId)(off:Nat):Field:={(default:Field)with type:=e,offset:=off}
def xq (P:Program):Nat->TypeId->Option (List Lf)
 |0,_=>none
 |n+1,t=>match P.underlying t with
  |some .bool=>some [.bool]
  |some (.int k)=>some [.int k]
  |some .string=>some [.str]
  |some (.slice e)=>match xq P n e with
   |some cs=>if cs.length=P.cellsOf e/\0<cs.length/\(sP P e=true\/cs.length=1)then some [.sl (sP P e) (P.cellsOf e) cs]else none
   |none=>none
  |some (.struct fs)=>match QV P (xq P n) fs.toList 0 with
   |some a=>if a.length=P.cellsOf t then some a else none
   |none=>none
  |some (.array k e)=>match QV P (xq P n) ((List.range k).map fun i=>arrF e (i*P.cellsOf e)) 0 with
   |some a=>if a.length=P.cellsOf t then some a else none
   |none=>none
  |_=>none
section
variable {H:Type} {enc:TypeId×Value->H} {P:Program} {ν:List (Nat×Nat)}
def uq (W:World):X:=⟨W,fun b=>b<W.heap.size,fun _=>none⟩
def Rds (ν:List (Nat×Nat))(W:World)(cs:List Value)(a:List Lf)(n:Nat):Prop:=
 cs.length=a.length/\∃ds:List D,jq a ds n/\∀i,i<cs.length->RD ν (uq W) (cs.getD i undef) (ds.getD i .any)/\(cs.getD i undef).oneCell'=true
def Rds.one {W:World}{v:Value}{c:Lf}{d:D}{n:Nat}(hf:fit c d n)(hr:RD ν (uq W) v d)(h1:v.oneCell'=true):Rds ν W [v] [c] n:=
 ⟨rfl,[d],by simp only[jq];exact⟨d,[],n,0,rfl,ae,hf,rfl⟩,fun i hi=>by
  obtain rfl:i=0:=by simpa using hi
  exact⟨hr,h1⟩⟩
def Da {W:World}{F:TypeId->Option (List Lf)}{m:Nat}{sp:Nat->Bool}{held:Bool}{cs:List Value}
  (hF:∀t a cs (x:DataW H×List MemPlace),F t=some a->DataW.trod enc P W 0 sp held m t cs=some x->Rds ν W cs a (dB x.1)):
  ∀(r:List Field) (off:Nat) (a:List Lf) (xs:List (DataW H×List MemPlace)),QV P F r off=some a->xs.length=r.length->
   (∀(i:Nat) (f:Field),r[i]? =some f->DataW.trod enc P W 0 sp held m f.type ((cs.drop f.offset).take (P.cellsOf f.type))=xs[i]?)->off+a.length<=cs.length->
   ∃ds:List D,jq a ds (L4 (xs.map (·.1)))/\∀i,i<a.length->RD ν (uq W) (cs.getD (off+i) undef) (ds.getD i .any)/\(cs.getD (off+i) undef).oneCell'=true
 |[],off,a,xs,h,hl,_,_=>by
  simp only[QV,aL]at h;subst h;exact⟨[],rfl,fun i hi=>by simp at hi⟩
 |f::r,off,a,xs,h,hl,hx,hoff=>by
  simp only[QV]at h;split at h
  .rename_i a1 a2 h1 h2;split at h
   .rename_i hc;simp only[aL]at h;subst h
    match xs,hl with
    |x::xs,hl=>
    have q:=hx 0 f rfl;simp only[List.getElem?_cons_zero]at q;obtain⟨l1,ds1,g1,g2⟩:=hF _ _ _ _ h1 q;simp only[bA]at hoff;have hlen:((cs.drop f.offset).take (P.cellsOf f.type)).length=a1.length:=by rw[<-l1]
    obtain⟨ds2,g3,g4⟩:=Da hF r _ a2 xs h2 (by simpa using hl) (fun i f' hf=>by simpa using hx (i+1) f' (by simpa using hf)) ae;have hd1:=rO g1;refine⟨ds1++ds2,by simp only[List.map_cons,L4];exact tC g1 g3,fun i hi=>?_⟩;simp only[bA]at hi;by_cases hi1:i<a1.length
    .have:=g2 i ae;have e1:(ds1++ds2).getD i .any=ds1.getD i .any:=by simp[List.getD,List.getElem?_append,hd1,hi1]
     have e2:((cs.drop f.offset).take (P.cellsOf f.type)).getD i undef=cs.getD (off+i) undef:=by
      simp only[List.getD,List.getElem?_take,List.getElem?_drop,hc.1];rw[aw ae]
     rw[e1,<-e2];exact this
    .have:=g4 (i-a1.length) ae;have e1:(ds1++ds2).getD i .any=ds2.getD (i-a1.length) .any:=by simp[List.getD,List.getElem?_append,hd1,hi1]
     rw[e1,show off+i=off+P.cellsOf f.type+(i-a1.length)by omega];exact this
   .cases h
  .cases h
def uQ {W:World}{sp:Nat->Bool}{held:Bool}:∀(fl:Nat) (t:TypeId) (a:List Lf) (fuel:Nat) (cs:List Value) (x:DataW H×List MemPlace),
  xq P fl t=some a->DataW.trod enc P W 0 sp held fuel t cs=some x->Rds ν W cs a (dB x.1)
 |0,t,a,fuel,cs,x,h,_=>by simp[xq]at h
 |n+1,t,a,fuel,cs,x,h,hx=>by
  unfold xq at h;split at h
  .rename_i ht;simp only[aL]at h;subst h;obtain⟨b,rfl,rfl⟩:=DataW.trod_bool ht hx;exact .one (by simp only[fit];exact⟨⟨b,rfl⟩,by simp[dB]⟩) (.bool b) rfl
  .rename_i k ht;simp only[aL]at h;subst h;obtain⟨m,rfl,rfl,hw⟩:=DataW.trod_int ht hx;exact .one (by simp only[fit];exact⟨⟨m,rfl,hw⟩,by simp[dB]⟩) (.int k m) rfl
  .rename_i ht;simp only[aL]at h;subst h;obtain⟨s,rfl,rfl,hs⟩:=DataW.trod_string ht hx;obtain⟨⟨l⟩⟩:=s;exact .one (d:=.str l) (by simp only[fit];exact⟨l,rfl,by simp[dB]⟩) (.str l hs) rfl
  .rename_i e ht;split at h
   .rename_i ce hce;split at h
    .rename_i hk;obtain⟨hk1,hk0,hkag⟩:=hk;simp only[aL]at h;subst h;rcases DataW.trod_slice ht hx with⟨rfl,rfl⟩|⟨ad,len,cap,elems,rest,m,rfl,rfl,rfl,hb,hlc,hcm,hel,hat,_,_⟩
     .refine .one (d:=.sl (P.cellsOf e) []) (by simp only[fit];exact⟨[],rfl,[],rfl,by simp[dB],fun i hi=>by simp at hi⟩) ?_ rfl;exact .sl none 0 0 0 0 _ [] (fun _ _=>undef) rfl (.inl rfl) (aF _) (Nat.zero_le _) (fun i hi=>ae) (fun i hi=>ae) (fun i j hi=>ae) (fun i j hi=>ae) (fun i j hi=>ae)
     .have key:∀i,i<len->∃(csi:List Value) (dsi:List D),(csi.length=ce.length/\∀j,j<P.cellsOf e->W.cell? ((ad.add (i*P.cellsOf e)).add j)=csi[j]?)/\jq ce dsi (dB (elems.getD i (.nil,[])).1)/\
        ∀j,j<csi.length->RD ν (uq W) (csi.getD j undef) (dsi.getD j .any)/\(csi.getD j undef).oneCell'=true:=by
       intro i hi;have q:=hat i hi;have hgi:elems[i]? =some (elems.getD i (.nil,[])):=by simp[List.getD,show i<elems.length by omega]
       rw[hgi,Option.bind_eq_some_iff]at q;obtain⟨csi,q1,q2⟩:=q;obtain⟨l1,dsi,g1,g2⟩:=uQ n e ce m csi _ hce q2;obtain⟨_,_,q3⟩:=World.cells?_some q1;exact⟨csi,dsi,⟨l1,q3⟩,g1,g2⟩
      let f:Nat->List Value×List D:=fun i=>if h:i<len then((key i h).choose,(key i h).choose_spec.choose)else([],[])
      have hf:∀i,i<len->((f i).1.length=ce.length/\∀j,j<P.cellsOf e->W.cell? ((ad.add (i*P.cellsOf e)).add j)=(f i).1[j]?)/\jq ce (f i).2 (dB (elems.getD i (.nil,[])).1)/\
        ∀j,j<(f i).1.length->RD ν (uq W) ((f i).1.getD j undef) ((f i).2.getD j .any)/\((f i).1.getD j undef).oneCell'=true:=by
       intro i hi;have e1:f i=((key i hi).choose,(key i hi).choose_spec.choose):=by simp[f,hi]
       rw[e1];exact(key i hi).choose_spec.choose_spec
      let es:List D:=(List.range len).map fun i=>bif sP P e then .agg (f i).2 else(f i).2.getD 0 .any
      have hes:∀i,i<len->es.getD i .any=bif sP P e then .agg (f i).2 else(f i).2.getD 0 .any:=fun i hi=>by simp[es,hi]
      have hcells:∀i,i<len->(es.getD i .any).cells=(f i).2:=fun i hi=>by
       rw[hes i hi];cases hag:sP P e with
       |true=>rfl
       |false=>
        have h1:ce.length=1:=by
         rcases hkag with h|h
         .rw[hag]at h;cases h
         .exact h
        match ce,h1 with
        |[c],_=>
        have g:=(hf i hi).2.1;simp only[jq]at g;obtain⟨d,ds',n1,n2,e1,_,g1,rfl⟩:=g;rw[e1];exact(Ed g1).1
      have hnl:∀i,i<len->(es.getD i .any).aX=true:=fun i hi=>by
       have g:=qG (hf i hi).2.1;rw[hes i hi];cases hag:sP P e with
       |true=>exact g
       |false=>
        show((f i).2.getD 0 .any).aX=true
        match hq:(f i).2 with
        |[]=>rfl
        |d::r=>
         rw[hq]at g;simp only[aY,bt]at g;exact g.1
      refine .one (d:=.sl (P.cellsOf e) es) ?_ ?_ rfl
      .simp only[fit];refine⟨es,rfl,elems.map fun q=>dB q.1,by simp[es,hel],by simp only[dB,D8,List.map_map];exact aF _,fun i hi=>?_⟩;have hi':i<len:=by simpa[es]using hi
       refine⟨(f i).2,hes i hi', ?_⟩;have:=(hf i hi').2.1;have e2:(elems.map fun q=>dB q.1).getD i 0=dB (elems.getD i (.nil,[])).1:=by simp[List.getD,show i<elems.length by omega]
       rw[e2];exact this
      .have hfl:∀i,i<len->(f i).1.length=P.cellsOf e:=fun i hi=>by rw[(hf i hi).1.1,hk1]
       have hdl:∀i,i<len->(f i).2.length=P.cellsOf e:=fun i hi=>by rw[rO (hf i hi).2.1,hk1]
       have hcell:∀i j,i<len->j<P.cellsOf e->W.cell? ((ad.add (i*P.cellsOf e)).add j)=some ((f i).1.getD j undef):=fun i j hi hj=>by
        rw[(hf i hi).1.2 j hj];simp[List.getD,show j<(f i).1.length by rw[hfl i hi];exact hj]
       have hsp:es=[]\/(ad.spot=none/\ad.block<W.heap.size):=by
        by_cases h0:len=0
        .left;simp[es,h0]
        .right;have h1:=hcell 0 0 ae ae;have e3:(ad.add (0*P.cellsOf e)).add 0=ad:=by simp[Addr.add]
         rw[e3]at h1;refine⟨World.cell?_spot h1, ?_⟩;unfold World.cell? at h1;split at h1
         .rename_i h2;exact(Array.getElem?_eq_some_iff.mp h2).1
         .cases h1
       obtain⟨ab,ao,asp⟩:=ad;refine .sl (some ⟨ab,ao,asp⟩) ab ao len cap _ es (fun i j=>(f i).1.getD j undef) (by simp[es]) ?_ hlc hcm (fun i hi=>by rw[hcells i hi,hdl i hi]) hnl ?_ ?_ ?_
       .rcases hsp with h|⟨h,h2⟩
        .exact .inl h
        .obtain rfl:asp=none:=h;exact .inr ⟨rfl,h2⟩
       .intro i j hi hj;have h1:=hcell i j hi hj;rcases hsp with h|⟨h,h2⟩
        .have:es.length=0:=by rw[h];rfl
         simp[es]at this;omega
        .obtain rfl:asp=none:=h
         rwa [Gn]at h1
       .intro i j hi hj;exact((hf i hi).2.2 j (by rw[hfl i hi];exact hj)).2
       .intro i j hi hj;rw[hcells i hi];exact((hf i hi).2.2 j (by rw[hfl i hi];exact hj)).1
    .cases h
   .cases h
  .rename_i fs ht;split at h
   .rename_i b hb;split at h
    .rename_i hlen;simp only[aL]at h;subst h;obtain⟨xs,m,rfl,rfl,hcl,hxl,hat⟩:=DataW.trod_struct ht hx;obtain⟨ds,g1,g2⟩:=Da (W:=W) (ν:=ν) (sp:=sp) (held:=held) (enc:=enc) (m:=m) (cs:=cs) (fun t a cs x h1 h2=>uQ n t a m cs x h1 h2) fs.toList 0 b xs hb (by simpa using hxl) (fun i f hf=>hat i f (by simpa using hf)) ae;refine⟨ae,ds,by simpa only[dB]using g1,fun i hi=>?_⟩;have:=g2 i ae
     rwa [bD]at this
    .cases h
   .cases h
  .rename_i k e ht;split at h
   .rename_i b hb;split at h
    .rename_i hlen;simp only[aL]at h;subst h;obtain⟨xs,m,rfl,rfl,hcl,hxl,hat⟩:=DataW.trod_array ht hx;obtain⟨ds,g1,g2⟩:=Da (W:=W) (ν:=ν) (sp:=sp) (held:=held) (enc:=enc) (m:=m) (cs:=cs) (fun t a cs x h1 h2=>uQ n t a m cs x h1 h2) _ 0 b xs hb (by simpa using hxl) (fun i f hf=>by
      simp only[List.getElem?_map,df]at hf;obtain⟨j,hj,rfl⟩:=hf;have hi:i<k:=by
       have:=(List.getElem?_eq_some_iff.1 hj).1;simpa using this
      obtain rfl:j=i:=by simpa[hi]using hj.symm
      exact hat j hi) ae
     refine⟨ae,ds,by simpa only[dB]using g1,fun i hi=>?_⟩;have:=g2 i ae
     rwa [bD]at this
    .cases h
   .cases h
  .cases h
end
end
section
open Go.RowKit Go.ChangeShapes Go.WideShapes
def Cz (sh:Bool×List Lf)(d:D)(n:Nat):Prop:=∃ds,jq sh.2 ds n/\d=bif sh.1 then .agg ds else ds.getD 0 .any
def uw:List (Bool×List Lf)->List D->Nat->Prop
 |[],ds,_=>ds=[]
 |s::r,ds,n=>∃d ds' n1 n2,ds=d::ds'/\n1+n2<=n/\Cz s d n1/\uw r ds' n2
def m7 (P:Program)(k:Nat):List TypeId->Option (List (Bool×List Lf))
 |[]=>some []
 |t::r=>match xq P k t,m7 P k r with
  |some a,some b=>if sP P t=true\/a.length=1 then some ((sP P t,a)::b)else none
  |_,_=>none
section
variable {H:Type} {enc:TypeId×Value->H} {P:Program} {ν:List (Nat×Nat)}
def Pr {W:World}{sp:Nat->Bool}{held:Bool}{k base:Nat}{t:TypeId}{a:List Lf}{v:Value}{d:DataW H}{p:List MemPlace}{r:Reach}
  (ha:xq P k t=some a) (h1:sP P t=true\/a.length=1) (uc:Value.okWide P W r base t v) (h:DataW.Trod enc P W 0 sp held t v d p):
  ∃e,Cz (sP P t,a) e (dB d)/\e.aX=true/\RD ν (uq W) v e:=by
 obtain⟨fuel,hf⟩:=h;obtain⟨hl,ds,g1,g2⟩:=uQ (ν:=ν) k t a fuel v.cells.toList (d,p) ha hf;have hdl:=rO g1;have hnl:=qG g1;refine⟨_,⟨ds,g1,rfl⟩, ?_⟩;cases hag:sP P t with
 |true=>
  have:∃cs,v=.agg cs/\cs.size=P.cellsOf t:=by
   match k,ha with
   |n+1,ha=>
   unfold xq at ha;unfold sP at hag;split at ha
   .simp_all
   .simp_all
   .simp_all
   .simp_all
   .rename_i fs ht;exact okWide_struct ht uc
   .rename_i m e ht;simp only[Value.okWide,ht]at uc;obtain⟨cs,h1,h2,_⟩:=uc;exact⟨cs,h1,h2⟩
   .simp_all
  obtain⟨cs,rfl,hcs⟩:=this;refine⟨hnl, ?_⟩;have hl':cs.size=a.length:=by simpa[Value.cells]using hl
  have e:∀i,(Value.agg cs).cells.toList.getD i undef=cs.getD i undef:=fun i=>by
   simp only[Value.cells];by_cases hi:i<cs.size<;>simp[List.getD,Array.getD,hi]
  refine .agg cs ds ae (fun i hi=>?_) fun i hi=>?_
  .rw[<-e];exact(g2 i (by simp only[Value.cells,Array.length_toList];omega)).2
  .rw[<-e];exact(g2 i (by simp only[Value.cells,Array.length_toList];omega)).1
 |false=>
  have h1:a.length=1:=by
   rcases h1 with h|h
   .rw[hag]at h;cases h
   .exact h
  have hv:v.cells.toList.getD 0 undef=v:=by
   match k,ha with
   |n+1,ha=>
   unfold xq at ha;unfold sP at hag;split at ha
   .rename_i ht;obtain⟨b,rfl⟩:=okWide_bool ht uc;rfl
   .rename_i k ht;obtain⟨b,rfl⟩:=okWide_int ht uc;rfl
   .rename_i ht;obtain⟨b,rfl⟩:=okWide_string ht uc;rfl
   .rename_i e ht;obtain⟨b,c,f,rfl⟩:=okWide_slice ht uc;rfl
   .rename_i fs ht;rw[ht]at hag;cases hag
   .rename_i m e ht;rw[ht]at hag;cases hag
   .cases ha
  have g:=g2 0 ae;rw[hv]at g;refine⟨?_,g.1⟩
  match ds,hdl with
  |[d0],_=>simpa[aY]using hnl
  |[],h=>simp at h;omega
  |_::_::_,h=>simp at h;omega
def D2 {W:World}{sp:Nat->Bool}{held:Bool}{k base:Nat}{r:Reach}:∀(ts:List TypeId) (shs:List (Bool×List Lf)) (vs:List Value) (dws:List (DataW H)) (ps:List MemPlace),
  m7 P k ts=some shs->(∀(j:Nat) t v,ts[j]? =some t->vs[j]? =some v->Value.okWide P W r base t v)->DataW.TrodAll enc P W 0 sp held ts vs dws ps->
  ∃es:List D,uw shs es (L4 dws)/\es.length=vs.length/\dws.length=ts.length/\aY es=true/\∀i,i<es.length->RD ν (uq W) (vs.getD i undef) (es.getD i .any)
 |[],shs,vs,dws,ps,hs,_,h=>by
  simp only[m7,aL]at hs;subst hs;obtain⟨rfl,rfl,rfl⟩:=trodAll_nil h;exact⟨[],rfl,rfl,rfl,rfl,fun i hi=>by simp at hi⟩
 |t::ts,shs,vs,dws,ps,hs,hv,h=>by
  simp only[m7]at hs;split at hs
  .rename_i a b h1 h2;split at hs
   .rename_i hc;simp only[aL]at hs;subst hs;obtain⟨v,vs',d,ds',p,q,rfl,rfl,rfl,h3,h4⟩:=trodAll_cons h;obtain⟨e,g1,g2,g3⟩:=Pr (ν:=ν) h1 hc (hv 0 t v rfl rfl) h3;obtain⟨es,k1,k2,k3,k4,k5⟩:=D2 ts b vs' ds' q h2 (fun j t v h5 h6=>hv (j+1) t v (by simpa using h5) (by simpa using h6)) h4;refine⟨e::es,⟨e,es,_,_,rfl,aF _,g1,k1⟩,by simp[k2],by simp[k3],by simp[aY,g2,k4],fun i hi=>?_⟩
    match i,hi with
    |0,_=>exact g3
    |i+1,hi=>exact k5 i (by simpa using hi)
   .cases hs
  .cases hs
def qp {W W':World}(hl:laidOutB P=true)(hb:Below W.heap.size W W'){sp':Nat->Bool}:∀(ts:List TypeId) (vs:List Value) (dws:List (DataW H)) (ps:List MemPlace),
  (ts.all fun t=>P.readableRec t&&decide (t<P.types.size))=true->(∀x∈ps,x.block<W.heap.size)->(∀x∈ps,sp' x.block=true)->
  DataW.TrodAll enc P W 0 (fun _=>true) true ts vs dws ps->DataW.TrodAll enc P W' 0 sp' true ts vs dws ps
 |[],vs,dws,ps,_,_,_,h=>by
  obtain⟨rfl,rfl,rfl⟩:=trodAll_nil h;exact trodAll_mk0
 |t::ts,vs,dws,ps,ht,hlt,hsp,h=>by
  obtain⟨v,vs',d,ds',p,q,rfl,rfl,rfl,h3,h4⟩:=trodAll_cons h;simp only[List.all_cons,bt,a8]at ht;refine trodAll_cons_mk (WideElems.Trod_stays hl ht.1.1 ht.1.2 h3 (fun x hx=>hb.same (hlt x (by simp[hx]))) fun x hx=>hsp x (by simp[hx])) ?_;exact qp hl hb ts vs' ds' q ht.2 (fun x hx=>hlt x (by simp[hx])) (fun x hx=>hsp x (by simp[hx])) h4
end
end
def Mc {c:Lf}{d:D}{n:Nat}(h:fit c d n):1<=n:=by
 cases c<;>simp only[fit]at h
 .obtain⟨s,_,h⟩:=h;omega
 .exact h.2
 .exact h.2
 grind
theorem Jb {c:Lf}{d:D}{n m:Nat}(h:fit c d n)(hm:n<=m):fit c d m:=by
 cases c<;>simp only[fit]at h⊢
 .grind
 .exact⟨h.1,ae⟩
 .exact⟨h.1,ae⟩
 grind
theorem ES:∀(ns:List Nat) (i:Nat),i<ns.length->ns.getD i 0<=ns.sum
 |a::r,0,_=>aJ
 |a::r,i+1,h=>by
  have:=ES r i (by simpa using h)
  grind
def ET:∀(ns:List Nat),(∀i,i<ns.length->1<=ns.getD i 0)->ns.length<=ns.sum
 |[],_=>aJ
 |a::r,h=>by
  have h0:=h 0 aJ;have:=ET r fun i hi=>h (i+1) (by simpa using hi)
  grind
def Qx {α:Type}{q:α->D}{G:α->Prop}{ag:Bool}{k:Nat}{cs:List Lf}{d:D}{n:Nat}(hcs:cs≠[])
  (hd:∀ds m,m<=n->jq cs ds m->∃x,(bif ag then D.agg ds else ds.getD 0 .any)=q x/\G x) (h:fit (.sl ag k cs) d n):
  ∃xs:List α,d=.sl k (xs.map q)/\xs.length+1<=n/\∀x∈xs,G x:=by
 simp only[fit]at h;obtain⟨es,rfl,ns,hl,hs,he⟩:=h;have hone:∀i,i<ns.length->1<=ns.getD i 0:=fun i hi=>by
  obtain⟨ds,_,h2⟩:=he i ae
  match cs,hcs with
  |c::r,_=>
  simp only[jq]at h2;obtain⟨d,ds',n1,n2,_,h3,h4,_⟩:=h2;have:=Mc h4;omega
 have hlen:=ET ns hone;have key:∀i,i<es.length->∃x,es.getD i .any=q x/\G x:=fun i hi=>by
  grind [ES]
 have conv:∀es:List D,(∀i,i<es.length->∃x,es.getD i .any=q x/\G x)->∃xs:List α,es=xs.map q/\∀x∈xs,G x:=by
  intro es;induction es with
  |nil=>exact fun _=>⟨[],rfl,fun x hx=>by cases hx⟩
  |cons e r ih=>
   intro h;obtain⟨x,h1,h2⟩:=h 0 aJ;obtain⟨xs,h3,h4⟩:=ih fun i hi=>by simpa using h (i+1) (by simpa using hi)
   simp only[fY]at h1;refine⟨x::xs,by rw[h3,h1];rfl,fun y hy=>?_⟩;rcases cD.1 hy with rfl|hy
   .exact h2
   .exact h4 y hy
 obtain⟨xs,rfl,hx⟩:=conv es key
 refine⟨xs,rfl, ?_,hx⟩;simp only[bz]at hl;omega
def Jq {k:IntKind}{d:D}{n:Nat}(h:fit (.sl false 1 [.int k]) d n):∃xs:List Int,d=.sl 1 (xs.map (D.int k))/\xs.length+1<=n/\∀x∈xs,True:=
 Qx (q:=D.int k) (G:=fun _=>True) aJ (fun ds m hm h=>by
  simp only[jq,fit]at h;obtain⟨d,ds',n1,n2,rfl,_,⟨⟨x,rfl,_⟩,_⟩,rfl⟩:=h;exact⟨x,rfl,trivial⟩) h
def Ey {c:Lf}{d:D}{n:Nat}(h:Cz (false,[c]) d n):fit c d n:=by
 obtain⟨ds,h,rfl⟩:=h
 grind [jq,Jb]
def Mx {k:IntKind}{d:D}{n:Nat}(h:fit (.int k) d n):∃x:Int,d=.int k x:=by
 grind [fit]
section
open Go.RowKit Go.ChangeShapes Go.WideShapes
def ctxp {t:List (Nat×nV)}{n:Nat}{ds:List D}{d:D}(hD:R8 (lk t n lM).rel)(h:(lk t n lM).rel ds d):(xi t).pre n ds/\(xi t).val n ds=d:=⟨⟨d,h⟩,hD _ _ _ (jN ⟨d,h⟩) h⟩
section
variable {H:Type} {enc:TypeId×Value->H} {P:Program} {ν:List (Nat×Nat)}
def C5 [cP]{cj:List Nat}{Y:Ctx}(hok:Ok P ν cj Y){fid n k base:Nat}{f:Func}{s:ChangeSpec}{tb:TypeId}{shs:List (Bool×List Lf)}{r:Reach}
  {W:World} {args:Array Value} {ds gs:List (DataW H)} {before:List MemPlace}
  (hf:P.funcs[fid]? =some f) (hnm:(f.name== "runtime.NumGoroutine")=false) (hbody:f.body.isSome=true) (hn:dH ν fid=some n)
  (hl:laidOutB P=true) (hts:(f.params.toList.all fun t=>P.readableRec t&&decide (t<P.types.size))=true)
  (hsh:m7 P k f.params.toList=some shs) (hres:f.resultTypes=#[tb]) (htb:P.underlying tb=some .bool)
  (hvars:s.vars=[]) (hfn:∀xs:List (DataW H),xs.length=f.params.toList.length->s.fn H xs={results:=[.lit (.bool true)],args:=xs})
  (hgd:cP.gd (uq W)) (hpre:∀es,uw shs es (L4 ds)->(∀i,i<es.length->∃v,RD ν (uq W) v (es.getD i .any))->Y.pre n es/\Y.val n es=.bool true)
  (hargs:∀(j:Nat) t v,f.params[j]? =some t->args[j]? =some v->Value.okWide P W r base t v)
  (hW:DataW.Whole enc P f.params.toList s.vars false W args.toList ds gs before):
  Calls P fid args W fun e W'=>∃v,e=.returned v/\s.post enc P f false true false false W args v W':=by
 have hW':=hW;obtain⟨p,q,hA,hV,rfl,hz,hnd⟩:=hW;rw[hvars]at hV;obtain⟨rfl,rfl⟩:=trodVars_none hV;obtain⟨es,h1,h2,h3,h4,h5⟩:=D2 (ν:=ν) f.params.toList shs args.toList ds p hsh (fun j t v e1 e2=>hargs j t v (by simpa using e1) (by simpa using e2)) hA;have hsz:args.size=es.length:=by simpa using h2.symm
 obtain⟨hp1,hp2⟩:=hpre es h1 fun i hi=>⟨_,h5 i hi⟩
 have hd:=hok.pure fid n hn (uq W) args es hsz (fun i hi=>by
  have:=h5 i hi;have e:args.toList.getD i undef=args.getD i undef:=by
   have hi':i<args.size:=ae;simp[List.getD,Array.getD,hi']
  rwa [e]at this) h4 (fun b hb=>hb) hgd hp1
 rw[gQ hf hnm hbody args]at hd;rcases hd with⟨v,x',hd|hd,_⟩|⟨f',args',hd,hc⟩
 .cases hd
 .cases hd.1
 .cases hd;refine Calls.mono hc fun e W' he=>?_
  match e,he with
  | .returned v,he=>
   obtain⟨x',rfl,hp,hr⟩:=he;rw[hp2]at hr;obtain rfl:v=.bool true:=by cases hr;rfl
   have hb:Below W.heap.size W x'.w:=hp.grow.below;have hlt:=hW'.lt;have e1:s.fn H (ds++[])={results:=[.lit (.bool true)],args:=ds}:=by rw[gD];exact hfn ds h3
   refine⟨_,rfl,xx (pa:=p) (pv:=[]) hW' (fun b sp hd=>?_) (fun sp hsp=>?_) (fun sp hsp=>?_) rfl hb (ok_one hres rfl (okWide_bool_mk htb _))⟩
   .rw[e1,hres];exact trodAll_mk1 (shut_bool htb _)
   .rw[e1];exact qp hl hb _ _ _ _ hts (fun x hx=>by simpa using hlt x (by simpa using hx)) (fun x hx=>hsp x (by simpa using hx)) hA
   .rw[e1,hvars];rfl
end
end
section
open Go.RowKit Go.ChangeShapes Go.WideShapes
end
section
open Go.RowKit Go.ChangeShapes Go.WideShapes
end
end Go.Abs
section
namespace Go.Proofs.YtfijeeijkndliaaGreatDoor
open Go.Abs Go.ChangeShapes Go.WideShapes Go.ChangeAt Go.RowKit Go.Proofs
def own:ownKnob Tryz.prog.godebug=none:=by kernel_rfl
def Jv:laidOutB Tryz.prog=true:=by kernel_rfl
def rU {P:Program}{W:World}{y:String×DataW Unit}{l:List (String×DataW Unit)}(h:laidMet P (y::l) W):laidMet P l W:=by
 obtain⟨ps,⟨g,t,cs,fuel,p,q,_,_,_,_,h1,rfl⟩,h2,h3⟩:=h;refine⟨q,h1,(List.nodup_append.1 h2).2.1,fun b off hm=>h3 b off (by simp[hm])⟩
def Es {W:World}{b:Nat}{o:Nat}{v:Value}(h:W.cell? ⟨b,o,none⟩=some v):b<W.heap.size:=by
 unfold World.cell? at h;split at h
 .rename_i h2;exact(Array.getElem?_eq_some_iff.mp h2).1
 .cases h
def SW {W:World}(hL:laidMetH Tryz.prog Rows.manifestRisesRow.laid W)(hsh:W.ShapedOpen Tryz.prog):cP.gd (uq W):=by
 have hL':laidMet Tryz.prog Rows.manifestRisesRow.laid W:=hL;have htab:Lib.TabIs Tryz.prog W "internal/strconv.uint64pow10" .u64 Lib.pow10Tab:=
  Lib.tabIs_of_head (g:=3) (t:=261) (e:=58) (n:=20) (by kernel_rfl) (by kernel_rfl) (by kernel_rfl) (by kernel_rfl) (by kernel_rfl) (by kernel_rfl) (rU (rU hL'))
 obtain⟨m,hm⟩:∃m,W.cell? ⟨0,0,none⟩=some (.int .i64 m):=Go.Proofs.cell_of_shapedOpen_int (zero:=#[.int .i64 0]) (t:=3) hsh (of_decide_eq_true (by kernel_rfl)) (by kernel_rfl) rfl (by kernel_rfl) (by kernel_rfl) Tryz.underlying3
 have h3:=htab.cell tJ 0 (by decide);exact⟨⟨Es hm,m,hm⟩,Es h3,htab⟩
mutual
def AL {H:Type}:DataW H->List Value
 | .lit (.int k n)=>[.int k n]
 | .agg ps=>IY ps
 |_=>[]
def IY {H:Type}:List (DataW H)->List Value
 |[]=>[]
 |d::r=>AL d++IY r
end
def put (d:DataW Unit):Obj->Obj
 | .cells _ t frozen=>.cells (AL d).toArray t frozen
 |o=>o
noncomputable def sQ (os:Os):World:=
 {World.holding Tryz.prog os ⟨#[],#[],[]⟩with heap:=(((((World.holding Tryz.prog os ⟨#[],#[],[]⟩).heap.modify 1 (put Rows.laid_unicode_utf8_first)).modify 2 (put Rows.laid_unicode_utf8_acceptRanges)).modify 3 (put Rows.laid_internal_strconv_uint64pow10)).modify 4 (put Rows.laid_math_bits_deBruijn32tab)).modify 5 (put Rows.laid_math_bits_deBruijn64tab)}
end Go.Proofs.YtfijeeijkndliaaGreatDoor
end
section
namespace Go.Proofs.YtfijeeijkndliaaGreatDoor
open Go.Abs Go.ChangeShapes Go.WideShapes Go.ChangeAt Go.RowKit Go.Proofs
def fK:Array Value:=#[.slice none 0 0,.int .i64 0]
def nD (os:Os):laidMet Tryz.prog Rows.manifestRisesRow.laid ((sQ os).forCall (fun _ _=>0) ⟨#[],fK,[]⟩).memory:=
 laidMet_of_run' 8 (by kernel_rfl) (by kernel_rfl)
def oZ:m7 Tryz.prog 20 Tryz.f7.params.toList=some [(false,[.sl false 1 [.int .i64]]),(false,[.int .i64])]:=by kernel_rfl
def rY {W:World}{es:List D}{n:Nat}(h:uw [(false,[.sl false 1 [.int .i64]]),(false,[.int .i64])] es n)(hr:∀i,i<es.length->∃v,RD qO (uq W) v (es.getD i .any)):(xi bB).pre 1207 es/\(xi bB).val 1207 es=.bool true:=by
 obtain⟨d1,_,n1,m1,rfl,a1,h1,d2,_,n2,m2,rfl,a2,h2,rfl⟩:=h;obtain⟨v1,rfl,k1⟩:=Jq (Ey h1);obtain⟨v2,rfl⟩:=Mx (Ey h2);exact ctxp R3 fun T h=>h v1 v2
def qc (os:Os){H:Type}(enc:TypeId×Value->H):∃places,DataW.whole enc Tryz.prog ((sQ os).forCall (fun _ _=>0) ⟨#[],fK,[]⟩).memory Tryz.f7.params.toList Rows.manifestRisesSpec.vars false fK.toList 8=
  some ([.nil,.lit (.int .i64 0)],[],places):=
 ⟨[],by kernel_rfl⟩
set_option maxRecDepth 100000 in
theorem oH (os:Os)(started:os.Started)(H:Type)(enc:TypeId×Value->H)(F:Stop.Interp):
  ReturnsInHanded {} Tryz.checked os 7 .any ((OpenSpec.ofChange Rows.manifestRisesSpec).preRow enc Tryz.prog Tryz.f7 Rows.manifestRisesRow.domain false Rows.manifestRisesRow.laid) (((OpenSpec.ofChange Rows.manifestRisesSpec).at F).post enc Tryz.prog Tryz.f7 false true false false):=by
 obtain⟨places,hx⟩:=qc os enc;refine returnsInHanded_of_row (C:=Tryz.checked) (s:=OpenSpec.ofChange Rows.manifestRisesSpec) own started (by kernel_rfl) Tryz.func7
  (witness_row_at (enc:=enc) (C:=Tryz.checked) false (sQ os) fK rfl (by kernel_rfl) (by kernel_rfl) (by kernel_rfl)
    (OpenSpec.preRow_of_cond 8 hx (by kernel_rfl) (fun k hk=>by cases hk) (by kernel_rfl) (nD os))) ?_
 intro W base args ds gs before uc hW _ _ _ hL hsh _;refine C5 (n:=1207) (k:=20) (s:=(OpenSpec.ofChange Rows.manifestRisesSpec).at F) (tb:=4) okY Tryz.func7 (by kernel_rfl) (by kernel_rfl) (by kernel_rfl) Jv (by kernel_rfl) oZ (by kernel_rfl) (by kernel_rfl) rfl (fun xs hx=>?_) (SW hL hsh)
  (fun es he hr=>rY he hr) uc hW
 match xs,hx with
 |[a,b],_=>rfl
def sJ:Tryz.prog.inPlace 7=Rows.manifestRisesRow.inPlace:=by kernel_rfl
def sK:Tryz.prog.unfollowed 7=Rows.manifestRisesRow.unfollowed:=by kernel_rfl
def sL:Tryz.prog.recurses 7=Rows.manifestRisesRow.recurses:=by kernel_rfl
def sM:Tryz.prog.varsNamed 7=Rows.manifestRisesRow.named:=by kernel_rfl
def oo:joinedFacts Tryz.prog 7 Tryz.f7 (OpenSpec.ofChange Rows.manifestRisesSpec).bare Rows.manifestRisesRow=true:=by
 unfold joinedFacts;rw[sJ,sK,sL,sM]
 kernel_rfl
def qZ:Rows.ManifestRisesSaid:=
 OpenClaim.holds_of_cond 7 Tryz.f7 rfl rfl rfl rfl rfl rfl rfl ⟨rfl,rfl,rfl,rfl,rfl⟩ rfl rfl rfl rfl rfl (by kernel_rfl) Tryz.func7 oo
  (of_decide_eq_true (by kernel_rfl)) (by unfold Func.isWrapper;first|(rw[if_pos (by decide+kernel)];kernel_rfl)|(rw[if_neg (by decide+kernel)];exact⟨rfl,rfl⟩))
  (fun os started H enc _ F=>by rw[OpenClaim.pre_eq_preRow];exact oH os started H enc F)
def qa (f:FuncId)(fn:Func)(hf:Tryz.pinned.checked.prog.funcNamed "linchpin/linchpinlaw16.ManifestRises" =some f)(hfn:Tryz.pinned.checked.prog.funcs[f]? =some fn):
  false=Tryz.pinned.checked.prog.looks []/\∀(j:Nat) t,fn.params[j]? =some t->Tryz.pinned.checked.prog.wantsStandIn t=false:=by
 obtain rfl:f=7:=Option.some.inj ((show Tryz.prog.funcNamed "linchpin/linchpinlaw16.ManifestRises" =some 7 by kernel_rfl).symm.trans hf) |>.symm
 obtain rfl:fn=Tryz.f7:=(Option.some.inj (Tryz.func7.symm.trans hfn)).symm;refine⟨by kernel_rfl,fun j t ht=>?_⟩;have hall:(Tryz.f7.params.toList.all fun t=>!Tryz.prog.wantsStandIn t)=true:=by kernel_rfl
 have:=List.all_eq_true.1 hall t (by simpa using Array.mem_of_getElem? ht);show Tryz.prog.wantsStandIn t=false;simpa using this
theorem card_manifestRises:Rows.ManifestRisesCardSaid:=
 Claim7.holds_tied_plain_at .later [] _ _ _ _ qZ (fun _ h=>by cases h) (by kernel_rfl) (fun _ h=>by cases h) manifestRises_row_tie rfl ⟨rfl,rfl⟩ (by kernel_rfl) rfl qa (by kernel_rfl)
end Go.Proofs.YtfijeeijkndliaaGreatDoor
end
#print axioms Go.Proofs.YtfijeeijkndliaaGreatDoor.card_manifestRises
