/- A part of the proofs. -/
import Derived.Scope
import Derived.Test.YtfijeeijkndliaaGreatDoorP02
set_option linter.all false
set_option maxRecDepth 60000
set_option maxHeartbeats 2000000
namespace Go.Abs
section
variable [df]
section
variable {C:CC} {Y:Ctx}
def ic.up {st:St}{x:X}(h:ic st x){n:Nat}(hn:st.nx<=n):ic ⟨n,st.m⟩ x:=
 ⟨fun l hl=>h.β l (c7 hn hl),fun l hl=>cz (h.m l hl) hn⟩
def GP.iff {env:List cA}{DD:List (Option Nat)}{VS:List cA}{D D':Nat->Prop}{a:Act}{x:X}(h:GP C env DD VS D a x)(hD:∀p,D' p↔D p):GP C env DD VS D' a x:=by
 have:D'=D:=funext fun p=>propext (hD p)
 subst this;exact h
def GP.ext {env:List cA}{DD:List (Option Nat)}{vs:List cA}{a:Act}{x:X}{k:Nat}(e:cA)(h:GP C env DD vs (· <k) a x)(hk:vs.length=k):GP C env DD (vs++[e]) (· <k) a x:=by
 have hg:∀p,p<k->(vs++[e]).getD p .un=vs.getD p .un:=fun p hp=>by rw[dN,aC ae]
 exact⟨fun p t hp h1 h2=>by rw[hg p hp]at h2⊢;exact h.val p t hp h1 h2,fun p t hp h1 h2=>by rw[hg p hp]at h2;exact h.und p t hp h1 h2,h.old,h.size,h.defers⟩
def ie.eq {ν:List (Nat×Nat)}{x:X}{f f':Nat->Option cr}(h:ie ν x f)(e:∀l,f' l=f l):ie ν x f':=by
 have:f'=f:=funext e;subst this;exact h
def UO {ops:Array Oper}{l:List GI}(hsp:Spec C ops.toList l)(hΓ:Ok C.P C.ν C.dr Y){Q:Exit->Act->World->Prop}{env:List cA}{K:List cA->St->Prop}{x0:X}
  (hK:∀vs' st' a' x',K vs' st'->vs'.length=ops.size->GP C env (ops.toList.map (·.dst)) vs' (· <ops.size) a' x'->Step x0 x'->ie C.ν x' (look st'.m)->ic st' x'->Q .normal a' x'.w):
  ∀(n k:Nat) (vs:List cA) (st:St) (x:X) (a:Act),k+n=ops.size->vs.length=k->GP C env (ops.toList.map (·.dst)) vs (· <k) a x->Step x0 x->ie C.ν x (look st.m)->ic ⟨st.nx+k,st.m⟩ x->
   iD Y false (l.drop k) env vs st K->wpOps C.P ops Q (List.range' k n) a x.w:=by
 intro n;induction n with
 |zero=>
  intro k vs st x a hkn hk hmid hst hs hf hw;have hlen:=hsp.len;have hd:l.drop k=[]:=nP (by simp at hlen;omega);rw[hd]at hw;simp only[iD]at hw;simp only[List.range'_zero,wpOps];obtain rfl:k=ops.size:=ae;exact hK vs _ a x hw hk hmid hst hs (by rw[hk];exact hf)
 |succ n ih=>
  intro k vs st x a hkn hk hmid hst hs hf hw;have hkl:k<ops.size:=ae;obtain⟨o,ho⟩:∃o,ops[k]? =some o:=⟨ops[k],by simp[hkl]⟩
  have ho':ops.toList[k]? =some o:=by simpa using ho
  obtain⟨g,hg1,hg2,hg3⟩:=hsp.op k o ho';have hlk:k<l.length:=by have:=hsp.len;simp at this;omega
  have hdrop:l.drop k=g::l.drop (k+1):=by
   rw[kS hlk];congr 1;exact(List.getElem?_eq_some_iff.1 hg1).2
  rw[hdrop]at hw;have hvt:vs.take k=vs:=fq ae;have hρ:BI C ((ops.toList.map (·.dst)).take k) (Src.ev env vs) a.eval x o.op.operands.toList:=by
   have:=hmid.rho (i:=k) (os:=o.op.operands.toList) (fun t p _ _=>⟨fun h=>h,fun h=>ae⟩)
   rwa [hvt]at this
  have hcst:∀d,Src.ev env vs (.c d)=⟨true,d⟩:=fun _=>rfl
  have hdst:(ops.toList.map (·.dst))[k]? =some o.dst:=by rw[List.getElem?_map,ho',Option.map_some]
  have hput:∀(e:cA) (v:Value) (x':X),Le x x'->(e.ok=true->RD C.ν x' v e.d)->(e.ok=false->v=undef)->GP C env (ops.toList.map (·.dst)) (vs++[e]) (· <k+1) (a.put o.dst v) x':=by
   intro e v x' hle h1 h2;have he:(vs++[e]).getD k .un=e:=by rw[dN,ar ae];simp[hk]
   refine(hmid.ext e hk).put (i:=k) hle hdst (fun t ht=>⟨(hsp.dst k o t ho' ht).1,fun p hp e'=>hp (hsp.distinct (by rw[hdst,ht]) e')⟩) (by rw[he];exact h1) (by rw[he];exact h2) (fun p=>ae)
  simp only[List.range'_succ,wpOps,ho];obtain⟨i,gd⟩:=g;by_cases hcm:i.dT=true
  .cases i<;>simp only[bd.dT]at hcm<;>try cases hcm
   .rename_i f ss;simp only[iD]at hw;obtain⟨w1,w2,w3⟩:=hw;have hfl:=lS (g:=⟨.callM f ss,gd⟩) hmid hg3 (fun j w _ h=>h) (by rw[hvt];exact w1);simp only[hvt]at hfl;rw[hfl];cases hfg:flag vs gd with
    |true=>
     rw[aC rfl];left;obtain⟨w4,w5⟩:=w2 hfg;rw[hk]at w5;refine(aaI (st:=⟨st.nx+k,st.m⟩) hcst hΓ (by rcases hg2 with h|⟨_,_,_,h,_⟩|⟨_,_,h,_⟩|⟨_,_,_,_,h,_⟩|⟨_,_,_,h,_⟩;exact h;cases h;cases h;cases h;cases h) hρ w4 hs hf w5).wp (fun v x' hG=>?_);obtain⟨d,st',hK1,hst1,hrd,hs1,hf1⟩:=hG;obtain⟨hnx,hw'⟩:=hK1;refine ih (k+1) (vs++[⟨true,d⟩]) ⟨st'.nx-k,st'.m⟩ x' (a.put o.dst v) ae (by simp[hk]) (hput ⟨true,d⟩ v x' hst1.le (fun _=>hrd) (fun h=>by cases h)) (hst.trans hst1) hs1 ?_ hw';exact hf1.up (by simp only;omega)
    |false=>
     rw[ar aI];refine ih (k+1) (vs++[⟨false,.any⟩]) st x (a.put o.dst undef) ae (by simp[hk]) (hput ⟨false,_⟩ undef x (Le.refl x) (fun h=>by cases h) (fun _=>rfl)) hst hs ?_ (w3 hfg);exact⟨fun l' hl'=>hf.β l' (by have hl'':st.nx+(k+1)<=l':=hl';show st.nx+k<=l';omega),fun l' hl'=>by have:=hf.m l' hl';simp only at this⊢;omega⟩
   .rename_i f ss;simp only[iD]at hw;obtain⟨w1,w2,w3⟩:=hw;have hfl:=lS (g:=⟨.callvM f ss,gd⟩) hmid hg3 (fun j w _ h=>h) (by rw[hvt];exact w1);simp only[hvt]at hfl;rw[hfl];cases hfg:flag vs gd with
    |true=>
     rw[aC rfl];left;obtain⟨w0,w4,w5⟩:=w2 hfg;rw[hk]at w5;cases hd:(Src.ev env vs f).d<;>simp only[hd]at w5;refine(W5 (st:=⟨st.nx+k,st.m⟩) hΓ (by rcases hg2 with h|⟨_,_,_,h,_⟩|⟨_,_,h,_⟩|⟨_,_,_,_,h,_⟩|⟨_,_,_,h,_⟩;exact h;cases h;cases h;cases h;cases h) hρ w0 hd w5.1 w4 hs hf w5.2).wp (fun v x' hG=>?_);obtain⟨d,st',hK1,hst1,hrd,hs1,hf1⟩:=hG;obtain⟨hnx,hw'⟩:=hK1;refine ih (k+1) (vs++[⟨true,d⟩]) ⟨st'.nx-k,st'.m⟩ x' (a.put o.dst v) ae (by simp[hk]) (hput ⟨true,d⟩ v x' hst1.le (fun _=>hrd) (fun h=>by cases h)) (hst.trans hst1) hs1 ?_ hw';exact hf1.up (by simp only;omega)
    |false=>
     rw[ar aI];refine ih (k+1) (vs++[⟨false,.any⟩]) st x (a.put o.dst undef) ae (by simp[hk]) (hput ⟨false,_⟩ undef x (Le.refl x) (fun h=>by cases h) (fun _=>rfl)) hst hs ?_ (w3 hfg);exact⟨fun l' hl'=>hf.β l' (by have hl'':st.nx+(k+1)<=l':=hl';show st.nx+k<=l';omega),fun l' hl'=>by have:=hf.m l' hl';simp only at this⊢;omega⟩
   .rename_i s;simp only[iD]at hw;obtain⟨rfl,w0,w1,w2⟩:=hw;have hfl:Region.wanted o (yielded ops a.tmps)=true:=by
     rw[lS (g:=⟨.isNl s,none⟩) hmid hg3 (fun j w _ h=>h) (by rw[hvt];trivial)];rfl
    rw[aC hfl];left;obtain⟨b,hb,hrun⟩:=adz hcst (by rcases hg2 with h|⟨_,_,_,h,_⟩|⟨_,_,h,_⟩|⟨_,_,_,_,h,_⟩|⟨_,_,_,h,_⟩;exact h;cases h;cases h;cases h;cases h) hρ w0 w1;refine iu.wp (G:=fun v x'=>v=.bool b/\x'=x) (.inl ⟨_,x,.inl hrun,rfl,rfl⟩) (fun v x' hG=>?_);obtain⟨rfl,rfl⟩:=hG;refine ih (k+1) (vs++[⟨true,.bool b⟩]) st _ _ ae (by simp[hk]) (hput ⟨true,_⟩ _ _ (Le.refl _) (fun _=>.bool b) (fun h=>by cases h)) hst hs ?_ (w2 b hb);exact⟨fun l' hl'=>hf.β l' (by have hl'':st.nx+(k+1)<=l':=hl';show st.nx+k<=l';omega),fun l' hl'=>by have:=hf.m l' hl';simp only at this⊢;omega⟩
  .have hcm':i.dT=false:=by simpa using hcm
   have hL:x.β (st.nx+k)=none:=hf.β _ (aH _);have hlL:look st.m (st.nx+k)=none:=by
    cases hx:look st.m (st.nx+k)with
    |none=>rfl
    |some b=>have:=hf.m (st.nx+k) (by simp only;rw[hx];simp);simp only at this;omega
   by_cases hfk:i.uv false gd=true
   .rw[Ie hcm' hfk]at hw;obtain⟨w1,w2,w3⟩:=hw;have hfl:=lS (g:=⟨i,gd⟩) hmid hg3 (fun j w _ h=>h) (by rw[hvt];exact w1);simp only[hvt]at hfl;rw[hfl];rw[hk]at w2;cases hfg:flag vs gd with
    |true=>
     rw[aC rfl];left;obtain⟨hob,hw'⟩:=w2 hfg;have hag:KM (look st.m) st.m (i.pS (Src.ev env vs)):=by
      unfold KM;split<;>intros<;>rfl
     refine(JK (L:=st.nx+k) hg2 hcm' hΓ hρ hcst hob hs hag hL hlL).wp (fun v x' hG=>?_);obtain⟨g1,g2,g3,g4⟩:=hG;refine ih (k+1) (vs++[⟨true,_⟩]) _ x' (a.put o.dst v) ae (by simp[hk]) (hput ⟨true,_⟩ v x' g1.le (fun _=>g2) (fun h=>by cases h)) (hst.trans g1) ?_ ?_ hw'
     .refine g3.eq fun l'=>?_
      by_cases hlw:l'∈i.wr (Src.ev env vs) (st.nx+k)
      .simp[lz,hlw]
      .simp only[lz,hlw,aZ];exact AO hlw
     .refine⟨fun l' hl'=>?_,fun l' hl'=>?_⟩
      .have hl'':st.nx+(k+1)<=l':=hl';rw[g4 l' ae];exact hf.β l' (by show st.nx+k<=l';omega)
      .show l'<st.nx+(k+1);rcases yV (.inr hob) hl' with h|h
       .have:=hf.m l' h;simp only at this;omega
       .omega
    |false=>
     rw[ar aI];have hw':=w3 hfg;refine ih (k+1) (vs++[⟨false,.any⟩]) st x (a.put o.dst undef) ae (by simp[hk]) (hput ⟨false,_⟩ undef x (Le.refl x) (fun h=>by cases h) (fun _=>rfl)) hst hs ?_ hw';exact⟨fun l' hl'=>hf.β l' (by have hl'':st.nx+(k+1)<=l':=hl';show st.nx+k<=l';omega),fun l' hl'=>by have:=hf.m l' hl';simp only at this⊢;omega⟩
   rw[p7 hcm' (by simpa using hfk)]at hw;obtain⟨w1,w2,w3⟩:=hw;have hfl:=lS (g:=⟨i,gd⟩) hmid hg3 (fun j w _ h=>h) (by rw[hvt];exact agt w1);simp only[hvt]at hfl;rw[hfl];rw[hk]at w3;cases hfg:flag vs gd with
   |true=>
    rw[aC rfl];left;have hob:=w2 hfg;have hasm:i.KN false (Src.ev env vs):=by
     refine Zv fun s hs' _ hok=>?_
     obtain⟨p,hp1,hp2⟩:=SA (C:=C) (o:=o) (s:=s) (defs:=(ops.toList.map (·.dst)).take k) (by rcases hs' with rfl|rfl<;>rcases hg2 with h|⟨_,_,_,h,_⟩|⟨_,_,h,_⟩|⟨_,_,_,_,h,_⟩|⟨_,_,_,h,_⟩<;>first|exact .inl h|exact .inr h|cases h);exact⟨_,_,_,hρ p hp1 s hp2 hok⟩
    obtain⟨dv,hdv,hw'⟩:=w3 (fun _=>hasm);replace hdv:=hdv hfg;have hag:KM (look st.m) st.m (i.pS (Src.ev env vs)):=by
     unfold KM;split<;>intros<;>rfl
    refine(JK (L:=st.nx+k) hg2 hcm' hΓ hρ hcst hob hs hag hL hlL).wp (fun v x' hG=>?_);obtain⟨g1,g2,g3,g4⟩:=hG;rw[hfg]at hw';rw[hdv]at g2;refine ih (k+1) (vs++[⟨true,_⟩]) _ x' (a.put o.dst v) ae (by simp[hk]) (hput ⟨true,_⟩ v x' g1.le (fun _=>g2) (fun h=>by cases h)) (hst.trans g1) ?_ ?_ hw'
    .refine g3.eq fun l'=>?_
     by_cases hlw:l'∈i.wr (Src.ev env vs) (st.nx+k)
     .simp[lz,hlw]
     .simp only[lz,hlw,aZ];exact AO hlw
    .refine⟨fun l' hl'=>?_,fun l' hl'=>?_⟩
     .have hl'':st.nx+(k+1)<=l':=hl';rw[g4 l' ae];exact hf.β l' (by show st.nx+k<=l';omega)
     .show l'<st.nx+(k+1);rcases yV (.inr hob) hl' with h|h
      .have:=hf.m l' h;simp only at this;omega
      .omega
   |false=>
    rw[ar aI];have hcalm:i.calm=true:=by
     cases gd with
     |none=>simp[flag]at hfg
     |some jw=>obtain⟨j,w⟩:=jw;exact w1.1
    obtain⟨dv,hdv,hw'⟩:=w3 (fun h=>by rw[hfg]at h;cases h);rw[hfg]at hw';refine ih (k+1) (vs++[⟨false,_⟩]) _ x (a.put o.dst undef) ae (by simp[hk]) (hput ⟨false,_⟩ undef x (Le.refl x) (fun h=>by cases h) (fun _=>rfl)) hst ?_ ?_ hw'
    .refine hs.less fun l'=>?_
     by_cases hlw:l'∈i.wr (Src.ev env vs) (st.nx+k)
     .exact .inr (.inr (by rw[nR hcalm hlw];exact hL))
     .exact .inl (AO hlw)
    .refine⟨fun l' hl'=>hf.β l' (by have hl'':st.nx+(k+1)<=l':=hl';show st.nx+k<=l';omega),fun l' hl'=>?_⟩;show l'<st.nx+(k+1);rcases yV (Y:=Y) (.inl hcalm) hl' with h|h
     .have:=hf.m l' h;simp only at this;omega
     .omega
end
end
section
variable [df]
section
variable {C:CC} {Y:Ctx}
structure Trace (Y:Ctx)(l:List GI)(env:List cA)(nx:Nat)(VS:List cA)(M:Nat->List (Nat×cr)):Prop where
 step:∀(k:Nat) (g:GI),l[k]? =some g->M (k+1)=g.i.dr Y (Src.ev env (VS.take k)) (M k) (nx+k)
 stop:∀k:Nat,l[k]? =none->M (k+1)=M k
 ent:∀(k:Nat) (g:GI),l[k]? =some g->(VS.getD k .un).ok=flag (VS.take k) g.g/\(flag (VS.take k) g.g=true->g.i.val Y (Src.ev env (VS.take k)) (M k) (nx+k)=(VS.getD k .un).d)
 gok:∀(k:Nat) (g:GI),l[k]? =some g->gok (VS.take k) g.i g.g
 ff:∀(k:Nat) (g:GI),l[k]? =some g->flag (VS.take k) g.g=true->g.i.ff Y (Src.ev env (VS.take k)) (M k)
 len:VS.length=l.length
 fresh0:∀l',look (M 0) l'≠none->l'<nx
def F3 {env:List cA}{K:List cA->St->Prop}:∀(l:List GI) (vs:List cA) (st:St),(∀g∈l,g.i.dT=false)->(∀g∈l,∀vs',g.i.KN true (Src.ev env vs'))->iD Y true l env vs st K->
  ∃(VS:List cA) (M:Nat->List (Nat×cr)),VS.take vs.length=vs/\VS.length=vs.length+l.length/\(∀k,k<=vs.length->M k=st.m)/\(∀k,vs.length+l.length<=k->M k=M (vs.length+l.length))/\
   (∀(k:Nat) (g:GI),l[k]? =some g->M (vs.length+k+1)=g.i.dr Y (Src.ev env (VS.take (vs.length+k))) (M (vs.length+k)) (st.nx+(vs.length+k))/\
     ((VS.getD (vs.length+k) .un).ok=flag (VS.take (vs.length+k)) g.g/\(flag (VS.take (vs.length+k)) g.g=true->g.i.val Y (Src.ev env (VS.take (vs.length+k))) (M (vs.length+k)) (st.nx+(vs.length+k))=(VS.getD (vs.length+k) .un).d))/\
     gok (VS.take (vs.length+k)) g.i g.g/\(flag (VS.take (vs.length+k)) g.g=true->g.i.ff Y (Src.ev env (VS.take (vs.length+k))) (M (vs.length+k))))/\
   K VS ⟨st.nx+(vs.length+l.length),M (vs.length+l.length)⟩
 |[],vs,st,_,_,h=>⟨vs,fun _=>st.m,aI,aI,fun _ _=>rfl,fun _ _=>rfl,fun k g h=>by simp at h,by simpa[iD]using h⟩
 |⟨i,g⟩::r,vs,st,hcm,hasm,h=>by
  rw[p7 (hcm _ (.head _)) rfl]at h;obtain⟨w1,w2,w3⟩:=h;obtain⟨dv,hdv,w3⟩:=w3 fun _=>hasm _ (.head _) vs
  obtain⟨VS,M,a1,a2,a3,a4,a5,a6⟩:=F3 r _ _ (fun g hg=>hcm g (.tail _ hg)) (fun g hg=>hasm g (.tail _ hg)) w3;simp only[bH,aM,aX,bI]at a1 a2 a3 a4 a5 a6;have b1:VS.take vs.length=vs:=by
   have:=ak (List.take vs.length) a1;rw[List.take_take,Nat.min_eq_left ae]at this;rw[this];simp
  have b2:VS.getD vs.length .un=⟨flag vs g,dv⟩:=by
   have:(VS.take (vs.length+1)).getD vs.length .un=VS.getD vs.length .un:=getD_take _ _ _ _ ae;rw[<-this,a1,dN,ar ae];simp
  refine⟨VS,fun k=>if k<=vs.length then st.m else M k,b1,by simp only[aM];omega,fun k hk=>by simp[hk],fun k hk=>?_,fun k gi hk=>?_, ?_⟩
  .simp only[aM]at hk⊢;rw[ar ae,ar ae,a4 k ae,a4 (vs.length+(r.length+1)) ae]
  .cases k with
   |zero=>
    simp only[List.getElem?_cons_zero,bq]at hk;subst hk;simp only[Nat.add_zero];rw[ar ae,aC ae,b1,b2,a3 (vs.length+1) ae];exact⟨rfl,⟨rfl,hdv⟩,w1,w2⟩
   |succ k=>
    grind
  .simp only[aM];rw[ar ae];have e:vs.length+1+r.length=vs.length+(r.length+1):=ae;rw[e]at a6;exact a6
def B6 {env:List cA}{K:List cA->St->Prop}{l:List GI}{st:St}(hcm:∀g∈l,g.i.dT=false)(hasm:∀g∈l,∀vs',g.i.KN true (Src.ev env vs'))(hf:∀l',look st.m l'≠none->l'<st.nx)
  (h:iD Y true l env [] st K):∃VS M,Trace Y l env st.nx VS M/\M 0=st.m/\K VS ⟨st.nx+l.length,M l.length⟩:=by
 obtain⟨VS,M,a1,a2,a3,a4,a5,a6⟩:=F3 l [] st hcm hasm h;simp only[aX,bI]at a1 a2 a3 a4 a5 a6;refine⟨VS,M,⟨fun k g hk=>(a5 k g hk).1,fun k hk=>?_,fun k g hk=>(a5 k g hk).2.1,fun k g hk=>(a5 k g hk).2.2.1,fun k g hk=>(a5 k g hk).2.2.2,a2, ?_⟩,a3 0 (aH _),a6⟩
 .grind
 .rw[a3 0 (aH _)];exact hf
section trace
variable {l:List GI} {env:List cA} {nx:Nat} {VS:List cA} {M:Nat->List (Nat×cr)}
def Trace.Jh (h:Trace Y l env nx VS M){k:Nat}{g:GI}(hg:l[k]? =some g):g.i.calm=true\/(g.g=none/\g.i.ff Y (Src.ev env (VS.take k)) (M k)):=by
 cases hc:g.i.calm with
 |true=>exact .inl rfl
 |false=>
  right;have h1:=h.gok k g hg;have hn:g.g=none:=by
   cases hgg:g.g with
   |none=>rfl
   |some jw=>obtain⟨j,w⟩:=jw;rw[hgg]at h1;have:=h1.1;rw[hc]at this;cases this
  exact⟨hn,h.ff k g hg (by rw[hn];rfl)⟩
def Trace.fresh (h:Trace Y l env nx VS M):∀(k l':Nat),look (M k) l'≠none->l'<nx+k
 |0,l',hl=>h.fresh0 l' hl
 |k+1,l',hl=>by
  cases hg:l[k]? with
  |none=>
   rw[h.stop k hg]at hl;have:=Trace.fresh h k l' hl;omega
  |some g=>
   rw[h.step k g hg]at hl;have hco:g.i.calm=true\/g.i.ff Y (Src.ev env (VS.take k)) (M k):=(h.Jh hg).imp id (·.2);rcases yV hco hl with h1|h1
   .have:=Trace.fresh h k l' h1;omega
   .omega
def Trace.l7 (h:Trace Y l env nx VS M){l':Nat}:∀(n u:Nat),(∀(q:Nat) (g:GI),u<=q->q<u+n->l[q]? =some g->l'∉g.i.wr (Src.ev env (VS.take q)) (nx+q))->look (M (u+n)) l'=look (M u) l'
 |0,u,_=>rfl
 |n+1,u,hq=>by
  rw[<-Trace.l7 h n u (fun q g h1 h2=>hq q g h1 ae)];rw[<-Nat.add_assoc];cases hg:l[u+n]? with
  |none=>rw[h.stop _ hg]
  |some g=>rw[h.step _ g hg];exact AO (hq (u+n) g ae ae hg)
def Trace.same (h:Trace Y l env nx VS M){l' u v:Nat}(hq:∀(q:Nat)(g:GI),min u v<=q->q<max u v->l[q]? =some g->l'∉g.i.wr (Src.ev env (VS.take q)) (nx+q)):look (M u) l'=look (M v) l':=by
 rcases Nat.le_total u v with huv|huv
 .have:=h.l7 (l':=l') (v-u) u (fun q g h1 h2=>hq q g ae ae)
  grind
 .have:=h.l7 (l':=l') (u-v) v (fun q g h1 h2=>hq q g ae ae)
  grind
end trace
def xq (acc:List Nat)(p:Nat):∀(es:List Edge),(tA acc es).testBit p=true->∃e∈es,Region.binds .any e=true/\(p=e.on\/(acc.getD e.on 0).testBit p=true)
 |[],h=>by simp[tA]at h
 |e::r,h=>by
  simp only[tA]at h;split at h
  .rename_i hb;rw[Nat.testBit_or,dw,Nat.testBit_or,dw]at h;rcases h with(h|h)|h
   .grind
   .exact⟨e,.head _,hb,.inr h⟩
   .obtain⟨e',h1,h2⟩:=xq acc p r h;exact⟨e',.tail _ h1,h2⟩
  .obtain⟨e',h1,h2⟩:=xq acc p r h;exact⟨e',.tail _ h1,h2⟩
def Hu:∀(ops:List Oper) (acc:List Nat),(rI acc ops).take acc.length=acc/\(rI acc ops).length=acc.length+ops.length/\
  ∀(j:Nat) (o:Oper),ops[j]? =some o->(rI acc ops).getD (acc.length+j) 0=tA ((rI acc ops).take (acc.length+j)) o.after.toList
 |[],acc=>⟨by simp[rI],by simp[rI],fun j o h=>by simp at h⟩
 |o::r,acc=>by
  obtain⟨a1,a2,a3⟩:=Hu r (acc++[tA acc o.after.toList]);simp only[bH,aM,aX,bI]at a1 a2 a3;have e:rI acc (o::r)=rI (acc++[tA acc o.after.toList]) r:=rfl;rw[e];have b1:(rI (acc++[tA acc o.after.toList]) r).take acc.length=acc:=by
   have:=ak (List.take acc.length) a1;rw[List.take_take,Nat.min_eq_left ae]at this;rw[this];simp
  refine⟨b1,by simp only[aM];omega,fun j o' hj=>?_⟩;cases j with
  |zero=>
   simp only[List.getElem?_cons_zero,bq]at hj;subst hj;rw[Nat.add_zero,b1];have:((rI (acc++[tA acc o.after.toList]) r).take (acc.length+1)).getD acc.length 0=(rI (acc++[tA acc o.after.toList]) r).getD acc.length 0:=getD_take _ _ _ _ ae;rw[<-this,a1,dN,ar ae];simp
  |succ j=>
   grind
def yU:∀(ops:List Oper) (p:Nat),CL p ops=true->∀(j:Nat) (o:Oper),ops[j]? =some o->∀e∈o.after,Region.binds .any e=true->e.on<p+j
 |[],p,_,j,o,h=>by simp at h
 |o::r,p,h,j,o',hj=>by
  simp only[CL,bM,List.all_eq_true]at h;cases j with
  |zero=>
   grind
  |succ j=>
   intro e he hb;have:=yU r (p+1) h.2 j o' (by simpa using hj) e he hb;omega
def Ax (bs:List Nat)(i j:Nat):Prop:=(bs.getD (max j i) 0).testBit (min j i)=true
def ExU (l:List GI)(gj gi:bd)(j i:Nat):Prop:=gj.pO=true/\gi.zk=true/\i<j/\∀q g,i<q->q<j->l[q]? =some g->g.i.calm=true\/g.i.pO=true
structure Order (ops:List Oper)(l:List GI)(bs:List Nat):Prop where
 bef:∀(j:Nat) (o:Oper),ops[j]? =some o->∀p,(bs.getD j 0).testBit p=true->∃e∈o.after,Region.binds .any e=true/\(p=e.on\/(bs.getD e.on 0).testBit p=true)
 edge:∀(j:Nat) (o:Oper),ops[j]? =some o->∀e∈o.after,Region.binds .any e=true->e.on<j
 reads:∀(j p:Nat) (oj op:Oper) (t:Nat),ops[j]? =some oj->ops[p]? =some op->op.dst=some t->t∈tmpsOf ops oj->p=j\/Ax bs p j
 effs:∀(j i:Nat) (gj gi:GI),l[j]? =some gj->l[i]? =some gi->gj.i.calm=false->gi.i.free=false->(gi.i.lM=false\/gj.i.isApp=true)->i=j\/Ax bs i j\/ExU l gj.i gi.i j i
def aaT {ops:List Oper}{l:List GI}(h:EP ops l=true):Order ops l (rI [] ops):=by
 simp only[EP,bM]at h;obtain⟨h1,h2,_,h4⟩:=h;obtain⟨b1,b2,b3⟩:=Hu ops [];simp only[aX,bI]at b2 b3;refine⟨fun j o hj p hp=>?_,fun j o hj e he hb=>by simpa using yU ops 0 h4 j o hj e he hb,fun j p oj op t hj hp hd ht=>?_,fun j i gj gi hj hi hc hpu hmk=>?_⟩
 .rw[b3 j o hj]at hp;obtain⟨e,e1,e2,e3⟩:=xq _ _ _ hp;refine⟨e,by simpa using e1,e2,e3.imp id fun h=>?_⟩;by_cases hlt:e.on<j
  .rwa [getD_take _ _ _ _ hlt]at h
  .simp only[List.getD,List.getElem?_take,hlt,aZ,Option.getD_none,Nat.zero_testBit]at h;cases h
 .have hjl:j<ops.length:=(List.getElem?_eq_some_iff.1 hj).1;have hpl:p<ops.length:=(List.getElem?_eq_some_iff.1 hp).1;simp only[UL,List.all_eq_true,List.mem_range]at h1;have:=h1 j hjl p hpl;simp only[hj,hp,hd,dw,beq_iff_eq,bE,List.contains_eq_mem,bC]at this;rcases this with(h|h)|h
  .exact .inl h
  .exact absurd ht h
  .exact .inr h
 .have hjl:j<l.length:=(List.getElem?_eq_some_iff.1 hj).1;have hil:i<l.length:=(List.getElem?_eq_some_iff.1 hi).1;simp only[agn,List.all_eq_true,List.mem_range]at h2;have:=h2 j hjl i hil;have hm:(gi.i.lM&& !gj.i.isApp)=false:=by rcases hmk with h|h<;>simp[h]
  simp only[hj,hi,hc,hpu,hm,Bool.false_or,dw,beq_iff_eq]at this;rcases this with(h|h)|h
  .exact .inl h
  .exact .inr (.inl h)
  .right;right;simp only[exU,bM,bh,List.all_eq_true,List.mem_range,dw]at h;obtain⟨x1,x2,x3,x4⟩:=h;refine⟨x1,x2,x3,fun q g hq1 hq2 hg=>?_⟩;have:=x4 q hq2;rw[hg]at this;rcases this with h|h
   .omega
   .simpa using h
def aiq {ops:List Oper}{l:List GI}(h:EP ops l=true):(∀g∈l,g.i.dT=false)\/Uf l (rI [] ops)=true:=by
 grind [EP]
def Sg {l:List GI}{bs:List Nat}(h:Uf l bs=true):∃l' BC,l=l'++BC/\UQ BC=true/\(∀q,q<BC.length->∀p,p<l'.length+q->(bs.getD (l'.length+q) 0).testBit p=true)/\∀g∈l',g.i.dT=false:=by
 unfold Uf at h;simp only at h;generalize List.findIdx (fun g:GI=>g.i.dT) l=n at h;simp only[bM,List.all_eq_true,List.mem_range,bE]at h;obtain⟨h1,h2,h3⟩:=h;have hn:n<l.length:=by
  rcases iZ n l.length with h|h
  .exact h
  .rw[nP h]at h1;cases h1
 have hl:(l.take n).length=n:=dk;exact⟨l.take n,l.drop n,(List.take_append_drop n l).symm,h1,fun q hq p hp=>by rw[hl]at hp⊢;exact h3 q (by simpa using hq) p hp,h2⟩
def Order.pre {ops os:List Oper}{l ls:List GI}{bs:List Nat}(h:Order (ops++os) (l++ls) bs):Order ops l bs:=by
 have ho:∀{j:Nat} {oj:Oper},ops[j]? =some oj->(ops++os)[j]? =some oj:=fun hj=>by
  rw[List.getElem?_append_left (List.getElem?_eq_some_iff.1 hj).1];exact hj
 have hl:∀{j:Nat} {gj:GI},l[j]? =some gj->(l++ls)[j]? =some gj:=fun hj=>by
  rw[List.getElem?_append_left (List.getElem?_eq_some_iff.1 hj).1];exact hj
 refine⟨fun j oj hj=>h.bef j oj (ho hj),fun j oj hj=>h.edge j oj (ho hj),fun j p oj op t hj hp hd ht=>h.reads j p oj op t (ho hj) (ho hp) hd ?_,fun j i gj gi hj hi hc hf hm=>?_⟩
 .grind [tmpsOf]
 .rcases h.effs j i gj gi (hl hj) (hl hi) hc hf hm with e|e|⟨e1,e2,e3,e4⟩
  .exact .inl e
  .exact .inr (.inl e)
  .exact .inr (.inr ⟨e1,e2,e3,fun q gq hq1 hq2 hg=>e4 q gq hq1 hq2 (hl hg)⟩)
def F2 {env:List cA}{K:List cA->St->Prop}:∀(r:List GI) (vs:List cA) (st:St),(∀g∈r,sufG g=true)->iD Y true r env vs st K=iD Y false r env vs st K
 |[],_,_,_=>by simp only[iD]
 |g::r,vs,st,h=>by
  have hg:=h g (.head _);have ih:=fun vs st=>F2 (env:=env) (K:=K) r vs st fun g hg=>h g (.tail _ hg)
  unfold sufG at hg;split at hg
  .simp only[iD,bd.uv,bd.calm,Bool.not_true,Bool.not_false,Bool.false_and,Bool.and_false,gP,aZ,bd.KN,ih]
  .simp only[iD,bd.uv,bd.calm,Bool.not_true,Bool.not_false,Bool.false_and,Bool.and_false,gP,aZ,bd.KN,ih]
  .simp only[iD,bd.uv,bd.calm,Bool.not_true,Bool.not_false,Bool.false_and,Bool.and_false,gP,aZ,bd.KN,ih]
  .cases hg
def abA {env:List cA}{K:List cA->St->Prop}{BC:List GI}(h:UQ BC=true){vs:List cA}{st:St}(hw:iD Y true BC env vs st K):iD Y false BC env vs st K:=by
 unfold UQ at h;split at h
 .simp only[List.all_eq_true]at h;simp only[iD]at hw⊢;simpa only[F2 _ _ _ h]using hw
 .simp only[List.all_eq_true]at h;simp only[iD]at hw⊢;simpa only[F2 _ _ _ h]using hw
 .cases h
def M0 {d:Bool}{env:List cA}{K:List cA->St->Prop}{b:List GI}:∀(a:List GI) (vs:List cA) (st:St),d=true->(∀g∈a,g.i.dT=false)->iD Y d (a++b) env vs st K->iD Y d a env vs st (fun vs' st'=>iD Y d b env vs' ⟨st'.nx-vs'.length,st'.m⟩ K)
 |[],vs,st,_,_,h=>by
  simp only[iD,fS]at h⊢;rw[Nat.add_sub_cancel];exact h
 |⟨i,g⟩::r,vs,st,hd,hcm,h=>by
  subst hd;rw[fY,p7 (hcm _ (.head _)) rfl]at h;rw[p7 (hcm _ (.head _)) rfl];exact⟨h.1,h.2.1,fun ha=>(h.2.2 ha).imp fun _ h2=>⟨h2.1,M0 r _ _ rfl (fun g hg=>hcm g (.tail _ hg)) h2.2⟩⟩
end
end
section
variable [df]
section
variable {C:CC} {Y:Ctx}
def filter_lt {p q:Nat->Bool}:∀(l:List Nat),(∀a∈l,q a=true->p a=true)->(∃a∈l,p a=true/\q a=false)->(l.filter q).length<(l.filter p).length
 |[],_,⟨a,h,_⟩=>by cases h
 |b::r,h1,⟨a,h2,h3,h4⟩=>by
  have hle:∀(l:List Nat),(∀a∈l,q a=true->p a=true)->(l.filter q).length<=(l.filter p).length:=by
   intro l;induction l with
   |nil=>intro _;simp
   |cons b r ih=>
    grind
  have hr:=hle r fun a ha=>h1 a (.tail _ ha)
  rw[List.filter_cons,List.filter_cons];cases h2 with
  |head=>simp only[h3,h4,ba];simp;omega
  |tail _ h2=>
   have ih:=filter_lt r (fun a ha=>h1 a (.tail _ ha)) ⟨a,h2,h3,h4⟩
   grind
def cnt (n:Nat)(listed:Array Bool):Nat:=((List.range n).filter fun p=>!listed.getD p false).length
theorem jy {listed:Array Bool}{i p:Nat}(h:i<listed.size):(listed.setIfInBounds i true).getD p false=if p=i then true else listed.getD p false:=by
 by_cases e:p=i
 .subst e;simp[h]
 .rw[ar e];exact getD_set_ne false (Ne.symm e)
def acK {n i:Nat}{listed:Array Bool}(hs:listed.size=n)(hi:i<n)(hl:listed.getD i false=false):cnt n (listed.setIfInBounds i true)<cnt n listed:=by
 refine filter_lt _ (fun a _ ha=>?_) ⟨i,by simpa using hi,by rw[hl];rfl,by rw[jy ae,aC rfl];rfl⟩
 grind [jy]
def aiy {defs:List (Option Nat)}{o:Oper}{i:bd}(hc:C.op defs o=some i)(h1:i.calm=false)(h2:i.isApp=false)(h3:i.dT=false):
  ∃s,(∃p∈o.op.operands.toList,C.src defs p=some s)/\(∀(J:Src->cA) (L:Nat),i.wr J L=dK (J s).d)/\∀(J:Src->cA) (m:List (Nat×cr)),i.ff Y J m->(J s).ok=true/\((∃l k i o,(J s).d=.ptr l k i o)\/∃l,(J s).d=.it l):=by
 cases ho:o.op with
 |store t p q=>
  simp only[CC.op,ho]at hc;split at hc
  .rename_i a b ha hb;split at hc
   .cases hc
   .simp only[bq]at hc;subst hc;refine⟨a,⟨p,by simp[Op.operands],ha⟩,fun _ _=>rfl,fun J m hob=>⟨hob.1,.inl ?_⟩⟩;have:=hob.2.2.2;cases hd:(J a).d<;>simp only[hd]at this;exact⟨_,_,_,_,rfl⟩
  .cases hc
 |next it b=>
  cases b
  .simp[CC.op,ho]at hc
  .simp only[CC.op,ho,eg]at hc;obtain⟨s,hs,rfl⟩:=hc;refine⟨s,⟨it,by simp[Op.operands],hs⟩,fun _ _=>rfl,fun J m hob=>⟨hob.1,.inr ?_⟩⟩;have:=hob.2;cases hd:(J s).d<;>simp only[hd]at this;exact⟨_,rfl⟩
 |call c=>
  obtain⟨callee,args,argTypes⟩:=c;cases callee with
  |builtin bu=>
   cases bu with
   |len=>simp only[CC.op,ho]at hc;(repeat' split at hc)<;>simp only[bq,reduceCtorEq]at hc<;>subst hc<;>simp[bd.calm]at h1
   |min=>simp only[CC.op,ho]at hc;(repeat' split at hc)<;>simp only[bq,reduceCtorEq]at hc<;>subst hc<;>simp[bd.calm]at h1
   |append=>simp only[CC.op,ho]at hc;(repeat' split at hc)<;>simp only[bq,reduceCtorEq]at hc<;>subst hc<;>simp[bd.isApp]at h2
   |_=>simp[CC.op,ho]at hc
  |value f=>
   cases f with
   |func fid=>
    simp only[CC.op,ho]at hc;split at hc
    .rename_i n ss k1 k2;split at hc
     .simp only[bq]at hc;subst hc;simp[bd.dT]at h3
     .split at hc
      .split at hc
       .rename_i r rest;simp only[bq]at hc;subst hc;have hr:∃p∈args.toList,C.src defs p=some r:=by
         cases hal:args.toList with
         |nil=>rw[hal]at k2;simp[CC.yv]at k2
         |cons q qs=>
          rw[hal]at k2;simp only[CC.yv]at k2;split at k2
          .rename_i e1 e2;simp only[bq,qR]at k2;obtain⟨rfl,_⟩:=k2;exact⟨q,aI,e1⟩
          .cases k2
        obtain⟨p,hp1,hp2⟩:=hr;refine⟨r,⟨p,by simp only[Op.operands,Call.operands];simp at hp1⊢;exact .inr hp1,hp2⟩,fun _ _=>rfl,fun J m hob=>⟨hob.1,.inl ?_⟩⟩;have:=hob.2.2.2;cases hd:(J r).d<;>simp only[hd]at this;exact⟨_,_,_,_,rfl⟩
       .cases hc
      .simp only[bq]at hc;subst hc;simp[bd.calm]at h1
    .cases hc
   |tmp t=>simp only[CC.op,ho]at hc;(repeat' split at hc)<;>simp only[bq,reduceCtorEq]at hc<;>subst hc<;>first|(simp[bd.calm]at h1;done)|(simp[bd.dT]at h3;done)
   |_=>simp[CC.op,ho]at hc
  |invoke r n=>simp[CC.op,ho]at hc
 |lookup t p q ok=>
  cases ok with
  |true=>simp[CC.op,ho]at hc
  |false=>simp only[CC.op,ho]at hc;(repeat' split at hc)<;>simp only[bq,reduceCtorEq]at hc;subst hc;simp[bd.calm]at h1
 |makeFunc fn fst caps=>cases fn<;>simp only[CC.op,ho]at hc<;>(repeat' split at hc)<;>(try simp only[bq,reduceCtorEq]at hc)<;>first
  |(subst hc;simp[bd.calm]at h1)
  |exact hc.elim
  |(simp only[eg]at hc;obtain⟨_,_,rfl⟩:=hc;simp[bd.calm]at h1)
 |_=>
  simp only[CC.op,ho]at hc
  (try cases hc)<;>(repeat' split at hc)<;>(try simp only[bq,reduceCtorEq,eg]at hc)<;>first
    |(subst hc;simp[bd.calm]at h1;done)
    |(subst hc;simp[bd.dT]at h3;done)
    |(obtain⟨s,hs,rfl⟩:=hc;simp[bd.calm]at h1;done)
    |exact hc.elim
    |cases hc
structure VV (C:CC)(ops:Array Oper)(l:List GI)(bs:List Nat)(env:List cA)(nx:Nat)(VS:List cA)(M:Nat->List (Nat×cr))(x0:X)(listed:Array Bool)(a:Act)(x:X)(f:Nat->Option cr)(c:Nat):Prop where
 mid:GP C env (ops.toList.map (·.dst)) VS (fun p=>listed.getD p false=true) a x
 step:Step x0 x
 pR:ie C.ν x f
 size:listed.size=ops.size
 closed:∀j,listed.getD j false=true->∀p,(bs.getD j 0).testBit p=true->listed.getD p false=true
 β:∀l',nx<=l'->(∀p,listed.getD p false=true->l'≠nx+p)->x.β l'=none
 nc:∀(p:Nat) (g:GI),l[p]? =some g->g.i.calm=false->(listed.getD p false=true↔p<c)
 mem:∀l',x.β l'≠none->f l'=look (M (max c (l'+1-nx))) l'
 wrβ:∀(q:Nat) (g:GI),l[q]? =some g->g.i.calm=false->g.i.isApp=false->listed.getD q false=true->∀l'∈g.i.wr (Src.ev env (VS.take q)) (nx+q),x.β l'≠none
section
variable {ops:Array Oper} {l:List GI} {bs:List Nat} {env:List cA} {nx:Nat} {VS:List cA} {M:Nat->List (Nat×cr)} {x0:X} {listed:Array Bool} {a:Act} {x:X} {f:Nat->Option cr} {c:Nat}
def HS (hs:listed.size=ops.size){p:Nat}(h:listed.getD p false=true):p<ops.size:=by
 grind
def VV.fin (h:VV C ops l bs env nx VS M x0 listed a x f c)(hsp:Spec C ops.toList l)(tr:Trace Y l env nx VS M)(hall:∀p,p<ops.size->listed.getD p false=true):
  GP C env (ops.toList.map (·.dst)) VS (· <ops.size) a x/\Step x0 x/\ie C.ν x (look (M l.length))/\ic ⟨nx+l.length,M l.length⟩ x:=by
 have hlen:l.length=ops.size:=by simpa using hsp.len
 have hβ:∀l',nx+l.length<=l'->x.β l'=none:=fun l' hl'=>h.β l' ae fun p hp=>by have:=HS h.size hp;omega
 refine⟨h.mid.iff fun p=>⟨fun hp=>hall p hp,fun hp=>HS h.size hp⟩,h.step,h.pR.less fun l'=>?_,hβ,fun l' hl'=>tr.fresh _ _ hl'⟩;by_cases hb:x.β l'=none
 .exact .inr (.inr hb)
 .left;rw[h.mem l' hb];have hlt:l'<nx+l.length:=by
   grind
  refine tr.same fun q g h1 h2 hg hw=>?_
  have hq:q<l.length:=(List.getElem?_eq_some_iff.1 hg).1;cases hc:g.i.calm with
  |true=>
   have:=nR hc hw;omega
  |false=>
   have:=(h.nc q g hg hc).1 (hall q ae);omega
def VV.all (ho:Order ops.toList l bs)(hs:listed.size=ops.size)(hr:Region.ready .any ops listed=[]):∀p,p<ops.size->listed.getD p false=true:=by
 intro p;induction p using Nat.strongRecOn with
 |_ p ih=>
  intro hp;cases hd:listed.getD p false with
  |true=>rfl
  |false=>
   exfalso;have hm:p∈Region.ready .any ops listed:=by
    rw[mem_ready];refine⟨?_,ops[p],by simp[hp],fun e he hb=>?_⟩
    .grind
    .have:=ho.edge p ops[p] (by simp[hp]) e he hb;exact ih e.on this ae
   rw[hr]at hm;cases hm
def Ht (ho:Order ops.toList l bs)(h:VV C ops l bs env nx VS M x0 listed a x f c){i:Nat}{o:Oper}(hi:ops[i]? =some o)(hni:listed.getD i false=false)
  (hed:∀e∈o.after,Region.binds .any e=true->listed.getD e.on false=true) {p:Nat} (hb:Ax bs p i) (hne:p≠i):(p<i->listed.getD p false=true)/\(i<=p->¬listed.getD p false=true):=by
 unfold Ax at hb;refine⟨fun hlt=>?_,fun hle hp=>?_⟩
 .rw[Nat.max_eq_left ae,Nat.min_eq_right ae]at hb;obtain⟨e,e1,e2,e3⟩:=ho.bef i o (by simpa using hi) p hb;rcases e3 with rfl|e3
  .exact hed e e1 e2
  .exact h.closed _ (hed e e1 e2) p e3
 .rw[Nat.max_eq_right ae,Nat.min_eq_left ae]at hb;have:=h.closed p hp i hb;rw[hni]at this;cases this
def Trace.disU (tr:Trace Y l env nx VS M){i n:Nat}{ag:Bool}{p:Src}{gd:Option (Nat×Bool)}(hi:l[i]? =some ⟨.ldU n ag p,gd⟩)(hf:flag (VS.take i) gd=true){l':Nat}(hl:l'∈dK (Src.ev env (VS.take i) p).d):
  ∀(j:Nat) (g:GI),i<j->l[j]? =some g->g.i.pO=true->(∀q g,i<q->q<j->l[q]? =some g->g.i.calm=true\/g.i.pO=true)->l'∉g.i.wr (Src.ev env (VS.take j)) (nx+j):=by
 intro j;induction j using Nat.strongRecOn with
 |_ j ih=>
  intro g hij hj hg hbt hw;obtain⟨k1,k2⟩:=tr.ff i _ hi hf;have hne:look (M i) l'≠none:=JH (Y:=Y) (i:=.ldU n ag p) ⟨k1,k2⟩ rfl hl;have hlt:=tr.fresh i l' hne;have hc:look (M j) l'=look (M i) l':=tr.same fun q gq q1 q2 hq hqw=>by
   rw[Nat.min_eq_right ae]at q1;rw[Nat.max_eq_left ae]at q2;rcases iZ i q with h1|h1
   .rcases hbt q gq h1 q2 hq with h2|h2
    .have:=nR h2 hqw;omega
    .exact ih q q2 gq h1 hq h2 (fun q' g' a b c=>hbt q' g' a ae c) hqw
   .obtain rfl:q=i:=ae;rw[hi]at hq;obtain rfl:=bQ hq;cases hqw
  obtain⟨gi,gg⟩:=g;cases gi<;>simp only[bd.pO]at hg<;>try cases hg
  rename_i f r args sh;obtain⟨_,_,_,_,h4⟩:=(tr.Jh hj).resolve_left (by simp[bd.calm]);cases hd:(Src.ev env (VS.take j) r).d<;>simp only[hd]at h4;rename_i l1 k1' i1 o1;simp only[bd.wr,hd,dK,cT]at hw;subst hw;cases hdp:(Src.ev env (VS.take i) p).d<;>simp only[hdp]at k2<;>rw[hdp]at hl<;>simp only[dK,cT,ek]at hl;subst hl;have e1:bG (M j) l'=bG (M i) l':=by simp only[bG,hc]
  rw[e1]at h4;obtain⟨_,_,_,h5,h6,_⟩:=h4
  match hb:bG (M i) l',h5,h6,k2.2 with
  |[d],_,h6,h7=>
   simp only[gL]at h6;simp[bK,h6]at h7
def U_wr {i:bd}{J:Src->cA}{L:Nat}(h:i.free=true\/i.zk=true):i.wr J L=[]:=by
 rcases h with h|h
 .exact acV h
 .cases i<;>simp_all[bd.zk,bd.wr]
def U_eff {i:bd}{J:Src->cA}{m:List (Nat×cr)}{L:Nat}(h:i.free=true\/i.zk=true):i.dr Y J m L=m:=by
 rcases h with h|h
 .exact ZY h
 .cases i<;>simp_all[bd.zk,bd.dr]
def ahU {i:bd}(h:i.zk=true):i.calm=true:=by cases i<;>simp_all[bd.zk,bd.calm]
def ahV {i:bd}(h:i.zk=true):i.free=false:=by cases i<;>simp_all[bd.zk,bd.free,bd.pure]
def U_mk {i:bd}(h:i.zk=true):i.lM=false:=by cases i<;>simp_all[bd.zk,bd.lM]
def agj {i:bd}(h:i.zk=true):∃n ag p,i=.ldU n ag p:=by cases i<;>first|exact⟨_,_,_,rfl⟩|(simp only[bd.zk]at h;cases h)
def LB (hsp:Spec C ops.toList l)(ho:Order ops.toList l bs)(hnM:∀g∈l,g.i.dT=false)(hΓ:Ok C.P C.ν C.dr Y)(tr:Trace Y l env nx VS M){Q:Exit->Act->World->Prop}
  (hK:∀a' x',GP C env (ops.toList.map (·.dst)) VS (· <ops.size) a' x'->Step x0 x'->ie C.ν x' (look (M l.length))->ic ⟨nx+l.length,M l.length⟩ x'->Q .normal a' x'.w):
  ∀(fuel:Nat) (listed:Array Bool) (a:Act) (x:X) (f:Nat->Option cr) (c:Nat),VV C ops l bs env nx VS M x0 listed a x f c->cnt ops.size listed<=fuel->wpAny C.P .any ops Q fuel listed a x.w:=by
 intro fuel;have hlen:l.length=ops.size:=by simpa using hsp.len
 induction fuel with
 |zero=>
  intro listed a x f c h hc;have hall:∀p,p<ops.size->listed.getD p false=true:=by
   intro p hp;have h0:(List.range ops.size).filter (fun p=>!listed.getD p false)=[]:=nO (Nat.le_zero.1 hc);rw[List.filter_eq_nil_iff]at h0;simpa using h0 p (by simpa using hp)
  refine⟨?_, ?_⟩
  .rw[List.eq_nil_iff_forall_not_mem];intro j hj;obtain⟨h1,o,h2,_⟩:=mem_ready.1 hj;have hjl:j<ops.size:=(Array.getElem?_eq_some_iff.1 h2).1;have:=hall j hjl;have hjs:j<listed.size:=by rw[h.size];exact hjl
   simp only[Array.getD,hjs,dif_pos]at h1 this;rw[this]at h1;cases h1
  .obtain⟨q1,q2,q3,q4⟩:=h.fin hsp tr hall;exact hK a x q1 q2 q3 q4
 |succ fuel ih=>
  intro listed a x f c h hc;refine⟨fun hr=>?_,fun i hi=>?_⟩
  .obtain⟨q1,q2,q3,q4⟩:=h.fin hsp tr (VV.all ho h.size hr);exact hK a x q1 q2 q3 q4
  .obtain⟨h1,o,h2,hed⟩:=mem_ready.1 hi;have hil:i<ops.size:=(Array.getElem?_eq_some_iff.1 h2).1;have his:i<listed.size:=by rw[h.size];exact hil
   have hni:listed.getD i false=false:=by simp only[Array.getD,his,dif_pos]at h1⊢;exact h1
   have ho':ops.toList[i]? =some o:=by simpa using h2
   obtain⟨⟨ins,gd⟩,hg1,hg2,hg3⟩:=hsp.op i o ho';simp only at hg2 hg3;have hdst:(ops.toList.map (·.dst))[i]? =some o.dst:=by rw[List.getElem?_map,ho',Option.map_some]
   have hcm:ins.dT=false:=hnM _ (List.mem_of_getElem? hg1);have hreads:∀t p,t∈tmpsOf ops.toList o->(ops.toList.map (·.dst))[p]? =some (some t)->(p<i->listed.getD p false=true)/\(i<=p->¬listed.getD p false=true):=by
    intro t p ht hp;rw[List.getElem?_map,eg]at hp;obtain⟨op,hp1,hp2⟩:=hp;rcases ho.reads i p o op t ho' hp1 hp2 ht with rfl|hb
    .exact⟨fun h=>ae,fun _=>by rw[hni];simp⟩
    .by_cases hpi:p=i
     .subst hpi;exact⟨fun h=>ae,fun _=>by rw[hni];simp⟩
     .exact Ht ho h h2 hni hed hb hpi
   have hρ:BI C ((ops.toList.map (·.dst)).take i) (Src.ev env (VS.take i)) a.eval x o.op.operands.toList:=
    h.mid.rho fun t p ht hp=>hreads t p (List.mem_append_left _ (List.mem_filterMap.2 ⟨.tmp t,ht,rfl⟩)) hp
   have hcst:∀d,Src.ev env (VS.take i) (.c d)=⟨true,d⟩:=fun _=>rfl
   have hgk:=tr.gok i _ hg1;obtain⟨hent1,hent2⟩:=tr.ent i _ hg1;have hMs:=tr.step i _ hg1;simp only at hgk hent1 hent2 hMs;have hwant:Region.wanted o (yielded ops a.tmps)=flag (VS.take i) gd:=by
    refine lS (g:=⟨ins,gd⟩) h.mid hg3 (fun j w hg hji=>?_) (agt hgk)

    simp only[hg,CC.guard]at hg3;split at hg3
    .rename_i t hj;rw[List.getElem?_take,aC hji]at hj;refine(hreads t j (List.mem_append_right _ ?_) hj).1 hji;rw[List.getElem?_map,eg]at hj;obtain⟨oj,hj1,hj2⟩:=hj;simp[hg,hj1,hj2]
    .cases hg3
   have hput:∀(v:Value) (x':X),Le x x'->((VS.getD i .un).ok=true->RD C.ν x' v (VS.getD i .un).d)->((VS.getD i .un).ok=false->v=undef)->
     GP C env (ops.toList.map (·.dst)) VS (fun p=>(listed.setIfInBounds i true).getD p false=true) (a.put o.dst v) x':=by
    intro v x' hle e1 e2;refine h.mid.put (i:=i) hle hdst (fun t ht=>⟨(hsp.dst i o t ho' ht).1,fun p hp e'=>hp (hsp.distinct (by rw[hdst,ht]) e')⟩) e1 e2 (fun p=>?_);rw[jy his];by_cases e:p=i
    .simp[e]
    .simp[e]
   have hclosed:∀j,(listed.setIfInBounds i true).getD j false=true->∀p,(bs.getD j 0).testBit p=true->(listed.setIfInBounds i true).getD p false=true:=by
    intro j hj p hp;rw[jy his]at hj⊢;by_cases e:p=i
    .rw[aC e]
    .rw[ar e];by_cases ej:j=i
     .subst ej;obtain⟨e',e1,e2,e3⟩:=ho.bef j o ho' p hp;rcases e3 with rfl|e3
      .exact hed e' e1 e2
      .exact h.closed _ (hed e' e1 e2) p e3
     .rw[ar ej]at hj;exact h.closed j hj p hp
   have hcnt:cnt ops.size (listed.setIfInBounds i true)<=fuel:=by have:=acK h.size hil hni;omega
   have hsz:(listed.setIfInBounds i true).size=ops.size:=by simp[h.size]
   have hL:x.β (nx+i)=none:=h.β _ ae fun p hp e=>by
    have:p=i:=ae;subst this;rw[hni]at hp;cases hp
   have hset:∀p,p≠i->((listed.setIfInBounds i true).getD p false=true↔listed.getD p false=true):=fun p hp=>by rw[jy his,ar hp]
   unfold wpOp;simp only[h2,hwant];cases hfg:flag (VS.take i) gd with
   |false=>
    rw[ar aI];have hcalm:ins.calm=true:=by
     cases gd with
     |none=>simp[flag]at hfg
     |some jw=>obtain⟨j,w⟩:=jw;exact hgk.1
    refine ih _ _ x f c ⟨hput undef x (Le.refl x) (fun e=>by rw[hent1,hfg]at e;cases e) (fun _=>rfl),h.step,h.pR,hsz,hclosed,fun l' hl' hp=>h.β l' hl' fun p hp'=>?_,fun p g hp hpc=>?_,h.mem,fun p g hp hpc hpa hpl l' hl'=>?_⟩ hcnt
    .refine hp p ?_;rw[jy his];split
     .rfl
     .exact hp'
    .by_cases e:p=i
     .subst e;rw[hg1]at hp;obtain rfl:=bQ hp;rw[hcalm]at hpc;cases hpc
     .rw[hset p e];exact h.nc p g hp hpc
    .by_cases e:p=i
     .subst e;rw[hg1]at hp;obtain rfl:=bQ hp;rw[hcalm]at hpc;cases hpc
     .exact h.wrβ p g hp hpc hpa ((hset p e).1 hpl) l' hl'
   |true=>
    rw[aC rfl];left;have hob:=tr.ff i _ hg1 hfg;simp only at hob

    have hf1:ie C.ν x (fun l'=>if x.β l'=none then look (M i) l' else f l'):=h.pR.less fun l'=>by
     by_cases hb:x.β l'=none
     .exact .inr (.inr hb)
     .left;simp[hb]

    have hnear0:ins.free=false->∀q g,l[q]? =some g->g.i.calm=false->(ins.lM=false\/g.i.isApp=true)->q≠i->(q<i↔q<c)\/ExU l g.i ins q i:=by
     intro hpu q g hq hqc hmk hqi;rcases ho.effs q i g ⟨ins,gd⟩ hq hg1 hqc hpu hmk with e|hb|hx
     .exact absurd e.symm hqi
     rotate_left
     .exact .inr hx
     .left;have hb':Ax bs q i:=by unfold Ax at hb⊢;rwa [Nat.max_comm,Nat.min_comm]
      obtain⟨b1,b2⟩:=Ht ho h h2 hni hed hb' hqi;have hnc:=h.nc q g hq hqc;constructor
      .intro hlt;exact hnc.1 (b1 hlt)
      .intro hlt;rcases iZ q i with h3|h3
       .exact h3
       .exact absurd (hnc.2 hlt) (b2 h3)
    have hnear:ins.zk=false->ins.free=false->∀q g,l[q]? =some g->g.i.calm=false->(ins.lM=false\/g.i.isApp=true)->q≠i->(q<i↔q<c):=by
     intro hu hpu q g hq hqc hmk hqi;exact(hnear0 hpu q g hq hqc hmk hqi).resolve_right fun hx=>by rw[hx.2.1]at hu;cases hu
    have hag:KM (fun l'=>if x.β l'=none then look (M i) l' else f l') (M i) (ins.pS (Src.ev env (VS.take i))):=by
     have key:ins.zk=false->ins.free=false->ins.lM=false->∀l',look (M i) l'≠none->(if x.β l'=none then look (M i) l' else f l')=look (M i) l':=by
      intro hu hpu hmk l' hl';by_cases hb:x.β l'=none
      .rw[aC hb]
      .rw[ar hb,h.mem l' hb];have hlt:=tr.fresh i l' hl';refine tr.same fun q g q1 q2 hq hw=>?_
       by_cases hqi:q=i
       .subst hqi;cases hqc:g.i.calm with
        |true=>have:=nR hqc hw;omega
        |false=>
         have h5:=h.nc q g hq hqc;rw[hni]at h5;have:¬q<c:=fun e=>by cases h5.2 e
         omega
       .cases hqc:g.i.calm with
        |true=>have:=nR hqc hw;omega
        |false=>have:=hnear hu hpu q g hq hqc (.inl hmk) hqi;omega
     have keyU:ins.zk=true->∀ls,ins.pS (Src.ev env (VS.take i))=some ls->∀l'∈ls,(if x.β l'=none then look (M i) l' else f l')=look (M i) l':=by
      intro hu ls hls l' hl';have hl'':=JH hob hls hl';by_cases hb:x.β l'=none
      .rw[aC hb]
      .rw[ar hb,h.mem l' hb];have hlt:=tr.fresh i l' hl'';have hpu:=ahV hu;have hmk:=U_mk hu;refine tr.same fun q g q1 q2 hq hw=>?_
       by_cases hqi:q=i
       .subst hqi;rw[hg1]at hq;obtain rfl:=bQ hq;rw[U_wr (.inr hu)]at hw;cases hw
       .cases hqc:g.i.calm with
        |true=>have:=nR hqc hw;omega
        |false=>
         rcases hnear0 hpu q g hq hqc (.inl hmk) hqi with h5|⟨h5,_,h6,h7⟩
         .omega
         .obtain⟨_,_,_,rfl⟩:=agj hu;simp only[bd.pS,bq]at hls;subst hls;exact tr.disU hg1 hfg hl' q g h6 hq h5 h7 hw
     cases hu:ins.zk with
     |true=>
      cases htc:ins.pS (Src.ev env (VS.take i))with
      |none=>obtain⟨_,_,_,rfl⟩:=agj hu;cases htc
      |some ls=>exact keyU hu ls htc
     |false=>
     cases hpu:ins.free with
     |true=>rw[ZZ hpu hob];intro l' hl';cases hl'
     |false=>
      cases hmk:ins.lM with
      |true=>rw[WQ hmk];intro l' hl';cases hl'
      |false=>
       cases htc:ins.pS (Src.ev env (VS.take i))with
       |none=>exact key hu hpu hmk
       |some ls=>exact fun l' hl'=>key hu hpu hmk l' (JH hob htc hl')
    refine(JK (L:=nx+i) hg2 hcm hΓ hρ hcst hob hf1 hag hL (by
     show(if x.β (nx+i)=none then look (M i) (nx+i)else f (nx+i))=none;rw[aC hL];cases hx:look (M i) (nx+i)with
     |none=>rfl
     |some b=>have:=tr.fresh i (nx+i) (by rw[hx];simp);omega)).wp (fun v x' hG=>?_)
    obtain⟨g1,g2,g3,g4⟩:=hG;rw[<-hMs]at g3;refine ih _ _ x' _ (if ins.free=true\/ins.lM=true\/ins.zk=true then c else i+1) ⟨hput v x' g1.le (fun _=>by rw[<-hent2 hfg];exact g2) (fun e=>by rw[hent1,hfg]at e;cases e),h.step.trans g1,g3,hsz,hclosed,fun l' hl' hp=>?_,fun p g hp hpc=>?_,fun l' hl'=>?_,fun p g hp hpc hpa hpl l' hl'=>?_⟩ hcnt
    .have hne:l'≠nx+i:=hp i (by rw[jy his,aC rfl]);rw[g4 l' hne];refine h.β l' hl' fun p hp'=>hp p ?_
     rw[jy his];split
     .rfl
     .exact hp'
    .by_cases e:p=i
     .subst e;rw[hg1]at hp;obtain rfl:=bQ hp;have hpf:¬(ins.free=true\/ins.lM=true\/ins.zk=true):=by
       rintro(hpu|hpu|hpu)
       .have:=Wn hpu;simp only at hpc;rw[this]at hpc;cases hpc
       .have:=Fm hpu;simp only at hpc;rw[this]at hpc;cases hpc
       .have:=ahU hpu;simp only at hpc;rw[this]at hpc;cases hpc
      rw[ar hpf,jy his,aC rfl];simp
     .rw[hset p e];by_cases hpu:ins.free=true\/ins.lM=true\/ins.zk=true
      .rw[aC hpu];exact h.nc p g hp hpc
      .rw[ar hpu];have hf0:ins.free=false:=by cases hh:ins.free with|false=>rfl|true=>exact absurd (.inl hh) hpu
       have hm0:ins.lM=false:=by cases hh:ins.lM with|false=>rfl|true=>exact absurd (.inr (.inl hh)) hpu
       have hu0:ins.zk=false:=by cases hh:ins.zk with|false=>rfl|true=>exact absurd (.inr (.inr hh)) hpu
       have h3:=hnear hu0 hf0 p g hp hpc (.inl hm0) e;have h4:=h.nc p g hp hpc;constructor
       .intro h5;have:=h4.1 h5;omega
       .intro h5;exact h4.2 (h3.1 ae)
    .by_cases hlL:l'=nx+i
     ·
      subst hlL;have hMi:look (M i) (nx+i)=none:=by
       cases hx:look (M i) (nx+i)with
       |none=>rfl
       |some b=>have:=tr.fresh i (nx+i) (by rw[hx];simp);omega
      by_cases hst:ins.free=true\/ins.zk=true
      .rw[aC (hst.elim .inl fun h=>.inr (.inr h)),U_wr hst];rw[show lz (fun l'=>if x.β l'=none then look (M i) l' else f l') [] (M (i+1))=(fun l'=>if x.β l'=none then look (M i) l' else f l')from yI];simp only[aC hL];have hM1:M (i+1)=M i:=by rw[hMs];exact U_eff hst
       have:∀n,look (M (i+1+n)) (nx+i)=none:=by
        intro n;induction n with
        |zero=>rw[Nat.add_zero,hM1];exact hMi
        |succ n ihn=>
         rw[<-Nat.add_assoc];cases hg:l[i+1+n]? with
         |none=>rw[tr.stop _ hg];exact ihn
         |some g=>
          cases hx:look (M (i+1+n+1)) (nx+i)with
          |none=>rfl
          |some b=>
           rw[tr.step _ g hg]at hx;have hco:g.i.calm=true\/g.i.ff Y (Src.ev env (VS.take (i+1+n))) (M (i+1+n)):=(tr.Jh hg).imp id (·.2);rcases yV hco (l:=nx+i) (by rw[hx];simp)with e|e
           .exact absurd ihn e
           .omega
       have:=this (max c (nx+i+1-nx) -(i+1));rw[show i+1+(max c (nx+i+1-nx) -(i+1))=max c (nx+i+1-nx)by omega]at this;rw[this];exact hMi
      .have hpu:ins.free=false:=by cases hh:ins.free with|false=>rfl|true=>exact absurd (.inl hh) hst
       have hu:ins.zk=false:=by cases hh:ins.zk with|false=>rfl|true=>exact absurd (.inr hh) hst
       have e0:lz (fun l'=>if x.β l'=none then look (M i) l' else f l') (ins.wr (Src.ev env (VS.take i)) (nx+i)) (M (i+1)) (nx+i)=look (M (i+1)) (nx+i):=by
        simp only[lz];split
        .rfl
        .rename_i hw;rw[hMs,AO hw]
       rw[e0];cases hmk:ins.lM with
       |false=>rw[ar (by simp[hpu,hu]),show max (i+1) (nx+i+1-nx)=i+1 by omega]
       |true=>
        rw[aC (.inr (.inl rfl))];refine tr.same fun q g q1 q2 hq hqw=>?_
        cases hqc:g.i.calm with
        |true=>have:=nR hqc hqw;omega
        |false=>
         cases hqa:g.i.isApp with
         |true=>have:=hnear hu hpu q g hq hqc (.inr hqa) ae;omega
         |false=>exact h.wrβ q g hq hqc hqa ((h.nc q g hq hqc).2 ae) _ hqw hL
     .rw[g4 l' hlL]at hl';by_cases hst:ins.free=true\/ins.zk=true
      .rw[aC (hst.elim .inl fun h=>.inr (.inr h)),U_wr hst];rw[show lz (fun l'=>if x.β l'=none then look (M i) l' else f l') [] (M (i+1))=(fun l'=>if x.β l'=none then look (M i) l' else f l')from yI];simp only[ar hl'];exact h.mem l' hl'
      .have hpu:ins.free=false:=by cases hh:ins.free with|false=>rfl|true=>exact absurd (.inl hh) hst
       have hu:ins.zk=false:=by cases hh:ins.zk with|false=>rfl|true=>exact absurd (.inr hh) hst
       cases hmk:ins.lM with
       |true=>
        rw[aC (.inr (.inl rfl))];have hw:l'∉ins.wr (Src.ev env (VS.take i)) (nx+i):=fun hw=>hlL (nR (Fm hmk) hw)
        simp only[lz,ar hw,ar hl'];exact h.mem l' hl'
       |false=>
       rw[ar (by simp[hpu,hu])];simp only[lz];split
       .rename_i hw;rcases aaE hob hw with e|e
        .exact absurd e hlL
        .have:=tr.fresh i l' e;rw[show max (i+1) (l'+1-nx)=i+1 by omega]
       .rename_i hw;rw[h.mem l' hl'];refine tr.same fun q g q1 q2 hq hqw=>?_
        by_cases hqi:q=i
        .subst hqi;rw[hg1]at hq;obtain rfl:=bQ hq;exact hw hqw
        .cases hqc:g.i.calm with
         |true=>have:=nR hqc hqw;omega
         |false=>have:=hnear hu hpu q g hq hqc (.inl hmk) hqi;omega
    .by_cases e:p=i
     .subst e;rw[hg1]at hp;obtain rfl:=bQ hp;rcases hg2 with hg2|⟨n',ag',s',rfl,_⟩|⟨k',y',rfl,_⟩|⟨k',z',n',ps',rfl,_⟩|⟨n',ag',s',rfl,_⟩
      .obtain⟨s,⟨q,hq1,hq2⟩,hs2,hs3⟩:=aiy (Y:=Y) hg2 hpc hpa hcm;rw[hs2]at hl';obtain⟨hok,hd⟩:=hs3 _ _ hob;have hrd:=hρ q hq1 s hq2 hok;generalize a.eval q=vq at hrd;rcases hd with⟨l1,k1,i1,o1,hd⟩|⟨l1,hd⟩
       .rw[hd]at hrd hl';simp only[dK,cT]at hl';subst hl';cases hrd with
        |ptr _ _ _ _ b base tot at_ hβ hat=>rw[g1.β _ _ hβ];simp
       .rw[hd]at hrd hl';simp only[dK,cT]at hl';subst hl';cases hrd with
        |it _ b base tot hβ=>rw[g1.β _ _ hβ];simp
      .cases hpc
      .cases hpc
      .cases hpc
      .cases hpc
     .have h7:=h.wrβ p g hp hpc hpa ((hset p e).1 hpl) l' hl';cases hb:x.β l' with
      |none=>exact absurd hb h7
      |some y=>rw[g1.β _ _ hb];simp
end
section
variable {ops:Array Oper} {l:List GI} {bs:List Nat}
def Fe (P:Program)(ops:Array Oper)(n:Nat)(Q:Exit->Act->World->Prop):Exit->Act->World->Prop:=fun e a w=>match e with
 | .normal=>wpOp P ops Q n (fun a w=>Q .normal a w) a w
 |e=>Q e a w
def ab7 {P:Program}{n i:Nat}(hsz:ops.size=n+1)(hi:i<n)(hg:∀o,ops[i]? =some o->∀j w,o.guard=some (j,w)->j<n){Q:Exit->Act->World->Prop}{K:Act->World->Prop}{a:Act}{w:World}
  (h:wpOp P ops.pop (Fe P ops n Q) i K a w):wpOp P ops Q i K a w:=by
 have hp:∀j,j<n->ops.pop[j]? =ops[j]? :=fun j hj=>by rw[Array.getElem?_pop,aC ae]
 unfold wpOp at h⊢;rw[hp i hi]at h;cases ho:ops[i]? with
 |none=>rw[ho]at h;exact h
 |some o=>
  rw[ho]at h;simp only at h⊢;have hw:Region.wanted o (yielded ops.pop a.tmps)=Region.wanted o (yielded ops a.tmps):=by
   unfold Region.wanted;cases hgd:o.guard with
   |none=>rfl
   |some jw=>obtain⟨j,b⟩:=jw;simp only[yielded,hp j (hg o ho j b hgd)]
  rw[hw]at h;split
  .rename_i hw2;rw[aC hw2]at h;refine h.imp (fun h=>?_) (fun h=>⟨h.1,h.2⟩);unfold Oper.wp at h⊢;generalize (execOp a.eval o).run P w=r at h⊢;cases r with
   |ok nx w'=>cases nx<;>exact h
   |halt x w'=>cases x<;>exact h
  .rename_i hw2;rw[ar hw2]at h;exact h
def Zt {P:Program}{n:Nat}(hsz:ops.size=n+1)(ho:Order ops.toList l bs)(hfull:∀p,p<n->(bs.getD n 0).testBit p=true)(hg:∀(i:Nat)(o:Oper),ops[i]? =some o->∀j w,o.guard=some (j,w)->j<i){Q:Exit->Act->World->Prop}:
  ∀(fuel:Nat) (listed:Array Bool) (a:Act) (w:World),listed.size=n+1->listed.getD n false=false->(∀j,listed.getD j false=true->∀p,(bs.getD j 0).testBit p=true->listed.getD p false=true)->
   wpAny P .any ops.pop (Fe P ops n Q) fuel listed.pop a w->wpAny P .any ops Q (fuel+1) listed a w:=by
 have hp:∀j,j<n->ops.pop[j]? =ops[j]? :=fun j hj=>by rw[Array.getElem?_pop,aC ae]
 have hlp:∀(listed:Array Bool),listed.size=n+1->∀j d,j<n->listed.pop.getD j d=listed.getD j d:=fun listed hl j d hj=>by
  simp only[Array.getD_eq_getD_getElem?,Array.getElem?_pop,aC (show j<listed.size-1 by omega)]

 have hrd:∀(listed:Array Bool),listed.size=n+1->∀i,i<n->(i∈Region.ready .any ops listed↔i∈Region.ready .any ops.pop listed.pop):=by
  intro listed hl i hi;rw[mem_ready,mem_ready,hp i hi,hlp listed hl i true hi];refine and_congr_right fun _=>exists_congr fun o=>and_congr_right fun ho'=>forall_congr' fun e=>imp_congr_right fun he=>imp_congr_right fun hb=>?_
  have:=ho.edge i o (by simpa using ho') e he hb;rw[hlp listed hl e.on false ae]
 have hlast:∀(listed:Array Bool),listed.size=n+1->(∀j,listed.getD j false=true->∀p,(bs.getD j 0).testBit p=true->listed.getD p false=true)->n∈Region.ready .any ops listed->∀p,p<n->listed.getD p false=true:=by
  intro listed hl hcl hn p hpn;obtain⟨_,o,ho',hed⟩:=mem_ready.1 hn;obtain⟨e,e1,e2,e3⟩:=ho.bef n o (by simpa using ho') p (hfull p hpn);rcases e3 with rfl|e3
  .exact hed e e1 e2
  .exact hcl _ (hed e e1 e2) p e3
 have hdone:∀(fuel:Nat) (listed:Array Bool) (a:Act) (w:World),listed.size=n+1->(∀p,p<n+1->listed.getD p false=true)->Q .normal a w->wpAny P .any ops Q fuel listed a w:=by
  intro fuel listed a w hl hall hq;have hr:Region.ready .any ops listed=[]:=by
   rw[List.eq_nil_iff_forall_not_mem];intro j hj;obtain⟨h1,o,h2,_⟩:=mem_ready.1 hj;have hjl:j<n+1:=by have:=(Array.getElem?_eq_some_iff.1 h2).1;omega
   have h3:=hall j hjl;have hjs:j<listed.size:=ae;simp only[Array.getD,hjs,dif_pos]at h1 h3;rw[h3]at h1;cases h1
  cases fuel with
  |zero=>exact⟨hr,hq⟩
  |succ fuel=>exact⟨fun _=>hq,fun i hi=>by rw[hr]at hi;cases hi⟩
 have hrest:∀(fuel:Nat) (listed:Array Bool) (a:Act) (w:World),listed.size=n+1->listed.getD n false=false->(∀j,listed.getD j false=true->∀p,(bs.getD j 0).testBit p=true->listed.getD p false=true)->n∈Region.ready .any ops listed->
   Fe P ops n Q .normal a w->wpOp P ops Q n (wpAny P .any ops Q fuel (listed.setIfInBounds n true)) a w:=by
  intro fuel listed a w hl hn hcl hr hq;refine wpOp_mono (fun a w hq=>hdone fuel _ a w (by simp[hl]) (fun p hp'=>?_) hq) hq;rw[jy ae];split
  .rfl
  .exact hlast listed hl hcl hr p ae

 have hend:∀(listed:Array Bool),listed.size=n+1->listed.getD n false=false->Region.ready .any ops.pop listed.pop=[]->n∈Region.ready .any ops listed:=by
  intro listed hl hn hr;have hall:∀p,p<n->listed.getD p false=true:=by
   intro p;induction p using Nat.strongRecOn with
   |_ p ih=>
    intro hpn;cases hd:listed.getD p false with
    |true=>rfl
    |false=>
     exfalso;have hm:p∈Region.ready .any ops listed:=by
      rw[mem_ready];refine⟨?_,ops[p],by simp[show p<ops.size by omega],fun e he hb=>?_⟩
      .have:p<listed.size:=ae;simp only[Array.getD,this,dif_pos]at hd⊢;exact hd
      .have:=ho.edge p ops[p] (by simp[show p<ops.size by omega]) e he hb;exact ih e.on this ae
     rw[hrd listed hl p hpn,hr]at hm;cases hm
  rw[mem_ready];refine⟨?_,ops[n],by simp[hsz],fun e he hb=>hall _ (ho.edge n ops[n] (by simp[hsz]) e he hb)⟩;have:n<listed.size:=ae;simp only[Array.getD,this,dif_pos]at hn⊢;exact hn
 intro fuel;induction fuel with
 |zero=>
  intro listed a w hl hn hcl h;obtain⟨h1,h2⟩:=h;refine⟨fun hr=>?_,fun i hi=>?_⟩
  .have:=hend listed hl hn h1;rw[hr]at this;cases this
  .have hin:i=n:=by
    rcases iZ i n with h3|h3
    .rw[hrd listed hl i h3,h1]at hi;cases hi
    .obtain⟨_,o,ho',_⟩:=mem_ready.1 hi;have:=(Array.getElem?_eq_some_iff.1 ho').1;omega
   subst hin;exact hrest 0 listed a w hl hn hcl hi h2
 |succ fuel ih=>
  intro listed a w hl hn hcl h;obtain⟨h1,h2⟩:=h;refine⟨fun hr=>?_,fun i hi=>?_⟩
  .have hr':Region.ready .any ops.pop listed.pop=[]:=by
    rw[List.eq_nil_iff_forall_not_mem];intro j hj;have hjn:j<n:=by
     obtain⟨_,o,ho',_⟩:=mem_ready.1 hj;have:=(Array.getElem?_eq_some_iff.1 ho').1;simp only[Array.size_pop]at this;omega
    rw[<-hrd listed hl j hjn,hr]at hj;cases hj
   have:=hend listed hl hn hr';rw[hr]at this;cases this
  .rcases iZ i n with h3|h3
   .have hi':=(hrd listed hl i h3).1 hi;have h4:=h2 i hi';obtain⟨_,o,ho',hed⟩:=mem_ready.1 hi;refine ab7 hsz h3 (fun o' ho2 j b hj=>by have:=hg i o' ho2 j b hj;omega) (wpOp_mono (fun a w hh=>ih (listed.setIfInBounds i true) a w (by simp[hl]) ?_ ?_ ?_) h4)
    .rw[jy ae,ar ae];exact hn
    .intro j hj p hp';rw[jy ae]at hj⊢;by_cases e:p=i
     .rw[aC e]
     .rw[ar e];by_cases ej:j=i
      .subst ej;obtain⟨e',e1,e2,e3⟩:=ho.bef j o (by simpa using ho') p hp';rcases e3 with rfl|e3
       .exact hed e' e1 e2
       .exact hcl _ (hed e' e1 e2) p e3
      .rw[ar ej]at hj;exact hcl j hj p hp'
    .have:(listed.setIfInBounds i true).pop=listed.pop.setIfInBounds i true:=by
      apply Array.ext
      .simp
      .intro q h5 h6;simp only[Array.size_pop,Array.size_setIfInBounds]at h5;rw[Array.getElem_pop,Array.getElem_setIfInBounds,Array.getElem_setIfInBounds,Array.getElem_pop]
       (first|exact(by simpa using h5)|omega)
     rw[this];exact hh
   .have hin:i=n:=by
     obtain⟨_,o,ho',_⟩:=mem_ready.1 hi;have:=(Array.getElem?_eq_some_iff.1 ho').1;omega
    subst hin;have hr':Region.ready .any ops.pop listed.pop=[]:=by
     rw[List.eq_nil_iff_forall_not_mem];intro j hj;obtain⟨hj1,o,ho',_⟩:=mem_ready.1 hj;have hjn:j<i:=by
      have:=(Array.getElem?_eq_some_iff.1 ho').1;simp only[Array.size_pop]at this;omega
     rw[hlp listed hl j true hjn]at hj1;have:=hlast listed hl hcl hi j hjn;have hjs:j<listed.size:=ae;simp only[Array.getD,hjs,dif_pos]at hj1 this;rw[this]at hj1;cases hj1
    exact hrest _ listed a w hl hn hcl hi (h1 hr')
def XJ {P:Program}{n i:Nat}(hsz:ops.size=n+1)(hi:i<n)(hg:∀o,ops[i]? =some o->∀j w,o.guard=some (j,w)->j<n){Q:Exit->Act->World->Prop}{K:Act->World->Prop}{a:Act}{w:World}
  (h:wpOp P ops Q i K a w):wpOp P ops.pop (Fe P ops n Q) i K a w:=by
 have hp:∀j,j<n->ops.pop[j]? =ops[j]? :=fun j hj=>by rw[Array.getElem?_pop,aC ae]
 unfold wpOp at h⊢;rw[hp i hi];cases ho:ops[i]? with
 |none=>rw[ho]at h;exact h
 |some o=>
  rw[ho]at h;simp only at h⊢;have hw:Region.wanted o (yielded ops.pop a.tmps)=Region.wanted o (yielded ops a.tmps):=by
   unfold Region.wanted;cases hgd:o.guard with
   |none=>rfl
   |some jw=>obtain⟨j,b⟩:=jw;simp only[yielded,hp j (hg o ho j b hgd)]
  rw[hw];split
  .rename_i hw2;rw[aC hw2]at h;refine h.imp (fun h=>?_) (fun h=>⟨h.1,h.2⟩);unfold Oper.wp at h⊢;generalize (execOp a.eval o).run P w=r at h⊢;cases r with
   |ok nx w'=>cases nx<;>exact h
   |halt x w'=>cases x<;>exact h
  .rename_i hw2;rw[ar hw2]at h;exact h
def IH {P:Program}{n:Nat}(hsz:ops.size=n+1)(hg:∀(i:Nat)(o:Oper),ops[i]? =some o->∀j w,o.guard=some (j,w)->j<i){Q:Exit->Act->World->Prop}:
  ∀(t k:Nat) (a:Act) (w:World),k+t=n->wpOps P ops Q (List.range' k (t+1)) a w->wpOps P ops.pop (Fe P ops n Q) (List.range' k t) a w
 |0,k,a,w,hk,h=>by
  obtain rfl:k=n:=ae;rw[List.range'_succ,wpOps_cons]at h;exact h
 |t+1,k,a,w,hk,h=>by
  rw[List.range'_succ,wpOps_cons]at h⊢;exact XJ hsz ae (fun o ho j b hj=>by have:=hg k o ho j b hj;omega) (wpOp_mono (fun a w h=>IH hsz hg t (k+1) a w ae h) h)
def IE (N:Act->World->Prop)(Q:Exit->Act->World->Prop):Exit->Act->World->Prop:=fun e a w=>match e with
 | .normal=>N a w
 |e=>Q e a w
def Si (P:Program)(ops:Array Oper)(n t:Nat)(Q:Exit->Act->World->Prop):Exit->Act->World->Prop:=IE (wpOps P ops Q (List.range' n t)) Q
def af8 {P:Program}{i:Nat}{N N':Act->World->Prop}{Q:Exit->Act->World->Prop}{K:Act->World->Prop}{a:Act}{w:World}(h:wpOp P ops (IE N Q) i K a w):wpOp P ops (IE N' Q) i K a w:=by
 unfold wpOp at h⊢;split at h
 .exact h
 .rename_i o ho;split at h
  .rename_i hw;rw[aC hw];refine h.imp (fun h=>?_) (fun h=>⟨h.1,h.2⟩);unfold Oper.wp at h⊢;generalize (execOp a.eval o).run P w=r at h⊢;cases r with
   |ok nx w'=>cases nx<;>exact h
   |halt x w'=>cases x<;>exact h
  .rename_i hw;rw[ar hw];exact h
def NB {P:Program}{N N':Act->World->Prop}{Q:Exit->Act->World->Prop}(hn:∀a w,N a w->N' a w):
  ∀(fuel:Nat) (listed:Array Bool) (a:Act) (w:World),wpAny P .any ops (IE N Q) fuel listed a w->wpAny P .any ops (IE N' Q) fuel listed a w
 |0,_,_,_,h=>⟨h.1,hn _ _ h.2⟩
 |fuel+1,_,_,_,h=>⟨fun hr=>hn _ _ (h.1 hr),fun i hi=>af8 (wpOp_mono (fun _ _ h=>NB hn fuel _ _ _ h) (h.2 i hi))⟩
def Ho {P:Program}:∀(t:Nat){ops:Array Oper}{l:List GI}{n:Nat}{Q:Exit->Act->World->Prop},ops.size=n+t->l.length=n+t->Order ops.toList l bs->(∀q,q<t->∀p,p<n+q->(bs.getD (n+q) 0).testBit p=true)->
  (∀(i:Nat) (o:Oper),ops[i]? =some o->∀j w,o.guard=some (j,w)->j<i)->∀(a:Act) (w:World),wpAny P .any (ops.extract 0 n) (Si P ops n t Q) n (Array.replicate n false) a w->wpAny P .any ops Q (n+t) (Array.replicate (n+t) false) a w
 |0,ops,l,n,Q,hsz,_,_,_,_,a,w,h=>by
  rw[show ops.extract 0 n=ops by rw[show n=ops.size by omega];simp]at h;rw[show Si P ops n 0 Q=Q by funext e a w;cases e<;>rfl]at h;exact h
 |t+1,ops,l,n,Q,hsz,hll,ho,hfull,hg,a,w,h=>by
  obtain⟨o,ho1⟩:∃o,ops[n+t]? =some o:=⟨ops[n+t],by simp[show n+t<ops.size by omega]⟩
  have hops:ops.toList=ops.pop.toList++[o]:=by
   apply List.ext_getElem?;intro q;rw[Array.toList_pop,List.dropLast_eq_take];rcases Nat.lt_trichotomy q (n+t)with h1|h1|h1
   .rw[List.getElem?_append_left dk,List.getElem?_take,aC dk]
   .subst h1;rw[List.getElem?_append_right dk];simp only[eF,Array.length_toList];rw[show n+t-min (ops.size-1) ops.size=0 by omega];simpa using ho1
   .rw[List.getElem?_eq_none dk,List.getElem?_eq_none dk]
  obtain⟨l',g,rfl⟩:∃l' g,l=l'++[g]:=by
   rcases List.eq_nil_or_concat l with rfl|⟨l',g,rfl⟩
   .simp at hll
   .exact⟨l',g,aI⟩
  have ho':Order ops.pop.toList l' bs:=Order.pre (os:=[o]) (ls:=[g]) (by rw[<-hops];exact ho);have hgp:∀(i:Nat) (o:Oper),ops.pop[i]? =some o->∀j w,o.guard=some (j,w)->j<i:=fun i o hi=>by
   rw[Array.getElem?_pop]at hi;split at hi
   .exact hg i o hi
   .cases hi
  have hno:∀(k p:Nat),¬(Array.replicate k false).getD p false=true:=fun k p=>by
   simp[Array.getElem?_replicate];split<;>simp
  refine Zt (n:=n+t) hsz ho (hfull t ae) hg (n+t) _ a w dk (by simp[Array.getElem?_replicate]) (fun j hj=>absurd hj (hno _ j)) ?_;rw[show(Array.replicate (n+(t+1)) false).pop=Array.replicate (n+t) false by
   apply Array.ext
   .simp
   .intro q h5 h6;simp]
  refine Ho t (ops:=ops.pop) (l:=l') dk (by simp at hll;omega) ho' (fun q hq=>hfull q ae) hgp a w ?_;rw[show ops.pop.extract 0 n=ops.extract 0 n by
   apply Array.ext
   .simp;omega
   .intro q h5 h6;simp]
  rw[show Si P ops.pop n t (Fe P ops (n+t) Q)=IE (wpOps P ops.pop (Fe P ops (n+t) Q) (List.range' n t)) Q by funext e a w;cases e<;>rfl];exact NB (fun a w h=>IH hsz hg t n a w rfl h) _ _ _ _ h
end
end
end
section
variable [df]
section
variable {C:CC} {Y:Ctx}
structure Inv (C:CC)(a:Act)(x:X)(env:List cA)(st:St):Prop where
 len:env.length=C.slots.length
 env:∀n t:Nat,C.slots[n]? =some t->(env.getD n .un).ok=true->RD C.ν x (a.tmps.getD t undef) (env.getD n .un).d
 size:a.tmps.size=C.ntmps
 defers:a.defers=[]
 pR:ie C.ν x (look st.m)
 fresh:ic st x
def Inv.mid {a:Act}{x:X}{env:List cA}{st:St}(h:Inv C a x env st)(DD:List (Option Nat))(VS:List cA){D:Nat->Prop}(hD:∀p,¬D p):GP C env DD VS D a x:=
 ⟨fun p t hp=>absurd hp (hD p),fun p t hp=>absurd hp (hD p),fun n t hn _ ho=>h.env n t hn ho,h.size,h.defers⟩
def EO (vs:List cA):∀(cm:List (Nat×Nat)) (env:List cA),(jL env vs cm).length=env.length
 |[],env=>rfl
 |(s,p)::r,env=>by simp only[jL];rw[EO vs r];simp
def HJ {α:Type}(l:List α)(i j:Nat)(v d:α)(h:i<l.length):(l.set i v).getD j d=if j=i then v else l.getD j d:=by
 grind
def xD (hnd:C.slots.Nodup)(vs:List cA):∀(ops:List Oper) (p:Nat) (env:List cA) (n t:Nat),C.slots[n]? =some t->env.length=C.slots.length->
  ((∀(j:Nat) (o:Oper),ops[j]? =some o->o.dst≠some t)->(jL env vs (C.jl p ops)).getD n .un=env.getD n .un)/\
  (∀(j:Nat) (o:Oper),ops[j]? =some o->o.dst=some t->(∀(j':Nat) (o':Oper),ops[j']? =some o'->o'.dst=some t->j'=j)->(jL env vs (C.jl p ops)).getD n .un=vs.getD (p+j) .un)
 |[],p,env,n,t,hn,hl=>⟨fun _=>rfl,fun j o h=>by simp at h⟩
 |o::r,p,env,n,t,hn,hl=>by
  have hnl:n<C.slots.length:=(List.getElem?_eq_some_iff.1 hn).1;cases hb:o.dst.bind (Cv C.slots)with
  |none=>
   have e:C.jl p (o::r)=C.jl (p+1) r:=by simp[CC.jl,hb]
   rw[e];obtain⟨a1,a2⟩:=xD hnd vs r (p+1) env n t hn hl;have hne:o.dst≠some t:=fun e=>by rw[e,Option.bind_some,Jz _ _ _ hnd hn]at hb;cases hb
   refine⟨fun h=>a1 fun j o' hj=>h (j+1) o' (by simpa using hj),fun j o' hj hd hu=>?_⟩;cases j with
   |zero=>simp at hj;subst hj;exact absurd hd hne
   |succ j=>
    rw[show p+(j+1)=p+1+j by omega];exact a2 j o' (by simpa using hj) hd fun j' o'' hj' hd'=>by have:=hu (j'+1) o'' (by simpa using hj') hd';omega
  |some s=>
   have e:C.jl p (o::r)=(s,p)::C.jl (p+1) r:=by simp[CC.jl,hb]
   rw[e];simp only[jL];obtain⟨t',ht',hs⟩:=Option.bind_eq_some_iff.1 hb;have hsl:=rW _ _ _ hs;have hslen:s<env.length:=by rw[hl];exact(List.getElem?_eq_some_iff.1 hsl).1
   obtain⟨a1,a2⟩:=xD hnd vs r (p+1) (env.set s (vs.getD p .un)) n t hn (by simpa using hl);have hst:s=n↔t'=t:=by
    constructor
    .rintro rfl;rw[hsl]at hn;exact bQ hn
    .rintro rfl;have:=Jz _ _ _ hnd hn;rw[hs]at this;exact bQ this
   refine⟨fun h=>?_,fun j o' hj hd hu=>?_⟩
   .have hne:t'≠t:=fun e=>h 0 o aI (by rw[ht',e])
    rw[a1 fun j o' hj=>h (j+1) o' (by simpa using hj),HJ _ _ _ _ _ hslen,ar (fun e=>hne (hst.1 e.symm))]
   .cases j with
    |zero=>
     simp at hj;subst hj;have ht:t'=t:=by rw[ht']at hd;exact bQ hd
     rw[a1 fun j o' hj hd'=>by have:=hu (j+1) o' (by simpa using hj) hd';omega,HJ _ _ _ _ _ hslen,aC (hst.2 ht).symm];simp
    |succ j=>
     rw[show p+(j+1)=p+1+j by omega];exact a2 j o' (by simpa using hj) hd fun j' o'' hj' hd'=>by have:=hu (j'+1) o'' (by simpa using hj') hd';omega
def A4 (hnd:C.slots.Nodup){ops:Array Oper}{l:List GI}(hsp:Spec C ops.toList l){env VS:List cA}{a:Act}{x:X}{st:St}(hlen:env.length=C.slots.length)(hm:GP C env (ops.toList.map (·.dst)) VS (· <ops.size) a x)
  (hs:ie C.ν x (look st.m)) (hf:ic st x):Inv C a x (jL env VS (C.jl 0 ops.toList)) st:=by
 refine⟨by rw[EO];exact hlen,fun n t hn ho=>?_,hm.size,hm.defers,hs,hf⟩;obtain⟨c1,c2⟩:=xD hnd VS ops.toList 0 env n t hn hlen;by_cases hw:∃j:Nat,(ops.toList.map (·.dst))[j]? =some (some t)
 .obtain⟨j,hj⟩:=hw;have hj':=hj;rw[List.getElem?_map,eg]at hj';obtain⟨o,ho1,ho2⟩:=hj';have e:=c2 j o ho1 ho2 fun j' o' h1 h2=>hsp.distinct hj (by rw[List.getElem?_map,h1,Option.map_some,h2])
  rw[bI]at e;rw[e]at ho⊢;have hjl:j<ops.size:=by simpa using(List.getElem?_eq_some_iff.1 ho1).1
  exact hm.val j t hjl hj ho
 .have hw':∀j:Nat,(ops.toList.map (·.dst))[j]? ≠some (some t):=fun j e=>hw ⟨j,e⟩
  rw[c1 fun j o h1 h2=>hw' j (by rw[List.getElem?_map,h1,Option.map_some,h2])]at ho⊢;exact hm.old n t hn (fun p _=>hw' p) ho
def ZR {a:Act}{x:X}{env:List cA}{st:St}(h:Inv C a x env st){c:Operand}{s:Src}(hc:C.src [] c=some s)(hok:(s.ev env []).ok=true):RD C.ν x (a.eval c) (s.ev env []).d:=
 ((h.mid [] [] (D:=fun _=>False) (fun _ h=>h)).rho (i:=0) (os:=[c]) (fun t p _ hp=>by simp at hp)) c (.head _) s (by simpa using hc) (by simpa using hok)
def Ex.of:Ex->Exit
 | .normal=>.normal
 | .exit id=>.exit id
 | .ret=>.ret
def Post (C:CC)(Q:Ex->List cA->St->Prop)(x0:X):Exit->Act->World->Prop:=fun e a w=>∃e' x' env' st',Ex.of e'=e/\x'.w=w/\Step x0 x'/\Inv C a x' env' st'/\Q e' env' st'
def Inv.weak {a:Act}{x:X}{env env':List cA}{nx:Nat}{m m':List (Nat×cr)}(h:Inv C a x env ⟨nx,m⟩)(hl:leE env env')(hm:abL m m'):Inv C a x env' ⟨nx,m'⟩:=by
 have hle:∀(e e':List cA),leE e e'->e'.length=e.length/\∀n,e'.getD n .un=e.getD n .un\/e'.getD n .un=.un:=by
  intro e;induction e with
  |nil=>intro e' h;cases e'<;>simp_all[leE]
  |cons b r ih=>
   intro e' h;cases e' with
   |nil=>simp[leE]at h
   |cons b' r'=>
    simp only[leE]at h;obtain⟨i1,i2⟩:=ih r' h.2;refine⟨by simp[i1],fun n=>?_⟩;cases n with
    |zero=>simpa using h.1
    |succ n=>simpa using i2 n
 have hsub:∀(m':List (Nat×cr)),abL m m'->∀l b,look m' l=some b->look m l=some b:=by
  intro m';induction m' with
  |nil=>intro _ l b h;simp[look]at h
  |cons p r ih=>
   grind [abL,look]
 obtain⟨l1,l2⟩:=hle env env' hl;refine⟨l1.trans h.len,fun n t hn ho=>?_,h.size,h.defers,h.pR.less fun l=>?_,h.fresh.β,fun l hl'=>?_⟩
 .rcases l2 n with e|e
  .rw[e]at ho⊢;exact h.env n t hn ho
  .rw[e];exact .any _
 .cases hl':look m' l with
  |none=>exact .inr (.inl rfl)
  |some b=>exact .inl (hsub m' hm l b hl').symm
 .cases hl2:look m' l with
  |none=>exact absurd hl2 hl'
  |some b=>exact h.fresh.m l (by show look m l≠none;rw[hsub m' hm l b hl2];simp)
theorem CH.cells {d d':D}(h:CH d d'):d'.cells.length=d.cells.length/\∀j,CH (d.cells.getD j .any) (d'.cells.getD j .any):=by
 cases h with
 |refl=>exact⟨rfl,fun j=>.refl _⟩
 |nil k=>exact⟨rfl,fun j=>by match j with
  |0=>exact .nil k
  |j+1=>exact .refl _⟩
 |agg a b hl h=>exact⟨hl,h⟩
 |sl k a b hl h=>exact⟨rfl,fun j=>by match j with
  |0=>exact .sl k a b hl h
  |j+1=>exact .refl _⟩
def CH.bN {d d':D}(h:CH d d')(hn:d.bN=true):d'.bN=true:=by
 induction h with
 |refl=>exact hn
 |nil k=>rfl
 |agg a b hl h ih=>exact uN fun i _=>ih i (dC hn i)
 |sl k a b hl h ih=>rfl
def RD.wk {ν:List (Nat×Nat)}{x:X}{v:Value}{d d':D}(hv:RD ν x v d)(hw:CH d d'):RD ν x v d':=by
 induction hv generalizing d' with
 |agg cs ds hl h1 h ih=>
  cases hw with
  |refl=>exact .agg cs ds hl h1 h
  |agg _ b hl2 h2=>exact .agg cs b (hl.trans hl2.symm) (fun i hi=>h1 i ae) (fun i hi=>ih i ae (h2 i))
 |sl a b off len cap k es c hlen ha hcap hm hk hn hc h1 h ih=>
  cases hw with
  |refl=>exact .sl a b off len cap k es c hlen ha hcap hm hk hn hc h1 h
  |sl _ _ es' hl2 h2=>
   refine .sl a b off len cap k es' c (hlen.trans hl2.symm) (ha.imp (fun e=>nO (by rw[hl2,e];rfl)) id) hcap hm (fun i hi=>(h2 i).cells.1.trans (hk i hi)) (fun i hi=>(h2 i).bN (hn i hi)) hc h1 (fun i j hi hj=>ih i j hi hj ((h2 i).cells.2 j))
 |bg=>
  cases hw with
  |refl=>exact .bg
  |nil k=>exact .sl none 0 0 0 0 k [] (fun _ _=>undef) rfl (.inl rfl) (aH _) (Nat.zero_le _) (fun i hi=>ae) (fun i hi=>ae) (fun i j hi=>ae) (fun i j hi=>ae) (fun i j hi=>ae)
 |any v=>cases hw;exact .any v
 |bool b=>cases hw;exact .bool b
 |int k n=>cases hw;exact .int k n
 |str s h=>cases hw;exact .str s h
 |tup cs ds hl h ih=>cases hw;exact .tup cs ds hl h
 |ref b off k i o at_ es c hI hat hk hn hc h1 h ih=>cases hw;exact .ref b off k i o at_ es c hI hat hk hn hc h1 h
 |ptr l k i o b base tot at_ hβ hat=>cases hw;exact .ptr l k i o b base tot at_ hβ hat
 |own l k i n b base tot cap a hβ ha hcap hm ht=>cases hw;exact .own l k i n b base tot cap a hβ ha hcap hm ht
 |own0 l k i a=>cases hw;exact .own0 l k i a
 |nilp=>cases hw;exact .nilp
 |fn fid n cs ds hν hl h ih=>cases hw;exact .fn fid n cs ds hν hl h
 |fV fid n fs ds hν hl h ih=>cases hw;exact .fV fid n fs ds hν hl h
 |mp r es cl ds hI hh hl h ih=>cases hw;exact .mp r es cl ds hI hh hl h
 |bx b at_ ds v hI hc h1 hl h ih=>cases hw;exact .bx b at_ ds v hI hc h1 hl h
 |nilf=>cases hw;exact .nilf
 |it l b base tot hβ=>cases hw;exact .it l b base tot hβ
def rq.wk {ν:List (Nat×Nat)}{x:X}{b base tot:Nat}{blk blk':cr}(h:rq ν x b base tot blk)(hw:WkB blk blk'):rq ν x b base tot blk':=by
 match blk,blk',hw with
 | .buf k es,.buf k' es',hw=>
  obtain⟨rfl,hl,h2⟩:=hw;obtain⟨p1,p2,c,T,fr,p3,p4,p5,p6⟩:=h;refine⟨p1,ae,c,T,fr,p3,p4,p5,fun i hi=>⟨(h2 i).cells.1.trans (p6 i ae).1,fun j hj=>⟨((p6 i ae).2 j hj).1,((p6 i ae).2 j hj).2.wk ((h2 i).cells.2 j)⟩⟩⟩
 | .buf k es,.iter s p,hw=>cases hw
 | .buf k es,.row s,hw=>cases hw
 | .buf k es,.bld o n u,hw=>cases hw
 | .iter s p,b',hw=>simp only[WkB]at hw;subst hw;exact h
 | .row s,b',hw=>simp only[WkB]at hw;subst hw;exact h
 | .bld o n u,b',hw=>simp only[WkB]at hw;subst hw;exact h
def Inv.nz {a:Act}{x:X}{env env':List cA}{nx:Nat}{m m':List (Nat×cr)}(h:Inv C a x env ⟨nx,m⟩)(hl:WkE env env')(hm:VX m m'):Inv C a x env' ⟨nx,m'⟩:=by
 have hle:∀(e e':List cA),WkE e e'->e'.length=e.length/\∀n,(e'.getD n .un).ok=(e.getD n .un).ok/\CH (e.getD n .un).d (e'.getD n .un).d:=by
  intro e;induction e with
  |nil=>
   intro e' h;cases e' with
   |nil=>exact⟨rfl,fun n=>⟨rfl,.refl _⟩⟩
   |cons _ _=>exact h.elim
  |cons b r ih=>
   intro e' h;cases e' with
   |nil=>exact h.elim
   |cons b' r'=>
    obtain⟨i1,i2⟩:=ih r' h.2;refine⟨by simp[i1],fun n=>?_⟩;cases n with
    |zero=>simpa using h.1
    |succ n=>simpa using i2 n
 have hsub:∀(m':List (Nat×cr)),VX m m'->∀l b',look m' l=some b'->∃b,look m l=some b/\WkB b b':=by
  intro m';induction m' with
  |nil=>intro _ l b h;simp[look]at h
  |cons p r ih=>
   obtain⟨l0,b0⟩:=p;intro hs l b h;simp only[look]at h;split at h
   .rename_i e;subst e;obtain rfl:=bQ h;exact hs.1
   .exact ih hs.2 l b h
 obtain⟨l1,l2⟩:=hle env env' hl;have live:∀l,look m' l≠none->look m l≠none:=fun l hl'=>by
  cases hl2:look m' l with
  |none=>exact absurd hl2 hl'
  |some b=>obtain⟨b0,q1,_⟩:=hsub m' hm l b hl2;rw[q1];simp
 refine⟨l1.trans h.len,fun n t hn ho=>?_,h.size,h.defers,⟨fun l blk b base tot e1 e2=>?_,fun l l' b base tot base' tot' e1 e2 e3 e4=>h.pR.inj l l' b base tot base' tot' (live l e1) (live l' e2) e3 e4,h.pR.imm,h.pR.fV,h.pR.gd⟩,h.fresh.β,fun l hl'=>h.fresh.m l (live l hl')⟩
 .obtain⟨q1,q2⟩:=l2 n;rw[q1]at ho;exact(h.env n t hn ho).wk q2
 .obtain⟨b0,q1,q2⟩:=hsub m' hm l blk e1;obtain⟨o1,o2⟩:=h.pR.own l b0 b base tot q1 e2;exact⟨o1,o2.wk q2⟩
def Wo (l k:Nat)(es:List D)(d:D):(ig l k es d).cells.length=d.cells.length/\∀j,(ig l k es d).cells.getD j .any=ig l k es (d.cells.getD j .any):=by
 cases d
 case agg cs=>exact⟨by simp[ig,D.cells,iy],fun j=>by simp only[ig,D.cells];exact mg l k es cs j⟩
 case own l' k' i n=>
  grind [ig,D.cells]
 case ptr l' k' i o=>
  grind [ig,D.cells]
 all_goals exact⟨by simp[ig,D.cells],fun j=>by cases j<;>simp[ig,D.cells]⟩
def TY (l k:Nat)(es:List D):∀e:List cA,(j8 l k es e).length=e.length
 |[]=>rfl
 |⟨ok,d⟩::r=>by simp[j8,TY l k es r]
def LP (l k:Nat)(es:List D):∀(e:List cA) (i:Nat),(j8 l k es e).getD i .un=⟨(e.getD i .un).ok,ig l k es (e.getD i .un).d⟩
 |[],i=>by simp[j8,ig,cA.un]
 |⟨ok,d⟩::r,0=>by simp[j8]
 |⟨ok,d⟩::r,i+1=>by simpa[j8]using LP l k es r i
def L9 (l k:Nat)(es:List D)(l':Nat):∀m:List (Nat×cr),look (ku l k es m) l'=(look m l').map (kW l k es)
 |[]=>rfl
 |(a,b)::r=>by
  simp only[ku,look];split
  .rfl
  .exact L9 l k es l' r
def Inv.XO {a:Act}{x:X}{env:List cA}{nx:Nat}{m:List (Nat×cr)}(h:Inv C a x env ⟨nx,m⟩)(l:Nat):∃x':X,x'.w=x.w/\Step x x'/\Inv C a x' (Abs.XO l (env,m)).1 ⟨nx,(Abs.XO l (env,m)).2⟩:=by
 have hsame:∃x':X,x'.w=x.w/\Step x x'/\Inv C a x' env ⟨nx,m⟩:=⟨x,rfl,.refl x,h⟩
 simp only[Abs.XO];split
 .rename_i k es hlk;cases hn:bK es with
  |false=>exact hsame
  |true=>
   simp only[cond_true]
   let x':X:=⟨x.w,fun b=>x.I b\/∃p,x.β l=some p/\p.1=b,x.β⟩
   have hle:Le x x':=⟨fun _ h=>.inl h,fun _ _=>rfl,fun _ _ h=>h⟩;have ho:∀b base tot,x.β l=some (b,base,tot)->x'.I b/\(∀i,i<es.length->(es.getD i .any).cells.length=k)/\∃c:Nat->Nat->Value,∀i j,i<es.length->j<k->
     x'.w.cell? ⟨b,base+i*k+j,none⟩=some (c i j)/\(c i j).oneCell'=true/\RD C.ν x' (c i j) ((es.getD i .any).cells.getD j .any):=by
    intro b base tot hβ;obtain⟨o1,o2,o3,c,T,fr,o4,o5,o6,o7⟩:=h.pR.own l _ b base tot hlk hβ;refine⟨.inr ⟨_,hβ,rfl⟩,fun i hi=>(o7 i hi).1,fun i j=>c.getD (base+i*k+j) undef,fun i j hi hj=>⟨?_,((o7 i hi).2 j hj).1,((o7 i hi).2 j hj).2.mono hle⟩⟩;exact cell_of_heap o4 (by have:=kP (tot:=tot) (show i<tot by omega) hj;omega)
   have hrd:∀{v:Value} {d:D},RD C.ν x v d->RD C.ν x' v (ig l k es d):=fun hv=>hv.fz hle hn ho
   refine⟨x',rfl,⟨rfl,rfl,rfl,aH _,fun _ h=>.inl h,fun _ _=>rfl,fun _ _ h=>h,fun _ _ _=>rfl,fun b hb=>?_,fun _ _ h=>.inl h⟩, ?_⟩
   .rcases hb with hb|⟨p,h1,h2⟩
    .exact .inl hb
    .exact .inr (.inr ⟨l,p,h1,h2⟩)
   .have hlook:∀l',look (ku l k es (cM m l)) l'=if l'=l then none else(look m l').map (kW l k es):=fun l'=>by
     rw[L9,gU];split<;>rfl
    refine⟨by rw[TY];exact h.len,fun n t hn' hok=>?_,h.size,h.defers,⟨fun l' blk b base tot e1 e2=>?_,fun l1 l2 b base tot base' tot' e1 e2 e3 e4=>?_,fun b hb=>?_,h.pR.fV,uC hle h.pR.gd⟩,⟨h.fresh.β,fun l' hl'=>?_⟩⟩
    .rw[LP]at hok⊢;exact hrd (h.env n t hn' hok)
    .simp only[hlook]at e1;split at e1
     .cases e1
     .rename_i hne;rw[eg]at e1;obtain⟨blk0,e3,rfl⟩:=e1;obtain⟨o1,o2⟩:=h.pR.own l' blk0 b base tot e3 e2;refine⟨?_, ?_⟩
      .rintro(hb|⟨⟨b',base',tot'⟩,h1,h2⟩)
       .exact o1 hb
       .simp only at h2;subst h2;exact hne (h.pR.inj l' l b' base tot base' tot' (by simp only;rw[e3];simp) (by simp only;rw[hlk];simp) e2 h1)
      .cases blk0 with
       |iter s pos=>exact o2
       |row s=>exact o2
       |bld o n u=>exact o2
       |buf k' es'=>
        obtain⟨p1,p2,c,T,fr,p3,p4,p5,p6⟩:=o2;refine⟨p1,by rw[iy];exact p2,c,T,fr,p3,p4,p5,fun i hi=>?_⟩;rw[iy]at hi;obtain⟨q1,q2⟩:=Wo l k es (es'.getD i .any);rw[mg,q1];refine⟨(p6 i hi).1,fun j hj=>⟨((p6 i hi).2 j hj).1, ?_⟩⟩;rw[q2];exact hrd ((p6 i hi).2 j hj).2
    .simp only[hlook]at e1 e2;refine h.pR.inj l1 l2 b base tot base' tot' ?_ ?_ e3 e4
     .intro e;simp[e]at e1
     .intro e;simp[e]at e2
    .rcases hb with hb|⟨⟨b',base',tot'⟩,h1,h2⟩
     .exact h.pR.imm b hb
     .simp only at h2;subst h2;exact h.pR.fV l _ _ _ h1
    .simp only[hlook]at hl';refine h.fresh.m l' ?_;intro e;simp only at e;simp[e]at hl'
 .exact hsame
theorem lj {lo:Nat}{σ:List (Nat×Nat)}:∀{ds ds':List D},sn lo σ ds=some ds'->ds'.length=ds.length/\∀i,i<ds.length->wz lo σ (ds.getD i .any)=some (ds'.getD i .any)
 |[],ds',h=>by simp[sn]at h;subst h;exact⟨rfl,fun i hi=>by simp at hi⟩
 |d::r,ds',h=>by
  simp only[sn]at h;split at h
  .rename_i d' r' h1 h2;simp only[bq]at h;subst h;obtain⟨a1,a2⟩:=lj h2
   grind
  .cases h
theorem qJ {lo:Nat}{σ:List (Nat×Nat)}{l:Nat}{f:Nat->D}{d:D}(h:M3 lo σ l f=some d):∃l',mX lo σ l=some l'/\d=f l':=by
 grind [M3]
def zt {lo c:Nat}:∀{σ:List (Nat×Nat)}{l l':Nat},jg lo c σ=true->mX lo σ l=some l'->l'<c/\(l<lo/\l'=l\/lo<=l'/\(l,l')∈σ)
 |[],l,l',h0,h=>by
  unfold mX at h;simp only[jg,Nat.ble_eq]at h0;cases hb:Nat.blt l lo<;>simp only[hb,cond_true,cond_false,reduceCtorEq,bq]at h;have:l<lo:=by simp[Nat.blt]at hb;omega
  subst h;exact⟨ae,.inl ⟨this,rfl⟩⟩
 |(a,b)::r,l,l',h0,h=>by
  unfold mX at h;simp only[jg,bM,Nat.ble_eq]at h0;obtain⟨p2,p3,p4,p5⟩:=h0;have p3:b<c:=by simp[Nat.blt]at p3;omega
  cases hq:Nat.beq a l<;>simp only[hq,cond_true,cond_false,bq]at h
  .obtain⟨q1,q2⟩:=zt p5 h
   grind
  .have:=Nat.eq_of_beq_eq_true hq;subst this;subst h;exact⟨p3,.inr ⟨p2,.head _⟩⟩
def vQ {lo c:Nat}:∀{σ:List (Nat×Nat)}{a b:Nat},jg lo c σ=true->(a,b)∈σ->b<c
 |[],a,b,_,h=>by cases h
 |p::r,a,b,h0,h=>by
  simp only[jg,bM,Nat.blt,Nat.ble_eq]at h0;rcases ca.1 h with rfl|h
  .have:=h0.2.1;simp only at this;omega
  .exact vQ h0.2.2.2 h
theorem Lm {lo c:Nat}:∀{σ:List (Nat×Nat)}{a a' b b':Nat},jg lo c σ=true->(a,b)∈σ->(a',b')∈σ->(b=b'->a=a')
 |[],a,a',b,b',_,h,_=>by cases h
 |(a0,b0)::r,a,a',b,b',h0,h1,h2=>by
  simp only[jg,bM,List.all_eq_true,bE]at h0;obtain⟨_,_,p4,p5⟩:=h0;intro e;rcases ca.1 h1 with h1|h1<;>rcases ca.1 h2 with h2|h2
  .simp only[eO]at h1 h2;omega
  .have:=(p4 _ h2).2;simp only[eO]at h1;obtain⟨rfl,rfl⟩:=h1;subst e;simp at this
  .have:=(p4 _ h1).2;simp only[eO]at h2;obtain⟨rfl,rfl⟩:=h2;subst e;simp at this
  .exact Lm p5 h1 h2 e
def ph:List (Nat×Nat)->Nat->Option Nat
 |[],_=>none
 |(a,b)::r,l=>if b=l then some a else ph r l
def oS:∀{σ:List (Nat×Nat)}{l a:Nat},ph σ l=some a->(a,l)∈σ
 |[],l,a,h=>by cases h
 |(a0,b0)::r,l,a,h=>by
  simp only[ph]at h;split at h
  .grind
  .exact .tail _ (oS h)
def CV {lo c:Nat}:∀{σ:List (Nat×Nat)}{l a:Nat},jg lo c σ=true->(a,l)∈σ->ph σ l=some a
 |[],l,a,_,h=>by cases h
 |(a0,b0)::r,l,a,h0,h=>by
  simp only[ph];split
  .grind [Lm]
  .rename_i e;rcases ca.1 h with h|h
   .grind
   .simp only[jg,bM]at h0;exact CV h0.2.2.2 h
def Ii {lo:Nat}{σ:List (Nat×Nat)}{d d':D}(h:wz lo σ d=some d'):d'.cells.length=d.cells.length/\∀j,j<d.cells.length->wz lo σ (d.cells.getD j .any)=some (d'.cells.getD j .any):=by
 cases d
 case agg cs=>
  simp only[wz]at h;split at h
  .rename_i cs' h1;obtain rfl:=bQ h;exact lj h1
  .cases h
 case tup cs=>
  simp only[wz]at h;split at h
  .obtain rfl:=bQ h;exact⟨rfl,fun j hj=>by simp[D.cells]at hj⟩
  .cases h
 case fn f cs=>
  grind [wz,D.cells]
 case own l k i n=>
  grind [wz,qJ,D.cells]
 case ptr l k i n=>
  grind [wz,qJ,D.cells]
 case it l=>
  grind [wz,qJ,D.cells]
 all_goals
  have h0:=h;simp only[wz,bq]at h;subst h;exact⟨rfl,fun j hj=>by simp[D.cells]at hj<;>(subst hj;simpa[D.cells]using h0)⟩
theorem RD.rn {ν:List (Nat×Nat)}{x x':X}{lo:Nat}{σ:List (Nat×Nat)}(hw:x'.w=x.w)(hI:x'.I=x.I)(hβ:∀l l',mX lo σ l=some l'->x'.β l'=x.β l){v:Value}{d:D}(h:RD ν x v d):∀d',wz lo σ d=some d'->RD ν x' v d':=by
 have hk:∀b,x.I b->x'.w.heap[b]? =x.w.heap[b]? :=fun _ _=>by rw[hw]
 have hI':∀b,x.I b->x'.I b:=fun b h=>by rw[hI];exact h
 induction h with
 |any v=>intro d' h;obtain rfl:=bQ h;exact .any v
 |bool b=>intro d' h;obtain rfl:=bQ h;exact .bool b
 |int k n=>intro d' h;obtain rfl:=bQ h;exact .int k n
 |str s h0=>intro d' h;obtain rfl:=bQ h;exact .str s h0
 |bg=>intro d' h;obtain rfl:=bQ h;exact .bg
 |nilp=>intro d' h;obtain rfl:=bQ h;exact .nilp
 |nilf=>intro d' h;obtain rfl:=bQ h;exact .nilf
 |sl a b off len cap k' es' c hlen ha hcap hm hk' hn' hc h1 h _=>
  intro d' h2;obtain rfl:=bQ h2;exact(RD.sl a b off len cap k' es' c hlen ha hcap hm hk' hn' hc h1 h).bN rfl hI' hk
 |ref b off k' i o at_ es' c hI0 hat hk' hn' hc h1 h _=>
  intro d' h2;obtain rfl:=bQ h2;exact(RD.ref b off k' i o at_ es' c hI0 hat hk' hn' hc h1 h).bN rfl hI' hk
 |agg cs ds hl' h1 _ ih=>
  intro d' h;simp only[wz]at h;split at h
  .rename_i cs' h2;obtain rfl:=bQ h;obtain⟨a1,a2⟩:=lj h2;exact .agg cs cs' ae (fun i hi=>h1 i ae) fun i hi=>ih i ae _ (a2 i ae)
  .cases h
 |tup cs ds hl' _ ih=>
  intro d' h;simp only[wz]at h;split at h
  .rename_i cs' h2;obtain rfl:=bQ h;obtain⟨a1,a2⟩:=lj h2;exact .tup cs cs' ae fun i hi=>ih i ae _ (a2 i ae)
  .cases h
 |fn fid n cs ds hν hl' _ ih=>
  intro d' h;simp only[wz]at h;split at h
  .rename_i cs' h2;obtain rfl:=bQ h;obtain⟨a1,a2⟩:=lj h2;exact .fn fid n cs cs' hν ae fun i hi=>ih i ae _ (a2 i ae)
  .cases h
 |fV fid n cs ds hν hl' _ ih=>
  grind [wz,lj,fV]
 |mp r es cl ds hI0 hh hl' _ ih=>
  intro d' h;simp only[wz]at h;split at h
  .rename_i cs' h2;obtain rfl:=bQ h;obtain⟨a1,a2⟩:=lj h2;exact .mp r es cl cs' (hI' _ hI0) ((hk _ hI0).trans hh) ae fun i hi=>ih i ae _ (a2 i ae)
  .cases h
 |bx b at_ ds v hI0 hc h1 hl' _ ih=>
  intro d' h;simp only[wz]at h;split at h
  .rename_i cs' h2;obtain rfl:=bQ h;obtain⟨a1,a2⟩:=lj h2;exact .bx b at_ cs' v (hI' _ hI0) (im (hk _ hI0) hc) h1 ae fun i hi=>ih i ae _ (a2 i ae)
  .cases h
 |ptr l k i o b base tot at_ hb hat=>
  intro d' h;obtain⟨l',h1,rfl⟩:=qJ h;exact .ptr l' k i o b base tot at_ ((hβ _ _ h1).trans hb) hat
 |own l k i n b base tot cap a hb ha hcap hm ht=>
  intro d' h;obtain⟨l',h1,rfl⟩:=qJ h;exact .own l' k i n b base tot cap a ((hβ _ _ h1).trans hb) ha hcap hm ht
 |own0 l k i a=>
  intro d' h;obtain⟨l',h1,rfl⟩:=qJ h;exact .own0 l' k i a
 |it l b base tot hb=>
  intro d' h;obtain⟨l',h1,rfl⟩:=qJ h;exact .it l' b base tot ((hβ _ _ h1).trans hb)
def tY:∀{ds ds':List D},I5 ds ds'->ds'.length=ds.length/\∀i,i<ds.length->yB (ds.getD i .any) (ds'.getD i .any)
 |[],ds',h=>by simp only[I5]at h;subst h;exact⟨rfl,fun i hi=>by simp at hi⟩
 |d::r,ds',h=>by
  simp only[I5]at h;obtain⟨d',r',rfl,h1,h2⟩:=h;obtain⟨a1,a2⟩:=tY h2
  grind
def Hm {d d':D}(h:yB d d'):d'.cells.length=d.cells.length/\∀j,j<d.cells.length->yB (d.cells.getD j .any) (d'.cells.getD j .any):=by
 cases d
 case agg a=>
  simp only[yB]at h;obtain⟨b,rfl,h⟩:=h;exact tY h
 case bg=>
  grind [yB,D.cells]
 all_goals
  have h0:=h;simp only[yB]at h;obtain⟨rfl,hn⟩:=h;refine⟨rfl,fun j hj=>?_⟩;simp[D.cells]at hj;try(subst hj;simpa[D.cells]using h0)
theorem RD.nl {ν:List (Nat×Nat)}{x x':X}(hw:x'.w=x.w)(hI:x'.I=x.I){v:Value}{d:D}(h:RD ν x v d):∀d',yB d d'->RD ν x' v d':=by
 have hk:∀b,x.I b->x'.w.heap[b]? =x.w.heap[b]? :=fun _ _=>by rw[hw]
 have hI':∀b,x.I b->x'.I b:=fun b h=>by rw[hI];exact h
 induction h with
 |bg=>
  intro d' h2;simp only[yB]at h2;rcases h2 with rfl|⟨l,k,i,rfl⟩
  .exact .bg
  .exact .own0 l k i _
 |agg cs ds hl' h1 _ ih=>
  intro d' h;simp only[yB]at h;obtain⟨b,rfl,h⟩:=h;obtain⟨a1,a2⟩:=tY h;exact .agg cs b ae (fun i hi=>h1 i ae) fun i hi=>ih i ae _ (a2 i ae)
 |any v=>intro d' h;simp only[yB]at h;rw[h.1];exact .any v
 |bool b=>intro d' h;simp only[yB]at h;rw[h.1];exact .bool b
 |int k n=>intro d' h;simp only[yB]at h;rw[h.1];exact .int k n
 |str s h0=>intro d' h;simp only[yB]at h;rw[h.1];exact .str s h0
 |tup cs ds hl' h0 _=>intro d' h;simp only[yB]at h;rw[h.1];exact(RD.tup cs ds hl' h0).bN h.2 hI' hk
 |sl a b off len cap k' es' c hlen ha hcap hm hk' hn' hc h1 h0 _=>
  intro d' h2;simp only[yB]at h2;rw[h2.1];exact(RD.sl a b off len cap k' es' c hlen ha hcap hm hk' hn' hc h1 h0).bN h2.2 hI' hk
 |ref b off k' i o at_ es' c hI0 hat hk' hn' hc h1 h0 _=>
  intro d' h2;simp only[yB]at h2;rw[h2.1];exact(RD.ref b off k' i o at_ es' c hI0 hat hk' hn' hc h1 h0).bN h2.2 hI' hk
 |nilp=>intro d' h;simp only[yB]at h;rw[h.1];exact .nilp
 |nilf=>intro d' h;simp only[yB]at h;rw[h.1];exact .nilf
 |fn fid n cs ds hν hl' h0 _=>intro d' h;simp only[yB]at h;rw[h.1];exact(RD.fn fid n cs ds hν hl' h0).bN h.2 hI' hk
 |fV fid n cs ds hν hl' h0 _=>intro d' h;simp only[yB]at h;rw[h.1];exact(RD.fV fid n cs ds hν hl' h0).bN h.2 hI' hk
 |mp r es cl ds hI hh hl' h0 _=>intro d' h;simp only[yB]at h;rw[h.1];exact(RD.mp r es cl ds hI hh hl' h0).bN h.2 hI' hk
 |bx b at_ ds v hI hc h1 hl' h0 _=>intro d' h;simp only[yB]at h;rw[h.1];exact(RD.bx b at_ ds v hI hc h1 hl' h0).bN h.2 hI' hk
 |ptr=>intro d' h;simp only[yB]at h;simp[D.bN]at h
 |own=>intro d' h;simp only[yB]at h;simp[D.bN]at h
 |own0=>intro d' h;simp only[yB]at h;simp[D.bN]at h
 |it=>intro d' h;simp only[yB]at h;simp[D.bN]at h
def Lk {lo:Nat}{σ:List (Nat×Nat)}:∀{e e':List cA},de lo σ e e'->e'.length=e.length/\∀n,(e'.getD n .un).ok=(e.getD n .un).ok/\Zr lo σ (e.getD n .un).d (e'.getD n .un).d\/e'.getD n .un=.un
 |[],[],_=>⟨rfl,fun n=>.inr aI⟩
 |[],_::_,h=>h.elim
 |_::_,[],h=>h.elim
 |a::r,b::s,h=>by
  simp only[de]at h;obtain⟨i1,i2⟩:=Lk h.2;refine⟨by simp[i1],fun n=>?_⟩;cases n with
  |zero=>simpa using h.1
  |succ n=>simpa using i2 n
def Ll {lo c:Nat}{σ:List (Nat×Nat)}{m:List (Nat×cr)}:∀{m':List (Nat×cr)},bF lo c σ m m'->∀l' b',look m' l'=some b'->(∃l b,mX lo σ l=some l'/\look m l=some b/\vP lo σ b b')\/(Nat.ble lo l'=true/\Nat.blt l' c=true/\σ.all (fun p=>!Nat.beq p.2 l')=true/\∃k,b'=.buf k [])
 |[],_,l',b',h=>by simp[look]at h
 |(l0,b0)::r,hh,l',b',h=>by
  simp only[bF]at hh;simp only[look]at h;split at h
  .grind
  .exact Ll hh.2 l' b' h
def HN:∀{σ:List (Nat×Nat)}{l:Nat},σ.all (fun p=>!Nat.beq p.2 l)=true->ph σ l=none
 |[],l,_=>rfl
 |(a,b)::r,l,h=>by
  simp only[List.all_cons,bM,bE]at h;simp only[ph];rw[ar (fun e=>by subst e;simp at h),HN h.2]
def Inv.ren {a:Act}{x0 x:X}{env env':List cA}{nx:Nat}{m m':List (Nat×cr)}{lo c:Nat}{σ:List (Nat×Nat)}(h:Inv C a x env ⟨nx,m⟩)(hs:Step x0 x)(hlo:∀l,lo<=l->x0.β l=none)(hok:jg lo c σ=true)(he:de lo σ env env')(hm:bF lo c σ m m'):
  ∃x':X,x'.w=x.w/\Step x0 x'/\Inv C a x' env' ⟨c,m'⟩:=by
 let x':X:=⟨x.w,x.I,fun l'=>if l'<lo then x.β l' else(ph σ l').bind x.β⟩
 have hβ:∀l l',mX lo σ l=some l'->x'.β l'=x.β l:=by
  intro l l' e;obtain⟨p1,p2⟩:=zt hok e;rcases p2 with⟨p2,rfl⟩|⟨p3,p4⟩
  .simp only[x',aC p2]
  .simp only[x',ar (Nat.not_lt.2 p3),CV hok p4,Option.bind_some]
 have hβi:∀l' p,x'.β l'=some p->∃l,x.β l=some p:=by
  intro l' p e;simp only[x']at e;split at e
  .exact⟨l',e⟩
  .obtain⟨l,_,h2⟩:=Option.bind_eq_some_iff.1 e;exact⟨l,h2⟩
 have hrd:∀{v:Value} {d d':D},RD C.ν x v d->Zr lo σ d d'->RD C.ν x' v d':=by
  intro v d d' hv hd;rcases hd with⟨rfl,hn⟩|hd|hd
  .exact hv.bN hn (fun _ h=>h) (fun _ _=>rfl)
  rotate_left
  .exact RD.nl (x:=x) (x':=x') rfl rfl hv _ hd
  .exact RD.rn (x:=x) (x':=x') rfl rfl hβ hv _ hd
 obtain⟨e1,e2⟩:=Lk he;have hm1:=Ll hm;have hm2:∀l' b' p,look m' l'=some b'->x'.β l'=some p->∃l b,mX lo σ l=some l'/\look m l=some b/\vP lo σ b b':=by
  intro l' b' p h1 h2;rcases hm1 l' b' h1 with h3|⟨q1,q2,q3,q4⟩
  .exact h3
  .have q1:lo<=l':=by simpa using q1
   simp only[x',ar (show ¬l'<lo by omega),HN q3,Option.bind_none]at h2;cases h2
 refine⟨x',rfl,⟨hs.os,hs.tape,hs.output,hs.size,hs.I,hs.qw,fun l p hp=>?_,hs.old,hs.newI,fun l' p hp=>?_⟩,⟨e1.trans h.len,fun n t hn ho=>?_,h.size,h.defers,⟨fun l' blk b base tot e3 e4=>?_,fun l1 l2 b base tot base' tot' e3 e4 e5 e6=>?_,h.pR.imm,fun l' b base tot e=>?_,df.le x _ (fun _ h=>h) (fun _ _=>rfl) h.pR.gd⟩,⟨fun l' hl'=>?_,fun l' hl'=>?_⟩⟩⟩
 .have hl:l<lo:=by
   rcases iZ l lo with h1|h1
   .exact h1
   .rw[hlo l h1]at hp;cases hp
  simp only[x',aC hl];exact hs.β l p hp
 .obtain⟨l,hl⟩:=hβi l' p hp;rcases hs.newβ l p hl with h1|h1|h1
  .exact .inr (.inr ⟨l,p,h1,rfl⟩)
  .exact .inr (.inl h1)
  .exact .inr (.inr h1)
 .rcases e2 n with⟨q1,q2⟩|q
  .rw[q1]at ho;exact hrd (h.env n t hn ho) q2
  .rw[q];exact .any _
 .obtain⟨l,b0,q1,q2,q3⟩:=hm2 l' blk _ e3 e4;rw[hβ l l' q1]at e4;obtain⟨o1,o2⟩:=h.pR.own l b0 b base tot q2 e4;refine⟨o1, ?_⟩;cases b0 with
  |iter s p=>
   cases blk with
   |iter s' p'=>simp only[vP]at q3;obtain⟨rfl,rfl⟩:=q3;exact o2
   |_=>simp[vP]at q3
  |row s=>
   cases blk with
   |row s'=>simp only[vP]at q3;subst q3;exact o2
   |_=>simp[vP]at q3
  |bld o n u=>
   cases blk with
   |bld o' n' u'=>
    simp only[vP]at q3;obtain⟨q3,rfl,rfl⟩:=q3;obtain⟨p1,v,p2,p3⟩:=o2;refine⟨p1,v,p2, ?_⟩;cases o with
    |none=>simp only at q3;subst q3;exact p3
    |some l0=>
     obtain⟨l1,q4,rfl⟩:=q3;obtain⟨g,t,p4,p5,p6⟩:=p3;exact⟨g,t,p4,p5,by rw[hβ l0 l1 q4];exact p6⟩
   |_=>simp[vP]at q3
  |buf k es=>
   cases blk with
   |iter s' p'=>simp[vP]at q3
   |row s'=>simp[vP]at q3
   |bld o' n' u'=>simp[vP]at q3
   |buf k' es'=>
    simp only[vP]at q3;obtain⟨rfl,q3⟩:=q3;obtain⟨p1,p2,cc,T,fr,p3,p4,p5,p6⟩:=o2;rcases q3 with⟨rfl,hn⟩|q3|q3
    .exact⟨p1,p2,cc,T,fr,p3,p4,p5,fun i hi=>⟨(p6 i hi).1,fun j hj=>⟨((p6 i hi).2 j hj).1,((p6 i hi).2 j hj).2.bN (nE (dC hn i) j) (fun _ h=>h) (fun _ _=>rfl)⟩⟩⟩
    rotate_left
    .obtain⟨r1,r2⟩:=tY q3;refine⟨p1,ae,cc,T,fr,p3,p4,p5,fun i hi=>?_⟩;have hi':i<es.length:=ae;obtain⟨s1,s2⟩:=Hm (r2 i hi');refine⟨s1.trans (p6 i hi').1,fun j hj=>⟨((p6 i hi').2 j hj).1,hrd ((p6 i hi').2 j hj).2 (.inr (.inr (s2 j (by rw[(p6 i hi').1];exact hj))))⟩⟩
    .obtain⟨r1,r2⟩:=lj q3;refine⟨p1,ae,cc,T,fr,p3,p4,p5,fun i hi=>?_⟩;have hi':i<es.length:=ae;obtain⟨s1,s2⟩:=Ii (r2 i hi');refine⟨s1.trans (p6 i hi').1,fun j hj=>⟨((p6 i hi').2 j hj).1,hrd ((p6 i hi').2 j hj).2 (.inr (.inl (s2 j (by rw[(p6 i hi').1];exact hj))))⟩⟩
 .cases f1:look m' l1 with
  |none=>simp only at e3;exact absurd f1 e3
  |some b1=>
   cases f2:look m' l2 with
   |none=>simp only at e4;exact absurd f2 e4
   |some b2=>
    obtain⟨l1',b1',q1,q2,_⟩:=hm2 l1 b1 _ f1 e5;obtain⟨l2',b2',r1,r2,_⟩:=hm2 l2 b2 _ f2 e6;rw[hβ _ _ q1]at e5;rw[hβ _ _ r1]at e6;have:=h.pR.inj l1' l2' b base tot base' tot' (by simp only;rw[q2];simp) (by simp only;rw[r2];simp) e5 e6;subst this;rw[q1]at r1;exact bQ r1
 .obtain⟨l,hl⟩:=hβi l' _ e;exact h.pR.fV l b base tot hl
 .have hc:lo<=c:=by
   clear hβ hrd e2 hm2 he hm;induction σ with
   |nil=>simpa[jg]using hok
   |cons p r ih=>simp only[jg,bM,Nat.ble_eq,Nat.blt]at hok;omega
  have hl'':c<=l':=hl';simp only[x',ar (show ¬l'<lo by omega)];cases hi:ph σ l' with
  |none=>rfl
  |some l=>
   have hmem:=oS hi;have:=vQ hok hmem;omega
 .cases f1:look m' l' with
  |none=>simp only at hl';exact absurd f1 hl'
  |some b1=>
   rcases hm1 l' b1 f1 with⟨l,b,q1,_⟩|⟨_,q2,_⟩
   .exact(zt hok q1).1
   .simp only;simp[Nat.blt]at q2;omega
def Inv.ghost {a:Act}{x0:X}{lo:Nat}{env env':List cA}{st st':St}(hlo:∀l,lo<=l->x0.β l=none)(g:bm lo env st env' st'):∀{x:X},Inv C a x env st->Step x0 x->∃x':X,x'.w=x.w/\Step x0 x'/\Inv C a x' env' st':=by
 induction g with
 |refl env st=>intro x h hs;exact⟨x,rfl,hs,h⟩
 |XO l env st=>
  intro x h hs;obtain⟨x',a1,a2,a3⟩:=Inv.XO (nx:=st.nx) (m:=st.m) h l;exact⟨x',a1,hs.trans a2,a3⟩
 |ren σ c env env' nx m m' h0 he hm=>intro x h hs;exact h.ren hs hlo h0 he hm
 |wk env env' nx m m' he hm=>intro x h hs;exact⟨x,rfl,hs,h.weak he hm⟩
 |nz env env' nx m m' he hm=>intro x h hs;exact⟨x,rfl,hs,h.nz he hm⟩
 |trans env1 env2 env3 st1 st2 st3 g1 g2 ih1 ih2=>
  grind
def least {p:Nat->Prop}(h:∃n,p n):∃n,p n/\∀m,p m->n<=m:=by
 obtain⟨n,hn⟩:=h;induction n using Nat.strongRecOn with
 |_ n ih=>
  grind
def xB (hΓ:Ok C.P C.ν C.dr Y)(hnd:C.slots.Nodup)(hmix:C.P.follows .mixedOrders=true)(x0:X)(hlo:∀l,Y.lo<=l->x0.β l=none):∀(c:Code) (ac:AC),C.code c=some ac->∀(Q:Ex->List cA->St->Prop) (env:List cA) (st:St) (a:Act) (x:X),
  cg Y ac Q env st->Inv C a x env st->Step x0 x->c.wp C.P (Post C Q x0) a x.w:=by
 intro c;induction c with
 |skip=>
  intro ac hc Q env st a x hw hi hs;simp only[CC.code,bq]at hc;subst hc;obtain⟨env,st,hgh,hw⟩:=hw;obtain⟨x,hxf,hs,hi⟩:=Inv.ghost hlo hgh hi hs;rw[<-hxf];exact wp_skip ⟨.normal,x,env,st,rfl,rfl,hs,hi,hw⟩
 |region id ops draw=>
  intro ac hc Q env st a x hw hi hs;simp only[CC.code]at hc;split at hc
  .rename_i l0 hl;cases draw with
   |false=>
    .simp only[gP,aZ,bq]at hc;subst hc;have hsp:=Spec.start hl;simp only[cg]at hw;obtain⟨env,st,hgh,hw⟩:=hw;obtain⟨x,hxf,hs,hi⟩:=Inv.ghost hlo hgh hi hs;rw[<-hxf];refine wp_region ?_;rw[List.range_eq_range'];refine UO hsp hΓ (x0:=x0) (K:=fun vs st'=>Q .normal (jL env vs (C.jl 0 ops.toList)) st') (fun vs' st' a' x' hk _ hm hst hsm hfr=>?_) ops.size 0 [] st x a ae rfl (hi.mid _ _ (fun p h=>ae)) hs hi.pR hi.fresh hw;exact⟨.normal,x',_,st',rfl,rfl,hst,A4 hnd hsp hi.len hm hsm hfr,hk⟩
   |true=>
    simp only[ba]at hc;split at hc
    .rename_i hdo;simp only[bq]at hc;subst hc;have hsp:=(Spec.start hl).pk (rI [] ops.toList);generalize pk (rI [] ops.toList) l0 0 l0=l at hsp hdo hw;simp only[cg]at hw;obtain⟨env,st,hgh,hw⟩:=hw;obtain⟨x,hxf,hs,hi⟩:=Inv.ghost hlo hgh hi hs;rw[<-hxf];have ho:=aaT hdo;have hasm:∀g∈l,∀vs',g.i.KN true (Src.ev env vs'):=by
      intro g hg vs';refine Zv fun s _ hS hok=>?_
      have:=hS rfl;obtain⟨n,rfl⟩:∃n,s=.s n:=by
       cases s<;>simp only[Src.isS]at this<;>first
        |exact⟨_,rfl⟩
        |cases this
      simp only[Src.ev]at hok⊢;by_cases hn:n<C.slots.length
      .exact⟨_,_,_,hi.env n C.slots[n] (by simp[hn]) hok⟩
      .refine⟨C.ν,x,undef, ?_⟩;have:env.getD n .un=.un:=by simp[List.getD,List.getElem?_eq_none (show env.length<=n by rw[hi.len];omega)]
       rw[this];exact .any _
     rcases aiq hdo with hnM|hlm
     .obtain⟨VS,M,tr,hM0,hk⟩:=B6 hnM hasm hi.fresh.m hw;have hg:dR x.w {x.w with drawn:=x.w.drawn+1}:=⟨rfl,rfl,rfl,aH _,fun _ _=>rfl⟩
      let x1:X:=⟨{x.w with drawn:=x.w.drawn+1},x.I,x.β⟩
      have hst1:Step x x1:=Step.grow hg hi.pR.imm;have hs1:ie C.ν x1 (look st.m):=hi.pR.grow hg;refine wp_region_any hmix ?_;refine LB hsp ho hnM hΓ tr (x0:=x0) (fun a' x' hm hst hsm hfr=>?_) ops.size _ a x1 (look st.m) 0 ?_ ?_
      .exact⟨.normal,x',_,_,rfl,rfl,hst,A4 hnd hsp hi.len hm hsm hfr,hk⟩
      .have hno:∀p,¬(Array.replicate ops.size false).getD p false=true:=fun p=>by
        simp[Array.getElem?_replicate];split<;>simp
       refine⟨?_,hs.trans hst1,hs1,aI,fun j hj=>absurd hj (hno j),fun l' hl' _=>hi.fresh.β l' hl',fun p g _ _=>⟨fun h=>absurd h (hno p),fun h=>ae⟩,fun l' hl'=>?_,fun q g _ _ _ h=>absurd h (hno q)⟩
       .have:=hi.mid (ops.toList.map (·.dst)) VS (D:=fun p=>(Array.replicate ops.size false).getD p false=true) hno;exact⟨fun p t hp=>absurd hp (hno p),fun p t hp=>absurd hp (hno p),fun n t hn h1 h2=>(this.old n t hn h1 h2).mono hst1.le,this.size,this.defers⟩
       .have hlt:l'<st.nx:=by
         rcases iZ l' st.nx with h1|h1
         .exact h1
         .exact absurd (hi.fresh.β l' h1) hl'
        rw[show max 0 (l'+1-st.nx)=0 by omega,hM0]
      .unfold cnt;exact c7 (List.length_filter_le _ _) aI
     .obtain⟨l',BC,rfl,hsuf,hfull,hnM⟩:=Sg hlm;have hlen:l'.length+BC.length=ops.size:=by have:=hsp.len;simpa using this
      have hsz:ops.size=l'.length+BC.length:=hlen.symm;have hpl:(ops.extract 0 l'.length).toList=ops.toList.take l'.length:=aI;have hpz:(ops.extract 0 l'.length).size=l'.length:=dk;have hops:ops.toList=(ops.extract 0 l'.length).toList++ops.toList.drop l'.length:=by rw[hpl,List.take_append_drop]
      generalize ops.extract 0 l'.length=ps at hpl hpz hops;have hpop:∀j,j<l'.length->ps.toList[j]? =ops.toList[j]? :=fun j hj=>by rw[hpl,List.getElem?_take,aC hj]
      have hdd:∀j,j<l'.length->(ps.toList.map (·.dst))[j]? =(ops.toList.map (·.dst))[j]? :=fun j hj=>by
       rw[List.getElem?_map,List.getElem?_map,hpop j hj]
      have htk:∀j,j<=l'.length->(ps.toList.map (·.dst)).take j=(ops.toList.map (·.dst)).take j:=fun j hj=>by
       rw[hpl,List.map_take,List.take_take,Nat.min_eq_left hj]
      have hsp':Spec C ps.toList l':=by
       refine⟨by simpa using hpz.symm,fun i oi hoi=>?_,fun i oi d hoi hd=>?_⟩
       .have hi':i<l'.length:=by have:=(List.getElem?_eq_some_iff.1 hoi).1;simp at this;omega
        rw[hpop i hi']at hoi;obtain⟨g,g1,g2,g3⟩:=hsp.op i oi hoi;rw[List.getElem?_append_left hi']at g1;exact⟨g,g1,by rw[htk i ae];exact g2,by rw[htk i ae];exact g3⟩
       .have hi':i<l'.length:=by have:=(List.getElem?_eq_some_iff.1 hoi).1;simp at this;omega
        rw[hpop i hi']at hoi;obtain⟨h1,h2⟩:=hsp.dst i oi d hoi hd;exact⟨h1,fun p hp=>by rw[hdd p ae];exact h2 p hp⟩
      have ho':Order ps.toList l' (rI [] ops.toList):=Order.pre (os:=ops.toList.drop l'.length) (ls:=BC) (by rw[<-hops];exact ho);have hgd:∀(i:Nat) (o:Oper),ops[i]? =some o->∀j w,o.guard=some (j,w)->j<i:=by
       intro i oi hoi j w hj;obtain⟨g,_,_,g3⟩:=hsp.op i oi (by simpa using hoi);rw[hj]at g3;simp only[CC.guard]at g3;split at g3
       .rename_i t ht;have:=(List.getElem?_eq_some_iff.1 ht).1;simp only[eF]at this;omega
       .cases g3
      have hw':=M0 l' [] st rfl hnM hw;obtain⟨VS,M,tr,hM0,hk⟩:=B6 hnM (fun g hg=>hasm g (List.mem_append_left _ hg)) hi.fresh.m hw';have hVS:VS.length=l'.length:=tr.len;have hg:dR x.w {x.w with drawn:=x.w.drawn+1}:=⟨rfl,rfl,rfl,aH _,fun _ _=>rfl⟩
      let x1:X:=⟨{x.w with drawn:=x.w.drawn+1},x.I,x.β⟩
      have hst1:Step x x1:=Step.grow hg hi.pR.imm;have hs1:ie C.ν x1 (look st.m):=hi.pR.grow hg;refine wp_region_any hmix ?_;have hno:∀(n p:Nat),¬(Array.replicate n false).getD p false=true:=fun n p=>by
       simp[Array.getElem?_replicate];split<;>simp
      rw[hsz];refine Ho BC.length hsz aI ho hfull hgd a x1.w ?_;rw[show ops.extract 0 l'.length=ps by apply Array.ext';rw[hpl];simp];refine LB hsp' ho' hnM hΓ tr (x0:=x0) (fun a' x' hm hst hsm hfr=>?_) l'.length _ a x1 (look st.m) 0 ?_ ?_
      ·
       show wpOps C.P ops _ (List.range' l'.length BC.length) a' x'.w;have hk2:=abA hsuf hk;simp only at hk2;rw[show st.nx+l'.length-VS.length=st.nx by omega]at hk2;have hmid:GP C env (ops.toList.map (·.dst)) VS (· <l'.length) a' x':=by
        refine⟨fun p t hp h1 h2=>hm.val p t (by rw[hpz];exact hp) (by rw[hdd p hp];exact h1) h2,fun p t hp h1 h2=>hm.und p t (by rw[hpz];exact hp) (by rw[hdd p hp];exact h1) h2,fun n t hn h1 h2=>hm.old n t hn (fun p hp=>?_) h2,hm.size,hm.defers⟩;have hp':p<l'.length:=by have hp:p<ps.size:=hp;omega
        rw[hdd p hp'];exact h1 p hp'
       exact UO hsp hΓ (x0:=x0) (K:=fun vs st'=>Q .normal (jL env vs (C.jl 0 ops.toList)) st') (fun vs' st' a' x' hk _ hm hst hsm hfr=>⟨.normal,x',_,st',rfl,rfl,hst,A4 hnd hsp hi.len hm hsm hfr,hk⟩) BC.length l'.length VS ⟨st.nx,M l'.length⟩ x' a' hlen hVS hmid hst hsm hfr (by rw[List.drop_left];exact hk2)
      .refine⟨?_,hs.trans hst1,hs1,by simp[hpz],fun j hj=>absurd hj (hno _ j),fun l' hl' _=>hi.fresh.β l' hl',fun p g _ _=>⟨fun h=>absurd h (hno _ p),fun h=>ae⟩,fun l' hl'=>?_,fun q g _ _ _ h=>absurd h (hno _ q)⟩
       .have:=hi.mid (ps.toList.map (·.dst)) VS (D:=fun p=>(Array.replicate l'.length false).getD p false=true) (hno _);exact⟨fun p t hp=>absurd hp (hno _ p),fun p t hp=>absurd hp (hno _ p),fun n t hn h1 h2=>(this.old n t hn h1 h2).mono hst1.le,this.size,this.defers⟩
       .have hlt:l'<st.nx:=by
         rcases iZ l' st.nx with h1|h1
         .exact h1
         .exact absurd (hi.fresh.β l' h1) hl'
        rw[show max 0 (l'+1-st.nx)=0 by omega,hM0]
      .unfold cnt;refine c7 (List.length_filter_le _ _) (by simp[hpz])
    .cases hc
  .cases hc
 |seq c1 c2 ih1 ih2=>
  intro ac hc Q env st a x hw hi hs;simp only[CC.code]at hc;split at hc
  .rename_i a1 a2 h1 h2;simp only[bq]at hc;subst hc;simp only[cg]at hw;obtain⟨env,st,hgh,hw⟩:=hw;obtain⟨x,hxf,hs,hi⟩:=Inv.ghost hlo hgh hi hs;rw[<-hxf];refine wp_seq (wp_mono (ih1 a1 h1 _ env st a x hw hi hs) fun e a' w' hp=>?_);obtain⟨e',x',env',st',he,hxw,hst,hi',hq⟩:=hp;subst hxw;cases e' with
   |normal=>subst he;exact ih2 a2 h2 Q env' st' a' x' hq hi' hst
   |exit id=>subst he;exact⟨.exit id,x',env',st',rfl,rfl,hst,hi',hq⟩
   |ret=>subst he;exact⟨.ret,x',env',st',rfl,rfl,hst,hi',hq⟩
  .cases hc
 |cond c c1 c2 ih1 ih2=>
  intro ac hc Q env st a x hw hi hs;simp only[CC.code]at hc;split at hc
  .rename_i s a1 a2 h0 h1 h2;simp only[bq]at hc;subst hc;simp only[cg]at hw;obtain⟨env,st,hgh,hw⟩:=hw;obtain⟨x,hxf,hs,hi⟩:=Inv.ghost hlo hgh hi hs;rw[<-hxf];obtain⟨hok,hw⟩:=hw;have hv:=ZR hi h0 hok;cases hd:(s.ev env []).d<;>simp only[hd]at hw;rename_i t;rw[hd]at hv;cases t with
   |true=>exact wp_cond_true hv.kU (ih1 a1 h1 Q env st a x (hw.1 rfl) hi hs)
   |false=>exact wp_cond_false hv.kU (ih2 a2 h2 Q env st a x (hw.2 rfl) hi hs)
  .cases hc
 |block id c1 ih=>
  intro ac hc Q env st a x hw hi hs;simp only[CC.code,eg]at hc;obtain⟨a1,h1,rfl⟩:=hc;simp only[cg]at hw;obtain⟨env,st,hgh,hw⟩:=hw;obtain⟨x,hxf,hs,hi⟩:=Inv.ghost hlo hgh hi hs;rw[<-hxf];refine wp_block (wp_mono (ih a1 h1 _ env st a x hw hi hs) fun e a' w' hp=>?_);obtain⟨e',x',env',st',he,hxw,hst,hi',hq⟩:=hp;subst hxw;cases e' with
  |normal=>subst he;exact⟨.normal,x',env',st',rfl,rfl,hst,hi',hq⟩
  |exit j=>
   subst he;simp only[Ex.of,Exit.inBlock];by_cases hj:j=id
   .rw[aC hj];simp only[hj,ba]at hq;exact⟨.normal,x',env',st',rfl,rfl,hst,hi',hq⟩
   .rw[ar hj];simp only[hj,aZ]at hq;exact⟨.exit j,x',env',st',rfl,rfl,hst,hi',hq⟩
  |ret=>subst he;exact⟨.ret,x',env',st',rfl,rfl,hst,hi',hq⟩
 |loop c1 ih=>
  intro ac hc Q env st a x hw hi hs;simp only[CC.code,eg]at hc;obtain⟨a1,h1,rfl⟩:=hc;simp only[cg]at hw;obtain⟨env,st,hgh,hw⟩:=hw;obtain⟨x,hxf,hs,hi⟩:=Inv.ghost hlo hgh hi hs;rw[<-hxf];obtain⟨I,μ,hI,hround⟩:=hw
  let W:Act->World->Nat->Prop:=fun a w n=>∃env st x,x.w=w/\Step x0 x/\Inv C a x env st/\I env st/\μ env st=n
  open Classical in
  let μ':Act->World->Nat:=fun a w=>if h:∃n,W a w n then Classical.choose (least h)else 0
  refine wp_loop (fun a w=>∃n,W a w n) μ' ⟨_,env,st,x,rfl,hs,hi,hI,rfl⟩ fun a w hIn=>?_
  have hμ:μ' a w=Classical.choose (least hIn):=dif_pos hIn;obtain⟨env2,st2,x2,hxw,hst2,hi2,hI2,hmu⟩:=(Classical.choose_spec (least hIn)).1;subst hxw;refine wp_mono (ih a1 h1 _ env2 st2 a x2 (hround env2 st2 hI2) hi2 hst2) fun e a' w' hp=>?_
  obtain⟨e',x',env',st',he,hxw,hst,hi',hq⟩:=hp;subst hxw;cases e' with
  |normal=>
   subst he;obtain⟨env3,st3,hgh3,hI3,hlt⟩:=hq;obtain⟨x',hxf',hst,hi'⟩:=Inv.ghost hlo hgh3 hi' hst;rw[<-hxf'];have hW:W a' x'.w (μ env3 st3):=⟨env3,st3,x',rfl,hst,hi',hI3,rfl⟩;refine⟨⟨_,hW⟩, ?_⟩;have h2:μ' a' x'.w=Classical.choose (least (⟨_,hW⟩:∃n,W a' x'.w n)):=dif_pos ⟨_,hW⟩;rw[h2,hμ];exact Nat.lt_of_le_of_lt ((Classical.choose_spec (least (⟨_,hW⟩:∃n,W a' x'.w n))).2 _ hW) (by rw[<-hmu];exact hlt)
  |exit id=>subst he;exact⟨.exit id,x',env',st',rfl,rfl,hst,hi',hq⟩
  |ret=>subst he;exact⟨.ret,x',env',st',rfl,rfl,hst,hi',hq⟩
 |exit id=>
  intro ac hc Q env st a x hw hi hs;simp only[CC.code,bq]at hc;subst hc;obtain⟨env,st,hgh,hw⟩:=hw;obtain⟨x,hxf,hs,hi⟩:=Inv.ghost hlo hgh hi hs;rw[<-hxf];exact wp_exit ⟨.exit id,x,env,st,rfl,rfl,hs,hi,hw⟩
 |ret=>
  intro ac hc Q env st a x hw hi hs;simp only[CC.code,bq]at hc;subst hc;obtain⟨env,st,hgh,hw⟩:=hw;obtain⟨x,hxf,hs,hi⟩:=Inv.ghost hlo hgh hi hs;rw[<-hxf];exact wp_ret ⟨.ret,x,env,st,rfl,rfl,hs,hi,hw⟩
 |scope c1 ih=>
  intro ac hc Q env st a x hw hi hs;simp only[CC.code]at hc;refine wp_scope_straight (wp_mono (ih ac hc Q env st a x hw hi hs) fun e a' w' hp=>?_);obtain⟨e',x',env',st',he,hxw,hst,hi',hq⟩:=hp;subst he;cases e'<;>exact⟨_,x',env',st',rfl,hxw,hst,hi',hq⟩
 |label l=>
  intro ac hc Q env st a x hw hi hs;simp only[CC.code,bq]at hc;subst hc;obtain⟨env,st,hgh,hw⟩:=hw;obtain⟨x,hxf,hs,hi⟩:=Inv.ghost hlo hgh hi hs;rw[<-hxf];exact wp_label ⟨.normal,x,env,st,rfl,rfl,hs,hi,hw⟩
 |_=>intro ac hc;simp[CC.code]at hc
end
end
section
variable [df]
section
variable {C:CC} {Y:Ctx}
def aap {P:Program}{ν:List (Nat×Nat)}{x:X}{f:Nat->Option cr}{m:List (Nat×cr)}{t:TypeId}{v:Value}{d:D}(hsm:∀fid n,dI ν fid=some n->n<1000000)(hn0:P.cellsOf t≠0)(hu:(P.underlying t).isNone=false)(h1':cY P t=false->P.cellsOf t=1)
  (hv:RD ν x v d) (k2:KP m (P.cellsOf t) d) (hs:ie ν x f) (hag:∀l,look m l≠none->f l=look m l):
  ∃ad u,v=.pointer (some ad)/\(loadVar t ad).run P x.w=.ok u x.w/\RD ν x u (G6 m (P.cellsOf t) (cY P t) d):=by
 cases d<;>simp only[KP]at k2
 .rename_i k es i o';cases hv with
  |ref b off _ _ _ at_ _ c hI hat hk hn hcc hone hh=>
   obtain⟨v,r1,r2⟩:=wi (P:=P) (ν:=ν) (x:=x) (e:=es.getD i .any) (k:=k) (n:=P.cellsOf t) (o:=o') (b:=b) (at0:=off+i*k) (ag:=cY P t) (ty:=t) (c:=c i) (hk i k2.1) k2.2
    (fun j hj=>⟨hcc i j k2.1 hj,hone i j k2.1 hj,hh i j k2.1 hj⟩) rfl hn0 hu rfl h1'
   grind [G6]
 .rename_i l k i o';cases hv with
  |ptr _ _ _ _ b base tot at_ hβ hat=>
   obtain⟨g1,g2,hnI,hk0,ht,c,T,fr,q1,q2,q3,q4⟩:=EJ hs hag k2.1 hβ;have hi:i<(bG m l).length:=ae;obtain⟨v,r1,r2⟩:=wi (P:=P) (ν:=ν) (x:=x) (e:=(bG m l).getD i .any) (k:=k) (n:=P.cellsOf t) (o:=o') (b:=b) (at0:=base+i*k) (ag:=cY P t) (ty:=t) (c:=fun j=>c.getD (base+i*k+j) undef)
    ((q4 i hi).1) k2.2
    (fun j hj=>⟨cell_of_heap q1 (by have:=kP (tot:=tot) (show i<tot by omega) hj;omega),((q4 i hi).2 j hj).1,((q4 i hi).2 j hj).2⟩) rfl hn0 hu rfl h1'
   grind [G6]
 .rename_i q es;obtain⟨rfl,e1,e2,e3⟩:=k2;cases hv with
  |fn fid _ cs ds hν=>exact absurd (hsm _ _ hν) ae
  |fV fid _ cs ds hν=>exact absurd (hsm _ _ hν) ae
  |bx b at_ _ v0 hI hc0 h1 hl hh=>
   obtain⟨v,r1,r2⟩:=wi (P:=P) (ν:=ν) (x:=x) (e:=es.getD 0 .any) (k:=1) (n:=P.cellsOf t) (o:=0) (b:=b) (at0:=at_) (ag:=cY P t) (ty:=t) (c:=fun _=>v0) (by rw[e3];rfl) ae
    (fun j hj=>by obtain rfl:j=0:=ae;exact⟨hc0,h1,by rw[e3];exact hh 0 ae⟩) rfl hn0 hu rfl h1'
   exact⟨_,v,rfl,r1,by simpa only[G6]using r2⟩
def F4 (a:Act):ResultVar->Sem Value
 | .tmp t=>pure (a.tmps.getD t undef)
 | .cell ad t=>do loadVar t (<-asAddr (a.tmps.getD ad undef))
def ve (hsm:∀fid n,dI C.ν fid=some n->n<1000000){a:Act}{x:X}{env:List cA}{st:St}(hi:Inv C a x env st):∀(rs:List ResultVar) (ars:List Vo),zr C.P C.slots rs=some ars->tO st.m env ars->
  ∃vs,(rs.mapM (F4 a)).run C.P x.w=.ok vs x.w/\vs.length=ars.length/\(tP st.m env ars).length=ars.length/\∀i,i<ars.length->RD C.ν x (vs.getD i undef) ((tP st.m env ars).getD i .any)
 |[],ars,h,_=>by simp[zr]at h;subst h;exact⟨[],aI,rfl,by simp[tP],fun i hi=>by simp at hi⟩
 | .tmp t::r,ars,h,ho=>by
  simp only[zr]at h;split at h
  .rename_i s l h1 h2;simp only[bq]at h;subst h;simp only[tO]at ho;obtain⟨vs,b1,b2,b4,b3⟩:=ve hsm hi r l h2 ho.2.2;refine⟨a.tmps.getD t undef::vs,by simp[F4,b1],by simp[b2],by simp[tP,b4],fun i hil=>?_⟩;cases i with
   |zero=>simpa[tP,M1]using hi.env s t (rW _ _ _ h1) ho.1
   |succ i=>simpa[tP]using b3 i (by simpa using hil)
  .cases h
 | .cell t ty::r,ars,h,ho=>by
  simp only[zr]at h;split at h
  .rename_i s l h1 h2;split at h
   .cases h
   rename_i hce;simp only[bq]at h;subst h;simp only[tO]at ho;obtain⟨vs,b1,b2,b4,b3⟩:=ve hsm hi r l h2 ho.2.2;have hu:(C.P.underlying ty).isNone=false:=by cases hn:(C.P.underlying ty).isNone with|false=>rfl|true=>exact absurd (.inr (.inl hn)) hce
   have h1':cY C.P ty=false->C.P.cellsOf ty=1:=fun e=>by
    rcases Nat.decEq (C.P.cellsOf ty) 1 with h|h
    .exact absurd (.inr (.inr ⟨e,h⟩)) hce
    .exact h
   obtain⟨ad,u,c1,c2,c3⟩:=aap hsm (fun e=>hce (.inl e)) hu h1' (hi.env s t (rW _ _ _ h1) ho.1) ho.2.1 hi.pR (fun _ _=>rfl);refine⟨u::vs, ?_,by simp[b2],by simp[tP,b4],fun i hil=>?_⟩
   .have e:(F4 a (.cell t ty)).run C.P x.w=.ok u x.w:=by simp only[F4,c1];simp[asAddr,c2]
    simp[List.mapM_cons,e,b1]
   .cases i with
    |zero=>simpa[tP,M1]using c3
    |succ i=>simpa[tP]using b3 i (by simpa using hil)
  .cases h
def Te (fn:Func)(a:Act):results fn a.tmps=(do
  let vs <-fn.results.mapM (F4 a)
  pure (if h:vs.size=1 then vs[0]else .tuple vs)):=by
 unfold results;congr 1
def vc (hsm:∀fid n,dI C.ν fid=some n->n<1000000){a:Act}{x:X}{env:List cA}{st:St}(hi:Inv C a x env st){fn:Func}{af:aN}(hr:zr C.P C.slots fn.results.toList=some af.res)(ho:tO st.m env af.res):
  ∃v,(results fn a.tmps).run C.P x.w=.ok v x.w/\RD C.ν x v (nM af env st)/\(af.res.length≠1->∃cs,v=.tuple cs):=by
 obtain⟨vs,b1,b2,b4,b3⟩:=ve hsm hi _ _ hr ho;have hrun:(results fn a.tmps).run C.P x.w=.ok (if h:vs.length=1 then vs[0]else .tuple vs.toArray) x.w:=by
  rw[Te,Sem.run_bind,Array.mapM_eq_mapM_toList,Sem.run_map,b1];simp[Result.andThen]
 rcases hres:af.res with _|⟨r,_|⟨r2,rs⟩⟩
 .rw[hres]at b2 b3 b4;have h0:vs.length≠1:=by rw[b2];simp
  rw[dif_neg h0]at hrun;refine⟨_,hrun, ?_,fun _=>⟨_,rfl⟩⟩;simp only[nM,hres];refine .tup _ _ (by simp[b2,b4]) fun i hi=>?_
  have:=b3 i ae
  rwa [<-cS]
 .rw[hres]at b2 b3 b4;have h0:vs.length=1:=by rw[b2];rfl
  rw[dif_pos h0]at hrun;refine⟨_,hrun, ?_,fun h=>absurd rfl h⟩;simp only[nM,hres];have:=b3 0 aI;simp only[tP,gL]at this
  rwa [s8 _ _ _ ae]at this
 .rw[hres]at b2 b3 b4;have h0:vs.length≠1:=by rw[b2];simp
  rw[dif_neg h0]at hrun;refine⟨_,hrun, ?_,fun _=>⟨_,rfl⟩⟩;simp only[nM,hres];refine .tup _ _ (by simp[b2,b4]) fun i hi=>?_
  have:=b3 i ae
  rwa [<-cS]
def AM:∀(l acc:List Nat),∃r,dedup acc l=acc.reverse++r
 |[],acc=>⟨[],by simp[dedup]⟩
 |a::l,acc=>by
  simp only[dedup];split
  .exact AM l acc
  .obtain⟨r,h⟩:=AM l (a::acc);exact⟨a::r,by rw[h];simp⟩
def uk:∀(l acc:List Nat),acc.Nodup->(dedup acc l).Nodup
 |[],acc,h=>by simp only[dedup];exact List.pairwise_reverse.2 (h.imp fun h=>Ne.symm h)
 |a::l,acc,h=>by
  simp only[dedup];split
  .exact uk l acc h
  .rename_i hn;exact uk l (a::acc) (List.nodup_cons.2 ⟨by simpa using hn,h⟩)
def BO (rest:List Nat):∀(n j:Nat),dedup (List.range j).reverse (List.range' j n++rest)=dedup (List.range (j+n)).reverse rest
 |0,j=>aI
 |n+1,j=>by
  rw[List.range'_succ,fY];simp only[dedup];rw[ar aI];have e:j::(List.range j).reverse=(List.range (j+1)).reverse:=by rw[List.range_succ];simp
  rw[e,BO rest n (j+1)];congr 2;congr 1;omega
def rb (fn:Func):(slotsOf fn).Nodup/\fn.params.size+fn.nfree<=(slotsOf fn).length/\∀n,n<fn.params.size+fn.nfree->(slotsOf fn)[n]? =some n:=by
 refine⟨uk _ _ List.nodup_nil, ?_⟩;have e:slotsOf fn=dedup (List.range (fn.params.size+fn.nfree)).reverse (wx fn.results.toList++Gv (fn.body.getD .skip)):=by
  have:=BO (wx fn.results.toList++Gv (fn.body.getD .skip)) (fn.params.size+fn.nfree) 0;simp only[List.range_zero,List.reverse_nil,bI]at this;unfold slotsOf;rw[eh,List.range_eq_range'];rw[this,List.range_eq_range']
 obtain⟨r,h⟩:=AM (wx fn.results.toList++Gv (fn.body.getD .skip)) (List.range (fn.params.size+fn.nfree)).reverse
 grind
end
end
section
variable [df]
section
variable {P:Program} {ν:List (Nat×Nat)} {dr:List Nat} {Y:Ctx}
def Ok.at (h:Ok P ν dr Y)(n:Nat):Ok P ν dr (Y.at n):=⟨h.small,h.bld,h.pure,h.effF,h.dr⟩
def kp {fn:Func}{af:aN}(hc:compile P ν dr fn=some af):
  ∃body,fn.body=some body/\CC.code {P,ν,dr,slots:=slotsOf fn,ntmps:=fn.ntmps,vm:=XC P fn} body=some af.body/\zr P (slotsOf fn) fn.results.toList=some af.res/\
   fn.params.size+fn.nfree<=fn.ntmps/\af.np=fn.params.size+fn.nfree/\af.ns=(slotsOf fn).length:=by
 grind [compile]
def BA {fn:Func}{af:aN}{x:X}{args:Array Value}{ds:List D}{st:St}(hnp:fn.params.size+fn.nfree<=fn.ntmps)(h1:af.np=fn.params.size+fn.nfree)(h2:af.ns=(slotsOf fn).length)(hl:args.size=ds.length)(hd:ds.length=af.np)
  (hargs:∀i,i<ds.length->RD ν x (args.getD i undef) (ds.getD i .any)) (hs:ie ν x (look st.m)) (hf:ic st x):
  Inv {P,ν,dr,slots:=slotsOf fn,ntmps:=fn.ntmps,vm:=XC P fn} {tmps:=args++Array.replicate (fn.ntmps-args.size) undef,defers:=[]} x (gz af ds) st:=by
 obtain⟨s1,s2,s3⟩:=rb fn;refine⟨?_,fun n t hn ho=>?_,dk,rfl,hs,hf⟩
 .simp only[gz,bH,bB,List.length_replicate];omega
 .simp only at hn;simp only[gz]at ho⊢;rw[dN]at ho⊢;simp only[bB]at ho⊢;by_cases h:n<ds.length
  .grind [pN]
  .rw[ar h];have:(List.replicate (af.ns-af.np) cA.un).getD (n-ds.length) .un=.un:=by
    simp only[List.getD,List.getElem?_replicate];split<;>rfl
   rw[this];exact .any _
def Ex.JI {e:Ex}(h:e.home):Ex.of e=.normal\/Ex.of e=.ret:=by
 cases e with
 |normal=>exact .inl rfl
 |exit id=>exact h.elim
 |ret=>exact .inr rfl
def acU {fid:Nat}{fn:Func}{af:aN}{d:D}(hΓ:Ok P ν dr Y)(hmix:P.follows .mixedOrders=true)(hf:P.funcs[fid]? =some fn)(hc:compile P ν dr fn=some af)
  {x:X} {args:Array Value} {ds:List D} (hl:args.size=ds.length) (hargs:∀i,i<ds.length->RD ν x (args.getD i undef) (ds.getD i .any)) (hnl:bK ds=true) (himm:∀b,x.I b->b<x.w.heap.size) (hgd:df.gd x)
  (hnp:ds.length=af.np) (hw:cg (Y.at 0) af.body (fun e env st=>e.home/\tO st.m env af.res/\UM af env st/\retP af env st=d) (gz af ds) ⟨0,[]⟩):
  Calls P fid args x.w fun
   | .returned v,w'=>∃x',x'.w=w'/\gW x x'/\RD ν x' v d
   |_,_=>False:=by
 obtain⟨body,c1,c2,c3,c4,c5,c6⟩:=kp hc
 let x0:X:=⟨x.w,x.I,fun _=>none⟩
 have hs0:ie ν x0 (look []):=⟨fun l blk b base tot h=>by simp[look]at h,fun l l' b base tot base' tot' h=>by simp[look]at h,himm,fun l b base tot h=>(by cases h),df.le x _ (fun _ h=>h) (fun _ _=>rfl) hgd⟩;have hf0:ic ⟨0,[]⟩ x0:=⟨fun l _=>rfl,fun l h=>by simp[look]at h⟩;have hi:=BA (P:=P) (ν:=ν) (dr:=dr) (x:=x0) (st:=⟨0,[]⟩) c4 c5 c6 hl hnp (fun i hi=>(hargs i hi).bN (dC hnl i) (fun _ h=>h) (fun _ _=>rfl)) hs0 hf0;have hcs:=xB (C:={P,ν,dr,slots:=slotsOf fn,ntmps:=fn.ntmps,vm:=XC P fn}) (hΓ.at 0) (rb fn).1 hmix x0 (fun _ _=>rfl) body af.body c2 _ _ _ _ x0 hw hi (.refl _);refine calls_of_wp hf c1 (wp_mono hcs fun e a w' hp=>?_);obtain⟨e',x',env',st',he,hxw,hst,hi',hh,hro,hrpo,hrp⟩:=hp;subst hxw;obtain⟨v,r1,r2,r3⟩:=vc hΓ.small hi' c3 hro;have hI:∀b,(x'.qo (look st'.m)).I b->b<x'.w.heap.size:=by
  intro b hb;rcases hb with h|⟨l,⟨b',base,tot⟩,h1,h2,h3⟩
  .exact hi'.pR.imm b h
  .subst h2;exact hi'.pR.fV l _ _ _ h1
 have hnew:∀b,(x'.qo (look st'.m)).I b->x.I b\/x.w.heap.size<=b:=by
  intro b hb;rcases hb with h|⟨l,p,h1,h2,h3⟩
  .rcases hst.newI b h with h|h|⟨l,p,h,_⟩
   .exact .inl h
   .exact .inr h
   .cases h
  .subst h2;rcases hst.newβ l p h1 with h|h|⟨l',p',h,_⟩
   .cases h
   .exact .inr h
   .cases h
 have hps:gW x ⟨x'.w,(x'.qo (look st'.m)).I,x.β⟩:=
  ⟨⟨hst.os,hst.tape,hst.output,hst.size,fun b hb=>hst.old b hb fun l p h=>by cases h⟩,fun b hb=>.inl (hst.I b hb),hnew,hI,rfl⟩
 have hrd:RD ν ⟨x'.w,(x'.qo (look st'.m)).I,x.β⟩ v d:=by
  rw[<-hrp];have key:∀(v:Value) (d:D),RD ν (x'.qo (look st'.m)) v d->d.bN=true->RD ν ⟨x'.w,(x'.qo (look st'.m)).I,x.β⟩ v d:=fun v d h hn=>h.bN hn (fun _ h=>h) (fun _ _=>rfl)
  unfold nM at r2;unfold UM at hrpo;unfold retP;rcases hres:af.res with _|⟨r,_|⟨r2',rs⟩⟩
  .simp only[hres]at r2 hrpo⊢;generalize hvs:tP st'.m env' []=vs at r2 hrpo⊢;cases r2 with
   |tup cs _ hl' hh'=>
    obtain⟨q1,q2,q3⟩:=lD hi'.pR (fun _ _=>rfl) af.rsh vs (fun j=>cs.getD j undef) hh' hrpo;exact .tup cs _ (by rw[q1,hl']) fun i hi=>key _ _ (q3 i ae) (dC q2 i)
  .simp only[hres]at r2 hrpo⊢;obtain⟨q1,q2⟩:=yh hi'.pR (fun _ _=>rfl) _ _ _ r2 hrpo;exact key _ _ q1 q2
  .simp only[hres]at r2 hrpo⊢;generalize hvs:tP st'.m env' (r::r2'::rs)=vs at r2 hrpo⊢;cases r2 with
   |tup cs _ hl' hh'=>
    obtain⟨q1,q2,q3⟩:=lD hi'.pR (fun _ _=>rfl) af.rsh vs (fun j=>cs.getD j undef) hh' hrpo;exact .tup cs _ (by rw[q1,hl']) fun i hi=>key _ _ (q3 i ae) (dC q2 i)
 rcases Ex.JI hh with h|h<;>rw[h]at he<;>subst he<;>exact⟨hi'.defers,v,r1,⟨x'.w,(x'.qo (look st'.m)).I,x.β⟩,rfl,hps,hrd⟩
def acS {fid:Nat}{fn:Func}{af:aN}{vd sd:D}(hΓ:Ok P ν dr Y)(hmix:P.follows .mixedOrders=true)(hf:P.funcs[fid]? =some fn)(hc:compile P ν dr fn=some af)
  {x:X} {f:Nat->Option cr} {args:Array Value} {l k:Nat} {d:D} {ds:List D} (hl:args.size=ds.length+1) (h0:RD ν x (args.getD 0 undef) (.ptr l k 0 0)) (hargs:∀i,i<ds.length->RD ν x (args.getD (i+1) undef) (ds.getD i .any))
  (hs:ie ν x f) (hfl:f l=some (.buf k [d])) (hd:d.bN=true) (hnl:bK ds=true) (hnp:ds.length+1=af.np)
  (hw:cg (Y.at 1) af.body (fun e env st=>e.home/\tO st.m env af.res/\(nM af env st).bN=true/\nM af env st=vd/\look st.m 0=some (.buf k [sd])/\sd.bN=true) (gz af (.ptr 0 k 0 0::ds)) ⟨1,[(0,.buf k [d])]⟩):
  Calls P fid args x.w fun
   | .returned v,w'=>∃x',x'.w=w'/\Step x x'/\RD ν x' v vd/\ie ν x' (fun l'=>if l'=l then some (.buf k [sd])else f l')/\x'.β=x.β
   |_,_=>False:=by
 obtain⟨body,c1,c2,c3,c4,c5,c6⟩:=kp hc;obtain⟨b,base,tot,hβ,ha0⟩:∃b base tot,x.β l=some (b,base,tot)/\args.getD 0 undef=.pointer (some ⟨b,base,none⟩):=by
  generalize args.getD 0 undef=v0 at h0;cases h0 with
  |ptr _ _ _ _ b base tot at_ hβ hat=>exact⟨b,base,tot,hβ,by simp[hat]⟩
 let x1:X:=⟨x.w,x.I,fun l'=>if l'=0 then x.β l else none⟩
 have hx1:∀l' p,x1.β l'=some p->l'=0/\p=(b,base,tot):=by
  intro l' p h;simp only[x1]at h;split at h
  .rename_i e;rw[hβ]at h;exact⟨e,(bQ h).symm⟩
  .cases h
 have hx1':x1.β 0=some (b,base,tot):=by simp[x1,hβ]
 have key1:∀(v:Value) (d:D),RD ν x v d->d.bN=true->RD ν x1 v d:=fun v d h hn=>h.bN hn (fun _ h=>h) (fun _ _=>rfl)
 have hbR:=hs.own l _ b base tot hfl hβ;have hs1:ie ν x1 (look [(0,.buf k [d])]):=by
  refine⟨fun l' blk b' base' tot' e1 e2=>?_,fun l1 l2 b' base' tot' base'' tot'' e1 e2 e3 e4=>(hx1 _ _ e3).1.trans (hx1 _ _ e4).1.symm,hs.imm,fun l' b' base' tot' e=>?_,df.le x _ (fun _ h=>h) (fun _ _=>rfl) hs.gd⟩
  .obtain⟨rfl,e3⟩:=hx1 _ _ e2;simp only[eO]at e3;obtain⟨rfl,rfl,rfl⟩:=e3;simp only[look,ba,bq]at e1;subst e1;refine⟨hbR.1, ?_⟩;obtain⟨p1,p2,c,T,fr,p3,p4,p5,p6⟩:=hbR.2;refine⟨p1,p2,c,T,fr,p3,p4,p5,fun i hi=>⟨(p6 i hi).1,fun j hj=>⟨((p6 i hi).2 j hj).1,key1 _ _ ((p6 i hi).2 j hj).2 ?_⟩⟩⟩;have:i=0:=by simpa using hi
   subst this;exact nE (by simpa using hd) j
  .obtain⟨_,e3⟩:=hx1 _ _ e;simp only[eO]at e3;rw[e3.1];exact hs.fV l b base tot hβ
 have hf1:ic ⟨1,[(0,.buf k [d])]⟩ x1:=⟨fun l' hl'=>by
   cases h:x1.β l' with
   |none=>rfl
   |some p=>have:=(hx1 _ _ h).1;simp only at hl';omega,fun l' hl'=>by
   simp only[look]at hl';split at hl'
   .rename_i e;simp only;omega
   .exact absurd rfl hl'⟩
 have hi:=BA (P:=P) (ν:=ν) (dr:=dr) (x:=x1) (ds:=.ptr 0 k 0 0::ds) (st:=⟨1,[(0,.buf k [d])]⟩) c4 c5 c6 (args:=args) (by simpa using hl) (by simpa using hnp) (fun i hi=>by
  cases i with
  |zero=>simp only[gL];rw[ha0];exact .ptr 0 k 0 0 b base tot base hx1' aI
  |succ i=>simp only[List.getD_cons_succ];exact key1 _ _ (hargs i (by simpa using hi)) (dC hnl i)) hs1 hf1
 have hcs:=xB (C:={P,ν,dr,slots:=slotsOf fn,ntmps:=fn.ntmps,vm:=XC P fn}) (hΓ.at 1) (rb fn).1 hmix x1 (fun l h=>hf1.β l h) body af.body c2 _ _ _ _ x1 hw hi (.refl _);refine calls_of_wp hf c1 (wp_mono hcs fun e a w' hp=>?_);obtain⟨e',x',env',st',he,hxw,hst,hi',hh,hro,hrn,hrv,hlk,hsn⟩:=hp;subst hxw;obtain⟨v,r1,r2,r3⟩:=vc hΓ.small hi' c3 hro
 let x2:X:=⟨x'.w,x'.I,x.β⟩
 have key2:∀(v:Value) (d:D),RD ν x' v d->d.bN=true->RD ν x2 v d:=fun v d h hn=>h.bN hn (fun _ h=>h) (fun _ _=>rfl)
 have hb':x'.β 0=some (b,base,tot):=hst.β _ _ hx1';have hnewI:∀b',x'.I b'->x.I b'\/x.w.heap.size<=b'\/b'=b:=by
  intro b' h;rcases hst.newI b' h with h|h|⟨l',p,h1,h2⟩
  .exact .inl h
  .exact .inr (.inl h)
  .right;right;rw[<-h2,(hx1 _ _ h1).2]
 have hstep:Step x x2:=by
  refine⟨hst.os,hst.tape,hst.output,hst.size,hst.I,hst.qw,fun _ _ h=>h,fun b' hb' hn=>hst.old b' hb' fun l' p h e=>?_,fun b' h=>?_,fun _ _ h=>.inl h⟩
  .have:=hn l _ hβ;rw[(hx1 _ _ h).2]at e;exact this e
  .rcases hnewI b' h with h|h|h
   .exact .inl h
   .exact .inr (.inl h)
   .exact .inr (.inr ⟨l,_,hβ,h.symm⟩)
 have hsim:ie ν x2 (fun l'=>if l'=l then some (.buf k [sd])else f l'):=by
  have hbb:=hi'.pR.own 0 _ b base tot hlk hb';refine⟨fun l' blk b' base' tot' e1 e2=>?_,fun l1 l2 b' base' tot' base'' tot'' e1 e2 e3 e4=>?_,hi'.pR.imm,fun l' b' base' tot' e=>cz (hs.fV l' b' base' tot' e) hst.size,df.le x' _ (fun _ h=>h) (fun _ _=>rfl) hi'.pR.gd⟩
  .by_cases hll:l'=l
   .subst hll;simp only[ba,bq]at e1;subst e1;have e2':x.β l'=some (b',base',tot'):=e2;rw[hβ]at e2';simp only[bq,eO]at e2';obtain⟨rfl,rfl,rfl⟩:=e2';refine⟨hbb.1, ?_⟩;obtain⟨p1,p2,c,T,fr,p3,p4,p5,p6⟩:=hbb.2;refine⟨p1,p2,c,T,fr,p3,p4,p5,fun i hi=>⟨(p6 i hi).1,fun j hj=>⟨((p6 i hi).2 j hj).1,key2 _ _ ((p6 i hi).2 j hj).2 ?_⟩⟩⟩;have:i=0:=by simpa using hi
    subst this;exact nE (by simpa using hsn) j
   .simp only[ar hll]at e1;have e2':x.β l'=some (b',base',tot'):=e2;obtain⟨q1,q2⟩:=hs.own l' blk b' base' tot' e1 e2';have hne:b'≠b:=fun e=>by subst e;exact hll (hs.inj l' l b' base' tot' base tot (by rw[e1];simp) (by rw[hfl];simp) e2' hβ)
    have hlt:=hs.fV l' b' base' tot' e2';refine⟨fun h=>?_,q2.mono hstep.le (hst.old b' hlt fun l'' p h e=>hne (by rw[<-e,(hx1 _ _ h).2]))⟩;rcases hnewI b' h with h|h|h
    .exact q1 h
    .omega
    .exact hne h
  .have hne:∀l',(if l'=l then some (cr.buf k [sd])else f l')≠none->f l'≠none:=fun l' h=>by
    by_cases e:l'=l
    .rw[e,hfl];simp
    .rwa [ar e]at h
   exact hs.inj l1 l2 b' base' tot' base'' tot'' (hne _ e1) (hne _ e2) e3 e4
 rw[hrv]at r2;rcases Ex.JI hh with h|h<;>rw[h]at he<;>subst he<;>exact⟨hi'.defers,v,r1,x2,rfl,hstep,key2 _ _ r2 (by rw[<-hrv];exact hrn),hsim,rfl⟩
structure Rank where
 key:Nat->Nat
 mu:Nat->List D->Nat
 muE:Nat->List D->St->Nat
def Ctx.under (Y:Ctx)(R:Rank)(k u:Nat):Ctx where
 pre n ds:=(R.key n<k\/R.key n=k/\R.mu n ds<u)/\Y.pre n ds
 val:=Y.val
 tr n ds st K:=(R.key n<k\/R.key n=k/\R.muE n ds st<u)/\Y.tr n ds st K
 fp n d ds:=(R.key n<k\/R.key n=k/\R.mu n (d::ds)<u)/\Y.fp n d ds
 fv:=Y.fv
 fs:=Y.fs
 lo:=Y.lo
def ok_of (R:Rank)(hsm:∀fid n,dI ν fid=some n->n<1000000)(hB:∀t,dr.contains (1000000000+t)=true->t=df.tB)
  (hp:∀fid n,dI ν fid=some n->∀ds,Y.pre n ds->Ok P ν dr (Y.under R (R.key n) (R.mu n ds))->∀(x:X) (args:Array Value),args.size=ds.length->(∀i,i<ds.length->RD ν x (args.getD i undef) (ds.getD i .any))->bK ds=true->
    (∀b,x.I b->b<x.w.heap.size)->df.gd x->iu P x (fun v x'=>gW x x'/\RD ν x' v (Y.val n ds)) ((callFunc fid args).run P x.w))
  (hf:∀fid n,dI ν fid=some n->dr.contains (2*n+1)=true->∀(d:D) (ds:List D),Y.fp n d ds->Ok P ν dr (Y.under R (R.key n) (R.mu n (d::ds)))->∀(x:X) (f:Nat->Option cr) (args:Array Value) (l k:Nat),args.size=ds.length+1->
    RD ν x (args.getD 0 undef) (.ptr l k 0 0)->(∀i,i<ds.length->RD ν x (args.getD (i+1) undef) (ds.getD i .any))->ie ν x f->f l=some (.buf k [d])->d.bN=true->bK ds=true->
    iu P x (fun v x'=>Step x x'/\RD ν x' v (Y.fv n d ds)/\ie ν x' (fun l'=>if l'=l then some (.buf k [Y.fs n d ds])else f l')/\x'.β=x.β) ((callFunc fid args).run P x.w))
  (he:∀fid n,dI ν fid=some n->∀(ds:List D) (st:St) (K:D->St->Prop),Y.tr n ds st K->Ok P ν dr (Y.under R (R.key n) (R.muE n ds st))->∀(x:X) (args:Array Value),args.size=ds.length->(∀i,i<ds.length->RD ν x (args.getD i undef) (ds.getD i .any))->
    ie ν x (look st.m)->ic st x->iu P x (fun v x'=>∃d st',K d st'/\Step x x'/\RD ν x' v d/\ie ν x' (look st'.m)/\ic st' x') ((callFunc fid args).run P x.w)):Ok P ν dr Y:=by
 have key:∀k u,Ok P ν dr (Y.under R k u):=by
  intro k;induction k using Nat.strongRecOn with
  |_ k ihk=>
   intro u;induction u using Nat.strongRecOn with
   |_ u ihu=>
    refine⟨hsm,hB,fun fid n hn x args ds hl hargs hnl himm hgd hpre=>?_,fun fid n hn hef x f args l kk d ds hl h0 hargs hs hfl hd hnl hpre=>?_,fun fid n hn x args ds st K hl hargs hs hf' htr=>?_⟩
    .obtain⟨hlt,hpre⟩:=hpre;refine hp fid n hn ds hpre ?_ x args hl hargs hnl himm hgd;rcases hlt with h|⟨h1,h2⟩
     .exact ihk _ h _
     .rw[h1];exact ihu _ h2
    .obtain⟨hlt,hpre⟩:=hpre;refine hf fid n hn hef d ds hpre ?_ x f args l kk hl h0 hargs hs hfl hd hnl;rcases hlt with h|⟨h1,h2⟩
     .exact ihk _ h _
     .rw[h1];exact ihu _ h2
    .obtain⟨hlt,htr⟩:=htr;refine he fid n hn ds st K htr ?_ x args hl hargs hs hf';rcases hlt with h|⟨h1,h2⟩
     .exact ihk _ h _
     .rw[h1];exact ihu _ h2
 refine⟨hsm,hB,fun fid n hn x args ds hl hargs hnl himm hgd hpre=>?_,fun fid n hn hef x f args l kk d ds hl h0 hargs hs hfl hd hnl hpre=>?_,fun fid n hn x args ds st K hl hargs hs hf' htr=>?_⟩
 .exact hp fid n hn ds hpre (key _ _) x args hl hargs hnl himm hgd
 .exact hf fid n hn hef d ds hpre (key _ _) x f args l kk hl h0 hargs hs hfl hd hnl
 .exact he fid n hn ds st K htr (key _ _) x args hl hargs hs hf'
def gx {fid:Nat}{fn:Func}(hf:P.funcs[fid]? =some fn)(hn:(fn.name== "runtime.NumGoroutine")=false)(hb:fn.body.isSome=true)(args:Array Value)(w:World):(callFunc fid args).run P w=.ok (.enter fid args) w:=by
 have h1:fn.name≠ "runtime.NumGoroutine" :=by simpa using hn
 have h2:fn.body≠none:=by intro h;rw[h]at hb;cases hb
 simp[callFunc,hf,h1,h2]
end
end
def cZ {p:Prop}(h:p:=by first|exact fun _=>rfl|exact fun h=>h|(intro h;simp_all)):p:=h
def dY {p:Prop}(h:p:=by first|exact rfl|exact⟨_,_,rfl,rfl⟩):p:=h
def CF {p:Prop}(h:p:=by first|exact fun _=>rfl|(intro h;omega)|(intro h;simp at h;omega)):p:=h
def CG {p:Prop}(h:p:=by intro h;repeat' first|exact trivial|exact rfl|exact h|refine And.intro ?_ ?_|decide):p:=h
def BH {p:Prop}(h:p:=by simp only[aM,aX,Nat.reduceAdd];exact rfl):p:=h
def zD {p:Prop}(h:p:=by intro h;first|omega|(simp at h;omega)):p:=h
def TB {p:Prop}(h:p:=by intro h;first|(constructor<;>omega)|(simp at h;constructor<;>omega)):p:=h
end Go.Abs
