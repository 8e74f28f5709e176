/- A part of the proofs. -/
import Derived.Test.YtpdlhpamcaocgaaGreatDoorP05
set_option linter.all false
set_option maxRecDepth 4000
namespace Go.Abs
def mf (x:iX):List aq->iX×List aq
 |[]=>(x,[])
 |t::r=>match ec x t with
  |some y=>mf y r
  |none=>(x,t::r)
def iH {x y:iX}{t:aq}{r:List aq}(h:ec x t=some y):mf x (t::r)=mf y r:=by simp only[mf,h]
def r7 {x:iX}{t:aq}{r:List aq}(h:ec x t=none):mf x (t::r)=(x,t::r):=by simp only[mf,h]
def pF {α:Type} [Inhabited α]{l:List α}{n:Nat}(h:1<=n):(l.take n)[0]! =l[0]! :=by
 match l,n,h with
 |[],n+1,_=>simp
 |a::r,n+1,_=>simp
def Kl (b:aq)(hb:b≠[]):∀l:List aq,2<=l.length->bc b l≠[]
 |[],h=>by simp at h
 |[a],h=>by simp at h
 |a::c::r,_=>by
  rw[ik b a (c::r) aN];intro h;have:=List.append_eq_nil_iff.1 h;have:=List.append_eq_nil_iff.1 this.1;exact hb this.2
def drop_one {α:Type} [Inhabited α]{l:List α}{n:Nat}(h:l.length=n+1):l.drop n=[l[n]!]/\l=l.take n++[l[n]!]:=by
 have h1:l.drop n=[l[n]!]:=by
  rw[jP ae,mg ae];simp[show n<l.length by omega]
 exact⟨h1,by rw[<-h1,List.take_append_drop]⟩
def vc {w:aq}{n:Nat}(h1:1<=n)(t:aq):
  eg w (n+1) true t=(match nk t n with
   |some (l,u)=>if l[0]! =w then some (l++[u])else none
   |none=>none):=by
 unfold eg nk eJ;simp only[aH];generalize ai t 32=l;rcases Nat.lt_trichotomy l.length (n+1)with h|h|h
 ·have hc:qj (n+1) l=l:=av ae;rw[hc,aj (by rintro⟨_,h|h,_⟩<;>omega),aj (by rintro⟨a,_⟩;omega)]
 ·have hc:qj (n+1) l=l:=av ae;obtain⟨d1,d2⟩:=drop_one h;rw[hc,d1];by_cases hc:[]∉l
  ·have hn:[]∉l.take n:=fun hm=>hc (m8 hm)
   have hl:l[n]! ≠[]:=fun e=>hc (by rw[d2,e];simp)
   rw[av (c:=n<l.length/\[]∉l.take n/\bc [32] [l[n]!]≠[]) ⟨ae,hn,hl⟩];simp only[pF h1,bc,<-d2];by_cases hw:l[0]! =w
   ·rw[av ⟨hw,.inr h,hc⟩,av hw]
   ·rw[aj (fun hh=>hw hh.1),aj hw]
  ·rw[aj (fun hh=>hc hh.2.2),aj];rintro⟨_,h2,h3⟩;refine hc (fun hm=>?_);rw[d2,List.mem_append]at hm;rcases hm with hm|hm
   ·exact h2 hm
   ·simp only[cK]at hm;exact h3 hm.symm
 ·have hc:qj (n+1) l=l.take n++[bc [32] (l.drop n)]:=aj ae;rw[hc];have hj:bc [32] (l.drop n)≠[]:=Kl [32] aN _ (by rw[jn];omega);have hlen:(l.take n++[bc [32] (l.drop n)]).length=n+1:=cX;have h0:(l.take n++[bc [32] (l.drop n)])[0]! =l[0]! :=by
   match l,n,h,h1 with
   |a::r,n+1,_,_=>simp
  rw[h0];by_cases hn:[]∉l.take n
  ·rw[av (c:=n<l.length/\[]∉l.take n/\bc [32] (l.drop n)≠[]) ⟨ae,hn,hj⟩];simp only[pF h1];by_cases hw:l[0]! =w
   ·rw[av ⟨hw,.inr hlen,fun hm=>by
     rw[List.mem_append]at hm;rcases hm with hm|hm
     ·exact hn hm
     ·simp only[cK]at hm;exact hj hm.symm⟩,av hw]
   ·rw[aj (fun hh=>hw hh.1),aj hw]
  ·rw[aj (fun hh=>hn (fun hm=>hh.2.2 (List.mem_append_left _ hm))),aj (fun hh=>hn hh.2.1)]
def vv {t:aq}{n:Nat}{l:List aq}{u:aq}(h:nk t n=some (l,u)):l=(ai t 32).take n/\u=bc [32] ((ai t 32).drop n)/\n<(ai t 32).length/\[]∉l/\u≠[]:=by
 unfold nk at h;split at h
 ·rename_i hc;simp only[a7,dc]at h;obtain⟨rfl,rfl⟩:=h;exact⟨rfl,rfl,hc.1,hc.2.1,hc.2.2⟩
 ·cases h
def rX {w:aq}{n:Nat}{t:aq}{q:List aq}(h1:1<=n)(h:eg w (n+1) true t=some q):∃l u,nk t n=some (l,u)/\(ai t 32)[0]! =w/\q=l++[u]/\l.length=n:=by
 rw[vc h1]at h;cases hr:nk t n with
 |none=>rw[hr]at h;cases h
 |some p=>
  obtain⟨l,u⟩:=p;rw[hr]at h;simp only at h;split at h
  ·rename_i hw;obtain⟨e1,e2,e3,_⟩:=vv hr;refine⟨l,u,rfl, ?_,(bC h).symm,by rw[e1,dq];omega⟩;rw[<-hw,e1,pF h1]
  ·cases h
def GM {w:aq}{n:Nat}{t:aq}(h1:1<=n)(h:eg w (n+1) true t=none)(hw:(ai t 32)[0]! =w):nk t n=none:=by
 rw[vc h1]at h;cases hr:nk t n with
 |none=>rfl
 |some p=>
  obtain⟨l,u⟩:=p;rw[hr]at h;obtain⟨e1,_⟩:=vv hr;simp only at h;rw[av (by rw[e1,pF h1];exact hw)]at h;cases h
def pS {α:Type} [Inhabited α]{l r:List α}{i:Nat}(h:i<l.length):(l++r)[i]! =l[i]! :=by
 simp[List.getElem!_eq_getElem?_getD,List.getElem?_append_left h]
def tS {α:Type} [Inhabited α]{l:List α}{u:α}{i:Nat}(h:l.length=i):(l++[u])[i]! =u:=by
 subst h;simp
def ye {w:aq}{n:Nat}{t:aq}:eg w n false t=if(ai t 32)[0]! =w/\(n=0\/(ai t 32).length=n)/\[]∉ai t 32 then some (ai t 32)else none:=by
 unfold eg eJ;simp only[ey,aI]
def pj {l:List aq}{n:Nat}:uc l n=true↔l.length=n/\[]∉l:=by
 unfold uc;simp
def zk (t:aq):Option (List aq):=match eg ib 5 true t with
 |some l=>if lC l=true then some l else none
 |none=>none
def tO (t:aq):Option (List aq):=match eg cG 0 false t with
 |some l=>if 2<=l.length then some l else none
 |none=>none
def No (p:aq->Option (List aq))(ls:List aq):Prop:=∀t r,ls=t::r->p t=none
def eI {α:Type}(l:List α)(a:α)(f:α->α):fU (l++[a]) f=l++[f a]:=by
 unfold fU;simp
def yY:eQ≠ib/\eQ≠fP/\eQ≠di/\eQ≠ic/\eQ≠cG/\ib≠fP/\ib≠di/\ib≠ic/\ib≠cG/\fP≠di/\fP≠ic/\fP≠cG/\di≠ic/\di≠cG/\ic≠cG:=aF
def IW {x:iX}{t:aq}{q:List aq}(h0:x.st≠0)(h5:x.st<5)(h:eg eQ 1 false t=some q):ec x t=some ⟨{x.r with needs:=x.r.needs++[⟨[],[],[]⟩]},2⟩:=by
 rw[ye]at h;split at h
 ·rename_i hc;obtain⟨e1,e2,e3⟩:=hc;have e2:(ai t 32).length=1:=by rcases e2 with h|h<;>omega
  unfold ec;simp only[h0,aI,e1,aH,e2,h5,cr]
 ·cases h
def LL {x:iX}{t:aq}{q:List aq}(h2:x.st=2)(h:zk t=some q):ec x t=some ⟨{x.r with needs:=fU x.r.needs fun n=>{n with any:=n.any++[gX q]}},2⟩:=by
 unfold zk at h;cases hn:eg ib 5 true t with
 |none=>rw[hn]at h;cases h
 |some l=>
  rw[hn]at h;simp only at h;split at h
  ·rename_i ho;obtain rfl:=bC h;obtain⟨l0,u,e1,e2,rfl,e4⟩:=rX ae hn;have ho':lC l0=true:=by
    unfold lC at ho⊢;rw[pS ae]at ho;exact ho
   have hw:=yY;unfold ec;simp only[h2,e2,Ne.symm hw.1,aI,aH,show ¬(2:Nat)=0 by omega];unfold uB;simp only[e1,h2,ho',cr,aH];unfold gX;rw[pS (i:=1) ae,pS (i:=2) ae,pS (i:=3) ae,tS e4]
  ·cases h
def FL {x:iX}{t:aq}{q:List aq}(h2:x.st=2)(h:eg fP 2 true t=some q):ec x t=some ⟨{x.r with needs:=fU x.r.needs fun n=>{n with when':=q[1]!}},3⟩:=by
 obtain⟨l0,u,e1,e2,rfl,e4⟩:=rX (n:=1) ae h;have hw:=yY;unfold ec;simp only[h2,e2,Ne.symm hw.2.1,Ne.symm hw.2.2.2.2.2.1,aI,aH,show ¬(2:Nat)=0 by omega];unfold oD;simp only[e1,h2,aH];rw[tS e4]
def FM {x:iX}{t:aq}{q:List aq}(h2:x.st=5)(h:eg fP 2 true t=some q):ec x t=some ⟨{x.r with bars:=fU x.r.bars fun n=>{n with when':=q[1]!}},6⟩:=by
 obtain⟨l0,u,e1,e2,rfl,e4⟩:=rX (n:=1) ae h;have hw:=yY;unfold ec;simp only[h2,e2,Ne.symm hw.2.1,Ne.symm hw.2.2.2.2.2.1,aI,aH,show ¬(5:Nat)=0 by omega];unfold oD;simp only[e1,h2,aH,show ¬(5:Nat)=2 by omega,aI];rw[tS e4]
def DU {x:iX}{t:aq}{q:List aq}(h2:x.st=2\/x.st=3)(h:eg di 2 false t=some q):ec x t=some ⟨{x.r with needs:=fU x.r.needs fun n=>{n with option:=q[1]!}},4⟩:=by
 rw[ye]at h;split at h
 ·rename_i hc;obtain⟨e1,e2,e3⟩:=hc;obtain rfl:=bC h;have e2:(ai t 32).length=2:=by rcases e2 with h|h<;>omega
  have hw:=yY;have h0:¬x.st=0:=ae;unfold ec;simp only[h0,e1,Ne.symm hw.2.2.1,Ne.symm hw.2.2.2.2.2.2.1,Ne.symm hw.2.2.2.2.2.2.2.2.2.1,aI,aH,pj.2 ⟨e2,e3⟩,h2,cr]
 ·cases h
def LM {x:iX}{t:aq}{q:List aq}(h0:x.st≠0)(h6:x.st<=6)(h:eg ic 3 true t=some q):ec x t=some ⟨{x.r with bars:=x.r.bars++[⟨q[1]!,q[2]!,[]⟩]},5⟩:=by
 obtain⟨l0,u,e1,e2,rfl,e4⟩:=rX (n:=2) ae h;have hw:=yY;unfold ec;simp only[h0,e2,Ne.symm hw.2.2.2.1,Ne.symm hw.2.2.2.2.2.2.2.1,Ne.symm hw.2.2.2.2.2.2.2.2.2.2.1,Ne.symm hw.2.2.2.2.2.2.2.2.2.2.2.2.1,aI,aH,e1,h6];rw[pS ae,tS e4]
def IV {x:iX}{t:aq}{q:List aq}(h0:x.st≠0)(h:tO t=some q):ec x t=some ⟨{x.r with feats:=x.r.feats++[⟨q[1]!,q.drop 2⟩]},7⟩:=by
 unfold tO at h;rw[ye]at h;split at h
 ·rename_i l hl;split at hl
  ·rename_i hc;obtain rfl:=bC hl;split at h
   ·rename_i h2;obtain rfl:=bC h;obtain⟨e1,_,e3⟩:=hc;have hw:=yY;unfold ec;simp only[h0,e1,Ne.symm hw.2.2.2.2.1,Ne.symm hw.2.2.2.2.2.2.2.2.1,Ne.symm hw.2.2.2.2.2.2.2.2.2.2.2.1,Ne.symm hw.2.2.2.2.2.2.2.2.2.2.2.2.2.1,Ne.symm hw.2.2.2.2.2.2.2.2.2.2.2.2.2.2,aI,aH,h2,pj.2 ⟨rfl,e3⟩,cr]
   ·cases h
  ·cases hl
 ·cases h
def NY {x:iX}{t:aq}(h0:x.st≠0)(h1:x.st<5->eg eQ 1 false t=none)(h2:x.st=2->zk t=none)(h3:x.st=2\/x.st=5->eg fP 2 true t=none)
  (h4:x.st=2\/x.st=3->eg di 2 false t=none) (h5:x.st<=6->eg ic 3 true t=none) (h6:tO t=none) (hne:(ai t 32).length=1->(ai t 32)[0]! =eQ->[]∉ai t 32):ec x t=none:=by
 unfold ec;simp only[h0,aI];split
 ·rename_i e1;rw[aj];rintro⟨e2,e3⟩;have:=h1 e3;rw[ye,av ⟨e1,.inr e2,hne e2 e1⟩]at this;cases this
 ·split
  ·rename_i e1;unfold uB;cases hr:nk t 4 with
   |none=>rfl
   |some p=>
    obtain⟨l,u⟩:=p;simp only;rw[aj];rintro⟨e2,e3⟩;have:=h2 e2;unfold zk at this;rw[vc (n:=4) ae,hr]at this;obtain⟨q1,_,q3,_⟩:=vv hr;have hl4:l.length=4:=by rw[q1,dq];omega
    simp only at this;rw[av (by rw[q1,pF ae];exact e1)]at this;simp only at this;have hh:lC (l++[u])=true:=by unfold lC at e3⊢;rw[pS ae];exact e3
    rw[av hh]at this;cases this
  ·split
   ·rename_i e1;unfold oD;cases hr:nk t 1 with
    |none=>rfl
    |some p=>
     obtain⟨l,u⟩:=p;simp only;by_cases hs:x.st=2\/x.st=5
     ·rw[GM (n:=1) ae (h3 hs) e1]at hr;cases hr
     ·rw[aj (fun h=>hs (.inl h)),aj (fun h=>hs (.inr h))]
   ·split
    ·rename_i e1;rw[aj];rintro⟨e2,e3⟩;have:=h4 e3;rw[pj]at e2;rw[ye,av ⟨e1,.inr e2.1,e2.2⟩]at this;cases this
    ·split
     ·rename_i e1;cases hr:nk t 2 with
      |none=>rfl
      |some p=>
       obtain⟨l,u⟩:=p;simp only;by_cases hs:x.st<=6
       ·rw[GM (n:=2) ae (h5 hs) e1]at hr;cases hr
       ·rw[aj hs]
     ·split
      ·rename_i e1;rw[aj];rintro⟨e2,e3⟩;rw[pj]at e3;unfold tO at h6;rw[ye,av ⟨e1,.inl rfl,e3.2⟩]at h6;simp only at h6;rw[av e2]at h6;cases h6
      ·rfl
def lT {w:aq}{n:Nat}{op:Bool}{ls:List aq}(h:cq w n op ls=none):No (eg w n op) ls:=by
 rintro t r rfl;simp only[cq]at h;split at h
 ·cases h
 ·assumption
def dI {w:aq}{n:Nat}{op:Bool}{ls l r:List aq}(h:cq w n op ls=some (l,r)):∃t,ls=t::r/\eg w n op t=some l:=by
 match ls,h with
 |[],h=>cases h
 |t::q,h=>
  simp only[cq]at h;split at h
  ·rename_i l' hl;simp only[a7,dc]at h;obtain⟨rfl,rfl⟩:=h;exact⟨t,rfl,hl⟩
  ·cases h
def yK (R:Rec)(N:List ba):∀(ls:List aq)(A:List bD),mf ⟨{R with needs:=N++[⟨A,[],[]⟩]},2⟩ ls=mf ⟨{R with needs:=N++[⟨A++(cz ls).1,[],[]⟩]},2⟩ (cz ls).2/\No zk (cz ls).2
 |[],A=>⟨by simp[cz],fun t r h=>by simp[cz]at h⟩
 |t::r,A=>by
  have key:∀{l},eg ib 5 true t=some l->lC l=true->zk t=some l:=fun h1 h2=>by simp only[zk,h1,h2,aH]
  cases hn:eg ib 5 true t with
  |none=>
   have e:cz (t::r)=([],t::r):=by simp only[cz,hn]
   rw[e];refine⟨aN,fun t' r' h=>?_⟩;simp only[jq]at h;rw[<-h.1];simp only[zk,hn]
  |some l=>
   by_cases ho:lC l=true
   ·have e:cz (t::r)=(gX l::(cz r).1,(cz r).2):=by simp only[cz,hn,ho,aH]
    rw[e];obtain⟨i1,i2⟩:=yK R N r (A++[gX l]);refine⟨?_,i2⟩;rw[iH (LL rfl (key hn ho)),eI];simp only[i1,dG,List.singleton_append]
   ·have e:cz (t::r)=([],t::r):=by simp only[cz,hn,ho,ey,aI]
    rw[e];refine⟨aN,fun t' r' h=>?_⟩;simp only[jq]at h;rw[<-h.1];simp only[zk,hn,ho,ey,aI]
def Stop (s:Nat)(ls:List aq):Prop:=(s=2->No zk ls/\No (eg fP 2 true) ls)/\(s=2\/s=3->No (eg di 2 false) ls)/\(s=5->No (eg fP 2 true) ls)
def LJ (R:Rec)(N:List ba)(ls:List aq):∃s,(s=2\/s=3\/s=4)/\mf ⟨{R with needs:=N++[⟨[],[],[]⟩]},2⟩ ls=mf ⟨{R with needs:=N++[(eN ls).1]},s⟩ (eN ls).2/\Stop s (eN ls).2:=by
 obtain⟨a1,a2⟩:=yK R N ls [];rw[a1];unfold eN;generalize cz ls=p at a2⊢;obtain⟨W,l1⟩:=p;simp only[eY]at a2⊢;cases hw:cq fP 2 true l1 with
 |none=>
  have ew:cn l1=([],l1):=by simp only[cn,hw]
  rw[ew];simp only;cases ho:cq di 2 false l1 with
  |none=>
   have eo:oN l1=([],l1):=by simp only[oN,ho]
   rw[eo];exact⟨2,.inl rfl,rfl,fun _=>⟨a2,lT hw⟩,fun _=>lT ho,fun h=>ae⟩
  |some q=>
   obtain⟨l,r⟩:=q;have eo:oN l1=(l[1]!,r):=by simp only[oN,ho]
   rw[eo];obtain⟨t,rfl,ht⟩:=dI ho;refine⟨4,.inr (.inr rfl), ?_,fun h=>ae,fun h=>ae,fun h=>ae⟩;rw[iH (DU (.inl rfl) ht),eI]
 |some q=>
  obtain⟨l,r⟩:=q;have ew:cn l1=(l[1]!,r):=by simp only[cn,hw]
  rw[ew];simp only;obtain⟨t,rfl,ht⟩:=dI hw;rw[iH (FL rfl ht),eI];simp only;cases ho:cq di 2 false r with
  |none=>
   have eo:oN r=([],r):=by simp only[oN,ho]
   rw[eo];exact⟨3,.inr (.inl rfl),rfl,fun h=>ae,fun _=>lT ho,fun h=>ae⟩
  |some q=>
   obtain⟨l',r'⟩:=q;have eo:oN r=(l'[1]!,r'):=by simp only[oN,ho]
   rw[eo];obtain⟨t',rfl,ht'⟩:=dI ho;refine⟨4,.inr (.inr rfl), ?_,fun h=>ae,fun h=>ae,fun h=>ae⟩;rw[iH (DU (.inr rfl) ht'),eI]
def IK (R:Rec):∀(f:Nat)(ls:List aq)(N:List ba)(s:Nat),ls.length<=f->1<=s->s<5->Stop s ls->
  ∃s',1<=s'/\s'<5/\mf ⟨{R with needs:=N},s⟩ ls=mf ⟨{R with needs:=N++(eh ls).1},s'⟩ (eh ls).2/\Stop s' (eh ls).2/\No (eg eQ 1 false) (eh ls).2:=by
 intro f;induction f with
 |zero=>
  intro ls N s hl h1 h5 hs;have:ls=[]:=oP.1 ae;subst this;rw[qV (by rfl)];exact⟨s,h1,h5,aN,hs,fun t r h=>by cases h⟩
 |succ f ih=>
  intro ls N s hl h1 h5 hs;cases hn:cq eQ 1 false ls with
  |none=>
   rw[qV hn];exact⟨s,h1,h5,aN,hs,lT hn⟩
  |some q=>
   obtain⟨l,r⟩:=q;rw[vR hn];have hlen:=jC hn;obtain⟨t,rfl,ht⟩:=dI hn;rw[iH (IW (by simp only;omega) (by simpa using h5) ht)];obtain⟨s1,b1,b2,b3⟩:=LJ R N r;simp only;rw[b2];have:=uY r;obtain⟨s2,c1,c2,c3,c4,c5⟩:=ih (eN r).2 (N++[(eN r).1]) s1 (by simp only[ax]at hl;omega) ae ae b3;exact⟨s2,c1,c2,by rw[c3];simp,c4,c5⟩
def LH (R:Rec):∀(f:Nat)(ls:List aq)(B:List fh)(s:Nat),ls.length<=f->1<=s->s<=6->Stop s ls->(s<5->No (eg eQ 1 false) ls)->
  ∃s',1<=s'/\s'<=6/\mf ⟨{R with bars:=B},s⟩ ls=mf ⟨{R with bars:=B++(iP ls).1},s'⟩ (iP ls).2/\Stop s' (iP ls).2/\(s'<5->No (eg eQ 1 false) (iP ls).2)/\No (eg ic 3 true) (iP ls).2:=by
 intro f;induction f with
 |zero=>
  intro ls B s hl h1 h5 hs hnd;have:ls=[]:=oP.1 ae;subst this;rw[sK (by rfl)];exact⟨s,h1,h5,aN,hs,fun _ t r h=>by(cases h),fun t r h=>by cases h⟩
 |succ f ih=>
  intro ls B s hl h1 h5 hs hnd;cases hn:cq ic 3 true ls with
  |none=>
   rw[sK hn];exact⟨s,h1,h5,aN,hs,hnd,lT hn⟩
  |some q=>
   obtain⟨l,r⟩:=q;rw[xn hn];have hlen:=jC hn;obtain⟨t,rfl,ht⟩:=dI hn;rw[iH (LM (by simp only;omega) (by simpa using h5) ht)];have hwl:=sb r;simp only[ax]at hl;cases hw:cq fP 2 true r with
   |none=>
    have ew:cn r=([],r):=by simp only[cn,hw]
    rw[ew]at hwl⊢;simp only;obtain⟨s2,c1,c2,c3,c4,c5,c6⟩:=ih r (B++[⟨l[1]!,l[2]!,[]⟩]) 5 ae ae ae ⟨fun h=>ae,fun h=>ae,fun _=>lT hw⟩ (fun h=>ae);exact⟨s2,c1,c2,by rw[c3];simp,c4,c5,c6⟩
   |some q=>
    obtain⟨l',r'⟩:=q;have ew:cn r=(l'[1]!,r'):=by simp only[cn,hw]
    rw[ew]at hwl⊢;obtain⟨t',rfl,ht'⟩:=dI hw;rw[iH (FM rfl ht'),eI];simp only at hwl⊢;obtain⟨s2,c1,c2,c3,c4,c5,c6⟩:=ih r' (B++[⟨l[1]!,l[2]!,l'[1]!⟩]) 6 (by simp only[ax]at hl;omega) ae ae ⟨fun h=>ae,fun h=>ae,fun h=>ae⟩ (fun h=>ae);exact⟨s2,c1,c2,by rw[c3];simp,c4,c5,c6⟩
def AF (R:Rec):∀(ls:List aq)(F:List bF)(s:Nat),1<=s->
  ∃s',(s'=7\/(s'=s/\(dA ls).2=ls))/\mf ⟨{R with feats:=F},s⟩ ls=mf ⟨{R with feats:=F++(dA ls).1},s'⟩ (dA ls).2/\No tO (dA ls).2
 |[],F,s,h=>⟨s,.inr ⟨rfl,rfl⟩,by simp[dA],fun t r h=>by simp[dA]at h⟩
 |t::r,F,s,h=>by
  cases hn:eg cG 0 false t with
  |none=>
   have e:dA (t::r)=([],t::r):=by simp only[dA,hn]
   rw[e];refine⟨s,.inr ⟨rfl,rfl⟩,aN,fun t' r' h=>?_⟩;simp only[jq]at h;rw[<-h.1];simp only[tO,hn]
  |some l=>
   by_cases ho:2<=l.length
   ·have e:dA (t::r)=(⟨l[1]!,l.drop 2⟩::(dA r).1,(dA r).2):=by simp only[dA,hn,ho,aH]
    rw[e];have hf:tO t=some l:=by simp only[tO,hn,ho,aH]
    rw[iH (IV (by simp only;omega) hf)];obtain⟨s',i1,i2,i3⟩:=AF R r (F++[⟨l[1]!,l.drop 2⟩]) 7 ae;refine⟨7,.inl rfl, ?_,i3⟩;have:s'=7:=by rcases i1 with h|h;exact h;exact h.1
    subst this;simp only[i2,dG,List.singleton_append]
   ·have e:dA (t::r)=([],t::r):=by simp only[dA,hn,ho,aI]
    rw[e];refine⟨s,.inr ⟨rfl,rfl⟩,aN,fun t' r' h=>?_⟩;simp only[jq]at h;rw[<-h.1];simp only[tO,hn,ho,aI]
def Nw {t:aq}(h1:(ai t 32).length=1)(h2:(ai t 32)[0]! =eQ):[]∉ai t 32:=by
 obtain⟨a,ha⟩:=List.length_eq_one_iff.1 h1;rw[ha]at h2⊢;simp only[List.getElem!_cons_zero]at h2;subst h2;decide
def LI (nm:aq)(v:cM)(ls:List aq):∃s,1<=s/\mf ⟨⟨nm,v,[],[],[]⟩,1⟩ ls=(⟨(sC nm v ls).1,s⟩,(sC nm v ls).2):=by
 obtain⟨s1,a1,a2,a3,a4,a5⟩:=IK ⟨nm,v,[],[],[]⟩ ls.length ls [] 1 (aM _) ae ae ⟨fun h=>ae,fun h=>ae,fun h=>ae⟩;obtain⟨s2,b1,b2,b3,b4,b5,b6⟩:=LH ⟨nm,v,(eh ls).1,[],[]⟩ (eh ls).2.length (eh ls).2 [] s1 (aM _) a1 ae a4 (fun _=>a5);obtain⟨s3,c1,c2,c3⟩:=AF ⟨nm,v,(eh ls).1,(iP (eh ls).2).1,[]⟩ (iP (eh ls).2).2 [] s2 b1;simp only[eY]at a3 b3 c2;have hs3:1<=s3:=by rcases c1 with h|h<;>omega
 refine⟨s3,hs3, ?_⟩;rw[a3,b3,c2];unfold sC;generalize hR:(⟨nm,v,(eh ls).1,(iP (eh ls).2).1,(dA (iP (eh ls).2).2).1⟩:Rec)=R
 match hq:(dA (iP (eh ls).2).2).2 with
 |[]=>rfl
 |t::r=>
  refine r7 (NY (by simp only;omega) ?_ ?_ ?_ ?_ ?_ (c3 t r hq) Nw);all_goals
   intro h;simp only at h;rcases c1 with h7|⟨rfl,e⟩
   ·omega
   rw[e]at hq
  ·exact b5 h t r hq
  ·exact(b4.1 h).1 t r hq
  ·rcases h with h|h
   ·exact(b4.1 h).2 t r hq
   ·exact b4.2.2 h t r hq
  ·exact b4.2.1 h t r hq
  ·exact b6 t r hq
def head_eq {t:aq}:xO (ai t 32)=(match eg dL 3 false t with
  |some l=>(match fK l[2]! with
   |some v=>some ⟨⟨l[1]!,v,[],[],[]⟩,1⟩
   |none=>none)
  |none=>none):=by
 rw[ye];unfold xO;generalize ai t 32=l;by_cases h1:l.length=3/\l[0]! =dL
 ·obtain⟨a,b,c,rfl⟩:∃a b c,l=[a,b,c]:=by
   match l,h1.1 with
   |[a,b,c],_=>exact⟨a,b,c,rfl⟩
  have h2:=h1.2;simp only[List.getElem!_cons_zero]at h2;subst h2;by_cases hb:b=[]
  ·subst hb;rw[aj aN,aj aN]
  ·rw[av ⟨h1,by simpa using hb⟩];by_cases hc:c=[]
   ·subst hc;rw[aj aN];rfl
   ·have hm:[]∉[dL,b,c]:=by
     simp only[dr,gw,or_false,not_or];exact⟨aF,fun h=>hb h.symm,fun h=>hc h.symm⟩
    rw[av ⟨h1.2,.inr rfl,hm⟩];cases hq:fK [dL,b,c][2]! <;>simp only[hq]
 ·rw[aj (fun h=>h1 h.1),aj];rintro⟨a,b,_⟩;exact h1 ⟨by rcases b with b|b<;>omega,a⟩
def uj:iX:=⟨jX,0⟩
def Q6 (t:aq):ec uj t=xO (ai t 32):=by unfold ec uj;simp
def BX (ls:List aq):match pz ls with
  |some (r,rest)=>∃s,1<=s/\mf uj ls=(⟨r,s⟩,rest)
  |none=>mf uj ls=(uj,ls):=by
 match ls with
 |[]=>rfl
 |t::q=>
  have hs:=Q6 t;rw[head_eq]at hs;cases hn:eg dL 3 false t with
  |none=>
   rw[hn]at hs;simp only[pz,cq,hn];exact r7 hs
  |some l=>
   rw[hn]at hs;simp only[pz,cq,hn];cases hv:fK l[2]! with
   |none=>
    simp only[hv]at hs;exact r7 hs
   |some v=>
    simp only[hv]at hs;obtain⟨s,h1,h2⟩:=LI l[1]! v q;exact⟨s,h1,by rw[iH hs,h2];rfl⟩
def sx (m:List (Nat×bV))(l:Nat)(t:List UInt8):Prop:=(∃u,look m l=some (.bld none 0 u)/\t=[])\/(∃l2 u,look m l=some (.bld (some l2) t.length u)/\look m l2=some (.row t))
@[go_sem] def gu (m:List (Nat×bV))(l:Nat):List (Nat×bV):=match look m l with
 |some (.bld (some l2) _ _)=>cD m l2
 |_=>m
@[go_sem] def qz (m:List (Nat×bV))(l L:Nat)(t:List UInt8):List (Nat×bV):=(L,.row t)::du (gu m l) l (.bld (some L) t.length true)
def TrW (afB:D)(s:List UInt8)(ds:List D)(st:St)(K:D->St->Prop):Prop:=∃l t,ds=[.ptr l 2 0 0,afB]/\sx st.m l t/\l<st.nx/\s≠[]/\t.length+s.length<=1099511627776/\K .any ⟨st.nx+1,qz st.m l st.nx (t++s)⟩
def UK (ds:List D)(st:St)(K:D->St->Prop):Prop:=∃s,TrW (.str s) s ds st K
def UJ (ds:List D)(st:St)(K:D->St->Prop):Prop:=∃c,TrW (.int .u8 c.toNat) [c] ds st K
def UI (ds:List D)(st:St)(K:D->St->Prop):Prop:=∃l t,ds=[.ptr l 2 0 0]/\sx st.m l t/\t≠[]/\K (.str t) ⟨st.nx,cD (gu st.m l) l⟩
def Ph (Y:Ctx):Prop:=∀(ds:List D)(st:St)(K:D->St->Prop),UK ds st K->Y.tr 489 ds st K
def Pn (Y:Ctx):Prop:=∀(ds:List D)(st:St)(K:D->St->Prop),UJ ds st K->Y.tr 664 ds st K
def O8 (Y:Ctx):Prop:=∀(ds:List D)(st:St)(K:D->St->Prop),UI ds st K->Y.tr 452 ds st K
def HZ (b a:aq)(l:List aq)(h:a≠[]):bc b (a::l)≠[]:=by
 match l with
 |[]=>exact h
 |c::r=>
  rw[ik b a (c::r) aN];intro e;have:=List.append_eq_nil_iff.1 e;exact h (List.append_eq_nil_iff.1 this.1).1
def A3 (ws:List aq)(t:aq):Prop:=(bc [32] ws≠[]/\ws.length<=1048600)/\(∀w∈ws,w.length<=2097200)/\t.length+(bc [32] ws).length+1<=1099511627776
def A3.mk {a:aq}{l:List aq}{t:aq}(h1:a≠[])(h2:l.length<=99)(h3:∀w∈a::l,w.length<=2097200)(h4:t.length<=1000000000):A3 (a::l) t:=by
 have h5:=nJ 32 2097200 (a::l) h3;have h6:(a::l).length<=100:=by simp only[ax];omega
 have h7:=ff (2097200+1) h6;exact⟨⟨HZ _ _ _ h1,ae⟩,h3,ae⟩
def O6 (Y:Ctx):Prop:=∀(ws:List aq)(t:aq)(l lw nx:Nat)(m:List (Nat×bV))(K:D->St->Prop),sx m l t->look m lw=some (.buf 1 (ws.map D.str))->l<nx->lw<nx->A3 ws t->
 K (.tup []) ⟨nx+1,qz (cD m lw) l nx (t++cw ws)⟩->Y.tr 450 [.ptr l 2 0 0,.own lw 1 0 ws.length] ⟨nx,m⟩ K
def uW {m:List (Nat×bV)}{l L:Nat}{t:List UInt8}(h:l≠L):look (qz m l L t) l=some (.bld (some L) t.length true)/\look (qz m l L t) L=some (.row t):=by
 constructor
 ·simp only[qz,look,aj (fun e=>h (Eq.symm e))]
  haveI:dy:={gd:=fun _=>True,le:=fun _ _ _ _ _=>trivial}
  rw[cF,av rfl]
 ·simp only[qz,look,av]
def MI {m:List (Nat×bV)}{l L:Nat}{t:List UInt8}(h:l≠L):sx (qz m l L t) l t:=.inr ⟨L,true,uW h⟩
end Go.Abs
section
namespace Go.Abs
def ah {p:Prop}(h:p:=by exact rfl):p:=h
def pw {p:Prop}(h:p:=by repeat(first|exact dz.nil|refine dz.un ?_|refine dz.eq aZ ?_)):p:=h
def cB {p:Prop}(h:p:=by first|exact rfl|exact bJ (fun _=>rfl) _):p:=h
def eC {p:Prop}(h:p:=by repeat(first|exact dz.nil|refine dz.un ?_|refine dz.eq aZ ?_|refine dz.nl aZ aZ ?_)):p:=h
def ek {p:Prop}(h:p:=by repeat' first|exact trivial|exact rfl|refine And.intro ?_ ?_):p:=h
def wC {p:Prop}(h:p:=by repeat' first|exact trivial|exact rfl|exact aM _|refine And.intro ?_ ?_):p:=h
def rh {p:Prop}(h:p:=by repeat(first|exact aY.nil|refine aY.ez aZ aZ (by first|exact rfl|exact bJ (fun _=>rfl) _) ?_|refine aY.lr aZ aZ aZ ?_|refine aY.nI aZ aZ aZ aZ ?_)):p:=h
def b0 {p:Prop} [Decidable p]:(decide p=true)=p:=aS
def b1 {p:Prop} [Decidable p]:decide p=false↔¬p:=bj
def b2 (b:Bool):((!b)=true)=(b=false):=bn b
def b3 (b:Bool):((!b)=false)=(b=true):=bP b
def b4 (b:Bool):(¬(b=false))=(b=true):=Bool.not_eq_false b
def b5 (a b:Bool):((a ||b)=true)=(a=true\/b=true):=cR a b
def b6 {a b:Bool}:(a ||b)=false↔a=false/\b=false:=c9
end Go.Abs
namespace Go.Abs
abbrev dV (Y:Ctx)(a:aJ)(d:D)(ds:List D):Prop:=bX (Y.at 0) a.body (P1 a d) (fI a ds) ⟨0,[]⟩
def b8 {a:aJ}{d d2:D}{e:Ex}{nx:Nat}{m:List (Nat×bV)}{env:List ca}(h:d2=d)(he:e.home:=by exact trivial)(h1:qo m env a.res:=by exact wC)(h2:A0 a env m:=by exact ek)(h3:I7 a env m=d2:=by exact rfl):P1 a d e env ⟨nx,m⟩:=QY he h1 h2 (h3.trans h)
def b7 {a:aJ}{d d2:Bool}{e:Ex}{nx:Nat}{m:List (Nat×bV)}{env:List ca}(h:d2=d)(he:e.home:=by exact trivial)(h1:qo m env a.res:=by exact wC)(h2:A0 a env m:=by exact ek)(h3:I7 a env m=.bool d2:=by exact rfl):P1 a (.bool d) e env ⟨nx,m⟩:=b8 (ak _ h) he h1 h2 h3
def cV {a:aJ}{d d2:List UInt8}{e:Ex}{nx:Nat}{m:List (Nat×bV)}{env:List ca}(h:d2=d)(he:e.home:=by exact trivial)(h1:qo m env a.res:=by exact wC)(h2:A0 a env m:=by exact ek)(h3:I7 a env m=.str d2:=by exact rfl):P1 a (.str d) e env ⟨nx,m⟩:=b8 (ak _ h) he h1 h2 h3
def fC {a:aJ}{d d2:Int}{e:Ex}{nx:Nat}{m:List (Nat×bV)}{env:List ca}(h:d2=d)(he:e.home:=by exact trivial)(h1:qo m env a.res:=by exact wC)(h2:A0 a env m:=by exact ek)(h3:I7 a env m=.int .i64 d2:=by exact rfl):P1 a (.int .i64 d) e env ⟨nx,m⟩:=b8 (ak _ h) he h1 h2 h3
def dS {lo c nx nx2:Nat}{env env2:List ca}{m m2:List (Nat×bV)}(σ:List (Nat×Nat))(hc:nx2=c:=by exact ah)(h:iy lo c σ=true:=by exact ah)(he:dz lo σ env env2:=by exact eC)(hm:aY lo c σ m m2:=by exact rh):bg lo env ⟨nx,m⟩ env2 ⟨nx2,m2⟩:=bg.to σ hc h he hm
def gG {Y:Ctx}{draw f:Bool}{r:List GI}{env rs:List ca}{nx:Nat}{m:List (Nat×bV)}{K:List ca->St->Prop}{g:Option (Nat×Bool)}{x y:Src}{fx fy:Bool}{a b:List UInt8}(h:aQ Y draw r env (⟨f,.str (a++b)⟩::rs) nx m K)(hg:GF rs g f:=by first|exact rfl|exact⟨_,_,rfl,rfl⟩)(hx:cS env rs x=⟨fx,.str a⟩:=by exact rfl)(hy:cS env rs y=⟨fy,.str b⟩:=by exact rfl)(kx:f=true->fx=true:=by first|exact fun _=>rfl|exact fun h=>h|(intro h;simp_all))(ky:f=true->fy=true:=by first|exact fun _=>rfl|exact fun h=>h|(intro h;simp_all))(hb:f=true->a.length+b.length<=9223372036854775807:=by intro _;simp only[bE,ax,az];omega):aQ Y draw (⟨.bin .add x y,g⟩::r) env rs nx m K:=cY h hg hx hy kx ky hb
end Go.Abs
namespace Go.Abs
section
variable {Y:Ctx} {Q:Ex->List ca->St->Prop}
def cmN {env rs:List ca}:JN env rs []=env:=rfl
def cmC {s p:Nat}{r:List (Nat×Nat)}{env rs env1 env':List ca}{f:Bool}{d:D}(e:cS [] rs (.l p)=⟨f,d⟩)(hs:env.set s ⟨f,d⟩=env1)(h:JN env1 rs r=env'):JN env rs ((s,p)::r)=env':=by
 simp only[JN,e,hs,h]
def rrrg {draw:Bool}{cm:List (Nat×Nat)}{b:AC}{nx nx':Nat}{m:List (Nat×bV)}{rs env fI env':List ca}(h:bX Y b Q env' ⟨nx',m⟩)
  (he:JN env rs cm=env':=by repeat(first|apply cmC aZ (by simp only[List.set_cons_zero,List.set_cons_succ];exact rfl)|with_reducible exact cmN)) (hn:nx+rs.length=nx':=by simp only[ax,az,Nat.reduceAdd];exact rfl):aQ Y draw [] fI rs nx m (fun vs st'=>bX Y b Q (ja env vs cm) st'):=
 NP h he hn
def rrrh {draw:Bool}{cm:List (Nat×Nat)}{nx nx':Nat}{m:List (Nat×bV)}{rs env fI env':List ca}(h:Q .normal env' ⟨nx',m⟩)
  (he:JN env rs cm=env':=by repeat(first|apply cmC aZ (by simp only[List.set_cons_zero,List.set_cons_succ];exact rfl)|with_reducible exact cmN)) (hn:nx+rs.length=nx':=by simp only[ax,az,Nat.reduceAdd];exact rfl):aQ Y draw [] fI rs nx m (fun vs st'=>Q .normal (ja env vs cm) st'):=
 NQ h he hn
end
def Fam (_:Prop):Type:=Unit
def uu {q:Prop}:Fam q:=()
structure Hid (q:Prop)(f:Fam q):Prop where
 val:q
section
variable {Y:Ctx} {draw b1:Bool} {r:List GI} {env rs:List ca} {nx n0 n1:Nat} {m:List (Nat×bV)} {K:List ca->St->Prop} {g:Option (Nat×Bool)} {x0 x1 x2:Src}
def tg0 {Y:Ctx}{a:AC}{Q:Ex->List ca->St->Prop}{env:List ca}{st:St}(h:bX Y a Q env st):bX Y a Q env st:=h
def tg1 (h:aQ Y draw (⟨.mv x0,g⟩::r) env rs nx m K):aQ Y draw (⟨.mv x0,g⟩::r) env rs nx m K:=h
def tg2 (h:aQ Y draw [] env rs nx m K):aQ Y draw [] env rs nx m K:=h
def tg3 (h:aQ Y draw (⟨.fa n0 x1,g⟩::r) env rs nx m K):aQ Y draw (⟨.fa n0 x1,g⟩::r) env rs nx m K:=h
def tg4 (h:aQ Y draw (⟨.ld n0 b1 x2,g⟩::r) env rs nx m K):aQ Y draw (⟨.ld n0 b1 x2,g⟩::r) env rs nx m K:=h
def tg5 (h:aQ Y draw (⟨.bin .lss x0 x1,g⟩::r) env rs nx m K):aQ Y draw (⟨.bin .lss x0 x1,g⟩::r) env rs nx m K:=h
def tg6 (h:aQ Y draw (⟨.bin .eql x0 x1,g⟩::r) env rs nx m K):aQ Y draw (⟨.bin .eql x0 x1,g⟩::r) env rs nx m K:=h
def tg7 (h:aQ Y draw (⟨.bin .add x0 x1,g⟩::r) env rs nx m K):aQ Y draw (⟨.bin .add x0 x1,g⟩::r) env rs nx m K:=h
def tg8 (h:aQ Y draw (⟨.bin .gtr x0 x1,g⟩::r) env rs nx m K):aQ Y draw (⟨.bin .gtr x0 x1,g⟩::r) env rs nx m K:=h
def tg9 (h:aQ Y draw (⟨.bin .neq x0 x1,g⟩::r) env rs nx m K):aQ Y draw (⟨.bin .neq x0 x1,g⟩::r) env rs nx m K:=h
def tg10 (h:aQ Y draw (⟨.bin .leq x0 x1,g⟩::r) env rs nx m K):aQ Y draw (⟨.bin .leq x0 x1,g⟩::r) env rs nx m K:=h
def tg11 (h:aQ Y draw (⟨.bin .geq x0 x1,g⟩::r) env rs nx m K):aQ Y draw (⟨.bin .geq x0 x1,g⟩::r) env rs nx m K:=h
def tg12 (h:aQ Y draw (⟨.bin .sub x0 x1,g⟩::r) env rs nx m K):aQ Y draw (⟨.bin .sub x0 x1,g⟩::r) env rs nx m K:=h
def tg13 (h:aQ Y draw (⟨.ext x0 n1,g⟩::r) env rs nx m K):aQ Y draw (⟨.ext x0 n1,g⟩::r) env rs nx m K:=h
def tg14 (h:aQ Y draw (⟨.pick x0 x1 (.c (.bool false)),g⟩::r) env rs nx m K):aQ Y draw (⟨.pick x0 x1 (.c (.bool false)),g⟩::r) env rs nx m K:=h
def tg15 (h:aQ Y draw (⟨.pick x0 (.c (.bool true)) x1,g⟩::r) env rs nx m K):aQ Y draw (⟨.pick x0 (.c (.bool true)) x1,g⟩::r) env rs nx m K:=h
def tg16 (h:aQ Y draw (⟨.un .not x0,g⟩::r) env rs nx m K):aQ Y draw (⟨.un .not x0,g⟩::r) env rs nx m K:=h
def tg17 (h:aQ Y draw (⟨.nilck x0,g⟩::r) env rs nx m K):aQ Y draw (⟨.nilck x0,g⟩::r) env rs nx m K:=h
def tg18 (h:aQ Y draw (⟨.box n0 x1,g⟩::r) env rs nx m K):aQ Y draw (⟨.box n0 x1,g⟩::r) env rs nx m K:=h
def tg19 (h:aQ Y draw (⟨.ia n0 x1 x2,g⟩::r) env rs nx m K):aQ Y draw (⟨.ia n0 x1 x2,g⟩::r) env rs nx m K:=h
def tg20 (h:aQ Y draw (⟨.ixS x0 x1,g⟩::r) env rs nx m K):aQ Y draw (⟨.ixS x0 x1,g⟩::r) env rs nx m K:=h
def tg21 (h:aQ Y draw (⟨.st n0 x1 x2,g⟩::r) env rs nx m K):aQ Y draw (⟨.st n0 x1 x2,g⟩::r) env rs nx m K:=h
def tg22 (h:aQ Y draw (⟨.len x0,g⟩::r) env rs nx m K):aQ Y draw (⟨.len x0,g⟩::r) env rs nx m K:=h
def tg23 (h:aQ Y draw (⟨.lenS x0,g⟩::r) env rs nx m K):aQ Y draw (⟨.lenS x0,g⟩::r) env rs nx m K:=h
def tg24 (h:aQ Y draw (⟨.rng x0,g⟩::r) env rs nx m K):aQ Y draw (⟨.rng x0,g⟩::r) env rs nx m K:=h
def tg25 (h:aQ Y draw (⟨.s2b x0,g⟩::r) env rs nx m K):aQ Y draw (⟨.s2b x0,g⟩::r) env rs nx m K:=h
def tg26 (h:aQ Y draw (⟨.mkB,g⟩::r) env rs nx m K):aQ Y draw (⟨.mkB,g⟩::r) env rs nx m K:=h
def tg27 (h:aQ Y draw (⟨.app n0 x1 x2,g⟩::r) env rs nx m K):aQ Y draw (⟨.app n0 x1 x2,g⟩::r) env rs nx m K:=h
end
def aE {p q:Prop}(k:q)(h:Hid q uu->p:=by
 intro h;first
 |((with_reducible refine tg0 ?_);first|with_reducible exact au h.1|with_reducible exact L7 h.1|with_reducible exact FW h.1|with_reducible exact Rc h.1|with_reducible exact I6 h.1|with_reducible exact wp_ret h.1|with_reducible exact wp_skip h.1|with_reducible exact FV h.1|with_reducible exact wp_exit h.1|with_reducible exact D7 h.1 hm|with_reducible exact I5 h.1 hm)
 |((with_reducible refine tg1 ?_);(refine r_mv ?_;exact h.1))
 |((with_reducible refine tg2 ?_);first|(refine rrrh ?_;exact h.1)|(refine rrrg ?_;exact h.1))
 |((with_reducible refine tg3 ?_);first|(refine Us ?_;exact h.1)|(refine Ut ?_;exact h.1))
 |((with_reducible refine tg4 ?_);first|exact bA (.int _ _) h.1|exact bA (.str _) h.1|(refine cb (v:=.str _) ?_;exact h.1)|(refine fk (v:=.str _) ?_;exact h.1)|(refine cb (v:=.int _ _) ?_;exact h.1)|(refine fk (v:=.int _ _) ?_;exact h.1)|exact bA (.sl _ _) h.1|exact bA (.own _ _ _ _) h.1|exact bA (.bool _) h.1|(refine cb (v:=.sl _ _) ?_;exact h.1)|(refine fk (v:=.sl _ _) ?_;exact h.1)|(refine cb (v:=.bool _) ?_;exact h.1)|(refine fk (v:=.bool _) ?_;exact h.1)|exact c8 h.1|exact bA .aC h.1)
 |((with_reducible refine tg5 ?_);first|(refine QQ ?_;exact h.1)|(refine QR ?_;exact h.1))
 |((with_reducible refine tg6 ?_);first|(refine QH ?_;exact h.1)|(refine QI ?_;exact h.1))
 |((with_reducible refine tg7 ?_);(refine NJ ?_;exact h.1))
 |((with_reducible refine tg8 ?_);first|(refine E7 ?_;exact h.1)|(refine E8 ?_;exact h.1))
 |((with_reducible refine tg9 ?_);first|(refine QS ?_;exact h.1)|(refine QT ?_;exact h.1))
 |((with_reducible refine tg10 ?_);first|(refine QO ?_;exact h.1)|(refine QP ?_;exact h.1))
 |((with_reducible refine tg11 ?_);first|(refine QJ ?_;exact h.1)|(refine QK ?_;exact h.1))
 |((with_reducible refine tg12 ?_);(refine NL ?_;exact h.1))
 |((with_reducible refine tg13 ?_);first|exact fB (.int _ _) h.1|exact fB (.str _) h.1|exact fB (.bool _) h.1)
 |((with_reducible refine tg14 ?_);(refine La ?_;exact h.1))
 |((with_reducible refine tg15 ?_);(refine Uz ?_;exact h.1))
 |((with_reducible refine tg16 ?_);(refine Ux ?_;exact h.1))
 |((with_reducible refine tg17 ?_);first|(refine QU ?_;exact h.1)|(refine QV ?_;exact h.1))
 |((with_reducible refine tg18 ?_);(refine Uq ?_;exact h.1))
 |((with_reducible refine tg19 ?_);first|exact cg _ h.1|exact Lj h.1|exact jG _ h.1|exact QL h.1)
 |((with_reducible refine tg20 ?_);first|exact px _ h.1|exact QM h.1)
 |((with_reducible refine tg21 ?_);exact aR _ h.1)
 |((with_reducible refine tg22 ?_);first|exact Ln fun a=>(h.1:_->_) (a rfl rfl)|exact Lo fun a=>(h.1:_->_) (a rfl rfl)|(refine QN ?_;exact h.1))
 |((with_reducible refine tg23 ?_);exact Lp fun a=>(h.1:_->_) (a rfl rfl))
 |((with_reducible refine tg24 ?_);(refine UB ?_;exact h.1))
 |((with_reducible refine tg25 ?_);(refine UC ?_;exact h.1))
 |((with_reducible refine tg26 ?_);(refine Uu ?_;exact h.1))
 |((with_reducible refine tg27 ?_);(refine jg ?_;exact h.1))
 |with_reducible exact BQ.normal h.1|with_reducible exact BQ.ret h.1|with_reducible exact LQ.normal h.1|with_reducible exact LQ.out h.1|with_reducible exact LQ.ret h.1|with_reducible exact BQ.out h.1|with_reducible exact D9.normal h.1|with_reducible exact D9.ret h.1|with_reducible exact Eb.normal h.1|with_reducible exact Eb.ret h.1|with_reducible exact D9.out h.1|with_reducible exact Eb.out h.1|with_reducible exact CQ.normal h.1|with_reducible exact CQ.ret h.1|with_reducible exact CQ.other h.1|((with_reducible refine BQ.other ?_ h.1);exact rfl)|((with_reducible refine LQ.other ?_ h.1);exact rfl)|((with_reducible refine D9.other ?_ h.1);exact rfl)|((with_reducible refine Eb.other ?_ h.1);exact rfl)):p:=h ⟨k⟩
def js {p q:Prop}(k:q)(h:Hid q uu->p:=by intro h;first|exact Ln fun _=>h.1|exact Lp fun _=>h.1|exact Lo fun _=>h.1):p:=h ⟨k⟩
section
variable {Y:Ctx} {Q:Ex->List ca->St->Prop}
end
def iz:(∀{p:Prop} [Decidable p],(decide p=true)=p)/\(∀{p:Prop} [Decidable p],decide p=false↔¬p)/\(∀b:Bool,((!b)=true)=(b=false))/\(∀b:Bool,((!b)=false)=(b=true))/\(∀b:Bool,(¬(b=false))=(b=true))/\(∀a b:Bool,((a ||b)=true)=(a=true\/b=true))/\(∀{a b:Bool},(a ||b)=false↔a=false/\b=false)/\(∀a b:Bool,((a&&b)=true)=(a=true/\b=true))/\(∀{a b:Bool},(a&&b)=false↔a=false\/b=false)/\(∀b:Bool,(¬(b=true))=(b=false))/\(∀b:Bool,(true&&b)=b)/\∀b:Bool,(b&&true)=b:=
 ⟨aS,bj,bn,bP,Bool.not_eq_false,cR,c9,bh,dt,Bool.not_eq_true,fA,iO⟩
section
variable {Y:Ctx} {Q:Ex->List ca->St->Prop} {env:List ca} {st:St}
def cT {c:Src}{a b r:AC}{t:Bool}{c1 c2:Prop}(h1:c1->bX Y (.seq a r) Q env st)(h2:c2->bX Y (.seq b r) Q env st)(hc:cS env [] c=⟨true,.bool t⟩:=by exact rfl)(e1:t=true->c1:=by intro h;(try simp only[iz]at h);exact h)(e2:t=false->c2:=by intro h;(try simp only[iz]at h);exact h):bX Y (.seq (.cond c a b) r) Q env st:=aw (fun h=>h1 (e1 h)) (fun h=>h2 (e2 h)) hc
def gN {c:Src}{a b:AC}{t:Bool}{c1 c2:Prop}(h1:c1->bX Y a Q env st)(h2:c2->bX Y b Q env st)(hc:cS env [] c=⟨true,.bool t⟩:=by exact rfl)(e1:t=true->c1:=by intro h;(try simp only[iz]at h);exact h)(e2:t=false->c2:=by intro h;(try simp only[iz]at h);exact h):bX Y (.cond c a b) Q env st:=wp_cond (fun h=>h1 (e1 h)) (fun h=>h2 (e2 h)) hc
end
end Go.Abs
namespace Go.Abs
def aA {p q:Prop}(k:q)(h:Hid q uu->p:=by intro h;(iterate 2 refine aE ?_);exact h.1):p:=h ⟨k⟩
def aB {p q:Prop}(k:q)(h:Hid q uu->p:=by intro h;(iterate 3 refine aE ?_);exact h.1):p:=h ⟨k⟩
def aG {p q:Prop}(k:q)(h:Hid q uu->p:=by intro h;(iterate 4 refine aE ?_);exact h.1):p:=h ⟨k⟩
def aT {p q:Prop}(k:q)(h:Hid q uu->p:=by intro h;(iterate 5 refine aE ?_);exact h.1):p:=h ⟨k⟩
def aK {p q:Prop}(k:q)(h:Hid q uu->p:=by intro h;(iterate 6 refine aE ?_);exact h.1):p:=h ⟨k⟩
def br {p q:Prop}(k:q)(h:Hid q uu->p:=by intro h;(iterate 7 refine aE ?_);exact h.1):p:=h ⟨k⟩
def bY {p q:Prop}(k:q)(h:Hid q uu->p:=by intro h;(iterate 8 refine aE ?_);exact h.1):p:=h ⟨k⟩
def dE {p q:Prop}(k:q)(h:Hid q uu->p:=by intro h;(iterate 9 refine aE ?_);exact h.1):p:=h ⟨k⟩
def iG {p q:Prop}(k:q)(h:Hid q uu->p:=by intro h;(iterate 10 refine aE ?_);exact h.1):p:=h ⟨k⟩
def hE {p q:Prop}(k:q)(h:Hid q uu->p:=by intro h;(iterate 11 refine aE ?_);exact h.1):p:=h ⟨k⟩
def jr {p q:Prop}(k:q)(h:Hid q uu->p:=by intro h;(iterate 12 refine aE ?_);exact h.1):p:=h ⟨k⟩
def mO {p q:Prop}(k:q)(h:Hid q uu->p:=by intro h;(iterate 13 refine aE ?_);exact h.1):p:=h ⟨k⟩
def sI {p q:Prop}(k:q)(h:Hid q uu->p:=by intro h;(iterate 14 refine aE ?_);exact h.1):p:=h ⟨k⟩
def zc {p q:Prop}(k:q)(h:Hid q uu->p:=by intro h;(iterate 15 refine aE ?_);exact h.1):p:=h ⟨k⟩
def zd {p q:Prop}(k:q)(h:Hid q uu->p:=by intro h;(iterate 16 refine aE ?_);exact h.1):p:=h ⟨k⟩
def ze {p q:Prop}(k:q)(h:Hid q uu->p:=by intro h;(iterate 17 refine aE ?_);exact h.1):p:=h ⟨k⟩
def OR {p q:Prop}(k:q)(h:Hid q uu->p:=by intro h;(iterate 18 refine aE ?_);exact h.1):p:=h ⟨k⟩
def U9 {p q:Prop}(k:q)(h:Hid q uu->p:=by intro h;(iterate 20 refine aE ?_);exact h.1):p:=h ⟨k⟩
def Vb {p q:Prop}(k:q)(h:Hid q uu->p:=by intro h;(iterate 21 refine aE ?_);exact h.1):p:=h ⟨k⟩
def OS {p q:Prop}(k:q)(h:Hid q uu->p:=by intro h;(iterate 22 refine aE ?_);exact h.1):p:=h ⟨k⟩
def Vc {p q:Prop}(k:q)(h:Hid q uu->p:=by intro h;(iterate 24 refine aE ?_);exact h.1):p:=h ⟨k⟩
def OT {p q:Prop}(k:q)(h:Hid q uu->p:=by intro h;(iterate 25 refine aE ?_);exact h.1):p:=h ⟨k⟩
def Vd {p q:Prop}(k:q)(h:Hid q uu->p:=by intro h;(iterate 26 refine aE ?_);exact h.1):p:=h ⟨k⟩
def Ma {p q:Prop}(k:q)(h:Hid q uu->p:=by intro h;(iterate 28 refine aE ?_);exact h.1):p:=h ⟨k⟩
def Ve {p q:Prop}(k:q)(h:Hid q uu->p:=by intro h;(iterate 29 refine aE ?_);exact h.1):p:=h ⟨k⟩
def OU {p q:Prop}(k:q)(h:Hid q uu->p:=by intro h;(iterate 36 refine aE ?_);exact h.1):p:=h ⟨k⟩
end Go.Abs
namespace Go.Abs
abbrev s0:Src:=.s 0
abbrev s1:Src:=.s 1
abbrev s2:Src:=.s 2
abbrev s3:Src:=.s 3
abbrev s4:Src:=.s 4
abbrev s5:Src:=.s 5
abbrev s6:Src:=.s 6
abbrev s7:Src:=.s 7
abbrev s8:Src:=.s 8
abbrev s9:Src:=.s 9
abbrev kZ:Src:=.s 10
abbrev nQ:Src:=.s 11
abbrev mQ:Src:=.s 12
abbrev rv:Src:=.s 13
abbrev r8:Src:=.s 14
abbrev wD:Src:=.s 15
abbrev DN:Src:=.s 16
abbrev BY:Src:=.s 17
abbrev IL:Src:=.s 18
abbrev QZ:Src:=.s 19
abbrev Me:Src:=.s 20
abbrev s21:Src:=.s 21
abbrev s22:Src:=.s 22
abbrev s23:Src:=.s 23
abbrev Rl:Src:=.s 24
abbrev Rm:Src:=.s 25
abbrev UF:Src:=.s 26
abbrev s27:Src:=.s 27
abbrev s28:Src:=.s 28
abbrev s29:Src:=.s 29
abbrev OO:Src:=.s 30
abbrev s31:Src:=.s 31
abbrev s32:Src:=.s 32
abbrev s33:Src:=.s 33
abbrev s34:Src:=.s 34
abbrev s35:Src:=.s 35
abbrev s36:Src:=.s 36
abbrev s37:Src:=.s 37
abbrev s38:Src:=.s 38
abbrev l0:Src:=.l 0
abbrev l1:Src:=.l 1
abbrev l2:Src:=.l 2
abbrev l3:Src:=.l 3
abbrev l4:Src:=.l 4
abbrev l5:Src:=.l 5
abbrev l6:Src:=.l 6
abbrev l7:Src:=.l 7
abbrev l8:Src:=.l 8
abbrev l9:Src:=.l 9
abbrev l10:Src:=.l 10
abbrev gJ:Src:=.l 11
abbrev iM:Src:=.l 12
abbrev jN:Src:=.l 13
abbrev ku:Src:=.l 14
abbrev lx:Src:=.l 15
abbrev n9:Src:=.l 16
abbrev pV:Src:=.l 17
abbrev qu:Src:=.l 18
abbrev sn:Src:=.l 19
abbrev wv:Src:=.l 20
abbrev zg:Src:=.l 21
abbrev Ak:Src:=.l 22
abbrev Ee:Src:=.l 23
abbrev Ef:Src:=.l 24
abbrev EL:Src:=.l 25
abbrev Jc:Src:=.l 26
abbrev Kn:Src:=.l 27
abbrev Np:Src:=.l 28
abbrev Nq:Src:=.l 29
abbrev Qp:Src:=.l 30
abbrev Rh:Src:=.l 31
abbrev Ri:Src:=.l 32
abbrev l33:Src:=.l 33
abbrev l34:Src:=.l 34
abbrev l35:Src:=.l 35
abbrev l36:Src:=.l 36
abbrev l37:Src:=.l 37
abbrev gm (x:Src):GI:=⟨.mv x,none⟩
abbrev gn (x:aW):GI:=⟨x,none⟩
abbrev i6 (n:Int):Src:=.c (.int .i64 n)
abbrev cs (s:List UInt8):Src:=.c (.str s)
abbrev gd (x:Src):GI:=⟨.ld 1 false x,none⟩
abbrev gk (n:Nat)(b:Bool)(x:Src):GI:=⟨.ld n b x,none⟩
abbrev gf (n:Nat)(x:Src):GI:=⟨.fa n x,none⟩
abbrev gl (x:Src):GI:=⟨.len x,none⟩
abbrev ga (n:Nat)(x y:Src):GI:=⟨.ia n x y,none⟩
abbrev ge (x:Src)(n:Nat):GI:=⟨.ext x n,none⟩
abbrev gb (n:Nat)(x:Src):GI:=⟨.box n x,none⟩
abbrev gc (x:Src):GI:=⟨.nilck x,none⟩
abbrev gt (n:Nat)(x y:Src):GI:=⟨.st n x y,none⟩
abbrev gx (n:Nat)(x:List Src)(y:List (List Sh)):GI:=⟨.call n x y,none⟩
abbrev rg (x:List GI)(y:List (Nat×Nat)):AC:=.reg false x y
abbrev rt (x:List GI)(y:List (Nat×Nat)):AC:=.reg true x y
abbrev qa (x y:Src):aW:=.bin .lss x y
abbrev cP (x y:Src):aW:=.bin .eql x y
abbrev zQ (x y:Src):aW:=.bin .add x y
abbrev eF (x y:Src):aW:=.bin .gtr x y
abbrev eM (x y:Src):aW:=.bin .neq x y
abbrev ox (x y:Src):aW:=.bin .leq x y
abbrev tz (x y:Src):aW:=.bin .geq x y
abbrev kq (x y:Src):aW:=.bin .sub x y
abbrev JG (x y:Src):aW:=.bin .and x y
abbrev dj:Src:=.c (.bool false)
abbrev ou:Src:=.c (.bool true)
abbrev cse:Src:=.c (.str [])
abbrev bL:Src:=.c (.int .i64 0)
abbrev ch:Src:=.c (.int .i64 1)
abbrev jE:Src:=.c (.int .i64 2)
abbrev jL:Src:=.c (.int .i64 3)
abbrev sj:Src:=.c (.int .i64 4)
abbrev zx:Src:=.c (.int .i64 5)
abbrev uv:Src:=.c (.int .i64 6)
abbrev HX:Src:=.c (.int .i64 7)
abbrev EI:Src:=.c (.int .i64 8)
abbrev CT:Src:=.c (.int .i64 9)
abbrev gmt (n:Nat)(x:Src):GI:=⟨.mv x,some (n,true)⟩
abbrev kd (n:Nat)(x:Src):GI:=⟨.ld 1 false x,some (n,true)⟩
abbrev mP (n o:Nat)(x:Src):GI:=⟨.fa o x,some (n,true)⟩
abbrev cu (n:Nat)(x:aW):GI:=⟨x,some (n,true)⟩
abbrev eU (n:Nat)(x:Src):GI:=⟨.mv x,some (n,false)⟩
abbrev jQ (n:Nat)(x:Src):GI:=⟨.ld 1 false x,some (n,false)⟩
abbrev jK (n o:Nat)(x:Src):GI:=⟨.fa o x,some (n,false)⟩
abbrev cE (n:Nat)(x:aW):GI:=⟨x,some (n,false)⟩
abbrev sq (a b:AC):AC:=.seq a b
abbrev xN (x:Src):AC:=.seq (.reg false [⟨.mv x,none⟩] [(1,0)]) .ret
abbrev nH (c x:Src):AC:=.cond c (.seq (.reg false [⟨.mv x,none⟩] [(1,0)]) .ret) .skip
abbrev ct:List (List Sh):=[[.a]]
abbrev HU:List (List Sh):=[[.a,.a,.a,.a,.a]]
abbrev Mc:List (List Sh):=[[.a,.a,.a,.a,.a,.a,.a]]
abbrev iB:List (List Sh):=[[.a],[.a]]
abbrev M8:List (List Sh):=[[.a],[.a],[.a]]
abbrev fF (c x:Src):GI:=⟨.pick c (.c (.bool true)) x,none⟩
abbrev fg (c x:Src):GI:=⟨.pick c x (.c (.bool false)),none⟩
abbrev Qj (n:Nat)(c x:Src):GI:=⟨.pick c (.c (.bool true)) x,some (n,true)⟩
abbrev Bo (n:Nat)(c x:Src):GI:=⟨.pick c x (.c (.bool false)),some (n,false)⟩
abbrev a8 (x y:Src):GI:=⟨.bin .lss x y,none⟩
abbrev aO (x y:Src):GI:=⟨.bin .eql x y,none⟩
abbrev ay (x y:Src):GI:=⟨.bin .add x y,none⟩
abbrev dn (x y:Src):GI:=⟨.bin .gtr x y,none⟩
abbrev cv (x y:Src):GI:=⟨.bin .neq x y,none⟩
abbrev ya (x y:Src):GI:=⟨.bin .leq x y,none⟩
abbrev jd (x y:Src):GI:=⟨.bin .geq x y,none⟩
abbrev eH (x y:Src):GI:=⟨.bin .sub x y,none⟩
abbrev fY (c:Src)(n:Nat):AC:=.cond c .skip (.exit n)
abbrev i8 (n:Int):Src:=.c (.int .u8 n)
abbrev i3 (n:Int):Src:=.c (.int .i32 n)
abbrev iu (n:Int):Src:=.c (.int .u64 n)
abbrev oQ (x:Src):GI:=⟨.lenS x,none⟩
abbrev ke (x:Src):GI:=⟨.un .not x,none⟩
abbrev Gi (x y:Src):GI:=⟨.ixS x y,none⟩
abbrev r1 (x:List GI)(a b:Nat):AC:=.reg false x [(a,b)]
abbrev r2 (x:List GI)(a b:Nat):AC:=.reg true x [(a,b)]
abbrev jh:List Eh:=[⟨1,none⟩]
end Go.Abs
end
namespace Go.Abs
def IB:aJ:=⟨2,7,[⟨2,none⟩],ct,(sq (r1 [gm cse] 2 0) (sq (r1 [gm cse] 6 0) (sq (sq (r1 [gm bL] 3 0) (.block 0 (.loop (sq (sq (r1 [gm s3,gm s0,gl l1,a8 l0 l2] 4 3) (fY s4 0)) (sq (.block 1 (sq (sq (r1 [gm s3,dn l0 bL] 5 1) (.cond s5 (r1 [gm s6,gm s1,gn (.bsl 1 (.int .u8 0) 1 [(0,l1)]),gn (.b2s l2),ay l0 l3,gm l4] 6 5) .skip)) (r1 [gm s6,gm s0,gm s3,ga 1 l1 l2,gd l3,ay l0 l4,gm l5] 6 6))) (r1 [gm s3,ay l0 ch,gm l1] 3 2)))))) (sq (r1 [gm s6,gm l0] 2 1) .ret))))⟩
def w249 {Y:Ctx}(hm:(Y.at 0).bz)  (l:List aq)(x:UInt8)  (hp0:(bc [x] l).length<=1099511627776):dV Y IB (.str (bc [x] l)) [.sl 1 (l.map D.str),.int .u8 (x.toNat:Nat)]:=by
 show bX _ _ _ [⟨_,_⟩,⟨_,_⟩,_,_,_,_,_] _;refine au ?_;refine dE ?_;refine bw hm (ι:=Nat) (fun i=>[⟨true,.sl 1 (l.map D.str)⟩,⟨true,.int .u8 (x.toNat:Nat)⟩,.un,⟨true,.int .i64 (i:Nat)⟩,.un,.un,⟨true,.str (bc [x] (l.take i))⟩]) (fun i=>[]) 3 (fun i=>i<=l.length) (fun i=>l.length-i) 0 ae (dS []) ?_;intro i hi;refine aT ?_;intro u0;refine aA ?_;refine cT (fun hc0=>?_) fun hc0=>?_
 ·refine aG ?_;have hj:=rT [x] l (i+1);refine aB ?_;refine aw (fun hc1=>?_) (fun hc1=>?_)
  ·simp only[aS]at hc1;have ht:=pT [x] l i ae;rw[av ae]at ht;have htl:=ak List.length ht;simp only[bE,List.length_singleton]at htl;refine aB ?_;refine c7 [.int .u8 _] ?_;refine Lh [x] (he:=fun _=>sJ.all ah rfl) (hs:=fun _=>rfl) ?_;refine cY (hb:=fun _=>by simp only[List.length_singleton];omega) ?_;refine bY ?_;refine cY (hb:=fun _=>by first|(simp only[bE,List.length_singleton];omega)|(subst hi0;simp only[List.take_zero,bc,az]at htl⊢;omega)) ?_;refine dE ?_;exact⟨i+1,ae,ae,(bg.to [] ah ah (by repeat(first|exact dz.nil|refine dz.un ?_|refine dz.eq ah ?_|refine dz.nl (ak D.str (by rw[ht])) ah ?_)) rh)⟩
  simp only[bj]at hc1;have ht:=pT [x] l i ae;rw[aj ae]at ht;have htl:=ak List.length ht;simp only[bE,az]at htl;have hi0:i=0:=ae;refine br ?_;refine cY (hb:=fun _=>by first|(simp only[bE,List.length_singleton];omega)|(subst hi0;simp only[List.take_zero,bc,az]at htl⊢;omega)) ?_;refine dE ?_;exact⟨i+1,ae,ae,(bg.to [] ah ah (by repeat(first|exact dz.nil|refine dz.un ?_|refine dz.eq ah ?_|refine dz.nl (ak D.str (by rw[ht];subst hi0;rfl)) ah ?_)) rh)⟩
 refine br ?_;refine cV ?_;rw[eK ae]
def Jp (Y:Ctx):Prop:=∀(l:List aq)(x:UInt8),((bc [x] l).length<=1099511627776)->Y.pre 249 [.sl 1 (l.map D.str),.int .u8 (x.toNat:Nat)]/\Y.val 249 [.sl 1 (l.map D.str),.int .u8 (x.toNat:Nat)]=.str (bc [x] l)
def yC:aJ:=⟨2,7,[⟨2,none⟩],ct,(sq (r1 [gm dj] 2 0) (sq (sq (r1 [gm s0,gl l0,gm s1,gl l2,cv l1 l3] 3 4) (.cond s3 (sq (r1 [gm dj] 2 0) .ret) .skip)) (sq (sq (r1 [gm bL] 4 0) (.block 0 (.loop (sq (sq (r1 [gm s4,gm s0,gl l1,a8 l0 l2] 5 3) (fY s5 0)) (sq (.block 1 (sq (r2 [gm s0,gm s4,ga 1 l0 l1,gd l2,gm s1,gm s4,ga 1 l4 l5,gd l6,cv l3 l7] 6 8) (.cond s6 (sq (r1 [gm dj] 2 0) .ret) .skip))) (r1 [gm s4,ay l0 ch,gm l1] 4 2)))))) (sq (r1 [gm ou] 2 0) .ret))))⟩
def w226 {Y:Ctx}(hm:(Y.at 0).bz)  (a:List aq)(b:List aq)   :dV Y yC (.bool (decide (a=b))) [.sl 1 (a.map D.str),.sl 1 (b.map D.str)]:=by
 show bX _ _ _ [⟨_,_⟩,⟨_,_⟩,_,_,_,_,_] _;refine au ?_;refine aK ?_;intro u0;refine aA ?_;intro u1;refine aA ?_;refine cT (fun hc0=>?_) fun hc0=>?_
 ·refine aT ?_;refine b7 ?_;symm;rw[bj];rintro rfl;exact hc0 rfl
 refine aT ?_;have hab:a.length=b.length:=ae;have hb:=pB hab;refine bw hm (ι:=Nat) (fun i=>[⟨true,.sl 1 (a.map D.str)⟩,⟨true,.sl 1 (b.map D.str)⟩,.un,.un,⟨true,.int .i64 (i:Nat)⟩,.un,.un]) (fun i=>[]) 7 (fun i=>i<=a.length/\decide (a=b)=cO (fun i=>decide (a[i]! =b[i]!)) i a.length) (fun i=>a.length-i) 0 ⟨ae,hb⟩ (dS []) ?_;rintro i ⟨hi,hr⟩;refine aT ?_;intro u2;refine aA ?_;refine cT (fun hc1=>?_) fun hc1=>?_
 ·refine mO ?_;refine wp_cond (fun hc2=>?_) (fun hc2=>?_)
  ·simp only[bn,bj]at hc2;refine aK ?_;refine b7 ?_;rw[hr,aX ae,cJ hc2];rfl
  simp only[bP,aS]at hc2;refine bY ?_;exact⟨i+1,⟨ae,by rw[hr,aX ae,bS hc2];rfl⟩,ae,(dS [])⟩
 refine aK ?_;refine b7 ?_;rw[hr,cj ae]
def O0 (Y:Ctx):Prop:=∀(a:List aq)(b:List aq),Y.pre 226 [.sl 1 (a.map D.str),.sl 1 (b.map D.str)]/\Y.val 226 [.sl 1 (a.map D.str),.sl 1 (b.map D.str)]=.bool (decide (a=b))
def DG:aJ:=⟨1,5,jh,ct,(sq (r1 [gm dj] 1 0) (sq (sq (r1 [gm ch] 2 0) (.block 0 (.loop (sq (sq (r1 [gm s2,gm s0,gl l1,a8 l0 l2] 3 3) (fY s3 0)) (sq (.block 1 (sq (r2 [gm s0,gm s2,eH l1 ch,ga 1 l0 l2,gd l3,gm s0,gm s2,ga 1 l5 l6,gd l7,jd l4 l8] 4 9) (nH s4 dj))) (r1 [gm s2,ay l0 ch,gm l1] 2 2)))))) (xN ou)))⟩
def w815 {Y:Ctx}(hm:(Y.at 0).bz)  (l:List aq)   :dV Y DG (.bool (rising l)) [.sl 1 (l.map D.str)]:=by
 show bX _ _ _ [⟨_,_⟩,_,_,_,_] _;refine au ?_;refine aK ?_;refine bw hm (ι:=Nat) (fun i=>[⟨true,.sl 1 (l.map D.str)⟩,.un,⟨true,.int .i64 (i:Nat)⟩,.un,.un]) (fun i=>[]) 2 (fun i=>1<=i/\(i<=l.length\/i=1)/\rising l=cO (fun i=>Op.bytesLess l[i-1]! l[i]!) i l.length) (fun i=>l.length-i) 1 ⟨ae,ae,rfl⟩ (dS []) ?_;rintro i ⟨h1,hi,hr⟩;refine aT ?_;intro u0;refine aA ?_;refine cT (fun hc0=>?_) fun hc0=>?_
 ·refine aK ?_;refine cg (i-1) ?_;refine br ?_;refine wp_cond (fun hc1=>?_) (fun hc1=>?_)
  ·simp only[bn]at hc1;refine aK ?_;refine b7 ?_;rw[hr,aX ae,hc1];rfl
  simp only[bP]at hc1;refine bY ?_;exact⟨i+1,⟨ae,ae,by rw[hr,aX ae,hc1];rfl⟩,ae,(dS [])⟩
 refine aK ?_;refine b7 ?_;rw[hr,cj ae]
def Pw (Y:Ctx):Prop:=∀(l:List aq),Y.pre 815 [.sl 1 (l.map D.str)]/\Y.val 815 [.sl 1 (l.map D.str)]=.bool (rising l)
def zp:aJ:=⟨1,5,jh,ct,(sq (r1 [gm dj] 1 0) (sq (sq (r1 [gm ch] 2 0) (.block 0 (.loop (sq (sq (r1 [gm s2,gm s0,gl l1,a8 l0 l2] 3 3) (fY s3 0)) (sq (.block 1 (sq (r2 [gm s0,gm s2,eH l1 ch,ga 1 l0 l2,gd l3,gm s0,gm s2,ga 1 l5 l6,gd l7,jd l4 l8] 4 9) (nH s4 dj))) (r1 [gm s2,ay l0 ch,gm l1] 2 2)))))) (xN ou)))⟩
def w447 {Y:Ctx}(hm:(Y.at 0).bz)  (l:List aq)   :dV Y zp (.bool (rising l)) [.sl 1 (l.map D.str)]:=by
 show bX _ _ _ [⟨_,_⟩,_,_,_,_] _;refine au ?_;refine aK ?_;refine bw hm (ι:=Nat) (fun i=>[⟨true,.sl 1 (l.map D.str)⟩,.un,⟨true,.int .i64 (i:Nat)⟩,.un,.un]) (fun i=>[]) 2 (fun i=>1<=i/\(i<=l.length\/i=1)/\rising l=cO (fun i=>Op.bytesLess l[i-1]! l[i]!) i l.length) (fun i=>l.length-i) 1 ⟨ae,ae,rfl⟩ (dS []) ?_;rintro i ⟨h1,hi,hr⟩;refine aT ?_;intro u0;refine aA ?_;refine cT (fun hc0=>?_) fun hc0=>?_
 ·refine aK ?_;refine cg (i-1) ?_;refine br ?_;refine wp_cond (fun hc1=>?_) (fun hc1=>?_)
  ·simp only[bn]at hc1;refine aK ?_;refine b7 ?_;rw[hr,aX ae,hc1];rfl
  simp only[bP]at hc1;refine bY ?_;exact⟨i+1,⟨ae,ae,by rw[hr,aX ae,hc1];rfl⟩,ae,(dS [])⟩
 refine aK ?_;refine b7 ?_;rw[hr,cj ae]
def R1 (Y:Ctx):Prop:=∀(l:List aq),Y.pre 447 [.sl 1 (l.map D.str)]/\Y.val 447 [.sl 1 (l.map D.str)]=.bool (rising l)
def EK:aJ:=⟨1,8,jh,ct,(sq (r1 [gm dj] 1 0) (sq (sq (r1 [gm s0,aO l0 cse,gm l1,eU 2 s0,cE 2 (.lenS l3),cE 2 (eF l4 (i6 12)),fF l2 l5] 2 6) (nH s2 dj)) (sq (sq (r1 [gm s0,gn (.rng l0)] 3 1) (.block 0 (.loop (sq (rg [gn (.zh s3),ge l0 0] [(5,0),(4,1)]) (sq (fY s4 0) (.block 1 (sq (r1 [ge s5 2,gm l0] 6 1) (.block 2 (sq (sq (r1 [gm s6,jd l0 (i3 97),gm l1,gmt 2 s6,cu 2 (ox l3 (i3 122)),fg l2 l4,gm l5] 7 6) (.cond s7 .skip (sq (r1 [gm s6,jd l0 (i3 48),gm l1,gmt 2 s6,cu 2 (ox l3 (i3 57)),fg l2 l4,gm l5] 7 6) (.cond s7 .skip (r1 [gm s6,aO l0 (i3 95),gm l1] 7 2))))) (.cond s7 .skip (xN dj))))))))))) (xN ou))))⟩
def w349 {Y:Ctx}(hm:(Y.at 0).bz)  (s:aq)   :dV Y EK (.bool (cC s)) [.str s]:=by
 show bX _ _ _ [⟨_,_⟩,_,_,_,_,_,_,_] _;refine au ?_;refine bY ?_;refine js ?_;refine aB ?_;refine cT (fun hc0=>?_) fun hc0=>?_
 ·refine aT ?_;refine b7 ?_;symm;simp only[cC,dt,bj];rcases hc0 with h|h
  ·subst h;exact Or.inl (Or.inl aN)
  ·exact Or.inl ae
 refine aK ?_;have hP:cC s=cO (fun i=>yZ (at8 s i)) 0 s.length:=by
  have:=List.length_pos_iff.2 hc0.1;simp only[cC];rw[bS ae,bS ae];rfl
 refine bw hm (ι:=Nat) (fun i=>[⟨true,.str s⟩,.un,.un,⟨true,.it 9⟩,.un,.un,.un,.un]) (fun i=>[(9,.iter s i)]) 10 (fun i=>i<=s.length/\cC s=cO (fun i=>yZ (at8 s i)) i s.length) (fun i=>s.length-i) 0 ⟨ae,hP⟩ (dS [(9,9)]) ?_;rintro i ⟨hi,hr⟩;refine aE ?_;by_cases hnx:i<s.length
 ·obtain⟨c,w,hdec,hw,hcw⟩:=tH s i hnx;refine BK c w (hp:=hnx) (hc:=hdec) ?_;refine aA ?_;refine aw (t:=true) (fun _=>?_) (fun h=>by cases h);refine ze ?_;refine cT (fun hc2=>?_) fun hc2=>?_
  ·refine aE ?_;refine gN (fun hc4=>?_) fun hc4=>?_
   ·refine aG ?_;obtain⟨rfl,hat,-⟩:w=1/\(c:Int)=at8 s i/\c<128:=by
     rcases hcw with h|h
     ·exact h
     ·omega
    have hz:yZ (at8 s i)=true:=by
     simp only[yZ,jc,bB,cR,bh,aS];omega
    exact⟨i+1,⟨ae,by rw[hr,aX hnx,hz];rfl⟩,ae,(dS [(9,9)])⟩
   refine br ?_;refine b7 ?_;first
    |(exfalso;omega)
    |(rw[hr,cj ae];done)
    |(
     have hz:yZ (at8 s i)=false:=by
      rcases hcw with⟨_,h,_⟩|⟨_,h⟩<;>(simp only[yZ,jc,bB,c9,dt,bj];omega)
     rw[hr,aX hnx,hz];rfl)
  refine iG ?_;refine cT (fun hc3=>?_) fun hc3=>?_
  ·refine aE ?_;refine gN (fun hc4=>?_) fun hc4=>?_
   ·refine aG ?_;obtain⟨rfl,hat,-⟩:w=1/\(c:Int)=at8 s i/\c<128:=by
     rcases hcw with h|h
     ·exact h
     ·omega
    have hz:yZ (at8 s i)=true:=by
     simp only[yZ,jc,bB,cR,bh,aS];omega
    exact⟨i+1,⟨ae,by rw[hr,aX hnx,hz];rfl⟩,ae,(dS [(9,9)])⟩
   refine br ?_;refine b7 ?_;first
    |(exfalso;omega)
    |(rw[hr,cj ae];done)
    |(
     have hz:yZ (at8 s i)=false:=by
      rcases hcw with⟨_,h,_⟩|⟨_,h⟩<;>(simp only[yZ,jc,bB,c9,dt,bj];omega)
     rw[hr,aX hnx,hz];rfl)
  refine aT ?_;refine gN (fun hc4=>?_) fun hc4=>?_
  ·refine aG ?_;obtain⟨rfl,hat,-⟩:w=1/\(c:Int)=at8 s i/\c<128:=by
    rcases hcw with h|h
    ·exact h
    ·omega
   have hz:yZ (at8 s i)=true:=by
    simp only[yZ,jc,bB,cR,bh,aS];omega
   exact⟨i+1,⟨ae,by rw[hr,aX hnx,hz];rfl⟩,ae,(dS [(9,9)])⟩
  refine br ?_;refine b7 ?_;first
   |(exfalso;omega)
   |(rw[hr,cj ae];done)
   |(
    have hz:yZ (at8 s i)=false:=by
     rcases hcw with⟨_,h,_⟩|⟨_,h⟩<;>(simp only[yZ,jc,bB,c9,dt,bj];omega)
    rw[hr,aX hnx,hz];rfl)
 ·refine BJ (hp:=hnx) ?_;refine aA ?_;refine aw (t:=false) (fun h=>by cases h) (fun _=>?_);refine aK ?_;refine b7 ?_;first
   |(exfalso;omega)
   |(rw[hr,cj ae];done)
   |(
    have hz:yZ (at8 s i)=false:=by
     rcases hcw with⟨_,h,_⟩|⟨_,h⟩<;>(simp only[yZ,jc,bB,c9,dt,bj];omega)
    rw[hr,aX hnx,hz];rfl)
def Ej (Y:Ctx):Prop:=∀(s:aq),Y.pre 349 [.str s]/\Y.val 349 [.str s]=.bool (cC s)
def EJ:aJ:=⟨1,13,jh,ct,(sq (r1 [gm dj] 1 0) (sq (sq (r1 [gm s0,aO l0 cse,gm l1,eU 2 s0,cE 2 (.lenS l3),cE 2 (eF l4 (i6 16)),fF l2 l5] 2 6) (nH s2 dj)) (sq (sq (r1 [gm s0,gn (.rng l0)] 3 1) (.block 0 (.loop (sq (rg [gn (.zh s3),ge l0 0] [(5,0),(4,1)]) (sq (fY s4 0) (.block 1 (sq (rg [ge s5 1,ge s5 2,gm l0,gm l1] [(9,2),(6,3)]) (.block 2 (sq (r1 [gm s6,jd l0 (i3 97),gm l1,gmt 2 s6,cu 2 (ox l3 (i3 122)),fg l2 l4,gm l5] 7 6) (.cond s7 .skip (sq (r1 [gm s6,jd l0 (i3 48),gm l1,gmt 2 s6,cu 2 (ox l3 (i3 57)),fg l2 l4,gm l5] 8 6) (.cond s8 (sq (r1 [gm s9,aO l0 bL] 10 1) (nH kZ dj)) (sq (r1 [gm s6,aO l0 (i3 45),gm l1] 11 2) (.cond nQ (sq (r1 [gm s9,aO l0 bL,gm l1,eU 2 s9,eU 2 s0,cE 2 (.lenS l4),cE 2 (kq l5 ch),cE 2 (cP l3 l6),fF l2 l7,gm l8,eU 9 s0,eU 9 s9,cE 9 (kq gJ ch),cE 9 (.ixS l10 iM),cE 9 (cP jN (i8 45)),fF l9 ku] 12 15) (nH mQ dj)) (xN dj))))))))))))))) (xN ou))))⟩
def w208 {Y:Ctx}(hm:(Y.at 0).bz)  (s:aq)   :dV Y EJ (.bool (fZ s)) [.str s]:=by
 show bX _ _ _ [⟨_,_⟩,_,_,_,_,_,_,_,_,_,_,_,_] _;refine au ?_;refine bY ?_;refine js ?_;refine aB ?_;refine cT (fun hc0=>?_) fun hc0=>?_
 ·refine aT ?_;refine b7 ?_;symm;simp only[fZ];rcases hc0 with h|h
  ·subst h;simp
  ·rw[cJ (by omega:¬s.length<=16)];simp
 refine aK ?_;have h0:=List.length_pos_iff.2 hc0.1;have hP:=Nt s ae ae;refine bw hm (ι:=Nat) (fun i=>[⟨true,.str s⟩,.un,.un,⟨true,.it 9⟩,.un,.un,.un,.un,.un,.un,.un,.un,.un]) (fun i=>[(9,.iter s i)]) 10 (fun i=>i<=s.length/\fZ s=cO (oM s) i s.length) (fun i=>s.length-i) 0 ⟨ae,hP⟩ (dS [(9,9)]) ?_;rintro i ⟨hi,hr⟩;refine aE ?_;by_cases hnx:i<s.length
 ·obtain⟨c,w,hdec,hw,hcw⟩:=tH s i hnx;refine BK c w (hp:=hnx) (hc:=hdec) ?_;refine aA ?_;refine aw (t:=true) (fun _=>?_) (fun h=>by cases h);refine OR ?_;refine gN (fun hc2=>?_) fun hc2=>?_
  ·refine aG ?_;obtain⟨rfl,hat,-⟩:w=1/\(c:Int)=at8 s i/\c<128:=by
    rcases hcw with h|h
    ·exact h
    ·omega
   have hz:oM s i=true:=by
    simp only[oM,jc,bB,cR,bh,bn,aS,bj];omega
   exact⟨i+1,⟨ae,by rw[hr,aX hnx,hz];rfl⟩,ae,(dS [(9,9)])⟩
  refine dE ?_;refine gN (fun hc3=>?_) fun hc3=>?_
  ·refine aG ?_;refine gN (fun hc4=>?_) fun hc4=>?_
   ·refine br ?_;refine b7 ?_;first
     |(exfalso;omega)
     |(rw[hr,cj ae];done)
     |(have hz:oM s i=false:=by
        rcases hcw with⟨_,h,_⟩|⟨_,h⟩<;>(simp only[oM,jc,bB,c9,dt,bP,aS,bj];omega)
       rw[hr,aX hnx,hz];rfl)
   refine aG ?_;obtain⟨rfl,hat,-⟩:w=1/\(c:Int)=at8 s i/\c<128:=by
    rcases hcw with h|h
    ·exact h
    ·omega
   have hz:oM s i=true:=by
    simp only[oM,jc,bB,cR,bh,bn,aS,bj];omega
   exact⟨i+1,⟨ae,by rw[hr,aX hnx,hz];rfl⟩,ae,(dS [(9,9)])⟩
  refine aT ?_;refine gN (fun hc5=>?_) fun hc5=>?_
  ·refine aK ?_;refine js ?_;refine br ?_;refine px (i-1) ?_;refine aB ?_;refine gN (fun hc6=>?_) fun hc6=>?_
   ·refine br ?_;refine b7 ?_;first
     |(exfalso;omega)
     |(rw[hr,cj ae];done)
     |(have hz:oM s i=false:=by
        rcases hcw with⟨_,h,_⟩|⟨_,h⟩<;>(simp only[oM,jc,bB,c9,dt,bP,aS,bj];omega)
       rw[hr,aX hnx,hz];rfl)
   refine aG ?_;obtain⟨rfl,hat,-⟩:w=1/\(c:Int)=at8 s i/\c<128:=by
    rcases hcw with h|h
    ·exact h
    ·omega
   have hz:oM s i=true:=by
    simp only[oM,jc,bB,cR,bh,bn,aS,bj];omega
   exact⟨i+1,⟨ae,by rw[hr,aX hnx,hz];rfl⟩,ae,(dS [(9,9)])⟩
  refine br ?_;refine b7 ?_;first
   |(exfalso;omega)
   |(rw[hr,cj ae];done)
   |(have hz:oM s i=false:=by
      rcases hcw with⟨_,h,_⟩|⟨_,h⟩<;>(simp only[oM,jc,bB,c9,dt,bP,aS,bj];omega)
     rw[hr,aX hnx,hz];rfl)
 ·refine BJ (hp:=hnx) ?_;refine aA ?_;refine aw (t:=false) (fun h=>by cases h) (fun _=>?_);refine aK ?_;refine b7 ?_;first
   |(exfalso;omega)
   |(rw[hr,cj ae];done)
   |(have hz:oM s i=false:=by
      rcases hcw with⟨_,h,_⟩|⟨_,h⟩<;>(simp only[oM,jc,bB,c9,dt,bP,aS,bj];omega)
     rw[hr,aX hnx,hz];rfl)
def Mi (Y:Ctx):Prop:=∀(s:aq),Y.pre 208 [.str s]/\Y.val 208 [.str s]=.bool (fZ s)
def Bq:aJ:=⟨1,10,[⟨1,none⟩,⟨2,none⟩],iB,(sq (rg [gm bL,gm dj] [(1,0),(2,1)]) (sq (sq (r1 [gm s0,aO l0 cse,gm l1,eU 2 s0,cE 2 (.lenS l3),cE 2 (eF l4 sj),fF l2 l5,gm l6,eU 7 s0,cE 7 (.ixS l8 bL),cE 7 (cP l9 (i8 48)),eU 7 l10,gmt 11 s0,cu 11 (.lenS iM),cu 11 (eF jN ch),Bo 7 gJ ku,fF l7 lx] 3 16) (.cond s3 (sq (rg [gm bL,gm dj] [(1,0),(2,1)]) .ret) .skip)) (sq (r1 [gm bL] 9 0) (sq (sq (r1 [gm s0,gn (.rng l0)] 4 1) (.block 0 (.loop (sq (rg [gn (.zh s4),ge l0 0] [(6,0),(5,1)]) (sq (fY s5 0) (.block 1 (sq (r1 [ge s6 2,gm l0] 7 1) (.block 2 (sq (r1 [gm s7,jd l0 (i3 48),gm l1,gmt 2 s7,cu 2 (ox l3 (i3 57)),fg l2 l4,gm l5] 8 6) (.cond s8 (r1 [gm s9,gn (.bin .mul (i6 10) l0),gm s7,eH l2 (i3 48),gn (.cvi .i64 l3),ay l1 l4,gm l5] 9 6) (sq (rg [gm bL,gm dj] [(1,0),(2,1)]) .ret))))))))))) (sq (rg [gm s9,gm s9,ya l1 (i6 9999),gm l0,gm l2] [(1,3),(2,4)]) .ret)))))⟩
def w658 {Y:Ctx}(hm:(Y.at 0).bz)  (s:aq)   :dV Y Bq (.tup [.int .i64 (dU s),.bool (fo s)]) [.str s]:=by
 show bX _ _ _ [⟨_,_⟩,_,_,_,_,_,_,_,_,_] _;refine au ?_;refine dE ?_;refine js ?_;refine aG ?_;refine px 0 (hb:=fun h=>by simp at h;exact List.length_pos_iff.2 h.1) ?_;refine aB ?_;refine js ?_;refine aG ?_;refine cT (fun hc0=>?_) fun hc0=>?_
 ·refine aK ?_;refine b8 (aU (ak (D.int .i64) ?_) (ak D.bool ?_));all_goals
   have:fo s=false:=by
    rw[E2];rcases hc0 with(h|h)|h
    ·subst h;simp
    ·rw[cJ (by omega:¬s.length<=4)];simp
    ·rw[bS (by omega:1<s.length),bS h.1];simp
   simp[dU,this]
 refine dE ?_;have h0:=List.length_pos_iff.2 hc0.1.1;have hP:fo s=cO (fun i=>bB (at8 s i)) 0 s.length:=by
  rw[E2,bS (by omega:1<=s.length),bS (by omega:s.length<=4)];rcases hc0.2 with h|h
  ·rw[cJ h,Bool.and_false];rfl
  ·rw[cJ (by omega:¬1<s.length)];rfl
 refine bw hm (ι:=Nat) (fun i=>[⟨true,.str s⟩,.un,.un,.un,⟨true,.it 21⟩,.un,.un,.un,.un,⟨true,.int .i64 (dJ (s.take i):Nat)⟩]) (fun i=>[(21,.iter s i)]) 22 (fun i=>i<=s.length/\s.length<=4/\fo s=cO (fun i=>bB (at8 s i)) i s.length) (fun i=>s.length-i) 0 ⟨ae,ae,hP⟩ (dS [(21,21)]) ?_;rintro i ⟨hi,h9,hr⟩;refine aE ?_;by_cases hnx:i<s.length
 ·obtain⟨c,w,hdec,hw,hcw⟩:=tH s i hnx;refine BK c w (hp:=hnx) (hc:=hdec) ?_;refine aA ?_;refine aw (t:=true) (fun _=>?_) (fun h=>by cases h);refine zd ?_;refine gN (fun hc2=>?_) fun hc2=>?_
  ·refine aE ?_;obtain⟨rfl,hat,-⟩:w=1/\(c:Int)=at8 s i/\c<128:=by
    rcases hcw with h|h
    ·exact h
    ·omega
   have hn:=ub s i ae;have hn2:=vT s i ae;have h256:=JE s i;refine aE ?_;refine wZ ?_;refine aE ?_;refine Lq ((c:Int) -48) (hb:=fun _=>IntWalk.i32_in _ ae) ?_;refine vX ((c:Int) -48) (hb:=fun _=>IntWalk.i64_in _ ae) ?_;refine aB ?_;rw[show 10*(dJ (s.take i):Int)+((c:Int) -48)=(dJ (s.take (i+1)):Nat)by omega];refine aB ?_;have hz:bB (at8 s i)=true:=by
    simp only[bB,bh,aS];omega
   exact⟨i+1,⟨ae,h9,by rw[hr,aX ae,hz];rfl⟩,ae,(dS [(21,21)])⟩
  refine bY ?_;refine b8 (aU (ak (D.int .i64) ?_) (ak D.bool ?_));all_goals
   have hz:bB (at8 s i)=false:=by
    rcases hcw with⟨_,h,_⟩|⟨_,h⟩<;>(simp only[bB,dt,bj];omega)
   have:fo s=false:=by rw[hr,aX ae,hz];rfl
   simp[dU,this]
 ·refine BJ (hp:=hnx) ?_;refine aA ?_;refine aw (t:=false) (fun h=>by cases h) (fun _=>?_);refine iG ?_;refine b8 (aU (ak (D.int .i64) ?_) (ak D.bool ?_));all_goals
   have this:fo s=true:=by rw[hr,cj ae]
   have ht:s.take i=s:=eK ae;have h9:=this;simp only[fo,bh,aS]at h9;have h99:=h9.2;rw[ht];first
   |(simp only[dU,this];rfl)
   |(rw[this,aS];omega)
def Mq (Y:Ctx):Prop:=∀(s:aq),Y.pre 658 [.str s]/\Y.val 658 [.str s]=.tup [.int .i64 (dU s),.bool (fo s)]
def CU:aJ:=⟨2,10,[⟨2,none⟩],[[.sl 1 [.a]]],(sq (r1 [gm (.c (.aC))] 2 0) (sq (r1 [gm (.c (.aC))] 8 0) (sq (r1 [gm bL] 9 0) (sq (sq (rg [gm s0,oQ l0,gm bL] [(4,1),(3,2)]) (.block 0 (.loop (sq (r1 [a8 s3 s4] 5 0) (sq (fY s5 0) (sq (.block 1 (sq (r1 [gm s3,gm l0] 6 1) (sq (r1 [gm s0,gm s6,Gi l0 l1,gm s1,aO l2 l3] 7 4) (.cond s7 (sq (r1 [gm s8,gm s0,gm s9,gm s6,gn (.slS l1 (some l2) (some l3)),gn (.bsl 1 (.str []) 1 [(0,l4)]),gn (.app 1 l0 l5),gm l6] 8 7) (r1 [gm s6,ay l0 ch,gm l1] 9 2)) .skip)))) (r1 [ay s3 ch,gm l0] 3 1))))))) (sq (r1 [gm s8,gm s0,gm s9,gn (.slS l1 (some l2) none),gn (.bsl 1 (.str []) 1 [(0,l3)]),gn (.app 1 l0 l4),gm l5] 2 6) .ret)))))⟩
def w533 {Y:Ctx}(hm:(Y.at 0).bz)  (s:aq)(b:Int)  (hp0:s.length<=1048576):dV Y CU (.sl 1 ((ai s b).map D.str)) [.str s,.int .u8 b]:=by
 show bX _ _ _ [⟨_,_⟩,⟨_,_⟩,_,_,_,_,_,_,_,_] _;refine au ?_;refine jr ?_;intro u0;refine aA ?_;refine bw hm (ι:=(Nat×Nat×List aq)) (fun p:Nat×Nat×List aq=>[⟨true,.str s⟩,⟨true,.int .u8 b⟩,.un,⟨true,.int .i64 (p.1:Nat)⟩,⟨true,.int .i64 (s.length:Nat)⟩,.un,.un,.un,⟨true,.own 0 1 0 p.2.2.length⟩,⟨true,.int .i64 (p.2.1:Nat)⟩]) (fun p=>[(0,.buf 1 (p.2.2.map D.str))]) 6 (fun p=>p.1<=s.length/\p.2.1<=p.1/\p.2.2.length<=p.1/\ai s b=p.2.2++cy b (s.drop p.1) ((s.take p.1).drop p.2.1)) (fun p=>s.length-p.1) (0,0,[]) ⟨aN,aN,aN,rfl⟩ (bg.to [] ah ah (by repeat(first|exact dz.nil|refine dz.un ?_|refine dz.eq ah ?_|refine dz.nl ah ah ?_|refine dz.ni (Or.inr ⟨0,1,0,rfl⟩) ?_)) (by repeat(first|exact aY.nil|refine aY.mt ah ah ah ah ?_))) ?_;rintro⟨i,fr,acc⟩ ⟨hi,hf,ha,hr⟩;dsimp only at hi hf ha hr⊢;refine aB ?_;refine cT (fun hc0=>?_) fun hc0=>?_
 ·refine mO ?_;refine wp_cond (fun hc1=>?_) (fun hc1=>?_)
  ·try simp only[iz]at hc1
   refine aT ?_;refine yw _ _ ?_;refine c7 [(.str _)] ?_;refine sI ?_;exact⟨(i+1,i+1,acc++[(s.take i).drop fr]),⟨dP,dP,cX,by rw[hr,AK ae hc1];simp⟩,dP,(bg.to [(20,0)] ah ah pw (by refine aY.nl 20 ah ah ah cB ?_;exact aY.nil))⟩
  simp only[bj]at hc1;refine br ?_;exact⟨(i+1,fr,acc),⟨dP,dP,dP,by rw[hr,AL ae ae hc1]⟩,dP,(bg.to [(0,0)] ah ah pw (by refine aY.nl 0 ah ah ah cB ?_;exact aY.nil))⟩
 refine aK ?_;refine fe _ ?_;refine c7 [(.str _)] ?_;refine aB ?_;refine eR 12 ?_;refine aE ?_;refine b8 (?_);have hs:ai s b=acc++[s.drop fr]:=by rw[hr,yP ae]
 rw[hs];exact rfl
def Jq (Y:Ctx):Prop:=∀(s:aq)(b:Int),(s.length<=1048576)->Y.pre 533 [.str s,.int .u8 b]/\Y.val 533 [.str s,.int .u8 b]=.sl 1 ((ai s b).map D.str)
def wI:aJ:=⟨1,7,jh,ct,(sq (r1 [gm dj] 1 0) (sq (sq (rg [gm s0,oQ l0,gm bL] [(3,1),(2,2)]) (.block 0 (.loop (sq (r1 [a8 s2 s3] 4 0) (sq (fY s4 0) (sq (.block 1 (sq (r1 [gm s2,gm l0] 5 1) (sq (r1 [gm s0,gm s5,Gi l0 l1,a8 l2 (i8 48),gm l3,eU 4 s0,eU 4 s5,cE 4 (.ixS l5 l6),cE 4 (eF l7 (i8 57)),fF l4 l8] 6 9) (nH s6 dj)))) (r1 [ay s2 ch,gm l0] 2 1))))))) (sq (r1 [gm s0,cv l0 cse,gm l1] 1 2) .ret)))⟩
def w659 {Y:Ctx}(hm:(Y.at 0).bz)  (t:aq)   :dV Y wI (.bool (fN t)) [.str t]:=by
 show bX _ _ _ [⟨_,_⟩,_,_,_,_,_,_] _;refine au ?_;refine aK ?_;intro u0;refine aA ?_;refine bw hm (ι:=Nat) (fun i=>[⟨true,.str t⟩,.un,⟨true,.int .i64 (i:Nat)⟩,⟨true,.int .i64 (t.length:Nat)⟩,.un,.un,.un]) (fun i=>[]) 4 (fun i=>i<=t.length/\cO (fun i=>bB (at8 t i)) 0 t.length=cO (fun i=>bB (at8 t i)) i t.length) (fun i=>t.length-i) 0 ⟨ae,rfl⟩ (dS []) ?_;rintro i ⟨hi,hr⟩;refine aB ?_;refine cT (fun hc0=>?_) fun hc0=>?_
 ·refine OR ?_;refine gN (fun hc1=>?_) fun hc1=>?_
  ·refine aK ?_;refine b7 ?_;simp only[fN];rw[hr,aX ae];rcases hc1 with h|h<;>simp[bB]<;>omega
  refine br ?_;exact⟨i+1,⟨ae,by rw[hr,aX ae];rw[show bB (at8 t i)=true by simp only[bB,bh,aS];omega];rfl⟩,ae,(dS [])⟩
 refine bY ?_;refine b7 ?_;simp only[fN];rw[hr,cj ae];cases t<;>simp
def Sn (Y:Ctx):Prop:=∀(t:aq),Y.pre 659 [.str t]/\Y.val 659 [.str t]=.bool (fN t)
def B6:aJ:=⟨1,2,jh,ct,(sq (r1 [gm dj] 1 0) (sq (r1 [gm s0,jd l0 bL,gm l1,gmt 2 s0,cu 2 (ox l3 (i6 9999)),fg l2 l4,gm l5] 1 6) .ret))⟩
def w440 {Y:Ctx}(hm:(Y.at 0).bz)  (n:Int)   :dV Y B6 (.bool (nw n)) [.int .i64 n]:=by
 show bX _ _ _ [⟨_,_⟩,_] _;refine au ?_;refine jr ?_;exact b7 rfl
def RV (Y:Ctx):Prop:=∀(n:Int),Y.pre 440 [.int .i64 n]/\Y.val 440 [.int .i64 n]=.bool (nw n)
def yX:aJ:=⟨2,9,[⟨2,none⟩,⟨3,none⟩],iB,(sq (rg [gm cse,gm cse] [(2,0),(3,1)]) (sq (sq (rg [gm s0,oQ l0,gm bL] [(5,1),(4,2)]) (.block 0 (.loop (sq (r1 [a8 s4 s5] 6 0) (sq (fY s6 0) (sq (.block 1 (sq (r1 [gm s4,gm l0] 7 1) (sq (r1 [gm s0,gm s7,Gi l0 l1,gm s1,aO l2 l3] 8 4) (.cond s8 (sq (rt [gm s0,gm s7,ay l1 ch,gn (.slS l0 (some l2) none),gm s0,gm s7,gn (.slS l4 none (some l5)),gm l3,gm l6] [(2,7),(3,8)]) .ret) .skip)))) (r1 [ay s4 ch,gm l0] 4 1))))))) (sq (rg [gm s0,gm cse,gm l0] [(2,1),(3,2)]) .ret)))⟩
def w675 {Y:Ctx}(hm:(Y.at 0).bz)  (s:aq)(b:Int)   :dV Y yX (.tup [.str (aD s b).1,.str (aD s b).2]) [.str s,.int .u8 b]:=by
 show bX _ _ _ [⟨_,_⟩,⟨_,_⟩,_,_,_,_,_,_,_] _;refine au ?_;refine br ?_;intro u0;refine aA ?_;refine bw hm (ι:=Nat) (fun i=>[⟨true,.str s⟩,⟨true,.int .u8 b⟩,.un,.un,⟨true,.int .i64 (i:Nat)⟩,⟨true,.int .i64 (s.length:Nat)⟩,.un,.un,.un]) (fun i=>[]) 5 (fun i=>i<=s.length/\aD s b=ju s b i) (fun i=>s.length-i) 0 ⟨ae,rfl⟩ (dS []) ?_;rintro i ⟨hi,hr⟩;refine aB ?_;refine cT (fun hc0=>?_) fun hc0=>?_
 ·refine mO ?_;refine gN (fun hc1=>?_) fun hc1=>?_
  ·refine aG ?_;refine fe (i+1) ?_;refine aA ?_;refine kQ _ ?_;refine aK ?_;refine b8 (aU (ak D.str ?_) (ak D.str ?_));all_goals rw[hr,xo ae hc1]
  refine br ?_;exact⟨i+1,⟨ae,by rw[hr,xp ae hc1]⟩,ae,(dS [])⟩
 refine bY ?_;refine b8 (aU (ak D.str ?_) (ak D.str ?_));all_goals rw[hr,vG ae]
def Sw (Y:Ctx):Prop:=∀(s:aq)(b:Int),Y.pre 675 [.str s,.int .u8 b]/\Y.val 675 [.str s,.int .u8 b]=.tup [.str (aD s b).1,.str (aD s b).2]
def B7:aJ:=⟨1,15,jh,ct,(sq (r1 [gm dj] 1 0) (sq (r1 [gm s0,gx 533 [l0,(i8 46)] iB,gm l1] 2 2) (sq (r1 [gm s2,gl l0,ya l1 sj,gm l2] 14 3) (sq .skip (sq (sq (rg [gm s2,gl l0,gm bL] [(6,0),(4,1),(3,2)]) (.block 0 (.loop (sq (r1 [a8 s3 s4] 5 0) (sq (fY s5 0) (sq (.block 1 (sq (r1 [ga 1 s6 s3,gd l0,gm l1] 7 2) (sq (sq (r1 [gm s7,aO l0 cse,gm l1,eU 2 s7,cE 2 (.lenS l3),cE 2 (eF l4 EI),fF l2 l5] 8 6) (.cond s8 (sq (r1 [gm dj] 14 0) (.exit 0)) .skip)) (sq (r1 [gm s7,gn (.rng l0)] 9 1) (.block 2 (.loop (sq (rg [gn (.zh s9),ge l0 0] [(11,0),(10,1)]) (sq (fY kZ 2) (.block 3 (sq (r1 [ge nQ 2,gm l0] 12 1) (sq (r1 [gm mQ,a8 l0 (i3 97),gm l1,eU 2 mQ,cE 2 (eF l3 (i3 122)),fF l2 l4,gm l5,gmt 6 mQ,cu 6 (qa l7 (i3 48)),gmt 6 l8,eU 9 mQ,cE 9 (eF l10 (i3 57)),Qj 6 l9 gJ,fg l6 iM,gm jN,gmt 14 mQ,cu 14 (eM lx (i3 45)),fg ku n9] 13 17) (.cond rv (sq (r1 [gm dj] 14 0) (.exit 0)) .skip)))))))))))) (r1 [ay s3 ch,gm l0] 3 1))))))) (sq (r1 [gm r8,gm l0] 1 1) .ret))))))⟩
def w442 {Y:Ctx}(hm:(Y.at 0).bz)(h533:Jq Y)(s:aq)  (hp0:s.length<=1048576):dV Y B7 (.bool (nq s false)) [.str s]:=by
 show bX _ _ _ [⟨_,_⟩,_,_,_,_,_,_,_,_,_,_,_,_,_,_] _;refine au ?_;refine aG ?_;refine ar (hc:=h533 _ _ ?_) ?_;rotate_left;first|assumption|omega;have hlen:=de s 46
 refine aT ?_;intro u0;refine bY ?_;intro u1;refine aA ?_;refine bw hm (ι:=Nat) (fun i=>[.un,.un,⟨true,.sl 1 ((ai s 46).map D.str)⟩,⟨true,.int .i64 (i:Nat)⟩,⟨true,.int .i64 ((ai s 46).length:Nat)⟩,.un,⟨true,.sl 1 ((ai s 46).map D.str)⟩,.un,.un,.un,.un,.un,.un,.un,⟨true,.bool (decide (((ai s 46).length:Int)<=4))⟩]) (fun i=>[]) 11 (fun i=>i<=(ai s 46).length/\nq s false=(decide ((ai s 46).length<=4)&&cO (fun i=>iD false (ai s 46)[i]!) i (ai s 46).length)) (fun i=>(ai s 46).length-i) 0 ⟨ae,rfl⟩ (dS []) ?_;rintro i ⟨hi,hr⟩;refine aB ?_;refine cT (fun hc0=>?_) fun hc0=>?_
 ·refine dE ?_;generalize ht:(ai s 46)[i]! =t;refine aG ?_;refine js ?_;refine aB ?_;refine cT (fun hc1=>?_) fun hc1=>?_
  ·refine jr ?_;refine b7 ?_;first
    |(rw[hr,cj ae,iO];exact ed.2 ae)
    |(have hb:qq t=false:=by
       first
       |(simp only[qq];rcases hc1 with h|h
         ·subst h;simp
         ·rw[cJ (by omega:¬t.length<=8)];simp)
       |(have hz:nS (at8 t j)=false:=by
          rcases hcw with⟨_,h,_⟩|⟨_,h⟩<;>(simp only[nS,jc,bB,c9,dt,bj];omega)
         rw[hj,aX hnx,hz];rfl)
      rw[hr,aX ae,show iD false (ai s 46)[i]! =false from(by simp only[iD,ht,hb,Bool.false_and])];simp)
  refine aT ?_;have hT:qq t=cO (fun i=>nS (at8 t i)) 0 t.length:=by
   have:=List.length_pos_iff.2 hc1.1;simp only[qq];rw[bS ae,bS ae];rfl
  refine p8 hm (ι:=Nat) (fun j=>[.un,.un,⟨true,.sl 1 ((ai s 46).map D.str)⟩,⟨true,.int .i64 (i:Nat)⟩,⟨true,.int .i64 ((ai s 46).length:Nat)⟩,.un,⟨true,.sl 1 ((ai s 46).map D.str)⟩,.un,.un,⟨true,.it 23⟩,.un,.un,.un,.un,⟨true,.bool (decide (((ai s 46).length:Int)<=4))⟩]) (fun j=>[(23,.iter t j)]) 24 (fun j=>j<=t.length/\qq t=cO (fun i=>nS (at8 t i)) j t.length) (fun j=>t.length-j) 0 ⟨ae,hT⟩ (dS [(23,23)]) ?_;rintro j ⟨hj0,hj⟩;refine aE ?_;by_cases hnx:j<t.length
  ·obtain⟨c,w,hdec,hw,hcw⟩:=tH t j hnx;refine BK c w (hp:=hnx) (hc:=hdec) ?_;refine aA ?_;refine aw (t:=true) (fun _=>?_) (fun h=>by cases h);refine Vd ?_;refine gN (fun hc3=>?_) fun hc3=>?_
   ·refine mO ?_;refine b7 ?_;first
     |(rw[hr,cj ae,iO];exact ed.2 ae)
     |(have hb:qq t=false:=by
        first
        |(simp only[qq];rcases hc1 with h|h
          ·subst h;simp
          ·rw[cJ (by omega:¬t.length<=8)];simp)
        |(have hz:nS (at8 t j)=false:=by
           rcases hcw with⟨_,h,_⟩|⟨_,h⟩<;>(simp only[nS,jc,bB,c9,dt,bj];omega)
          rw[hj,aX hnx,hz];rfl)
       rw[hr,aX ae,show iD false (ai s 46)[i]! =false from(by simp only[iD,ht,hb,Bool.false_and])];simp)
   refine aB ?_;obtain⟨rfl,hat,-⟩:w=1/\(c:Int)=at8 t j/\c<128:=by
    rcases hcw with h|h
    ·exact h
    ·omega
   have hz:nS (at8 t j)=true:=by
    simp only[nS,jc,bB,cR,bh,aS];omega
   exact⟨j+1,⟨ae,by rw[hj,aX hnx,hz];rfl⟩,ae,(dS [(23,23)])⟩
  ·refine BJ (hp:=hnx) ?_;refine aA ?_;refine aw (t:=false) (fun h=>by cases h) (fun _=>?_);refine bY ?_;exact⟨i+1,⟨ae,by rw[hr,aX ae];rw[show iD false (ai s 46)[i]! =true from(by simp only[iD,Bool.false_and,Bool.not_false,iO];rw[ht,hj,cj ae])];rfl⟩,ae,(dS [])⟩
 refine br ?_;refine b7 ?_;first
  |(rw[hr,cj ae,iO];exact ed.2 ae)
  |(have hb:qq t=false:=by
     first
     |(simp only[qq];rcases hc1 with h|h
       ·subst h;simp
       ·rw[cJ (by omega:¬t.length<=8)];simp)
     |(have hz:nS (at8 t j)=false:=by
        rcases hcw with⟨_,h,_⟩|⟨_,h⟩<;>(simp only[nS,jc,bB,c9,dt,bj];omega)
       rw[hj,aX hnx,hz];rfl)
    rw[hr,aX ae,show iD false (ai s 46)[i]! =false from(by simp only[iD,ht,hb,Bool.false_and])];simp)
def O4 (Y:Ctx):Prop:=∀(s:aq),(s.length<=1048576)->Y.pre 442 [.str s]/\Y.val 442 [.str s]=.bool (nq s false)
def RU (Y:Ctx):Prop:=∀(n:Int),(0<=n/\n<=9999)->Y.pre 336 [.int .i64 n]/\Y.val 336 [.int .i64 n]=.str (dQ n.toNat)
def Mj (Y:Ctx):Prop:=∀(l:List aq)(sep:aq),(l.length<=1048600)->(sep.length<=4)->(∀t∈l,t.length<=2097200)->Y.pre 242 [.sl 1 (l.map D.str),.str sep]/\Y.val 242 [.sl 1 (l.map D.str),.str sep]=.str (bc sep l)
def Jl (Y:Ctx):Prop:=∀(s:aq)(b:UInt8),(s.length<=1048576)->Y.pre 124 [.str s,.str [b]]/\Y.val 124 [.str s,.str [b]]=.sl 1 ((ai s b.toNat).map D.str)
def Sg (Y:Ctx):Prop:=∀(s:aq)(b:UInt8),(s.length<=1048576)->Y.pre 487 [.str s,.str [b]]/\Y.val 487 [.str s,.str [b]]=.tup [.str (hX s b).1,.str (hX s b).2.1,.bool (hX s b).2.2]
def RR (Y:Ctx):Prop:=∀(s:aq)(p:aq),(s.length<=1048576)->(p.length<=1048576)->Y.pre 254 [.str s,.str p]/\Y.val 254 [.str s,.str p]=.tup [.str (fm s p).1,.bool (fm s p).2]
def D2:aJ:=⟨1,10,jh,ct,(sq (r1 [gm dj] 1 0) (sq (sq (r1 [gm s0,gx 442 [l0] ct,ke l1] 2 2) (nH s2 dj)) (sq (sq (rg [gm s0,gx 533 [l0,(i8 46)] iB,gl l1,gm bL] [(6,1),(4,2),(3,3)]) (.block 0 (.loop (sq (r1 [a8 s3 s4] 5 0) (sq (fY s5 0) (sq (.block 1 (sq (r1 [ga 1 s6 s3,gd l0,gm l1] 7 2) (sq (r1 [gm s7,gx 658 [l0] ct,gm l1,ge l2 0,ge l2 1,gm l3,gm l4] 8 6) (sq (r1 [gm s7,gx 659 [l0] ct,gm l1,gmt 2 s8,cu 2 (.un .not l3),fg l2 l4] 9 5) (nH s9 dj))))) (r1 [ay s3 ch,gm l0] 3 1))))))) (xN ou))))⟩
def w441 {Y:Ctx}(hm:(Y.at 0).bz)(h442:O4 Y)(h533:Jq Y)(h658:Mq Y)(h659:Sn Y)(s:aq)  (hp0:s.length<=1048576):dV Y D2 (.bool (nq s true)) [.str s]:=by
 show bX _ _ _ [⟨_,_⟩,_,_,_,_,_,_,_,_,_] _;refine au ?_;refine aT ?_;refine ar (hc:=h442 _ ?_) ?_;rotate_left;first|assumption|omega
 refine aA ?_;refine aw (fun hc0=>?_) (fun hc0=>?_)
 ·simp only[bn]at hc0;refine aT ?_;refine b7 ?_;symm;simp only[nq]at hc0⊢;rw[dt]at hc0⊢;rcases hc0 with h|h
  ·exact Or.inl h
  ·right;rw[Bool.eq_false_iff]at h⊢;intro h2;apply h;rw[eE]at h2⊢;intro j a b;have:=h2 j a b;simp only[iD,bh]at this⊢;exact⟨this.1,rfl⟩
 simp only[bP]at hc0;refine aG ?_;refine ar (hc:=h533 _ _ ?_) ?_;rotate_left;first|assumption|omega;have hlen:=de s 46
 refine aE ?_;intro u0;refine aA ?_;have hT:=hc0;simp only[nq,bh,aS]at hT;obtain⟨hT4,hTa⟩:=hT;rw[eE]at hTa;have hP:nq s true=cO (fun i=>iD true (ai s 46)[i]!) 0 (ai s 46).length:=by
  simp only[nq];rw[bS hT4];rfl
 refine bw hm (ι:=Nat) (fun i=>[.un,.un,.un,⟨true,.int .i64 (i:Nat)⟩,⟨true,.int .i64 ((ai s 46).length:Nat)⟩,.un,⟨true,.sl 1 ((ai s 46).map D.str)⟩,.un,.un,.un]) (fun i=>[]) 8 (fun i=>i<=(ai s 46).length/\nq s true=cO (fun i=>iD true (ai s 46)[i]!) i (ai s 46).length) (fun i=>(ai s 46).length-i) 0 ⟨ae,hP⟩ (dS []) ?_;rintro i ⟨hi,hr⟩;refine aB ?_;refine cT (fun hc1=>?_) fun hc1=>?_
 ·refine dE ?_;refine ar (hc:=h658 _) ?_;refine bY ?_;refine ar (hc:=h659 _) ?_;refine aT ?_;refine wp_cond (fun hc2=>?_) (fun hc2=>?_)
  ·skip
   refine aK ?_;refine b7 ?_;have hz:iD true (ai s 46)[i]! =false:=by
    simp only[iD];revert hc2;generalize qq (ai s 46)[i]! =c;generalize fN (ai s 46)[i]! =a;generalize fo (ai s 46)[i]! =b;cases a<;>cases b<;>cases c<;>simp
   rw[hr,aX ae,hz];rfl
  skip
  refine br ?_;have hz:iD true (ai s 46)[i]! =true:=by
   have:=hTa i ae ae;simp only[iD,Bool.false_and,Bool.not_false,iO]at this;simp only[iD,this];revert hc2;generalize fN (ai s 46)[i]! =a;generalize fo (ai s 46)[i]! =b;cases a<;>cases b<;>simp
  exact⟨i+1,⟨ae,by rw[hr,aX ae,hz];rfl⟩,ae,(dS [])⟩
 refine aK ?_;refine b7 ?_;rw[hr,cj ae]
def RW (Y:Ctx):Prop:=∀(s:aq),(s.length<=1048576)->Y.pre 441 [.str s]/\Y.val 441 [.str s]=.bool (nq s true)
def D1:aJ:=⟨1,3,jh,ct,(sq (rg [gb 5 s0,gm dj] [(2,0),(1,1)]) (sq (r1 [gf 0 s2,gd l0,gx 440 [l1] ct,gm l2,mP 3 1 s2,kd 3 l4,cu 3 (.call 440 [l5] ct),fg l3 l6,gm l7,mP 8 2 s2,kd 8 l9,cu 8 (.call 440 [l10] ct),fg l8 gJ,gm iM,mP 13 3 s2,kd 13 ku,cu 13 (cP lx cse),gmt 13 n9,jK 17 3 s2,jQ 17 qu,cE 17 (.call 441 [sn] ct),Qj 13 pV wv,fg jN zg,gm Ak,mP 23 4 s2,kd 23 Ef,cu 23 (cP EL cse),gmt 23 Jc,jK 27 4 s2,jQ 27 Np,cE 27 (.call 442 [Nq] ct),Qj 23 Kn Qp,fg Ee Rh,gm Ri] 1 33) .ret))⟩
def w209 {Y:Ctx}(hm:(Y.at 0).bz)(h440:RV Y)(h441:RW Y)(h442:O4 Y)(v:cM)  (hp0:v.sm):dV Y D1 (.bool (iW v)) [cM.D v]:=by
 show bX _ _ _ [⟨_,_⟩,_,_] _;refine au ?_;refine aK ?_;refine ar (hc:=h440 _) ?_;refine aB ?_;refine ar (hc:=h440 _) ?_;refine aG ?_;refine ar (hc:=h440 _) ?_;refine bY ?_;refine fT (hc:=fun hf=>h441 v.pre hp0.1) ?_;refine dE ?_;refine fT (hc:=fun hf=>h442 v.build hp0.2) ?_;refine aT ?_;exact b7 rfl
def Jm (Y:Ctx):Prop:=∀(v:cM),(v.sm)->Y.pre 209 [cM.D v]/\Y.val 209 [cM.D v]=.bool (iW v)
def Bp:aJ:=⟨1,2,jh,ct,(sq (r1 [gm cse] 1 0) (sq (r1 [gm s0,gx 336 [l0] ct,gm l1] 1 2) .ret))⟩
def w665 {Y:Ctx}(hm:(Y.at 0).bz)(h336:RU Y)(n:Int)  (hp0:0<=n/\n<=9999):dV Y Bp (.str (dQ n.toNat)) [.int .i64 n]:=by
 show bX _ _ _ [⟨_,_⟩,_] _;refine au ?_;refine aG ?_;refine ar (hc:=h336 _ ?_) ?_;rotate_left;first|assumption|omega
 refine aB ?_;exact cV rfl
def Po (Y:Ctx):Prop:=∀(n:Int),(0<=n/\n<=9999)->Y.pre 665 [.int .i64 n]/\Y.val 665 [.int .i64 n]=.str (dQ n.toNat)
def zI:aJ:=⟨1,7,jh,ct,(sq (rg [gb 5 s0,gm cse] [(2,0),(1,1)]) (sq (sq (r1 [gk 5 true s2,gx 209 [l0] HU,ke l1] 3 2) (nH s3 cse)) (sq (r2 [gf 0 s2,gd l0,gx 665 [l1] ct,ay l2 (cs [46]),gf 1 s2,gd l4,gx 665 [l5] ct,ay l3 l6,ay l7 (cs [46]),gf 2 s2,gd l9,gx 665 [l10] ct,ay l8 gJ,gm iM] 5 13) (sq (sq (r1 [gf 3 s2,gd l0,cv l1 cse] 4 2) (.cond s4 (r1 [gm s5,gf 3 s2,gd l1,ay (cs [45]) l2,ay l0 l3,gm l4] 5 5) .skip)) (sq (sq (r1 [gf 4 s2,gd l0,cv l1 cse] 6 2) (.cond s6 (r1 [gm s5,gf 4 s2,gd l1,ay (cs [43]) l2,ay l0 l3,gm l4] 5 5) .skip)) (sq (r1 [gm s5,gm l0] 1 1) .ret))))))⟩
def w451 {Y:Ctx}(hm:(Y.at 0).bz)(h209:Jm Y)(h665:Po Y)(v:cM)  (hp0:v.sm):dV Y zI (.str (mL v)) [cM.D v]:=by
 show bX _ _ _ [⟨_,_⟩,_,_,_,_,_,_] _;obtain⟨hs1,hs2⟩:=hp0;have hp0:v.sm:=⟨hs1,hs2⟩;refine au ?_;refine aK ?_;refine ar (hc:=h209 _ ?_) ?_;rotate_left;first|assumption|omega
 refine aA ?_;refine aw (fun hc0=>?_) (fun hc0=>?_)
 ·simp only[bn]at hc0;refine aT ?_;refine cV ?_;simp[mL,hc0]
 simp only[bP]at hc0;refine aA ?_;have hv:=hc0;simp only[iW,bh]at hv;obtain⟨⟨⟨⟨hv1,hv2⟩,hv3⟩,_⟩,_⟩:=hv;have hq1:=hv1;have hq2:=hv2;have hq3:=hv3;simp only[nw,bh,aS]at hq1 hq2 hq3;have hl1:=eG 4 v.major.toNat ae ae;have hl2:=eG 4 v.minor.toNat ae ae;have hl3:=eG 4 v.patch.toNat ae ae;refine aA ?_;refine ar (hc:=h665 _ ?_) ?_;rotate_left;first|assumption|omega
 refine cY (hb:=fun _=>cX) ?_;refine aA ?_;refine ar (hc:=h665 _ ?_) ?_;rotate_left;first|assumption|omega
 refine cY (hb:=fun _=>cX) ?_;refine cY (hb:=fun _=>cX) ?_;refine aA ?_;refine ar (hc:=h665 _ ?_) ?_;rotate_left;first|assumption|omega
 refine cY (hb:=fun _=>cX) ?_;refine bY ?_;refine cT (fun hc1=>?_) fun hc1=>?_
 ·refine aG ?_;refine cY (hb:=fun _=>cX) ?_;refine cY (hb:=fun _=>cX) ?_;refine bY ?_;refine cT (fun hc2=>?_) fun hc2=>?_
  ·refine aG ?_;refine cY (hb:=fun _=>cX) ?_;refine cY (hb:=fun _=>cX) ?_;refine br ?_;refine cV ?_;simp[mL,wH,hc0,hc1,hc2]
  refine aK ?_;refine cV ?_;simp[mL,wH,hc0,hc1,hc2]
 refine br ?_;refine cT (fun hc2=>?_) fun hc2=>?_
 ·refine aG ?_;refine cY (hb:=fun _=>cX) ?_;refine cY (hb:=fun _=>cX) ?_;refine br ?_;refine cV ?_;simp[mL,wH,hc0,hc1,hc2]
 refine aK ?_;refine cV ?_;simp[mL,wH,hc0,hc1,hc2]
def O7 (Y:Ctx):Prop:=∀(v:cM),(v.sm)->Y.pre 451 [cM.D v]/\Y.val 451 [cM.D v]=.str (mL v)
def Fs:aJ:=⟨1,4,jh,ct,(sq (r1 [gm cse] 1 0) (sq (r1 [gm s0,gn (.bin .rem l0 (iu 10)),gn (.cvi .u8 l1),ay (i8 48) l2,gn (.bsl 1 (.int .u8 0) 1 [(0,l3)]),gn (.b2s l4),gm l5] 3 6) (sq (.block 0 (.loop (sq (sq (r1 [gm s0,dn l0 (iu 9)] 2 1) (fY s2 0)) (.block 1 (sq (r1 [gm s0,gn (.bin .quo l0 (iu 10)),gm l1] 0 2) (r1 [gm s0,gn (.bin .rem l0 (iu 10)),gn (.cvi .u8 l1),ay (i8 48) l2,gn (.bsl 1 (.int .u8 0) 1 [(0,l3)]),gn (.b2s l4),gm s3,ay l5 l6,gm l7] 3 8)))))) (sq (r1 [gm s3,gm l0] 1 1) .ret))))⟩
def w882 {Y:Ctx}(hm:(Y.at 0).bz)  (n:Nat)  (hp0:n<=9999):dV Y Fs (.str (dQ n)) [.int .u64 (n:Nat)]:=by
 show bX _ _ _ [⟨_,_⟩,_,_,_] _;refine au ?_;refine aG ?_;refine GW ((n%10:Nat):Int) (hn:=by intro _;omega) (hb:=fun _=>rfl) ?_;refine vX ((n%10:Nat):Int) (hb:=fun _=>IntWalk.u8_in _ ae) ?_;refine K9 (((dg (n%10)).toNat:Nat):Int) (hb:=fun _=>by rw[JU ae];exact IntWalk.u8_in _ ae) ?_;refine c7 [.int .u8 _] ?_;refine Lh [dg (n%10)] (he:=fun _=>sJ.all ah rfl) (hs:=fun _=>rfl) ?_;refine aA ?_;have h0:dQ n=(if n<10 then []else dQ (n/10))++[dg (n%10)]:=by
  split
  ·rename_i h;rw[pN h,Nat.mod_eq_of_lt h];rfl
  ·rw[pM ae]
 refine bw hm (ι:=(Nat×aq)) (fun p=>[⟨true,.int .u64 (p.1:Nat)⟩,.un,.un,⟨true,.str p.2⟩]) (fun p=>[]) 8 (fun p=>p.1<=9999/\p.2.length<=9999-p.1+1/\dQ n=(if p.1<10 then []else dQ (p.1/10))++p.2) (fun p=>p.1) (n,[dg (n%10)]) ⟨hp0,aN,h0⟩ (dS []) ?_;rintro⟨k,s⟩ ⟨hk,hs,hr⟩;dsimp only at hk hs hr⊢;refine aT ?_;refine cT (fun hc0=>?_) fun hc0=>?_
 ·refine aG ?_;refine UA ((k/10:Nat):Int) (hn:=by intro _;omega) (hb:=fun _=>by rw[show((k:Int).tdiv 10)=((k/10:Nat):Int)from rfl,IntKind.wrap_u64];omega) ?_;refine aG ?_;refine GW (((k/10)%10:Nat):Int) (hn:=by intro _;omega) (hb:=fun _=>rfl) ?_;refine vX (((k/10)%10:Nat):Int) (hb:=fun _=>IntWalk.u8_in _ ae) ?_;refine K9 (((dg ((k/10)%10)).toNat:Nat):Int) (hb:=fun _=>by rw[JU ae];exact IntWalk.u8_in _ ae) ?_;refine c7 [.int .u8 _] ?_;refine Lh [dg ((k/10)%10)] (he:=fun _=>sJ.all ah rfl) (hs:=fun _=>rfl) ?_;refine aE ?_;refine cY (hb:=fun _=>cX) ?_;refine aG ?_;have h1:dQ n=(if k/10<10 then []else dQ (k/10/10))++([dg (k/10%10)]++s):=by
   rw[hr,aj ae];split
   ·rename_i h;rw[pN h,Nat.mod_eq_of_lt h];rfl
   ·rw[pM ae,dG]
  exact⟨(k/10,[dg (k/10%10)]++s),⟨dP,cX,h1⟩,dP,(dS [])⟩
 refine br ?_;refine cV ?_;rw[hr,av ae];rfl
def SM (Y:Ctx):Prop:=∀(n:Nat),(n<=9999)->Y.pre 882 [.int .u64 (n:Nat)]/\Y.val 882 [.int .u64 (n:Nat)]=.str (dQ n)
def DE:aJ:=⟨1,3,jh,ct,(sq (r1 [gm cse] 1 0) (sq (sq (r1 [gm s0,a8 l0 bL] 2 1) (.cond s2 (sq (r1 [gm s0,ay l0 ch,gn (.un .neg l1),gn (.cvi .u64 l2),ay l3 (iu 1),gx 882 [l4] ct,ay (cs [45]) l5,gm l6] 1 7) .ret) .skip)) (sq (r1 [gm s0,gn (.cvi .u64 l0),gx 882 [l1] ct,gm l2] 1 3) .ret)))⟩
def w734 {Y:Ctx}(hm:(Y.at 0).bz)(h882:SM Y)(n:Int)  (hp0:0<=n/\n<=9999):dV Y DE (.str (dQ n.toNat)) [.int .i64 n]:=by
 show bX _ _ _ [⟨_,_⟩,_,_] _;refine au ?_;refine br ?_;refine cT (fun hc0=>?_) fun hc0=>?_
 ·omega
 refine aA ?_;obtain⟨k,rfl⟩:∃k:Nat,n=k:=⟨n.toNat,ae⟩
 refine aE ?_;refine vX (k:Int) (hb:=fun _=>by rw[IntKind.wrap_u64];omega) ?_;refine ar (hc:=h882 _ ?_) ?_;rotate_left;first|assumption|omega
 refine aB ?_;exact cV rfl
def Pv (Y:Ctx):Prop:=∀(n:Int),(0<=n/\n<=9999)->Y.pre 734 [.int .i64 n]/\Y.val 734 [.int .i64 n]=.str (dQ n.toNat)
def Fp:aJ:=⟨2,8,[⟨2,none⟩],[[.sl 1 [.a]]],(sq (r1 [gm (.c (.aC))] 2 0) (sq (r1 [gm (.c (.aC))] 6 0) (sq (r1 [gm bL] 7 0) (sq (sq (r1 [gm bL] 3 0) (.block 0 (.loop (sq (sq (r1 [gm s3,gm s0,oQ l1,a8 l0 l2] 4 3) (fY s4 0)) (sq (.block 1 (sq (r1 [gm s0,gm s3,Gi l0 l1,gm s1,aO l2 l3] 5 4) (.cond s5 (sq (r1 [gm s6,gm s0,gm s7,gm s3,gn (.slS l1 (some l2) (some l3)),gn (.bsl 1 (.str []) 1 [(0,l4)]),gn (.app 1 l0 l5),gm l6] 6 7) (r1 [gm s3,ay l0 ch,gm l1] 7 2)) .skip))) (r1 [gm s3,ay l0 ch,gm l1] 3 2)))))) (sq (r1 [gm s6,gm s0,gm s7,gn (.slS l1 (some l2) none),gn (.bsl 1 (.str []) 1 [(0,l3)]),gn (.app 1 l0 l4),gm l5] 2 6) .ret)))))⟩
def w470 {Y:Ctx}(hm:(Y.at 0).bz)  (s:aq)(b:Int)  (hp0:s.length<=1048576):dV Y Fp (.sl 1 ((ai s b).map D.str)) [.str s,.int .u8 b]:=by
 show bX _ _ _ [⟨_,_⟩,⟨_,_⟩,_,_,_,_,_,_] _;refine au ?_;refine jr ?_;refine bw hm (ι:=(Nat×Nat×List aq)) (fun p:Nat×Nat×List aq=>[⟨true,.str s⟩,⟨true,.int .u8 b⟩,.un,⟨true,.int .i64 (p.1:Nat)⟩,.un,.un,⟨true,.own 0 1 0 p.2.2.length⟩,⟨true,.int .i64 (p.2.1:Nat)⟩]) (fun p=>[(0,.buf 1 (p.2.2.map D.str))]) 4 (fun p=>p.1<=s.length/\p.2.1<=p.1/\p.2.2.length<=p.1/\ai s b=p.2.2++cy b (s.drop p.1) ((s.take p.1).drop p.2.1)) (fun p=>s.length-p.1) (0,0,[]) ⟨aN,aN,aN,rfl⟩ (bg.to [] ah ah (by repeat(first|exact dz.nil|refine dz.un ?_|refine dz.eq ah ?_|refine dz.nl ah ah ?_|refine dz.ni (Or.inr ⟨0,1,0,rfl⟩) ?_)) (by repeat(first|exact aY.nil|refine aY.mt ah ah ah ah ?_))) ?_;rintro⟨i,fr,acc⟩ ⟨hi,hf,ha,hr⟩;dsimp only at hi hf ha hr⊢;refine aT ?_;intro u0;refine aA ?_;refine cT (fun hc0=>?_) fun hc0=>?_
 ·refine dE ?_;refine wp_cond (fun hc1=>?_) (fun hc1=>?_)
  ·try simp only[iz]at hc1
   refine aT ?_;refine yw _ _ ?_;refine c7 [(.str _)] ?_;refine zc ?_;exact⟨(i+1,i+1,acc++[(s.take i).drop fr]),⟨dP,dP,cX,by rw[hr,AK ae hc1];simp⟩,dP,(bg.to [(19,0)] ah ah pw (by refine aY.nl 19 ah ah ah cB ?_;exact aY.nil))⟩
  simp only[bj]at hc1;refine bY ?_;exact⟨(i+1,fr,acc),⟨dP,dP,dP,by rw[hr,AL ae ae hc1]⟩,dP,(bg.to [(0,0)] ah ah pw (by refine aY.nl 0 ah ah ah cB ?_;exact aY.nil))⟩
 refine aK ?_;refine fe _ ?_;refine c7 [(.str _)] ?_;refine aB ?_;refine eR 13 ?_;refine aE ?_;refine b8 (?_);have hs:ai s b=acc++[s.drop fr]:=by rw[hr,yP ae]
 rw[hs];exact rfl
def xe (Y:Ctx):Prop:=∀(s:aq)(b:Int),(s.length<=1048576)->Y.pre 470 [.str s,.int .u8 b]/\Y.val 470 [.str s,.int .u8 b]=.sl 1 ((ai s b).map D.str)
def Lv:aJ:=⟨1,2,jh,ct,(sq (r1 [gm dj] 1 0) (sq (r1 [gm s0,jd l0 (i8 97),gm l1,gmt 2 s0,cu 2 (ox l3 (i8 122)),fg l2 l4,gm l5] 1 6) .ret))⟩
def w453 {Y:Ctx}(hm:(Y.at 0).bz)  (c:Int)   :dV Y Lv (.bool (jc c)) [.int .u8 c]:=by
 show bX _ _ _ [⟨_,_⟩,_] _;refine au ?_;refine jr ?_;exact b7 rfl
def O9 (Y:Ctx):Prop:=∀(c:Int),Y.pre 453 [.int .u8 c]/\Y.val 453 [.int .u8 c]=.bool (jc c)
def Fq:aJ:=⟨1,2,jh,ct,(sq (r1 [gm dj] 1 0) (sq (r1 [gm s0,jd l0 (i8 48),gm l1,gmt 2 s0,cu 2 (ox l3 (i8 57)),fg l2 l4,gm l5] 1 6) .ret))⟩
def w454 {Y:Ctx}(hm:(Y.at 0).bz)  (c:Int)   :dV Y Fq (.bool (bB c)) [.int .u8 c]:=by
 show bX _ _ _ [⟨_,_⟩,_] _;refine au ?_;refine jr ?_;exact b7 rfl
def Mk (Y:Ctx):Prop:=∀(c:Int),Y.pre 454 [.int .u8 c]/\Y.val 454 [.int .u8 c]=.bool (bB c)
def ID:aJ:=⟨1,6,jh,ct,(sq (r1 [gm dj] 1 0) (sq (sq (r1 [gm s0,oQ l0,a8 l1 ch,gm l2,eU 3 s0,cE 3 (.lenS l4),cE 3 (eF l5 (i6 12)),fF l3 l6] 2 7) (nH s2 dj)) (sq (sq (r1 [gm bL] 3 0) (.block 0 (.loop (sq (sq (r1 [gm s3,gm s0,oQ l1,a8 l0 l2] 4 3) (fY s4 0)) (sq (.block 1 (sq (r1 [gm s0,gm s3,Gi l0 l1,gx 453 [l2] ct,ke l3,gm l4,gmt 5 s0,gmt 5 s3,cu 5 (.ixS l6 l7),cu 5 (.call 454 [l8] ct),cu 5 (.un .not l9),fg l5 l10,gm gJ,gmt 12 s0,gmt 12 s3,cu 12 (.ixS jN ku),cu 12 (eM lx (i8 95)),fg iM n9] 5 17) (nH s5 dj))) (r1 [gm s3,ay l0 ch,gm l1] 3 2)))))) (xN ou))))⟩
def w357 {Y:Ctx}(hm:(Y.at 0).bz)(h453:O9 Y)(h454:Mk Y)(s:aq)   :dV Y ID (.bool (cC s)) [.str s]:=by
 show bX _ _ _ [⟨_,_⟩,_,_,_,_,_] _;refine au ?_;refine aK ?_;intro u0;refine aB ?_;refine js ?_;refine aB ?_;refine cT (fun hc0=>?_) fun hc0=>?_
 ·refine aT ?_;refine b7 ?_;symm;simp only[cC,dt,bj];exact Or.inl ae
 refine aT ?_;refine bw hm (ι:=Nat) (fun i=>[⟨true,.str s⟩,.un,.un,⟨true,.int .i64 (i:Nat)⟩,.un,.un]) (fun i=>[]) 10 (fun i=>i<=s.length/\cC s=cO (fun i=>yZ (at8 s i)) i s.length) (fun i=>s.length-i) 0 ⟨ae,by simp only[cC];rw[bS ae,bS ae];rfl⟩ (dS []) ?_;rintro i ⟨hi,hr⟩;refine aT ?_;intro u1;refine aA ?_;refine cT (fun hc1=>?_) fun hc1=>?_
 ·refine aK ?_;refine ar (hc:=h453 _) ?_;refine aT ?_;refine ar (hc:=h454 _) ?_;refine dE ?_;refine gN (fun hc2=>?_) fun hc2=>?_
  ·refine aK ?_;refine b7 ?_;rw[hr,aX ae];simp[yZ,hc2]
  refine bY ?_;exact⟨i+1,⟨ae,by rw[hr,aX ae];simp[yZ,hc2]⟩,ae,(dS [])⟩
 refine aK ?_;refine b7 ?_;rw[hr,cj ae]
def Ek (Y:Ctx):Prop:=∀(s:aq),Y.pre 357 [.str s]/\Y.val 357 [.str s]=.bool (cC s)
def IC:aJ:=⟨1,6,jh,ct,(sq (r1 [gm dj] 1 0) (sq (sq (r1 [gm s0,oQ l0,a8 l1 ch,gm l2,eU 3 s0,cE 3 (.lenS l4),cE 3 (eF l5 (i6 16)),fF l3 l6,gm l7,eU 8 s0,cE 8 (.ixS l9 bL),cE 8 (.call 453 [l10] ct),cE 8 (.un .not gJ),fF l8 iM,gm jN,eU 14 s0,eU 14 s0,cE 14 (.lenS n9),cE 14 (kq pV ch),cE 14 (.ixS lx qu),cE 14 (cP sn (i8 45)),fF ku wv] 2 21) (nH s2 dj)) (sq (sq (r1 [gm ch] 3 0) (.block 0 (.loop (sq (sq (r1 [gm s3,gm s0,oQ l1,a8 l0 l2] 4 3) (fY s4 0)) (sq (.block 1 (sq (r1 [gm s0,gm s3,Gi l0 l1,gx 453 [l2] ct,ke l3,gm l4,gmt 5 s0,gmt 5 s3,cu 5 (.ixS l6 l7),cu 5 (.call 454 [l8] ct),cu 5 (.un .not l9),fg l5 l10,gm gJ,gmt 12 s0,gmt 12 s3,cu 12 (.ixS jN ku),cu 12 (eM lx (i8 45)),fg iM n9,gm pV,eU 18 s0,eU 18 s3,cE 18 (.ixS sn wv),cE 18 (cP zg (i8 45)),eU 18 Ak,gmt 23 s0,gmt 23 s3,cu 23 (kq EL ch),cu 23 (.ixS Ef Jc),cu 23 (cP Kn (i8 45)),Bo 18 Ee Np,fF qu Nq] 5 30) (nH s5 dj))) (r1 [gm s3,ay l0 ch,gm l1] 3 2)))))) (xN ou))))⟩
def w216 {Y:Ctx}(hm:(Y.at 0).bz)(h453:O9 Y)(h454:Mk Y)(s:aq)   :dV Y IC (.bool (fZ s)) [.str s]:=by
 show bX _ _ _ [⟨_,_⟩,_,_,_,_,_] _;refine au ?_;refine aK ?_;intro u0;refine aB ?_;refine js ?_;refine aG ?_;refine px 0 ?_;refine ar (hc:=h453 _) ?_;refine aT ?_;refine js ?_;refine aE ?_;refine px (s.length-1) ?_;refine aB ?_;refine cT (fun hc0=>?_) fun hc0=>?_
 ·refine aT ?_;refine b7 ?_;symm;simp only[fZ];rcases hc0 with(h|h)|h
  ·rcases h with h|h<;>simp<;>omega
  ·simp[h]
  ·simp[h]
 refine aT ?_;refine bw hm (ι:=Nat) (fun i=>[⟨true,.str s⟩,.un,.un,⟨true,.int .i64 (i:Nat)⟩,.un,.un]) (fun i=>[]) 24 (fun i=>i<=s.length/\1<=i/\fZ s=cO (Rk s) i s.length) (fun i=>s.length-i) 1 ⟨ae,ae,by simp only[fZ];rw[bS ae,bS ae,hc0.1.2,cJ hc0.2];rfl⟩ (dS []) ?_;rintro i ⟨hi,hi1,hr⟩;refine aT ?_;intro u1;refine aA ?_;refine cT (fun hc1=>?_) fun hc1=>?_
 ·refine aK ?_;refine ar (hc:=h453 _) ?_;refine aT ?_;refine ar (hc:=h454 _) ?_;refine ze ?_;refine px (i-1) ?_;refine aG ?_;refine gN (fun hc2=>?_) fun hc2=>?_
  ·refine aK ?_;refine b7 ?_;rw[hr,aX ae];simp only[Rk];revert hc2;generalize jc (at8 s i)=x;generalize bB (at8 s i)=y;by_cases h1:at8 s i=45<;>by_cases h2:at8 s (i-1)=45<;>cases x<;>cases y<;>simp_all
  refine bY ?_;exact⟨i+1,⟨ae,ae,by rw[hr,aX ae];simp only[Rk];revert hc2;generalize jc (at8 s i)=x;generalize bB (at8 s i)=y;by_cases h1:at8 s i=45<;>by_cases h2:at8 s (i-1)=45<;>cases x<;>cases y<;>simp_all⟩,ae,(dS [])⟩
 refine aK ?_;refine b7 ?_;rw[hr,cj ae]
def Jn (Y:Ctx):Prop:=∀(s:aq),Y.pre 216 [.str s]/\Y.val 216 [.str s]=.bool (fZ s)
def DF:aJ:=⟨1,9,[⟨1,none⟩,⟨2,none⟩],iB,(sq (rg [gm bL,gm dj] [(1,0),(2,1)]) (sq (sq (r1 [gm s0,oQ l0,a8 l1 ch,gm l2,eU 3 s0,cE 3 (.lenS l4),cE 3 (eF l5 CT),fF l3 l6,gm l7,eU 8 s0,cE 8 (.lenS l9),cE 8 (eF l10 ch),eU 8 gJ,gmt 12 s0,cu 12 (.ixS jN bL),cu 12 (cP ku (i8 48)),Bo 8 iM lx,fF l8 n9] 3 17) (.cond s3 (sq (rg [gm bL,gm dj] [(1,0),(2,1)]) .ret) .skip)) (sq (r1 [gm bL] 7 0) (sq (sq (r1 [gm bL] 4 0) (.block 0 (.loop (sq (sq (r1 [gm s4,gm s0,oQ l1,a8 l0 l2] 5 3) (fY s5 0)) (sq (.block 1 (sq (sq (r1 [gm s0,gm s4,Gi l0 l1,gx 454 [l2] ct,ke l3] 6 4) (.cond s6 (sq (rg [gm bL,gm dj] [(1,0),(2,1)]) .ret) .skip)) (r1 [gm s7,gn (.bin .mul l0 (i6 10)),gm s0,gm s4,Gi l2 l3,eH l4 (i8 48),gn (.cvi .i64 l5),ay l1 l6,gm l7] 7 8))) (r1 [gm s4,ay l0 ch,gm l1] 4 2)))))) (sq (sq (r1 [gm s7,dn l0 (i6 9999)] 8 1) (.cond s8 (sq (rg [gm bL,gm dj] [(1,0),(2,1)]) .ret) .skip)) (sq (rg [gm s7,gm l0,gm ou] [(1,1),(2,2)]) .ret))))))⟩
def w667 {Y:Ctx}(hm:(Y.at 0).bz)(h454:Mk Y)(s:aq)   :dV Y DF (.tup [.int .i64 (dU s),.bool (fo s)]) [.str s]:=by
 show bX _ _ _ [⟨_,_⟩,_,_,_,_,_,_,_,_] _;refine au ?_;refine br ?_;intro u0;refine aB ?_;refine js ?_;refine aG ?_;refine js ?_;refine aB ?_;refine px 0 ?_;refine aG ?_;refine cT (fun hc0=>?_) fun hc0=>?_
 ·refine aK ?_;refine b8 (aU (ak (D.int .i64) ?_) (ak D.bool ?_));all_goals
   have:fo s=false:=by
    simp only[fo];rcases hc0 with(h|h)|h
    ·rw[cJ (by omega:¬1<=s.length)];rfl
    ·rw[cJ (by omega:¬s.length<=9)];simp
    ·rw[bS (by omega:1<s.length),bS h.2];simp
   simp[dU,this]
 refine bY ?_;have hP:fo s=(cO (fun i=>bB (at8 s i)) 0 s.length&&decide (dJ s<=9999)):=by
  simp only[fo];rw[bS (by omega:1<=s.length),bS (by omega:s.length<=9)];rcases hc0.2 with h|h
  ·rw[cJ (by omega:¬1<s.length)];rfl
  ·rw[cJ h,Bool.and_false];rfl
 refine bw hm (ι:=Nat) (fun i=>[⟨true,.str s⟩,.un,.un,.un,⟨true,.int .i64 (i:Nat)⟩,.un,.un,⟨true,.int .i64 (dJ (s.take i):Nat)⟩,.un]) (fun i=>[]) 22 (fun i=>i<=s.length/\s.length<=9/\fo s=(cO (fun i=>bB (at8 s i)) i s.length&&decide (dJ s<=9999))) (fun i=>s.length-i) 0 ⟨ae,ae,hP⟩ (dS []) ?_;rintro i ⟨hi,h9,hr⟩;refine aT ?_;intro u1;refine aA ?_;refine cT (fun hc1=>?_) fun hc1=>?_
 ·refine br ?_;refine ar (hc:=h454 _) ?_;refine aA ?_;refine aw (fun hc2=>?_) (fun hc2=>?_)
  ·try simp only[iz]at hc2
   refine bY ?_;refine b8 (aU (ak (D.int .i64) ?_) (ak D.bool ?_));all_goals
    have:fo s=false:=by rw[hr,aX ae,hc2];rfl
    simp[dU,this]
  simp only[bP]at hc2;refine aA ?_;have h48:=hc2;simp only[bB,bh,aS]at h48;have hn:=ub s i ae;have hn2:=vT s i ae;have h256:=JE s i;refine aE ?_;refine wZ ?_;refine aB ?_;refine Lq (at8 s i-48) (hb:=fun _=>IntWalk.u8_in _ ae) ?_;refine vX (at8 s i-48) (hb:=fun _=>IntWalk.i64_in _ ae) ?_;refine aB ?_;rw[show(dJ (s.take i):Int)*10+(at8 s i-48)=(dJ (s.take (i+1)):Nat)by omega];refine br ?_;exact⟨i+1,⟨ae,h9,by rw[hr,aX ae,hc2];rfl⟩,ae,(dS [])⟩
 refine aG ?_;have ht:s.take i=s:=eK ae;rw[ht];refine aB ?_;refine cT (fun hc3=>?_) fun hc3=>?_
 ·refine aK ?_;refine b8 (aU (ak (D.int .i64) ?_) (ak D.bool ?_));all_goals
   have:fo s=false:=by rw[hr,cJ ae,Bool.and_false]
   simp[dU,this]
 refine br ?_;refine b8 (aU (ak (D.int .i64) ?_) (ak D.bool ?_));all_goals
  have:fo s=true:=by rw[hr,cj ae,bS ae];rfl
  simp[dU,this]
def Mr (Y:Ctx):Prop:=∀(s:aq),Y.pre 667 [.str s]/\Y.val 667 [.str s]=.tup [.int .i64 (dU s),.bool (fo s)]
def BT:aJ:=⟨1,5,jh,ct,(sq (r1 [gm dj] 1 0) (sq (sq (r1 [gm bL] 2 0) (.block 0 (.loop (sq (sq (r1 [gm s2,gm s0,oQ l1,a8 l0 l2] 3 3) (fY s3 0)) (sq (.block 1 (sq (r1 [gm s0,gm s2,Gi l0 l1,a8 l2 (i8 48),gm l3,eU 4 s0,eU 4 s2,cE 4 (.ixS l5 l6),cE 4 (eF l7 (i8 57)),fF l4 l8] 4 9) (nH s4 dj))) (r1 [gm s2,ay l0 ch,gm l1] 2 2)))))) (sq (r1 [gm s0,oQ l0,dn l1 bL,gm l2] 1 3) .ret)))⟩
def w668 {Y:Ctx}(hm:(Y.at 0).bz)  (t:aq)   :dV Y BT (.bool (fN t)) [.str t]:=by
 show bX _ _ _ [⟨_,_⟩,_,_,_,_] _;refine au ?_;refine aK ?_;refine bw hm (ι:=Nat) (fun i=>[⟨true,.str t⟩,.un,⟨true,.int .i64 (i:Nat)⟩,.un,.un]) (fun i=>[]) 2 (fun i=>i<=t.length/\cO (fun i=>bB (at8 t i)) 0 t.length=cO (fun i=>bB (at8 t i)) i t.length) (fun i=>t.length-i) 0 ⟨ae,rfl⟩ (dS []) ?_;rintro i ⟨hi,hr⟩;refine aT ?_;intro u0;refine aA ?_;refine cT (fun hc0=>?_) fun hc0=>?_
 ·refine sI ?_;refine gN (fun hc1=>?_) fun hc1=>?_
  ·refine aK ?_;refine b7 ?_;simp only[fN];rw[hr,aX ae];rcases hc1 with h|h<;>simp[bB]<;>omega
  refine bY ?_;exact⟨i+1,⟨ae,by rw[hr,aX ae];rw[show bB (at8 t i)=true by simp only[bB,bh,aS];omega];rfl⟩,ae,(dS [])⟩
 refine aT ?_;intro u1;refine aG ?_;refine b7 ?_;simp only[fN];rw[hr,cj ae];simp
def Sq (Y:Ctx):Prop:=∀(t:aq),Y.pre 668 [.str t]/\Y.val 668 [.str t]=.bool (fN t)
def Ly:aJ:=⟨1,7,jh,ct,(sq (r1 [gm dj] 1 0) (sq (sq (r1 [gm s0,oQ l0,a8 l1 ch,gm l2,eU 3 s0,cE 3 (.lenS l4),cE 3 (eF l5 EI),fF l3 l6] 2 7) (nH s2 dj)) (sq (sq (r1 [gm bL] 3 0) (.block 0 (.loop (sq (sq (r1 [gm s3,gm s0,oQ l1,a8 l0 l2] 4 3) (fY s4 0)) (sq (.block 1 (sq (r1 [gm s0,gm s3,Gi l0 l1,gm l2] 5 3) (sq (r1 [gm s5,a8 l0 (i8 97),gm l1,eU 2 s5,cE 2 (eF l3 (i8 122)),fF l2 l4,gm l5,gmt 6 s5,cu 6 (qa l7 (i8 48)),gmt 6 l8,eU 9 s5,cE 9 (eF l10 (i8 57)),Qj 6 l9 gJ,fg l6 iM,gm jN,gmt 14 s5,cu 14 (eM lx (i8 45)),fg ku n9] 6 17) (nH s6 dj)))) (r1 [gm s3,ay l0 ch,gm l1] 3 2)))))) (xN ou))))⟩
def w666 {Y:Ctx}(hm:(Y.at 0).bz)  (t:aq)   :dV Y Ly (.bool (qq t)) [.str t]:=by
 show bX _ _ _ [⟨_,_⟩,_,_,_,_,_,_] _;refine au ?_;refine aK ?_;intro u0;refine aB ?_;refine js ?_;refine aB ?_;refine cT (fun hc0=>?_) fun hc0=>?_
 ·refine aT ?_;refine b7 ?_;symm;simp only[qq,dt,bj];exact Or.inl ae
 refine aT ?_;refine bw hm (ι:=Nat) (fun i=>[⟨true,.str t⟩,.un,.un,⟨true,.int .i64 (i:Nat)⟩,.un,.un,.un]) (fun i=>[]) 10 (fun i=>i<=t.length/\qq t=cO (fun i=>nS (at8 t i)) i t.length) (fun i=>t.length-i) 0 ⟨ae,by simp only[qq];rw[bS ae,bS ae];rfl⟩ (dS []) ?_;rintro i ⟨hi,hr⟩;refine aT ?_;intro u1;refine aA ?_;refine cT (fun hc1=>?_) fun hc1=>?_
 ·refine Ma ?_;refine gN (fun hc2=>?_) fun hc2=>?_
  ·refine aK ?_;refine b7 ?_;rw[hr,aX ae];have:nS (at8 t i)=false:=(by simp only[nS,jc,bB,c9,dt,bj];omega);rw[this];rfl
  refine bY ?_;exact⟨i+1,⟨ae,by rw[hr,aX ae];have:nS (at8 t i)=true:=(by simp only[nS,jc,bB,cR,bh,aS];omega);rw[this];rfl⟩,ae,(dS [])⟩
 refine aK ?_;refine b7 ?_;rw[hr,cj ae]
def Sp (Y:Ctx):Prop:=∀(t:aq),Y.pre 666 [.str t]/\Y.val 666 [.str t]=.bool (qq t)
def IE:aJ:=⟨2,11,[⟨2,none⟩],ct,(sq (r1 [gm dj] 2 0) (sq (sq (r1 [gm s0,aO l0 cse] 3 1) (.cond s3 (sq (r1 [gm ou] 2 0) .ret) .skip)) (sq (r1 [gm s0,gx 470 [l0,(i8 46)] iB,gm l1] 4 2) (sq (sq (r1 [gm s4,gl l0,dn l1 sj] 5 2) (.cond s5 (sq (r1 [gm dj] 2 0) .ret) .skip)) (sq (sq (r1 [gm bL] 6 0) (.block 0 (.loop (sq (sq (r1 [gm s6,gm s4,gl l1,a8 l0 l2] 7 3) (fY s7 0)) (sq (.block 1 (sq (sq (r1 [gm s4,gm s6,ga 1 l0 l1,gd l2,gx 666 [l3] ct,ke l4] 8 5) (.cond s8 (sq (r1 [gm dj] 2 0) .ret) .skip)) (sq (r1 [gm s4,gm s6,ga 1 l0 l1,gd l2,gx 667 [l3] ct,gm l4,ge l5 0,ge l5 1,gm l6,gm l7] 9 9) (sq (r1 [gm s1,gm l0,gmt 1 s4,gmt 1 s6,cu 1 (.ia 1 l2 l3),kd 1 l4,cu 1 (.call 668 [l5] ct),fg l1 l6,gm l7,gmt 8 s9,cu 8 (.un .not l9),fg l8 l10] 10 11) (.cond kZ (sq (r1 [gm dj] 2 0) .ret) .skip))))) (r1 [gm s6,ay l0 ch,gm l1] 6 2)))))) (sq (r1 [gm ou] 2 0) .ret))))))⟩
def w456 {Y:Ctx}(hm:(Y.at 0).bz)(h470:xe Y)(h666:Sp Y)(h667:Mr Y)(h668:Sq Y)(s:aq)(p:Bool)  (hp0:s.length<=1048576):dV Y IE (.bool (rC s p)) [.str s,.bool p]:=by
 show bX _ _ _ [⟨_,_⟩,⟨_,_⟩,_,_,_,_,_,_,_,_,_] _;refine au ?_;refine br ?_;refine cT (fun hc0=>?_) fun hc0=>?_
 ·refine aT ?_;refine b7 ?_;simp[rC,hc0]
 refine aB ?_;refine ar (hc:=h470 _ _ ?_) ?_;rotate_left;first|assumption|omega;have hlen:=de s 46
 refine aK ?_;intro u0;refine aA ?_;refine aw (fun hc1=>?_) (fun hc1=>?_)
 ·try simp only[iz]at hc1
  refine aT ?_;refine b7 ?_;simp only[rC,nq];rw[cJ hc0,cJ ae];rfl
 simp only[bj]at hc1;refine aT ?_;refine bw hm (ι:=Nat) (fun i=>[⟨true,.str s⟩,⟨true,.bool p⟩,.un,.un,⟨true,.sl 1 ((ai s 46).map D.str)⟩,.un,⟨true,.int .i64 (i:Nat)⟩,.un,.un,.un,.un]) (fun i=>[]) 10 (fun i=>i<=(ai s 46).length/\rC s p=cO (fun i=>iD p (ai s 46)[i]!) i (ai s 46).length) (fun i=>(ai s 46).length-i) 0 ⟨ae,by simp only[rC,nq];rw[cJ hc0,bS ae];rfl⟩ (dS []) ?_;rintro i ⟨hi,hr⟩;refine aT ?_;intro u1;refine aA ?_;refine cT (fun hc2=>?_) fun hc2=>?_
 ·refine bY ?_;refine ar (hc:=h666 _) ?_;refine aA ?_;refine aw (fun hc3=>?_) (fun hc3=>?_)
  ·simp only[bn]at hc3;refine br ?_;refine b7 ?_;rw[hr,aX ae];simp only[iD,hc3];rfl
  simp only[bP]at hc3;refine aK ?_;refine ar (hc:=h667 _) ?_;refine mO ?_;refine ar (hc:=h668 _) ?_;refine aK ?_;refine wp_cond (fun hc4=>?_) (fun hc4=>?_)
  ·skip
   refine aK ?_;refine b7 ?_;have h5:iD p (ai s 46)[i]! =false:=(by simp only[iD,hc3];revert hc4;generalize fN (ai s 46)[i]! =a;generalize fo (ai s 46)[i]! =b;cases p<;>cases a<;>cases b<;>simp);rw[hr,aX ae,h5];rfl
  skip
  refine bY ?_;exact⟨i+1,⟨ae,by rw[hr,aX ae];have h5:iD p (ai s 46)[i]! =true:=(by simp only[iD,hc3];revert hc4;generalize fN (ai s 46)[i]! =a;generalize fo (ai s 46)[i]! =b;cases p<;>cases a<;>cases b<;>simp);rw[h5];rfl⟩,ae,(dS [])⟩
 refine aK ?_;refine b7 ?_;rw[hr,cj ae]
def R4 (Y:Ctx):Prop:=∀(s:aq)(p:Bool),(s.length<=1048576)->Y.pre 456 [.str s,.bool p]/\Y.val 456 [.str s,.bool p]=.bool (rC s p)
def Lx:aJ:=⟨1,2,jh,ct,(sq (r1 [gm dj] 1 0) (sq (r1 [gm s0,jd l0 bL,gm l1,gmt 2 s0,cu 2 (ox l3 (i6 9999)),fg l2 l4,gm l5] 1 6) .ret))⟩
def w455 {Y:Ctx}(hm:(Y.at 0).bz)  (n:Int)   :dV Y Lx (.bool (nw n)) [.int .i64 n]:=by
 show bX _ _ _ [⟨_,_⟩,_] _;refine au ?_;refine jr ?_;exact b7 rfl
def R3 (Y:Ctx):Prop:=∀(n:Int),Y.pre 455 [.int .i64 n]/\Y.val 455 [.int .i64 n]=.bool (nw n)
def Lw:aJ:=⟨1,3,jh,ct,(sq (rg [gb 5 s0,gm dj] [(2,0),(1,1)]) (sq (r1 [gf 0 s2,gd l0,gx 455 [l1] ct,gm l2,mP 3 1 s2,kd 3 l4,cu 3 (.call 455 [l5] ct),fg l3 l6,gm l7,mP 8 2 s2,kd 8 l9,cu 8 (.call 455 [l10] ct),fg l8 gJ,gm iM,mP 13 3 s2,kd 13 ku,cu 13 (.call 456 [lx,ou] iB),fg jN n9,gm pV,mP 18 4 s2,kd 18 sn,cu 18 (.call 456 [wv,dj] iB),fg qu zg,gm Ak] 1 23) .ret))⟩
def w217 {Y:Ctx}(hm:(Y.at 0).bz)(h455:R3 Y)(h456:R4 Y)(v:cM)  (hp0:v.sm):dV Y Lw (.bool (iW v)) [cM.D v]:=by
 show bX _ _ _ [⟨_,_⟩,_,_] _;refine au ?_;refine aK ?_;refine ar (hc:=h455 _) ?_;refine aB ?_;refine ar (hc:=h455 _) ?_;refine aG ?_;refine ar (hc:=h455 _) ?_;refine aG ?_;refine fT (hc:=fun hf=>h456 v.pre true hp0.1) ?_;refine aG ?_;refine fT (hc:=fun hf=>h456 v.build false hp0.2) ?_;refine aG ?_;exact b7 rfl
def Jo (Y:Ctx):Prop:=∀(v:cM),(v.sm)->Y.pre 217 [cM.D v]/\Y.val 217 [cM.D v]=.bool (iW v)
def BS:aJ:=⟨1,4,jh,ct,(sq (rg [gb 5 s0,gm cse] [(2,0),(1,1)]) (sq (r2 [gf 0 s2,gd l0,gx 734 [l1] ct,ay l2 (cs [46]),gf 1 s2,gd l4,gx 734 [l5] ct,ay l3 l6,gm l7] 3 8) (sq (r1 [gm s3,ay l0 (cs [46]),gf 2 s2,gd l2,gx 734 [l3] ct,ay l1 l4,gm l5] 1 6) .ret)))⟩
def w554 {Y:Ctx}(hm:(Y.at 0).bz)(h734:Pv Y)(v:cM)  (hp0:nw v.major=true/\nw v.minor=true/\nw v.patch=true):dV Y BS (.str (dQ v.major.toNat++[46]++dQ v.minor.toNat++[46]++dQ v.patch.toNat)) [cM.D v]:=by
 show bX _ _ _ [⟨_,_⟩,_,_,_] _;obtain⟨hq1,hq2,hq3⟩:=hp0;simp only[nw,bh,aS]at hq1 hq2 hq3;have hl1:=eG 4 v.major.toNat ae ae;have hl2:=eG 4 v.minor.toNat ae ae;have hl3:=eG 4 v.patch.toNat ae ae;refine au ?_;refine aK ?_;refine ar (hc:=h734 _ ?_) ?_;rotate_left;first|assumption|omega
 refine cY (hb:=fun _=>cX) ?_;refine aA ?_;refine ar (hc:=h734 _ ?_) ?_;rotate_left;first|assumption|omega
 refine cY (hb:=fun _=>cX) ?_;refine aG ?_;refine cY (hb:=fun _=>cX) ?_;refine aA ?_;refine ar (hc:=h734 _ ?_) ?_;rotate_left;first|assumption|omega
 refine cY (hb:=fun _=>cX) ?_;refine aB ?_;exact cV rfl
def Sl (Y:Ctx):Prop:=∀(v:cM),(nw v.major=true/\nw v.minor=true/\nw v.patch=true)->Y.pre 554 [cM.D v]/\Y.val 554 [cM.D v]=.str (dQ v.major.toNat++[46]++dQ v.minor.toNat++[46]++dQ v.patch.toNat)
def Fu:aJ:=⟨1,7,jh,ct,(sq (rg [gb 5 s0,gm cse] [(2,0),(1,1)]) (sq (sq (r1 [gk 5 true s2,gx 217 [l0] HU,ke l1] 3 2) (nH s3 cse)) (sq (r1 [gk 5 true s2,gx 554 [l0] HU,gm l1] 5 2) (sq (sq (r1 [gf 3 s2,gd l0,cv l1 cse] 4 2) (.cond s4 (r1 [gm s5,ay l0 (cs [45]),gf 3 s2,gd l2,ay l1 l3,gm l4] 5 5) .skip)) (sq (sq (r1 [gf 4 s2,gd l0,cv l1 cse] 6 2) (.cond s6 (r1 [gm s5,ay l0 (cs [43]),gf 4 s2,gd l2,ay l1 l3,gm l4] 5 5) .skip)) (sq (r1 [gm s5,gm l0] 1 1) .ret))))))⟩
def w316 {Y:Ctx}(hm:(Y.at 0).bz)(h217:Jo Y)(h554:Sl Y)(v:cM)  (hp0:v.sm):dV Y Fu (.str (mL v)) [cM.D v]:=by
 show bX _ _ _ [⟨_,_⟩,_,_,_,_,_,_] _;obtain⟨hs1,hs2⟩:=hp0;have hp0:v.sm:=⟨hs1,hs2⟩;refine au ?_;refine aK ?_;refine ar (hc:=h217 _ ?_) ?_;rotate_left;first|assumption|omega
 refine aA ?_;refine aw (fun hc0=>?_) (fun hc0=>?_)
 ·simp only[bn]at hc0;refine aT ?_;refine cV ?_;simp[mL,hc0]
 simp only[bP]at hc0;refine aA ?_;have hv:=hc0;simp only[iW,bh]at hv;obtain⟨⟨⟨⟨hv1,hv2⟩,hv3⟩,_⟩,_⟩:=hv;have hq1:=hv1;have hq2:=hv2;have hq3:=hv3;simp only[nw,bh,aS]at hq1 hq2 hq3;have hl1:=eG 4 v.major.toNat ae ae;have hl2:=eG 4 v.minor.toNat ae ae;have hl3:=eG 4 v.patch.toNat ae ae;refine aE ?_;refine ar (hc:=h554 v ⟨hv1,hv2,hv3⟩) ?_;refine bY ?_;refine cT (fun hc1=>?_) fun hc1=>?_
 ·refine aA ?_;refine cY (hb:=fun _=>cX) ?_;refine aA ?_;refine cY (hb:=fun _=>cX) ?_;refine bY ?_;refine cT (fun hc2=>?_) fun hc2=>?_
  ·refine aA ?_;refine cY (hb:=fun _=>cX) ?_;refine aA ?_;refine cY (hb:=fun _=>cX) ?_;refine br ?_;refine cV ?_;simp[mL,wH,hc0,hc1,hc2]
  refine aK ?_;refine cV ?_;simp[mL,wH,hc0,hc1,hc2]
 refine br ?_;refine cT (fun hc2=>?_) fun hc2=>?_
 ·refine aA ?_;refine cY (hb:=fun _=>cX) ?_;refine aA ?_;refine cY (hb:=fun _=>cX) ?_;refine br ?_;refine cV ?_;simp[mL,wH,hc0,hc1,hc2]
 refine aK ?_;refine cV ?_;simp[mL,wH,hc0,hc1,hc2]
def RS (Y:Ctx):Prop:=∀(v:cM),(v.sm)->Y.pre 316 [cM.D v]/\Y.val 316 [cM.D v]=.str (mL v)
def zH:aJ:=⟨1,18,[⟨1,some (5,true)⟩,⟨2,none⟩],[[.a,.a,.a,.a,.a],[.a]],(sq (rg [gb 5 (.c (.agg [.int .i64 0,.int .i64 0,.int .i64 0,.str [],.str []])),gm bL] [(1,0),(2,1)]) (sq (r1 [gb 5 (.c (.agg [.int .i64 0,.int .i64 0,.int .i64 0,.str [],.str []]))] 4 0) (sq (r1 [gm s0,gm l0] 3 1) (sq (r1 [gm s3,gx 675 [l0,(i8 43)] iB,gm l1,ge l2 0,ge l2 1,gf 4 s4,gt 1 l5 l3,gm l4] 3 7) (sq (r1 [gm s3,gx 675 [l0,(i8 45)] iB,gm l1,ge l2 0,ge l2 1,gf 3 s4,gt 1 l5 l3,gm l4] 3 7) (sq (r1 [gm s3,gx 533 [l0,(i8 46)] iB,gm l1] 5 2) (sq (sq (r1 [gm s5,gl l0,cv l1 jL] 6 2) (.cond s6 (sq (r1 [gn (.build [.int .i64 0,.int .i64 0,.int .i64 0,.str [],.str []] []),gt 5 s1 l0,gm zx] 2 2) .ret) .skip)) (sq (r1 [gb 3 (.c (.agg [.int .i64 0,.int .i64 0,.int .i64 0]))] 16 0) (sq (sq (rg [gm s5,gl l0,gm bL] [(10,0),(8,1),(7,2)]) (.block 0 (.loop (sq (r1 [a8 s7 s8] 9 0) (sq (fY s9 0) (sq (.block 1 (sq (rg [gm s7,ga 1 kZ s7,gd l1,gm l0,gm l2] [(14,3),(11,4)]) (sq (rg [gm nQ,gx 658 [l0] ct,gm l1,ge l2 0,ge l2 1,gm l3,gm l4] [(15,5),(12,6)]) (sq (sq (r1 [gm mQ,ke l0] 13 1) (.cond rv (sq (r1 [gn (.build [.int .i64 0,.int .i64 0,.int .i64 0,.str [],.str []] []),gt 5 s1 l0,gm zx] 2 2) .ret) .skip)) (rg [gm r8,gm wD,gn (.iaP 3 1 DN l0),gt 1 l2 l1] []))))) (r1 [ay s7 ch,gm l0] 7 1))))))) (sq (rt [gn (.iaP 3 1 DN bL),gd l0,gn (.iaP 3 1 DN ch),gn (.ldI 1 false l2),gn (.iaP 3 1 DN jE),gn (.ldI 1 false l4),gf 0 s4,gt 1 l6 l1,gf 1 s4,gt 1 l8 l3,gf 2 s4,gt 1 l10 l5] []) (sq (sq (r1 [gk 5 true s4,gx 209 [l0] HU,ke l1,gm l2,cE 3 (.ld 5 true s4),cE 3 (.call 451 [l4] HU),eU 3 s0,cE 3 (eM l5 l6),fF l3 l7] 17 8) (.cond BY (sq (r1 [gn (.build [.int .i64 0,.int .i64 0,.int .i64 0,.str [],.str []] []),gt 5 s1 l0,gm zx] 2 2) .ret) .skip)) (sq (r1 [gk 5 true s4,gt 5 s1 l0,gm bL] 2 2) .ret))))))))))))⟩
def w466 {Y:Ctx}(hm:(Y.at 0).bz)(h209:Jm Y)(h451:O7 Y)(h533:Jq Y)(h658:Mq Y)(h675:Sw Y)(s:aq)  (hp0:s.length<=1048576):dV Y zH (.tup [cM.D ((fK s).getD fH),.int .i64 (m6 s)]) [.str s]:=by
 show bX _ _ _ [⟨_,_⟩,_,_,_,_,_,_,_,_,_,_,_,_,_,_,_,_,_] _;have hb1:=kr s 43;have iB:=kr (aD s 43).2 45;generalize hA:aD s 43=A at hb1 iB;generalize hB:aD A.2 45=B at iB;have hsl:=de B.2 46;generalize hL:ai B.2 46=L at hsl;have hq0:fK s=if L.length=3/\fo L[0]! =true/\fo L[1]! =true/\fo L[2]! =true then(if iW ⟨dU L[0]!,dU L[1]!,dU L[2]!,B.1,A.1⟩=true/\mL ⟨dU L[0]!,dU L[1]!,dU L[2]!,B.1,A.1⟩=s then some ⟨dU L[0]!,dU L[1]!,dU L[2]!,B.1,A.1⟩else none)else none:=by subst hA;subst hB;subst hL;rfl
 refine au ?_;refine jr ?_;refine ar (hc:=h675 s 43) ?_;rw[hA];refine aG ?_;refine aR (cM.D ⟨0,0,0,[],A.1⟩) (he:=aZ) ?_;refine aG ?_;refine ar (hc:=h675 A.2 45) ?_;rw[hB];refine aG ?_;refine aR (cM.D ⟨0,0,0,B.1,A.1⟩) (he:=aZ) ?_;refine aG ?_;refine ar (hc:=h533 B.2 46 ae) ?_;rw[hL];refine aK ?_;intro u0;refine aA ?_;refine cT (fun hc0=>?_) fun hc0=>?_
 ·refine aA ?_;refine bo (cM.D fH) ?_;refine aG ?_;refine b8 (aU ?_ (ak (D.int .i64) ?_));all_goals
   have hq:fK s=none:=by rw[hq0,aj (fun h=>by have:=h.1;omega)]
   simp only[m6,hq];rfl
 refine bY ?_;intro u1;refine aA ?_;refine bw hm (ι:=Nat) (fun i=>[⟨true,.str s⟩,⟨true,.ptr 0 5 0 0⟩,.un,.un,⟨true,.ptr 2 5 0 0⟩,.un,.un,⟨true,.int .i64 (i:Nat)⟩,⟨true,.int .i64 (L.length:Nat)⟩,.un,⟨true,.sl 1 (L.map D.str)⟩,.un,.un,.un,.un,.un,⟨true,.ptr 27 3 0 0⟩,.un]) (fun i=>[(0,.buf 5 [cM.D fH]),(2,.buf 5 [cM.D ⟨0,0,0,B.1,A.1⟩]),(27,.buf 3 [Ij L i])]) 31 (fun i=>i<=3/\∀j,j<i->fo L[j]! =true) (fun i=>3-i) 0 ⟨ae,fun j hj=>ae⟩ (dS [(0,0),(2,2),(27,27)]) ?_;rintro i ⟨hi,hr⟩;refine aB ?_;refine cT (fun hc1=>?_) fun hc1=>?_
 ·refine hE ?_;refine ar (hc:=h658 L[i]!) ?_;refine hE ?_;refine aw (fun hc2=>?_) (fun hc2=>?_)
  ·simp only[bn]at hc2;refine aA ?_;refine bo (cM.D fH) ?_;refine aK ?_;refine b8 (aU ?_ (ak (D.int .i64) ?_));all_goals
    have hq:fK s=none:=by
     rw[hq0,aj];rintro⟨_,h1,h2,h3⟩;rcases(show i=0\/i=1\/i=2 by omega)with rfl|rfl|rfl
     ·rw[h1]at hc2;cases hc2
     ·rw[h2]at hc2;cases hc2
     ·rw[h3]at hc2;cases hc2
    simp only[m6,hq];rfl
  simp only[bP]at hc2;refine aG ?_;refine ri i ?_;refine aR (Ij L (i+1)) (he:=C7 L i ae) ?_;refine br ?_;have hr2:∀j,j<i+1->fo L[j]! =true:=by
   intro j hj;rcases Nat.eq_or_lt_of_le (Nat.lt_succ_iff.1 hj)with rfl|h
   ·exact hc2
   ·exact hr j h
  exact⟨i+1,⟨ae,hr2⟩,ae,(dS [(0,0),(2,2),(27,27)])⟩
 refine aA ?_;refine eR 27 ?_;refine aE ?_;have h3:i=3:=ae;subst h3;refine E9 0 ?_;refine fk (v:=.int .i64 (dU L[0]!)) ?_;refine E9 1 ?_;refine BI (v:=.int .i64 (dU L[1]!)) ?_;refine E9 2 ?_;refine BI (v:=.int .i64 (dU L[2]!)) ?_;refine aE ?_;refine aR (cM.D ⟨dU L[0]!,0,0,B.1,A.1⟩) (he:=aZ) ?_;refine aE ?_;refine aR (cM.D ⟨dU L[0]!,dU L[1]!,0,B.1,A.1⟩) (he:=aZ) ?_;refine aE ?_;refine aR (cM.D ⟨dU L[0]!,dU L[1]!,dU L[2]!,B.1,A.1⟩) (he:=aZ) ?_;refine aB ?_;have hsm:cM.sm ⟨dU L[0]!,dU L[1]!,dU L[2]!,B.1,A.1⟩:=⟨by simp only;omega,by simp only;omega⟩;generalize hV:(⟨dU L[0]!,dU L[1]!,dU L[2]!,B.1,A.1⟩:cM)=V at hsm hq0⊢;refine aE ?_;refine ar (hc:=h209 V hsm) ?_;refine aB ?_;refine fT (hc:=fun _=>h451 V hsm) ?_;refine aG ?_;refine aw (fun hc3=>?_) (fun hc3=>?_)
 ·simp only[cR,bn,bj]at hc3;refine aA ?_;refine bo (cM.D fH) ?_;refine aG ?_;refine b8 (aU ?_ (ak (D.int .i64) ?_));all_goals
   have hq:fK s=none:=by
    rw[hq0];split
    ·rw[aj];rintro⟨h1,h2⟩;rcases hc3 with h|h
     ·rw[h1]at h;cases h
     ·exact h h2
    ·rfl
   simp only[m6,hq];rfl
 simp only[c9,bP,aS]at hc3;refine br ?_;refine b8 (aU ?_ (ak (D.int .i64) ?_));all_goals
  have hq:fK s=some V:=by
   rw[hq0,av ⟨ae,hr 0 ae,hr 1 ae,hr 2 ae⟩,av hc3]
  simp only[m6,hq];rfl
def Sb (Y:Ctx):Prop:=∀(s:aq),(s.length<=1048576)->Y.pre 466 [.str s]/\Y.val 466 [.str s]=.tup [cM.D ((fK s).getD fH),.int .i64 (m6 s)]
def Fg:aJ:=⟨2,6,[⟨2,none⟩],ct,(sq (r1 [gm bL] 2 0) (sq (sq (r1 [gm bL] 3 0) (.block 0 (.loop (sq (sq (r1 [gm s3,gm s0,gl l1,a8 l0 l2] 4 3) (fY s4 0)) (sq (.block 1 (sq (r1 [gm s0,gm s3,ga 2 l0 l1,gf 0 l2,gd l3,gm s1,aO l4 l5] 5 6) (.cond s5 (sq (r1 [gm s3,gm l0] 2 1) .ret) .skip))) (r1 [gm s3,ay l0 ch,gm l1] 3 2)))))) (sq (r1 [gn (.mv (.c (.int .i64 (-1))))] 2 0) .ret)))⟩
def w955 {Y:Ctx}(hm:(Y.at 0).bz)  (l:List bF)(nm:aq)   :dV Y Fg (.int .i64 (findF l nm 0)) [.sl 2 (l.map bF.D),.str nm]:=by
 show bX _ _ _ [⟨_,_⟩,⟨_,_⟩,_,_,_,_] _;refine au ?_;refine aK ?_;refine bw hm (ι:=Nat) (fun i=>[⟨true,.sl 2 (l.map bF.D)⟩,⟨true,.str nm⟩,.un,⟨true,.int .i64 (i:Nat)⟩,.un,.un]) (fun i=>[]) 2 (fun i=>i<=l.length/\findF l nm 0=findF l nm i) (fun i=>l.length-i) 0 ⟨ae,rfl⟩ (dS []) ?_;rintro i ⟨hi,hr⟩;refine aT ?_;intro u0;refine aA ?_;refine cT (fun hc0=>?_) fun hc0=>?_
 ·refine hE ?_;refine gN (fun hc1=>?_) fun hc1=>?_
  ·refine br ?_;refine fC ?_;rw[hr,CG ae hc1]
  refine bY ?_;exact⟨i+1,⟨ae,by rw[hr,CH ae hc1]⟩,ae,(dS [])⟩
 refine aK ?_;refine fC ?_;rw[hr,z8 ae]
def SR (Y:Ctx):Prop:=∀(l:List bF)(nm:aq),Y.pre 955 [.sl 2 (l.map bF.D),.str nm]/\Y.val 955 [.sl 2 (l.map bF.D),.str nm]=.int .i64 (findF l nm 0)
def Bk:aJ:=⟨2,10,[⟨2,none⟩],ct,(sq (r1 [gm bL] 2 0) (sq (sq (rg [gm s0,gl l0,gm bL] [(6,0),(4,1),(3,2)]) (.block 0 (.loop (sq (r1 [a8 s3 s4] 5 0) (sq (fY s5 0) (sq (.block 1 (sq (rg [gm s3,ga 2 s6 s3,gk 2 true l1,gb 2 (.c (.agg [.str [],.aC])),gm l0,gt 2 l3 l2] [(7,3),(9,4)]) (sq (r1 [gf 0 s7,gd l0,gm s1,aO l1 l2] 8 3) (.cond s8 (sq (r1 [gm s9,gm l0] 2 1) .ret) .skip)))) (r1 [ay s3 ch,gm l0] 3 1))))))) (sq (r1 [gn (.mv (.c (.int .i64 (-1))))] 2 0) .ret)))⟩
def w663 {Y:Ctx}(hm:(Y.at 0).bz)  (l:List bF)(nm:aq)   :dV Y Bk (.int .i64 (findF l nm 0)) [.sl 2 (l.map bF.D),.str nm]:=by
 show bX _ _ _ [⟨_,_⟩,⟨_,_⟩,_,_,_,_,_,_,_,_] _;refine au ?_;refine aK ?_;intro u0;refine aA ?_;refine bw hm (ι:=Nat) (fun i=>[⟨true,.sl 2 (l.map bF.D)⟩,⟨true,.str nm⟩,.un,⟨true,.int .i64 (i:Nat)⟩,⟨true,.int .i64 (l.length:Nat)⟩,.un,⟨true,.sl 2 (l.map bF.D)⟩,.un,.un,.un]) (fun i=>[]) 4 (fun i=>i<=l.length/\findF l nm 0=findF l nm i) (fun i=>l.length-i) 0 ⟨ae,rfl⟩ (dS []) ?_;rintro i ⟨hi,hr⟩;refine aB ?_;refine cT (fun hc0=>?_) fun hc0=>?_
 ·refine aT ?_;first|refine cb (v:=(bF.D _)) ?_|refine fk (v:=(bF.D _)) ?_
  refine aA ?_;refine aR (bF.D l[i]!) (he:=aZ) ?_;refine br ?_;refine gN (fun hc1=>?_) fun hc1=>?_
  ·refine br ?_;refine fC ?_;rw[hr,CG ae hc1]
  refine br ?_;exact⟨i+1,⟨ae,by rw[hr,CH ae hc1]⟩,ae,(dS [])⟩
 refine aK ?_;refine fC ?_;rw[hr,z8 ae]
def So (Y:Ctx):Prop:=∀(l:List bF)(nm:aq),Y.pre 663 [.sl 2 (l.map bF.D),.str nm]/\Y.val 663 [.sl 2 (l.map bF.D),.str nm]=.int .i64 (findF l nm 0)
def Lu:aJ:=⟨2,3,[⟨2,none⟩],ct,(sq (r1 [gm dj] 2 0) (sq (r1 [gm s1,aO l0 (cs [100,101,102,97,117,108,116]),gm l1,eU 2 s0,eU 2 s1,cE 2 (.call 955 [l3,l4] [[.sl 2 [.a,.sl 1 [.a]]],[.a]]),cE 2 (tz l5 bL),fF l2 l6,gm l7] 2 8) .ret))⟩
def w816 {Y:Ctx}(hm:(Y.at 0).bz)(h955:SR Y)(l:List bF)(nm:aq)   :dV Y Lu (.bool (Nf l nm)) [.sl 2 (l.map bF.D),.str nm]:=by
 show bX _ _ _ [⟨_,_⟩,⟨_,_⟩,_] _;refine au ?_;refine bY ?_;refine ar (hc:=h955 _ _) ?_;refine aT ?_;exact b7 rfl
def SK (Y:Ctx):Prop:=∀(l:List bF)(nm:aq),Y.pre 816 [.sl 2 (l.map bF.D),.str nm]/\Y.val 816 [.sl 2 (l.map bF.D),.str nm]=.bool (Nf l nm)
def zo:aJ:=⟨2,3,[⟨2,none⟩],ct,(sq (r1 [gm dj] 2 0) (sq (r1 [gm s1,aO l0 (cs [100,101,102,97,117,108,116]),gm l1,eU 2 s0,eU 2 s1,cE 2 (.call 663 [l3,l4] [[.sl 2 [.a,.sl 1 [.a]]],[.a]]),cE 2 (tz l5 bL),fF l2 l6,gm l7] 2 8) .ret))⟩
def w449 {Y:Ctx}(hm:(Y.at 0).bz)(h663:So Y)(l:List bF)(nm:aq)   :dV Y zo (.bool (Nf l nm)) [.sl 2 (l.map bF.D),.str nm]:=by
 show bX _ _ _ [⟨_,_⟩,⟨_,_⟩,_] _;refine au ?_;refine bY ?_;refine ar (hc:=h663 _ _) ?_;refine aT ?_;exact b7 rfl
def R2 (Y:Ctx):Prop:=∀(l:List bF)(nm:aq),Y.pre 449 [.sl 2 (l.map bF.D),.str nm]/\Y.val 449 [.sl 2 (l.map bF.D),.str nm]=.bool (Nf l nm)
def Fh:aJ:=⟨1,8,[⟨1,none⟩,⟨2,none⟩,⟨3,none⟩],M8,(sq (rg [gm bL,gm cse,gm cse] [(1,0),(2,1),(3,2)]) (sq (sq (r1 [gm s0,gx 357 [l0] ct] 4 1) (.cond s4 (sq (rg [gm s0,gm ch,gm l0,gm cse] [(1,1),(2,2),(3,3)]) .ret) .skip)) (sq (sq (r1 [gm s0,oQ l0,dn l1 bL,gm l2,gmt 3 s0,cu 3 (.ixS l4 bL),cu 3 (cP l5 (i8 63)),fg l3 l6,gm l7,gmt 8 s0,cu 8 (.slS l9 (some ch) none),cu 8 (.call 357 [l10] ct),fg l8 gJ] 5 12) (.cond s5 (sq (rt [gm s0,gn (.slS l0 (some ch) none),gm jE,gm l1,gm cse] [(1,2),(2,3),(3,4)]) .ret) .skip)) (sq (r1 [gm s0,gx 470 [l0,(i8 47)] iB,gm l1] 6 2) (sq (sq (r1 [gm s6,gl l0,aO l1 jE,gm l2,gmt 3 s6,cu 3 (.ia 1 l4 bL),kd 3 l5,cu 3 (.call 216 [l6] ct),fg l3 l7,gm l8,gmt 9 s6,cu 9 (.ia 1 l10 ch),kd 9 gJ,cu 9 (.call 357 [iM] ct),fg l9 jN] 7 14) (.cond s7 (sq (rt [gm s6,ga 1 l0 bL,gd l1,gm s6,ga 1 l3 ch,gd l4,gm jL,gm l2,gm l5] [(1,6),(2,7),(3,8)]) .ret) .skip)) (sq (rg [gm bL,gm cse,gm cse] [(1,0),(2,1),(3,2)]) .ret))))))⟩
def w672 {Y:Ctx}(hm:(Y.at 0).bz)(h216:Jn Y)(h357:Ek Y)(h470:xe Y)(s:aq)  (hp0:s.length<=1048576):dV Y Fh (.tup [.int .i64 (cU s).1,.str (cU s).2.1,.str (cU s).2.2]) [.str s]:=by
 show bX _ _ _ [⟨_,_⟩,_,_,_,_,_,_,_] _;refine au ?_;refine br ?_;refine ar (hc:=h357 _) ?_;refine aE ?_;refine cT (fun hc0=>?_) fun hc0=>?_
 ·refine bY ?_;refine b8 (e7 (ak (D.int .i64) ?_) (ak D.str ?_) (ak D.str ?_));all_goals rw[Gn hc0]
 refine aT ?_;intro u0;refine aB ?_;refine px 0 ?_;refine aG ?_;refine fe 1 (hb:=fun h=>by simp at h;omega) ?_;refine ar (hc:=h357 _) ?_;refine aA ?_;refine cT (fun hc1=>?_) fun hc1=>?_
 ·refine aB ?_;refine fe 1 (hb:=fun h=>ae) ?_;refine aT ?_;refine b8 (e7 (ak (D.int .i64) ?_) (ak D.str ?_) (ak D.str ?_));all_goals rw[Gp hc0 hc1]
 refine aB ?_;refine ar (hc:=h470 _ _ ?_) ?_;rotate_left;first|assumption|omega
 refine aK ?_;intro u1;refine aB ?_;refine cg 0 ?_;refine aE ?_;refine ar (hc:=h216 _) ?_;refine aB ?_;refine cg 1 ?_;refine aE ?_;refine ar (hc:=h357 _) ?_;refine aA ?_;refine cT (fun hc2=>?_) fun hc2=>?_
 ·refine aB ?_;refine cg 0 ?_;refine aA ?_;refine cg 1 ?_;refine aK ?_;refine b8 (e7 (ak (D.int .i64) ?_) (ak D.str ?_) (ak D.str ?_));all_goals rw[Gq hc0 hc1 hc2]
 refine br ?_;refine b8 (e7 (ak (D.int .i64) ?_) (ak D.str ?_) (ak D.str ?_));all_goals rw[Gm hc0 hc1 hc2]
def Pr (Y:Ctx):Prop:=∀(s:aq),(s.length<=1048576)->Y.pre 672 [.str s]/\Y.val 672 [.str s]=.tup [.int .i64 (cU s).1,.str (cU s).2.1,.str (cU s).2.2]
def Dw:aJ:=⟨2,9,[⟨2,none⟩],ct,(sq (r1 [gm dj] 2 0) (sq (sq (r1 [gm s1,gl l0,dn l1 uv,gm l2,eU 3 s1,cE 3 (.call 815 [l4] [[.sl 1 [.a]]]),cE 3 (.un .not l5),fF l3 l6] 3 7) (.cond s3 (sq (r1 [gm dj] 2 0) .ret) .skip)) (sq (sq (r1 [gm bL] 4 0) (.block 0 (.loop (sq (sq (r1 [gm s4,gm s1,gl l1,a8 l0 l2] 5 3) (fY s5 0)) (sq (.block 1 (sq (rg [gm s1,gm s4,ga 1 l0 l1,gd l2,gx 672 [l3] ct,gm l4,ge l5 0,ge l5 1,ge l5 2,gm l6,gm l7,gm l8] [(6,9),(7,10)]) (sq (r1 [gm s6,aO l0 bL,gm l1,eU 2 s6,cE 2 (cP l3 ch),eU 2 l4,gmt 5 s0,gmt 5 s7,cu 5 (.call 816 [l6,l7] [[.sl 2 [.a,.sl 1 [.a]]],[.a]]),cu 5 (.un .not l8),Bo 2 l5 l9,fF l2 l10] 8 11) (.cond s8 (sq (r1 [gm dj] 2 0) .ret) .skip)))) (r1 [gm s4,ay l0 ch,gm l1] 4 2)))))) (sq (r1 [gm ou] 2 0) .ret))))⟩
def w671 {Y:Ctx}(hm:(Y.at 0).bz)(h672:Pr Y)(h815:Pw Y)(h816:SK Y)(l:List bF)(of:List aq)  (hp0:∀t∈of,t.length<=1048576):dV Y Dw (.bool (kO l of)) [.sl 2 (l.map bF.D),.sl 1 (of.map D.str)]:=by
 show bX _ _ _ [⟨_,_⟩,⟨_,_⟩,_,_,_,_,_,_,_] _;refine au ?_;refine aK ?_;intro u0;refine aB ?_;refine ar (hc:=h815 _) ?_;refine aB ?_;refine aw (fun hc0=>?_) (fun hc0=>?_)
 ·simp only[cR,aS,bn]at hc0;refine aT ?_;refine b7 ?_;symm;simp only[kO];rcases hc0 with h|h
  ·rw[cJ ae];rfl
  ·rw[h,Bool.and_false];rfl
 simp only[c9,bj,bP]at hc0;refine aT ?_;have hb:kO l of=cO (fun i=>iL l of[i]!) 0 of.length:=by simp only[kO,hc0.2];rw[bS ae];rfl
 refine bw hm (ι:=Nat) (fun i=>[⟨true,.sl 2 (l.map bF.D)⟩,⟨true,.sl 1 (of.map D.str)⟩,.un,.un,⟨true,.int .i64 (i:Nat)⟩,.un,.un,.un,.un]) (fun i=>[]) 10 (fun i=>i<=of.length/\kO l of=cO (fun i=>iL l of[i]!) i of.length) (fun i=>of.length-i) 0 ⟨ae,hb⟩ (dS []) ?_;rintro i ⟨hi,hr⟩;refine aT ?_;intro u1;refine aA ?_;refine cT (fun hc1=>?_) fun hc1=>?_
 ·refine br ?_;refine ar (hc:=h672 of[i]! (hp0 _ (bM ae))) ?_;refine ze ?_;refine ar (hc:=h816 _ _) ?_;refine aG ?_;refine wp_cond (fun hc2=>?_) (fun hc2=>?_)
  ·have hz:iL l of[i]! =false:=by simp only[iL,hc2];rfl
   refine aK ?_;refine b7 ?_;rw[hr,aX ae,hz];rfl
  have hz:iL l of[i]! =true:=by simp only[iL,hc2];rfl
  refine bY ?_;exact⟨i+1,⟨ae,by rw[hr,aX ae,hz];rfl⟩,ae,(dS [])⟩
 refine aK ?_;refine b7 ?_;rw[hr,cj ae]
def Ss (Y:Ctx):Prop:=∀(l:List bF)(of:List aq),(∀t∈of,t.length<=1048576)->Y.pre 671 [.sl 2 (l.map bF.D),.sl 1 (of.map D.str)]/\Y.val 671 [.sl 2 (l.map bF.D),.sl 1 (of.map D.str)]=.bool (kO l of)
def Iy:aJ:=⟨1,6,jh,ct,(sq (r1 [gm dj] 1 0) (sq (sq (r1 [gm s0,gl l0,dn l1 EI] 2 2) (nH s2 dj)) (sq (sq (r1 [gm bL] 3 0) (.block 0 (.loop (sq (sq (r1 [gm s3,gm s0,gl l1,a8 l0 l2] 4 3) (fY s4 0)) (sq (.block 1 (sq (r2 [gm s0,gm s3,ga 2 l0 l1,gf 0 l2,gd l3,gx 357 [l4] ct,ke l5,gm l6,eU 7 s3,cE 7 (eF l8 bL),eU 7 l9,gmt 10 s0,gmt 10 s3,cu 10 (kq iM ch),cu 10 (.ia 2 gJ jN),mP 10 0 ku,kd 10 lx,gmt 10 s0,gmt 10 s3,cu 10 (.ia 2 pV qu),mP 10 0 sn,kd 10 wv,cu 10 (tz n9 zg),Bo 7 l10 Ak,fF l7 Ee,gm Ef,eU 25 s0,eU 25 s0,eU 25 s3,cE 25 (.ia 2 Kn Np),jK 25 1 Nq,jQ 25 Qp,cE 25 (.call 671 [Jc,Rh] [[.sl 2 [.a,.sl 1 [.a]]],[.sl 1 [.a]]]),cE 25 (.un .not Ri),fF EL l33] 5 34) (nH s5 dj))) (r1 [gm s3,ay l0 ch,gm l1] 3 2)))))) (xN ou))))⟩
def w459 {Y:Ctx}(hm:(Y.at 0).bz)(h357:Ek Y)(h671:Ss Y)(l:List bF)  (hp0:pP l):dV Y Iy (.bool (gp l)) [.sl 2 (l.map bF.D)]:=by
 show bX _ _ _ [⟨_,_⟩,_,_,_,_,_] _;refine au ?_;refine aK ?_;intro u0;refine aA ?_;refine cT (fun hc0=>?_) fun hc0=>?_
 ·refine aT ?_;refine b7 ?_;symm;simp only[gp];rw[cJ ae];rfl
 refine aT ?_;have hb:gp l=cO (jI l) 0 l.length:=by simp only[gp];rw[bS ae];rfl
 refine bw hm (ι:=Nat) (fun i=>[⟨true,.sl 2 (l.map bF.D)⟩,.un,.un,⟨true,.int .i64 (i:Nat)⟩,.un,.un]) (fun i=>[]) 5 (fun i=>i<=l.length/\gp l=cO (jI l) i l.length) (fun i=>l.length-i) 0 ⟨ae,hb⟩ (dS []) ?_;rintro i ⟨hi,hr⟩;refine aT ?_;intro u1;refine aA ?_;refine cT (fun hc1=>?_) fun hc1=>?_
 ·refine bY ?_;refine ar (hc:=h357 _) ?_;refine bY ?_;refine cg (i-1) ?_;refine ze ?_;refine ar (hc:=h671 l l[i]!.of (hp0 _ (bM ae)).2.2) ?_;refine aB ?_;refine gN (fun hc2=>?_) fun hc2=>?_
  ·refine aK ?_;refine b7 ?_;have hz:jI l i=false:=by
    simp only[jI];revert hc2;generalize cC l[i]!.name=z0;generalize Op.bytesLess l[i-1]!.name l[i]!.name=z1;generalize kO l l[i]!.of=z2;by_cases e0:0<i<;>cases z0<;>cases z1<;>cases z2<;>simp_all
   rw[hr,aX ae,hz];rfl
  refine bY ?_;have hz:jI l i=true:=by
   simp only[jI];revert hc2;generalize cC l[i]!.name=z0;generalize Op.bytesLess l[i-1]!.name l[i]!.name=z1;generalize kO l l[i]!.of=z2;by_cases e0:0<i<;>cases z0<;>cases z1<;>cases z2<;>simp_all
  exact⟨i+1,⟨ae,by rw[hr,aX ae,hz];rfl⟩,ae,(dS [])⟩
 refine aK ?_;refine b7 ?_;rw[hr,cj ae]
def R7 (Y:Ctx):Prop:=∀(l:List bF),(pP l)->Y.pre 459 [.sl 2 (l.map bF.D)]/\Y.val 459 [.sl 2 (l.map bF.D)]=.bool (gp l)
def Bl:aJ:=⟨1,12,[⟨1,none⟩,⟨2,none⟩,⟨3,none⟩],M8,(sq (rg [gm bL,gm cse,gm cse] [(1,0),(2,1),(3,2)]) (sq (sq (r1 [gm s0,gx 349 [l0] ct] 4 1) (.cond s4 (sq (rg [gm s0,gm ch,gm l0,gm cse] [(1,1),(2,2),(3,3)]) .ret) .skip)) (sq (sq (rg [gm s0,gx 254 [l0,(cs [63])] iB,gm l1,ge l2 0,ge l2 1,gm l3,gm l4] [(6,5),(5,6)]) (sq (r1 [gm s5,gm l0,gmt 1 s6,cu 1 (.call 349 [l2] ct),fg l1 l3] 7 4) (.cond s7 (sq (rg [gm s6,gm jE,gm l0,gm cse] [(1,1),(2,2),(3,3)]) .ret) .skip))) (sq (sq (rg [gm s0,gx 487 [l0,(cs [47])] iB,gm l1,ge l2 0,ge l2 1,ge l2 2,gm l3,gm l4,gm l5] [(9,6),(10,7),(8,8)]) (sq (r1 [gm s8,gm l0,gmt 1 s9,cu 1 (.call 208 [l2] ct),fg l1 l3,gm l4,gmt 5 kZ,cu 5 (.call 349 [l6] ct),fg l5 l7] 11 8) (.cond nQ (sq (rg [gm s9,gm kZ,gm jL,gm l0,gm l1] [(1,2),(2,3),(3,4)]) .ret) .skip))) (sq (rg [gm bL,gm cse,gm cse] [(1,0),(2,1),(3,2)]) .ret)))))⟩
def w448 {Y:Ctx}(hm:(Y.at 0).bz)(h208:Mi Y)(h254:RR Y)(h349:Ej Y)(h487:Sg Y)(s:aq)  (hp0:s.length<=1048576):dV Y Bl (.tup [.int .i64 (cU s).1,.str (cU s).2.1,.str (cU s).2.2]) [.str s]:=by
 show bX _ _ _ [⟨_,_⟩,_,_,_,_,_,_,_,_,_,_,_] _;refine au ?_;refine br ?_;refine ar (hc:=h349 _) ?_;refine aE ?_;refine cT (fun hc0=>?_) fun hc0=>?_
 ·refine bY ?_;refine b8 (e7 (ak (D.int .i64) ?_) (ak D.str ?_) (ak D.str ?_));all_goals rw[Gn hc0]
 refine aG ?_;refine ar (hc:=h254 s [63] hp0 aF) ?_;refine hE ?_;refine ar (hc:=h349 _) ?_;refine aA ?_;refine cT (fun hc1=>?_) fun hc1=>?_
 ·refine bY ?_;refine b8 (e7 (ak (D.int .i64) ?_) (ak D.str ?_) (ak D.str ?_));all_goals rw[Ni hc0 hc1]
 refine aG ?_;refine ar (hc:=h487 s 47 hp0) ?_;refine mO ?_;refine ar (hc:=h208 _) ?_;refine aB ?_;refine ar (hc:=h349 _) ?_;refine aA ?_;refine cT (fun hc2=>?_) fun hc2=>?_
 ·refine dE ?_;refine b8 (e7 (ak (D.int .i64) ?_) (ak D.str ?_) (ak D.str ?_));all_goals rw[Nj hc0 hc1 hc2]
 refine br ?_;refine b8 (e7 (ak (D.int .i64) ?_) (ak D.str ?_) (ak D.str ?_));all_goals rw[Nh hc0 hc1 hc2]
def O5 (Y:Ctx):Prop:=∀(s:aq),(s.length<=1048576)->Y.pre 448 [.str s]/\Y.val 448 [.str s]=.tup [.int .i64 (cU s).1,.str (cU s).2.1,.str (cU s).2.2]
def CF:aJ:=⟨1,18,jh,ct,(sq (r1 [gm dj] 1 0) (sq (sq (r1 [gm s0,gl l0,dn l1 EI] 2 2) (nH s2 dj)) (sq (sq (rg [gm s0,gl l0,gm bL] [(6,0),(4,1),(3,2)]) (.block 0 (.loop (sq (r1 [a8 s3 s4] 5 0) (sq (fY s5 0) (sq (.block 1 (sq (rg [gm s3,ga 2 s6 s3,gk 2 true l1,gb 2 (.c (.agg [.str [],.aC])),gm l0,gt 2 l3 l2] [(7,3),(8,4)]) (sq (sq (r2 [gf 0 s7,gd l0,gx 349 [l1] ct,ke l2,gm l3,eU 4 s8,cE 4 (eF l5 bL),eU 4 l6,gmt 7 s0,gmt 7 s8,cu 7 (kq l9 ch),cu 7 (.ia 2 l8 l10),mP 7 0 gJ,kd 7 iM,mP 7 0 s7,kd 7 ku,cu 7 (tz jN lx),Bo 4 l7 n9,fF l4 pV,gm qu,jK 19 1 s7,jQ 19 wv,cE 19 (.len zg),cE 19 (eF Ak uv),fF sn Ee,gm Ef,jK 25 1 s7,jQ 25 Jc,cE 25 (.call 447 [Kn] [[.sl 1 [.a]]]),cE 25 (.un .not Np),fF EL Nq] 9 30) (nH s9 dj)) (sq (rg [gf 1 s7,gd l0,gl l1,gm bL] [(13,1),(11,2),(10,3)]) (.block 2 (.loop (sq (r1 [a8 kZ nQ] 12 0) (sq (fY mQ 2) (sq (.block 3 (sq (r1 [ga 1 rv kZ,gd l0,gm l1] 14 2) (sq (rg [gm r8,gx 448 [l0] ct,gm l1,ge l2 0,ge l2 1,ge l2 2,gm l3,gm l4,gm l5] [(15,6),(16,7)]) (sq (r1 [gm wD,aO l0 bL,gm l1,eU 2 wD,cE 2 (cP l3 ch),eU 2 l4,gmt 5 s0,gmt 5 DN,cu 5 (.call 449 [l6,l7] [[.sl 2 [.a,.sl 1 [.a]]],[.a]]),cu 5 (.un .not l8),Bo 2 l5 l9,fF l2 l10] 17 11) (nH BY dj))))) (r1 [ay kZ ch,gm l0] 10 1)))))))))) (r1 [ay s3 ch,gm l0] 3 1))))))) (xN ou))))⟩
def w213 {Y:Ctx}(hm:(Y.at 0).bz)(h349:Ej Y)(h447:R1 Y)(h448:O5 Y)(h449:R2 Y)(l:List bF)  (hp0:pP l):dV Y CF (.bool (gp l)) [.sl 2 (l.map bF.D)]:=by
 show bX _ _ _ [⟨_,_⟩,_,_,_,_,_,_,_,_,_,_,_,_,_,_,_,_,_] _;refine au ?_;refine aK ?_;intro u0;refine aA ?_;refine cT (fun hc0=>?_) fun hc0=>?_
 ·refine aT ?_;refine b7 ?_;symm;simp only[gp];rw[cJ ae];rfl
 refine aT ?_;intro u1;refine aA ?_;have hb:gp l=cO (jI l) 0 l.length:=by simp only[gp];rw[bS ae];rfl
 refine bw hm (ι:=Nat) (fun i=>[⟨true,.sl 2 (l.map bF.D)⟩,.un,.un,⟨true,.int .i64 (i:Nat)⟩,⟨true,.int .i64 (l.length:Nat)⟩,.un,⟨true,.sl 2 (l.map bF.D)⟩,.un,.un,.un,.un,.un,.un,.un,.un,.un,.un,.un]) (fun i=>[]) 7 (fun i=>i<=l.length/\gp l=cO (jI l) i l.length) (fun i=>l.length-i) 0 ⟨ae,hb⟩ (dS []) ?_;rintro i ⟨hi,hr⟩;refine aB ?_;refine cT (fun hc1=>?_) fun hc1=>?_
 ·refine aT ?_;first|refine cb (v:=(bF.D _)) ?_|refine fk (v:=(bF.D _)) ?_
  refine aA ?_;refine aR (bF.D l[i]!) (he:=aZ) ?_;refine aT ?_;refine ar (hc:=h349 _) ?_;refine bY ?_;refine cg (i-1) ?_;refine iG ?_;refine js ?_;refine aT ?_;refine ar (hc:=h447 _) ?_;refine aB ?_;refine aw (fun hc2=>?_) (fun hc2=>?_)
  ·have hfo:=HC hc2;refine br ?_;refine b7 ?_;rw[hr,aX ae,hfo];rfl
  have hfo:=HD hc2;refine aT ?_;intro u2;refine aA ?_;refine p8 hm (ι:=Nat) (fun j=>[⟨true,.sl 2 (l.map bF.D)⟩,.un,.un,⟨true,.int .i64 (i:Nat)⟩,⟨true,.int .i64 (l.length:Nat)⟩,.un,⟨true,.sl 2 (l.map bF.D)⟩,.un,.un,.un,⟨true,.int .i64 (j:Nat)⟩,⟨true,.int .i64 (l[i]!.of.length:Nat)⟩,.un,⟨true,.sl 1 (l[i]!.of.map D.str)⟩,.un,.un,.un,.un]) (fun j=>[]) 49 (fun j=>j<=l[i]!.of.length/\jI l i=cO (fun j=>iL l l[i]!.of[j]!) j l[i]!.of.length) (fun j=>l[i]!.of.length-j) 0 ⟨ae,hfo⟩ (dS []) ?_;rintro j ⟨hj,hjr⟩;refine aB ?_;refine cT (fun hc3=>?_) fun hc3=>?_
  ·refine dE ?_;refine ar (hc:=h448 l[i]!.of[j]! ((hp0 _ (bM ae)).2.2 _ (bM ae))) ?_;refine ze ?_;refine ar (hc:=h449 _ _) ?_;refine aG ?_;refine wp_cond (fun hc4=>?_) (fun hc4=>?_)
   ·have hz:iL l l[i]!.of[j]! =false:=by simp only[iL,hc4];rfl
    refine bY ?_;refine b7 ?_;rw[hr,aX ae,hjr,aX ae,hz];rfl
   have hz:iL l l[i]!.of[j]! =true:=by simp only[iL,hc4];rfl
   refine br ?_;exact⟨j+1,⟨ae,by rw[hjr,aX ae,hz];rfl⟩,ae,(dS [])⟩
  refine bY ?_;exact⟨i+1,⟨ae,by rw[hr,aX ae,hjr,cj ae];rfl⟩,ae,(dS [])⟩
 refine aK ?_;refine b7 ?_;rw[hr,cj ae]
def RG (Y:Ctx):Prop:=∀(l:List bF),(pP l)->Y.pre 213 [.sl 2 (l.map bF.D)]/\Y.val 213 [.sl 2 (l.map bF.D)]=.bool (gp l)
end Go.Abs
