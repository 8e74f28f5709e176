/- A part of the proofs. -/
import Derived.Test.YtdhangmdmdegpaaGreatDoorP06
set_option linter.all false
set_option maxRecDepth 60000
set_option maxHeartbeats 2000000
namespace Go.Abs
variable(T:Θ->Abs.D->Prop)(Z:Ctx)(y:cu){c l:Δ}{nm ft:aw}{w:bP}{r:Rec}(n:Nat)(shop:Β){es:ω}{α:Type}(ns:Ψ){j nx:Nat}{env rs:Φ}(x:Υ){cm:Ξ}(us:Η){t:pI}(a:Μ){row:fS}
variable {Y:Ctx}(hm:(Y.at 0).bU)
def aeF {l:Α}{k:Key}(i:Nat)(h:i<=l.length):i<=FJ l k i/\FJ l k i<=l.length:=by
 unfold FJ;have:=(List.takeWhile_sublist (l:=l.drop i) (p:=λx=>fj x k)).length_le;rw[jS]at this;omega
def DX (l:Α)(k:Key):(sT l k=l/\k∈l)\/((sT l k).length=l.length+1/\∀x,x∈sT l k↔x∈l\/x=k):=by
 have hk:=(aeF (l:=l) (k:=k) 0 (Nat.zero_le _)).2;unfold sT;split
 .rename_i h;exact .inl ⟨rfl,h.2▸aq h.1⟩
 .refine .inr ⟨fM,λx=>?_⟩;have:x∈l↔x∈l.take (FJ l k 0)\/x∈l.drop (FJ l k 0):=by
   rw[<-List.mem_append,List.take_append_drop]
  simp only[List.mem_append,aF];rw[this];constructor
  .rintro((h|h)|h)<;>simp[h]
  .rintro((h|h)|h)<;>simp[h]
def IQ (s:pI)(a:jv):(∀x,x∈(mI s a).all↔x∈s.all\/x=a.k)/\(∀x,x∈s.todo->x∈(mI s a).todo)/\(∀x∈(mI s a).todo,x∈s.todo\/x=a.k)/\(∀x∈(mI s a).all,x∈s.all\/x∈(mI s a).todo)/\s.all.length<=(mI s a).all.length/\(mI s a).all.length+s.todo.length=s.all.length+(mI s a).todo.length:=by
 unfold mI;rcases DX s.all a.k with⟨h1,h2⟩|⟨h1,h2⟩
 .rw[ah (by rw[h1];omega)];exact⟨λx=>⟨.inl,λh=>h.elim id λe=>e▸h2⟩,λ_ h=>h,λ_ h=>.inl h,λ_ h=>.inl h,aR _,rfl⟩
 .rw[ak ae];refine⟨h2,λx h=>List.mem_append_left _ h,λx h=>rJ,λx h=>?_,rL,amJ⟩;rcases(h2 x).1 h with h|rfl
  .exact .inl h
  .exact .inr aJ
structure vl (s t:pI):Prop where
 all:∀x∈s.all,x∈t.all
 todo:∀x∈s.todo,x∈t.todo
 back:∀x∈t.all,x∈s.all\/x∈t.todo
 inn:∀x∈t.todo,x∈s.todo\/x∈t.all
 len:t.all.length+s.todo.length=s.all.length+t.todo.length
 grow:s.all.length<=t.all.length
def vl.N6 (s:pI):vl s s:=⟨λ_ h=>h,λ_ h=>h,λ_ h=>.inl h,λ_ h=>.inl h,rfl,aR _⟩
def vl.tr {a b c:pI}(h1:vl a b)(h2:vl b c):vl a c:=by
 refine⟨λx h=>h2.all x (h1.all x h),λx h=>h2.todo x (h1.todo x h),λx h=>?_,λx h=>?_,by have:=h1.len;have:=h2.len;omega,fC h1.grow h2.grow⟩
 .rcases h2.back x h with h|h
  .exact(h1.back x h).imp id (h2.todo x)
  .exact .inr h
 .rcases h2.inn x h with h|h
  .exact(h1.inn x h).imp id (h2.all x)
  .exact .inr h
def afq (s:pI)(a:jv):vl s (mI s a)/\a.k∈(mI s a).all:=by
 obtain⟨h1,h2,h3,h4,h5,h6⟩:=IQ s a;exact⟨⟨λx h=>(h1 x).2 (.inl h),h2,h4,λx h=>(h3 x h).imp id λe=>(h1 x).2 (.inr e),h6,h5⟩,(h1 _).2 (.inr rfl)⟩
def Tt:∀(row:fS) (s:pI),vl s (row.foldl mI s)/\∀a∈row,a.k∈(row.foldl mI s).all
 |[],s=>⟨.N6 s,λa h=>cb⟩
 |b::r,s=>by
  obtain⟨h1,h2⟩:=afq s b;obtain⟨h3,h4⟩:=Tt r (mI s b);refine⟨h1.tr h3,λa ha=>?_⟩;rcases bH.1 ha with rfl|ha
  .exact h3.all _ h2
  .exact h4 a ha
def Tv:∀(l:ο) (s:pI),vl s (Qo s l)/\∀row∈l,∀a∈row,a.k∈(Qo s l).all
 |[],s=>⟨.N6 s,λa h=>cb⟩
 |b::r,s=>by
  obtain⟨h1,h2⟩:=Tt b s;obtain⟨h3,h4⟩:=Tv r (b.foldl mI s);refine⟨h1.tr h3,λrow hr=>?_⟩;rcases bH.1 hr with rfl|hr
  .exact λa ha=>h3.all _ (h2 a ha)
  .exact h4 row hr
structure Uv (y:cu)(s:pI):Prop where
 zero:eV∈s.all
 inn:∀x∈s.todo,x∈s.all
 done:∀x∈s.all,x∉s.todo->∀row∈cJ y x,∀a∈row,a.k∈s.all
 len:s.todo.length<=s.all.length/\s.all.length<=48
def aaK:Uv y nM:=⟨by simp[nM],λx h=>h,λx h h2=>absurd h h2,by simp[nM]⟩
def Tw {s:pI}(h:0<s.todo.length):vl ⟨s.all,s.todo.drop 1⟩ (BN y s)/\∀row∈cJ y s.todo[0]!,∀a∈row,a.k∈(BN y s).all:=Tv _ _
def aaO {y:cu}{s:pI}(hI:Uv y s)(h:0<s.todo.length)(h48:(BN y s).all.length<=48):Uv y (BN y s):=by
 obtain⟨h1,h2⟩:=Tw y h;have hd:∀x∈s.todo.drop 1,x∈s.todo:=λx hx=>List.mem_of_mem_drop hx
 have hc:s.todo=s.todo[0]! ::s.todo.drop 1:=by
  cases ht:s.todo with
  |nil=>rw[ht]at h;cases h
  |cons a r=>simp
 refine⟨h1.all _ hI.zero,λx hx=>?_,λx hx hn=>?_, ?_⟩
 .rcases h1.inn x hx with h3|h3
  .exact h1.all _ (hI.inn _ (hd x h3))
  .exact h3
 .rcases h1.back x hx with h3|h3
  .by_cases h4:x∈s.todo
   .rw[hc]at h4;rcases bH.1 h4 with h5|h5
    .rw[h5];exact h2
    .exact absurd (h1.todo _ h5) hn
   .exact λrow hr a ha=>h1.all _ (hI.done x h3 h4 row hr a ha)
  .exact absurd h3 hn
 .have:=h1.len;have:=hI.len;simp only[jS]at*
  omega
def Tu {y:cu}:∀(n:Nat){s:pI}{all:Α},Uv y s->BM y n s=some all->Uv y ⟨all,[]⟩
 |0,s,all,_,h=>by cases h
 |n+1,s,all,hI,h=>by
  rw[BM]at h;split at h
  .rename_i h0;obtain rfl:=aZ h;have:s.todo=[]:=ab0.1 h0;exact⟨hI.zero,λx h=>cb,λx hx _=>hI.done x hx (by rw[this];simp),⟨Nat.zero_le _,hI.len.2⟩⟩
  .split at h
   .cases h
   .rename_i h0 h1;exact Tu n (aaO hI ae ae) h
def oL {y:cu}{all:Α}(h:mZ y=some all):eV∈all/\all.length<=48/\∀k∈all,∀row∈cJ y k,∀a∈row,a.k∈all:=by
 have:=Tu 49 (aaK y) h;exact⟨this.zero,this.len.2,λk hk=>this.done k hk aJ⟩
def jH {all:Α}{k:Key}(h:k∈all):0<=cz all k/\cz all k<all.length:=by
 unfold cz;rcases ew (f:=λx=>decide (x=k)) (l:=all) (k:=0)with⟨_,h2⟩|⟨j,h1,h2,_⟩
 .obtain⟨i,hi,e⟩:=ff h;have:=h2 i hi;rw[e]at this;simp at this
 .rw[h1];omega
def Qh (all:Α)(k:Key):cz all k=-1\/∃j:Nat,cz all k=(j:Int)/\j<all.length:=by
 unfold cz;rcases ew (f:=λx=>decide (x=k)) (l:=all) (k:=0)with⟨h,_⟩|⟨j,h1,h2,_⟩
 .exact .inl h
 .exact .inr ⟨j,by rw[h1];omega,h2⟩
def CA (r:Rec):Prop:=Gr r/\gM r
def rA (s:aw):eY s∈hR:=by
 unfold eY;refine aq ?_;rcases ew (f:=λt=>decide (t=s)) (l:=kr) (k:=0)with⟨h,_⟩|⟨j,h,h2,_⟩
 .rw[h];decide
 .rw[h];have:kr.length=8:=rfl;have:hR.length=8:=rfl;omega
def Oi:∀s∈hR,wL s=true:=by decide+kernel
def G2:∀s∈hR,(s.rel.length<=2/\s.pr.length<=2)/\(∀x∈s.rel,(x.f.v.pre.length<=3/\x.f.v.build.length<=3)/\x.t.v.pre.length<=3/\x.t.v.build.length<=3)/\∀x∈s.pr,(x.f.v.pre.length<=3/\x.f.v.build.length<=3)/\x.t.v.pre.length<=3/\x.t.v.build.length<=3:=by decide+kernel
def afF (s:aw):wL (eY s)=true:=Oi _ (rA s)
def afG (s:aw):(eY s).sm:=by
 obtain⟨_,h1,h2⟩:=G2 _ (rA s);constructor
 .intro x hx;obtain⟨a,b⟩:=h1 x hx;exact⟨⟨ae,ae⟩,ae,ae⟩
 .intro x hx;obtain⟨a,b⟩:=h2 x hx;exact⟨⟨ae,ae⟩,ae,ae⟩
def oT (x:cP):0<(fw x).length/\(fw x).length<=x.feats.length+1:=by
 unfold fw;rw[cx,bj];split
 .split
  .rename_i h;rw[h];simp
  .rename_i h;have:=List.length_pos_iff.2 h;simp only[cj];omega
 .simp only[List.length_singleton];omega
def xb (n:bn):Prop:=(0<n.any.length/\n.any.length<=3)/\∀w∈n.any,w.feats.length<=6
def tY {n:bn}(h:xb n):(0<(iQ n).length/\(iQ n).length<=7)/\∀r∈iQ n,0<r.length/\r.length<=3:=by
 obtain⟨⟨h0,h1⟩,h2⟩:=h;unfold iQ;split
 .have h3:=oT n.any[0]!;have h4:=h2 _ (aq h0);rw[bj];refine⟨ae,λr hr=>?_⟩;obtain⟨k,_,rfl⟩:=bI.1 hr;simp
 .refine⟨aJ,λr hr=>?_⟩;rw[aF.1 hr,bj];exact⟨h0,h1⟩
def iB {α β:Type}{f:α->List β}{B:Nat}:∀{l:List α},(∀x∈l,(f x).length<=B)->(l.flatMap f).length<=B*l.length
 |[],_=>aJ
 |a::r,h=>by
  have h1:=h a (.head _);have h2:=iB (f:=f) (B:=B) (l:=r) λx hx=>h x (.tail _ hx)
  rw[List.flatMap_cons,cx,bJ,Nat.mul_succ];omega
def gH (h:CA r):r.needs.length<=8/\∀n∈r.needs,xb n:=by
 have hf:=tL h;refine⟨hf.ns,λn hn=>?_⟩;obtain⟨⟨_,⟨h1,h2⟩,hp⟩,_⟩:=h;have h0:(lT r).1=0:=by grind [eD]
 obtain⟨i,hi,rfl⟩:=ff hn;have h3:=qX h0 i hi;have h4:=(hf.n _ hn).1;refine⟨⟨?_,h4.1⟩,λw hw=>(h4.2 w hw).2.1⟩;unfold jM at h3;split at h3
 .cases h3
 .omega
def M7 {e:Env}{o:aw}{n:bn}(h:xb n):(BI e o n).length<=7/\∀r∈BI e o n,0<r.length/\r.length<=3:=by
 have:=tY h;unfold BI;split
 .exact⟨this.1.2,this.2⟩
 .exact⟨aJ,λr hr=>by cases hr⟩
def yc {ns:υ}{e:Env}{o:aw}(h:∀n∈ns,xb n):(rj ns e o).length<=7*ns.length/\∀r∈rj ns e o,0<r.length/\r.length<=3:=by
 refine⟨iB λn hn=>(M7 (h n hn)).1,λr hr=>?_⟩;obtain⟨n,hn,hr⟩:=List.mem_flatMap.1 hr;exact(M7 (h n hn)).2 r hr
def GN {e:Env}{n:bn}(h:xb n):(rT e nm ft n).length<=8/\∀r∈rT e nm ft n,0<r.length/\r.length<=3:=by
 have:=tY h;unfold rT;split
 .rw[cx,List.length_singleton];split
  .exact⟨aJ,λr hr=>by rw[rH]at hr;rw[aF.1 hr];simp⟩
  .refine⟨ae,λr hr=>?_⟩;rcases List.mem_append.1 hr with hr|hr
   .exact this.2 r hr
   .rw[aF.1 hr];simp
 .exact⟨aJ,λr hr=>by cases hr⟩
def zJ {ns:υ}{e:Env}(h:∀n∈ns,xb n):(ja ns e nm ft).length<=8*ns.length/\∀r∈ja ns e nm ft,0<r.length/\r.length<=3:=by
 refine⟨iB λn hn=>(GN (h n hn)).1,λr hr=>?_⟩;obtain⟨n,hn,hr⟩:=List.mem_flatMap.1 hr;exact(GN (h n hn)).2 r hr
def tM {e:Env}{s:aw}(h:CA r):(mD r e s).length<=64/\∀w∈mD r e s,0<w.length/\w.length<=3:=by
 obtain⟨h1,h2⟩:=gH h;unfold mD;split
 .exact⟨aJ,λw hw=>by rw[aF.1 hw];simp⟩
 .split
  .have:=yc (e:=e) (o:=(bN s).2.1) h2;exact⟨ae,this.2⟩
  .have:=zJ (e:=e) (nm:=(bN s).2.1) (ft:=(bN s).2.2) h2;exact⟨ae,this.2⟩
def x8 (h:CA r)(ft:aw):(vy r.feats ft).length<=6/\∀s∈vy r.feats ft,rS s:=by
 have hf:=tL h;unfold vy;split
 .exact⟨aJ,λs hs=>by cases hs⟩
 .rename_i h0;have hj:(findF r.feats ft 0).toNat<r.feats.length:=by
   unfold findF at h0⊢;rw[dN]at h0⊢;cases h1:r.feats.findIdx? (λx=>decide (x.name=ft))with
   |none=>rw[h1]at h0;exact absurd aX h0
   |some k=>
    have:=(List.findIdx?_eq_some_iff_getElem.1 h1).1;simp only[cG,Int.toNat_natCast];exact this
  have hm:=aq (l:=r.feats) hj;exact⟨(hf.f _ hm).2,λs hs=>jz.it h.2.2.2.2 _ hm _ hs⟩
def lU {e:Env}(h:CA r):(cL r e ft).length<=385/\∀w∈cL r e ft,0<w.length/\w.length<=3:=by
 obtain⟨h1,h2⟩:=gH h;unfold cL;split
 .have:=yc (e:=e) (o:=[]) h2;exact⟨ae,this.2⟩
 .have h3:=iB (f:=mD r e) (B:=64) (l:=vy r.feats ft) λs _=>(tM h).1
  have h4:=(x8 h ft).1;refine⟨Lz,λw hw=>?_⟩;rcases List.mem_append.1 hw with hw|hw
  .rw[aF.1 hw];simp
  .obtain⟨s,_,hs⟩:=List.mem_flatMap.1 hw;exact(tM h).2 w hs
def tZ {shop:Β}(h:ea shop=true){i:Nat}(hi:i<shop.length):gA shop[i]! =true:=by
 simp only[ea,aD,bw,zW]at h;exact(h.2 i (Nat.zero_le _) hi).1
def TJ {s:bz}(h:gA s=true):s.es.length<=64:=by
 simp only[gA,aD,aT]at h;exact h.1.2
def afL {s:bz}(h:gA s=true)(hs:∀x∈s.es,gM x.r):∀x∈s.es,CA x.r:=by
 intro x hx;obtain⟨i,hi,rfl⟩:=ff hx;simp only[gA,aD,bw,sy,aT]at h;have h1:=(h.2 i (Nat.zero_le _) hi).1.1;refine⟨mr ?_,hs _ hx⟩;unfold fJ at h1;split at h1
 .rename_i h2;exact absurd h1 h2
 .rename_i h2;exact Classical.not_not.1 h2
def abl (l:Β)(nm:aw):mK l nm=-1\/∃j:Nat,mK l nm=(j:Int)/\j<l.length:=by
 unfold mK;rcases ew (f:=Gu nm) (l:=l) (k:=0)with⟨h,_⟩|⟨j,h1,h2,_⟩
 .exact .inl h
 .exact .inr ⟨j,by rw[h1];omega,h2⟩
def Yy (l:Β)(nm:aw):gp (Dc nm) l 0=-1\/∃j:Nat,gp (Dc nm) l 0=(j:Int)/\j<l.length:=by
 rcases ew (f:=Dc nm) (l:=l) (k:=0)with⟨h,_⟩|⟨j,h1,h2,_⟩
 .exact .inl h
 .exact .inr ⟨j,by rw[h1];omega,h2⟩
def rl (l:φ)(nm:aw):k8 l nm=-1\/∃j:Nat,k8 l nm=(j:Int)/\j<l.length:=by
 unfold k8;rcases ew (f:=isM nm) (l:=l) (k:=0)with⟨h,_⟩|⟨j,h1,h2,_⟩
 .exact .inl h
 .exact .inr ⟨j,by rw[h1];omega,h2⟩
def ou {shop:Β}{pins:π}(h:(dy shop pins nm).2=0):ea shop=true/\∃j:Nat,(dy shop pins nm).1=(j:Int)/\j<shop.length:=by
 unfold dy at*
 split at h
 .cases h
 .rename_i h1;refine⟨by simpa using h1, ?_⟩;rw[ah h1];split at h
  .cases h
  .rename_i h2;rw[ah h2];split at h
   .rename_i h3;rw[ak h3];split at h
    .cases h
    .rename_i h4;rw[ah h4];exact(abl _ _).resolve_left ae
   .rename_i h3;rw[ah h3];split at h
    .cases h
    .rename_i h4;rw[ah h4];exact(Yy _ _).resolve_left ae
def YR (es:ω)(l:Δ)(i:Nat):(Dn es l i).length=l.length+1:=by
 unfold Dn;simp only[cx,eE,jS,bJ,cj];omega
def Dp {i:Nat}{x:Int}(h:x∈Dn es l i):x∈l\/x=(i:Int):=by
 unfold Dn at h;simp only[List.mem_append,aF]at h;rcases h with(h|h)|h
 .exact .inl (Fs h)
 .exact .inr h
 .exact .inl (List.mem_of_mem_drop h)
def xR (es:ω)(nm:aw):∀i,(eG es nm i).length<=i/\∀x∈eG es nm i,0<=x/\x<(i:Int)
 |0=>⟨aR _,λx h=>cb⟩
 |i+1=>by
  obtain⟨h1,h2⟩:=xR es nm i;rw[eG];split
  .refine⟨by rw[YR];omega,λx hx=>?_⟩;rcases Dp hx with h|h
   .have:=h2 x h;omega
   .omega
  .exact⟨ae,λx hx=>by have:=h2 x hx;omega⟩
def qk (s:bz)(nm:aw):(jk s nm).length<=64/\∀x∈jk s nm,0<=x/\x<(s.es.length:Int):=by
 unfold jk;cases h:gA s with
 |false=>exact⟨aJ,λx hx=>by simp at hx⟩
 |true=>
  rw[ah aJ];have h1:=TJ h;obtain⟨h2,h3⟩:=xR s.es nm s.es.length;exact⟨ae,h3⟩
theorem oA {y:cu}{nm:aw}{a:Nat}:∀(l:Δ),(gZ y nm a l).length<=l.length/\∀x∈gZ y nm a l,(∃i∈l,x.r=y.shop[a]!.es[i.toNat]!.r)/\x.sh=(a:Int)
 |[]=>⟨aR _,λx h=>cb⟩
 |i::r=>by
  obtain⟨h1,h2⟩:=oA (y:=y) (nm:=nm) (a:=a) r;rw[gZ];refine⟨?_,λx hx=>?_⟩
  .rw[cx,bJ];split<;>simp<;>omega
  .rcases List.mem_append.1 hx with hx|hx
   .split at hx
    .rw[aF.1 hx];exact⟨⟨i,.head _,rfl⟩,rfl⟩
    .cases hx
   .obtain⟨⟨j,h3,h4⟩,h5⟩:=h2 x hx;exact⟨⟨j,.tail _ h3,h4⟩,h5⟩
def p0:Prop:=(xc y.l/\fq y.shop)/\y.keeps.length<=1000/\(∀k∈y.keeps,k.v.sm)/\y.pins.length<=1000
def Cd {m:gI}(h:W3 m):CA m.r:=by
 obtain⟨⟨h1,h2⟩,_⟩:=h;refine⟨mr ?_,h2.1⟩;unfold kR at h1;split at h1
 .rename_i h3;exact absurd h1 h3
 .rename_i h3;exact Classical.not_not.1 h3
def look_ok {y:cu}(h:p0 y)(nm:aw):(dc y nm).length<=64/\∀x∈dc y nm,CA x.r/\(x.sh=-1\/∃j:Nat,x.sh=(j:Int)/\j<y.shop.length):=by
 obtain⟨⟨⟨m,hm,hM⟩,hs⟩,_⟩:=h;unfold dc;split
 .rename_i h0;refine⟨aJ,λx hx=>?_⟩;rw[aF.1 hx];refine⟨?_,.inl rfl⟩;obtain⟨j,hj,hjl⟩:=(rl y.l nm).resolve_left ae;rw[hj,Int.toNat_natCast];have:=aq hjl;rw[hm]at this⊢;rw[aF.1 this];exact Cd hM
 .split
  .exact⟨aJ,λx hx=>by cases hx⟩
  .rename_i h1;have h1:(cA y.shop y.pins nm).2.2=0:=Classical.not_not.1 h1;have h2:(dy y.shop y.pins nm).2=0:=by
    unfold cA at h1;split at h1
    .rename_i h3;exact absurd h1 h3
    .rename_i h3;exact Classical.not_not.1 h3
   obtain⟨hB,j,hj,hjl⟩:=ou h2;have e1:cA y.shop y.pins nm=((j:Int),jk y.shop[j]! nm,0):=by
    unfold cA;rw[ah (λh=>h h2),hj,Int.toNat_natCast]
   rw[e1];simp only[Int.toNat_natCast];obtain⟨h3,h4⟩:=qk y.shop[j]! nm;obtain⟨h5,h6⟩:=oA (y:=y) (nm:=nm) (a:=j) (jk y.shop[j]! nm);refine⟨ae,λx hx=>?_⟩;obtain⟨⟨i,hi,e⟩,hsh⟩:=h6 x hx;have:=h4 i hi;refine⟨?_,.inr ⟨j,hsh,hjl⟩⟩;rw[e];exact afL (tZ hB hjl) (hs _ (aq hjl)) _ (aq ae)
def x9 {y:cu}(h:p0 y)(k:Key):(ei y k).length<=64/\∀x∈ei y k,CA x.r/\(x.sh=-1\/∃j:Nat,x.sh=(j:Int)/\j<y.shop.length):=by
 obtain⟨h1,h2⟩:=look_ok h k.n;exact⟨fC (List.length_filter_le _ _) h1,λx hx=>h2 x (List.mem_filter.1 hx).1⟩
def Jd {y:cu}(h:p0 y):(eH y.l).length=1/\∀r∈eH y.l,r.length=1:=by
 obtain⟨⟨⟨m,hm,hM⟩,hs⟩,_⟩:=h;rw[hm];exact⟨rfl,λr hr=>by rw[aF.1 hr];rfl⟩
def aba {y:cu}(h:p0 y)(k:Key):(cJ y k).length<=25000/\∀r∈cJ y k,0<r.length/\r.length<=3:=by
 unfold cJ;split
 .obtain⟨h1,h2⟩:=Jd h;exact⟨ae,λr hr=>by have:=h2 r hr;omega⟩
 .obtain⟨h1,h2⟩:=x9 h k;have h3:=iB (f:=λx=>cL x.r y.e k.f) (B:=385) (l:=ei y k) λx hx=>(lU (h2 x hx).1).1
  refine⟨ae,λr hr=>?_⟩;obtain⟨x,hx,hr⟩:=List.mem_flatMap.1 hr;exact(lU (h2 x hx).1).2 r hr
def CB (v:b6)(l:ο):=∀r∈l,∀a∈r,a.s∈hR\/a.s=dS v
def Og {v:b6}{a b:ο}(h1:CB v a)(h2:CB v b):CB v (a++b):=λr hr=>(List.mem_append.1 hr).elim (h1 r) (h2 r)
def EB (v:b6):CB v []:=λr hr=>by cases hr
def zU {v:b6}{f:α->ο}{l:List α}(h:∀x∈l,CB v (f x)):CB v (l.flatMap f):=λr hr=>by
 obtain⟨x,hx,hr⟩:=List.mem_flatMap.1 hr;exact h x hx r hr
def EC {v:b6}{a:jv}(h:a.s∈hR\/a.s=dS v):CB v [[a]]:=λr hr b hb=>by
 rw[aF.1 hr]at hb;rw[aF.1 hb];exact h
def G0 (v:b6)(n:bn):CB v (iQ n):=by
 unfold iQ;split
 .intro r hr a ha;obtain⟨k,_,rfl⟩:=bI.1 hr;rw[aF.1 ha];exact .inl (rA _)
 .intro r hr a ha;rw[aF.1 hr]at ha;obtain⟨w,_,rfl⟩:=bI.1 ha;exact .inl (rA _)
def M8 (v:b6)(ns:υ)(e:Env)(o:aw):CB v (rj ns e o):=zU λn _=>by
 unfold BI;split
 .exact G0 v n
 .exact EB v
def VG (v:b6)(ns:υ)(e:Env)(nm ft:aw):CB v (ja ns e nm ft):=zU λn _=>by
 unfold rT;split
 .refine Og ?_ (EC (.inl (rA _)));split
  .exact EB v
  .exact G0 v n
 .exact EB v
def DK (r:Rec)(e:Env)(ft:aw):CB r.v (cL r e ft):=by
 unfold cL;split
 .exact M8 r.v _ _ _
 .refine Og (EC (.inr rfl)) (zU λs _=>?_);unfold mD;split
  .exact EC (.inr rfl)
  .split
   .exact M8 r.v _ _ _
   .exact VG r.v _ _ _ _
def G1 {s:cy}{v:b6}(hv:v.sm)(h:s∈hR\/s=dS v):s.sm:=by
 rcases h with h|rfl
 .obtain⟨_,h1,h2⟩:=G2 _ h;constructor
  .intro x hx;obtain⟨a,b⟩:=h1 x hx;exact⟨⟨ae,ae⟩,ae,ae⟩
  .intro x hx;obtain⟨a,b⟩:=h2 x hx;exact⟨⟨ae,ae⟩,ae,ae⟩
 .exact Gl hv
def oQ {all:Α}{l:ο}{r:mT}(h:r∈dr all l):∃q∈l,r=q.map λa=>⟨cz all a.k,a.s⟩:=by
 obtain⟨q,hq,rfl⟩:=bI.1 h;exact⟨q,hq,rfl⟩
def CndW (c:eI):Prop:=(c.sm/\c.needs.length<=24/\c.bars.length<=24)/\(∀r∈c.needs,(0<r.length/\r.length<=3)/\∀w∈r,0<=w.u/\w.u<(n:Int))/\∀w∈c.bars,0<=w.u/\w.u<(n:Int)
def F9 {all:Α}{e:Env}{w:Want}(h:w∈si all r e):(0<=w.u/\w.u<(all.length:Int))/\w.s∈hR:=by
 obtain⟨b,_,hb⟩:=List.mem_flatMap.1 h;unfold pJ at hb;split at hb
 .rename_i hc;rw[aF.1 hb];refine⟨⟨hc.1, ?_⟩,rA _⟩;obtain⟨j,hj,hjl⟩:=(Qh all ⟨b.name,[]⟩).resolve_left ae;show cz all ⟨b.name,[]⟩<_;omega
 .cases hb
def Sf {y:cu}{all:Α}{k:Key}{x:qM}(hx:CA x.r)(hcl:∀row∈cL x.r y.e k.f,∀a∈row,a.k∈all)(hw:oU (cS y all k x)=false):CndW all.length (cS y all k x):=by
 have h1:=DK x.r y.e k.f;have h2:=(lU (e:=y.e) (ft:=k.f) hx).2;have hv:x.r.v.sm:=hx.2.1.2;simp only[oU,eg,bR]at hw;refine⟨⟨⟨hv, ?_, ?_⟩,ae,ae⟩, ?_, ?_⟩
 .intro r hr w hwr;obtain⟨q,hq,rfl⟩:=oQ hr;obtain⟨a,ha,rfl⟩:=bI.1 hwr;exact G1 hv (h1 q hq a ha)
 .intro w hwb;have hwb:w∈(if k.f=[]then si all x.r y.e else []):=hwb;split at hwb
  .exact G1 hv (.inl (F9 hwb).2)
  .cases hwb
 .intro r hr;obtain⟨q,hq,rfl⟩:=oQ hr;rw[bj];refine⟨h2 q hq,λw hwr=>?_⟩;obtain⟨a,ha,rfl⟩:=bI.1 hwr;exact jH (hcl q hq a ha)
 .intro w hwb;have hwb:w∈(if k.f=[]then si all x.r y.e else []):=hwb;split at hwb
  .exact(F9 hwb).1
  .cases hwb
def ala (k:Key):(ei y k).length<=(dc y k.n).length:=List.length_filter_le _ _
def y6 {y:cu}{all:Α}{k:Key}(hy:p0 y)(hcl:∀row∈cJ y k,∀a∈row,a.k∈all)(h:(dW y all k).2=true):(dW y all k).1.length<=16/\∀c∈(dW y all k).1,CndW all.length c:=by
 unfold dW at*
 by_cases hk:k=eV
 .rw[ak hk];refine⟨aJ,λc hc=>?_⟩;rw[aF.1 hc];obtain⟨h1,h2⟩:=Jd hy;have hrow:cJ y k=eH y.l:=by unfold cJ;rw[ak hk]
  rw[hrow]at hcl;obtain⟨⟨⟨m,hm,hM⟩,_⟩,_⟩:=hy;refine⟨⟨⟨Ht, ?_,λw hw=>by cases hw⟩,by simp[dr,h1],aJ⟩, ?_,λw hw=>by cases hw⟩
  .intro r hr w hw;obtain⟨q,hq,rfl⟩:=oQ hr;rw[hm]at hq;rw[aF.1 hq]at hw;obtain⟨a,ha,rfl⟩:=bI.1 hw;rw[aF.1 ha];exact Gl (Cd hM).2.1.2
  .intro r hr;obtain⟨q,hq,rfl⟩:=oQ hr;have:=h2 q hq;rw[bj];refine⟨ae,λw hw=>?_⟩;obtain⟨a,ha,rfl⟩:=bI.1 hw;exact jH (hcl q hq a ha)
 .rw[ah hk]at h⊢;have hrow:cJ y k=(ei y k).flatMap λx=>cL x.r y.e k.f:=by unfold cJ;rw[ah hk]
  rw[hrow]at hcl;split at h
  .cases h
  .rename_i hw;rw[ah hw];have hle:(dc y k.n).length<=16:=by simpa using h
   have:=ala y k;refine⟨mb,λc hc=>?_⟩;have hcw:oU c=false:=by
    cases hq:oU c with
    |false=>rfl
    |true=>exact absurd (List.any_eq_true.2 ⟨c,hc,hq⟩) hw
   obtain⟨x,hx,rfl⟩:=bI.1 hc;exact Sf ((x9 hy k).2 x hx).1 (λrow hr a ha=>hcl row (List.mem_flatMap.2 ⟨x,hx,hr⟩) a ha) hcw
def TW {y:cu}{all:Α}:∀n,n<=all.length->(nT y all n).2=true->(nT y all n).1=(all.take n).map (oR y all)/\∀i,i<n->(dW y all all[i]!).2=true
 |0,_,_=>⟨rfl,λi h=>absurd h (Nat.not_lt_zero i)⟩
 |n+1,hn,h=>by
  rw[nT]at h⊢;cases h0:(nT y all n).2 with
  |false=>rw[h0,ah aJ]at h;rw[h0]at h;cases h
  |true=>
   rw[h0,ak rfl]at h;rw[ak rfl];obtain⟨h1,h2⟩:=TW n ae h0;have e:all.take (n+1)=all.take n++[all[n]!]:=by
    rw[List.take_add_one,List.getElem?_eq_getElem ae];simp[show n<all.length by omega]
   refine⟨by rw[h1,e,List.map_append];rfl,λi hi=>?_⟩;rcases dX i n with h3|h3
   .exact h2 i h3
   .obtain rfl:i=n:=ae;exact h
structure LF (w:bP):Prop where
 len:0<w.us.length/\w.us.length<=48
 u:∀u∈w.us,u.ar.length<=16/\∀c∈u.ar,CndW w.us.length c
def mO {y:cu}(hy:p0 y)(h:(az y).2=true):∃all,mZ y=some all/\(az y).1.us=all.map (oR y all)/\(∀i,i<all.length->(dW y all all[i]!).2=true)/\LF (az y).1:=by
 unfold az at*
 cases hr:mZ y with
 |none=>rw[hr]at h;cases h
 |some all=>
  rw[hr]at h;obtain⟨h1,h2⟩:=TW all.length (aR _) h;rw[List.take_length]at h1;obtain⟨r1,r2,r3⟩:=oL hr;refine⟨all,rfl,h1,h2, ?_⟩;have hl:(nT y all all.length).1.length=all.length:=by rw[h1,bj]
  refine⟨by show 0<(nT y all all.length).1.length/\(nT y all all.length).1.length<=48;rw[hl];exact⟨List.length_pos_of_mem r1,r2⟩, ?_⟩;show ∀u∈(nT y all all.length).1,u.ar.length<=16/\∀c∈u.ar,CndW (nT y all all.length).1.length c
  intro u hu;rw[h1]at hu;obtain⟨k,hk,rfl⟩:=bI.1 hu;rw[hl];obtain⟨i,hi,rfl⟩:=ff hk;exact y6 hy (r3 _ hk) (h2 i hi)
theorem LF.sm (h:LF w):w.sm:=λu hu=>⟨(h.u u hu).1,λc hc=>((h.u u hu).2 c hc).1.1⟩
def LF.few (h:LF w):Few w.us:=λu hu c hc=>by
 obtain⟨⟨_,h1,h2⟩,h3,_⟩:=(h.u u hu).2 c hc;exact⟨ae,ae,λr hr=>by have:=(h3 r hr).1;omega⟩
def LF.msk (h:LF w):xa (dG w.us):=by
 obtain⟨hpos,hU⟩:=h;have hn:(dG w.us).needs.length=w.us.length:=by simp[dG,eM]
 have hb:(dG w.us).bars.length=w.us.length:=by simp[dG,jK]
 have hfu:(dG w.us).full.length=w.us.length:=by simp[dG,iW]
 refine⟨⟨ae,ae,ae,ae⟩,λu hu=>?_⟩;rw[hn]at hu⊢;have e1:(dG w.us).needs[u]! =eW w.us w.us[u]!.ar:=by unfold dG eM;dsimp only;rw[List.take_length,eu hu]
 have e2:(dG w.us).bars[u]! =jL w.us w.us[u]!.ar:=by unfold dG jK;dsimp only;rw[List.take_length,eu hu]
 obtain⟨h16,hC⟩:=hU _ (aq hu);rw[e1,e2];refine⟨⟨by simp[eW,jL],by simpa[eW]using h16⟩,λc hc r hr=>?_,λr hr x hx=>?_⟩
 .unfold eW at hc;obtain⟨cd,h1,rfl⟩:=bI.1 hc;unfold lj at hr;obtain⟨r0,h2,rfl⟩:=bI.1 hr;obtain⟨h3,h4⟩:=(hC cd h1).2.1 r0 h2;refine⟨by rw[show(eN w.us r0).length=r0.length by simp[eN]];omega,λx hx=>?_⟩;unfold eN at hx;obtain⟨y,h5,rfl⟩:=bI.1 hx;exact h4 y h5
 .unfold jL at hr;obtain⟨cd,h1,rfl⟩:=bI.1 hr;unfold eN at hx;obtain⟨y,h5,rfl⟩:=bI.1 hx;exact(hC cd h1).2.2 y h5
def fe (nm:aw):Ψ:=if nm∈ns then ns else ns++[nm]
def jD (k:Key):Ψ:=if k=eV then ns else fe ns k.n
def sV (y:cu):Nat->pI->Ψ->Ψ
 |0,_,ns=>ns
 |n+1,s,ns=>if s.todo.length=0 then ns else if 48<(BN y s).all.length then jD ns s.todo[0]! else sV y n (BN y s) (jD ns s.todo[0]!)
def abL (all:Α)(ns:Ψ):Nat->Ψ
 |0=>ns
 |i+1=>jD (abL all ns i) all[i]!
def LU (nm:aw):(fe ns nm).length<=ns.length+1:=by
 unfold fe;split
 .omega
 .rw[cx,List.length_singleton];exact aR _
def Du (k:Key):(jD ns k).length<=ns.length+1:=by
 unfold jD;split
 .omega
 .exact LU _ _
def Ns (y:cu):∀(n:Nat) (s:pI) (ns:Ψ),(sV y n s ns).length<=ns.length+n
 |0,s,ns=>aR _
 |n+1,s,ns=>by
  have h1:=Du ns s.todo[0]!;rw[sV];split
  .omega
  .split
   .omega
   .have:=Ns y n (BN y s) (jD ns s.todo[0]!);omega
def ON (all:Α)(ns:Ψ):∀i,(abL all ns i).length<=ns.length+i
 |0=>aR _
 |i+1=>by
  have h1:=Du (abL all ns i) all[i]!;have h2:=ON all ns i;rw[abL];omega
def dn (ns:Ψ):Θ:=ns.map λnm=>u7 (dc y nm)
def eS (a b n:Nat):D:=.agg [.own a 1 0 n,.own b 1 0 n]
def Cx (lf ln lr:Nat)(ns:Ψ)(m:Γ):Prop:=look m lf=some (.buf 2 [eS ln lr ns.length])/\look m ln=some (.buf 1 (ns.map D.str))/\look m lr=some (.buf 1 (dn y ns))
def O3 (Y:Ctx)(n:Nat)(y:cu)(aHa:D->Θ)(ns ns':Ψ)(V:D):=∀(nx lf ln lr:Nat) (m:Γ) (K:Τ),lf<nx->ln<nx->lr<nx->ln≠lr->Cx y lf ln lr ns m->
 K V ⟨nx+2,(nx,.buf 1 (ns'.map D.str))::(nx+1,.buf 1 (dn y ns'))::cW (de (de m ln) lr) lf (.buf 2 [eS nx (nx+1) ns'.length])⟩->Y.tr n (aHa (.ptr lf 2 0 0)) ⟨nx,m⟩ K
def LH (ns':Ψ)(V:D):D->Γ->Prop:=λd m=>d=V/\∃j k:Nat,(0<j/\0<k/\j≠k)/\Cx y 0 j k ns' m
def jo (ns:Ψ):aP (dn y ns)=true:=cg (λ_=>rfl) _
def Ji:aP (ns.map D.str)=true:=cg (λ_=>rfl) _
def zQ (ns:Ψ):(dn y ns).length=ns.length:=bj ..
def af7 (aHa:D->Θ):=∀σ l l',m8 0 σ l=some l'->(aHa (.ptr l 2 0 0)).length=(aHa (.ptr l' 2 0 0)).length/\∀i,i<(aHa (.ptr l 2 0 0)).length->RnD 0 σ ((aHa (.ptr l 2 0 0)).getD i .any) ((aHa (.ptr l' 2 0 0)).getD i .any)
def fdR (ns:Ψ):D:=.ref 2 [.agg [.sl 1 (ns.map D.str),.sl 1 (dn y ns)]] 0 0
def iPin (a b:gY):gY.D a=gY.D b↔a=b:=by cases a;cases b;simp[gY.D]
def YI (a b:π):a.map gY.D=b.map gY.D↔a=b:=kZ iPin a b
def agN (a b:kP):kP.D a=kP.D b↔a=b:=by cases a;cases b;simp[kP.D]
def YE (a b:List kP):a.map kP.D=b.map kP.D↔a=b:=kZ agN a b
def iMan (a b:gI):gI.D a=gI.D b↔a=b:=by
 obtain⟨⟨n,⟨v1,v2,v3,v4,v5⟩,x,y,z⟩,p,q⟩:=a;obtain⟨⟨n',⟨w1,w2,w3,w4,w5⟩,x',y',z'⟩,p',q'⟩:=b;simp[gI.D,Dl,Mp,Dk,YI,YE,and_assoc]
def agP (a b:φ):a.map gI.D=b.map gI.D↔a=b:=kZ iMan a b
def agO (a b:Key):Key.D a=Key.D b↔a=b:=by cases a;cases b;simp[Key.D]
def iKeys (a b:Α):a.map Key.D=b.map Key.D↔a=b:=kZ agO a b
def iKp (a b:Kp):Kp.D a=Kp.D b↔a=b:=by
 obtain⟨n,⟨v1,v2,v3,v4,v5⟩⟩:=a;obtain⟨n',⟨w1,w2,w3,w4,w5⟩⟩:=b;simp[Kp.D,and_assoc]
def iKps (a b:List Kp):a.map Kp.D=b.map Kp.D↔a=b:=kZ iKp a b
def iAsd (a b:jv):jv.D a=jv.D b↔a=b:=by
 obtain⟨⟨n,f⟩,⟨x,y⟩⟩:=a;obtain⟨⟨n',f'⟩,⟨x',y'⟩⟩:=b;simp[jv.D,Dm,and_assoc]
def agL (a b:fS):ed a=ed b↔a=b:=by simp only[ed,D.sl.injEq,eF];exact kZ iAsd a b
def akm (a b:ο):a.map ed=b.map ed↔a=b:=kZ agL a b
def iYrd (y y':cu)(f f':D):cu.D y f=cu.D y' f'↔y=y'/\f=f':=by
 obtain⟨l,s,⟨a,b,c⟩,k,p⟩:=y;obtain⟨l',s',⟨a',b',c'⟩,k',p'⟩:=y';simp[cu.D,agP,YJ,iKps,YI,and_assoc]
def XL {A:RT->Prop}(h:A (λds d=>A λds' d'=>ds'=ds->d=d'):=by
 (repeat' first|apply And.intro|intro _)
 all_goals rename_i e
 all_goals (try simp only[tw,D.str.injEq,D.int.injEq,D.bool.injEq,D.sl.injEq,D.ref.injEq,D.agg.injEq,D.fn.injEq,YL,U8,iByt,iVer,YO,PD,YH,Dl,iBar,Mp,YD,Dk,iRec,YC,iEtr,iShf,YJ,iEnv,iLkd,YG,iLck,iCut,agM,YK,Dm,iSet,YN,H2,YP,PE,iCnd,YB,iUnt,YM,iWld,iKey,iGs,agQ,iTrm,agR,iTr,iTrL,iMsk,iAsk,YF,iMan,agP,iPin,YI,agN,YE,agO,iKeys,iKps,iAsd,agL,akm,iYrd,List.map_cons,List.map_nil,iU8,pX,iNat,dP,eF,reduceCtorEq,iN,iM]at e)
 all_goals first|rfl|(simp only[e];done)|simp_all):Det (Ie A):=aiW h
def sa {a b:Nat}(h:a≠b):Nat.beq a b=false:=by
 cases q:Nat.beq a b with
 |false=>rfl
 |true=>exact absurd (Nat.eq_of_beq_eq_true q) h
def Ss {σ:Ξ}{a b a' b' n:Nat}(h1:m8 0 σ a=some a')(h2:m8 0 σ b=some b'):tW 0 σ (eS a b n)=some (eS a' b' n):=by simp only[eS,tW,ru,Wa,h1,h2]
section
variable [cO]{P:Program}{ν:Ξ}{bS:Ε}{t:τ}{fid key u:Nat}{af:aj}{y:cu}{aHa:D->Θ}{ns ns':Ψ}{V:D}{lf ln lr:Nat}{m:Γ}{K:Τ}
def ot (has:af7 aHa)(hV:V.aV=true)(hmix:P.follows .mixedOrders=true)(hC:Wu P ν bS fid af)(hnp:(aHa (.ptr 0 2 0 0)).length=af.np)(h1:lf<nx)(h2:ln<nx)(h3:lr<nx)(hne:ln≠lr)(hat:Cx y lf ln lr ns m)(hK:K V ⟨nx+2,(nx,.buf 1 (ns'.map D.str))::(nx+1,.buf 1 (dn y ns'))::cW (de (de m ln) lr) lf (.buf 2 [eS nx (nx+1) ns'.length])⟩)(hw:dD ((under t key u).at 3) af.body (uV af (LH y ns' V)) (fV af (aHa (.ptr 0 2 0 0))) ⟨3,[(0,.buf 2 [eS 1 2 ns.length]),(1,.buf 1 (ns.map D.str)),(2,.buf 1 (dn y ns))]⟩):vj P ν bS (under t key u) fid (aHa (.ptr lf 2 0 0)) ⟨nx,m⟩ K:=by
 obtain⟨a1,a2,a3⟩:=hat;have n1:lf≠ln:=by
  rintro rfl;rw[a1]at a2;exact absurd (bo.buf.inj (aZ a2)).1 aX
 have n2:lf≠lr:=by
  rintro rfl;rw[a1]at a3;exact absurd (bo.buf.inj (aZ a3)).1 aX
 have b1:=sa n1;have b2:=sa n2;have b3:=sa hne;have c1:=sa n1.symm;have c2:=sa n2.symm;have c3:=sa hne.symm;have g3:gQ 0 3 [(lf,0),(ln,1),(lr,2)]=true:=by simp[gQ,b1,b2,b3,c1,c2,c3];decide
 have g4:∀l i,(l,i)∈[(lf,0),(ln,1),(lr,2)]->look m l≠none:=by
  intro l i h;simp only[bH,dm,cX,or_false]at h;rcases h with⟨rfl,_⟩|⟨rfl,_⟩|⟨rfl,_⟩<;>simp[a1,a2,a3]
 have g5:∀i b,look [(0,.buf 2 [eS 1 2 ns.length]),(1,.buf 1 (ns.map D.str)),(2,.buf 1 (dn y ns))] i=some b->∃l b',(l,i)∈[(lf,0),(ln,1),(lr,2)]/\look m l=some b'/\qN 0 [(lf,0),(ln,1),(lr,2)] b' b:=by
  intro i b h;simp only[look]at h;split at h
  .rename_i e;subst e;obtain rfl:=aZ h;exact⟨lf,_,.head _,a1,rfl,.inr (.inl (by simp only[ru,Ss (σ:=[(lf,0),(ln,1),(lr,2)]) (a:=ln) (b:=lr) (a':=1) (b':=2) (by simp[m8,b1]) (by simp[m8,b2,b3])]))⟩
  .split at h
   .rename_i e;subst e;obtain rfl:=aZ h;exact⟨ln,_,.tail _ (.head _),a2,rfl,.inl ⟨rfl,Ji ns⟩⟩
   .split at h
    .rename_i e;subst e;obtain rfl:=aZ h;exact⟨lr,_,.tail _ (.tail _ (.head _)),a3,rfl,.inl ⟨rfl,jo y ns⟩⟩
    .cases h
 obtain⟨e1,e2⟩:=has [(lf,0),(ln,1),(lr,2)] lf 0 (by simp[m8]);refine Ml (σi:=[(lf,0),(ln,1),(lr,2)]) (cs:=aHa (.ptr 0 2 0 0)) (λq=>Hj t key u q) hmix hC e1.symm e2 hnp g3 g4 g5 hw ?_;rintro d m1 ⟨rfl,j,k,⟨hj,hk,hjk⟩,d1,d2,d3⟩;have q1:Nat.beq 0 j=false:=sa ae;have q2:Nat.beq 0 k=false:=sa ae;have q3:Nat.beq j k=false:=sa hjk;have q4:Nat.beq j 0=false:=sa ae;have q5:Nat.beq k 0=false:=sa ae;have q6:Nat.beq k j=false:=sa (Ne.symm hjk);have r1:Nat.beq lf nx=false:=sa ae;have r2:Nat.beq lf (nx+1)=false:=sa ae;have r3:Nat.beq nx (nx+1)=false:=sa ae;have r4:Nat.beq nx lf=false:=sa ae;have r5:Nat.beq (nx+1) lf=false:=sa ae;have r6:Nat.beq (nx+1) nx=false:=sa ae;refine⟨[(0,lf),(j,nx),(k,nx+1)],j+k+1,_,d,⟨g3, ?_,Nat.le_add_right _ _,g4, ?_,g5, ?_⟩,.inl ⟨rfl,hV⟩,hK⟩
 .simp[gQ,q1,q2,q3,q4,q5,q6,r1,r2,r3,r4,r5,r6];omega
 .intro i l h;simp only[bH,dm,cX,or_false]at h;rcases h with⟨rfl,rfl⟩|⟨rfl,rfl⟩|⟨rfl,rfl⟩
  .exact .inl (.head _)
  .exact .inr (aR _)
  .exact .inr (Nat.le_succ _)
 .intro l bb h;simp only[look]at h;split at h
  .rename_i e;subst e;obtain rfl:=aZ h;exact .inl ⟨j,_,.tail _ (.head _),d2,rfl,.inl ⟨rfl,Ji _⟩⟩
  .rename_i hln;split at h
   .rename_i e;subst e;obtain rfl:=aZ h;exact .inl ⟨k,_,.tail _ (.tail _ (.head _)),d3,rfl,.inl ⟨rfl,jo _ _⟩⟩
   .rename_i hln2;rw[bO]at h;split at h
    .rename_i e;subst e;obtain rfl:=aZ h;exact .inl ⟨0,_,.head _,d1,rfl,.inr (.inl (by simp only[ru,Ss (σ:=[(0,l),(j,nx),(k,nx+1)]) (a:=j) (b:=k) (a':=nx) (b':=nx+1) (by simp[m8,q1]) (by simp[m8,q2,q3])]))⟩
    .rename_i hlf;rw[fF]at h;split at h
     .cases h
     .rename_i hl3;rw[fF]at h;split at h
      .cases h
      .rename_i hl2;refine .inr ⟨by simp only[ow,ah (λe=>hlf (Eq.symm e)),ah hln,ah hln2],λi hi=>?_,h⟩;simp only[bH,dm,cX,or_false]at hi;rcases hi with⟨rfl,_⟩|⟨rfl,_⟩|⟨rfl,_⟩
       .exact hlf rfl
       .exact hl2 rfl
       .exact hl3 rfl
end
def oq {β:Type}[Inhabited α]{f:α->List β}{l:List α}{i:Nat}(h:i<l.length):(l.take (i+1)).flatMap f=(l.take i).flatMap f++f l[i]! :=by
 have e:l.take (i+1)=l.take i++[l[i]!]:=by
  rw[List.take_add_one,List.getElem?_eq_getElem h];simp[h]
 rw[e,List.flatMap_append];simp
def map_take {β:Type}[Inhabited α]{f:α->β}{l:List α}{i:Nat}(h:i<l.length):(l.take (i+1)).map f=(l.take i).map f++[f l[i]!]:=by
 have e:l.take (i+1)=l.take i++[l[i]!]:=by
  rw[List.take_add_one,List.getElem?_eq_getElem h];simp[h]
 rw[e,List.map_append];rfl
def Hh {β:Type}{f:α->β}(xs:List α):(xs.map f).take xs.length=xs.map f:=by rw[<-bj (f:=f),List.take_length]
def Gn [Inhabited α]{f:α->Bool}{l:List α}{i:Nat}(h:i<l.length):(l.take (i+1)).filter f=(l.take i).filter f++(if f l[i]! =true then [l[i]!]else []):=by
 have e:l.take (i+1)=l.take i++[l[i]!]:=by
  rw[List.take_add_one,List.getElem?_eq_getElem h];simp[h]
 rw[e,List.filter_append,List.filter_cons,List.filter_nil]
def XF {m:gI}(h:¬(c8 m.r).1=0):kR m=c8 m.r:=ak h
def XD {m:gI}(h:¬¬(c8 m.r).1=0)(h2:8<m.ps.length\/8<m.hs.length):kR m=(3,0):=by unfold kR;rw[ah h,ak h2]
def XE {m:gI}(h:¬¬(c8 m.r).1=0)(h2:¬(8<m.ps.length\/8<m.hs.length)){q:Int×Int}(h3:DS m.ps=q)(h4:¬q.1=0):kR m=q:=by
 subst h3;unfold kR;rw[ah h,ah h2,ak h4]
def XC {m:gI}(h:¬¬(c8 m.r).1=0)(h2:¬(8<m.ps.length\/8<m.hs.length))(h3:(DS m.ps).1=0){q:Int×Int}(h4:Df m.hs=q):kR m=q:=by
 subst h4;unfold kR;rw[ah h,ah h2,ah (λh=>h h3)]
def Nh {l:π}{i:Nat}(h:(di l[i]!.name=false\/di l[i]!.shelf=false)\/(0<i/\Op.bytesLess l[i-1]!.name l[i]!.name=false)):Ng l i=15:=ak h
def Tj {l:π}{i:Nat}(h:¬((di l[i]!.name=false\/di l[i]!.shelf=false)\/(0<i/\Op.bytesLess l[i-1]!.name l[i]!.name=false))):Ng l i=0:=ah h
def aer {l:List kP}{i:Nat}(h:di l[i]!.name=false\/(0<i/\Op.bytesLess l[i-1]!.name l[i]!.name=false)):Dd l i=4:=ak h
def aes {l:List kP}{i:Nat}(h:¬(di l[i]!.name=false\/(0<i/\Op.bytesLess l[i-1]!.name l[i]!.name=false)))(h2:rm l[i]!.range=false):Dd l i=6:=by unfold Dd;rw[ah h,ak h2]
def YA {l:List kP}{i:Nat}(h:¬(di l[i]!.name=false\/(0<i/\Op.bytesLess l[i-1]!.name l[i]!.name=false)))(h2:rm l[i]!.range=true):Dd l i=0:=by unfold Dd;rw[ah h,ah (by rw[h2];simp)]
def yS {l:φ}(h:xc l):l.length=1/\∀i,i<l.length->W3 l[i]! :=by
 obtain⟨m,rfl,hm⟩:=h;refine⟨rfl,λi hi=>?_⟩;obtain rfl:i=0:=by simpa using hi
 exact hm
def akX {m:gI}(h:W3 m):kR m=(0,0):=by
 obtain⟨⟨h1,_⟩,_⟩:=h;have h0:=h1;unfold kR at h1⊢;split
 .rename_i h2;rw[ak h2]at h1;exact absurd h1 h2
 .rename_i h2;rw[ah h2]at h1;split
  .rename_i h3;rw[ak h3]at h1;cases h1
  .rename_i h3;rw[ah h3]at h1;split
   .rename_i h4;rw[ak h4]at h1;exact absurd h1 h4
   .rename_i h4;rw[ah h4]at h1;exact C5 _ _ _ h1
def Rr {l:φ}(h:xc l){i:Nat}(hi:i<l.length):k8 l l[i]!.r.name=(i:Nat):=by
 obtain⟨m,rfl,hm⟩:=h;obtain rfl:i=0:=by simpa using hi
 show gp (isM m.r.name) [m] 0=0;simp[gp,isM]
def ue {l:φ}(h:xc l){i:Nat}(hi:i<l.length):l[i]!.ps=fm l/\l[i]!.hs=l[0]!.hs/\l[i]!.ps.length<=1/\l[i]!.hs.length<=1:=by
 have h1:=yS h;obtain rfl:i=0:=ae;exact⟨rfl,rfl,(h1.2 0 hi).2⟩
def akl {l:φ}{k:Nat}(hk:k=0)(h:k<l[0]!.hs.length)(h2:l[0]!.hs[k]!.name=nm):kW l nm=eY l[0]!.hs[k]!.range:=by
 subst hk;unfold kW;rw[ak ⟨ae,h2⟩]
def akk {l:φ}{k:Nat}(hk:k=0)(h2:¬l[0]!.hs[k]!.name=nm):kW l nm=p8:=by
 subst hk;unfold kW;rw[ah λh=>h2 h.2]
def akj {l:φ}{k:Nat}(hk:k=l[0]!.hs.length):(if k=0 then p8 else kW l nm)=kW l nm:=by
 split
 .unfold kW;rw[ah λh=>h.1 ae]
 .rfl
def lX (l:π)(p:gY):π×Bool:=
 if kPin l p 0<l.length/\l[kPin l p 0]!.name=p.name then(l,decide (l[kPin l p 0]! =p))else((l.take (kPin l p 0)++[p])++l.drop (kPin l p 0),true)
where kPin (l:π) (p:gY) (i:Nat):Nat:=i+((l.drop i).takeWhile λx=>Op.bytesLess x.name p.name).length
def Ve {l:π}{p:gY}{i:Nat}(h:i<l.length)(hc:Op.bytesLess l[i]!.name p.name=true):lX.kPin l p i=lX.kPin l p (i+1):=by
 unfold lX.kPin;rw[fD h,List.takeWhile_cons_of_pos (by simpa[h]using hc)];simp;omega
def Vf {l:π}{p:gY}{i:Nat}(h:i<l.length->Op.bytesLess l[i]!.name p.name=false):lX.kPin l p i=i:=by
 unfold lX.kPin;rcases dX i l.length with hi|hi
 .rw[fD hi,List.takeWhile_cons_of_neg (by simpa[hi]using h hi)];rfl
 .rw[kA hi];rfl
def Z1 {k:Nat}(hk:k=0){l:π}(h:k<l.length):lX (l.take k) l[k]! =(l.take (k+1),true):=by
 subst hk;cases l with
 |nil=>cases h
 |cons a r=>rfl
def YV {l:Α}{k:Key}{i:Nat}(h:i<l.length)(hc:fj l[i]! k=true):FJ l k i=FJ l k (i+1):=by
 unfold FJ;rw[fD h,List.takeWhile_cons_of_pos (by simpa[h]using hc)];simp;omega
def YW {l:Α}{k:Key}{i:Nat}(h:i<l.length->fj l[i]! k=false):FJ l k i=i:=by
 unfold FJ;rcases dX i l.length with hi|hi
 .rw[fD hi,List.takeWhile_cons_of_neg (by simpa[hi]using h hi)];rfl
 .rw[kA hi];rfl
def U9 {i k:Nat}(h:k<l.length)(hc:iO es[(l[k]!).toNat]!.r.v es[i]!.r.v<0):zm es l i k=zm es l i (k+1):=by
 unfold zm;rw[fD h,List.takeWhile_cons_of_pos (by simpa[h]using hc)];simp;omega
def Va {i k:Nat}(h:k<l.length->¬iO es[(l[k]!).toNat]!.r.v es[i]!.r.v<0):zm es l i k=k:=by
 unfold zm;rcases dX k l.length with hi|hi
 .rw[fD hi,List.takeWhile_cons_of_neg (by simpa[hi]using h hi)];rfl
 .rw[kA hi];rfl
def Key.eqD (a b:Key):ig (Key.D a).cells (Key.D b).cells=decide (a=b):=by
 obtain⟨a1,a2⟩:=a;obtain⟨b1,b2⟩:=b
 grind [Key.D,D.cells,ig,tG]
def gY.eq (a b:gY):ig (gY.D a).cells (gY.D b).cells=decide (a=b):=by
 obtain⟨a1,a2⟩:=a;obtain⟨b1,b2⟩:=b
 grind [gY.D,D.cells,ig,tG]
def ZZ {l:π}{i:Nat}(h:(di l[i]!.name=false\/di l[i]!.shelf=false)\/(0<i/\Op.bytesLess l[i-1]!.name l[i]!.name=false)):decide (Ng l i=0)=false:=by rw[Nh h];rfl
def VE {l:π}{i:Nat}(h:¬((di l[i]!.name=false\/di l[i]!.shelf=false)\/(0<i/\Op.bytesLess l[i-1]!.name l[i]!.name=false))):decide (Ng l i=0)=true:=by rw[Tj h];rfl
def ZU {ns:υ}{e:Env}{o:aw}{i:Nat}(h:i<ns.length):rj (ns.take i) e o++BI e o ns[i]! =rj (ns.take (i+1)) e o:=by unfold rj;rw[oq h]
def alr {e:Env}{o:aw}{n:bn}(h:n.option=o/\GJ n.when' e=true):BI e o n=iQ n:=by unfold BI;rw[ak h]
def alq {e:Env}{o:aw}{n:bn}(h:¬n.option=o\/GJ n.when' e=false):BI e o n=[]:=by unfold BI;rw[ah (by rintro⟨h1,h2⟩;rcases h with h|h;exact h h1;rw[h]at h2;cases h2)]
def IF {ns:υ}{e:Env}{i:Nat}(h:i<ns.length):ja (ns.take i) e nm ft++rT e nm ft ns[i]! =ja (ns.take (i+1)) e nm ft:=by unfold ja;rw[oq h]
def afh {e:Env}{n:bn}(h:(¬(n.any.length:Int)=1\/¬n.any[0]!.name=nm)\/GJ n.when' e=false):rT e nm ft n=[]:=by
 unfold rT;rw[ah];rintro⟨⟨h1,h2⟩,h3⟩;rcases h with(h|h)|h
 .omega
 .exact h h2
 .rw[h]at h3;cases h3
def ZS (n:bn):ο:=if n.option=[]then []else iQ n
def Tn {e:Env}{n:bn}(h:((n.any.length:Int)=1/\n.any[0]!.name=nm)/\GJ n.when' e=true):rT e nm ft n=ZS n++[[⟨⟨nm,ft⟩,eY n.any[0]!.range⟩]]:=by
 unfold rT;rw[ak ⟨⟨ae,h.1.2⟩,h.2⟩];rfl
def zA (r:Rec)(e:Env)(ft:aw)(i:Nat):ο:=[[⟨⟨r.name,[]⟩,dS r.v⟩]]++((vy r.feats ft).take i).flatMap (mD r e)
def P2 {e:Env}{i:Nat}(h:i<(vy r.feats ft).length):zA r e ft i++mD r e (vy r.feats ft)[i]! =zA r e ft (i+1):=by unfold zA;rw[oq h,fL]
def ak0 {e:Env}(h:¬ft=[]):zA r e ft (vy r.feats ft).length=cL r e ft:=by unfold zA cL;rw[ah h,List.take_length]
def Zv {e:Env}(h:CA r)(i:Nat):(zA r e ft i).length<=1+384:=by
 have h2:=(x8 h ft).1;have h1:=iB (f:=mD r e) (B:=64) (l:=(vy r.feats ft).take i) λs _=>(tM h).1
 unfold zA;rw[eE]at h1;rw[cx,List.length_singleton];have:64*min i (vy r.feats ft).length<=64*6:=Nat.mul_le_mul_left _ ae;omega
def akB {e:Env}{s:aw}(h:(bN s).1=1):mD r e s=[[⟨⟨r.name,(bN s).2.1⟩,dS r.v⟩]]:=by unfold mD;rw[ak h]
def akC {e:Env}{s:aw}(h:¬(bN s).1=1)(h2:(bN s).1=2):mD r e s=rj r.needs e (bN s).2.1:=by unfold mD;rw[ah h,ak h2]
def akD {e:Env}{s:aw}(h:¬(bN s).1=1)(h2:¬(bN s).1=2):mD r e s=ja r.needs e (bN s).2.1 (bN s).2.2:=by unfold mD;rw[ah h,ah h2]
def UO (l:γ)(nm:aw):findF l nm 0=-1\/∃j:Nat,findF l nm 0=(j:Int)/\j<l.length:=by
 unfold findF;rw[dN];cases h:l.findIdx? (λx=>decide (x.name=nm))with
 |none=>exact .inl rfl
 |some k=>exact .inr ⟨k,aJ,(List.findIdx?_eq_some_iff_getElem.1 h).1⟩
def rZ (all:Α)(r:fS)(i:Nat):mT:=(r.take i).map λa=>⟨cz all a.k,a.s⟩
def afW {all:Α}{r:fS}{i:Nat}(h:i<r.length):rZ all r i++[⟨cz all r[i]!.k,r[i]!.s⟩]=rZ all r (i+1):=by unfold rZ;rw[map_take h]
def Wm (all:Α)(r:fS)(i:Nat):(rZ all r i).length<=i:=by unfold rZ;rw[bj,eE];omega
def afV {all:Α}{l:ο}{i:Nat}(h:i<l.length):dr all (l.take i)++[rZ all l[i]! l[i]!.length]=dr all (l.take (i+1)):=by unfold dr rZ;rw[map_take h,List.take_length]
def Wl (all:Α)(l:ο)(i:Nat):(dr all (l.take i)).length<=i:=by unfold dr;rw[bj,eE];omega
def R4 {all:Α}{e:Env}{i:Nat}(h:i<r.bars.length):(r.bars.take i).flatMap (pJ all e)++pJ all e r.bars[i]! =(r.bars.take (i+1)).flatMap (pJ all e):=by rw[oq h]
def aiK {all:Α}{e:Env}{b:mR}(h:0<=cz all ⟨b.name,[]⟩/\GJ b.when' e=true):pJ all e b=[⟨cz all ⟨b.name,[]⟩,eY b.range⟩]:=by unfold pJ;rw[ak h]
def aiJ {all:Α}{e:Env}{b:mR}(h:¬0<=cz all ⟨b.name,[]⟩\/GJ b.when' e=false):pJ all e b=[]:=by unfold pJ;rw[ah (by rintro⟨h1,h2⟩;rcases h with h|h;exact h h1;rw[h]at h2;cases h2)]
def Xo (all:Α)(e:Env)(b:mR):(pJ all e b).length<=1:=by unfold pJ;split<;>simp
def UE (all:Α)(e:Env)(l:List mR)(i:Nat):((l.take i).flatMap (pJ all e)).length<=i:=by
 have h:=iB (f:=pJ all e) (B:=1) (l:=l.take i) λb _=>Xo all e b
 rw[eE]at h;omega
def amc {l:φ}{i:Nat}(h:i<l.length):eH (l.take i)++[[⟨⟨l[i]!.r.name,lE⟩,dS l[i]!.r.v⟩]]=eH (l.take (i+1)):=by unfold eH;rw[map_take h]
def aa8 (l:φ)(i:Nat):(eH (l.take i)).length<=i:=by unfold eH;rw[bj,eE];omega
def aej (l k:Nat)(es:Θ)(xs:Laf):pf l k es (xs.map jP)=xs.map jP:=ki l k es _ (cg (λ_=>rfl) _)
def gI.fz (l k:Nat)(es:Θ)(c:gI):jj l k es c.D=c.D:=ij l k es _ rfl
def mR.fz (l k:Nat)(es:Θ)(c:mR):jj l k es c.D=c.D:=ij l k es _ rfl
def jv.fz (l k:Nat)(es:Θ)(c:jv):jj l k es c.D=c.D:=ij l k es _ rfl
section
variable {shop:Β}{ps:π}
def aka (h:ea shop=false):dy shop ps nm=(0,1):=by unfold dy;rw[ak h]
def akb (h:ea shop=true)(h2:AO ps=false):dy shop ps nm=(0,15):=by unfold dy;rw[ah jt,ak h2]
def akc {i:Nat}(h:ea shop=true)(h2:AO ps=true)(h3:FR ps nm=(i:Nat))(h4:mK shop ps[i]!.shelf<0):dy shop ps nm=(0,12):=by
 unfold dy;rw[ah jt,ah (by rw[h2];simp),ak ae,h3,Int.toNat_natCast,ak h4]
def akd {i:Nat}(h:ea shop=true)(h2:AO ps=true)(h3:FR ps nm=(i:Nat))(h4:¬mK shop ps[i]!.shelf<0):dy shop ps nm=(mK shop ps[i]!.shelf,0):=by
 unfold dy;rw[ah jt,ah (by rw[h2];simp),ak ae,h3,Int.toNat_natCast,ah h4]
def ake (h:ea shop=true)(h2:AO ps=true)(h3:FR ps nm=-1)(h4:gp (Dc nm) shop 0=(j:Nat)):dy shop ps nm=(((j:Nat):Int),0):=by
 unfold dy;rw[ah jt,ah (by rw[h2];simp),ah ae,h4,ah ae]
def akf (h:ea shop=true)(h2:AO ps=true)(h3:FR ps nm=-1)(h4:gp (Dc nm) shop 0=-1):dy shop ps nm=(0,9):=by
 unfold dy;rw[ah jt,ah (by rw[h2];simp),ah ae,h4];rfl
end
def aey {i k:Nat}(h:zm es l i 0=k):(l.take k++[((i:Nat):Int)])++l.drop k=Dn es l i:=by unfold Dn;rw[h]
def aeK {i:Nat}(h:es[i]!.r.name=nm):Dn es (eG es nm i) i=eG es nm (i+1):=by rw[eG,ak h]
def aeJ {i:Nat}(h:¬es[i]!.r.name=nm):eG es nm i=eG es nm (i+1):=by rw[eG,ah h]
def aeI {s:bz}(h:gA s=true):eG s.es nm s.es.length=jk s nm:=by unfold jk;rw[h,ah aJ]
def afl {l:Α}{k:Key}{i:Nat}(h:FJ l k 0=i)(h2:¬(i<l.length/\l[i]! =k)):(l.take i++[k])++l.drop i=sT l k:=by unfold sT;rw[h,ah h2]
def afj {l:Α}{k:Key}{i:Nat}(h:FJ l k 0=i)(h2:i<l.length/\l[i]! =k):l=sT l k:=by unfold sT;rw[h,ak h2]
def ER {l:List α}{i:Nat}{x:α}(h:x∈l.take i):x∈l:=Fs h
def lu (x:cP):Α:=if x.bare=true then []else [⟨x.name,lE⟩]
def oS (x:cP):Α:=if x.bare=true then(if x.feats=[]then [⟨x.name,[]⟩]else [])else [⟨x.name,lE⟩]
def m9 (x:cP)(i:Nat):Α:=oS x++(x.feats.take i).map (Key.mk x.name)
def abx {x:cP}(h:x.bare=false):lu x=[⟨x.name,lE⟩]:=by unfold lu;rw[h];rfl
def aby {x:cP}(h:x.bare=true):lu x=[]:=by unfold lu;rw[ak h]
def abA {x:cP}(h:x.bare=true/\(x.feats.length:Int)=0):lu x++[⟨x.name,[]⟩]=oS x:=by
 have:x.feats=[]:=ab0.1 ae;unfold lu oS;rw[ak h.1,ak h.1,ak this];rfl
def abz {x:cP}(h:x.bare=false\/¬(x.feats.length:Int)=0):lu x=oS x:=by
 unfold lu oS;cases hb:x.bare with
 |false=>rfl
 |true=>
  have h2:=h.resolve_left (by rw[hb];simp);have:¬x.feats=[]:=λe=>h2 (by rw[e];rfl)
  rw[ak rfl,ak rfl,ah this]
def Rj (x:cP):(lu x).length<=1:=by unfold lu;split<;>simp
def Rk (x:cP):(oS x).length<=1:=by unfold oS;split<;>(try split)<;>simp
def Rl (x:cP)(i:Nat):(m9 x i).length<=1+i:=by
 have:=Rk x;unfold m9;rw[cx,bj,eE];omega
def abB (x:cP):oS x=m9 x 0:=by unfold m9;simp
def abD {x:cP}{i:Nat}(h:i<x.feats.length):m9 x i++[⟨x.name,x.feats[i]!⟩]=m9 x (i+1):=by
 unfold m9;rw[map_take h,<-fL]
def abC (x:cP):m9 x x.feats.length=fw x:=by unfold m9 fw oS;rw[List.take_length]
def asdK (s:cy)(k:Key):fS:=[⟨k,s⟩]
def zS (n:bn)(i:Nat):ο:=((fw n.any[0]!).take i).map (asdK (eY n.any[0]!.range))
def amh {n:bn}{i:Nat}(h:i<(fw n.any[0]!).length):zS n i++[asdK (eY n.any[0]!.range) (fw n.any[0]!)[i]!]=zS n (i+1):=by unfold zS;rw[map_take h]
def amg {n:bn}(h:(n.any.length:Int)=1):zS n (fw n.any[0]!).length=iQ n:=by unfold zS iQ;rw[ak ae,List.take_length];rfl
def abb (n:bn)(i:Nat):(zS n i).length<=i:=by unfold zS;rw[bj,eE];omega
def ZH (w:cP):jv:=⟨(fw w)[0]!,eY w.range⟩
def BH (n:bn)(i:Nat):List jv:=(n.any.take i).map ZH
def ale {n:bn}{i:Nat}(h:i<n.any.length):BH n i++[ZH n.any[i]!]=BH n (i+1):=by unfold BH;rw[map_take h]
def ald {n:bn}(h:¬(n.any.length:Int)=1):[BH n n.any.length]=iQ n:=by unfold BH iQ;rw[ah ae,List.take_length];rfl
def ZG (n:bn)(i:Nat):(BH n i).length<=i:=by unfold BH;rw[bj,eE];omega
def xK (l k:Nat)(es:Θ)(xs:ο)(d:Abs.D):pf l k es (xs.map ed++[d])=xs.map ed++[jj l k es d]:=by
 induction xs with
 |nil=>rfl
 |cons x r ih=>rw[List.map_cons,tv,pf,ih];rfl
def C8 (l k:Nat)(es:Θ)(xs:List jv):pf l k es (xs.map jv.D)=xs.map jv.D:=ki l k es _ (cg (λ_=>rfl) _)
def bn.fz (l k:Nat)(es:Θ)(c:bn):jj l k es c.D=c.D:=ij l k es _ rfl
def Env.fz (l k:Nat)(es:Θ)(c:Env):jj l k es c.D=c.D:=ij l k es _ rfl
def cP.fz (l k:Nat)(es:Θ)(c:cP):jj l k es c.D=c.D:=ij l k es _ rfl
def cy.fz (l k:Nat)(es:Θ)(c:cy):jj l k es c.D=c.D:=ij l k es _ rfl
def Key.fz (l k:Nat)(es:Θ)(c:Key):jj l k es c.D=c.D:=ij l k es _ rfl
variable{b:Α}{k:Key}
def qM.fz (l k:Nat)(es:Θ)(c:qM):jj l k es c.D=c.D:=ij l k es _ rfl
def p9 (xs:ο)(a:jv):xs.map ed++[.sl 4 [a.D]]=(xs++[[a]]).map ed:=by rw[List.map_append];rfl
def Zb {y:cu}(hj:k8 y.l nm=(j:Nat)):dc y nm=[⟨y.l[j]!.r,-1⟩]:=by
 unfold dc;rw[ak ae,hj,Int.toNat_natCast]
def aeN (nm:aw):(cA y.shop y.pins nm).2.1.length<=64:=by
 unfold cA;split
 .simp
 .exact(qk _ _).1
def akV {y:cu}(hy:p0 y){i:Nat}(hc:(cA y.shop y.pins nm).2.2=0)(hi:i<(cA y.shop y.pins nm).2.1.length):
  ∃j:Nat,(cA y.shop y.pins nm).1=(j:Int)/\j<y.shop.length/\∃t:Nat,(cA y.shop y.pins nm).2.1[i]! =(t:Int)/\t<y.shop[j]!.es.length/\y.shop[j]!.es[t]!.r.v.sm:=by
 have h2:(dy y.shop y.pins nm).2=0:=by
  unfold cA at hc;split at hc
  .rename_i h3;exact absurd hc h3
  .rename_i h3;exact Classical.not_not.1 h3
 obtain⟨hB,j,hj,hjl⟩:=ou h2;have e1:cA y.shop y.pins nm=((j:Int),jk y.shop[j]! nm,0):=by
  unfold cA;rw[ah (λh=>h h2),hj,Int.toNat_natCast]
 rw[e1]at hi⊢;dsimp only at hi⊢;obtain⟨h5,h6⟩:=(qk y.shop[j]! nm).2 _ (aq hi);refine⟨j,rfl,hjl,(jk y.shop[j]! nm)[i]!.toNat,ae,ae, ?_⟩;exact(hy.1.2 _ (aq hjl) _ (aq ae)).1.2
def Gz (y:cu)(nm:aw)(a:Nat):∀(l r:Δ),gZ y nm a (l++r)=gZ y nm a l++gZ y nm a r
 |[],_=>rfl
 |x::l,r=>by rw[tv,gZ,gZ,Gz y nm a l r,fL]
def SR (nm:aw)(a:Nat){i:Nat}(h:i<l.length):gZ y nm a (l.take (i+1))=gZ y nm a (l.take i)++(if EO y nm y.shop[a]!.es[l[i]!.toNat]! =true then [⟨y.shop[a]!.es[l[i]!.toNat]!.r,(a:Int)⟩]else []):=by
 have e:l.take (i+1)=l.take i++[l[i]!]:=by
  rw[List.take_add_one,List.getElem?_eq_getElem h];simp[h]
 rw[e,Gz,gZ,gZ,gw]
def aeM {y:cu}{A:Int}{i t:Nat}(hj:A=(j:Int))(h:i<l.length)(ht:l[i]! =(t:Int))(hx:(y.shop[j]!.es[t]!.off=false\/AE y.keeps y.shop[j]!.es[t]!.r=true)/\pg (kW y.l nm) y.shop[j]!.es[t]!.r.v=true):gZ y nm A.toNat (l.take i)++[⟨y.shop[j]!.es[t]!.r,A⟩]=gZ y nm A.toNat (l.take (i+1)):=by
 subst hj;rw[SR y nm _ h,ht,Int.toNat_natCast,Int.toNat_natCast,ak];unfold EO;rw[hx.2];rcases hx.1 with h|h<;>rw[h]<;>simp
def aeL {y:cu}{A:Int}{i t:Nat}(hj:A=(j:Int))(h:i<l.length)(ht:l[i]! =(t:Int))(hx:(y.shop[j]!.es[t]!.off=true/\AE y.keeps y.shop[j]!.es[t]!.r=false)\/pg (kW y.l nm) y.shop[j]!.es[t]!.r.v=false):gZ y nm A.toNat (l.take i)=gZ y nm A.toNat (l.take (i+1)):=by
 subst hj;rw[SR y nm _ h,ht,Int.toNat_natCast,Int.toNat_natCast,ah,gw];unfold EO;rcases hx with⟨h1,h2⟩|h<;>simp_all
def akS {y:cu}{i:Nat}(h0:¬0<=k8 y.l nm)(hi:i<=(cA y.shop y.pins nm).2.1.length)(he:¬((i:Nat):Int)<((cA y.shop y.pins nm).2.1.length:Nat)\/¬(cA y.shop y.pins nm).2.2=0):gZ y nm (cA y.shop y.pins nm).1.toNat ((cA y.shop y.pins nm).2.1.take i)=dc y nm:=by
 unfold dc;rw[ah h0];by_cases hc:(cA y.shop y.pins nm).2.2=0
 .rw[ah (λh=>h hc),gG (by rcases he with h|h;omega;exact absurd hc h)]
 .rw[ak hc];have:(cA y.shop y.pins nm).2.1=[]:=by
   unfold cA at hc⊢;split
   .rfl
   .rename_i h;rw[ah h]at hc;exact absurd rfl hc
  rw[this,List.take_nil];rfl
def Yz (l:φ)(nm:aw):(kW l nm).sm:=by
 unfold kW;split
 .exact afG _
 .exact adf
def abH {v:b6}(h:v∈bQ):v.sm:=by
 obtain⟨i,hi,rfl⟩:=ff h;exact yQ i
def Ge (n i:Nat):Δ:=(List.range n).map λu=>if 1<=u/\u<i then-1 else 0
def Sd (n i:Nat):Δ:=(List.range n).map λu=>if u<i then-1 else 0
def B3 (n i:Nat):(Ge n i).length=n:=by simp[Ge]
def xo (n i:Nat):(Sd n i).length=n:=by simp[Sd]
def c1T_0:List.replicate n (D.int .i64 0)=(Sd n 0).map (D.int .i64):=by
 apply List.ext_getElem
 .simp[Sd]
 .intro i h1 h2;simp only[List.getElem_replicate,Sd,List.getElem_map,List.getElem_range];rw[ah ae]
def ady {n i:Nat}(hi:i<n):(Sd n i).set i (-1)=Sd n (i+1):=by
 apply List.ext_getElem
 .simp[Sd]
 .intro j h1 h2;simp only[List.getElem_set,Sd,List.getElem_map,List.getElem_range]
  grind
def adx {n:Nat}:(Sd n n).set 0 0=Ge n n:=by
 apply List.ext_getElem
 .simp[Ge,Sd]
 .intro j h1 h2;simp only[List.getElem_set,Ge,Sd,List.getElem_map,List.getElem_range];simp only[List.length_set,xo]at h1
  grind
def je (e:Env)(w:bP)(l:j8):Δ×Int×aw:=
 if eK w=false\/ea shop=false\/mw e=false then([],1,[])else if Mz l=false\/l.env≠e then([],34,[])
 else wv shop w.us l.lines (Ge w.us.length w.us.length)
def ChoP (w:bP)(l:j8):Prop:=fq shop/\w.sm/\l.sm
section
variable {shop:Β}{e:Env}{l:j8}
def cho_a (h:(eK w=false\/ea shop=false)\/mw e=false):je shop e w l=([],1,[]):=by
 rw[je,ak (by grind)]
def cho_b (h:(eK w=true/\ea shop=true)/\mw e=true)(h2:Mz l=false\/¬l.env=e):je shop e w l=([],34,[]):=by
 rw[je,ah (by grind),ak h2]
def agC (h:(eK w=true/\ea shop=true)/\mw e=true)(h2:Mz l=true/\l.env=e):je shop e w l=wv shop w.us l.lines (Ge w.us.length w.us.length):=by
 rw[je,ah (by grind),ah (by grind)]
end
def Ig (shop:Β)(us:Η)(l:Laa)(c:Δ):Nat->Δ
 |0=>c
 |i+1=>(mY shop us l[i]! (Ig shop us l c i)).2
def MD {shop:Β}{us:Η}{l:Laa}{c:Δ}:∀i,(Ig shop us l c i).length=c.length
 |0=>rfl
 |i+1=>by rw[Ig,aan,MD]
def va (us:Η):Nat->Θ
 |0=>[]
 |i+1=>if 0<i then AK (wT us[i]!.name us[i]!.feat) (.int .i64 (i:Nat)) (va us i)else []
def agW {k v:D}(hk:wo k=true):∀{l:Θ},xY l=true->xY (AK k v l)=true
 |[],_=>by simp[AK,xY,hk]
 |[_],h=>by simp[xY]at h
 |a::b::r,h=>by
  simp only[xY,aD]at h;rw[AK];cases qj a k
  .simp only[cond_false,xY,h.1,agW hk h.2,Bool.and_self]
  .simp only[cond_true,xY,h.1,h.2,Bool.and_self]
def EW (us:Η):∀i,xY (va us i)=true
 |0=>rfl
 |i+1=>by
  rw[va];split
  .exact agW rfl (EW us i)
  .rfl
def PI (a b c d:aw):qj (wT a b) (wT c d)=(decide (a=c)&&decide (b=d)):=by
 simp only[qj,wT];rw[Bool.eq_iff_iff];simp
def SI {a:D}{c d:aw}(h:qj a (wT c d)=true):a=wT c d:=by
 unfold qj wT at h;split at h
 .rename_i h1;simp only[D.agg.injEq,tw,D.str.injEq,dP,aD,beq_iff_eq]at h1 h;obtain⟨rfl,rfl⟩:=h1;rw[h.1,h.2];rfl
 .cases h
def Zp {a b c d:aw}{v:D}:∀{l:Θ},xY l=true->OY (wT a b) (AK (wT c d) v l)=if a=c/\b=d then some v else OY (wT a b) l
 |[],_=>by
  simp only[AK,OY,PI];by_cases h:a=c/\b=d
  .rw[ak h];simp[h]
  .rw[ah h];have:(decide (c=a)&&decide (d=b))=false:=by grind
   rw[this];rfl
 |[_],h=>by simp[xY]at h
 |k::w::r,h=>by
  simp only[xY,aD]at h;rw[AK];cases hk:qj k (wT c d)
  .simp only[cond_false,OY,Zp h.2];cases hk2:qj k (wT a b)
   .rfl
   .have:=SI hk2;subst this;rw[PI]at hk;have hn:¬(a=c/\b=d):=by grind
    simp only[ah hn]
  .have:=SI hk;subst this;simp only[cond_true,OY,PI];by_cases h2:a=c/\b=d
   .rw[ak h2];simp[h2]
   .rw[ah h2];have:(decide (c=a)&&decide (d=b))=false:=by grind
    rw[this];rfl
theorem tN:∀a b c:aw,Op.bytesLess a b=true->Op.bytesLess b c=true->Op.bytesLess a c=true
 |[],[],_,h,_=>by simp[Op.bytesLess]at h
 |[],_::_,[],_,h=>by simp[Op.bytesLess]at h
 |[],_::_,_::_,_,_=>by simp[Op.bytesLess]
 |_::_,[],_,h,_=>by simp[Op.bytesLess]at h
 |_::_,_::_,[],_,h=>by simp[Op.bytesLess]at h
 |x::a,y::b,z::c,h1,h2=>by
  have ih:=tN a b c;unfold Op.bytesLess at h1 h2⊢;have e1:=UInt8.lt_iff_toNat_lt (a:=x) (b:=y);have e2:=UInt8.lt_iff_toNat_lt (a:=y) (b:=z);have e3:=UInt8.lt_iff_toNat_lt (a:=x) (b:=z);have e4:=pX (a:=x) (b:=y);have e5:=pX (a:=y) (b:=z);have e6:=pX (a:=x) (b:=z)
  grind
def Xi {a b c:cN}(h1:jh a b=true)(h2:jh b c=true):jh a c=true:=by
 have t1:=tN a.name b.name c.name;have t2:=tN a.feat b.feat c.feat;unfold jh at*
 grind
def qB {w:bP}(h:eK w=true){i:Nat}(hi:1<=i):∀{j:Nat},i<j->j<w.us.length->jh w.us[i]! w.us[j]! =true
 |0,h1,_=>absurd h1 (Nat.not_lt_zero _)
 |j+1,h1,h2=>by
  have h3:jh w.us[j]! w.us[j+1]! =true:=by
   simp only[eK,aD,bw,lJ]at h;have:=(h.2 (j+1) (Nat.zero_le _) h2).1.1.2;simp only[b8,eJ,bR,cF,Nat.add_sub_cancel]at this;rcases this with h4|h4
   .omega
   .exact h4
  by_cases hij:i=j
  .subst hij;exact h3
  .exact Xi (qB h hi ae ae) h3
def z6 (h:eK w=true){a b:aw}{i:Nat}(hi:1<=i)(hij:i<j)(hj:j<w.us.length)(h1:ox a b w.us[i]! =true)(h2:ox a b w.us[j]! =true):False:=by
 have:=qB h hi hij hj;simp only[ox,aD,aT]at h1 h2;unfold jh at this;rw[h1.1,h1.2,h2.1,h2.2,jY,jY]at this;simp at this
def abv {us:Η}{a b:aw}:∀{n:Nat},(∀i,1<=i->i<n->ox a b us[i]! =false)->OY (wT a b) (va us n)=none
 |0,_=>rfl
 |n+1,h=>by
  rw[va];split
  .rename_i h0;have h1:=h n h0 ae;rw[Zp (EW us n),abv (λi h2 h3=>h i h2 ae)];simp only[ox]at h1;rw[ah (by grind)]
  .rfl
def abw {w:bP}(hw:eK w=true){a b:aw}{i:Nat}(hi:1<=i)(h:ox a b w.us[i]! =true):∀{n:Nat},i<n->n<=w.us.length->OY (wT a b) (va w.us n)=some (.int .i64 (i:Nat))
 |0,h1,_=>absurd h1 (Nat.not_lt_zero _)
 |n+1,h1,h2=>by
  rw[va,ak ae,Zp (EW _ n)];by_cases hin:i=n
  .subst hin;simp only[ox,aD,aT]at h;rw[ak ⟨h.1.symm,h.2.symm⟩]
  .have h3:=abw hw hi h (n:=n) ae ae;have h4:ox a b w.us[n]! =false:=by
    cases hc:ox a b w.us[n]!
    .rfl
    .exact(z6 hw hi ae ae h hc).elim
   simp only[ox]at h4;rw[h3,ah (by grind)]
def akY (hw:eK w=true):W4 w.us (va w.us w.us.length):=by
 refine⟨EW _ _,λa b=>?_⟩;have hd:∀q,(w.us.drop 1)[q]! =w.us[1+q]! :=λq=>by simp[List.getElem!_eq_getElem?_getD,Nat.add_comm]
 have hu:gr w.us a b=gp (ox a b) (w.us.drop 1) 1:=rfl;rcases ew (f:=ox a b) (l:=w.us.drop 1) (k:=1)with⟨h1,h2⟩|⟨j,h1,h2,h3,_⟩
 .rw[abv (λi h3 h4=>by have:=h2 (i-1) (by rw[jS];omega);rw[hd,show 1+(i-1)=i by omega]at this;exact this)];simp only[yP];rw[hu,h1];rfl
 .rw[hd]at h3;rw[jS]at h2;rw[abw hw (i:=1+j) ae h3 ae (aR _)];simp only[yP];rw[hu,h1,ah ae,aY ae]
def Ro (h:eK w=true):1<=w.us.length/\w.us.length<=48:=by
 simp only[eK,aD,aT]at h;exact h.1.1
def j8.fz (l k:Nat)(es:Θ)(c:j8):jj l k es c.D=c.D:=ij l k es _ (by simp only[j8.D,D.aV,aP,gW])
def Dw:∀a b:aw,Op.bytesLess a b=false->a≠b->Op.bytesLess b a=true
 |[],[],_,h=>absurd rfl h
 |[],_::_,h,_=>by simp[Op.bytesLess]at h
 |_::_,[],_,_=>by simp[Op.bytesLess]
 |x::a,y::b,h,hn=>by
  have ih:=Dw a b;unfold Op.bytesLess at h⊢;have e1:=UInt8.lt_iff_toNat_lt (a:=x) (b:=y);have e2:=UInt8.lt_iff_toNat_lt (a:=y) (b:=x);have e4:=pX (a:=x) (b:=y)
  grind
def px (a:Key):fj a a=false:=by unfold fj;rw[jY,jY];simp
def PL {a b c:Key}(h1:fj a b=true)(h2:fj b c=true):fj a c=true:=by
 have t1:=tN a.n b.n c.n;have t2:=tN a.f b.f c.f;unfold fj at*
 grind
def H8 {a b:Key}(h:fj a b=false)(hn:a≠b):fj b a=true:=by
 have t1:=Dw a.n b.n;have t2:=Dw a.f b.f;have hk:¬(a.n=b.n/\a.f=b.f):=λh=>hn (by cases a;cases b;simp at h;simp[h.1,h.2])
 unfold fj at*
 grind
def YZ (h:k≠eV):fj eV k=true:=by
 refine H8 ?_ h;unfold fj eV;cases k with
 |mk n f=>cases n<;>cases f<;>simp[Op.bytesLess]
def KS (l:Α):Prop:=l.Pairwise λa b=>fj a b=true
def rC {α:Type}{p:α->Bool}:∀(l:List α),∀x∈l.take (l.takeWhile p).length,p x=true
 |[],x,h=>by simp at h
 |a::r,x,h=>by
  rw[List.takeWhile_cons]at h;split at h
  .rename_i ha;simp only[bJ,List.take_succ_cons,bH]at h;rcases h with rfl|h
   .exact ha
   .exact rC r x h
  .simp at h
def wS {α:Type} [Inhabited α]{p:α->Bool}:∀(l:List α),(l.takeWhile p).length<l.length->p l[(l.takeWhile p).length]! =false
 |[],h=>by simp at h
 |a::r,h=>by
  rw[List.takeWhile_cons]at h⊢;split
  .rename_i ha;rw[ak ha]at h;simp only[bJ]at h⊢;have:=wS (p:=p) r ae;simpa using this
  .rename_i ha;simpa using ha
def Mt [Inhabited α]{lt:α->α->Prop}{p:α->Bool}{l:List α}{k:α}(htr:∀a b c,lt a b->lt b c->lt a c)(hl:l.Pairwise lt)(h1:∀x∈l,p x=true->lt x k)(h2:∀x∈l,p x=false->lt k x):
  ((l.take (l.takeWhile p).length++[k])++l.drop (l.takeWhile p).length).Pairwise lt:=by
 have hs:(l.take (l.takeWhile p).length++l.drop (l.takeWhile p).length).Pairwise lt:=by rw[List.take_append_drop];exact hl
 rw[List.pairwise_append]at hs;obtain⟨g1,g2,g3⟩:=hs;have e1:∀x∈l.take (l.takeWhile p).length,lt x k:=λx hx=>h1 x (Fs hx) (rC l x hx)
 have e2:∀x∈l.drop (l.takeWhile p).length,lt k x:=by
  rcases dX (l.takeWhile p).length l.length with h|h
  .have hd:=wS l h;have hlt:=h2 _ (aq h) hd;rw[fD h]at g2⊢;rw[show l[(l.takeWhile p).length]=l[(l.takeWhile p).length]! by simp[h]]at g2⊢;intro x hx;rcases bH.1 hx with rfl|hx
   .exact hlt
   .exact htr _ _ _ hlt ((List.pairwise_cons.1 g2).1 x hx)
  .rw[kA h];intro x hx;cases hx
 rw[List.pairwise_append,List.pairwise_append];refine⟨⟨g1,List.pairwise_singleton _ _,λa ha b hb=>?_⟩,g2,λa ha b hb=>?_⟩
 .rw[aF.1 hb];exact e1 a ha
 .rcases List.mem_append.1 ha with ha|ha
  .exact htr _ _ _ (e1 a ha) (e2 b hb)
  .rw[aF.1 ha];exact e2 b hb
def VI {l:Α}(hl:KS l):KS (sT l k):=by
 unfold sT;split
 .exact hl
 .rename_i hn;have e:FJ l k 0=(l.takeWhile λx=>fj x k).length:=by unfold FJ;rw[dN,cG]
  rw[e]at hn⊢;by_cases hk:k∈l
  ·
   exfalso;refine hn ?_;have hlt:(l.takeWhile λx=>fj x k).length<l.length:=by
    rcases dX (l.takeWhile λx=>fj x k).length l.length with h|h
    .exact h
    .have:=rC (p:=λx=>fj x k) l k (by rw[gG h];exact hk);rw[px]at this;cases this
   refine⟨hlt, ?_⟩;have hd:=wS (p:=λx=>fj x k) l hlt;by_cases hq:l[(l.takeWhile λx=>fj x k).length]! =k
   .exact hq
   .have h3:=H8 hd hq;have hs:(l.take (l.takeWhile λx=>fj x k).length++l.drop (l.takeWhile λx=>fj x k).length).Pairwise λa b=>fj a b=true:=by rw[List.take_append_drop];exact hl
    rw[List.pairwise_append]at hs;have hk2:k∈l.take (l.takeWhile λx=>fj x k).length\/k∈l.drop (l.takeWhile λx=>fj x k).length:=by rw[<-List.mem_append,List.take_append_drop];exact hk
    rcases hk2 with h4|h4
    .have:=rC (p:=λx=>fj x k) l k h4;rw[px]at this;cases this
    .obtain⟨_,g2,_⟩:=hs;rw[fD hlt,show l[(l.takeWhile λx=>fj x k).length]=l[(l.takeWhile λx=>fj x k).length]! by simp[hlt]]at g2 h4;rcases bH.1 h4 with h5|h5
     .exact absurd h5.symm hq
     .have h6:=(List.pairwise_cons.1 g2).1 k h5;have:=PL h3 h6;rw[px]at this;cases this
  .refine Mt (lt:=λa b=>fj a b=true) (p:=λx=>fj x k) (λa b c h1 h2=>PL h1 h2) hl (λx _ h=>h) (λx hx h=>H8 h λe=>hk (e▸hx))
def NmK (k:Key):Prop:=k=eV\/k.n≠[]
structure LN (s:pI):Prop where
 sort:KS s.all
 nm:∀k∈s.all,NmK k
def al8 {s:pI}{a:jv}(h:LN s)(ha:a.k.n≠[]):LN (mI s a):=by
 have hm:=(IQ s a).1;refine⟨?_,λk hk=>?_⟩
 .unfold mI;split
  .exact VI h.sort
  .exact h.sort
 .rcases(hm k).1 hk with h1|rfl
  .exact h.nm k h1
  .exact .inr ha
def aaL:∀(row:fS) (s:pI),(∀a∈row,a.k.n≠[])->LN s->LN (row.foldl mI s)
 |[],s,_,h=>h
 |b::r,s,hn,h=>aaL r _ (λa ha=>hn a (.tail _ ha)) (al8 h (hn b (.head _)))
def aaN:∀(l:ο) (s:pI),(∀row∈l,∀a∈row,a.k.n≠[])->LN s->LN (Qo s l)
 |[],s,_,h=>h
 |b::r,s,hn,h=>aaN r _ (λrow hr=>hn row (.tail _ hr)) (aaL b s (hn b (.head _)) h)
def aaM {y:cu}(hy:∀k,∀row∈cJ y k,∀a∈row,a.k.n≠[]):∀(n:Nat){s:pI}{all:Α},LN s->BM y n s=some all->LN ⟨all,[]⟩
 |0,s,all,_,h=>by cases h
 |n+1,s,all,hI,h=>by
  rw[BM]at h;split at h
  .obtain rfl:=aZ h;exact⟨hI.sort,hI.nm⟩
  .split at h
   .cases h
   .exact aaM hy n (s:=BN y s) (aaN (cJ y s.todo[0]!) ⟨s.all,s.todo.drop 1⟩ (hy _) ⟨hI.sort,hI.nm⟩) h
def W5 (l:ο):=∀row∈l,∀a∈row,a.k.n≠[]
def S8 {a b:ο}(h1:W5 a)(h2:W5 b):W5 (a++b):=λr hr=>(List.mem_append.1 hr).elim (h1 r) (h2 r)
def x6 {f:α->ο}{l:List α}(h:∀x∈l,W5 (f x)):W5 (l.flatMap f):=λr hr=>by
 obtain⟨x,hx,hr⟩:=List.mem_flatMap.1 hr;exact h x hx r hr
def It {s:cy}(h:k.n≠[]):W5 [[⟨k,s⟩]]:=λr hr b hb=>by
 rw[aF.1 hr]at hb;rw[aF.1 hb];exact h
def sQ {s:aw}(h:di s=true):s≠[]:=by
 rintro rfl;revert h;decide
def D3 (h:CA r):r.name≠[]:=sQ h.1.1.1
def qw (h:CA r):∀n∈r.needs,∀w∈n.any,di w.name=true:=by
 intro n hn w hw;obtain⟨⟨_,_,hp⟩,_⟩:=h;have h0:(lT r).1=0:=by grind [eD]
 obtain⟨i,hi,rfl⟩:=ff hn;have h3:=qX h0 i hi;obtain⟨j,hj,rfl⟩:=ff hw;have h4:nR r r.needs[i]!.any=0:=by grind [jM]
 have h5:=C1 h4 j hj
 grind [lK,gO]
def EX (w:cP):∀k∈fw w,k.n=w.name:=by
 intro k hk;unfold fw at hk;rcases List.mem_append.1 hk with h|h
 .split at h
  .split at h
   .rw[aF.1 h]
   .cases h
  .rw[aF.1 h]
 .obtain⟨f,_,rfl⟩:=bI.1 h;rfl
def Ob {n:bn}(hn:xb n)(h:∀w∈n.any,di w.name=true):W5 (iQ n):=by
 unfold iQ;split
 .intro r hr a ha;obtain⟨k,hk,rfl⟩:=bI.1 hr;rw[aF.1 ha,EX _ k hk];exact sQ (h _ (aq hn.1.1))
 .intro r hr a ha;rw[aF.1 hr]at ha;obtain⟨w,hw,rfl⟩:=bI.1 ha;rw[EX w _ (aq (oT w).1)];exact sQ (h w hw)
def Th (h:CA r)(e:Env)(o:aw):W5 (rj r.needs e o):=x6 λn hn=>by
 unfold BI;split
 .exact Ob ((gH h).2 n hn) (qw h n hn)
 .intro q hq;cases hq
def aag (h:CA r)(e:Env)(nm ft:aw):W5 (ja r.needs e nm ft):=x6 λn hn=>by
 have hN:=(gH h).2 n hn;unfold rT;split
 .rename_i hc;refine S8 ?_ (It ?_)
  .split
   .intro q hq;cases hq
   .exact Ob hN (qw h n hn)
  .show nm≠[];rw[<-hc.1.2];exact sQ (qw h n hn _ (aq hN.1.1))
 .intro q hq;cases hq
def GC (h:CA r)(e:Env)(ft:aw):W5 (cL r e ft):=by
 unfold cL;split
 .exact Th h e []
 .refine S8 (It (D3 h)) (x6 λs _=>?_);unfold mD;split
  .exact It (D3 h)
  .split
   .exact Th h e _
   .exact aag h e _ _
def Oc {y:cu}(hy:p0 y)(k:Key):W5 (cJ y k):=by
 unfold cJ;split
 .obtain⟨⟨⟨m,hm,hM⟩,_⟩,_⟩:=hy;intro r hr a ha;rw[hm]at hr;rw[aF.1 hr]at ha;rw[aF.1 ha];exact D3 (Cd hM)
 .exact x6 λx hx=>GC ((x9 hy k).2 x hx).1 y.e k.f
def yo {y:cu}(hy:p0 y){all:Α}(h:mZ y=some all):KS all/\∀k∈all,NmK k:=by
 have:=aaM (Oc hy) 49 (s:=nM) ⟨by simp[KS,nM],λk hk=>.inl (by simpa[nM]using hk)⟩ h;exact⟨this.sort,this.nm⟩
def all_zero {all:Α}(hs:KS all)(hz:eV∈all):all[0]! =eV/\0<all.length:=by
 have h0:=List.length_pos_of_mem hz;refine⟨?_,h0⟩;cases all with
 |nil=>cases hz
 |cons a r=>
  show a=eV;rcases bH.1 hz with h|h
  .exact h.symm
  .have h1:=(List.pairwise_cons.1 hs).1 eV h;by_cases he:a=eV
   .exact he
   .have:=PL h1 (YZ he);rw[px]at this;cases this
def tT {all:Α}(hs:KS all)(hz:eV∈all)(hk:k≠eV):¬cz all k=0:=by
 intro h;unfold cz at h;rcases ew (f:=λx=>decide (x=k)) (l:=all) (k:=0)with⟨h1,_⟩|⟨j,h1,_,h3,_⟩
 .rw[h1]at h;cases h
 .rw[h1]at h;obtain rfl:j=0:=ae;rw[(all_zero hs hz).1]at h3;exact hk (of_decide_eq_true h3).symm
def abI:∀a∈bQ,∀b∈bQ,iO a b<0\/a=b\/iO b a<0:=by decide+kernel
def TU:∀a∈bQ,∀b∈bQ,∀c∈bQ,iO a b<0->iO b c<0->iO a c<0:=by decide+kernel
def Xf:=∀s∈shop,∀x∈s.es,x.r.v∈bQ
def abh {s:bz}(h:gA s=true){i:Nat}(hij:i<j)(hj:j<s.es.length)(hn:s.es[i]!.r.name=s.es[j]!.r.name)(hv:gN s.es[j]!.r.v=true):¬s.es[i]!.r.v=s.es[j]!.r.v:=by
 intro e;simp only[gA,aD,bw,sy,aT]at h;have h1:=(h.2 j (Nat.zero_le _) hj).2;rw[Qg]at h1;have h2:=h1 s.es[i]! (by
  have:i<(s.es.take j).length:=by rw[eE];omega
  have h3:=aq this;rw[List.getElem!_eq_getElem?_getD,List.getElem?_take_of_lt hij,<-List.getElem!_eq_getElem?_getD]at h3;exact h3)
 unfold BA at h2;rw[aY hn,e,zE hv]at h2;cases h2
def ltE (es:ω)(a b:Int):Prop:=(es[a.toNat]!.r.v∈bQ/\es[b.toNat]!.r.v∈bQ)/\iO es[a.toNat]!.r.v es[b.toNat]!.r.v<0
def akW (a b c:Int)(h1:ltE es a b)(h2:ltE es b c):ltE es a c:=⟨⟨h1.1.1,h2.1.2⟩,TU _ h1.1.1 _ h1.1.2 _ h2.1.2 h1.2 h2.2⟩
def wx {s:bz}(h:gA s=true)(hv:∀x∈s.es,x.r.v∈bQ)(nm:aw):∀i,i<=s.es.length->(eG s.es nm i).Pairwise (ltE s.es)/\∀x∈eG s.es nm i,s.es[x.toNat]!.r.name=nm
 |0,_=>⟨List.Pairwise.nil,λx hx=>(by cases hx)⟩
 |i+1,hi=>by
  obtain⟨h1,h2⟩:=wx h hv nm i ae;rw[eG];split
  .rename_i hn;have hiv:=hv _ (aq (show i<s.es.length by omega));have hvb:gN s.es[i]!.r.v=true:=(sA _ hiv).2;have hin:=(xR s.es nm i).2;refine⟨?_,λx hx=>?_⟩
   .unfold Dn zm;rw[dN,cG];refine Mt (lt:=ltE s.es) akW h1 (λx hx hp=>?_) (λx hx hp=>?_)
    .have:=hin x hx;rw[aT]at hp;refine⟨⟨hv _ (aq ae), ?_⟩, ?_⟩<;>rw[Int.toNat_natCast]
     .exact hiv
     .exact hp
    .have hxr:=hin x hx;have hxv:=hv _ (aq (show x.toNat<s.es.length by omega));rw[bR]at hp;refine⟨⟨?_,hxv⟩, ?_⟩<;>rw[Int.toNat_natCast]
     .exact hiv
     .rcases abI _ hxv _ hiv with h3|h3|h3
      .exact absurd h3 hp
      .exact absurd h3 (abh h (show x.toNat<i by omega) ae (by rw[h2 x hx,hn]) hvb)
      .exact h3
   .rcases Dp hx with h3|h3
    .exact h2 x h3
    .rw[h3,Int.toNat_natCast];exact hn
  .exact⟨h1,h2⟩
def zq {y:cu}{nm:aw}{a:Nat}:∀(l:Δ),(gZ y nm a l).Sublist (l.map λi=>⟨y.shop[a]!.es[i.toNat]!.r,(a:Int)⟩)
 |[]=>List.Sublist.slnil
 |i::r=>by
  rw[gZ,List.map_cons];split
  .exact(zq r).cons₂ _
  .exact(zq r).cons _
def RcLt (a b:qM):Prop:=iO a.r.v b.r.v<0
def Vk {y:cu}(h:p0 y)(hv:Xf y.shop)(nm:aw):(dc y nm).Pairwise RcLt:=by
 unfold dc;split
 .exact List.pairwise_singleton _ _
 .split
  .exact List.Pairwise.nil
  .rename_i h1;have h1:(cA y.shop y.pins nm).2.2=0:=Classical.not_not.1 h1;have h2:(dy y.shop y.pins nm).2=0:=by
    unfold cA at h1;split at h1
    .rename_i h3;exact absurd h1 h3
    .rename_i h3;exact Classical.not_not.1 h3
   obtain⟨hB,j,hj,hjl⟩:=ou h2;have e1:cA y.shop y.pins nm=((j:Int),jk y.shop[j]! nm,0):=by
    unfold cA;rw[ah (λh=>h h2),hj,Int.toNat_natCast]
   rw[e1];simp only[Int.toNat_natCast];have hs:=tZ hB hjl;have e2:jk y.shop[j]! nm=eG y.shop[j]!.es nm y.shop[j]!.es.length:=by unfold jk;rw[hs,ah aJ]
   rw[e2];have h3:=(wx hs (hv _ (aq hjl)) nm _ (aR _)).1;refine List.Pairwise.sublist (zq _) ?_;rw[List.pairwise_map];exact h3.imp λh=>h.2
def Tc {y:cu}(h:p0 y)(hv:Xf y.shop)(k:Key):(ei y k).Pairwise RcLt:=List.Pairwise.sublist List.filter_sublist (Vk h hv k.n)
def qm {y:cu}(h:p0 y)(hv:Xf y.shop)(hm:∀m∈y.l,m.r.v∈bQ)(nm:aw):∀x∈dc y nm,x.r.v∈bQ:=by
 unfold dc;split
 .rename_i h0;intro x hx;rw[aF.1 hx];obtain⟨j,hj,hjl⟩:=(rl y.l nm).resolve_left ae;rw[hj,Int.toNat_natCast];exact hm _ (aq hjl)
 .split
  .intro x hx;cases hx
  .rename_i h1;have h1:(cA y.shop y.pins nm).2.2=0:=Classical.not_not.1 h1;have h2:(dy y.shop y.pins nm).2=0:=by
    unfold cA at h1;split at h1
    .rename_i h3;exact absurd h1 h3
    .rename_i h3;exact Classical.not_not.1 h3
   obtain⟨hB,j,hj,hjl⟩:=ou h2;have e1:cA y.shop y.pins nm=((j:Int),jk y.shop[j]! nm,0):=by
    unfold cA;rw[ah (λh=>h h2),hj,Int.toNat_natCast]
   rw[e1];simp only[Int.toNat_natCast];intro x hx;obtain⟨⟨i,hi,e⟩,_⟩:=(oA (y:=y) (nm:=nm) (a:=j) _).2 x hx;have:=(qk y.shop[j]! nm).2 i hi;rw[e];exact hv _ (aq hjl) _ (aq ae)
def Xg (w:Want):Prop:=(0<w.u/\w.u<(n:Int))/\wL w.s=true
def Hl {n:Nat}{l:θ}(h:∀w∈l,Xg n w):pU (n:Int) l=true:=by
 unfold pU;rw[bw];intro j _ hj;obtain⟨⟨h1,h2⟩,h3⟩:=h _ (aq hj);unfold tn;rw[aY h1,aY h2,h3];rfl
def LZ {n:Nat}{c:eI}(h1:c.needs.length<=24)(h2:c.bars.length<=24)(h3:∀r∈c.needs,(0<r.length/\r.length<=24)/\∀w∈r,Xg n w)(h4:∀w∈c.bars,Xg n w):nd (n:Int) c=true:=by
 unfold nd;rw[aY h1,aY h2,Hl h4,gW,eh,eh,bw];intro j _ hj;obtain⟨⟨h5,h6⟩,h7⟩:=h3 _ (aq hj);unfold rX;rw[Hl h7,aY h5,aY h6];rfl
def afJ {s:cy}{v:b6}(hv:v∈bQ)(h:s∈hR\/s=dS v):wL s=true:=by
 rcases h with h|rfl
 .exact Oi _ h
 .exact(sA v hv).1
structure qP (y:cu):Prop where
 p:p0 y
 v:Xf y.shop
 m:∀m∈y.l,m.r.v∈bQ
def Io (h:k.n≠[]):k≠eV:=λe=>h (by rw[e];rfl)
def XB {y:cu}{all:Α}{x:qM}(hx:CA x.r)(hxv:x.r.v∈bQ)(hz:eV∈all)(hs:KS all)(hcl:∀row∈cL x.r y.e k.f,∀a∈row,a.k∈all)(hw:oU (cS y all k x)=false):nd (all.length:Int) (cS y all k x)=true:=by
 have hC:=Sf hx hcl hw;have h1:=DK x.r y.e k.f;have hnm:=GC hx y.e k.f;refine LZ hC.1.2.1 hC.1.2.2 (λr hr=>?_) (λw hwb=>?_)
 .have h2:=hC.2.1 r hr;refine⟨ae,λw hwr=>?_⟩;have h3:=h2.2 w hwr;obtain⟨q,hq,rfl⟩:=oQ hr;obtain⟨a,ha,rfl⟩:=bI.1 hwr;have h4:=tT hs hz (Io (hnm q hq a ha));dsimp only at h3⊢;exact⟨⟨mQ,h3.2⟩,afJ hxv (h1 q hq a ha)⟩
 .have h3:=hC.2.2 w hwb;have hwb:w∈(if k.f=[]then si all x.r y.e else []):=hwb;split at hwb
  .obtain⟨b,hb,hwb2⟩:=List.mem_flatMap.1 hwb;unfold pJ at hwb2;split at hwb2
   .rw[aF.1 hwb2]at h3⊢;have hbn:b.name≠[]:=by
     obtain⟨⟨_,_,hp⟩,_⟩:=hx;have h0:(vo x.r).1=0:=by grind [eD]
     obtain⟨i,hi,rfl⟩:=ff hb;have h5:=qX h0 i hi;have h6:di x.r.bars[i]!.name=true:=by grind [sg,gO]
     exact sQ h6
    have h4:=tT hs hz (Io (k:=⟨b.name,[]⟩) hbn);dsimp only at h3;exact⟨⟨mQ,h3.2⟩,afF _⟩
   .cases hwb2
  .cases hwb
def UF {y:cu}{all:Α}(hy:qP y)(hz:eV∈all)(hs:KS all)(hcl:∀row∈cJ y k,∀a∈row,a.k∈all)(h:(dW y all k).2=true):
  (k=eV->(dW y all k).1.length=1)/\∀i,i<(dW y all k).1.length->nj all.length (dW y all k).1 i=true:=by
 have hC:=y6 hy.p hcl h;unfold dW at*
 by_cases hk:k=eV
 .rw[ak hk]at hC⊢;refine⟨λ_=>rfl,λi hi=>?_⟩;obtain rfl:i=0:=by simpa using hi
  have hrow:cJ y k=eH y.l:=by unfold cJ;rw[ak hk]
  have hnm:=Oc hy.p k;rw[hrow]at hcl hnm;obtain⟨⟨hsm,h24,hb24⟩,hn,hb⟩:=hC.2 _ (.head _);unfold nj;show(gN zV&&nd (all.length:Int) ⟨zV,-1,dr all (eH y.l),[]⟩&& !(decide (0<0)&&_))=true;rw[show gN zV=true by decide,LZ h24 hb24 (λr hr=>?_) (λw hw=>by cases hw)]
  .rfl
  .have h2:=hn r hr;refine⟨ae,λw hwr=>?_⟩;have h3:=h2.2 w hwr;obtain⟨q,hq,rfl⟩:=oQ hr;obtain⟨a,ha,rfl⟩:=bI.1 hwr;have h4:=tT hs hz (Io (hnm q hq a ha));refine⟨⟨by dsimp only at h3⊢;omega,h3.2⟩, ?_⟩;obtain⟨⟨⟨m,hm,hM⟩,_⟩,_⟩:=hy.p;have hmv:=hy.m m (by rw[hm];simp);rw[hm]at hq;rw[aF.1 hq]at ha;rw[aF.1 ha];exact(sA _ hmv).1
 .rw[ah hk]at h⊢;refine⟨λe=>absurd e hk, ?_⟩;have hrow:cJ y k=(ei y k).flatMap λx=>cL x.r y.e k.f:=by unfold cJ;rw[ah hk]
  rw[hrow]at hcl;split at h
  .cases h
  .rename_i hw;rw[ah hw];intro i hi;dsimp only at hi⊢;have hi2:i<(ei y k).length:=by simpa using hi
   have e:((ei y k).map (cS y all k))[i]! =cS y all k (ei y k)[i]! :=eu hi2;have hx:=aq hi2;have hlk:(ei y k)[i]! ∈dc y k.n:=(List.mem_filter.1 hx).1;have hv:=qm hy.p hy.v hy.m k.n _ hlk;have hcw:oU (cS y all k (ei y k)[i]!)=false:=by
    cases hq:oU (cS y all k (ei y k)[i]!)with
    |false=>rfl
    |true=>exact absurd (List.any_eq_true.2 ⟨_,bI.2 ⟨_,hx,rfl⟩,hq⟩) hw
   unfold nj;rw[e,XB ((x9 hy.p k).2 _ hx).1 hv hz hs (λrow hr a ha=>hcl row (List.mem_flatMap.2 ⟨_,hx,hr⟩) a ha) hcw];rw[show gN (cS y all k (ei y k)[i]!).v=true from(sA _ hv).2,eh,eh,b8];by_cases h0:0<i
   .rw[eu (show i-1<(ei y k).length by omega)];have hp:=List.pairwise_iff_getElem.1 (Tc hy.p hy.v k) (i-1) i ae hi2 ae;unfold RcLt at hp;rw[<-getElem!_pos (ei y k) (i-1) ae,<-getElem!_pos (ei y k) i hi2]at hp;have hq:¬0<=iO (cS y all k (ei y k)[i-1]!).v (cS y all k (ei y k)[i]!).v:=by
     have:iO (cS y all k (ei y k)[i-1]!).v (cS y all k (ei y k)[i]!).v=iO (ei y k)[i-1]!.r.v (ei y k)[i]!.r.v:=rfl;omega
    rw[bA hq,Bool.and_false]
   .rw[bA h0,Bool.false_and]
def E6 {y:cu}(hy:qP y)(h:(az y).2=true):eK (az y).1=true:=by
 obtain⟨all,hr,hus,hc,hB⟩:=mO hy.p h;obtain⟨hz,h48,hcl⟩:=oL hr;obtain⟨hs,hnm⟩:=yo hy.p hr;obtain⟨h0,hpos⟩:=all_zero hs hz;have hl:(az y).1.us.length=all.length:=by rw[hus,bj]
 have hat:∀i,i<all.length->(az y).1.us[i]! =oR y all all[i]! :=λi hi=>by rw[hus,eu hi]
 have hcv:∀i,i<all.length->_:=λi hi=>UF hy hz hs (hcl _ (aq hi)) (hc i hi)
 unfold eK;rw[hl,aY (show 1<=all.length by omega),aY h48,eh,eh,aD];constructor
 .unfold vv;rw[hat 0 hpos,h0];have:=(hcv 0 hpos).1 h0;rw[h0]at this;show(decide (([]:aw)=[])&&decide (([]:aw)=[])&&decide ((dW y all eV).1.length=1))=true;rw[aY this];rfl
 .rw[bw];intro i _ hi;unfold lJ;rw[hat i hi];have h16:=(y6 hy.p (hcl _ (aq hi)) (hc i hi)).1;have hlen:(az y).1.us.length=all.length:=hl;rw[aD,aD,aD];refine⟨⟨⟨?_, ?_⟩,aY h16⟩, ?_⟩
  .by_cases hi0:0<i
   .have:all[i]!.n≠[]:=by
     rcases hnm _ (aq hi)with e|e
     .exfalso;have:=List.pairwise_iff_getElem.1 hs 0 i hpos hi hi0;rw[<-getElem!_pos all 0 hpos,<-getElem!_pos all i hi,h0,e,px]at this;cases this
     .exact e
    show(!(decide (0<i)&&decide (all[i]!.n=[])))=true;rw[bA this,Bool.and_false];rfl
   .rw[bA hi0];rfl
  .by_cases hi1:1<i
   .rw[hat (i-1) ae];have:=List.pairwise_iff_getElem.1 hs (i-1) i ae hi ae;rw[<-getElem!_pos all (i-1) ae,<-getElem!_pos all i hi]at this;have e:jh (oR y all all[i-1]!) (oR y all all[i]!)=true:=this;rw[e];simp
   .rw[bA hi1];rfl
  .rw[bw,hlen];intro j _ hj;exact(hcv i hi).2 j hj
structure w9 (w:bP)(c:Δ):Prop where
 l:c.length=w.us.length
 z:c[0]! =0
 f:∀i,i<w.us.length->-1<=c[i]! /\c[i]! <(w.us[i]!.ar.length:Int)
theorem EA {i:Nat}{v:Int}(hj:j<c.length):(c.set j v)[i]! =if i=j then v else c[i]! :=by
 simp only[List.getElem!_eq_getElem?_getD,List.getElem?_set]
 grind
def w9.set {k:Nat}(h:w9 w c)(h1:1<=j)(hj:j<w.us.length)(hk:k<w.us[j]!.ar.length):w9 w (c.set j (k:Int)):=by
 have hl:j<c.length:=by have:=h.l;omega
 refine⟨by rw[List.length_set,h.l],by rw[EA hl,ah ae];exact h.z,λi hi=>?_⟩;rw[EA hl];split
 .rename_i e;subst e;omega
 .exact h.f i hi
def Z5 {a b:aw}{v:b6}{t:Bool}(h:w9 w c)(h2:¬mG w.us (gr w.us a b) v t<0):w9 w (c.set (gr w.us a b).toNat (mG w.us (gr w.us a b) v t)):=by
 rcases Ni (us:=w.us) (u:=gr w.us a b) (v:=v) (t:=t)with h3|⟨j,k,h3,h4,h5⟩
 .omega
 .rcases EY (us:=w.us) (a:=a) (b:=b)with h6|⟨i,h6,h7,h8⟩
  .omega
  .rw[h4,h3,Int.toNat_natCast];exact h.set ae ae h5
def Mh {w:bP}{x:dI}:∀{l:Ψ}{c:Δ},w9 w c->w9 w (wi w.us x l c).2
 |[],c,h=>h
 |f::r,c,h=>by
  rw[wi];split
  .exact h
  .rename_i h2;exact Mh (Z5 h h2)
def aam {shop:Β}{x:dI}(h:w9 w c):w9 w (mY shop w.us x c).2:=by
 unfold mY;split
 .exact h
 .rename_i h2;split
  .exact h
  .exact Mh (Z5 h h2)
def ME {shop:Β}{w:bP}:∀{l:Laa}{c:Δ},w9 w c->(wv shop w.us l c).2.1=0->w9 w (wv shop w.us l c).1
 |[],c,h,_=>h
 |x::r,c,h,h2=>by
  rw[wv]at h2⊢;split at h2
  .rename_i h3;exact absurd h2 h3
  .rename_i h3;rw[ah h3];exact ME (aam h) h2
def HN {n i:Nat}(h:i<n):(Ge n n)[i]! =if 1<=i then-1 else 0:=by
 simp only[Ge,List.getElem!_eq_getElem?_getD,List.getElem?_map,List.getElem?_range h]
 grind
def adw (h:eK w=true):w9 w (Ge w.us.length w.us.length):=by
 have h1:=Ro h;have h0:w.us[0]!.ar.length=1:=by
  simp only[eK,vv,aD,aT]at h;exact h.1.2.2
 refine⟨B3 _ _,by rw[HN ae];rfl,λi hi=>?_⟩;rw[HN hi];split
 .omega
 .have:i=0:=ae;subst this;omega
def adB {shop:Β}{e:Env}{l:j8}(h:(je shop e w l).2.1=0):eK w=true/\w9 w (je shop e w l).1:=by
 unfold je at h⊢;split at h
 .cases h
 .rename_i h1;rw[ah h1];split at h
  .cases h
  .rename_i h2;rw[ah h2];have hw:eK w=true:=by grind
   exact⟨hw,ME (adw hw) h⟩
def aeA (hw:eK w=true)(h:w9 w c):dw w c=true:=by
 simp only[dw,sF,zj,hw,eh,aD,aT,bw];exact⟨h.l,λi _ hi=>h.f i (by have:=h.l;omega)⟩
def Wt {f:wZ}(h:f∈iX w c)(hl:c.length=w.us.length):0<=f.unit/\f.unit<(w.us.length:Int):=by
 unfold iX at h;split at h
 .cases h
 .simp only[gF,List.mem_flatMap,List.mem_range]at h;obtain⟨u,hu,h⟩:=h;split at h
  .cases h
  .simp only[BG,fT,kg,List.mem_append,List.mem_flatMap,List.mem_range]at h;have:f.unit=(u:Int):=by
    rcases h with⟨k,_,h⟩|⟨k,_,h⟩<;>split at h<;>first|(cases h;done)|(rw[aF.1 h])
   omega
def xu (e:Env)(w:bP)(l:j8):Int×aw:=
 if(je shop e w l).2.1≠0 then(je shop e w l).2 else if(iX w (je shop e w l).1).length=0 then(0,[])else(35,w.us[(iX w (je shop e w l).1)[0]!.unit.toNat]!.name)
section
variable {shop:Β}{e:Env}{l:j8}
def chk_a (h:¬(je shop e w l).2.1=0):xu shop e w l=((je shop e w l).2.1,(je shop e w l).2.2):=by rw[xu,ak h]
def agB (h:(je shop e w l).2.1=0)(h2:(iX w (je shop e w l).1).length=0):xu shop e w l=(0,[]):=by rw[xu,ah gy,ak h2]
def chk_c (h:(je shop e w l).2.1=0)(h2:¬(iX w (je shop e w l).1).length=0):xu shop e w l=((35:Int),w.us[(iX w (je shop e w l).1)[0]!.unit.toNat]!.name):=by rw[xu,ah gy,ah h2]
def adC (hw:w.sm)(h:(je shop e w l).2.1=0):WrgP w (je shop e w l).1/\dw w (je shop e w l).1=true/\(0<(iX w (je shop e w l).1).length->0<=(iX w (je shop e w l).1)[0]!.unit/\(iX w (je shop e w l).1)[0]!.unit<(w.us.length:Int)):=by
 obtain⟨h1,h2⟩:=adB h;exact⟨⟨hw,by rw[h2.z];exact Int.le_refl _⟩,aeA h1 h2,λh3=>Wt (aq h3) h2.l⟩
end
def fI (us:Η)(c:Δ)(nm:aw):Nat->Ψ
 |0=>[]
 |i+1=>if 0<i/\((us[i]!.name=nm/\¬us[i]!.feat=[])/\0<=c[i]!)then fI us c nm i++[us[i]!.feat]else fI us c nm i
def kC (c:Δ)(u:Nat):Ψ:=fI us c us[u]!.name us.length
def dq (us:Η)(c:Δ)(u:Nat)(x:eI):dI×Int:=
 if x.sh=-1 then(⟨us[u]!.name,x.v,[],0,kC us c u⟩,0)else if x.sh<0\/(shop.length:Int)<=x.sh then(default,12)
 else if iA shop[x.sh.toNat]! us[u]!.name x.v<0 then(default,9)
 else(⟨us[u]!.name,x.v,shop[x.sh.toNat]!.name,shop[x.sh.toNat]!.es[(iA shop[x.sh.toNat]! us[u]!.name x.v).toNat]!.sum,kC us c u⟩,0)
def ec (c:Δ)(u:Nat):eI:=us[u]!.ar[c[u]!.toNat]!
def fu (c:Δ)(u:Nat):Bool:=(decide (u=0) ||decide (c[u]! <0)) ||!decide (us[u]!.feat=[])
def dA (shop:Β)(us:Η)(c:Δ):Nat->Laa×Int
 |0=>([],0)
 |i+1=>if(dA shop us c i).2≠0 then dA shop us c i else if fu us c i=true then dA shop us c i
  else if(dq shop us c i (ec us c i)).2≠0 then([],(dq shop us c i (ec us c i)).2)else((dA shop us c i).1++[(dq shop us c i (ec us c i)).1],0)
def Ib:j8:=⟨⟨[],[],[]⟩,[]⟩
def dQ (w:bP)(c:Δ):Laa×Int:=dA shop w.us c w.us.length
def BE (e:Env)(w:bP)(c:Δ):j8×Int:=
 if((eK w=false\/ea shop=false)\/mw e=false)\/dw w c=false then(Ib,1)else if ¬(iX w c).length=0 then(Ib,37)
 else if ¬(dQ shop w c).2=0 then(Ib,(dQ shop w c).2)else(⟨e,(dQ shop w c).1⟩,0)
section
variable {shop:Β}{us:Η}{i n:Nat}
def Gx (h:¬(dA shop us c i).2=0):∀{n:Nat},i<=n->dA shop us c n=dA shop us c i
 |0,hn=>by obtain rfl:i=0:=ae
           rfl
 |n+1,hn=>by
  rcases dX n i with h1|h1
  .obtain rfl:i=n+1:=ae;rfl
  .have ih:=Gx h h1;rw[dA,ak (by rw[ih];exact h),ih]
def PU (h0:(dA shop us c i).2=0)(h:fu us c i=true):dA shop us c (i+1)=dA shop us c i:=by
 rw[dA,ah (λh=>h h0),ak h]
def Vj (h0:(dA shop us c i).2=0)(h:fu us c i=false){z:dI×Int}(hz:dq shop us c i (ec us c i)=z)(h2:¬z.2=0):dA shop us c (i+1)=([],z.2):=by
 subst hz;rw[dA,ah (λh=>h h0),ah gy,ak h2]
def Gw (h0:(dA shop us c i).2=0)(h:fu us c i=false){x:dI}(hz:dq shop us c i (ec us c i)=(x,0)):dA shop us c (i+1)=((dA shop us c i).1++[x],0):=by
 rw[dA,ah (λh=>h h0),ah gy,hz,ah (λh=>h rfl)]
def tO:∀i,(dA shop us c i).1.length<=i
 |0=>aR _
 |i+1=>by
  have:=tO i;rw[dA];split
  .omega
  .split
   .omega
   .split
    .simp
    .rw[cx,List.length_singleton];omega
def v8 (nm:aw):∀i,(fI us c nm i).length<=i
 |0=>aR _
 |i+1=>by
  have:=v8 nm i;rw[fI];split
  .rw[cx,List.length_singleton];omega
  .omega
def Yb (h:0<i/\((us[i]!.name=nm/\¬us[i]!.feat=[])/\0<=c[i]!)):fI us c nm (i+1)=fI us c nm i++[us[i]!.feat]:=by rw[fI,ak h]
def Ya (h:¬(0<i/\((us[i]!.name=nm/\¬us[i]!.feat=[])/\0<=c[i]!))):fI us c nm (i+1)=fI us c nm i:=by rw[fI,ah h]
end
def Fy (a b:Μ):Prop:=a.length=b.length/\∀i:Nat,i<a.length->a[i]! =true->b[i]! =true
def Fy.N6:Fy a a:=⟨rfl,λ_ _ h=>h⟩
def Fy.tr {a b c:Μ}(h1:Fy a b)(h2:Fy b c):Fy a c:=⟨h1.1.trans h2.1,λi hi h=>h2.2 i (by rw[<-h1.1];exact hi) (h1.2 i hi h)⟩
def Fy.eq {a b:Μ}(h1:Fy a b)(h2:Fy b a):a=b:=by
 apply List.ext_getElem h1.1;intro i hi hj;have e1:=h1.2 i hi;have e2:=h2.2 i hj;rw[getElem!_pos a i hi,getElem!_pos b i hj]at*
 cases ha:a[i]<;>cases hb:b[i]<;>simp_all
def TI (j:Nat)(b:Bool):Fy a (a.set j (a[j]! ||b)):=by
 refine⟨aJ,λi hi h=>?_⟩;by_cases hj:j=i
 .subst hj;rw[List.getElem!_eq_getElem?_getD,List.getElem?_set_self hi];simp[h]
 .rw[List.getElem!_eq_getElem?_getD,List.getElem?_set_ne hj,<-List.getElem!_eq_getElem?_getD];exact h
section
def Cf:∀(l:θ) (is:Μ),Fy is (u6 w c is l)
 |[],is=>.N6 is
 |x::r,is=>(TI is x.u.toNat (iy w c x)).tr (Cf r _)
def Ip:∀(l:Laf) (is:Μ),Fy is (wz w c is l)
 |[],is=>.N6 is
 |x::r,is=>(Cf x is).tr (Ip r _)
def S1 (i:Nat)(is:Μ):Fy is (BC w c i is):=by
 unfold BC;split
 .exact Ip _ _
 .exact .N6 is
def tQ:∀(n:Nat) (is:Μ),Fy is (iP w c n is)
 |0,is=>.N6 is
 |n+1,is=>(tQ n is).tr (S1 n _)
def xZ:∀(n:Nat) (is:Μ),Fy is (j3 w c n is)
 |0,is=>.N6 is
 |n+1,is=>(xZ n is).tr (tQ _ _)
def xw (l:Μ):Nat:=l.countP λb=>b
def Pp:∀{a b:Μ},Fy a b->xw a<=xw b/\(xw a=xw b->a=b)
 |[],[],_=>⟨aR _,λ_=>rfl⟩
 |[],_::_,h=>by simp[Fy]at h
 |_::_,[],h=>by simp[Fy]at h
 |x::a,y::b,h=>by
  have h0:x=true->y=true:=λe=>by have:=h.2 0 aJ;simpa using this (by simpa using e)
  have hr:Fy a b:=⟨by simpa using h.1,λi hi e=>by have:=h.2 (i+1) oZ;simpa using this (by simpa using e)⟩;obtain⟨h1,h2⟩:=Pp hr;unfold xw at*
  rw[List.countP_cons,List.countP_cons];cases x<;>cases y<;>simp_all<;>omega
def Fix (w:bP)(c:Δ)(is:Μ):Prop:=iP w c c.length is=is
def MU {is:Μ}(hl:is.length=c.length):∀n,Fix w c (j3 w c n is)\/n+1<=xw (iP w c c.length (j3 w c n is))
 |0=>by
  obtain⟨h1,h2⟩:=Pp (tQ (w:=w) (c:=c) c.length is);by_cases h:xw is=xw (iP w c c.length is)
  .exact .inl (h2 h).symm
  .exact .inr (by show 0+1<=xw (iP w c c.length is);omega)
 |n+1=>by
  rcases MU hl n with h|h
  .left;show iP w c c.length (iP w c c.length (j3 w c n is))=iP w c c.length (j3 w c n is);rw[show iP w c c.length (j3 w c n is)=j3 w c n is from h];exact h
  .obtain⟨h1,h2⟩:=Pp (tQ (w:=w) (c:=c) c.length (j3 w c (n+1) is));by_cases h3:xw (j3 w c (n+1) is)=xw (iP w c c.length (j3 w c (n+1) is))
   .exact .inl (h2 h3).symm
   .right;have e:xw (j3 w c (n+1) is)=xw (iP w c c.length (j3 w c n is)):=rfl;omega
def adE (l:Μ):xw l<=l.length:=List.countP_le_length
def DJ {is:Μ}(hl:is.length=c.length):Fix w c (j3 w c c.length is):=by
 rcases MU (w:=w) hl c.length with h|h
 .exact h
 .have h1:=(tQ (w:=w) (c:=c) c.length (j3 w c c.length is)).1;have h2:=(xZ (w:=w) (c:=c) c.length is).1;have:=adE (iP w c c.length (j3 w c c.length is));omega
def sG {a b d:Μ}(h1:Fy a b)(h2:Fy b d)(h:a=d):b=a:=by subst h;exact h2.eq h1
def GA:∀{l:θ}{is:Μ},u6 w c is l=is->∀x∈l,x.u.toNat<is.length->iy w c x=true->is[x.u.toNat]! =true
 |[],is,_,x,hx,_,_=>by cases hx
 |y::r,is,h,x,hx,hl,hm=>by
  have e1:is.set y.u.toNat (is[y.u.toNat]! ||iy w c y)=is:=sG (TI is y.u.toNat (iy w c y)) (Cf r _) h.symm;rcases bH.1 hx with rfl|hx
  .rw[hm,Bool.or_true]at e1;rw[<-e1,List.getElem!_eq_getElem?_getD,List.getElem?_set_self hl];rfl
  .refine GA (l:=r) ?_ x hx hl hm;have:u6 w c (is.set y.u.toNat (is[y.u.toNat]! ||iy w c y)) r=is:=h;rw[e1]at this;exact this
def zC:∀{l:Laf}{is:Μ},wz w c is l=is->∀r∈l,∀x∈r,x.u.toNat<is.length->iy w c x=true->is[x.u.toNat]! =true
 |[],is,_,r,hr,_,_,_,_=>by cases hr
 |q::l,is,h,r,hr,x,hx,hl,hm=>by
  have e1:u6 w c is q=is:=sG (Cf q is) (Ip l _) h.symm;rcases bH.1 hr with rfl|hr
  .exact GA e1 x hx hl hm
  .refine zC (l:=l) ?_ r hr x hx hl hm;have:wz w c (u6 w c is q) l=is:=h;rw[e1]at this;exact this
def zB:∀{n:Nat}{is:Μ},iP w c n is=is->∀i,i<n->BC w c i is=is
 |0,is,_,i,hi=>absurd hi (Nat.not_lt_zero i)
 |n+1,is,h,i,hi=>by
  have e1:iP w c n is=is:=sG (tQ n is) (S1 n _) h.symm;rcases dX i n with h1|h1
  .exact zB e1 i h1
  .obtain rfl:i=n:=ae;have:BC w c i (iP w c i is)=is:=h;rw[e1]at this;exact this
end
def uc (h:dw w c=true):iX w c=[]↔∀u,u<c.length->0<=c[u]! ->(∀k,k<(aW w c u).needs.length->yL w c (aW w c u).needs[k]! =true)/\∀k,k<(aW w c u).bars.length->iy w c (aW w c u).bars[k]! =false:=by
 unfold iX;rw[ah jt,gF,List.flatMap_eq_nil_iff];constructor
 .intro g u hu h0;have g1:=g u (List.mem_range.2 hu);rw[ah ae,BG,List.append_eq_nil_iff,fT,kg,List.flatMap_eq_nil_iff,List.flatMap_eq_nil_iff]at g1;refine⟨λk hk=>?_,λk hk=>?_⟩
  .have:=g1.1 k (List.mem_range.2 hk);split at this
   .assumption
   .cases this
  .have:=g1.2 k (List.mem_range.2 hk);split at this
   .cases this
   .rename_i hn;simpa using hn
 .intro g u hu;have hu:=List.mem_range.1 hu;split
  .rfl
  .rename_i h0;obtain⟨g1,g2⟩:=g u hu ae;rw[BG,List.append_eq_nil_iff,fT,kg,List.flatMap_eq_nil_iff,List.flatMap_eq_nil_iff];refine⟨λk hk=>?_,λk hk=>?_⟩
   .rw[ak (g1 k (List.mem_range.1 hk))]
   .rw[ah (by rw[g2 k (List.mem_range.1 hk)];simp)]
def oG (h:dw w c=true):(dC w c).length=c.length:=by
 unfold dC;rw[ah jt,<-(xZ (w:=w) (c:=c) c.length (kM c)).1];simp[kM]
def Oy (h:dw w c=true):(ir w c).length=c.length:=by
 unfold ir tidV;rw[bj,List.length_range,oG h]
theorem nO (h:dw w c=true){i:Nat}(hi:i<c.length):(ir w c)[i]! =if(dC w c)[i]! =true then c[i]! else-1:=by
 have hl:=oG h;unfold ir tidV;simp[hl,hi]
def ET (h:dw w c=true):dw w (ir w c)=true:=by
 have hl:=Oy h;have h2:=h;unfold dw at h2⊢;rw[aD]at h2⊢;refine⟨h2.1, ?_⟩;obtain⟨h3,h4⟩:=me h2.2;unfold sF;rw[aD,aT,bw];refine⟨ae,λj _ hj=>?_⟩;have h5:=h4 j ae;unfold zj;rw[nO h ae,aD,aT,aT];split
 .exact h5
 .omega
def InW (w:bP):=∀u∈w.us,∀c∈u.ar,(∀r∈c.needs,∀x∈r,0<=x.u/\x.u<(w.us.length:Int))/\∀x∈c.bars,0<=x.u/\x.u<(w.us.length:Int)
def Ri (hI:InW w)(h:dw w c=true)(hh:iX w c=[]):iX w (ir w c)=[]:=by
 have hm:=ET h;have hl:=Oy h;have hc:=(uc h).1 hh;have hb:=h;unfold dw at hb;rw[aD]at hb;obtain⟨hlen,hfit⟩:=me hb.2;have hfix:Fix w c (dC w c):=by
  unfold dC;rw[ah jt];exact DJ (by simp[kM])
 have hnl:=oG h;rw[uc hm];intro u hu h0;rw[hl]at hu;rw[nO h hu]at h0;have hn:(dC w c)[u]! =true:=by
  cases hq:(dC w c)[u]! with
  |true=>rfl
  |false=>rw[hq,ah aJ]at h0;exact absurd h0 aX
 rw[hn,ak rfl]at h0;have hcu:=hfit u hu;have e1:aW w (ir w c) u=aW w c u:=by unfold aW;rw[nO h hu,hn,ak rfl]
 rw[e1];have hmem:aW w c u∈w.us[u]!.ar:=aq ae;obtain⟨hI1,hI2⟩:=hI _ (aq ae) _ hmem;have hstep:=zB hfix u hu;unfold BC at hstep;rw[hn,ak rfl]at hstep;obtain⟨g1,g2⟩:=hc u hu h0;refine⟨λk hk=>?_,λk hk=>?_⟩
 .have hr:=aq hk;obtain⟨x,hx,hmx⟩:=List.any_eq_true.1 (show(aW w c u).needs[k]!.any (iy w c)=true from g1 k hk);have hx2:=hI1 _ hr x hx;have hnx:=zC hstep _ hr x hx ae hmx;refine List.any_eq_true.2 ⟨x,hx, ?_⟩;unfold iy at hmx⊢;rw[nO h (show x.u.toNat<c.length by omega),hnx,ak rfl];exact hmx
 .have hx2:=hI2 _ (aq hk);cases hq:iy w (ir w c) (aW w c u).bars[k]! with
  |false=>rfl
  |true=>
   have g3:=g2 k hk;unfold iy at hq g3;rw[nO h (show(aW w c u).bars[k]!.u.toNat<c.length by omega)]at hq;split at hq
   .rw[hq]at g3;cases g3
   .simp at hq
def ade {ns:Ψ}{i:Nat}(h:i<ns.length)(e:ns[i]! =nm):fe ns nm=ns:=by
 unfold fe;rw[ak (by rw[<-e];exact aq h)]
def Xh {ns:Ψ}(h:∀j,j<ns.length->ns[j]! ≠nm):fe ns nm=ns++[nm]:=by
 unfold fe;rw[ah];intro hm;obtain⟨j,hj,e⟩:=List.getElem_of_mem hm;exact h j hj (by simpa[hj]using e)
section
variable {m:Γ}{lf k:Nat}{a b c d X:ζ}{r:Ι}{ds:Θ}
def HS {l n:Nat}{es:Θ}(h:look m l=some (.buf 1 es))(hn:es.length=n):((aK m l).drop 0).take n=es:=by
 simp only[aK,h,dN];rw[<-hn,List.take_length]
def aj9 (ns:Ψ)(h:Cx y lf j k ns m):xC m (.pt [.sl 1 [.a],.sl 1 [.sl 10 X]]) (.ptr lf 2 0 0)=fdR y ns:=by
 obtain⟨h1,h2,h3⟩:=h;have e1:aK m lf=[eS j k ns.length]:=by simp only[aK,h1]
 have e2:=HS h2 (bj ..);have e3:=HS h3 (zQ y ns);show D.ref 2 ((aK m lf).map _) 0 0=_;rw[e1];show D.ref 2 [D.agg [xC m (.sl 1 [.a]) (.own j 1 0 ns.length),xC m (.sl 1 [.sl 10 X]) (.own k 1 0 ns.length)]] 0 0=_;rw[show xC m (.sl 1 [.a]) (.own j 1 0 ns.length)=.sl 1 (ns.map D.str)from by simp only[xC];rw[e2,List.map_map];exact ay (D.sl 1) (List.map_congr_left λ_ _=>rfl),
  show xC m (.sl 1 [.sl 10 X]) (.own k 1 0 ns.length)=.sl 1 (dn y ns)from by simp only[xC];rw[e3,dn,List.map_map];exact ay (D.sl 1) (List.map_congr_left λ_ _=>rfl)]
 rfl
def af3 (ns:Ψ)(h:Cx y lf j k ns m):jn m ([.sl 11 a,.sl 2 b,.a,.a,.a,.sl 6 c,.sl 2 d,.pt [.sl 1 [.a],.sl 1 [.sl 10 X]]]::r) (cu.D y (.ptr lf 2 0 0)::ds)=cu.D y (fdR y ns)::jn m r ds:=by
 rw[jn];congr 1;show D.agg [_,_,_,_,_,_,_,xC m (.pt [.sl 1 [.a],.sl 1 [.sl 10 X]]) (.ptr lf 2 0 0)]=_;rw[aj9 y ns h];rfl
def aed (ns:Ψ)(h:Cx y lf j k ns m):WB m (.pt [.sl 1 [.a],.sl 1 [.sl 10 X]]) (.ptr lf 2 0 0):=by
 obtain⟨h1,h2,h3⟩:=h;have e1:aK m lf=[eS j k ns.length]:=by simp only[aK,h1]
 have e2:=HS h2 (bj ..);have e3:=HS h3 (zQ y ns);refine⟨by simp only[ep,h1];exact⟨trivial,Nat.zero_le _⟩, ?_⟩;rw[e1];intro e he;obtain rfl:=aF.1 he;show WB m (.sl 1 [.a]) (.own j 1 0 ns.length)/\WB m (.sl 1 [.sl 10 X]) (.own k 1 0 ns.length)/\aP []=true;refine⟨⟨by simp only[ep,h2];exact⟨trivial,aJ⟩, ?_⟩,⟨by simp only[ep,h3];exact⟨trivial,by rw[zQ];omega⟩, ?_⟩,rfl⟩
 .rw[e2];intro e he;obtain⟨_,_,rfl⟩:=bI.1 he;exact rfl
 .rw[e3];intro e he;obtain⟨_,_,rfl⟩:=bI.1 he;exact rfl
def abU (ns:Ψ)(h:Cx y lf j k ns m)(hr:jb m r ds):jb m ([.sl 11 a,.sl 2 b,.a,.a,.a,.sl 6 c,.sl 2 d,.pt [.sl 1 [.a],.sl 1 [.sl 10 X]]]::r) (cu.D y (.ptr lf 2 0 0)::ds):=by
 rw[jb];refine⟨?_,hr⟩;show _/\_/\_/\_/\_/\_/\_/\WB m (.pt [.sl 1 [.a],.sl 1 [.sl 10 X]]) (.ptr lf 2 0 0)/\_;exact⟨rfl,rfl,rfl,rfl,rfl,rfl,rfl,aed y ns h,rfl⟩
end
def ofT_y {l:List qM}{i:Nat}(h:i<l.length)(hc:ft=[]\/isF l[i]!.r.feats ft=true):(l.take i).filter (Tb ft)++[l[i]!]=(l.take (i+1)).filter (Tb ft):=by
 rw[Gn h,ak];unfold Tb;rcases hc with h|h
 .rw[aY h];rfl
 .rw[h,Bool.or_true]
def ofT_n {l:List qM}{i:Nat}(h:i<l.length)(hc:¬ft=[]/\isF l[i]!.r.feats ft=false):(l.take i).filter (Tb ft)=(l.take (i+1)).filter (Tb ft):=by
 rw[Gn h,ah,gw];unfold Tb;rw[bA hc.1,hc.2];simp
def T1 {y:cu}(h:p0 y):y.l.length<=1000:=by
 obtain⟨⟨⟨m,hm,_⟩,_⟩,_⟩:=h;rw[hm];simp
def TD {y:cu}(h:k=eV):cJ y k=eH y.l:=by unfold cJ;rw[ak h]
def TC {y:cu}(h:¬k=eV):cJ y k=(ei y k).flatMap λx=>cL x.r y.e k.f:=by unfold cJ;rw[ah h]
def YX {ns:Ψ}(h:k=eV):jD ns k=ns:=by unfold jD;rw[ak h]
def PJ {ns:Ψ}(h:¬k=eV):jD ns k=fe ns k.n:=by unfold jD;rw[ah h]
def agY {y:cu}(hy:qP y){i:Nat}(h:i<(ei y k).length):CA (ei y k)[i]!.r/\(ei y k)[i]!.r.v∈bQ:=by
 have hx:=aq h;exact⟨((x9 hy.p k).2 _ hx).1,qm hy.p hy.v hy.m k.n _ (List.mem_filter.1 hx).1⟩
def Cu (l k:Nat)(es:Θ)(y:cu)(a b c d:Nat):jj l k es (cu.D y (.ptr a b c d))=cu.D y (jj l k es (.ptr a b c d)):=rfl
def nI (l k:Nat)(es:Θ)(ns:Ψ):pf l k es (ns.map D.str)=ns.map D.str:=ki l k es _ (Ji ns)
def nH (l k:Nat)(es:Θ)(y:cu)(ns:Ψ):pf l k es (dn y ns)=dn y ns:=ki l k es _ (jo y ns)
def rp:D:=match mZ y with
 |none=>.tup [.sl 2 [],.bool false]
 |some all=>.tup [.sl 2 (all.map Key.D),.bool true]
def Bf (b:Α)(o c:Nat)(l:Α):Prop:=c=l.length/\b.drop o=l/\o+c=b.length
structure RcS where
 n:Nat
 s:pI
 b:Α
 o:Nat
 c:Nat
 nn:Ψ
structure RcT where
 i:Nat
 t:pI
 b:Α
 o:Nat
 c:Nat
structure RcU where
 j:Nat
 u:pI
 b:Α
 o:Nat
 c:Nat
def Uu (ns:Ψ)(p:RcS):Prop:=(p.n<=48/\Uv y p.s/\p.n+p.s.todo.length=p.s.all.length)/\(p.nn.length<=ns.length+p.n/\mZ y=BM y (49-p.n) p.s/\sV y 49 nM ns=sV y (49-p.n) p.s p.nn)/\Bf p.b p.o p.c p.s.todo
def Uw (s:pI)(p:RcT):Prop:=p.i<=(cJ y s.todo[0]!).length/\p.t=Qo ⟨s.all,s.todo.drop 1⟩ ((cJ y s.todo[0]!).take p.i)/\Bf p.b p.o p.c p.t.todo/\p.t.all.length+p.t.todo.length<=96+6*p.i
def O8 (row:fS)(t:pI)(i:Nat)(p:RcU):Prop:=p.j<=row.length/\p.u=(row.take p.j).foldl mI t/\Bf p.b p.o p.c p.u.todo/\p.u.all.length+p.u.todo.length<=96+6*i+2*p.j
def ama (ns:Ψ):Uu y ns ⟨0,nM,[eV],0,1,ns⟩:=⟨⟨aJ,aaK y,rfl⟩,⟨aR _,rfl,rfl⟩,rfl,rfl,rfl⟩
def aiN {l:Α}{o:Nat}(h:b.drop o=l)(h0:0<l.length):b[o+0]! =l[0]! :=by
 subst h;rw[jS]at h0;simp
def aiM {l:Α}{o c:Nat}(h1:c=l.length)(h2:b.drop o=l)(k:Key):((b.map Key.D).drop o).take c++[Key.D k]=(l++[k]).map Key.D:=by
 rw[<-List.map_drop,h2,h1,Hh,List.map_append];rfl
def aiO (l:Α){c:Nat}(h:c=l.length)(k:Key):Bf (l++[k]) 0 (c+1) (l++[k]):=⟨gy,rfl,gy⟩
def ams {s:pI}{o c:Nat}(h1:c=s.todo.length)(h2:b.drop o=s.todo)(h3:o+c=b.length)(h0:0<s.todo.length)(h48:s.all.length<=48)(hle:s.todo.length<=s.all.length):Uw y s ⟨0,⟨s.all,s.todo.drop 1⟩,b,o+1,c-1⟩:=by
 refine⟨Nat.zero_le _,rfl,⟨?_, ?_, ?_⟩, ?_⟩
 .simp only[jS];omega
 .simp only;rw[<-h2,List.drop_drop]
 .simp only;omega
 .simp only[jS];omega
def amx (row:fS){i:Nat}{o c:Nat}(h1:c=t.todo.length)(h2:b.drop o=t.todo)(h3:o+c=b.length)(h:t.all.length+t.todo.length<=96+6*i):O8 row t i ⟨0,t,b,o,c⟩:=⟨Nat.zero_le _,rfl,⟨h1,h2,h3⟩,rL⟩
def Wj [Inhabited α]{l:List α}{i:Nat}(h:i<l.length):l.take (i+1)=l.take i++[l[i]!]:=by
 rw[List.take_add_one,List.getElem?_eq_getElem h];simp[h]
def Su (h:j<row.length):(row.take (j+1)).foldl mI t=mI ((row.take j).foldl mI t) row[j]! :=by
 have e:row.take (j+1)=row.take j++[row[j]!]:=by
  rw[List.take_add_one,List.getElem?_eq_getElem h];simp[h]
 rw[e,List.foldl_append];rfl
def afk (l:Α)(k:Key):(sT l k).length<=l.length+1:=by
 rcases DX l k with⟨h,_⟩|⟨h,_⟩
 .rw[h];omega
 .omega
def amz {u:pI}{i:Nat}{o c:Nat}(h:O8 row t i ⟨j,u,b,o,c⟩)(hj:j<row.length)(hc:u.all.length<(sT u.all row[j]!.k).length):O8 row t i ⟨j+1,⟨sT u.all row[j]!.k,u.todo++[row[j]!.k]⟩,u.todo++[row[j]!.k],0,c+1⟩:=by
 obtain⟨h1,h2,⟨h3,_⟩,h4⟩:=h;simp only at h1 h2 h3 h4;have:=afk u.all row[j]!.k;refine⟨hj, ?_,aiO _ h3 _, ?_⟩
 .simp only;rw[Su hj,<-h2,mI,ak hc]
 .simp only[cx,List.length_singleton];omega
def amy {u:pI}{i:Nat}{o c:Nat}(h:O8 row t i ⟨j,u,b,o,c⟩)(hj:j<row.length)(hc:¬u.all.length<(sT u.all row[j]!.k).length):O8 row t i ⟨j+1,u,b,o,c⟩:=by
 obtain⟨h1,h2,h3,h4⟩:=h;simp only at h1 h2 h3 h4;refine⟨hj, ?_,h3,rL⟩;simp only;rw[Su hj,<-h2,mI,ah hc]
def amt {y:cu}{s u:pI}{i:Nat}{b1 b2:Α}{o1 c1 o2 c2:Nat}(h:Uw y s ⟨i,t,b1,o1,c1⟩)(hU:O8 (cJ y s.todo[0]!)[i]! t i ⟨j,u,b2,o2,c2⟩)(hi:i<(cJ y s.todo[0]!).length)(hj:(cJ y s.todo[0]!)[i]!.length<=j)(hr:(cJ y s.todo[0]!)[i]!.length<=3):Uw y s ⟨i+1,u,b2,o2,c2⟩:=by
 obtain⟨h1,h2,_,h4⟩:=h;obtain⟨g1,g2,g3,g4⟩:=hU;simp only at h1 h2 h4 g1 g2 g3 g4;refine⟨hi, ?_,g3,rL⟩;have e:=Wj hi;simp only;rw[e,Qo,List.foldl_append,g2,gG hj,h2];rfl
def amb {y:cu}{ns nn:Ψ}{n i:Nat}{s:pI}{b1:Α}{o c o1 c1:Nat}(h:Uu y ns ⟨n,s,b,o,c,nn⟩)(hT:Uw y s ⟨i,t,b1,o1,c1⟩)(h0:0<s.todo.length)(hi:(cJ y s.todo[0]!).length<=i)(h48:¬48<t.all.length):Uu y ns ⟨n+1,t,b1,o1,c1,jD nn s.todo[0]!⟩:=by
 obtain⟨⟨p1,p2,p3⟩,⟨q1,q2,q3⟩,_⟩:=h;obtain⟨_,t2,t3,_⟩:=hT;simp only at p1 p2 p3 q1 q2 q3 t2 t3;rw[gG hi]at t2;have t2:t=BN y s:=t2;have hl:=(Tw y h0).1.len;rw[<-t2]at hl;simp only[jS]at hl;have h6:=p2.len.2;have e:49-n=(49-(n+1))+1:=ae;have hk:=Du nn s.todo[0]!;refine⟨⟨rL,t2▸aaO p2 h0 (by rw[<-t2];omega),rL⟩,⟨rL, ?_, ?_⟩,t3⟩
 .simp only;rw[q2,e,BM,ah ae,ah (by rw[<-t2];exact h48),t2]
 .simp only;rw[q3,e,sV,ah ae,ah (by rw[<-t2];exact h48),t2]
def D5 {y:cu}{ns nn:Ψ}{n i:Nat}{s:pI}{b1:Α}{o c o1 c1:Nat}(h:Uu y ns ⟨n,s,b,o,c,nn⟩)(hT:Uw y s ⟨i,t,b1,o1,c1⟩)(h0:0<s.todo.length)(hi:(cJ y s.todo[0]!).length<=i)(h48:48<t.all.length):rp y=.tup [.sl 2 [],.bool false]/\sV y 49 nM ns=jD nn s.todo[0]! :=by
 obtain⟨⟨p1,p2,p3⟩,⟨q1,q2,q3⟩,_⟩:=h;obtain⟨_,t2,_⟩:=hT;simp only at p1 p2 p3 q1 q2 q3 t2;rw[gG hi]at t2;have t2:t=BN y s:=t2;have e:49-n=(49-(n+1))+1:=ae;constructor
 .unfold rp;rw[q2,e,BM,ah ae,ak (by rw[<-t2];exact h48)]
 .rw[q3,e,sV,ah ae,ak (by rw[<-t2];exact h48)]
def zP {y:cu}{ns nn:Ψ}{n:Nat}{s:pI}{o c:Nat}(h:Uu y ns ⟨n,s,b,o,c,nn⟩)(h0:s.todo.length=0):rp y=.tup [.sl 2 (s.all.map Key.D),.bool true]/\sV y 49 nM ns=nn:=by
 obtain⟨⟨p1,p2,p3⟩,⟨q1,q2,q3⟩,_⟩:=h;simp only at p1 q2 q3;have e:49-n=(49-(n+1))+1:=ae;constructor
 .unfold rp;rw[q2,e,BM,ak h0]
 .rw[q3,e,sV,ak h0]
def BS (w:bP)(c:Δ)(i:Nat):Δ:=(List.range i).map λi=>if(dC w c)[i]! =true then c[i]! else-1
def abo (w:bP)(c:Δ)(i:Nat):(BS w c i).length<=i:=by unfold BS;rw[bj,List.length_range];omega
def amq {i:Nat}(h:(dC w c)[i]! =true):BS w c i++[c[i]!]=BS w c (i+1):=by
 unfold BS;rw[List.range_succ,List.map_append,List.map_singleton,ak h]
def amp {i:Nat}(h:(dC w c)[i]! =false):BS w c i++[-1]=BS w c (i+1):=by
 unfold BS;rw[List.range_succ,List.map_append,List.map_singleton,ah jt]
def MX (w:bP)(c:Δ):(dC w c).length<=c.length:=by
 cases h:dw w c with
 |true=>exact Nat.le_of_eq (oG h)
 |false=>unfold dC;rw[ak h];exact Nat.zero_le _
section
variable {y:cu}{all:Α}{x:qM}{i:Nat}
def L2 (h:k=eV):dW y all k=([⟨zV,-1,dr all (eH y.l),[]⟩],true):=ak h
def adA (h:k.f=[]):(⟨x.r.v,x.sh,dr all (cL x.r y.e k.f),si all x.r y.e⟩:eI)=cS y all k x:=by unfold cS;rw[ak h]
def adz (h:¬k.f=[]):(⟨x.r.v,x.sh,dr all (cL x.r y.e k.f),[]⟩:eI)=cS y all k x:=by unfold cS;rw[ah h]
def L1 (h:¬k=eV)(hi:i<(ei y k).length)(hw:24<(cS y all k (ei y k)[i]!).needs.length\/24<(cS y all k (ei y k)[i]!).bars.length):dW y all k=([],false):=by
 unfold dW;rw[ah h,ak];rw[List.any_map,List.any_eq_true];refine⟨_,aq hi, ?_⟩;show oU _=true;unfold oU;rcases hw with h|h<;>rw[aY h]<;>simp
def Se (hi:i<(ei y k).length)(h:(((ei y k).take i).map (cS y all k)).any oU=false)(hn:¬24<(cS y all k (ei y k)[i]!).needs.length/\¬24<(cS y all k (ei y k)[i]!).bars.length):(((ei y k).take (i+1)).map (cS y all k)).any oU=false:=by
 rw[map_take hi,List.any_append,h,List.any_cons,List.any_nil];unfold oU;rw[bA hn.1,bA hn.2];rfl
def L0 (h:¬k=eV)(hw:((ei y k).map (cS y all k)).any oU=false):dW y all k=((ei y k).map (cS y all k),decide ((dc y k.n).length<=16)):=by
 unfold dW;rw[ah h,ah (by rw[hw];simp)]
def Ux (nm:aw):fe (fe ns nm) nm=fe ns nm:=by
 have:nm∈fe ns nm:=by
  unfold fe;split
  .assumption
  .simp
 rw[fe,ak this]
end
def sn (all:Α)(k:Key):D:=.tup [.sl 8 ((dW y all k).1.map eI.D),.bool (dW y all k).2]
def Po (l k:Nat)(es:Θ)(c:eI):jj l k es (eI.D c)=eI.D c:=rfl
def iT:Α:=(mZ y).getD []
def okY:Bool:=(mZ y).isSome
def GS:rp y=.tup [.sl 2 ((iT y).map Key.D),.bool (okY y)]:=by
 unfold rp iT okY;cases mZ y<;>rfl
def Xj:(iT y).length<=48:=by
 unfold iT;cases h:mZ y with
 |none=>simp
 |some all=>exact(oL h).2.1
section
variable {y:cu}{i:Nat}
def ZF (y:cu)(i:Nat):Bool:=okY y&&(nT y (iT y) i).2
def yO (y:cu)(i:Nat):Η:=(nT y (iT y) i).1
def ZB (y:cu)(i:Nat):Ψ:=abL (iT y) (sV y 49 nM []) i
def OG:∀i,(yO y i).length<=i
 |0=>aR _
 |i+1=>by
  have:=OG i;unfold yO at this⊢;rw[nT];split
  .rw[cx,List.length_singleton];omega
  .omega
def aeZ (y:cu)(i:Nat):(ZB y i).length<=49+i:=by
 have h1:=ON (iT y) (sV y 49 nM []) i;have h2:=Ns y 49 nM [];unfold ZB;simp only[cj]at h2;omega
def amA (h:ZF y i=true):yO y i++[oR y (iT y) (iT y)[i]!]=yO y (i+1):=by
 unfold ZF at h;rw[aD]at h;unfold yO;rw[nT,ak h.2]
def okS_s (h:ZF y i=true):(dW y (iT y) (iT y)[i]!).2=ZF y (i+1):=by
 unfold ZF at h⊢;rw[aD]at h;rw[nT,ak h.2,h.1];rfl
def nsS_s:jD (ZB y i) (iT y)[i]! =ZB y (i+1):=rfl
def Ho {all:Α}(h:(nT y all i).2=false):∀n,nT y all (i+n)=nT y all i
 |0=>rfl
 |n+1=>by
  have ih:=Ho h n;rw[show i+(n+1)=(i+n)+1 from rfl,nT,ah (by rw[ih,h];simp),ih]
def Wr (hi:i<=(iT y).length)(hc:¬((i:Nat):Int)<((iT y).length:Nat)\/ZF y i=false):az y=(⟨yO y i⟩,ZF y i):=by
 unfold az yO ZF okY iT at*
 cases h:mZ y with
 |none=>
  rw[h]at hi;have:i=0:=by simpa using hi
  subst this;rfl
 |some all=>
  rw[h]at hi hc;simp only[Option.getD_some,Option.isSome_some,eh]at hi hc⊢;rcases hc with hc|hc
  .obtain rfl:i=all.length:=ae;rfl
  .have:=Ho hc (all.length-i);rw[show i+(all.length-i)=all.length by omega]at this;rw[this]
end
def Aa:D:=.tup [bP.D (az y).1,.bool (az y).2]
def WldQ:D->Γ->Prop:=λd _=>d=Aa y
def WldC (Y:Ctx)(n:Nat)(y:cu)(V:D):=∀(nx lf:Nat) (m:Γ) (K:Τ),lf<nx->look m lf=some (.buf 2 [.agg [.aO,.aO]])->K V ⟨nx,de m lf⟩->Y.tr n [cu.D y (.ptr lf 2 0 0)] ⟨nx,m⟩ K
def amB (l k:Nat)(es:Θ)(u:cN):jj l k es (cN.D u)=cN.D u:=rfl
section
variable {l:φ}{shop:Β}{e:Env}{ks:List Kp}
abbrev tq (l:φ)(shop:Β)(e:Env)(ks:List Kp):cu:=⟨l,shop,e,ks,fm l⟩
def adq (h:ea shop=false\/mw e=false):dK l shop e ks=(⟨[]⟩,1):=ak h
def adr {i:Nat}(h:ea shop=true/\mw e=true)(hi:i<(fm l).length)(hn:mK shop (fm l)[i]!.shelf<0):dK l shop e ks=(⟨[]⟩,12):=by
 unfold dK;rw[ah gy,ak];exact List.any_eq_true.2 ⟨_,aq hi,aY hn⟩
def Z0 {i:Nat}(hi:¬i<(fm l).length)(h:∀j,j<i->0<=mK shop (fm l)[j]!.shelf):¬((fm l).any λp=>decide (mK shop p.shelf<0))=true:=by
 intro h1;obtain⟨p,hp,h2⟩:=List.any_eq_true.1 h1;obtain⟨j,hj,rfl⟩:=ff hp;have:=h j ae;simp at h2;rw[List.getElem!_eq_getElem?_getD]at this;omega
def ads (h:ea shop=true/\mw e=true)(hp:¬((fm l).any λp=>decide (mK shop p.shelf<0))=true)(hw:(az (tq l shop e ks)).2=false):dK l shop e ks=(⟨[]⟩,10):=by
 unfold dK;rw[ah gy,ah hp,ak hw]
def adt (h:ea shop=true/\mw e=true)(hp:¬((fm l).any λp=>decide (mK shop p.shelf<0))=true)(hw:¬(az (tq l shop e ks)).2=false):dK l shop e ks=((az (tq l shop e ks)).1,0):=by
 unfold dK;rw[ah gy,ah hp,ah hw]
end
section
variable [cO]{P:Program}{ν:Ξ}{bS:Ε}{t:τ}{fid key u:Nat}{af:aj}{y:cu}{lf:Nat}{m:Γ}{K:Τ}
def abM (hmix:P.follows .mixedOrders=true)(hC:Wu P ν bS fid af)(hnp:1=af.np)(h1:lf<nx)(hat:look m lf=some (.buf 2 [.agg [.aO,.aO]]))(hK:K (Aa y) ⟨nx,de m lf⟩)(hw:dD ((under t key u).at 1) af.body (uV af (WldQ y)) (fV af [cu.D y (.ptr 0 2 0 0)]) ⟨1,[(0,.buf 2 [.agg [.aO,.aO]])]⟩):vj P ν bS (under t key u) fid [cu.D y (.ptr lf 2 0 0)] ⟨nx,m⟩ K:=by
 have g3:gQ 0 1 [(lf,0)]=true:=by simp[gQ]
 have g4:∀l i,(l,i)∈[(lf,0)]->look m l≠none:=by
  intro l i h;obtain⟨rfl,rfl⟩:=Prod.mk.inj (aF.1 h);rw[hat];simp
 have g5:∀i b,look [(0,bo.buf 2 [.agg [.aO,.aO]])] i=some b->∃l b',(l,i)∈[(lf,0)]/\look m l=some b'/\qN 0 [(lf,0)] b' b:=by
  intro i b h;simp only[look]at h;split at h
  .rename_i e;subst e;obtain rfl:=aZ h;exact⟨lf,_,.head _,hat,rfl,.inl ⟨rfl,rfl⟩⟩
  .cases h
 refine Ml (σi:=[(lf,0)]) (cs:=[cu.D y (.ptr 0 2 0 0)]) (λq=>Hj t key u q) hmix hC rfl ?_ hnp g3 g4 g5 hw ?_
 .intro i hi
  match i,hi with
  |0,_=>exact .inr (.inl (by simp[cu.D,tW,ru,Wa,m8]))
 .rintro d m1 rfl;refine⟨[(0,lf)],1,⟨nx,de m lf⟩,Aa y,⟨g3,by simp[gQ,h1],aR _,g4, ?_,g5, ?_⟩,.inl ⟨rfl,rfl⟩,hK⟩
  .intro i l h;obtain⟨rfl,rfl⟩:=Prod.mk.inj (aF.1 h);exact .inl (.head _)
  .intro l bb h;rw[fF]at h;split at h
   .cases h
   .rename_i hne;exact .inr ⟨by simp only[ow,ah (λe=>hne (Eq.symm e))],(λi hi=>by obtain⟨rfl,_⟩:=Prod.mk.inj (aF.1 hi);exact hne rfl),h⟩
end
def GD:∀{l:Θ}{i:Nat},aP l=true->i<l.length->(l.getD i .any).aV=true
 |d::r,0,h,_=>by simp only[aP,aD]at h;exact h.1
 |d::r,i+1,h,hi=>by
  simp only[aP,aD]at h;exact GD (l:=r) h.2 oZ
def CF {y:cu}{rest:Θ}(hr:aP rest=true):af7 (λf=>cu.D y f::rest):=by
 intro σ l l' h;refine⟨rfl,λi hi=>?_⟩;cases i with
 |zero=>exact .inr (.inl (by simp[cu.D,tW,ru,Wa,h]))
 |succ i=>exact .inl ⟨rfl,GD (l:=rest) hr oZ⟩
def VJ:(rp y).aV=true:=by rw[GS];rfl
section
variable [cO]{P:Program}{ν:Ξ}{bS:Ε}{t:τ}{fid n key u k:Nat}{af:aj}{m:Γ}{K:Τ}
def U5 {lm lc n':Nat}{es es' kvs:Θ}{a b e vd:D}{Q:D->Γ->Prop}(hes:aP es=true)(hes':aP es'=true)(ha:tW 0 [(lc,0),(lm,1)] a=some a)(hb:tW 0 [(lc,0),(lm,1)] b=some b)(he:e.aV=true)(hv:vd.aV=true)(hmix:P.follows .mixedOrders=true)(hC:Wu P ν bS fid af)(hnp:2=af.np)(hn:n'=n)(hlt:lc<nx)(hltm:lm<nx)(h1:look m lc=some (.buf 1 es))(h2:look m lm=some (.mpb kvs))(hK:K vd ⟨nx,cW m lc (.buf 1 es')⟩)(hQ:∀d m,Q d m->d=vd/\look m 0=some (.buf 1 es')/\look m 1=some (.mpb kvs))(hw:dD ((under t key u).at 2) af.body (uV af Q) (fV af [.agg [a,b,.fn 5000000 [.it 1],.own 0 1 0 n],e]) ⟨2,[(0,.buf 1 es),(1,.mpb kvs)]⟩):vj P ν bS (under t key u) fid [.agg [a,b,.fn 5000000 [.it lm],.own lc 1 0 n'],e] ⟨nx,m⟩ K:=by
 subst hn;have hne:lc≠lm:=by rintro rfl;rw[h1]at h2;cases h2
 have b1:Nat.beq lc lm=false:=by rw[<-Bool.not_eq_true];exact λh=>hne (Nat.eq_of_beq_eq_true h)
 have b2:Nat.beq lm lc=false:=by rw[<-Bool.not_eq_true];exact λh=>hne (Nat.eq_of_beq_eq_true h).symm
 have g3:gQ 0 2 [(lc,0),(lm,1)]=true:=by simp[gQ,b1,b2,Nat.blt];exact rfl
 have g4:∀l i,(l,i)∈[(lc,0),(lm,1)]->look m l≠none:=by
  intro l i h;simp only[bH,dm,cX,or_false]at h;rcases h with⟨rfl,_⟩|⟨rfl,_⟩<;>simp[h1,h2]
 have g5:∀i b,look [(0,bo.buf 1 es),(1,.mpb kvs)] i=some b->∃l b',(l,i)∈[(lc,0),(lm,1)]/\look m l=some b'/\qN 0 [(lc,0),(lm,1)] b' b:=by
  intro i b h;simp only[look]at h;split at h
  .rename_i e;subst e;obtain rfl:=aZ h;exact⟨lc,_,.head _,h1,rfl,.inl ⟨rfl,hes⟩⟩
  .split at h
   .rename_i e;subst e;obtain rfl:=aZ h;exact⟨lm,_,.tail _ (.head _),h2,rfl⟩
   .cases h
 refine Ml (σi:=[(lc,0),(lm,1)]) (cs:=[.agg [a,b,.fn 5000000 [.it 1],.own 0 1 0 n'],e]) (λq=>Hj t key u q) hmix hC rfl ?_ hnp g3 g4 g5 hw ?_
 .intro i hi
  match i,hi with
  |0,_=>exact .inr (.inl (by simp[tW,ru,Wa,m8,ha,hb,b1,b2]))
  |1,_=>exact .inl ⟨rfl,he⟩
 .intro d m1 h;obtain⟨rfl,hj,hk⟩:=hQ d m1 h;refine⟨[(0,lc),(1,lm)],2,⟨nx,cW m lc (.buf 1 es')⟩,d,⟨g3,by simp[gQ,hlt,hltm,b1,b2,Nat.blt];exact⟨hlt,rfl,hltm⟩,aR _,g4, ?_,g5, ?_⟩,.inl ⟨rfl,hv⟩,hK⟩
  .intro i l h;simp only[bH,dm,cX,or_false]at h;rcases h with⟨rfl,rfl⟩|⟨rfl,rfl⟩
   .exact .inl (.head _)
   .exact .inl (.tail _ (.head _))
  .intro l bb h;rw[bO]at h;split at h
   .rename_i e;subst e;obtain rfl:=aZ h;exact .inl ⟨0,_,.head _,hj,rfl,.inl ⟨rfl,hes'⟩⟩
   .rename_i h3;by_cases h4:l=lm
    .subst h4;rw[h2]at h;obtain rfl:=aZ h;exact .inl ⟨1,_,.tail _ (.head _),hk,rfl⟩
    .exact .inr ⟨by simp only[ow,ah (λe=>h3 (Eq.symm e)),ah (λe=>h4 (Eq.symm e))],(λi hi=>by
      simp only[bH,dm,cX,or_false]at hi;rcases hi with⟨rfl,_⟩|⟨rfl,_⟩
      .exact h3 rfl
      .exact h4 rfl),h⟩
end
section
variable [cO]{P:Program}{ν:Ξ}{bS:Ε}{t:τ}{fid n key u k:Nat}{af:aj}{m:Γ}{K:Τ}
def sj {a b:Nat}(h:a≠b):Nat.beq a b=false:=by
 cases h2:Nat.beq a b with
 |false=>rfl
 |true=>exact absurd (Nat.eq_of_beq_eq_true h2) h
def Ew {m:Γ}{l lw:Nat}(h:l≠lw):gC (de m lw) l=match look m l with
 |some (.bld (some l2) _ _)=>de (de m lw) l2
 |_=>de m lw:=by
 grind [gC,fF,look]
def Vi {ws:Ψ}{s:aw}{l lw:Nat}(hmix:P.follows .mixedOrders=true)(hC:Wu P ν bS fid af)(hnp:2=af.np)(h1:vi m l s)(h2:look m lw=some (.buf 1 (ws.map D.str)))(h3:l<nx)(h4:lw<nx)(hK:K (.tup []) ⟨nx+1,sk (de m lw) l nx (s++cw ws)⟩)(hw:∀m0,vi m0 0 s->look m0 1=some (.buf 1 (ws.map D.str))->dD ((under t key u).at 3) af.body (uV af (λd m=>d=.tup []/\look m 0=some (.bld (some 9) (s++cw ws).length true)/\look m 9=some (.row (s++cw ws)))) (fV af [.ptr 0 2 0 0,.own 1 1 0 ws.length]) ⟨3,m0⟩):
  vj P ν bS (under t key u) fid [.ptr l 2 0 0,.own lw 1 0 ws.length] ⟨nx,m⟩ K:=by
 have hlw:l≠lw:=by
  rintro rfl;rcases h1 with⟨u,h,_⟩|⟨l2,u,h,_⟩<;>rw[h2]at h<;>cases h
 have hnl:aP (ws.map D.str)=true:=cg (λ_=>rfl) _;have b1:=sj hlw;have b2:=sj (Ne.symm hlw);have b3:=sj (show l≠nx by omega);have b4:=sj (show nx≠l by omega)

 have fin:∀(σi:Ξ) (m0:Γ),gQ 0 3 σi=true->(l,0)∈σi->(∀l i,(l,i)∈σi->look m l≠none)->(∀i b,look m0 i=some b->∃l b',(l,i)∈σi/\look m l=some b'/\qN 0 σi b' b)->
   (∀l' b,look (gC (de m lw) l) l'=some b->l'≠l->look m l'=some b/\∀i,(l',i)∉σi)->∀d m1,(d=.tup []/\look m1 0=some (.bld (some 9) (s++cw ws).length true)/\look m1 9=some (.row (s++cw ws)))->
   ∃(σo:Ξ) (q1:Nat) (st':St) (vd':D),Fr σi σo 3 q1 m0 m1 ⟨nx,m⟩ st'/\RnD 0 σo d vd'/\K vd' st':=by
  rintro σi m0 oki hm hlt hm0 hoff d m1 ⟨rfl,e0,e9⟩;refine⟨[(0,l),(9,nx)],10,⟨nx+1,sk (de m lw) l nx (s++cw ws)⟩,.tup [],⟨oki, ?_,Nat.le_succ _,hlt, ?_,hm0, ?_⟩,.inl ⟨rfl,rfl⟩,hK⟩
  .simp[gQ,b3,b4];exact⟨ae,rfl⟩
  .intro i l' h;rcases bH.1 h with h|h
   .obtain⟨rfl,rfl⟩:=Prod.mk.inj h;exact .inl hm
   .obtain⟨rfl,rfl⟩:=Prod.mk.inj (aF.1 h);exact .inr (aR _)
  .intro l' bb h;simp only[sk,look]at h;split at h
   .rename_i e;subst e;obtain rfl:=aZ h;exact .inl ⟨9,_,.tail _ (.head _),e9,rfl⟩
   .rename_i hln;rw[bO]at h;split at h
    .rename_i e;subst e;obtain rfl:=aZ h;exact .inl ⟨0,_,.head _,e0,⟨nx,rfl,rfl⟩,rfl,rfl⟩
    .rename_i hl;obtain⟨g1,g2⟩:=hoff l' bb h hl;exact .inr ⟨by simp only[ow,ah (λe=>hl (Eq.symm e)),ah hln],g2,g1⟩
 rcases h1 with⟨u,h1,rfl⟩|⟨l2,u,h1,h5⟩
 .have g4:∀l' i,(l',i)∈[(l,0),(lw,1)]->look m l'≠none:=by
   intro l' i h;rcases bH.1 h with h|h
   .obtain⟨rfl,rfl⟩:=Prod.mk.inj h;rw[h1];simp
   .obtain⟨rfl,rfl⟩:=Prod.mk.inj (aF.1 h);rw[h2];simp
  have g3:gQ 0 3 [(l,0),(lw,1)]=true:=by simp[gQ,b1,b2];rfl
  have g5:∀i b,look [(0,bo.bld none 0 u),(1,.buf 1 (ws.map D.str))] i=some b->∃l' b',(l',i)∈[(l,0),(lw,1)]/\look m l'=some b'/\qN 0 [(l,0),(lw,1)] b' b:=by
   intro i b h;simp only[look]at h;split at h
   .rename_i e;subst e;obtain rfl:=aZ h;exact⟨l,_,.head _,h1,rfl,rfl,rfl⟩
   .split at h
    .rename_i e;subst e;obtain rfl:=aZ h;exact⟨lw,_,.tail _ (.head _),h2,rfl,.inl ⟨rfl,hnl⟩⟩
    .cases h
  refine Ml (σi:=[(l,0),(lw,1)]) (cs:=[.ptr 0 2 0 0,.own 1 1 0 ws.length]) (λq=>Hj t key _ q) hmix hC rfl ?_ hnp g3 g4 g5 (hw _ (.inl ⟨u,rfl,rfl⟩) rfl) (fin _ _ g3 (.head _) g4 g5 ?_)
  .intro i hi
   match i,hi with
   |0,_=>exact .inr (.inl Ui)
   |1,_=>exact .inr (.inl (by simp[tW,Wa,m8,b1]))
  .intro l' b h hl;rw[Ew hlw]at h;simp only[h1]at h;rw[fF]at h;split at h
   .cases h
   .rename_i hw';refine⟨h,λi hi=>?_⟩;rcases bH.1 hi with hi|hi
    .exact hl (Prod.mk.inj hi).1
    .exact hw' (Prod.mk.inj (aF.1 hi)).1
 .have c1:l2≠l:=by rintro rfl;rw[h1]at h5;cases h5
  have c2:l2≠lw:=by rintro rfl;rw[h2]at h5;cases h5
  have d1:=sj c1;have d2:=sj c2;have d3:=sj (Ne.symm c1);have d4:=sj (Ne.symm c2);have g4:∀l' i,(l',i)∈[(l,0),(lw,1),(l2,2)]->look m l'≠none:=by
   intro l' i h;rcases bH.1 h with h|h
   .obtain⟨rfl,rfl⟩:=Prod.mk.inj h;rw[h1];simp
   .rcases bH.1 h with h|h
    .obtain⟨rfl,rfl⟩:=Prod.mk.inj h;rw[h2];simp
    .obtain⟨rfl,rfl⟩:=Prod.mk.inj (aF.1 h);rw[h5];simp
  have g3:gQ 0 3 [(l,0),(lw,1),(l2,2)]=true:=by simp[gQ,b1,b2,d1,d2,d3,d4];exact⟨⟨rfl,rfl⟩,rfl⟩
  have g5:∀i b,look [(0,bo.bld (some 2) s.length u),(1,.buf 1 (ws.map D.str)),(2,.row s)] i=some b->∃l' b',(l',i)∈[(l,0),(lw,1),(l2,2)]/\look m l'=some b'/\qN 0 [(l,0),(lw,1),(l2,2)] b' b:=by
   intro i b h;simp only[look]at h;split at h
   .rename_i e;subst e;obtain rfl:=aZ h;exact⟨l,_,.head _,h1,⟨2,by simp[m8,d3,d4],rfl⟩,rfl,rfl⟩
   .split at h
    .rename_i e;subst e;obtain rfl:=aZ h;exact⟨lw,_,.tail _ (.head _),h2,rfl,.inl ⟨rfl,hnl⟩⟩
    .split at h
     .rename_i e;subst e;obtain rfl:=aZ h;exact⟨l2,_,.tail _ (.tail _ (.head _)),h5,rfl⟩
     .cases h
  refine Ml (σi:=[(l,0),(lw,1),(l2,2)]) (cs:=[.ptr 0 2 0 0,.own 1 1 0 ws.length]) (λq=>Hj t key _ q) hmix hC rfl ?_ hnp g3 g4 g5 (hw _ (.inr ⟨2,u,rfl,rfl⟩) rfl) (fin _ _ g3 (.head _) g4 g5 ?_)
  .intro i hi
   match i,hi with
   |0,_=>exact .inr (.inl Ui)
   |1,_=>exact .inr (.inl (by simp[tW,Wa,m8,b1]))
  .intro l' b h hl;rw[Ew hlw]at h;simp only[h1]at h;rw[fF]at h;split at h
   .cases h
   .rename_i hw2;rw[fF]at h;split at h
    .cases h
    .rename_i hw';refine⟨h,λi hi=>?_⟩;rcases bH.1 hi with hi|hi
     .exact hl (Prod.mk.inj hi).1
     .rcases bH.1 hi with hi|hi
      .exact hw' (Prod.mk.inj hi).1
      .exact hw2 (Prod.mk.inj (aF.1 hi)).1
end
def ai {p:Prop}(h:p:=by exact rfl):p:=h
def qqq6 {p:Prop}(h:p:=by repeat(first|exact fN.nil|refine fN.un ?_|refine fN.eq dh ?_)):p:=h
def eo {p:Prop}(h:p:=by first|exact rfl|exact cg (λ_=>rfl) _):p:=h
def Qi {p:Prop}(h:p:=by repeat(first|exact fN.nil|refine fN.un ?_|refine fN.eq dh ?_|refine fN.nl dh dh ?_)):p:=h
def jJ {p:Prop}(h:p:=by repeat' first|exact trivial|exact rfl|refine And.intro ?_ ?_):p:=h
def DZ {p:Prop}(h:p:=by repeat' first|exact trivial|exact rfl|exact aR _|refine And.intro ?_ ?_):p:=h
def DY {p:Prop}(h:p:=by repeat(first|exact bB.nil|refine bB.By dh dh (by first|exact rfl|exact cg (λ_=>rfl) _) ?_|refine bB.OW dh dh dh ?_|refine bB.OX dh dh dh dh ?_)):p:=h
def Np {p:Prop}(h:p:=by simp only[yY,jj,pf,Bv,FH,de,Nat.reduceEqDiff,br,ba,iY,eF,dP,iM,iN,cG,bj,aR,dN,bY,reduceCtorEq,bJ,cj,Nat.reduceAdd,Nat.reduceLeDiff];exact rfl):p:=h
def b0 {p:Prop}[Decidable p]:(decide p=true)=p:=aT
def b1 {p:Prop}[Decidable p]:decide p=false↔¬p:=bR
def b2 (b:Bool):((!b)=true)=(b=false):=b8 b
def b3 (b:Bool):((!b)=false)=(b=true):=cF b
def b4 (b:Bool):(¬(b=false))=(b=true):=Bool.not_eq_false b
def b5 (a b:Bool):((a ||b)=true)=(a=true\/b=true):=dk a b
abbrev wkk (Y:Ctx)(a:aj)(d:D)(ds:Θ):Prop:=dD (Y.at 0) a.body (O7 a d) (fV a ds) ⟨0,[]⟩
def fQ {a:aj}{d d2:D}{e:Ex}{m:Γ}(h:d2=d)(he:e.home:=by exact trivial)(h1:oO m env a.res:=by exact DZ)(h2:Bl a env m:=by exact jJ)(h3:OS a env m=d2:=by exact rfl):O7 a d e env ⟨nx,m⟩:=Q4 he h1 h2 (h3.trans h)
def rrrb {a:aj}{d d2:Bool}{e:Ex}{m:Γ}(h:d2=d)(he:e.home:=by exact trivial)(h1:oO m env a.res:=by exact DZ)(h2:Bl a env m:=by exact jJ)(h3:OS a env m=.bool d2:=by exact rfl):O7 a (.bool d) e env ⟨nx,m⟩:=fQ (ay _ h) he h1 h2 h3
def gtt {lo c nx2:Nat}{env2:Φ}{m m2:Γ}(σ:Ξ)(hc:nx2=c:=by exact ai)(h:gQ lo c σ=true:=by exact ai)(he:fN lo σ env env2:=by exact Qi)(hm:bB lo c σ m m2:=by exact DY):a8 lo env ⟨nx,m⟩ env2 ⟨nx2,m2⟩:=a8.to σ hc h he hm
section
variable {Y:Ctx}{Q:Ex->Φ->St->Prop}
def cmN:XH env rs []=env:=rfl
def cmC {s p:Nat}{r:Ξ}{env1 env':Φ}{f:Bool}{d:D}(e:bV [] rs (.l p)=⟨f,d⟩)(hs:env.set s ⟨f,d⟩=env1)(h:XH env1 rs r=env'):XH env rs ((s,p)::r)=env':=by
 simp only[XH,e,hs,h]
def rrrg {draw:Bool}{b:AC}{nx':Nat}{m:Γ}{fV env':Φ}(h:dD Y b Q env' ⟨nx',m⟩)(he:XH env rs cm=env':=by repeat(first|apply cmC dh (by simp only[List.set_cons_zero,List.set_cons_succ];exact rfl)|with_reducible exact cmN))(hn:nx+rs.length=nx':=by simp only[bJ,cj,Nat.reduceAdd];exact rfl):aC Y draw [] fV rs nx m (λvs st'=>dD Y b Q (iG env vs cm) st'):=
 bg h he hn
def rrrh {draw:Bool}{nx':Nat}{m:Γ}{fV env':Φ}(h:Q .normal env' ⟨nx',m⟩)(he:XH env rs cm=env':=by repeat(first|apply cmC dh (by simp only[List.set_cons_zero,List.set_cons_succ];exact rfl)|with_reducible exact cmN))(hn:nx+rs.length=nx':=by simp only[bJ,cj,Nat.reduceAdd];exact rfl):aC Y draw [] fV rs nx m (λvs st'=>Q .normal (iG env vs cm) st'):=
 nN h he hn
end
def Fam (_:Prop):Type:=Unit
def wW {q:Prop}:Fam q:=()
structure Hid (q:Prop)(f:Fam q):Prop where
 val:q
def zzn {p q:Prop}(k:q)(h:Hid q wW->p:=by intro h;first|exact IJ λ_=>h.1|exact D2 λ_=>h.1|exact Qn λ_=>h.1):p:=h ⟨k⟩
def gR:(∀{p:Prop} [Decidable p],(decide p=true)=p)/\(∀{p:Prop} [Decidable p],decide p=false↔¬p)/\(∀b:Bool,((!b)=true)=(b=false))/\(∀b:Bool,((!b)=false)=(b=true))/\(∀b:Bool,(¬(b=false))=(b=true))/\(∀a b:Bool,((a ||b)=true)=(a=true\/b=true))/\(∀{a b:Bool},(a ||b)=false↔a=false/\b=false)/\(∀a b:Bool,((a&&b)=true)=(a=true/\b=true))/\(∀{a b:Bool},(a&&b)=false↔a=false\/b=false)/\(∀b:Bool,(¬(b=true))=(b=false))/\(∀b:Bool,(true&&b)=b)/\∀b:Bool,(b&&true)=b:=
 ⟨aT,bR,b8,cF,Bool.not_eq_false,dk,eg,aD,eJ,Bool.not_eq_true,eh,gW⟩
section
variable {Y:Ctx}{Q:Ex->Φ->St->Prop}{st:St}
def dF {c:Src}{a b r:AC}{t:Bool}{c1 c2:Prop}(h1:c1->dD Y (.seq a r) Q env st)(h2:c2->dD Y (.seq b r) Q env st)(hc:bV env [] c=⟨true,.bool t⟩:=by exact rfl)(e1:t=true->c1:=by intro h;(try simp only[gR]at h);exact h)(e2:t=false->c2:=by intro h;(try simp only[gR]at h);exact h):dD Y (.seq (.cond c a b) r) Q env st:=aQ (λh=>h1 (e1 h)) (λh=>h2 (e2 h)) hc
def B5 {c:Src}{a b:AC}{t:Bool}{c1 c2:Prop}(h1:c1->dD Y a Q env st)(h2:c2->dD Y b Q env st)(hc:bV env [] c=⟨true,.bool t⟩:=by exact rfl)(e1:t=true->c1:=by intro h;(try simp only[gR]at h);exact h)(e2:t=false->c2:=by intro h;(try simp only[gR]at h);exact h):dD Y (.cond c a b) Q env st:=wp_cond (λh=>h1 (e1 h)) (λh=>h2 (e2 h)) hc
end
abbrev zzh1:ζ:=[.a,.a,.a,.a,.a,.a,.sl 3 [.sl 4 [.a,.a,.sl 1 [.a],.a],.a,.a],.sl 3 [.a,.a,.a],.sl 2 [.a,.sl 1 [.a]]]
abbrev s0:Src:=.s 0
abbrev s1:Src:=.s 1
abbrev s2:Src:=.s 2
abbrev s3:Src:=.s 3
abbrev s4:Src:=.s 4
abbrev s5:Src:=.s 5
abbrev s6:Src:=.s 6
abbrev s7:Src:=.s 7
abbrev s8:Src:=.s 8
abbrev s9:Src:=.s 9
abbrev TE:Src:=.s 10
abbrev s11:Src:=.s 11
abbrev Of:Src:=.s 12
abbrev s13:Src:=.s 13
abbrev s14:Src:=.s 14
abbrev s15:Src:=.s 15
abbrev s16:Src:=.s 16
abbrev s17:Src:=.s 17
abbrev s18:Src:=.s 18
abbrev s19:Src:=.s 19
abbrev s20:Src:=.s 20
abbrev s21:Src:=.s 21
abbrev s22:Src:=.s 22
abbrev s23:Src:=.s 23
abbrev s24:Src:=.s 24
abbrev s25:Src:=.s 25
abbrev s26:Src:=.s 26
abbrev l0:Src:=.l 0
abbrev l1:Src:=.l 1
abbrev l2:Src:=.l 2
abbrev l3:Src:=.l 3
abbrev l4:Src:=.l 4
abbrev l5:Src:=.l 5
abbrev l6:Src:=.l 6
abbrev l7:Src:=.l 7
abbrev l8:Src:=.l 8
abbrev l9:Src:=.l 9
abbrev l10:Src:=.l 10
abbrev Wy:Src:=.l 11
abbrev l12:Src:=.l 12
abbrev l13:Src:=.l 13
abbrev l14:Src:=.l 14
abbrev l15:Src:=.l 15
abbrev l16:Src:=.l 16
abbrev l17:Src:=.l 17
abbrev l18:Src:=.l 18
abbrev l19:Src:=.l 19
abbrev l20:Src:=.l 20
abbrev l21:Src:=.l 21
abbrev l22:Src:=.l 22
abbrev l23:Src:=.l 23
abbrev l24:Src:=.l 24
abbrev l25:Src:=.l 25
abbrev l26:Src:=.l 26
abbrev l27:Src:=.l 27
abbrev l28:Src:=.l 28
abbrev l29:Src:=.l 29
abbrev l30:Src:=.l 30
abbrev l31:Src:=.l 31
abbrev l32:Src:=.l 32
abbrev l33:Src:=.l 33
abbrev l34:Src:=.l 34
abbrev l35:Src:=.l 35
abbrev l36:Src:=.l 36
abbrev l37:Src:=.l 37
abbrev gm (x:Src):GI:=⟨.mv x,none⟩
abbrev gn (x:aA):GI:=⟨x,none⟩
abbrev i6 (n:Int):Src:=.c (.int .i64 n)
abbrev cs (s:Ω):Src:=.c (.str s)
abbrev gd (x:Src):GI:=⟨.ld 1 false x,none⟩
abbrev gk (b:Bool)(x:Src):GI:=⟨.ld n b x,none⟩
abbrev gf (x:Src):GI:=⟨.fa n x,none⟩
abbrev gl (x:Src):GI:=⟨.len x,none⟩
abbrev ga (x y:Src):GI:=⟨.ia n x y,none⟩
abbrev gb (x:Src):GI:=⟨.box n x,none⟩
abbrev gt (x y:Src):GI:=⟨.st n x y,none⟩
abbrev gx (x:ς)(y:Ι):GI:=⟨.call n x y,none⟩
abbrev rg (y:Ξ):AC:=.reg false x y
abbrev rt (y:Ξ):AC:=.reg true x y
abbrev agA (x y:Src):aA:=.bin .lss x y
abbrev An (x y:Src):aA:=.bin .eql x y
abbrev b_gtr (x y:Src):aA:=.bin .gtr x y
abbrev F8 (x y:Src):aA:=.bin .neq x y
abbrev HO:Src:=.c (.bool false)
abbrev cbT:Src:=.c (.bool true)
abbrev cse:Src:=.c (.str [])
abbrev vx:Src:=.c (.int .i64 0)
abbrev Mq:Src:=.c (.int .i64 1)
abbrev gmt (x:Src):GI:=⟨.mv x,some (n,true)⟩
abbrev Yr (x:Src):GI:=⟨.ld 1 false x,some (n,true)⟩
abbrev OV (n o:Nat)(x:Src):GI:=⟨.fa o x,some (n,true)⟩
abbrev AB (x:aA):GI:=⟨x,some (n,true)⟩
abbrev gmf (x:Src):GI:=⟨.mv x,some (n,false)⟩
abbrev Gp (x:Src):GI:=⟨.ld 1 false x,some (n,false)⟩
abbrev Bw (n o:Nat)(x:Src):GI:=⟨.fa o x,some (n,false)⟩
abbrev nX (x:aA):GI:=⟨x,some (n,false)⟩
abbrev sq (a b:AC):AC:=.seq a b
abbrev gcr (c x:Src):AC:=.cond c (.seq (.reg false [⟨.mv x,none⟩] [(1,0)]) .ret) .skip
abbrev H0:Ι:=[[.a]]
abbrev SC:Ι:=[[.a,.a]]
abbrev ha3:Ι:=[[.a,.a,.a]]
abbrev ha5:Ι:=[[.a,.a,.a,.a,.a]]
abbrev pw:Ι:=[[.a],[.a]]
abbrev hb3:Ι:=[[.a],[.a],[.a]]
abbrev hb4:Ι:=[[.a],[.a],[.a],[.a]]
abbrev HY (c x:Src):GI:=⟨.pick c (.c (.bool true)) x,none⟩
abbrev Yq (c x:Src):GI:=⟨.pick c x (.c (.bool false)),none⟩
abbrev gaf (c x:Src):GI:=⟨.pick c x (.c (.bool false)),some (n,false)⟩
abbrev kj (x y:Src):GI:=⟨.bin .lss x y,none⟩
abbrev Im (x y:Src):GI:=⟨.bin .eql x y,none⟩
abbrev lS (x y:Src):GI:=⟨.bin .add x y,none⟩
abbrev Zu (x y:Src):GI:=⟨.bin .gtr x y,none⟩
abbrev mX (x y:Src):GI:=⟨.bin .neq x y,none⟩
abbrev akZ (x y:Src):GI:=⟨.bin .leq x y,none⟩
abbrev UT (c:Src)(n:Nat):AC:=.cond c .skip (.exit n)
abbrev i8 (n:Int):Src:=.c (.int .u8 n)
abbrev i3 (n:Int):Src:=.c (.int .i32 n)
abbrev gno (x:Src):GI:=⟨.un .not x,none⟩
abbrev r1 (a b:Nat):AC:=.reg false x [(a,b)]
abbrev r2 (a b:Nat):AC:=.reg true x [(a,b)]
abbrev re1:List Hw:=[⟨1,none⟩]
def JL:=∀(l:Ψ) (x:UInt8),((cv [x] l).length<=1099511627776)->T [.sl 1 (l.map D.str),.int .u8 (x.toNat:Nat)] (.str (cv [x] l))
def C249:Prop:=JL (aH Z 249)
def K0:=∀(l:Ψ),T [.sl 1 (l.map D.str)] (.bool (rising l))
def C815:Prop:=K0 (aH Z 815)
def pF:=∀(n:Int),(0<=n/\n<=9999)->T [.int .i64 n] (.str (og n.toNat))
def C336:Prop:=pF (aH Z 336)
def T8:=∀(l:Ψ) (sep:aw),(l.length<=1048600)->(sep.length<=4)->(∀t∈l,t.length<=2097200)->T [.sl 1 (l.map D.str),.str sep] (.str (cv sep l))
def C242:Prop:=T8 (aH Z 242)
def T4:=∀(s:aw) (b:UInt8),(s.length<=1048576)->T [.str s,.str [b]] (.sl 1 ((bh s b.toNat).map D.str))
def C124:Prop:=T4 (aH Z 124)
def Ud:=∀(s:aw) (b:UInt8),(s.length<=1048576)->T [.str s,.str [b]] (.tup [.str (uX s b).1,.str (uX s b).2.1,.bool (uX s b).2.2])
def C487:Prop:=Ud (aH Z 487)
def T9:=∀(s:aw) (p:aw),(s.length<=1048576)->(p.length<=1048576)->T [.str s,.str p] (.tup [.str (qU s p).1,.bool (qU s p).2])
def C254:Prop:=T9 (aH Z 254)
def T6:=∀(s:aw),(pD s)->T [.str s] (.bool (xW s))
def C212:Prop:=T6 (aH Z 212)
def C670:Prop:=T6 (aH Z 670)
def Ub:=∀(s:aw),(kI s)->T [.str s] (.bool (rm s))
def C444:Prop:=Ub (aH Z 444)
def C572:Prop:=Ub (aH Z 572)
def T7:=∀(l:γ),(jz l)->T [.sl 2 (l.map b7.D)] (.bool (eC l))
def C213:Prop:=T7 (aH Z 213)
def Uc:=∀(s:aw),(rS s)->T [.str s] (.tup [.int .i64 (bN s).1,.str (bN s).2.1,.str (bN s).2.2])
def C448:Prop:=Uc (aH Z 448)
def C459:Prop:=T7 (aH Z 459)
def C672:Prop:=Uc (aH Z 672)
def um:=∀(r:Rec),(Gr r/\gM r)->T [Rec.D r] (.str (ES r))
def C219:Prop:=um (aH Z 219)
def C215:Prop:=um (aH Z 215)
def OT:=∀(s:aw),(s.length<=1048576)->T [.str s,.str [124,124]] (.sl 1 ((jq s []).map D.str))
def agp:Prop:=OT (aH Z 124)
def Uf:=∀(s:aw) (b:UInt8),(b=32)->(s.length<=1048576)->T [.str s,.str [b]] (.str (CI s))
def C683:Prop:=Uf (aH Z 683)
def uv:=∀(s:aw),T [.str s] (.bool (gP s))
def Ul:Prop:=uv (aH Z 349)
def ui:=∀(s:aw),T [.str s] (.bool (di s))
def Uj:Prop:=ui (aH Z 208)
def uK:=∀(s:aw),T [.str s] (.tup [.int .i64 (DN s),.bool (oI s)])
def C658:Prop:=uK (aH Z 658)
def uF:=∀(s:aw) (b:Int),(s.length<=1048576)->T [.str s,.int .u8 b] (.sl 1 ((bh s b).map D.str))
def WM:Prop:=uF (aH Z 533)
def uL:=∀(t:aw),T [.str t] (.bool (cT t))
def C659:Prop:=uL (aH Z 659)
def uz:=∀(n:Int),T [.int .i64 n] (.bool (C6 n))
def C440:Prop:=uz (aH Z 440)
def Ka:=∀(s:aw),(s.length<=1048576)->T [.str s] (.bool (tk s false))
def C442:Prop:=Ka (aH Z 442)
def J9:=∀(s:aw),(s.length<=1048576)->T [.str s] (.bool (tk s true))
def C441:Prop:=J9 (aH Z 441)
def uj:=∀(v:b6),(v.sm)->T [b6.D v] (.bool (gN v))
def Bn:Prop:=uj (aH Z 209)
def C665:Prop:=pF (aH Z 665)
def uB:=∀(v:b6),(v.sm)->T [b6.D v] (.str (vc v))
def C451:Prop:=uB (aH Z 451)
def Kj:=∀(h:Int) (k:Nat),(k=13)->T [.int .u64 h,.int .i64 (k:Nat)] (.int .u64 (rot h k))
def C463:Prop:=Kj (aH Z 463)
def uo:=∀(s:aw),T [.sl 1 ((s).map λb=>D.int .u8 b.toNat)] (.int .u64 (sumL s))
def C220:Prop:=uo (aH Z 220)
def JG:=∀(r:Rec) (name:aw) (rng:aw),(kI rng)->T [Rec.D r,.str name,.str rng] (.int .i64 (gO r name rng))
def C211:Prop:=JG (aH Z 211)
def uA:=∀(r:Rec) (w:cP) (al:Bool),(w.sm)->T [Rec.D r,cP.D w,.bool al] (.int .i64 (lK r w al))
def C443:Prop:=uA (aH Z 443)
def uk:=∀(r:Rec) (n:bn),(n.sm)->T [Rec.D r,bn.D n] (.int .i64 (jM r n))
def C210:Prop:=uk (aH Z 210)
def JH:=∀(r:Rec) (s:aw),(rS s)->T [Rec.D r,.str s] (.int .i64 (oy r s))
def C214:Prop:=JH (aH Z 214)
def Ad:=∀(r:Rec),(gM r)->T [Rec.D r] (.tup [.int .i64 (c8 r).1,.int .i64 (c8 r).2])
def C70:Prop:=Ad (aH Z 70)
def Ae:=∀(r:Rec),(gM r)->T [Rec.D r] (.tup [.str (fJ r).1,.int .i64 (fJ r).2])
def C72:Prop:=Ae (aH Z 72)
def Af:=∀(r:Rec),(gM r)->T [Rec.D r] (.tup [.int .u64 (wQ r),.int .i64 (fJ r).2])
def C74:Prop:=Af (aH Z 74)
end Go.Abs
