/- A part of the proofs. -/
import Derived.Test.YtkmlboofmolbaaaGreatDoorP06
set_option linter.all false
set_option maxRecDepth 60000
set_option maxHeartbeats 2000000
namespace Go.Abs
variable(y:cC){c l:List Int}{nm ft:au}(n:Nat){w:bP}{r:Rec}(shop:List bA)(us:List cI){es:List iQ}{α:Type}(ns:List au){j nx:Nat}(ks:List Int){env rs:List aY}(x:List GI){cm:List (Nat×Nat)}(T:List Abs.D->Abs.D->Prop){t:oW}(a:List Bool){row:fS}(Y:Ctx)
def GR:au:=[97,112,112]
def j8 (g:Gs):List iN×Gs:=if g.val 4=0 then([⟨cF[(g.aS.val 4).toNat]!,DU⟩],g.aS.aS)else([],g.aS)
def Cx (g:Gs):List kE×Gs:=if g.val 4=0 then([⟨cF[(g.aS.val 4).toNat]!,kd[(g.aS.aS.val 8).toNat]!⟩],g.aS.aS.aS)else([],g.aS)
def jH:Rec×Gs:=ph ⟨ks,0⟩ GR bF[0]! 3
def yX:gW:=⟨(jH ks).1,(j8 (jH ks).2).1,(Cx (j8 (jH ks).2).2).1⟩
def X4:gW:=⟨⟨GR,bF[0]!,[],[],[]⟩,[],[]⟩
def gu:gW:=if(kH (yX ks)).1=0 then yX ks else X4
def VW (m:gW):Prop:=((kH m).1=0/\X5 m)/\m.ps.length<=1/\m.hs.length<=1
def wD (l:List gW):=∃m,l=[m]/\VW m
def ael (g:Gs){v:bV}(most:Int)(hn:nm.length<=3)(hv:v.sm):gI (ph g nm v most).1:=by
 refine⟨⟨by show nm.length<=_;omega,hv⟩,RP nm g.aS _, ?_, ?_⟩
 .show ∀b∈(eJ (nS nm g.aS (g.val (most+1)).toNat).2 nm).1,b.sm
  unfold eJ;split
  .intro b hb;rw[aD.1 hb];exact⟨by have:=y2 (nS nm g.aS (g.val (most+1)).toNat).2.aS nm;simp only;omega,H0,show([]:au)∈L2 by decide⟩
  .intro b hb;cases hb
 .show(lC (eJ (nS nm g.aS (g.val (most+1)).toNat).2 nm).2 (nS nm g.aS (g.val (most+1)).toNat).1).1∈Cb;unfold lC;split
  .exact .tail _ (bY.2 ⟨_,afJ (Yc nm g.aS _),rfl⟩)
  .exact .head _
def adH:VW X4:=by
 refine⟨⟨by decide+kernel,⟨⟨aV,by simp only[X4,bV.sm];decide⟩,(λn h=>bZ),(λn h=>bZ),.head _⟩,λh hh=>by cases hh⟩,aV,aV⟩
def RJ:X5 (yX ks)/\(yX ks).ps.length<=1/\(yX ks).hs.length<=1:=by
 refine⟨⟨ael _ 3 aV (yn 0), ?_⟩, ?_, ?_⟩
 .show ∀h∈(Cx (j8 (jH ks).2).2).1,jX h.range
  unfold Cx;split
  .intro h hh;rw[aD.1 hh];exact H0
  .intro h hh;cases hh
 .show(j8 (jH ks).2).1.length<=1;unfold j8;split<;>simp
 .show(Cx (j8 (jH ks).2).2).1.length<=1;unfold Cx;split<;>simp
def aaD:wD [gu ks]:=by
 refine⟨_,rfl, ?_⟩;unfold gu;split
 .rename_i h;obtain⟨h1,h2,h3⟩:=RJ ks;exact⟨⟨h,h1⟩,h2,h3⟩
 .exact adH
def E5 (k:Int)(i:Nat):Int:=((i:Int)*(1+k%3)+k)%(n:Int)
def kC (n:Nat)(k:Int):Nat->List Int
 |0=>[]
 |i+1=>if TS (kC n k i) (E5 n k i)=true then kC n k i else kC n k i++[E5 n k i]
def xI (k:Int):Nat:=min n (k%5).toNat
def jB (us:List cI)(l:List Int)(u:Nat):Int:=iE (atI l (u:Int)) 24
def E4 (l:List Int)(u:Nat):List Int:=kC us[u]!.cands.length (jB us l u) (xI us[u]!.cands.length (jB us l u))
def iV (l:List Int):List (List Int):=if l.length=0 then []else(List.range us.length).map (E4 us l)
def R9 {n:Nat}(hn:0<n)(k:Int):∀i,(∀p∈kC n k i,0<=p/\p<(n:Int))/\(kC n k i).length<=i
 |0=>⟨λp hp=>(by cases hp),aN _⟩
 |i+1=>by
  obtain⟨h1,h2⟩:=R9 hn k i;rw[kC];split
  .exact⟨h1,ae⟩
  .refine⟨λp hp=>?_,KE⟩;rcases List.mem_append.1 hp with hp|hp
   .exact h1 p hp
   .obtain rfl:=aD.1 hp;exact⟨Int.emod_nonneg _ ae,Int.emod_lt_of_pos _ ae⟩
def ad0 (l:List Int)(u:Nat):(E4 us l u).length<=4/\∀p∈E4 us l u,0<=p/\p<(us[u]!.cands.length:Int):=by
 unfold E4;have hc:xI us[u]!.cands.length (jB us l u)<=4:=by unfold xI;omega
 rcases Nat.eq_zero_or_pos us[u]!.cands.length with h|h
 .rw[h,show xI 0 (jB us l u)=0 by unfold xI;omega];exact⟨by simp[kC],λp hp=>by cases hp⟩
 .obtain⟨h1,h2⟩:=R9 h (jB us l u) (xI us[u]!.cands.length (jB us l u));exact⟨ae,h1⟩
def pX {us:List cI}(l:List Int):yC (dy us) (iV us l):=by
 intro u hu;have hn:(dy us).needs.length=us.length:=by simp[dy,eD]
 have hul:u<us.length:=ae;have e1:(dy us).needs[u]!.length=us[u]!.cands.length:=by unfold dy eD;dsimp only;rw[List.take_length,fI hul];simp[eQ]
 rw[e1];have key:cR (iV us l) ((u:Nat):Int)=[]\/cR (iV us l) ((u:Nat):Int)=E4 us l u:=by
  unfold cR iV;by_cases h0:l.length=0
  .rw[ak h0,ah aC];exact .inl rfl
  .rw[ah h0,ak fh,Int.toNat_natCast];exact .inr (by simp[hul])
 rcases key with h|h<;>rw[h]
 .exact⟨aC,λp hp=>by cases hp⟩
 .obtain⟨h1,h2⟩:=ad0 us l u;exact⟨ae,h2⟩
def vR (us:List cI):Nat->Nat
 |0=>1
 |i+1=>if us[i]!.feat=[]then vR us i*(us[i]!.cands.length+1)else vR us i
def Mo (us:List cI):Nat->Nat->Nat->Nat
 |0,_,n=>n
 |r+1,i,n=>if n<1000000 then Mo us r (i+1) (if us[i]!.feat=[]then n*(us[i]!.cands.length+1)else n)else n
def Dd:Nat:=Mo us us.length 0 1
def tidV (w:bP)(c:List Int)(is:List Bool):List Int:=(List.range is.length).map λi=>if is[i]! =true then c[i]! else-1
def vP (w:bP)(c:List Int)(is:List Bool)(l:List Want):List Bool:=l.foldl (λis x=>is.set x.u.toNat (is[x.u.toNat]! ||kR w c x)) is
def xu (w:bP)(c:List Int)(is:List Bool)(l:List nR):List Bool:=l.foldl (vP w c) is
def HB (w:bP)(c:List Int)(i:Nat)(is:List Bool):List Bool:=if is[i]! =true then xu w c is (aU w c i).needs else is
def jf (w:bP)(c:List Int):Nat->List Bool->List Bool
 |0,is=>is
 |i+1,is=>HB w c i (jf w c i is)
def j6 (w:bP)(c:List Int):Nat->List Bool->List Bool
 |0,is=>is
 |n+1,is=>jf w c c.length (j6 w c n is)
def mQ (c:List Int):List Bool:=(List.replicate c.length false).set 0 (decide (0<=c[0]!))
def fo (w:bP)(c:List Int):List Bool:=if ey w c=false then []else j6 w c c.length (mQ c)
def rI (w:bP)(c:List Int):List Int:=tidV w c (fo w c)
def cB (m:gW)(shop:List bA)(e:Env)(os:List Int):bP×List Int×Bool:=
 if(gP [m] shop e []).2≠0\/5000<Dd (gP [m] shop e []).1.us then((gP [m] shop e []).1,[],false)
 else match kJ (gP [m] shop e []).1.us (iV (gP [m] shop e []).1.us os)with
  |none=>((gP [m] shop e []).1,[],false)
  |some c=>((gP [m] shop e []).1,rI (gP [m] shop e []).1 c,true)
def ady {l:List Key}{k:Key}(i:Nat)(h:i<=l.length):i<=EY l k i/\EY l k i<=l.length:=by
 unfold EY;have:=(List.takeWhile_sublist (l:=l.drop i) (p:=λx=>eY x k)).length_le;rw[jO]at this;omega
def Di (l:List Key)(k:Key):(sA l k=l/\k∈l)\/((sA l k).length=l.length+1/\∀x,x∈sA l k↔x∈l\/x=k):=by
 have hk:=(ady (l:=l) (k:=k) 0 (Nat.zero_le _)).2;unfold sA;split
 .rename_i h;exact .inl ⟨rfl,h.2▸aq h.1⟩
 .refine .inr ⟨fh,λx=>?_⟩;have:x∈l↔x∈l.take (EY l k 0)\/x∈l.drop (EY l k 0):=by
   rw[<-List.mem_append,List.take_append_drop]
  simp only[List.mem_append,aD];rw[this];constructor
  .rintro((h|h)|h)<;>simp[h]
  .rintro((h|h)|h)<;>simp[h]
def H2 (s:oW)(a:js):(∀x,x∈(mD s a).all↔x∈s.all\/x=a.k)/\(∀x,x∈s.todo->x∈(mD s a).todo)/\(∀x∈(mD s a).todo,x∈s.todo\/x=a.k)/\(∀x∈(mD s a).all,x∈s.all\/x∈(mD s a).todo)/\s.all.length<=(mD s a).all.length/\(mD s a).all.length+s.todo.length=s.all.length+(mD s a).todo.length:=by
 unfold mD;rcases Di s.all a.k with⟨h1,h2⟩|⟨h1,h2⟩
 .rw[ah (by rw[h1];omega)];exact⟨λx=>⟨.inl,λh=>h.elim id λe=>e▸h2⟩,λ_ h=>h,λ_ h=>.inl h,λ_ h=>.inl h,aN _,rfl⟩
 .rw[ak ae];refine⟨h2,λx h=>List.mem_append_left _ h,λx h=>rj,λx h=>?_,rm,als⟩;rcases(h2 x).1 h with h|rfl
  .exact .inl h
  .exact .inr aC
structure uM (s t:oW):Prop where
 all:∀x∈s.all,x∈t.all
 todo:∀x∈s.todo,x∈t.todo
 back:∀x∈t.all,x∈s.all\/x∈t.todo
 inn:∀x∈t.todo,x∈s.todo\/x∈t.all
 len:t.all.length+s.todo.length=s.all.length+t.todo.length
 grow:s.all.length<=t.all.length
def uM.M6 (s:oW):uM s s:=⟨λ_ h=>h,λ_ h=>h,λ_ h=>.inl h,λ_ h=>.inl h,rfl,aN _⟩
def uM.tr {a b c:oW}(h1:uM a b)(h2:uM b c):uM a c:=by
 refine⟨λx h=>h2.all x (h1.all x h),λx h=>h2.todo x (h1.todo x h),λx h=>?_,λx h=>?_,by have:=h1.len;have:=h2.len;omega,fg h1.grow h2.grow⟩
 .rcases h2.back x h with h|h
  .exact(h1.back x h).imp id (h2.todo x)
  .exact .inr h
 .rcases h2.inn x h with h|h
  .exact(h1.inn x h).imp id (h2.all x)
  .exact .inr h
def aei (s:oW)(a:js):uM s (mD s a)/\a.k∈(mD s a).all:=by
 obtain⟨h1,h2,h3,h4,h5,h6⟩:=H2 s a;exact⟨⟨λx h=>(h1 x).2 (.inl h),h2,h4,λx h=>(h3 x h).imp id λe=>(h1 x).2 (.inr e),h6,h5⟩,(h1 _).2 (.inr rfl)⟩
def Sl:∀(row:fS) (s:oW),uM s (row.foldl mD s)/\∀a∈row,a.k∈(row.foldl mD s).all
 |[],s=>⟨.M6 s,λa h=>bZ⟩
 |b::r,s=>by
  obtain⟨h1,h2⟩:=aei s b;obtain⟨h3,h4⟩:=Sl r (mD s b);refine⟨h1.tr h3,λa ha=>?_⟩;rcases bG.1 ha with rfl|ha
  .exact h3.all _ h2
  .exact h4 a ha
def Sn:∀(l:List fS) (s:oW),uM s (Pp s l)/\∀row∈l,∀a∈row,a.k∈(Pp s l).all
 |[],s=>⟨.M6 s,λa h=>bZ⟩
 |b::r,s=>by
  obtain⟨h1,h2⟩:=Sl b s;obtain⟨h3,h4⟩:=Sn r (b.foldl mD s);refine⟨h1.tr h3,λrow hr=>?_⟩;rcases bG.1 hr with rfl|hr
  .exact λa ha=>h3.all _ (h2 a ha)
  .exact h4 row hr
structure Tp (y:cC)(s:oW):Prop where
 zero:fJ∈s.all
 inn:∀x∈s.todo,x∈s.all
 done:∀x∈s.all,x∉s.todo->∀row∈dc y x,∀a∈row,a.k∈s.all
 len:s.todo.length<=s.all.length/\s.all.length<=48
def Zw:Tp y nE:=⟨by simp[nE],λx h=>h,λx h h2=>absurd h h2,by simp[nE]⟩
def So {s:oW}(h:0<s.todo.length):uM ⟨s.all,s.todo.drop 1⟩ (A9 y s)/\∀row∈dc y s.todo[0]!,∀a∈row,a.k∈(A9 y s).all:=Sn _ _
def ZA {y:cC}{s:oW}(hI:Tp y s)(h:0<s.todo.length)(h48:(A9 y s).all.length<=48):Tp y (A9 y s):=by
 obtain⟨h1,h2⟩:=So y h;have hd:∀x∈s.todo.drop 1,x∈s.todo:=λx hx=>List.mem_of_mem_drop hx
 have hc:s.todo=s.todo[0]! ::s.todo.drop 1:=by
  cases ht:s.todo with
  |nil=>rw[ht]at h;cases h
  |cons a r=>simp
 refine⟨h1.all _ hI.zero,λx hx=>?_,λx hx hn=>?_, ?_⟩
 .rcases h1.inn x hx with h3|h3
  .exact h1.all _ (hI.inn _ (hd x h3))
  .exact h3
 .rcases h1.back x hx with h3|h3
  .by_cases h4:x∈s.todo
   .rw[hc]at h4;rcases bG.1 h4 with h5|h5
    .rw[h5];exact h2
    .exact absurd (h1.todo _ h5) hn
   .exact λrow hr a ha=>h1.all _ (hI.done x h3 h4 row hr a ha)
  .exact absurd h3 hn
 .have:=h1.len;have:=hI.len;simp only[jO]at*
  omega
def Sm {y:cC}:∀(n:Nat){s:oW}{all:List Key},Tp y s->A8 y n s=some all->Tp y ⟨all,[]⟩
 |0,s,all,_,h=>by cases h
 |n+1,s,all,hI,h=>by
  rw[A8]at h;split at h
  .rename_i h0;obtain rfl:=aW h;have:s.todo=[]:=aaP.1 h0;exact⟨hI.zero,λx h=>bZ,λx hx _=>hI.done x hx (by rw[this];simp),⟨Nat.zero_le _,hI.len.2⟩⟩
  .split at h
   .cases h
   .rename_i h0 h1;exact Sm n (ZA hI ae ae) h
def sC {y:cC}{all:List Key}(h:mR y=some all):fJ∈all/\all.length<=48/\∀k∈all,∀row∈dc y k,∀a∈row,a.k∈all:=by
 have:=Sm 49 (Zw y) h;exact⟨this.zero,this.len.2,λk hk=>this.done k hk aC⟩
def y5 {all:List Key}{k:Key}(h:k∈all):0<=eo all k/\eo all k<all.length:=by
 unfold eo;rcases eX (f:=λx=>decide (x=k)) (l:=all) (k:=0)with⟨_,h2⟩|⟨j,h1,h2,_⟩
 .obtain⟨i,hi,e⟩:=gh h;have:=h2 i hi;rw[e]at this;simp at this
 .rw[h1];omega
def Ph (all:List Key)(k:Key):eo all k=-1\/∃j:Nat,eo all k=(j:Int)/\j<all.length:=by
 unfold eo;rcases eX (f:=λx=>decide (x=k)) (l:=all) (k:=0)with⟨h,_⟩|⟨j,h1,h2,_⟩
 .exact .inl h
 .exact .inr ⟨j,by rw[h1];omega,h2⟩
def BX (r:Rec):Prop:=FB r/\gI r
def qW (s:au):fe s∈gX:=by
 unfold fe;refine aq ?_;rcases eX (f:=λt=>decide (t=s)) (l:=kd) (k:=0)with⟨h,_⟩|⟨j,h,h2,_⟩
 .rw[h];decide
 .rw[h];have:kd.length=8:=rfl;have:gX.length=8:=rfl;omega
def Nj:∀s∈gX,v8 s=true:=by decide+kernel
def Gc:∀s∈gX,(s.rel.length<=2/\s.pr.length<=2)/\(∀x∈s.rel,(x.f.v.pre.length<=3/\x.f.v.build.length<=3)/\x.t.v.pre.length<=3/\x.t.v.build.length<=3)/\∀x∈s.pr,(x.f.v.pre.length<=3/\x.f.v.build.length<=3)/\x.t.v.pre.length<=3/\x.t.v.build.length<=3:=by decide+kernel
def aet (s:au):v8 (fe s)=true:=Nj _ (qW s)
def aeu (s:au):(fe s).sm:=by
 obtain⟨_,h1,h2⟩:=Gc _ (qW s);constructor
 .intro x hx;obtain⟨a,b⟩:=h1 x hx;exact⟨⟨ae,ae⟩,ae,ae⟩
 .intro x hx;obtain⟨a,b⟩:=h2 x hx;exact⟨⟨ae,ae⟩,ae,ae⟩
def oy (x:de):0<(ff x).length/\(ff x).length<=x.feats.length+1:=by
 unfold ff;rw[cu,a8];split
 .split
  .rename_i h;rw[h];simp
  .rename_i h;have:=List.length_pos_iff.2 h;simp only[ca];omega
 .simp only[List.length_singleton];omega
def wB (n:bn):Prop:=(0<n.any.length/\n.any.length<=3)/\∀w∈n.any,w.feats.length<=6
def tA {n:bn}(h:wB n):(0<(iM n).length/\(iM n).length<=7)/\∀r∈iM n,0<r.length/\r.length<=3:=by
 obtain⟨⟨h0,h1⟩,h2⟩:=h;unfold iM;split
 .have h3:=oy n.any[0]!;have h4:=h2 _ (aq h0);rw[a8];refine⟨ae,λr hr=>?_⟩;obtain⟨k,_,rfl⟩:=bY.1 hr;simp
 .refine⟨aC,λr hr=>?_⟩;rw[aD.1 hr,a8];exact⟨h0,h1⟩
def iv {α β:Type}{f:α->List β}{B:Nat}:∀{l:List α},(∀x∈l,(f x).length<=B)->(l.flatMap f).length<=B*l.length
 |[],_=>aC
 |a::r,h=>by
  have h1:=h a (.head _);have h2:=iv (f:=f) (B:=B) (l:=r) λx hx=>h x (.tail _ hx)
  rw[List.flatMap_cons,cu,bD,Nat.mul_succ];omega
theorem gD (h:BX r):r.needs.length<=8/\∀n∈r.needs,wB n:=by
 have hf:=tk h;refine⟨hf.ns,λn hn=>?_⟩;obtain⟨⟨_,⟨h1,h2⟩,hp⟩,_⟩:=h;have h0:(lM r).1=0:=by grind [en]
 obtain⟨i,hi,rfl⟩:=gh hn;have h3:=qB h0 i hi;have h4:=(hf.n _ hn).1;refine⟨⟨?_,h4.1⟩,λw hw=>(h4.2 w hw).2.1⟩;unfold jG at h3;split at h3
 .cases h3
 .omega
def Md {e:Env}{o:au}{n:bn}(h:wB n):(A5 e o n).length<=7/\∀r∈A5 e o n,0<r.length/\r.length<=3:=by
 have:=tA h;unfold A5;split
 .exact⟨this.1.2,this.2⟩
 .exact⟨aC,λr hr=>by cases hr⟩
def xF {ns:List bn}{e:Env}{o:au}(h:∀n∈ns,wB n):(qM ns e o).length<=7*ns.length/\∀r∈qM ns e o,0<r.length/\r.length<=3:=by
 refine⟨iv λn hn=>(Md (h n hn)).1,λr hr=>?_⟩;obtain⟨n,hn,hr⟩:=List.mem_flatMap.1 hr;exact(Md (h n hn)).2 r hr
def FX {e:Env}{n:bn}(h:wB n):(rA e nm ft n).length<=8/\∀r∈rA e nm ft n,0<r.length/\r.length<=3:=by
 have:=tA h;unfold rA;split
 .rw[cu,List.length_singleton];split
  .exact⟨aC,λr hr=>by rw[rh]at hr;rw[aD.1 hr];simp⟩
  .refine⟨ae,λr hr=>?_⟩;rcases List.mem_append.1 hr with hr|hr
   .exact this.2 r hr
   .rw[aD.1 hr];simp
 .exact⟨aC,λr hr=>by cases hr⟩
def y6 {ns:List bn}{e:Env}(h:∀n∈ns,wB n):(ja ns e nm ft).length<=8*ns.length/\∀r∈ja ns e nm ft,0<r.length/\r.length<=3:=by
 refine⟨iv λn hn=>(FX (h n hn)).1,λr hr=>?_⟩;obtain⟨n,hn,hr⟩:=List.mem_flatMap.1 hr;exact(FX (h n hn)).2 r hr
def tl {e:Env}{s:au}(h:BX r):(mr r e s).length<=64/\∀w∈mr r e s,0<w.length/\w.length<=3:=by
 obtain⟨h1,h2⟩:=gD h;unfold mr;split
 .exact⟨aC,λw hw=>by rw[aD.1 hw];simp⟩
 .split
  .have:=xF (e:=e) (o:=(bK s).2.1) h2;exact⟨ae,this.2⟩
  .have:=y6 (e:=e) (nm:=(bK s).2.1) (ft:=(bK s).2.2) h2;exact⟨ae,this.2⟩
def xz (h:BX r)(ft:au):(uT r.feats ft).length<=6/\∀s∈uT r.feats ft,ry s:=by
 have hf:=tk h;unfold uT;split
 .exact⟨aC,λs hs=>by cases hs⟩
 .rename_i h0;have hj:(findF r.feats ft 0).toNat<r.feats.length:=by
   unfold findF at h0⊢;rw[cY]at h0⊢;cases h1:r.feats.findIdx? (λx=>decide (x.name=ft))with
   |none=>rw[h1]at h0;exact absurd aV h0
   |some k=>
    have:=(List.findIdx?_eq_some_iff_getElem.1 h1).1;simp only[cr,Int.toNat_natCast];exact this
  have hm:=aq (l:=r.feats) hj;exact⟨(hf.f _ hm).2,λs hs=>jv.it h.2.2.2.2 _ hm _ hs⟩
def lN {e:Env}(h:BX r):(cM r e ft).length<=385/\∀w∈cM r e ft,0<w.length/\w.length<=3:=by
 obtain⟨h1,h2⟩:=gD h;unfold cM;split
 .have:=xF (e:=e) (o:=[]) h2;exact⟨ae,this.2⟩
 .have h3:=iv (f:=mr r e) (B:=64) (l:=uT r.feats ft) λs _=>(tl h).1
  have h4:=(xz h ft).1;refine⟨KE,λw hw=>?_⟩;rcases List.mem_append.1 hw with hw|hw
  .rw[aD.1 hw];simp
  .obtain⟨s,_,hs⟩:=List.mem_flatMap.1 hw;exact(tl h).2 w hs
def It {shop:List bA}(h:dr shop=true){i:Nat}(hi:i<shop.length):fO shop[i]! =true:=by
 simp only[dr,aA,bd,sL]at h;exact(h.2 i (Nat.zero_le _) hi).1
def SC {s:bA}(h:fO s=true):s.es.length<=64:=by
 simp only[fO,aA,aT]at h;exact h.1.2
def aez {s:bA}(h:fO s=true)(hs:∀x∈s.es,gI x.r):∀x∈s.es,BX x.r:=by
 intro x hx;obtain⟨i,hi,rfl⟩:=gh hx;simp only[fO,aA,bd,pJ,aT]at h;have h1:=(h.2 i (Nat.zero_le _) hi).1.1;refine⟨ki ?_,hs _ hx⟩;unfold ez at h1;split at h1
 .rename_i h2;exact absurd h1 h2
 .rename_i h2;exact Classical.not_not.1 h2
def aaa (l:List bA)(nm:au):lq l nm=-1\/∃j:Nat,lq l nm=(j:Int)/\j<l.length:=by
 unfold lq;rcases eX (f:=AZ nm) (l:=l) (k:=0)with⟨h,_⟩|⟨j,h1,h2,_⟩
 .exact .inl h
 .exact .inr ⟨j,by rw[h1];omega,h2⟩
def Xm (l:List bA)(nm:au):fR (Cv nm) l 0=-1\/∃j:Nat,fR (Cv nm) l 0=(j:Int)/\j<l.length:=by
 rcases eX (f:=Cv nm) (l:=l) (k:=0)with⟨h,_⟩|⟨j,h1,h2,_⟩
 .exact .inl h
 .exact .inr ⟨j,by rw[h1];omega,h2⟩
def qN (l:List gW)(nm:au):lR l nm=-1\/∃j:Nat,lR l nm=(j:Int)/\j<l.length:=by
 unfold lR;rcases eX (f:=isM nm) (l:=l) (k:=0)with⟨h,_⟩|⟨j,h1,h2,_⟩
 .exact .inl h
 .exact .inr ⟨j,by rw[h1];omega,h2⟩
def pN {shop:List bA}{pins:List iN}(h:(gr shop pins nm).2=0):dr shop=true/\∃j:Nat,(gr shop pins nm).1=(j:Int)/\j<shop.length:=by
 unfold gr at*
 split at h
 .cases h
 .rename_i h1;refine⟨by simpa using h1, ?_⟩;rw[ah h1];split at h
  .cases h
  .rename_i h2;rw[ah h2];split at h
   .rename_i h3;rw[ak h3];split at h
    .cases h
    .rename_i h4;rw[ah h4];exact(aaa _ _).resolve_left ae
   .rename_i h3;rw[ah h3];split at h
    .cases h
    .rename_i h4;rw[ah h4];exact(Xm _ _).resolve_left ae
def XF (es:List iQ)(l:List Int)(i:Nat):(Hj es l i).length=l.length+1:=by
 unfold Hj;simp only[cu,dF,jO,bD,ca];omega
def LF {i:Nat}{x:Int}(h:x∈Hj es l i):x∈l\/x=(i:Int):=by
 unfold Hj at h;simp only[List.mem_append,aD]at h;rcases h with(h|h)|h
 .exact .inl (EC h)
 .exact .inr h
 .exact .inl (List.mem_of_mem_drop h)
def xk (es:List iQ)(nm:au):∀i,(eK es nm i).length<=i/\∀x∈eK es nm i,0<=x/\x<(i:Int)
 |0=>⟨aN _,λx h=>bZ⟩
 |i+1=>by
  obtain⟨h1,h2⟩:=xk es nm i;rw[eK];split
  .refine⟨by rw[XF];omega,λx hx=>?_⟩;rcases LF hx with h|h
   .have:=h2 x h;omega
   .omega
  .exact⟨ae,λx hx=>by have:=h2 x hx;omega⟩
def sj (s:bA)(nm:au):(kq s nm).length<=64/\∀x∈kq s nm,0<=x/\x<(s.es.length:Int):=by
 unfold kq;cases h:fO s with
 |false=>exact⟨aC,λx hx=>by simp at hx⟩
 |true=>
  rw[ah aC];have h1:=SC h;obtain⟨h2,h3⟩:=xk s.es nm s.es.length;exact⟨ae,h3⟩
def pT {y:cC}{nm:au}{a:Nat}:∀(l:List Int),(iZ y nm a l).length<=l.length/\∀x∈iZ y nm a l,(∃i∈l,x.r=y.shop[a]!.es[i.toNat]!.r)/\x.sh=(a:Int)
 |[]=>⟨aN _,λx h=>bZ⟩
 |i::r=>by
  obtain⟨h1,h2⟩:=pT (y:=y) (nm:=nm) (a:=a) r;rw[iZ];refine⟨?_,λx hx=>?_⟩
  .rw[cu,bD];split<;>simp<;>omega
  .rcases List.mem_append.1 hx with hx|hx
   .split at hx
    .rw[aD.1 hx];exact⟨⟨i,.head _,rfl⟩,rfl⟩
    .cases hx
   .obtain⟨⟨j,h3,h4⟩,h5⟩:=h2 x hx;exact⟨⟨j,.tail _ h3,h4⟩,h5⟩
def pB:Prop:=(wD y.l/\iH y.shop)/\y.keeps.length<=1000/\(∀k∈y.keeps,k.v.sm)/\y.pins.length<=1000
def Bv {m:gW}(h:VW m):BX m.r:=by
 obtain⟨⟨h1,h2⟩,_⟩:=h;refine⟨ki ?_,h2.1⟩;unfold kH at h1;split at h1
 .rename_i h3;exact absurd h1 h3
 .rename_i h3;exact Classical.not_not.1 h3
def look_ok {y:cC}(h:pB y)(nm:au):(dL y nm).length<=64/\∀x∈dL y nm,BX x.r/\(x.sh=-1\/∃j:Nat,x.sh=(j:Int)/\j<y.shop.length):=by
 obtain⟨⟨⟨m,hm,hM⟩,hs⟩,_⟩:=h;unfold dL;split
 .rename_i h0;refine⟨aC,λx hx=>?_⟩;rw[aD.1 hx];refine⟨?_,.inl rfl⟩;obtain⟨j,hj,hjl⟩:=(qN y.l nm).resolve_left ae;rw[hj,Int.toNat_natCast];have:=aq hjl;rw[hm]at this⊢;rw[aD.1 this];exact Bv hM
 .split
  .exact⟨aC,λx hx=>by cases hx⟩
  .rename_i h1;have h1:(cJ y.shop y.pins nm).2.2=0:=Classical.not_not.1 h1;have h2:(gr y.shop y.pins nm).2=0:=by
    unfold cJ at h1;split at h1
    .rename_i h3;exact absurd h1 h3
    .rename_i h3;exact Classical.not_not.1 h3
   obtain⟨hB,j,hj,hjl⟩:=pN h2;have e1:cJ y.shop y.pins nm=((j:Int),kq y.shop[j]! nm,0):=by
    unfold cJ;rw[ah (λh=>h h2),hj,Int.toNat_natCast]
   rw[e1];simp only[Int.toNat_natCast];obtain⟨h3,h4⟩:=sj y.shop[j]! nm;obtain⟨h5,h6⟩:=pT (y:=y) (nm:=nm) (a:=j) (kq y.shop[j]! nm);refine⟨ae,λx hx=>?_⟩;obtain⟨⟨i,hi,e⟩,hsh⟩:=h6 x hx;have:=h4 i hi;refine⟨?_,.inr ⟨j,hsh,hjl⟩⟩;rw[e];exact aez (It hB hjl) (hs _ (aq hjl)) _ (aq ae)
def xA {y:cC}(h:pB y)(k:Key):(eO y k).length<=64/\∀x∈eO y k,BX x.r/\(x.sh=-1\/∃j:Nat,x.sh=(j:Int)/\j<y.shop.length):=by
 obtain⟨h1,h2⟩:=look_ok h k.n;exact⟨fg (List.length_filter_le _ _) h1,λx hx=>h2 x (List.mem_filter.1 hx).1⟩
def Iq {y:cC}(h:pB y):(eL y.l).length=1/\∀r∈eL y.l,r.length=1:=by
 obtain⟨⟨⟨m,hm,hM⟩,hs⟩,_⟩:=h;rw[hm];exact⟨rfl,λr hr=>by rw[aD.1 hr];rfl⟩
def ZW {y:cC}(h:pB y)(k:Key):(dc y k).length<=25000/\∀r∈dc y k,0<r.length/\r.length<=3:=by
 unfold dc;split
 .obtain⟨h1,h2⟩:=Iq h;exact⟨ae,λr hr=>by have:=h2 r hr;omega⟩
 .obtain⟨h1,h2⟩:=xA h k;have h3:=iv (f:=λx=>cM x.r y.e k.f) (B:=385) (l:=eO y k) λx hx=>(lN (h2 x hx).1).1
  refine⟨ae,λr hr=>?_⟩;obtain⟨x,hx,hr⟩:=List.mem_flatMap.1 hr;exact(lN (h2 x hx).1).2 r hr
def BY (v:bV)(l:List fS):=∀r∈l,∀a∈r,a.s∈gX\/a.s=dH v
def Nh {v:bV}{a b:List fS}(h1:BY v a)(h2:BY v b):BY v (a++b):=λr hr=>(List.mem_append.1 hr).elim (h1 r) (h2 r)
def DQ (v:bV):BY v []:=λr hr=>by cases hr
def zj {v:bV}{f:α->List fS}{l:List α}(h:∀x∈l,BY v (f x)):BY v (l.flatMap f):=λr hr=>by
 obtain⟨x,hx,hr⟩:=List.mem_flatMap.1 hr;exact h x hx r hr
def DR {v:bV}{a:js}(h:a.s∈gX\/a.s=dH v):BY v [[a]]:=λr hr b hb=>by
 rw[aD.1 hr]at hb;rw[aD.1 hb];exact h
def Ga (v:bV)(n:bn):BY v (iM n):=by
 unfold iM;split
 .intro r hr a ha;obtain⟨k,_,rfl⟩:=bY.1 hr;rw[aD.1 ha];exact .inl (qW _)
 .intro r hr a ha;rw[aD.1 hr]at ha;obtain⟨w,_,rfl⟩:=bY.1 ha;exact .inl (qW _)
def Me (v:bV)(ns:List bn)(e:Env)(o:au):BY v (qM ns e o):=zj λn _=>by
 unfold A5;split
 .exact Ga v n
 .exact DQ v
def Uw (v:bV)(ns:List bn)(e:Env)(nm ft:au):BY v (ja ns e nm ft):=zj λn _=>by
 unfold rA;split
 .refine Nh ?_ (DR (.inl (qW _)));split
  .exact DQ v
  .exact Ga v n
 .exact DQ v
def C3 (r:Rec)(e:Env)(ft:au):BY r.v (cM r e ft):=by
 unfold cM;split
 .exact Me r.v _ _ _
 .refine Nh (DR (.inr rfl)) (zj λs _=>?_);unfold mr;split
  .exact DR (.inr rfl)
  .split
   .exact Me r.v _ _ _
   .exact Uw r.v _ _ _ _
def Gb {s:cx}{v:bV}(hv:v.sm)(h:s∈gX\/s=dH v):s.sm:=by
 rcases h with h|rfl
 .obtain⟨_,h1,h2⟩:=Gc _ h;constructor
  .intro x hx;obtain⟨a,b⟩:=h1 x hx;exact⟨⟨ae,ae⟩,ae,ae⟩
  .intro x hx;obtain⟨a,b⟩:=h2 x hx;exact⟨⟨ae,ae⟩,ae,ae⟩
 .exact Fw hv
def qb {all:List Key}{l:List fS}{r:nR}(h:r∈dG all l):∃q∈l,r=q.map λa=>⟨eo all a.k,a.s⟩:=by
 obtain⟨q,hq,rfl⟩:=bY.1 h;exact⟨q,hq,rfl⟩
def CndW (c:eB):Prop:=(c.sm/\c.needs.length<=24/\c.bars.length<=24)/\(∀r∈c.needs,(0<r.length/\r.length<=3)/\∀w∈r,0<=w.u/\w.u<(n:Int))/\∀w∈c.bars,0<=w.u/\w.u<(n:Int)
def Fl {all:List Key}{e:Env}{w:Want}(h:w∈wJ all r e):(0<=w.u/\w.u<(all.length:Int))/\w.s∈gX:=by
 obtain⟨b,_,hb⟩:=List.mem_flatMap.1 h;unfold qt at hb;split at hb
 .rename_i hc;rw[aD.1 hb];refine⟨⟨hc.1, ?_⟩,qW _⟩;obtain⟨j,hj,hjl⟩:=(Ph all ⟨b.name,[]⟩).resolve_left ae;show eo all ⟨b.name,[]⟩<_;omega
 .cases hb
def Rb {y:cC}{all:List Key}{k:Key}{x:uz}(hx:BX x.r)(hcl:∀row∈cM x.r y.e k.f,∀a∈row,a.k∈all)(hw:oz (dU y all k x)=false):CndW all.length (dU y all k x):=by
 have h1:=C3 x.r y.e k.f;have h2:=(lN (e:=y.e) (ft:=k.f) hx).2;have hv:x.r.v.sm:=hx.2.1.2;simp only[oz,ec,ct]at hw;refine⟨⟨⟨hv, ?_, ?_⟩,ae,ae⟩, ?_, ?_⟩
 .intro r hr w hwr;obtain⟨q,hq,rfl⟩:=qb hr;obtain⟨a,ha,rfl⟩:=bY.1 hwr;exact Gb hv (h1 q hq a ha)
 .intro w hwb;have hwb:w∈(if k.f=[]then wJ all x.r y.e else []):=hwb;split at hwb
  .exact Gb hv (.inl (Fl hwb).2)
  .cases hwb
 .intro r hr;obtain⟨q,hq,rfl⟩:=qb hr;rw[a8];refine⟨h2 q hq,λw hwr=>?_⟩;obtain⟨a,ha,rfl⟩:=bY.1 hwr;exact y5 (hcl q hq a ha)
 .intro w hwb;have hwb:w∈(if k.f=[]then wJ all x.r y.e else []):=hwb;split at hwb
  .exact(Fl hwb).1
  .cases hwb
def ajQ (k:Key):(eO y k).length<=(dL y k.n).length:=List.length_filter_le _ _
def yF {y:cC}{all:List Key}{k:Key}(hy:pB y)(hcl:∀row∈dc y k,∀a∈row,a.k∈all)(h:(ew y all k).2=true):(ew y all k).1.length<=16/\∀c∈(ew y all k).1,CndW all.length c:=by
 unfold ew at*
 by_cases hk:k=fJ
 .rw[ak hk];refine⟨aC,λc hc=>?_⟩;rw[aD.1 hc];obtain⟨h1,h2⟩:=Iq hy;have hrow:dc y k=eL y.l:=by unfold dc;rw[ak hk]
  rw[hrow]at hcl;obtain⟨⟨⟨m,hm,hM⟩,_⟩,_⟩:=hy;refine⟨⟨⟨GG, ?_,λw hw=>by cases hw⟩,by simp[dG,h1],aC⟩, ?_,λw hw=>by cases hw⟩
  .intro r hr w hw;obtain⟨q,hq,rfl⟩:=qb hr;rw[hm]at hq;rw[aD.1 hq]at hw;obtain⟨a,ha,rfl⟩:=bY.1 hw;rw[aD.1 ha];exact Fw (Bv hM).2.1.2
  .intro r hr;obtain⟨q,hq,rfl⟩:=qb hr;have:=h2 q hq;rw[a8];refine⟨ae,λw hw=>?_⟩;obtain⟨a,ha,rfl⟩:=bY.1 hw;exact y5 (hcl q hq a ha)
 .rw[ah hk]at h⊢;have hrow:dc y k=(eO y k).flatMap λx=>cM x.r y.e k.f:=by unfold dc;rw[ah hk]
  rw[hrow]at hcl;split at h
  .cases h
  .rename_i hw;rw[ah hw];have hle:(dL y k.n).length<=16:=by simpa using h
   have:=ajQ y k;refine⟨kf,λc hc=>?_⟩;have hcw:oz c=false:=by
    cases hq:oz c with
    |false=>rfl
    |true=>exact absurd (List.any_eq_true.2 ⟨c,hc,hq⟩) hw
   obtain⟨x,hx,rfl⟩:=bY.1 hc;exact Rb ((xA hy k).2 x hx).1 (λrow hr a ha=>hcl row (List.mem_flatMap.2 ⟨x,hx,hr⟩) a ha) hcw
def SR {y:cC}{all:List Key}:∀n,n<=all.length->(nJ y all n).2=true->(nJ y all n).1=(all.take n).map (rK y all)/\∀i,i<n->(ew y all all[i]!).2=true
 |0,_,_=>⟨rfl,λi h=>absurd h (Nat.not_lt_zero i)⟩
 |n+1,hn,h=>by
  rw[nJ]at h⊢;cases h0:(nJ y all n).2 with
  |false=>rw[h0,ah aC]at h;rw[h0]at h;cases h
  |true=>
   rw[h0,ak rfl]at h;rw[ak rfl];obtain⟨h1,h2⟩:=SR n ae h0;have e:all.take (n+1)=all.take n++[all[n]!]:=by
    rw[List.take_add_one,List.getElem?_eq_getElem ae];simp[show n<all.length by omega]
   refine⟨by rw[h1,e,List.map_append];rfl,λi hi=>?_⟩;rcases dX i n with h3|h3
   .exact h2 i h3
   .obtain rfl:i=n:=ae;exact h
structure KL (w:bP):Prop where
 len:0<w.us.length/\w.us.length<=48
 u:∀u∈w.us,u.cands.length<=16/\∀c∈u.cands,CndW w.us.length c
def sR {y:cC}(hy:pB y)(h:(eA y).2=true):∃all,mR y=some all/\(eA y).1.us=all.map (rK y all)/\(∀i,i<all.length->(ew y all all[i]!).2=true)/\KL (eA y).1:=by
 unfold eA at*
 cases hr:mR y with
 |none=>rw[hr]at h;cases h
 |some all=>
  rw[hr]at h;obtain⟨h1,h2⟩:=SR all.length (aN _) h;rw[List.take_length]at h1;obtain⟨r1,r2,r3⟩:=sC hr;refine⟨all,rfl,h1,h2, ?_⟩;have hl:(nJ y all all.length).1.length=all.length:=by rw[h1,a8]
  refine⟨by show 0<(nJ y all all.length).1.length/\(nJ y all all.length).1.length<=48;rw[hl];exact⟨List.length_pos_of_mem r1,r2⟩, ?_⟩;show ∀u∈(nJ y all all.length).1,u.cands.length<=16/\∀c∈u.cands,CndW (nJ y all all.length).1.length c
  intro u hu;rw[h1]at hu;obtain⟨k,hk,rfl⟩:=bY.1 hu;rw[hl];obtain⟨i,hi,rfl⟩:=gh hk;exact yF hy (r3 _ hk) (h2 i hi)
theorem KL.sm (h:KL w):w.sm:=λu hu=>⟨(h.u u hu).1,λc hc=>((h.u u hu).2 c hc).1.1⟩
def KL.few (h:KL w):Few w.us:=λu hu c hc=>by
 obtain⟨⟨_,h1,h2⟩,h3,_⟩:=(h.u u hu).2 c hc;exact⟨ae,ae,λr hr=>by have:=(h3 r hr).1;omega⟩
def KL.msk (h:KL w):wA (dy w.us):=by
 obtain⟨hpos,hU⟩:=h;have hn:(dy w.us).needs.length=w.us.length:=by simp[dy,eD]
 have hb:(dy w.us).bars.length=w.us.length:=by simp[dy,jE]
 have hfu:(dy w.us).full.length=w.us.length:=by simp[dy,iU]
 refine⟨⟨ae,ae,ae,ae⟩,λu hu=>?_⟩;rw[hn]at hu⊢;have e1:(dy w.us).needs[u]! =eQ w.us w.us[u]!.cands:=by unfold dy eD;dsimp only;rw[List.take_length,fI hu]
 have e2:(dy w.us).bars[u]! =jF w.us w.us[u]!.cands:=by unfold dy jE;dsimp only;rw[List.take_length,fI hu]
 obtain⟨h16,hC⟩:=hU _ (aq hu);rw[e1,e2];refine⟨⟨by simp[eQ,jF],by simpa[eQ]using h16⟩,λc hc r hr=>?_,λr hr x hx=>?_⟩
 .unfold eQ at hc;obtain⟨cd,h1,rfl⟩:=bY.1 hc;unfold kX at hr;obtain⟨r0,h2,rfl⟩:=bY.1 hr;obtain⟨h3,h4⟩:=(hC cd h1).2.1 r0 h2;refine⟨by rw[show(eF w.us r0).length=r0.length by simp[eF]];omega,λx hx=>?_⟩;unfold eF at hx;obtain⟨y,h5,rfl⟩:=bY.1 hx;exact h4 y h5
 .unfold jF at hr;obtain⟨cd,h1,rfl⟩:=bY.1 hr;unfold eF at hx;obtain⟨y,h5,rfl⟩:=bY.1 hx;exact(hC cd h1).2.2 y h5
def eU (nm:au):List au:=if nm∈ns then ns else ns++[nm]
def jz (k:Key):List au:=if k=fJ then ns else eU ns k.n
def sB (y:cC):Nat->oW->List au->List au
 |0,_,ns=>ns
 |n+1,s,ns=>if s.todo.length=0 then ns else if 48<(A9 y s).all.length then jz ns s.todo[0]! else sB y n (A9 y s) (jz ns s.todo[0]!)
def aax (all:List Key)(ns:List au):Nat->List au
 |0=>ns
 |i+1=>jz (aax all ns i) all[i]!
def KZ (nm:au):(eU ns nm).length<=ns.length+1:=by
 unfold eU;split
 .omega
 .rw[cu,List.length_singleton];exact aN _
def CN (k:Key):(jz ns k).length<=ns.length+1:=by
 unfold jz;split
 .omega
 .exact KZ _ _
def Mv (y:cC):∀(n:Nat) (s:oW) (ns:List au),(sB y n s ns).length<=ns.length+n
 |0,s,ns=>aN _
 |n+1,s,ns=>by
  have h1:=CN ns s.todo[0]!;rw[sB];split
  .omega
  .split
   .omega
   .have:=Mv y n (A9 y s) (jz ns s.todo[0]!);omega
def NM (all:List Key)(ns:List au):∀i,(aax all ns i).length<=ns.length+i
 |0=>aN _
 |i+1=>by
  have h1:=CN (aax all ns i) all[i]!;have h2:=NM all ns i;rw[aax];omega
def dm (ns:List au):List D:=ns.map λnm=>uG (dL y nm)
def eP (a b n:Nat):D:=.agg [.own a 1 0 n,.own b 1 0 n]
def BU (lf ln lr:Nat)(ns:List au)(m:List (Nat×bj)):Prop:=look m lf=some (.buf 2 [eP ln lr ns.length])/\look m ln=some (.buf 1 (ns.map D.str))/\look m lr=some (.buf 1 (dm y ns))
def N0 (n:Nat)(y:cC)(aE5:D->List D)(ns ns':List au)(V:D):=∀(nx lf ln lr:Nat) (m:List (Nat×bj)) (K:D->St->Prop),lf<nx->ln<nx->lr<nx->ln≠lr->BU y lf ln lr ns m->
 K V ⟨nx+2,(nx,.buf 1 (ns'.map D.str))::(nx+1,.buf 1 (dm y ns'))::cT (c7 (c7 m ln) lr) lf (.buf 2 [eP nx (nx+1) ns'.length])⟩->Y.tr n (aE5 (.ptr lf 2 0 0)) ⟨nx,m⟩ K
def KN (ns':List au)(V:D):D->List (Nat×bj)->Prop:=λd m=>d=V/\∃j k:Nat,(0<j/\0<k/\j≠k)/\BU y 0 j k ns' m
def jn (ns:List au):aK (dm y ns)=true:=bX (λ_=>rfl) _
def Iv:aK (ns.map D.str)=true:=bX (λ_=>rfl) _
def zd (ns:List au):(dm y ns).length=ns.length:=a8 ..
def aeW (aE5:D->List D):=∀σ l l',mT 0 σ l=some l'->(aE5 (.ptr l 2 0 0)).length=(aE5 (.ptr l' 2 0 0)).length/\∀i,i<(aE5 (.ptr l 2 0 0)).length->RnD 0 σ ((aE5 (.ptr l 2 0 0)).getD i .any) ((aE5 (.ptr l' 2 0 0)).getD i .any)
def fdR (ns:List au):D:=.ref 2 [.agg [.sl 1 (ns.map D.str),.sl 1 (dm y ns)]] 0 0
def iPin (a b:iN):iN.D a=iN.D b↔a=b:=by cases a;cases b;simp[iN.D]
def Xw (a b:List iN):a.map iN.D=b.map iN.D↔a=b:=kQ iPin a b
def afx (a b:kE):kE.D a=kE.D b↔a=b:=by cases a;cases b;simp[kE.D]
def Xs (a b:List kE):a.map kE.D=b.map kE.D↔a=b:=kQ afx a b
def iMan (a b:gW):gW.D a=gW.D b↔a=b:=by
 obtain⟨⟨n,⟨v1,v2,v3,v4,v5⟩,x,y,z⟩,p,q⟩:=a;obtain⟨⟨n',⟨w1,w2,w3,w4,w5⟩,x',y',z'⟩,p',q'⟩:=b;simp[gW.D,CF,LB,CE,Xw,Xs,and_assoc]
def afz (a b:List gW):a.map gW.D=b.map gW.D↔a=b:=kQ iMan a b
def afy (a b:Key):Key.D a=Key.D b↔a=b:=by cases a;cases b;simp[Key.D]
def iKeys (a b:List Key):a.map Key.D=b.map Key.D↔a=b:=kQ afy a b
def iKp (a b:Kp):Kp.D a=Kp.D b↔a=b:=by
 obtain⟨n,⟨v1,v2,v3,v4,v5⟩⟩:=a;obtain⟨n',⟨w1,w2,w3,w4,w5⟩⟩:=b;simp[Kp.D,and_assoc]
def iKps (a b:List Kp):a.map Kp.D=b.map Kp.D↔a=b:=kQ iKp a b
def iAsd (a b:js):js.D a=js.D b↔a=b:=by
 obtain⟨⟨n,f⟩,⟨x,y⟩⟩:=a;obtain⟨⟨n',f'⟩,⟨x',y'⟩⟩:=b;simp[js.D,CG,and_assoc]
def afv (a b:fS):dS a=dS b↔a=b:=by simp only[dS,D.sl.injEq,ed];exact kQ iAsd a b
def ai3 (a b:List fS):a.map dS=b.map dS↔a=b:=kQ afv a b
def iYrd (y y':cC)(f f':D):cC.D y f=cC.D y' f'↔y=y'/\f=f':=by
 obtain⟨l,s,⟨a,b,c⟩,k,p⟩:=y;obtain⟨l',s',⟨a',b',c'⟩,k',p'⟩:=y';simp[cC.D,afz,Xx,iKps,Xw,and_assoc]
def WD {A:RT->Prop}(h:A (λds d=>A λds' d'=>ds'=ds->d=d'):=by
 (repeat' first|apply And.intro|intro _)
 all_goals rename_i e
 all_goals (try simp only[sV,D.str.injEq,D.int.injEq,D.bool.injEq,D.sl.injEq,D.ref.injEq,D.agg.injEq,D.fn.injEq,Xz,TX,iByt,iVer,XC,OD,Xv,CF,iBar,LB,Xr,CE,iRec,Xq,iEtr,iShf,Xx,iEnv,iLkd,Xu,iLck,iCut,afw,Xy,CG,iSet,XB,He,XD,OE,iCnd,Xp,iUnt,XA,iWld,iKey,iGs,afA,iTrm,afB,iTr,iTrL,iMsk,iAsk,Xt,iMan,afz,iPin,Xw,afx,Xs,afy,iKeys,iKps,iAsd,afv,ai3,iYrd,List.map_cons,List.map_nil,iU8,pw,iNat,dw,ed,reduceCtorEq,iq,il]at e)
 all_goals first|rfl|(simp only[e];done)|simp_all):Det (Hq A):=ahD h
def rN {a b:Nat}(h:a≠b):Nat.beq a b=false:=by
 cases q:Nat.beq a b with
 |false=>rfl
 |true=>exact absurd (Nat.eq_of_beq_eq_true q) h
def Ro {σ:List (Nat×Nat)}{a b a' b' n:Nat}(h1:mT 0 σ a=some a')(h2:mT 0 σ b=some b'):tx 0 σ (eP a b n)=some (eP a' b' n):=by simp only[eP,tx,qT,U0,h1,h2]
section
variable [cL]{P:Program}{ν:List (Nat×Nat)}{bN:List Nat}{t:List (Nat×mL)}{fid key u:Nat}{af:aj}{y:cC}{aE5:D->List D}{ns ns':List au}{V:D}{lf ln lr:Nat}{m:List (Nat×bj)}{K:D->St->Prop}
def nX (has:aeW aE5)(hV:V.aR=true)(hmix:P.follows .mixedOrders=true)(hC:Vn P ν bN fid af)(hnp:(aE5 (.ptr 0 2 0 0)).length=af.np)(h1:lf<nx)(h2:ln<nx)(h3:lr<nx)(hne:ln≠lr)(hat:BU y lf ln lr ns m)(hK:K V ⟨nx+2,(nx,.buf 1 (ns'.map D.str))::(nx+1,.buf 1 (dm y ns'))::cT (c7 (c7 m ln) lr) lf (.buf 2 [eP nx (nx+1) ns'.length])⟩)(hw:du ((under t key u).at 3) af.body (uA af (KN y ns' V)) (fQ af (aE5 (.ptr 0 2 0 0))) ⟨3,[(0,.buf 2 [eP 1 2 ns.length]),(1,.buf 1 (ns.map D.str)),(2,.buf 1 (dm y ns))]⟩):uL P ν bN (under t key u) fid (aE5 (.ptr lf 2 0 0)) ⟨nx,m⟩ K:=by
 obtain⟨a1,a2,a3⟩:=hat;have n1:lf≠ln:=by
  rintro rfl;rw[a1]at a2;exact absurd (bj.buf.inj (aW a2)).1 aV
 have n2:lf≠lr:=by
  rintro rfl;rw[a1]at a3;exact absurd (bj.buf.inj (aW a3)).1 aV
 have b1:=rN n1;have b2:=rN n2;have b3:=rN hne;have c1:=rN n1.symm;have c2:=rN n2.symm;have c3:=rN hne.symm;have g3:gN 0 3 [(lf,0),(ln,1),(lr,2)]=true:=by simp[gN,b1,b2,b3,c1,c2,c3];decide
 have g4:∀l i,(l,i)∈[(lf,0),(ln,1),(lr,2)]->look m l≠none:=by
  intro l i h;simp only[bG,dj,cU,or_false]at h;rcases h with⟨rfl,_⟩|⟨rfl,_⟩|⟨rfl,_⟩<;>simp[a1,a2,a3]
 have g5:∀i b,look [(0,.buf 2 [eP 1 2 ns.length]),(1,.buf 1 (ns.map D.str)),(2,.buf 1 (dm y ns))] i=some b->∃l b',(l,i)∈[(lf,0),(ln,1),(lr,2)]/\look m l=some b'/\qm 0 [(lf,0),(ln,1),(lr,2)] b' b:=by
  intro i b h;simp only[look]at h;split at h
  .rename_i e;subst e;obtain rfl:=aW h;exact⟨lf,_,.head _,a1,rfl,.inr (.inl (by simp only[qT,Ro (σ:=[(lf,0),(ln,1),(lr,2)]) (a:=ln) (b:=lr) (a':=1) (b':=2) (by simp[mT,b1]) (by simp[mT,b2,b3])]))⟩
  .split at h
   .rename_i e;subst e;obtain rfl:=aW h;exact⟨ln,_,.tail _ (.head _),a2,rfl,.inl ⟨rfl,Iv ns⟩⟩
   .split at h
    .rename_i e;subst e;obtain rfl:=aW h;exact⟨lr,_,.tail _ (.tail _ (.head _)),a3,rfl,.inl ⟨rfl,jn y ns⟩⟩
    .cases h
 obtain⟨e1,e2⟩:=has [(lf,0),(ln,1),(lr,2)] lf 0 (by simp[mT]);refine Ly (σi:=[(lf,0),(ln,1),(lr,2)]) (cs:=aE5 (.ptr 0 2 0 0)) (λq=>Gu t key u q) hmix hC e1.symm e2 hnp g3 g4 g5 hw ?_;rintro d m1 ⟨rfl,j,k,⟨hj,hk,hjk⟩,d1,d2,d3⟩;have q1:Nat.beq 0 j=false:=rN ae;have q2:Nat.beq 0 k=false:=rN ae;have q3:Nat.beq j k=false:=rN hjk;have q4:Nat.beq j 0=false:=rN ae;have q5:Nat.beq k 0=false:=rN ae;have q6:Nat.beq k j=false:=rN (Ne.symm hjk);have r1:Nat.beq lf nx=false:=rN ae;have r2:Nat.beq lf (nx+1)=false:=rN ae;have r3:Nat.beq nx (nx+1)=false:=rN ae;have r4:Nat.beq nx lf=false:=rN ae;have r5:Nat.beq (nx+1) lf=false:=rN ae;have r6:Nat.beq (nx+1) nx=false:=rN ae;refine⟨[(0,lf),(j,nx),(k,nx+1)],j+k+1,_,d,⟨g3, ?_,Nat.le_add_right _ _,g4, ?_,g5, ?_⟩,.inl ⟨rfl,hV⟩,hK⟩
 .simp[gN,q1,q2,q3,q4,q5,q6,r1,r2,r3,r4,r5,r6];omega
 .intro i l h;simp only[bG,dj,cU,or_false]at h;rcases h with⟨rfl,rfl⟩|⟨rfl,rfl⟩|⟨rfl,rfl⟩
  .exact .inl (.head _)
  .exact .inr (aN _)
  .exact .inr (Nat.le_succ _)
 .intro l bb h;simp only[look]at h;split at h
  .rename_i e;subst e;obtain rfl:=aW h;exact .inl ⟨j,_,.tail _ (.head _),d2,rfl,.inl ⟨rfl,Iv _⟩⟩
  .rename_i hln;split at h
   .rename_i e;subst e;obtain rfl:=aW h;exact .inl ⟨k,_,.tail _ (.tail _ (.head _)),d3,rfl,.inl ⟨rfl,jn _ _⟩⟩
   .rename_i hln2;rw[bM]at h;split at h
    .rename_i e;subst e;obtain rfl:=aW h;exact .inl ⟨0,_,.head _,d1,rfl,.inr (.inl (by simp only[qT,Ro (σ:=[(0,l),(j,nx),(k,nx+1)]) (a:=j) (b:=k) (a':=nx) (b':=nx+1) (by simp[mT,q1]) (by simp[mT,q2,q3])]))⟩
    .rename_i hlf;rw[fk]at h;split at h
     .cases h
     .rename_i hl3;rw[fk]at h;split at h
      .cases h
      .rename_i hl2;refine .inr ⟨by simp only[nZ,ah (λe=>hlf (Eq.symm e)),ah hln,ah hln2],λi hi=>?_,h⟩;simp only[bG,dj,cU,or_false]at hi;rcases hi with⟨rfl,_⟩|⟨rfl,_⟩|⟨rfl,_⟩
       .exact hlf rfl
       .exact hl2 rfl
       .exact hl3 rfl
end
def nW {β:Type}[Inhabited α]{f:α->List β}{l:List α}{i:Nat}(h:i<l.length):(l.take (i+1)).flatMap f=(l.take i).flatMap f++f l[i]! :=by
 have e:l.take (i+1)=l.take i++[l[i]!]:=by
  rw[List.take_add_one,List.getElem?_eq_getElem h];simp[h]
 rw[e,List.flatMap_append];simp
def map_take {β:Type}[Inhabited α]{f:α->β}{l:List α}{i:Nat}(h:i<l.length):(l.take (i+1)).map f=(l.take i).map f++[f l[i]!]:=by
 have e:l.take (i+1)=l.take i++[l[i]!]:=by
  rw[List.take_add_one,List.getElem?_eq_getElem h];simp[h]
 rw[e,List.map_append];rfl
def Gr {β:Type}{f:α->β}(xs:List α):(xs.map f).take xs.length=xs.map f:=by rw[<-a8 (f:=f),List.take_length]
def Fy [Inhabited α]{f:α->Bool}{l:List α}{i:Nat}(h:i<l.length):(l.take (i+1)).filter f=(l.take i).filter f++(if f l[i]! =true then [l[i]!]else []):=by
 have e:l.take (i+1)=l.take i++[l[i]!]:=by
  rw[List.take_add_one,List.getElem?_eq_getElem h];simp[h]
 rw[e,List.filter_append,List.filter_cons,List.filter_nil]
def Wv {m:gW}(h:¬(cQ m.r).1=0):kH m=cQ m.r:=ak h
def Wt {m:gW}(h:¬¬(cQ m.r).1=0)(h2:8<m.ps.length\/8<m.hs.length):kH m=(3,0):=by unfold kH;rw[ah h,ak h2]
def Wu {m:gW}(h:¬¬(cQ m.r).1=0)(h2:¬(8<m.ps.length\/8<m.hs.length)){q:Int×Int}(h3:Dc m.ps=q)(h4:¬q.1=0):kH m=q:=by
 subst h3;unfold kH;rw[ah h,ah h2,ak h4]
def Ws {m:gW}(h:¬¬(cQ m.r).1=0)(h2:¬(8<m.ps.length\/8<m.hs.length))(h3:(Dc m.ps).1=0){q:Int×Int}(h4:Cy m.hs=q):kH m=q:=by
 subst h4;unfold kH;rw[ah h,ah h2,ah (λh=>h h3)]
def Mm {l:List iN}{i:Nat}(h:(df l[i]!.name=false\/df l[i]!.shelf=false)\/(0<i/\Op.bytesLess l[i-1]!.name l[i]!.name=false)):Ml l i=15:=ak h
def Sb {l:List iN}{i:Nat}(h:¬((df l[i]!.name=false\/df l[i]!.shelf=false)\/(0<i/\Op.bytesLess l[i-1]!.name l[i]!.name=false))):Ml l i=0:=ah h
def adk {l:List kE}{i:Nat}(h:df l[i]!.name=false\/(0<i/\Op.bytesLess l[i-1]!.name l[i]!.name=false)):Cw l i=4:=ak h
def adl {l:List kE}{i:Nat}(h:¬(df l[i]!.name=false\/(0<i/\Op.bytesLess l[i-1]!.name l[i]!.name=false)))(h2:qP l[i]!.range=false):Cw l i=6:=by unfold Cw;rw[ah h,ak h2]
def Xo {l:List kE}{i:Nat}(h:¬(df l[i]!.name=false\/(0<i/\Op.bytesLess l[i-1]!.name l[i]!.name=false)))(h2:qP l[i]!.range=true):Cw l i=0:=by unfold Cw;rw[ah h,ah (by rw[h2];simp)]
def yq {l:List gW}(h:wD l):l.length=1/\∀i,i<l.length->VW l[i]! :=by
 obtain⟨m,rfl,hm⟩:=h;refine⟨rfl,λi hi=>?_⟩;obtain rfl:i=0:=by simpa using hi
 exact hm
def ajD {m:gW}(h:VW m):kH m=(0,0):=by
 obtain⟨⟨h1,_⟩,_⟩:=h;have h0:=h1;unfold kH at h1⊢;split
 .rename_i h2;rw[ak h2]at h1;exact absurd h1 h2
 .rename_i h2;rw[ah h2]at h1;split
  .rename_i h3;rw[ak h3]at h1;cases h1
  .rename_i h3;rw[ah h3]at h1;split
   .rename_i h4;rw[ak h4]at h1;exact absurd h1 h4
   .rename_i h4;rw[ah h4]at h1;exact Co _ _ _ h1
def Qq {l:List gW}(h:wD l){i:Nat}(hi:i<l.length):lR l l[i]!.r.name=(i:Nat):=by
 obtain⟨m,rfl,hm⟩:=h;obtain rfl:i=0:=by simpa using hi
 show fR (isM m.r.name) [m] 0=0;simp[fR,isM]
def tH {l:List gW}(h:wD l){i:Nat}(hi:i<l.length):l[i]!.ps=gG l/\l[i]!.hs=l[0]!.hs/\l[i]!.ps.length<=1/\l[i]!.hs.length<=1:=by
 have h1:=yq h;obtain rfl:i=0:=ae;exact⟨rfl,rfl,(h1.2 0 hi).2⟩
def ai2 {l:List gW}{k:Nat}(hk:k=0)(h:k<l[0]!.hs.length)(h2:l[0]!.hs[k]!.name=nm):kM l nm=fe l[0]!.hs[k]!.range:=by
 subst hk;unfold kM;rw[ak ⟨ae,h2⟩]
def ai1 {l:List gW}{k:Nat}(hk:k=0)(h2:¬l[0]!.hs[k]!.name=nm):kM l nm=pC:=by
 subst hk;unfold kM;rw[ah λh=>h2 h.2]
def ai0 {l:List gW}{k:Nat}(hk:k=l[0]!.hs.length):(if k=0 then pC else kM l nm)=kM l nm:=by
 split
 .unfold kM;rw[ah λh=>h.1 ae]
 .rfl
def lQ (l:List iN)(p:iN):List iN×Bool:=
 if kPin l p 0<l.length/\l[kPin l p 0]!.name=p.name then(l,decide (l[kPin l p 0]! =p))else((l.take (kPin l p 0)++[p])++l.drop (kPin l p 0),true)
where kPin (l:List iN) (p:iN) (i:Nat):Nat:=i+((l.drop i).takeWhile λx=>Op.bytesLess x.name p.name).length
def T4 {l:List iN}{p:iN}{i:Nat}(h:i<l.length)(hc:Op.bytesLess l[i]!.name p.name=true):lQ.kPin l p i=lQ.kPin l p (i+1):=by
 unfold lQ.kPin;rw[eH h,List.takeWhile_cons_of_pos (by simpa[h]using hc)];simp;omega
def T5 {l:List iN}{p:iN}{i:Nat}(h:i<l.length->Op.bytesLess l[i]!.name p.name=false):lQ.kPin l p i=i:=by
 unfold lQ.kPin;rcases dX i l.length with hi|hi
 .rw[eH hi,List.takeWhile_cons_of_neg (by simpa[hi]using h hi)];rfl
 .rw[jN hi];rfl
def YO {k:Nat}(hk:k=0){l:List iN}(h:k<l.length):lQ (l.take k) l[k]! =(l.take (k+1),true):=by
 subst hk;cases l with
 |nil=>cases h
 |cons a r=>rfl
def XJ {l:List Key}{k:Key}{i:Nat}(h:i<l.length)(hc:eY l[i]! k=true):EY l k i=EY l k (i+1):=by
 unfold EY;rw[eH h,List.takeWhile_cons_of_pos (by simpa[h]using hc)];simp;omega
def XK {l:List Key}{k:Key}{i:Nat}(h:i<l.length->eY l[i]! k=false):EY l k i=i:=by
 unfold EY;rcases dX i l.length with hi|hi
 .rw[eH hi,List.takeWhile_cons_of_neg (by simpa[hi]using h hi)];rfl
 .rw[jN hi];rfl
def TZ {i k:Nat}(h:k<l.length)(hc:iL es[(l[k]!).toNat]!.r.v es[i]!.r.v<0):AY es l i k=AY es l i (k+1):=by
 unfold AY;rw[eH h,List.takeWhile_cons_of_pos (by simpa[h]using hc)];simp;omega
def T0 {i k:Nat}(h:k<l.length->¬iL es[(l[k]!).toNat]!.r.v es[i]!.r.v<0):AY es l i k=k:=by
 unfold AY;rcases dX k l.length with hi|hi
 .rw[eH hi,List.takeWhile_cons_of_neg (by simpa[hi]using h hi)];rfl
 .rw[jN hi];rfl
theorem Key.eqD (a b:Key):ib (Key.D a).cells (Key.D b).cells=decide (a=b):=by
 obtain⟨a1,a2⟩:=a;obtain⟨b1,b2⟩:=b
 grind [Key.D,D.cells,ib,te]
theorem iN.eq (a b:iN):ib (iN.D a).cells (iN.D b).cells=decide (a=b):=by
 obtain⟨a1,a2⟩:=a;obtain⟨b1,b2⟩:=b
 grind [iN.D,D.cells,ib,te]
def YM {l:List iN}{i:Nat}(h:(df l[i]!.name=false\/df l[i]!.shelf=false)\/(0<i/\Op.bytesLess l[i-1]!.name l[i]!.name=false)):decide (Ml l i=0)=false:=by rw[Mm h];rfl
def Uu {l:List iN}{i:Nat}(h:¬((df l[i]!.name=false\/df l[i]!.shelf=false)\/(0<i/\Op.bytesLess l[i-1]!.name l[i]!.name=false))):decide (Ml l i=0)=true:=by rw[Sb h];rfl
def YF {ns:List bn}{e:Env}{o:au}{i:Nat}(h:i<ns.length):qM (ns.take i) e o++A5 e o ns[i]! =qM (ns.take (i+1)) e o:=by unfold qM;rw[nW h]
def aj5 {e:Env}{o:au}{n:bn}(h:n.option=o/\FQ n.when' e=true):A5 e o n=iM n:=by unfold A5;rw[ak h]
def aj4 {e:Env}{o:au}{n:bn}(h:¬n.option=o\/FQ n.when' e=false):A5 e o n=[]:=by unfold A5;rw[ah (by rintro⟨h1,h2⟩;rcases h with h|h;exact h h1;rw[h]at h2;cases h2)]
def HQ {ns:List bn}{e:Env}{i:Nat}(h:i<ns.length):ja (ns.take i) e nm ft++rA e nm ft ns[i]! =ja (ns.take (i+1)) e nm ft:=by unfold ja;rw[nW h]
def aea {e:Env}{n:bn}(h:(¬(n.any.length:Int)=1\/¬n.any[0]!.name=nm)\/FQ n.when' e=false):rA e nm ft n=[]:=by
 unfold rA;rw[ah];rintro⟨⟨h1,h2⟩,h3⟩;rcases h with(h|h)|h
 .omega
 .exact h h2
 .rw[h]at h3;cases h3
def YD (n:bn):List fS:=if n.option=[]then []else iM n
def Se {e:Env}{n:bn}(h:((n.any.length:Int)=1/\n.any[0]!.name=nm)/\FQ n.when' e=true):rA e nm ft n=YD n++[[⟨⟨nm,ft⟩,fe n.any[0]!.range⟩]]:=by
 unfold rA;rw[ak ⟨⟨ae,h.1.2⟩,h.2⟩];rfl
def yZ (r:Rec)(e:Env)(ft:au)(i:Nat):List fS:=[[⟨⟨r.name,[]⟩,dH r.v⟩]]++((uT r.feats ft).take i).flatMap (mr r e)
def O1 {e:Env}{i:Nat}(h:i<(uT r.feats ft).length):yZ r e ft i++mr r e (uT r.feats ft)[i]! =yZ r e ft (i+1):=by unfold yZ;rw[nW h,fC]
def ajG {e:Env}(h:¬ft=[]):yZ r e ft (uT r.feats ft).length=cM r e ft:=by unfold yZ cM;rw[ah h,List.take_length]
def Ye {e:Env}(h:BX r)(i:Nat):(yZ r e ft i).length<=1+384:=by
 have h2:=(xz h ft).1;have h1:=iv (f:=mr r e) (B:=64) (l:=(uT r.feats ft).take i) λs _=>(tl h).1
 unfold yZ;rw[dF]at h1;rw[cu,List.length_singleton];have:64*min i (uT r.feats ft).length<=64*6:=Nat.mul_le_mul_left _ ae;omega
def aji {e:Env}{s:au}(h:(bK s).1=1):mr r e s=[[⟨⟨r.name,(bK s).2.1⟩,dH r.v⟩]]:=by unfold mr;rw[ak h]
def ajj {e:Env}{s:au}(h:¬(bK s).1=1)(h2:(bK s).1=2):mr r e s=qM r.needs e (bK s).2.1:=by unfold mr;rw[ah h,ak h2]
def ajk {e:Env}{s:au}(h:¬(bK s).1=1)(h2:¬(bK s).1=2):mr r e s=ja r.needs e (bK s).2.1 (bK s).2.2:=by unfold mr;rw[ah h,ah h2]
def TJ (l:List b6)(nm:au):findF l nm 0=-1\/∃j:Nat,findF l nm 0=(j:Int)/\j<l.length:=by
 unfold findF;rw[cY];cases h:l.findIdx? (λx=>decide (x.name=nm))with
 |none=>exact .inl rfl
 |some k=>exact .inr ⟨k,aC,(List.findIdx?_eq_some_iff_getElem.1 h).1⟩
def rJ (all:List Key)(r:fS)(i:Nat):nR:=(r.take i).map λa=>⟨eo all a.k,a.s⟩
def aeK {all:List Key}{r:fS}{i:Nat}(h:i<r.length):rJ all r i++[⟨eo all r[i]!.k,r[i]!.s⟩]=rJ all r (i+1):=by unfold rJ;rw[map_take h]
def Vf (all:List Key)(r:fS)(i:Nat):(rJ all r i).length<=i:=by unfold rJ;rw[a8,dF];omega
def aeJ {all:List Key}{l:List fS}{i:Nat}(h:i<l.length):dG all (l.take i)++[rJ all l[i]! l[i]!.length]=dG all (l.take (i+1)):=by unfold dG rJ;rw[map_take h,List.take_length]
def Ve (all:List Key)(l:List fS)(i:Nat):(dG all (l.take i)).length<=i:=by unfold dG;rw[a8,dF];omega
def QZ {all:List Key}{e:Env}{i:Nat}(h:i<r.bars.length):(r.bars.take i).flatMap (qt all e)++qt all e r.bars[i]! =(r.bars.take (i+1)).flatMap (qt all e):=by rw[nW h]
def ahr {all:List Key}{e:Env}{b:lu}(h:0<=eo all ⟨b.name,[]⟩/\FQ b.when' e=true):qt all e b=[⟨eo all ⟨b.name,[]⟩,fe b.range⟩]:=by unfold qt;rw[ak h]
def ahq {all:List Key}{e:Env}{b:lu}(h:¬0<=eo all ⟨b.name,[]⟩\/FQ b.when' e=false):qt all e b=[]:=by unfold qt;rw[ah (by rintro⟨h1,h2⟩;rcases h with h|h;exact h h1;rw[h]at h2;cases h2)]
def Wg (all:List Key)(e:Env)(b:lu):(qt all e b).length<=1:=by unfold qt;split<;>simp
def Ty (all:List Key)(e:Env)(l:List lu)(i:Nat):((l.take i).flatMap (qt all e)).length<=i:=by
 have h:=iv (f:=qt all e) (B:=1) (l:=l.take i) λb _=>Wg all e b
 rw[dF]at h;omega
def akS {l:List gW}{i:Nat}(h:i<l.length):eL (l.take i)++[[⟨⟨l[i]!.r.name,lv⟩,dH l[i]!.r.v⟩]]=eL (l.take (i+1)):=by unfold eL;rw[map_take h]
def ZU (l:List gW)(i:Nat):(eL (l.take i)).length<=i:=by unfold eL;rw[a8,dF];omega
def adb (l k:Nat)(es:List Abs.D)(xs:List nR):mN l k es (xs.map jJ)=xs.map jJ:=jM l k es _ (bX (λ_=>rfl) _)
def gW.fz (l k:Nat)(es:List Abs.D)(c:gW):iY l k es c.D=c.D:=ic l k es _ rfl
def lu.fz (l k:Nat)(es:List Abs.D)(c:lu):iY l k es c.D=c.D:=ic l k es _ rfl
def js.fz (l k:Nat)(es:List Abs.D)(c:js):iY l k es c.D=c.D:=ic l k es _ rfl
section
variable {shop:List bA}{ps:List iN}
def aiS (h:dr shop=false):gr shop ps nm=(0,1):=by unfold gr;rw[ak h]
def aiT (h:dr shop=true)(h2:Ad ps=false):gr shop ps nm=(0,15):=by unfold gr;rw[ah je,ak h2]
def aiU {i:Nat}(h:dr shop=true)(h2:Ad ps=true)(h3:E6 ps nm=(i:Nat))(h4:lq shop ps[i]!.shelf<0):gr shop ps nm=(0,12):=by
 unfold gr;rw[ah je,ah (by rw[h2];simp),ak ae,h3,Int.toNat_natCast,ak h4]
def aiV {i:Nat}(h:dr shop=true)(h2:Ad ps=true)(h3:E6 ps nm=(i:Nat))(h4:¬lq shop ps[i]!.shelf<0):gr shop ps nm=(lq shop ps[i]!.shelf,0):=by
 unfold gr;rw[ah je,ah (by rw[h2];simp),ak ae,h3,Int.toNat_natCast,ah h4]
def aiW (h:dr shop=true)(h2:Ad ps=true)(h3:E6 ps nm=-1)(h4:fR (Cv nm) shop 0=(j:Nat)):gr shop ps nm=(((j:Nat):Int),0):=by
 unfold gr;rw[ah je,ah (by rw[h2];simp),ah ae,h4,ah ae]
def aiX (h:dr shop=true)(h2:Ad ps=true)(h3:E6 ps nm=-1)(h4:fR (Cv nm) shop 0=-1):gr shop ps nm=(0,9):=by
 unfold gr;rw[ah je,ah (by rw[h2];simp),ah ae,h4];rfl
end
def adr {i k:Nat}(h:AY es l i 0=k):(l.take k++[((i:Nat):Int)])++l.drop k=Hj es l i:=by unfold Hj;rw[h]
def adC {i:Nat}(h:es[i]!.r.name=nm):Hj es (eK es nm i) i=eK es nm (i+1):=by rw[eK,ak h]
def adB {i:Nat}(h:¬es[i]!.r.name=nm):eK es nm i=eK es nm (i+1):=by rw[eK,ah h]
def adA {s:bA}(h:fO s=true):eK s.es nm s.es.length=kq s nm:=by unfold kq;rw[h,ah aC]
def aee {l:List Key}{k:Key}{i:Nat}(h:EY l k 0=i)(h2:¬(i<l.length/\l[i]! =k)):(l.take i++[k])++l.drop i=sA l k:=by unfold sA;rw[h,ah h2]
def aec {l:List Key}{k:Key}{i:Nat}(h:EY l k 0=i)(h2:i<l.length/\l[i]! =k):l=sA l k:=by unfold sA;rw[h,ak h2]
def D5 {l:List α}{i:Nat}{x:α}(h:x∈l.take i):x∈l:=EC h
def k8 (x:de):List Key:=if x.bare=true then []else [⟨x.name,lv⟩]
def ox (x:de):List Key:=if x.bare=true then(if x.feats=[]then [⟨x.name,[]⟩]else [])else [⟨x.name,lv⟩]
def mU (x:de)(i:Nat):List Key:=ox x++(x.feats.take i).map (Key.mk x.name)
def aak {x:de}(h:x.bare=false):k8 x=[⟨x.name,lv⟩]:=by unfold k8;rw[h];rfl
def aal {x:de}(h:x.bare=true):k8 x=[]:=by unfold k8;rw[ak h]
def aan {x:de}(h:x.bare=true/\(x.feats.length:Int)=0):k8 x++[⟨x.name,[]⟩]=ox x:=by
 have:x.feats=[]:=aaP.1 ae;unfold k8 ox;rw[ak h.1,ak h.1,ak this];rfl
def aam {x:de}(h:x.bare=false\/¬(x.feats.length:Int)=0):k8 x=ox x:=by
 unfold k8 ox;cases hb:x.bare with
 |false=>rfl
 |true=>
  have h2:=h.resolve_left (by rw[hb];simp);have:¬x.feats=[]:=λe=>h2 (by rw[e];rfl)
  rw[ak rfl,ak rfl,ah this]
def Qh (x:de):(k8 x).length<=1:=by unfold k8;split<;>simp
def Qi (x:de):(ox x).length<=1:=by unfold ox;split<;>(try split)<;>simp
def Qj (x:de)(i:Nat):(mU x i).length<=1+i:=by
 have:=Qi x;unfold mU;rw[cu,a8,dF];omega
def aao (x:de):ox x=mU x 0:=by unfold mU;simp
def aaq {x:de}{i:Nat}(h:i<x.feats.length):mU x i++[⟨x.name,x.feats[i]!⟩]=mU x (i+1):=by
 unfold mU;rw[map_take h,<-fC]
def aap (x:de):mU x x.feats.length=ff x:=by unfold mU ff ox;rw[List.take_length]
def asdK (s:cx)(k:Key):fS:=[⟨k,s⟩]
def zh (n:bn)(i:Nat):List fS:=((ff n.any[0]!).take i).map (asdK (fe n.any[0]!.range))
def akX {n:bn}{i:Nat}(h:i<(ff n.any[0]!).length):zh n i++[asdK (fe n.any[0]!.range) (ff n.any[0]!)[i]!]=zh n (i+1):=by unfold zh;rw[map_take h]
def akW {n:bn}(h:(n.any.length:Int)=1):zh n (ff n.any[0]!).length=iM n:=by unfold zh iM;rw[ak ae,List.take_length];rfl
def ZX (n:bn)(i:Nat):(zh n i).length<=i:=by unfold zh;rw[a8,dF];omega
def Yq (w:de):js:=⟨(ff w)[0]!,fe w.range⟩
def A3 (n:bn)(i:Nat):List js:=(n.any.take i).map Yq
def ajU {n:bn}{i:Nat}(h:i<n.any.length):A3 n i++[Yq n.any[i]!]=A3 n (i+1):=by unfold A3;rw[map_take h]
def ajT {n:bn}(h:¬(n.any.length:Int)=1):[A3 n n.any.length]=iM n:=by unfold A3 iM;rw[ah ae,List.take_length];rfl
def Yp (n:bn)(i:Nat):(A3 n i).length<=i:=by unfold A3;rw[a8,dF];omega
def xd (l k:Nat)(es:List Abs.D)(xs:List fS)(d:Abs.D):mN l k es (xs.map dS++[d])=xs.map dS++[iY l k es d]:=by
 induction xs with
 |nil=>rfl
 |cons x r ih=>rw[List.map_cons,sU,mN,ih];rfl
def Ct (l k:Nat)(es:List Abs.D)(xs:List js):mN l k es (xs.map js.D)=xs.map js.D:=jM l k es _ (bX (λ_=>rfl) _)
def bn.fz (l k:Nat)(es:List Abs.D)(c:bn):iY l k es c.D=c.D:=ic l k es _ rfl
def Env.fz (l k:Nat)(es:List Abs.D)(c:Env):iY l k es c.D=c.D:=ic l k es _ rfl
def de.fz (l k:Nat)(es:List Abs.D)(c:de):iY l k es c.D=c.D:=ic l k es _ rfl
def cx.fz (l k:Nat)(es:List Abs.D)(c:cx):iY l k es c.D=c.D:=ic l k es _ rfl
def Key.fz (l k:Nat)(es:List Abs.D)(c:Key):iY l k es c.D=c.D:=ic l k es _ rfl
variable{b:List Key}{k:Key}
def uz.fz (l k:Nat)(es:List Abs.D)(c:uz):iY l k es c.D=c.D:=ic l k es _ rfl
def pD (xs:List fS)(a:js):xs.map dS++[.sl 4 [a.D]]=(xs++[[a]]).map dS:=by rw[List.map_append];rfl
def XX {y:cC}(hj:lR y.l nm=(j:Nat)):dL y nm=[⟨y.l[j]!.r,-1⟩]:=by
 unfold dL;rw[ak ae,hj,Int.toNat_natCast]
def adF (nm:au):(cJ y.shop y.pins nm).2.1.length<=64:=by
 unfold cJ;split
 .simp
 .exact(sj _ _).1
def ajB {y:cC}(hy:pB y){i:Nat}(hc:(cJ y.shop y.pins nm).2.2=0)(hi:i<(cJ y.shop y.pins nm).2.1.length):
  ∃j:Nat,(cJ y.shop y.pins nm).1=(j:Int)/\j<y.shop.length/\∃t:Nat,(cJ y.shop y.pins nm).2.1[i]! =(t:Int)/\t<y.shop[j]!.es.length/\y.shop[j]!.es[t]!.r.v.sm:=by
 have h2:(gr y.shop y.pins nm).2=0:=by
  unfold cJ at hc;split at hc
  .rename_i h3;exact absurd hc h3
  .rename_i h3;exact Classical.not_not.1 h3
 obtain⟨hB,j,hj,hjl⟩:=pN h2;have e1:cJ y.shop y.pins nm=((j:Int),kq y.shop[j]! nm,0):=by
  unfold cJ;rw[ah (λh=>h h2),hj,Int.toNat_natCast]
 rw[e1]at hi⊢;dsimp only at hi⊢;obtain⟨h5,h6⟩:=(sj y.shop[j]! nm).2 _ (aq hi);refine⟨j,rfl,hjl,(kq y.shop[j]! nm)[i]!.toNat,ae,ae, ?_⟩;exact(hy.1.2 _ (aq hjl) _ (aq ae)).1.2
def FH (y:cC)(nm:au)(a:Nat):∀(l r:List Int),iZ y nm a (l++r)=iZ y nm a l++iZ y nm a r
 |[],_=>rfl
 |x::l,r=>by rw[sU,iZ,iZ,FH y nm a l r,fC]
def RI (nm:au)(a:Nat){i:Nat}(h:i<l.length):iZ y nm a (l.take (i+1))=iZ y nm a (l.take i)++(if SI y nm y.shop[a]!.es[l[i]!.toNat]! =true then [⟨y.shop[a]!.es[l[i]!.toNat]!.r,(a:Int)⟩]else []):=by
 have e:l.take (i+1)=l.take i++[l[i]!]:=by
  rw[List.take_add_one,List.getElem?_eq_getElem h];simp[h]
 rw[e,FH,iZ,iZ,gB]
def adE {y:cC}{A:Int}{i t:Nat}(hj:A=(j:Int))(h:i<l.length)(ht:l[i]! =(t:Int))(hx:(y.shop[j]!.es[t]!.off=false\/LI y.keeps y.shop[j]!.es[t]!.r=true)/\oY (kM y.l nm) y.shop[j]!.es[t]!.r.v=true):iZ y nm A.toNat (l.take i)++[⟨y.shop[j]!.es[t]!.r,A⟩]=iZ y nm A.toNat (l.take (i+1)):=by
 subst hj;rw[RI y nm _ h,ht,Int.toNat_natCast,Int.toNat_natCast,ak];unfold SI;rw[hx.2];rcases hx.1 with h|h<;>rw[h]<;>simp
def adD {y:cC}{A:Int}{i t:Nat}(hj:A=(j:Int))(h:i<l.length)(ht:l[i]! =(t:Int))(hx:(y.shop[j]!.es[t]!.off=true/\LI y.keeps y.shop[j]!.es[t]!.r=false)\/oY (kM y.l nm) y.shop[j]!.es[t]!.r.v=false):iZ y nm A.toNat (l.take i)=iZ y nm A.toNat (l.take (i+1)):=by
 subst hj;rw[RI y nm _ h,ht,Int.toNat_natCast,Int.toNat_natCast,ah,gB];unfold SI;rcases hx with⟨h1,h2⟩|h<;>simp_all
def ajy {y:cC}{i:Nat}(h0:¬0<=lR y.l nm)(hi:i<=(cJ y.shop y.pins nm).2.1.length)(he:¬((i:Nat):Int)<((cJ y.shop y.pins nm).2.1.length:Nat)\/¬(cJ y.shop y.pins nm).2.2=0):iZ y nm (cJ y.shop y.pins nm).1.toNat ((cJ y.shop y.pins nm).2.1.take i)=dL y nm:=by
 unfold dL;rw[ah h0];by_cases hc:(cJ y.shop y.pins nm).2.2=0
 .rw[ah (λh=>h hc),gU (by rcases he with h|h;omega;exact absurd hc h)]
 .rw[ak hc];have:(cJ y.shop y.pins nm).2.1=[]:=by
   unfold cJ at hc⊢;split
   .rfl
   .rename_i h;rw[ah h]at hc;exact absurd rfl hc
  rw[this,List.take_nil];rfl
def Xn (l:List gW)(nm:au):(kM l nm).sm:=by
 unfold kM;split
 .exact aeu _
 .exact ab4
def aat {v:bV}(h:v∈bF):v.sm:=by
 obtain⟨i,hi,rfl⟩:=gh h;exact yn i
def EH (n i:Nat):List Int:=(List.range n).map λu=>if 1<=u/\u<i then-1 else 0
def Q9 (n i:Nat):List Int:=(List.range n).map λu=>if u<i then-1 else 0
def Bm (n i:Nat):(EH n i).length=n:=by simp[EH]
def wN (n i:Nat):(Q9 n i).length=n:=by simp[Q9]
def c1T_0:List.replicate n (D.int .i64 0)=(Q9 n 0).map (D.int .i64):=by
 apply List.ext_getElem
 .simp[Q9]
 .intro i h1 h2;simp only[List.getElem_replicate,Q9,List.getElem_map,List.getElem_range];rw[ah ae]
theorem acp {n i:Nat}(hi:i<n):(Q9 n i).set i (-1)=Q9 n (i+1):=by
 apply List.ext_getElem
 .simp[Q9]
 .intro j h1 h2;simp only[List.getElem_set,Q9,List.getElem_map,List.getElem_range]
  grind
theorem aco {n:Nat}:(Q9 n n).set 0 0=EH n n:=by
 apply List.ext_getElem
 .simp[EH,Q9]
 .intro j h1 h2;simp only[List.getElem_set,EH,Q9,List.getElem_map,List.getElem_range];simp only[List.length_set,wN]at h1
  grind
def jk (e:Env)(w:bP)(l:lI):List Int×Int×au:=
 if eG w=false\/dr shop=false\/nV e=false then([],1,[])else if LM l=false\/l.env≠e then([],34,[])
 else mz shop w.us l.lines (EH w.us.length w.us.length)
def ChoP (w:bP)(l:lI):Prop:=iH shop/\w.sm/\l.sm
section
variable {shop:List bA}{e:Env}{l:lI}
theorem cho_a (h:(eG w=false\/dr shop=false)\/nV e=false):jk shop e w l=([],1,[]):=by
 rw[jk,ak (by grind)]
theorem cho_b (h:(eG w=true/\dr shop=true)/\nV e=true)(h2:LM l=false\/¬l.env=e):jk shop e w l=([],34,[]):=by
 rw[jk,ah (by grind),ak h2]
theorem Wy (h:(eG w=true/\dr shop=true)/\nV e=true)(h2:LM l=true/\l.env=e):jk shop e w l=mz shop w.us l.lines (EH w.us.length w.us.length):=by
 rw[jk,ah (by grind),ah (by grind)]
end
def Hr (shop:List bA)(us:List cI)(l:List ea)(c:List Int):Nat->List Int
 |0=>c
 |i+1=>(kT shop us l[i]! (Hr shop us l c i)).2
def LP {shop:List bA}{us:List cI}{l:List ea}{c:List Int}:∀i,(Hr shop us l c i).length=c.length
 |0=>rfl
 |i+1=>by rw[Hr,Y9,LP]
def uH (us:List cI):Nat->List D
 |0=>[]
 |i+1=>if 0<i then z8 (wm us[i]!.name us[i]!.feat) (.int .i64 (i:Nat)) (uH us i)else []
def afG {k v:D}(hk:vJ k=true):∀{l:List D},xr l=true->xr (z8 k v l)=true
 |[],_=>by simp[z8,xr,hk]
 |[_],h=>by simp[xr]at h
 |a::b::r,h=>by
  simp only[xr,aA]at h;rw[z8];cases pR a k
  .simp only[cond_false,xr,h.1,afG hk h.2,Bool.and_self]
  .simp only[cond_true,xr,h.1,h.2,Bool.and_self]
def D9 (us:List cI):∀i,xr (uH us i)=true
 |0=>rfl
 |i+1=>by
  rw[uH];split
  .exact afG rfl (D9 us i)
  .rfl
def OJ (a b c d:au):pR (wm a b) (wm c d)=(decide (a=c)&&decide (b=d)):=by
 simp only[pR,wm];rw[Bool.eq_iff_iff];simp
def Ry {a:D}{c d:au}(h:pR a (wm c d)=true):a=wm c d:=by
 unfold pR wm at h;split at h
 .rename_i h1;simp only[D.agg.injEq,sV,D.str.injEq,dw,aA,beq_iff_eq]at h1 h;obtain⟨rfl,rfl⟩:=h1;rw[h.1,h.2];rfl
 .cases h
theorem X8 {a b c d:au}{v:D}:∀{l:List D},xr l=true->NW (wm a b) (z8 (wm c d) v l)=if a=c/\b=d then some v else NW (wm a b) l
 |[],_=>by
  simp only[z8,NW,OJ];by_cases h:a=c/\b=d
  .rw[ak h];simp[h]
  .rw[ah h];have:(decide (c=a)&&decide (d=b))=false:=by grind
   rw[this];rfl
 |[_],h=>by simp[xr]at h
 |k::w::r,h=>by
  simp only[xr,aA]at h;rw[z8];cases hk:pR k (wm c d)
  .simp only[cond_false,NW,X8 h.2];cases hk2:pR k (wm a b)
   .rfl
   .have:=Ry hk2;subst this;rw[OJ]at hk;have hn:¬(a=c/\b=d):=by grind
    simp only[ah hn]
  .have:=Ry hk;subst this;simp only[cond_true,NW,OJ];by_cases h2:a=c/\b=d
   .rw[ak h2];simp[h2]
   .rw[ah h2];have:(decide (c=a)&&decide (d=b))=false:=by grind
    rw[this];rfl
theorem xg:∀a b c:au,Op.bytesLess a b=true->Op.bytesLess b c=true->Op.bytesLess a c=true
 |[],[],_,h,_=>by simp[Op.bytesLess]at h
 |[],_::_,[],_,h=>by simp[Op.bytesLess]at h
 |[],_::_,_::_,_,_=>by simp[Op.bytesLess]
 |_::_,[],_,h,_=>by simp[Op.bytesLess]at h
 |_::_,_::_,[],_,h=>by simp[Op.bytesLess]at h
 |x::a,y::b,z::c,h1,h2=>by
  have ih:=xg a b c;unfold Op.bytesLess at h1 h2⊢;have e1:=UInt8.lt_iff_toNat_lt (a:=x) (b:=y);have e2:=UInt8.lt_iff_toNat_lt (a:=y) (b:=z);have e3:=UInt8.lt_iff_toNat_lt (a:=x) (b:=z);have e4:=pw (a:=x) (b:=y);have e5:=pw (a:=y) (b:=z);have e6:=pw (a:=x) (b:=z)
  grind
theorem Wa {a b c:cI}(h1:jL a b=true)(h2:jL b c=true):jL a c=true:=by
 have t1:=xg a.name b.name c.name;have t2:=xg a.feat b.feat c.feat;unfold jL at*
 grind
def tE {w:bP}(h:eG w=true){i:Nat}(hi:1<=i):∀{j:Nat},i<j->j<w.us.length->jL w.us[i]! w.us[j]! =true
 |0,h1,_=>absurd h1 (Nat.not_lt_zero _)
 |j+1,h1,h2=>by
  have h3:jL w.us[j]! w.us[j+1]! =true:=by
   simp only[eG,aA,bd,lF]at h;have:=(h.2 (j+1) (Nat.zero_le _) h2).1.1.2;simp only[cE,ep,ct,cZ,Nat.add_sub_cancel]at this;rcases this with h4|h4
   .omega
   .exact h4
  by_cases hij:i=j
  .subst hij;exact h3
  .exact Wa (tE h hi ae ae) h3
def zo (h:eG w=true){a b:au}{i:Nat}(hi:1<=i)(hij:i<j)(hj:j<w.us.length)(h1:n6 a b w.us[i]! =true)(h2:n6 a b w.us[j]! =true):False:=by
 have:=tE h hi hij hj;simp only[n6,aA,aT]at h1 h2;unfold jL at this;rw[h1.1,h1.2,h2.1,h2.2,my,my]at this;simp at this
theorem aai {us:List cI}{a b:au}:∀{n:Nat},(∀i,1<=i->i<n->n6 a b us[i]! =false)->NW (wm a b) (uH us n)=none
 |0,_=>rfl
 |n+1,h=>by
  rw[uH];split
  .rename_i h0;have h1:=h n h0 ae;rw[X8 (D9 us n),aai (λi h2 h3=>h i h2 ae)];simp only[n6]at h1;rw[ah (by grind)]
  .rfl
theorem aaj {w:bP}(hw:eG w=true){a b:au}{i:Nat}(hi:1<=i)(h:n6 a b w.us[i]! =true):∀{n:Nat},i<n->n<=w.us.length->NW (wm a b) (uH w.us n)=some (.int .i64 (i:Nat))
 |0,h1,_=>absurd h1 (Nat.not_lt_zero _)
 |n+1,h1,h2=>by
  rw[uH,ak ae,X8 (D9 _ n)];by_cases hin:i=n
  .subst hin;simp only[n6,aA,aT]at h;rw[ak ⟨h.1.symm,h.2.symm⟩]
  .have h3:=aaj hw hi h (n:=n) ae ae;have h4:n6 a b w.us[n]! =false:=by
    cases hc:n6 a b w.us[n]!
    .rfl
    .exact(zo hw hi ae ae h hc).elim
   simp only[n6]at h4;rw[h3,ah (by grind)]
def ajE (hw:eG w=true):VX w.us (uH w.us w.us.length):=by
 refine⟨D9 _ _,λa b=>?_⟩;have hd:∀q,(w.us.drop 1)[q]! =w.us[1+q]! :=λq=>by simp[List.getElem!_eq_getElem?_getD,Nat.add_comm]
 have hu:fM w.us a b=fR (n6 a b) (w.us.drop 1) 1:=rfl;rcases eX (f:=n6 a b) (l:=w.us.drop 1) (k:=1)with⟨h1,h2⟩|⟨j,h1,h2,h3,_⟩
 .rw[aai (λi h3 h4=>by have:=h2 (i-1) (by rw[jO];omega);rw[hd,show 1+(i-1)=i by omega]at this;exact this)];simp only[ym];rw[hu,h1];rfl
 .rw[hd]at h3;rw[jO]at h2;rw[aaj hw (i:=1+j) ae h3 ae (aN _)];simp only[ym];rw[hu,h1,ah ae,br ae]
def Qn (h:eG w=true):1<=w.us.length/\w.us.length<=48:=by
 simp only[eG,aA,aT]at h;exact h.1.1
def lI.fz (l k:Nat)(es:List Abs.D)(c:lI):iY l k es c.D=c.D:=ic l k es _ (by simp only[lI.D,D.aR,aK,gC])
theorem CP:∀a b:au,Op.bytesLess a b=false->a≠b->Op.bytesLess b a=true
 |[],[],_,h=>absurd rfl h
 |[],_::_,h,_=>by simp[Op.bytesLess]at h
 |_::_,[],_,_=>by simp[Op.bytesLess]
 |x::a,y::b,h,hn=>by
  have ih:=CP a b;unfold Op.bytesLess at h⊢;have e1:=UInt8.lt_iff_toNat_lt (a:=x) (b:=y);have e2:=UInt8.lt_iff_toNat_lt (a:=y) (b:=x);have e4:=pw (a:=x) (b:=y)
  grind
def tm (a:Key):eY a a=false:=by unfold eY;rw[my,my];simp
theorem OM {a b c:Key}(h1:eY a b=true)(h2:eY b c=true):eY a c=true:=by
 have t1:=xg a.n b.n c.n;have t2:=xg a.f b.f c.f;unfold eY at*
 grind
theorem Hl {a b:Key}(h:eY a b=false)(hn:a≠b):eY b a=true:=by
 have t1:=CP a.n b.n;have t2:=CP a.f b.f;have hk:¬(a.n=b.n/\a.f=b.f):=λh=>hn (by cases a;cases b;simp at h;simp[h.1,h.2])
 unfold eY at*
 grind
def XN (h:k≠fJ):eY fJ k=true:=by
 refine Hl ?_ h;unfold eY fJ;cases k with
 |mk n f=>cases n<;>cases f<;>simp[Op.bytesLess]
def KS (l:List Key):Prop:=l.Pairwise λa b=>eY a b=true
def qZ {α:Type}{p:α->Bool}:∀(l:List α),∀x∈l.take (l.takeWhile p).length,p x=true
 |[],x,h=>by simp at h
 |a::r,x,h=>by
  rw[List.takeWhile_cons]at h;split at h
  .rename_i ha;simp only[bD,List.take_succ_cons,bG]at h;rcases h with rfl|h
   .exact ha
   .exact qZ r x h
  .simp at h
def wj {α:Type} [Inhabited α]{p:α->Bool}:∀(l:List α),(l.takeWhile p).length<l.length->p l[(l.takeWhile p).length]! =false
 |[],h=>by simp at h
 |a::r,h=>by
  rw[List.takeWhile_cons]at h⊢;split
  .rename_i ha;rw[ak ha]at h;simp only[bD]at h⊢;have:=wj (p:=p) r ae;simpa using this
  .rename_i ha;simpa using ha
def LG [Inhabited α]{lt:α->α->Prop}{p:α->Bool}{l:List α}{k:α}(htr:∀a b c,lt a b->lt b c->lt a c)(hl:l.Pairwise lt)(h1:∀x∈l,p x=true->lt x k)(h2:∀x∈l,p x=false->lt k x):
  ((l.take (l.takeWhile p).length++[k])++l.drop (l.takeWhile p).length).Pairwise lt:=by
 have hs:(l.take (l.takeWhile p).length++l.drop (l.takeWhile p).length).Pairwise lt:=by rw[List.take_append_drop];exact hl
 rw[List.pairwise_append]at hs;obtain⟨g1,g2,g3⟩:=hs;have e1:∀x∈l.take (l.takeWhile p).length,lt x k:=λx hx=>h1 x (EC hx) (qZ l x hx)
 have e2:∀x∈l.drop (l.takeWhile p).length,lt k x:=by
  rcases dX (l.takeWhile p).length l.length with h|h
  .have hd:=wj l h;have hlt:=h2 _ (aq h) hd;rw[eH h]at g2⊢;rw[show l[(l.takeWhile p).length]=l[(l.takeWhile p).length]! by simp[h]]at g2⊢;intro x hx;rcases bG.1 hx with rfl|hx
   .exact hlt
   .exact htr _ _ _ hlt ((List.pairwise_cons.1 g2).1 x hx)
  .rw[jN h];intro x hx;cases hx
 rw[List.pairwise_append,List.pairwise_append];refine⟨⟨g1,List.pairwise_singleton _ _,λa ha b hb=>?_⟩,g2,λa ha b hb=>?_⟩
 .rw[aD.1 hb];exact e1 a ha
 .rcases List.mem_append.1 ha with ha|ha
  .exact htr _ _ _ (e1 a ha) (e2 b hb)
  .rw[aD.1 ha];exact e2 b hb
def Uy {l:List Key}(hl:KS l):KS (sA l k):=by
 unfold sA;split
 .exact hl
 .rename_i hn;have e:EY l k 0=(l.takeWhile λx=>eY x k).length:=by unfold EY;rw[cY,cr]
  rw[e]at hn⊢;by_cases hk:k∈l
  ·
   exfalso;refine hn ?_;have hlt:(l.takeWhile λx=>eY x k).length<l.length:=by
    rcases dX (l.takeWhile λx=>eY x k).length l.length with h|h
    .exact h
    .have:=qZ (p:=λx=>eY x k) l k (by rw[gU h];exact hk);rw[tm]at this;cases this
   refine⟨hlt, ?_⟩;have hd:=wj (p:=λx=>eY x k) l hlt;by_cases hq:l[(l.takeWhile λx=>eY x k).length]! =k
   .exact hq
   .have h3:=Hl hd hq;have hs:(l.take (l.takeWhile λx=>eY x k).length++l.drop (l.takeWhile λx=>eY x k).length).Pairwise λa b=>eY a b=true:=by rw[List.take_append_drop];exact hl
    rw[List.pairwise_append]at hs;have hk2:k∈l.take (l.takeWhile λx=>eY x k).length\/k∈l.drop (l.takeWhile λx=>eY x k).length:=by rw[<-List.mem_append,List.take_append_drop];exact hk
    rcases hk2 with h4|h4
    .have:=qZ (p:=λx=>eY x k) l k h4;rw[tm]at this;cases this
    .obtain⟨_,g2,_⟩:=hs;rw[eH hlt,show l[(l.takeWhile λx=>eY x k).length]=l[(l.takeWhile λx=>eY x k).length]! by simp[hlt]]at g2 h4;rcases bG.1 h4 with h5|h5
     .exact absurd h5.symm hq
     .have h6:=(List.pairwise_cons.1 g2).1 k h5;have:=OM h3 h6;rw[tm]at this;cases this
  .refine LG (lt:=λa b=>eY a b=true) (p:=λx=>eY x k) (λa b c h1 h2=>OM h1 h2) hl (λx _ h=>h) (λx hx h=>Hl h λe=>hk (e▸hx))
def NmK (k:Key):Prop:=k=fJ\/k.n≠[]
structure KU (s:oW):Prop where
 sort:KS s.all
 nm:∀k∈s.all,NmK k
def akO {s:oW}{a:js}(h:KU s)(ha:a.k.n≠[]):KU (mD s a):=by
 have hm:=(H2 s a).1;refine⟨?_,λk hk=>?_⟩
 .unfold mD;split
  .exact Uy h.sort
  .exact h.sort
 .rcases(hm k).1 hk with h1|rfl
  .exact h.nm k h1
  .exact .inr ha
def Zx:∀(row:fS) (s:oW),(∀a∈row,a.k.n≠[])->KU s->KU (row.foldl mD s)
 |[],s,_,h=>h
 |b::r,s,hn,h=>Zx r _ (λa ha=>hn a (.tail _ ha)) (akO h (hn b (.head _)))
def Zz:∀(l:List fS) (s:oW),(∀row∈l,∀a∈row,a.k.n≠[])->KU s->KU (Pp s l)
 |[],s,_,h=>h
 |b::r,s,hn,h=>Zz r _ (λrow hr=>hn row (.tail _ hr)) (Zx b s (hn b (.head _)) h)
def Zy {y:cC}(hy:∀k,∀row∈dc y k,∀a∈row,a.k.n≠[]):∀(n:Nat){s:oW}{all:List Key},KU s->A8 y n s=some all->KU ⟨all,[]⟩
 |0,s,all,_,h=>by cases h
 |n+1,s,all,hI,h=>by
  rw[A8]at h;split at h
  .obtain rfl:=aW h;exact⟨hI.sort,hI.nm⟩
  .split at h
   .cases h
   .exact Zy hy n (s:=A9 y s) (Zz (dc y s.todo[0]!) ⟨s.all,s.todo.drop 1⟩ (hy _) ⟨hI.sort,hI.nm⟩) h
def VY (l:List fS):=∀row∈l,∀a∈row,a.k.n≠[]
def R1 {a b:List fS}(h1:VY a)(h2:VY b):VY (a++b):=λr hr=>(List.mem_append.1 hr).elim (h1 r) (h2 r)
def xx {f:α->List fS}{l:List α}(h:∀x∈l,VY (f x)):VY (l.flatMap f):=λr hr=>by
 obtain⟨x,hx,hr⟩:=List.mem_flatMap.1 hr;exact h x hx r hr
def HE {s:cx}(h:k.n≠[]):VY [[⟨k,s⟩]]:=λr hr b hb=>by
 rw[aD.1 hr]at hb;rw[aD.1 hb];exact h
def su {s:au}(h:df s=true):s≠[]:=by
 rintro rfl;revert h;decide
def Dp (h:BX r):r.name≠[]:=su h.1.1.1
theorem p0 (h:BX r):∀n∈r.needs,∀w∈n.any,df w.name=true:=by
 intro n hn w hw;obtain⟨⟨_,_,hp⟩,_⟩:=h;have h0:(lM r).1=0:=by grind [en]
 obtain⟨i,hi,rfl⟩:=gh hn;have h3:=qB h0 i hi;obtain⟨j,hj,rfl⟩:=gh hw;have h4:nI r r.needs[i]!.any=0:=by grind [jG]
 have h5:=Ck h4 j hj
 grind [lG,gK]
def Ea (w:de):∀k∈ff w,k.n=w.name:=by
 intro k hk;unfold ff at hk;rcases List.mem_append.1 hk with h|h
 .split at h
  .split at h
   .rw[aD.1 h]
   .cases h
  .rw[aD.1 h]
 .obtain⟨f,_,rfl⟩:=bY.1 h;rfl
def Nb {n:bn}(hn:wB n)(h:∀w∈n.any,df w.name=true):VY (iM n):=by
 unfold iM;split
 .intro r hr a ha;obtain⟨k,hk,rfl⟩:=bY.1 hr;rw[aD.1 ha,Ea _ k hk];exact su (h _ (aq hn.1.1))
 .intro r hr a ha;rw[aD.1 hr]at ha;obtain⟨w,hw,rfl⟩:=bY.1 ha;rw[Ea w _ (aq (oy w).1)];exact su (h w hw)
def R8 (h:BX r)(e:Env)(o:au):VY (qM r.needs e o):=xx λn hn=>by
 unfold A5;split
 .exact Nb ((gD h).2 n hn) (p0 h n hn)
 .intro q hq;cases hq
def Y2 (h:BX r)(e:Env)(nm ft:au):VY (ja r.needs e nm ft):=xx λn hn=>by
 have hN:=(gD h).2 n hn;unfold rA;split
 .rename_i hc;refine R1 ?_ (HE ?_)
  .split
   .intro q hq;cases hq
   .exact Nb hN (p0 h n hn)
  .show nm≠[];rw[<-hc.1.2];exact su (p0 h n hn _ (aq hN.1.1))
 .intro q hq;cases hq
def FM (h:BX r)(e:Env)(ft:au):VY (cM r e ft):=by
 unfold cM;split
 .exact R8 h e []
 .refine R1 (HE (Dp h)) (xx λs _=>?_);unfold mr;split
  .exact HE (Dp h)
  .split
   .exact R8 h e _
   .exact Y2 h e _ _
def Nc {y:cC}(hy:pB y)(k:Key):VY (dc y k):=by
 unfold dc;split
 .obtain⟨⟨⟨m,hm,hM⟩,_⟩,_⟩:=hy;intro r hr a ha;rw[hm]at hr;rw[aD.1 hr]at ha;rw[aD.1 ha];exact Dp (Bv hM)
 .exact xx λx hx=>FM ((xA hy k).2 x hx).1 y.e k.f
def H3 {y:cC}(hy:pB y){all:List Key}(h:mR y=some all):KS all/\∀k∈all,NmK k:=by
 have:=Zy (Nc hy) 49 (s:=nE) ⟨by simp[KS,nE],λk hk=>.inl (by simpa[nE]using hk)⟩ h;exact⟨this.sort,this.nm⟩
def all_zero {all:List Key}(hs:KS all)(hz:fJ∈all):all[0]! =fJ/\0<all.length:=by
 have h0:=List.length_pos_of_mem hz;refine⟨?_,h0⟩;cases all with
 |nil=>cases hz
 |cons a r=>
  show a=fJ;rcases bG.1 hz with h|h
  .exact h.symm
  .have h1:=(List.pairwise_cons.1 hs).1 fJ h;by_cases he:a=fJ
   .exact he
   .have:=OM h1 (XN he);rw[tm]at this;cases this
def tv {all:List Key}(hs:KS all)(hz:fJ∈all)(hk:k≠fJ):¬eo all k=0:=by
 intro h;unfold eo at h;rcases eX (f:=λx=>decide (x=k)) (l:=all) (k:=0)with⟨h1,_⟩|⟨j,h1,_,h3,_⟩
 .rw[h1]at h;cases h
 .rw[h1]at h;obtain rfl:j=0:=ae;rw[(all_zero hs hz).1]at h3;exact hk (of_decide_eq_true h3).symm
def aau:∀a∈bF,∀b∈bF,iL a b<0\/a=b\/iL b a<0:=by decide+kernel
def SP:∀a∈bF,∀b∈bF,∀c∈bF,iL a b<0->iL b c<0->iL a c<0:=by decide+kernel
def V7:=∀s∈shop,∀x∈s.es,x.r.v∈bF
def Z5 {s:bA}(h:fO s=true){i:Nat}(hij:i<j)(hj:j<s.es.length)(hn:s.es[i]!.r.name=s.es[j]!.r.name)(hv:gJ s.es[j]!.r.v=true):¬s.es[i]!.r.v=s.es[j]!.r.v:=by
 intro e;simp only[fO,aA,bd,pJ,aT]at h;have h1:=(h.2 j (Nat.zero_le _) hj).2;rw[Pg]at h1;have h2:=h1 s.es[i]! (by
  have:i<(s.es.take j).length:=by rw[dF];omega
  have h3:=aq this;rw[List.getElem!_eq_getElem?_getD,List.getElem?_take_of_lt hij,<-List.getElem!_eq_getElem?_getD]at h3;exact h3)
 unfold yz at h2;rw[br hn,e,FR hv]at h2;cases h2
def ltE (es:List iQ)(a b:Int):Prop:=(es[a.toNat]!.r.v∈bF/\es[b.toNat]!.r.v∈bF)/\iL es[a.toNat]!.r.v es[b.toNat]!.r.v<0
def ajC (a b c:Int)(h1:ltE es a b)(h2:ltE es b c):ltE es a c:=⟨⟨h1.1.1,h2.1.2⟩,SP _ h1.1.1 _ h1.1.2 _ h2.1.2 h1.2 h2.2⟩
def vN {s:bA}(h:fO s=true)(hv:∀x∈s.es,x.r.v∈bF)(nm:au):∀i,i<=s.es.length->(eK s.es nm i).Pairwise (ltE s.es)/\∀x∈eK s.es nm i,s.es[x.toNat]!.r.name=nm
 |0,_=>⟨List.Pairwise.nil,λx hx=>(by cases hx)⟩
 |i+1,hi=>by
  obtain⟨h1,h2⟩:=vN h hv nm i ae;rw[eK];split
  .rename_i hn;have hiv:=hv _ (aq (show i<s.es.length by omega));have hvb:gJ s.es[i]!.r.v=true:=(wX _ hiv).2;have hin:=(xk s.es nm i).2;refine⟨?_,λx hx=>?_⟩
   .unfold Hj AY;rw[cY,cr];refine LG (lt:=ltE s.es) ajC h1 (λx hx hp=>?_) (λx hx hp=>?_)
    .have:=hin x hx;rw[aT]at hp;refine⟨⟨hv _ (aq ae), ?_⟩, ?_⟩<;>rw[Int.toNat_natCast]
     .exact hiv
     .exact hp
    .have hxr:=hin x hx;have hxv:=hv _ (aq (show x.toNat<s.es.length by omega));rw[ct]at hp;refine⟨⟨?_,hxv⟩, ?_⟩<;>rw[Int.toNat_natCast]
     .exact hiv
     .rcases aau _ hxv _ hiv with h3|h3|h3
      .exact absurd h3 hp
      .exact absurd h3 (Z5 h (show x.toNat<i by omega) ae (by rw[h2 x hx,hn]) hvb)
      .exact h3
   .rcases LF hx with h3|h3
    .exact h2 x h3
    .rw[h3,Int.toNat_natCast];exact hn
  .exact⟨h1,h2⟩
def yS {y:cC}{nm:au}{a:Nat}:∀(l:List Int),(iZ y nm a l).Sublist (l.map λi=>⟨y.shop[a]!.es[i.toNat]!.r,(a:Int)⟩)
 |[]=>List.Sublist.slnil
 |i::r=>by
  rw[iZ,List.map_cons];split
  .exact(yS r).cons₂ _
  .exact(yS r).cons _
def RcLt (a b:uz):Prop:=iL a.r.v b.r.v<0
def Ua {y:cC}(h:pB y)(hv:V7 y.shop)(nm:au):(dL y nm).Pairwise RcLt:=by
 unfold dL;split
 .exact List.pairwise_singleton _ _
 .split
  .exact List.Pairwise.nil
  .rename_i h1;have h1:(cJ y.shop y.pins nm).2.2=0:=Classical.not_not.1 h1;have h2:(gr y.shop y.pins nm).2=0:=by
    unfold cJ at h1;split at h1
    .rename_i h3;exact absurd h1 h3
    .rename_i h3;exact Classical.not_not.1 h3
   obtain⟨hB,j,hj,hjl⟩:=pN h2;have e1:cJ y.shop y.pins nm=((j:Int),kq y.shop[j]! nm,0):=by
    unfold cJ;rw[ah (λh=>h h2),hj,Int.toNat_natCast]
   rw[e1];simp only[Int.toNat_natCast];have hs:=It hB hjl;have e2:kq y.shop[j]! nm=eK y.shop[j]!.es nm y.shop[j]!.es.length:=by unfold kq;rw[hs,ah aC]
   rw[e2];have h3:=(vN hs (hv _ (aq hjl)) nm _ (aN _)).1;refine List.Pairwise.sublist (yS _) ?_;rw[List.pairwise_map];exact h3.imp λh=>h.2
def adU {y:cC}(h:pB y)(hv:V7 y.shop)(k:Key):(eO y k).Pairwise RcLt:=List.Pairwise.sublist List.filter_sublist (Ua h hv k.n)
def CT {y:cC}(h:pB y)(hv:V7 y.shop)(hm:∀m∈y.l,m.r.v∈bF)(nm:au):∀x∈dL y nm,x.r.v∈bF:=by
 unfold dL;split
 .rename_i h0;intro x hx;rw[aD.1 hx];obtain⟨j,hj,hjl⟩:=(qN y.l nm).resolve_left ae;rw[hj,Int.toNat_natCast];exact hm _ (aq hjl)
 .split
  .intro x hx;cases hx
  .rename_i h1;have h1:(cJ y.shop y.pins nm).2.2=0:=Classical.not_not.1 h1;have h2:(gr y.shop y.pins nm).2=0:=by
    unfold cJ at h1;split at h1
    .rename_i h3;exact absurd h1 h3
    .rename_i h3;exact Classical.not_not.1 h3
   obtain⟨hB,j,hj,hjl⟩:=pN h2;have e1:cJ y.shop y.pins nm=((j:Int),kq y.shop[j]! nm,0):=by
    unfold cJ;rw[ah (λh=>h h2),hj,Int.toNat_natCast]
   rw[e1];simp only[Int.toNat_natCast];intro x hx;obtain⟨⟨i,hi,e⟩,_⟩:=(pT (y:=y) (nm:=nm) (a:=j) _).2 x hx;have:=(sj y.shop[j]! nm).2 i hi;rw[e];exact hv _ (aq hjl) _ (aq ae)
def V8 (w:Want):Prop:=(0<w.u/\w.u<(n:Int))/\v8 w.s=true
def Gw {n:Nat}{l:List Want}(h:∀w∈l,V8 n w):pn (n:Int) l=true:=by
 unfold pn;rw[bd];intro j _ hj;obtain⟨⟨h1,h2⟩,h3⟩:=h _ (aq hj);unfold sP;rw[br h1,br h2,h3];rfl
def K4 {n:Nat}{c:eB}(h1:c.needs.length<=24)(h2:c.bars.length<=24)(h3:∀r∈c.needs,(0<r.length/\r.length<=24)/\∀w∈r,V8 n w)(h4:∀w∈c.bars,V8 n w):mY (n:Int) c=true:=by
 unfold mY;rw[br h1,br h2,Gw h4,gC,eI,eI,bd];intro j _ hj;obtain⟨⟨h5,h6⟩,h7⟩:=h3 _ (aq hj);unfold rE;rw[Gw h7,br h5,br h6];rfl
def aex {s:cx}{v:bV}(hv:v∈bF)(h:s∈gX\/s=dH v):v8 s=true:=by
 rcases h with h|rfl
 .exact Nj _ h
 .exact(wX v hv).1
structure qq (y:cC):Prop where
 p:pB y
 v:V7 y.shop
 m:∀m∈y.l,m.r.v∈bF
def Hy (h:k.n≠[]):k≠fJ:=λe=>h (by rw[e];rfl)
theorem Wr {y:cC}{all:List Key}{x:uz}(hx:BX x.r)(hxv:x.r.v∈bF)(hz:fJ∈all)(hs:KS all)(hcl:∀row∈cM x.r y.e k.f,∀a∈row,a.k∈all)(hw:oz (dU y all k x)=false):mY (all.length:Int) (dU y all k x)=true:=by
 have hC:=Rb hx hcl hw;have h1:=C3 x.r y.e k.f;have hnm:=FM hx y.e k.f;refine K4 hC.1.2.1 hC.1.2.2 (λr hr=>?_) (λw hwb=>?_)
 .have h2:=hC.2.1 r hr;refine⟨ae,λw hwr=>?_⟩;have h3:=h2.2 w hwr;obtain⟨q,hq,rfl⟩:=qb hr;obtain⟨a,ha,rfl⟩:=bY.1 hwr;have h4:=tv hs hz (Hy (hnm q hq a ha));dsimp only at h3⊢;exact⟨⟨mK,h3.2⟩,aex hxv (h1 q hq a ha)⟩
 .have h3:=hC.2.2 w hwb;have hwb:w∈(if k.f=[]then wJ all x.r y.e else []):=hwb;split at hwb
  .obtain⟨b,hb,hwb2⟩:=List.mem_flatMap.1 hwb;unfold qt at hwb2;split at hwb2
   .rw[aD.1 hwb2]at h3⊢;have hbn:b.name≠[]:=by
     obtain⟨⟨_,_,hp⟩,_⟩:=hx;have h0:(uN x.r).1=0:=by grind [en]
     obtain⟨i,hi,rfl⟩:=gh hb;have h5:=qB h0 i hi;have h6:df x.r.bars[i]!.name=true:=by grind [rT,gK]
     exact su h6
    have h4:=tv hs hz (Hy (k:=⟨b.name,[]⟩) hbn);dsimp only at h3;exact⟨⟨mK,h3.2⟩,aet _⟩
   .cases hwb2
  .cases hwb
def TA {y:cC}{all:List Key}(hy:qq y)(hz:fJ∈all)(hs:KS all)(hcl:∀row∈dc y k,∀a∈row,a.k∈all)(h:(ew y all k).2=true):
  (k=fJ->(ew y all k).1.length=1)/\∀i,i<(ew y all k).1.length->mZ all.length (ew y all k).1 i=true:=by
 have hC:=yF hy.p hcl h;unfold ew at*
 by_cases hk:k=fJ
 .rw[ak hk]at hC⊢;refine⟨λ_=>rfl,λi hi=>?_⟩;obtain rfl:i=0:=by simpa using hi
  have hrow:dc y k=eL y.l:=by unfold dc;rw[ak hk]
  have hnm:=Nc hy.p k;rw[hrow]at hcl hnm;obtain⟨⟨hsm,h24,hb24⟩,hn,hb⟩:=hC.2 _ (.head _);unfold mZ;show(gJ zV&&mY (all.length:Int) ⟨zV,-1,dG all (eL y.l),[]⟩&& !(decide (0<0)&&_))=true;rw[show gJ zV=true by decide,K4 h24 hb24 (λr hr=>?_) (λw hw=>by cases hw)]
  .rfl
  .have h2:=hn r hr;refine⟨ae,λw hwr=>?_⟩;have h3:=h2.2 w hwr;obtain⟨q,hq,rfl⟩:=qb hr;obtain⟨a,ha,rfl⟩:=bY.1 hwr;have h4:=tv hs hz (Hy (hnm q hq a ha));refine⟨⟨by dsimp only at h3⊢;omega,h3.2⟩, ?_⟩;obtain⟨⟨⟨m,hm,hM⟩,_⟩,_⟩:=hy.p;have hmv:=hy.m m (by rw[hm];simp);rw[hm]at hq;rw[aD.1 hq]at ha;rw[aD.1 ha];exact(wX _ hmv).1
 .rw[ah hk]at h⊢;refine⟨λe=>absurd e hk, ?_⟩;have hrow:dc y k=(eO y k).flatMap λx=>cM x.r y.e k.f:=by unfold dc;rw[ah hk]
  rw[hrow]at hcl;split at h
  .cases h
  .rename_i hw;rw[ah hw];intro i hi;dsimp only at hi⊢;have hi2:i<(eO y k).length:=by simpa using hi
   have e:((eO y k).map (dU y all k))[i]! =dU y all k (eO y k)[i]! :=fI hi2;have hx:=aq hi2;have hlk:(eO y k)[i]! ∈dL y k.n:=(List.mem_filter.1 hx).1;have hv:=CT hy.p hy.v hy.m k.n _ hlk;have hcw:oz (dU y all k (eO y k)[i]!)=false:=by
    cases hq:oz (dU y all k (eO y k)[i]!)with
    |false=>rfl
    |true=>exact absurd (List.any_eq_true.2 ⟨_,bY.2 ⟨_,hx,rfl⟩,hq⟩) hw
   unfold mZ;rw[e,Wr ((xA hy.p k).2 _ hx).1 hv hz hs (λrow hr a ha=>hcl row (List.mem_flatMap.2 ⟨_,hx,hr⟩) a ha) hcw];rw[show gJ (dU y all k (eO y k)[i]!).v=true from(wX _ hv).2,eI,eI,cE];by_cases h0:0<i
   .rw[fI (show i-1<(eO y k).length by omega)];have hp:=List.pairwise_iff_getElem.1 (adU hy.p hy.v k) (i-1) i ae hi2 ae;unfold RcLt at hp;rw[<-getElem!_pos (eO y k) (i-1) ae,<-getElem!_pos (eO y k) i hi2]at hp;have hq:¬0<=iL (dU y all k (eO y k)[i-1]!).v (dU y all k (eO y k)[i]!).v:=by
     have:iL (dU y all k (eO y k)[i-1]!).v (dU y all k (eO y k)[i]!).v=iL (eO y k)[i-1]!.r.v (eO y k)[i]!.r.v:=rfl;omega
    rw[bL hq,Bool.and_false]
   .rw[bL h0,Bool.false_and]
def Ei {y:cC}(hy:qq y)(h:(eA y).2=true):eG (eA y).1=true:=by
 obtain⟨all,hr,hus,hc,hB⟩:=sR hy.p h;obtain⟨hz,h48,hcl⟩:=sC hr;obtain⟨hs,hnm⟩:=H3 hy.p hr;obtain⟨h0,hpos⟩:=all_zero hs hz;have hl:(eA y).1.us.length=all.length:=by rw[hus,a8]
 have hat:∀i,i<all.length->(eA y).1.us[i]! =rK y all all[i]! :=λi hi=>by rw[hus,fI hi]
 have hcv:∀i,i<all.length->_:=λi hi=>TA hy hz hs (hcl _ (aq hi)) (hc i hi)
 unfold eG;rw[hl,br (show 1<=all.length by omega),br h48,eI,eI,aA];constructor
 .unfold uR;rw[hat 0 hpos,h0];have:=(hcv 0 hpos).1 h0;rw[h0]at this;show(decide (([]:au)=[])&&decide (([]:au)=[])&&decide ((ew y all fJ).1.length=1))=true;rw[br this];rfl
 .rw[bd];intro i _ hi;unfold lF;rw[hat i hi];have h16:=(yF hy.p (hcl _ (aq hi)) (hc i hi)).1;have hlen:(eA y).1.us.length=all.length:=hl;rw[aA,aA,aA];refine⟨⟨⟨?_, ?_⟩,br h16⟩, ?_⟩
  .by_cases hi0:0<i
   .have:all[i]!.n≠[]:=by
     rcases hnm _ (aq hi)with e|e
     .exfalso;have:=List.pairwise_iff_getElem.1 hs 0 i hpos hi hi0;rw[<-getElem!_pos all 0 hpos,<-getElem!_pos all i hi,h0,e,tm]at this;cases this
     .exact e
    show(!(decide (0<i)&&decide (all[i]!.n=[])))=true;rw[bL this,Bool.and_false];rfl
   .rw[bL hi0];rfl
  .by_cases hi1:1<i
   .rw[hat (i-1) ae];have:=List.pairwise_iff_getElem.1 hs (i-1) i ae hi ae;rw[<-getElem!_pos all (i-1) ae,<-getElem!_pos all i hi]at this;have e:jL (rK y all all[i-1]!) (rK y all all[i]!)=true:=this;rw[e];simp
   .rw[bL hi1];rfl
  .rw[bd,hlen];intro j _ hj;exact(hcv i hi).2 j hj
structure wz (w:bP)(c:List Int):Prop where
 l:c.length=w.us.length
 z:c[0]! =0
 f:∀i,i<w.us.length->-1<=c[i]! /\c[i]! <(w.us[i]!.cands.length:Int)
theorem DP {i:Nat}{v:Int}(hj:j<c.length):(c.set j v)[i]! =if i=j then v else c[i]! :=by
 simp only[List.getElem!_eq_getElem?_getD,List.getElem?_set]
 grind
def wz.set {k:Nat}(h:wz w c)(h1:1<=j)(hj:j<w.us.length)(hk:k<w.us[j]!.cands.length):wz w (c.set j (k:Int)):=by
 have hl:j<c.length:=by have:=h.l;omega
 refine⟨by rw[List.length_set,h.l],by rw[DP hl,ah ae];exact h.z,λi hi=>?_⟩;rw[DP hl];split
 .rename_i e;subst e;omega
 .exact h.f i hi
def YT {a b:au}{v:bV}{t:Bool}(h:wz w c)(h2:¬mC w.us (fM w.us a b) v t<0):wz w (c.set (fM w.us a b).toNat (mC w.us (fM w.us a b) v t)):=by
 rcases Mn (us:=w.us) (u:=fM w.us a b) (v:=v) (t:=t)with h3|⟨j,k,h3,h4,h5⟩
 .omega
 .rcases Eb (us:=w.us) (a:=a) (b:=b)with h6|⟨i,h6,h7,h8⟩
  .omega
  .rw[h4,h3,Int.toNat_natCast];exact h.set ae ae h5
def Lt {w:bP}{x:ea}:∀{l:List au}{c:List Int},wz w c->wz w (vG w.us x l c).2
 |[],c,h=>h
 |f::r,c,h=>by
  rw[vG];split
  .exact h
  .rename_i h2;exact Lt (YT h h2)
def Y8 {shop:List bA}{x:ea}(h:wz w c):wz w (kT shop w.us x c).2:=by
 unfold kT;split
 .exact h
 .rename_i h2;split
  .exact h
  .exact Lt (YT h h2)
def LR {shop:List bA}{w:bP}:∀{l:List ea}{c:List Int},wz w c->(mz shop w.us l c).2.1=0->wz w (mz shop w.us l c).1
 |[],c,h,_=>h
 |x::r,c,h,h2=>by
  rw[mz]at h2⊢;split at h2
  .rename_i h3;exact absurd h2 h3
  .rename_i h3;rw[ah h3];exact LR (Y8 h) h2
theorem G3 {n i:Nat}(h:i<n):(EH n n)[i]! =if 1<=i then-1 else 0:=by
 simp only[EH,List.getElem!_eq_getElem?_getD,List.getElem?_map,List.getElem?_range h]
 grind
def acn (h:eG w=true):wz w (EH w.us.length w.us.length):=by
 have h1:=Qn h;have h0:w.us[0]!.cands.length=1:=by
  simp only[eG,uR,aA,aT]at h;exact h.1.2.2
 refine⟨Bm _ _,by rw[G3 ae];rfl,λi hi=>?_⟩;rw[G3 hi];split
 .omega
 .have:i=0:=ae;subst this;omega
theorem acs {shop:List bA}{e:Env}{l:lI}(h:(jk shop e w l).2.1=0):eG w=true/\wz w (jk shop e w l).1:=by
 unfold jk at h⊢;split at h
 .cases h
 .rename_i h1;rw[ah h1];split at h
  .cases h
  .rename_i h2;rw[ah h2];have hw:eG w=true:=by grind
   exact⟨hw,LR (acn hw) h⟩
def adt (hw:eG w=true)(h:wz w c):ey w c=true:=by
 simp only[ey,uD,AS,hw,eI,aA,aT,bd];exact⟨h.l,λi _ hi=>h.f i (by have:=h.l;omega)⟩
def Vm {f:wy}(h:f∈jh w c)(hl:c.length=w.us.length):0<=f.unit/\f.unit<(w.us.length:Int):=by
 unfold jh at h;split at h
 .cases h
 .simp only[gA,List.mem_flatMap,List.mem_range]at h;obtain⟨u,hu,h⟩:=h;split at h
  .cases h
  .simp only[A2,fN,j5,List.mem_append,List.mem_flatMap,List.mem_range]at h;have:f.unit=(u:Int):=by
    rcases h with⟨k,_,h⟩|⟨k,_,h⟩<;>split at h<;>first|(cases h;done)|(rw[aD.1 h])
   omega
def wQ (e:Env)(w:bP)(l:lI):Int×au:=
 if(jk shop e w l).2.1≠0 then(jk shop e w l).2 else if(jh w (jk shop e w l).1).length=0 then(0,[])else(35,w.us[(jh w (jk shop e w l).1)[0]!.unit.toNat]!.name)
section
variable {shop:List bA}{e:Env}{l:lI}
def afl (h:¬(jk shop e w l).2.1=0):wQ shop e w l=((jk shop e w l).2.1,(jk shop e w l).2.2):=by rw[wQ,ak h]
def Ww (h:(jk shop e w l).2.1=0)(h2:(jh w (jk shop e w l).1).length=0):wQ shop e w l=(0,[]):=by rw[wQ,ah gp,ak h2]
def chk_c (h:(jk shop e w l).2.1=0)(h2:¬(jh w (jk shop e w l).1).length=0):wQ shop e w l=((35:Int),w.us[(jh w (jk shop e w l).1)[0]!.unit.toNat]!.name):=by rw[wQ,ah gp,ah h2]
def acu (hw:w.sm)(h:(jk shop e w l).2.1=0):WrgP w (jk shop e w l).1/\ey w (jk shop e w l).1=true/\(0<(jh w (jk shop e w l).1).length->0<=(jh w (jk shop e w l).1)[0]!.unit/\(jh w (jk shop e w l).1)[0]!.unit<(w.us.length:Int)):=by
 obtain⟨h1,h2⟩:=acs h;exact⟨⟨hw,by rw[h2.z];exact Int.le_refl _⟩,adt h1 h2,λh3=>Vm (aq h3) h2.l⟩
end
def fU (us:List cI)(c:List Int)(nm:au):Nat->List au
 |0=>[]
 |i+1=>if 0<i/\((us[i]!.name=nm/\¬us[i]!.feat=[])/\0<=c[i]!)then fU us c nm i++[us[i]!.feat]else fU us c nm i
def lB (c:List Int)(u:Nat):List au:=fU us c us[u]!.name us.length
def c9 (us:List cI)(c:List Int)(u:Nat)(x:eB):ea×Int:=
 if x.sh=-1 then(⟨us[u]!.name,x.v,[],0,lB us c u⟩,0)else if x.sh<0\/(shop.length:Int)<=x.sh then(default,12)
 else if fG shop[x.sh.toNat]! us[u]!.name x.v<0 then(default,9)
 else(⟨us[u]!.name,x.v,shop[x.sh.toNat]!.name,shop[x.sh.toNat]!.es[(fG shop[x.sh.toNat]! us[u]!.name x.v).toNat]!.sum,lB us c u⟩,0)
def cj (c:List Int)(u:Nat):eB:=us[u]!.cands[c[u]!.toNat]!
def fq (c:List Int)(u:Nat):Bool:=(decide (u=0) ||decide (c[u]! <0)) ||!decide (us[u]!.feat=[])
def dC (shop:List bA)(us:List cI)(c:List Int):Nat->List ea×Int
 |0=>([],0)
 |i+1=>if(dC shop us c i).2≠0 then dC shop us c i else if fq us c i=true then dC shop us c i
  else if(c9 shop us c i (cj us c i)).2≠0 then([],(c9 shop us c i (cj us c i)).2)else((dC shop us c i).1++[(c9 shop us c i (cj us c i)).1],0)
def Ho:lI:=⟨⟨[],[],[]⟩,[]⟩
def dx (w:bP)(c:List Int):List ea×Int:=dC shop w.us c w.us.length
def wv (e:Env)(w:bP)(c:List Int):lI×Int:=
 if((eG w=false\/dr shop=false)\/nV e=false)\/ey w c=false then(Ho,1)else if ¬(jh w c).length=0 then(Ho,37)
 else if ¬(dx shop w c).2=0 then(Ho,(dx shop w c).2)else(⟨e,(dx shop w c).1⟩,0)
section
variable {shop:List bA}{us:List cI}{i n:Nat}
def FF (h:¬(dC shop us c i).2=0):∀{n:Nat},i<=n->dC shop us c n=dC shop us c i
 |0,hn=>by obtain rfl:i=0:=ae
           rfl
 |n+1,hn=>by
  rcases dX n i with h1|h1
  .obtain rfl:i=n+1:=ae;rfl
  .have ih:=FF h h1;rw[dC,ak (by rw[ih];exact h),ih]
def OS (h0:(dC shop us c i).2=0)(h:fq us c i=true):dC shop us c (i+1)=dC shop us c i:=by
 rw[dC,ah (λh=>h h0),ak h]
def T9 (h0:(dC shop us c i).2=0)(h:fq us c i=false){z:ea×Int}(hz:c9 shop us c i (cj us c i)=z)(h2:¬z.2=0):dC shop us c (i+1)=([],z.2):=by
 subst hz;rw[dC,ah (λh=>h h0),ah gp,ak h2]
def FE (h0:(dC shop us c i).2=0)(h:fq us c i=false){x:ea}(hz:c9 shop us c i (cj us c i)=(x,0)):dC shop us c (i+1)=((dC shop us c i).1++[x],0):=by
 rw[dC,ah (λh=>h h0),ah gp,hz,ah (λh=>h rfl)]
def tp:∀i,(dC shop us c i).1.length<=i
 |0=>aN _
 |i+1=>by
  have:=tp i;rw[dC];split
  .omega
  .split
   .omega
   .split
    .simp
    .rw[cu,List.length_singleton];omega
def vC (nm:au):∀i,(fU us c nm i).length<=i
 |0=>aN _
 |i+1=>by
  have:=vC nm i;rw[fU];split
  .rw[cu,List.length_singleton];omega
  .omega
def W5 (h:0<i/\((us[i]!.name=nm/\¬us[i]!.feat=[])/\0<=c[i]!)):fU us c nm (i+1)=fU us c nm i++[us[i]!.feat]:=by rw[fU,ak h]
def W4 (h:¬(0<i/\((us[i]!.name=nm/\¬us[i]!.feat=[])/\0<=c[i]!))):fU us c nm (i+1)=fU us c nm i:=by rw[fU,ah h]
end
def EK (a b:List Bool):Prop:=a.length=b.length/\∀i:Nat,i<a.length->a[i]! =true->b[i]! =true
def EK.M6:EK a a:=⟨rfl,λ_ _ h=>h⟩
def EK.tr {a b c:List Bool}(h1:EK a b)(h2:EK b c):EK a c:=⟨h1.1.trans h2.1,λi hi h=>h2.2 i (by rw[<-h1.1];exact hi) (h1.2 i hi h)⟩
def EK.eq {a b:List Bool}(h1:EK a b)(h2:EK b a):a=b:=by
 apply List.ext_getElem h1.1;intro i hi hj;have e1:=h1.2 i hi;have e2:=h2.2 i hj;rw[getElem!_pos a i hi,getElem!_pos b i hj]at*
 cases ha:a[i]<;>cases hb:b[i]<;>simp_all
def SB (j:Nat)(b:Bool):EK a (a.set j (a[j]! ||b)):=by
 refine⟨aC,λi hi h=>?_⟩;by_cases hj:j=i
 .subst hj;rw[List.getElem!_eq_getElem?_getD,List.getElem?_set_self hi];simp[h]
 .rw[List.getElem!_eq_getElem?_getD,List.getElem?_set_ne hj,<-List.getElem!_eq_getElem?_getD];exact h
section
def By:∀(l:List Want) (is:List Bool),EK is (vP w c is l)
 |[],is=>.M6 is
 |x::r,is=>(SB is x.u.toNat (kR w c x)).tr (By r _)
def Hz:∀(l:List nR) (is:List Bool),EK is (xu w c is l)
 |[],is=>.M6 is
 |x::r,is=>(By x is).tr (Hz r _)
def RS (i:Nat)(is:List Bool):EK is (HB w c i is):=by
 unfold HB;split
 .exact Hz _ _
 .exact .M6 is
def tt:∀(n:Nat) (is:List Bool),EK is (jf w c n is)
 |0,is=>.M6 is
 |n+1,is=>(tt n is).tr (RS n _)
def Bx:∀(n:Nat) (is:List Bool),EK is (j6 w c n is)
 |0,is=>.M6 is
 |n+1,is=>(Bx n is).tr (tt _ _)
def wR (l:List Bool):Nat:=l.countP λb=>b
def On:∀{a b:List Bool},EK a b->wR a<=wR b/\(wR a=wR b->a=b)
 |[],[],_=>⟨aN _,λ_=>rfl⟩
 |[],_::_,h=>by simp[EK]at h
 |_::_,[],h=>by simp[EK]at h
 |x::a,y::b,h=>by
  have h0:x=true->y=true:=λe=>by have:=h.2 0 aC;simpa using this (by simpa using e)
  have hr:EK a b:=⟨by simpa using h.1,λi hi e=>by have:=h.2 (i+1) oD;simpa using this (by simpa using e)⟩;obtain⟨h1,h2⟩:=On hr;unfold wR at*
  rw[List.countP_cons,List.countP_cons];cases x<;>cases y<;>simp_all<;>omega
def Fix (w:bP)(c:List Int)(is:List Bool):Prop:=jf w c c.length is=is
def L3 {is:List Bool}(hl:is.length=c.length):∀n,Fix w c (j6 w c n is)\/n+1<=wR (jf w c c.length (j6 w c n is))
 |0=>by
  obtain⟨h1,h2⟩:=On (tt (w:=w) (c:=c) c.length is);by_cases h:wR is=wR (jf w c c.length is)
  .exact .inl (h2 h).symm
  .exact .inr (by show 0+1<=wR (jf w c c.length is);omega)
 |n+1=>by
  rcases L3 hl n with h|h
  .left;show jf w c c.length (jf w c c.length (j6 w c n is))=jf w c c.length (j6 w c n is);rw[show jf w c c.length (j6 w c n is)=j6 w c n is from h];exact h
  .obtain⟨h1,h2⟩:=On (tt (w:=w) (c:=c) c.length (j6 w c (n+1) is));by_cases h3:wR (j6 w c (n+1) is)=wR (jf w c c.length (j6 w c (n+1) is))
   .exact .inl (h2 h3).symm
   .right;have e:wR (j6 w c (n+1) is)=wR (jf w c c.length (j6 w c n is)):=rfl;omega
def acw (l:List Bool):wR l<=l.length:=List.countP_le_length
def O4 {is:List Bool}(hl:is.length=c.length):Fix w c (j6 w c c.length is):=by
 rcases L3 (w:=w) hl c.length with h|h
 .exact h
 .have h1:=(tt (w:=w) (c:=c) c.length (j6 w c c.length is)).1;have h2:=(Bx (w:=w) (c:=c) c.length is).1;have:=acw (jf w c c.length (j6 w c c.length is));omega
def se {a b d:List Bool}(h1:EK a b)(h2:EK b d)(h:a=d):b=a:=by subst h;exact h2.eq h1
def FK:∀{l:List Want}{is:List Bool},vP w c is l=is->∀x∈l,x.u.toNat<is.length->kR w c x=true->is[x.u.toNat]! =true
 |[],is,_,x,hx,_,_=>by cases hx
 |y::r,is,h,x,hx,hl,hm=>by
  have e1:is.set y.u.toNat (is[y.u.toNat]! ||kR w c y)=is:=se (SB is y.u.toNat (kR w c y)) (By r _) h.symm;rcases bG.1 hx with rfl|hx
  .rw[hm,Bool.or_true]at e1;rw[<-e1,List.getElem!_eq_getElem?_getD,List.getElem?_set_self hl];rfl
  .refine FK (l:=r) ?_ x hx hl hm;have:vP w c (is.set y.u.toNat (is[y.u.toNat]! ||kR w c y)) r=is:=h;rw[e1]at this;exact this
def FJ:∀{l:List nR}{is:List Bool},xu w c is l=is->∀r∈l,∀x∈r,x.u.toNat<is.length->kR w c x=true->is[x.u.toNat]! =true
 |[],is,_,r,hr,_,_,_,_=>by cases hr
 |q::l,is,h,r,hr,x,hx,hl,hm=>by
  have e1:vP w c is q=is:=se (By q is) (Hz l _) h.symm;rcases bG.1 hr with rfl|hr
  .exact FK e1 x hx hl hm
  .refine FJ (l:=l) ?_ r hr x hx hl hm;have:xu w c (vP w c is q) l=is:=h;rw[e1]at this;exact this
def FI:∀{n:Nat}{is:List Bool},jf w c n is=is->∀i,i<n->HB w c i is=is
 |0,is,_,i,hi=>absurd hi (Nat.not_lt_zero i)
 |n+1,is,h,i,hi=>by
  have e1:jf w c n is=is:=se (tt n is) (RS n _) h.symm;rcases dX i n with h1|h1
  .exact FI e1 i h1
  .obtain rfl:i=n:=ae;have:HB w c i (jf w c i is)=is:=h;rw[e1]at this;exact this
end
def BP (h:ey w c=true):jh w c=[]↔∀u,u<c.length->0<=c[u]! ->(∀k,k<(aU w c u).needs.length->DY w c (aU w c u).needs[k]! =true)/\∀k,k<(aU w c u).bars.length->kR w c (aU w c u).bars[k]! =false:=by
 unfold jh;rw[ah je,gA,List.flatMap_eq_nil_iff];constructor
 .intro g u hu h0;have g1:=g u (List.mem_range.2 hu);rw[ah ae,A2,List.append_eq_nil_iff,fN,j5,List.flatMap_eq_nil_iff,List.flatMap_eq_nil_iff]at g1;refine⟨λk hk=>?_,λk hk=>?_⟩
  .have:=g1.1 k (List.mem_range.2 hk);split at this
   .assumption
   .cases this
  .have:=g1.2 k (List.mem_range.2 hk);split at this
   .cases this
   .rename_i hn;simpa using hn
 .intro g u hu;have hu:=List.mem_range.1 hu;split
  .rfl
  .rename_i h0;obtain⟨g1,g2⟩:=g u hu ae;rw[A2,List.append_eq_nil_iff,fN,j5,List.flatMap_eq_nil_iff,List.flatMap_eq_nil_iff];refine⟨λk hk=>?_,λk hk=>?_⟩
   .rw[ak (g1 k (List.mem_range.1 hk))]
   .rw[ah (by rw[g2 k (List.mem_range.1 hk)];simp)]
def qK (h:ey w c=true):(fo w c).length=c.length:=by
 unfold fo;rw[ah je,<-(Bx (w:=w) (c:=c) c.length (mQ c)).1];simp[mQ]
def Nv (h:ey w c=true):(rI w c).length=c.length:=by
 unfold rI tidV;rw[a8,List.length_range,qK h]
def tD (h:ey w c=true){i:Nat}(hi:i<c.length):(rI w c)[i]! =if(fo w c)[i]! =true then c[i]! else-1:=by
 have hl:=qK h;unfold rI tidV;simp[hl,hi]
def Nw (h:ey w c=true):ey w (rI w c)=true:=by
 have hl:=Nv h;have h2:=h;unfold ey at h2⊢;rw[aA]at h2⊢;refine⟨h2.1, ?_⟩;obtain⟨h3,h4⟩:=nv h2.2;unfold uD;rw[aA,aT,bd];refine⟨ae,λj _ hj=>?_⟩;have h5:=h4 j ae;unfold AS;rw[tD h ae,aA,aT,aT];split
 .exact h5
 .omega
def InW (w:bP):=∀u∈w.us,∀c∈u.cands,(∀r∈c.needs,∀x∈r,0<=x.u/\x.u<(w.us.length:Int))/\∀x∈c.bars,0<=x.u/\x.u<(w.us.length:Int)
def Qg (hI:InW w)(h:ey w c=true)(hh:jh w c=[]):jh w (rI w c)=[]:=by
 have hm:=Nw h;have hl:=Nv h;have hc:=(BP h).1 hh;have hb:=h;unfold ey at hb;rw[aA]at hb;obtain⟨hlen,hfit⟩:=nv hb.2;have hfix:Fix w c (fo w c):=by
  unfold fo;rw[ah je];exact O4 (by simp[mQ])
 have hnl:=qK h;rw[BP hm];intro u hu h0;rw[hl]at hu;rw[tD h hu]at h0;have hn:(fo w c)[u]! =true:=by
  cases hq:(fo w c)[u]! with
  |true=>rfl
  |false=>rw[hq,ah aC]at h0;exact absurd h0 aV
 rw[hn,ak rfl]at h0;have hcu:=hfit u hu;have e1:aU w (rI w c) u=aU w c u:=by unfold aU;rw[tD h hu,hn,ak rfl]
 rw[e1];have hmem:aU w c u∈w.us[u]!.cands:=aq ae;obtain⟨hI1,hI2⟩:=hI _ (aq ae) _ hmem;have hstep:=FI hfix u hu;unfold HB at hstep;rw[hn,ak rfl]at hstep;obtain⟨g1,g2⟩:=hc u hu h0;refine⟨λk hk=>?_,λk hk=>?_⟩
 .have hr:=aq hk;obtain⟨x,hx,hmx⟩:=List.any_eq_true.1 (show(aU w c u).needs[k]!.any (kR w c)=true from g1 k hk);have hx2:=hI1 _ hr x hx;have hnx:=FJ hstep _ hr x hx ae hmx;refine List.any_eq_true.2 ⟨x,hx, ?_⟩;unfold kR at hmx⊢;rw[tD h (show x.u.toNat<c.length by omega),hnx,ak rfl];exact hmx
 .have hx2:=hI2 _ (aq hk);cases hq:kR w (rI w c) (aU w c u).bars[k]! with
  |false=>rfl
  |true=>
   have g3:=g2 k hk;unfold kR at hq g3;rw[tD h (show(aU w c u).bars[k]!.u.toNat<c.length by omega)]at hq;split at hq
   .rw[hq]at g3;cases g3
   .simp at hq
def ab3 {ns:List au}{i:Nat}(h:i<ns.length)(e:ns[i]! =nm):eU ns nm=ns:=by
 unfold eU;rw[ak (by rw[<-e];exact aq h)]
def V9 {ns:List au}(h:∀j,j<ns.length->ns[j]! ≠nm):eU ns nm=ns++[nm]:=by
 unfold eU;rw[ah];intro hm;obtain⟨j,hj,e⟩:=List.getElem_of_mem hm;exact h j hj (by simpa[hj]using e)
section
variable {m:List (Nat×bj)}{lf k:Nat}{a b c d X:List Sh}{r:List (List Sh)}{ds:List D}
def G6 {l n:Nat}{es:List D}(h:look m l=some (.buf 1 es))(hn:es.length=n):((aH m l).drop 0).take n=es:=by
 simp only[aH,h,cY];rw[<-hn,List.take_length]
def aiR (ns:List au)(h:BU y lf j k ns m):xC m (.pt [.sl 1 [.a],.sl 1 [.sl 10 X]]) (.ptr lf 2 0 0)=fdR y ns:=by
 obtain⟨h1,h2,h3⟩:=h;have e1:aH m lf=[eP j k ns.length]:=by simp only[aH,h1]
 have e2:=G6 h2 (a8 ..);have e3:=G6 h3 (zd y ns);show D.ref 2 ((aH m lf).map _) 0 0=_;rw[e1];show D.ref 2 [D.agg [xC m (.sl 1 [.a]) (.own j 1 0 ns.length),xC m (.sl 1 [.sl 10 X]) (.own k 1 0 ns.length)]] 0 0=_;rw[show xC m (.sl 1 [.a]) (.own j 1 0 ns.length)=.sl 1 (ns.map D.str)from by simp only[xC];rw[e2,List.map_map];exact aw (D.sl 1) (List.map_congr_left λ_ _=>rfl),
  show xC m (.sl 1 [.sl 10 X]) (.own k 1 0 ns.length)=.sl 1 (dm y ns)from by simp only[xC];rw[e3,dm,List.map_map];exact aw (D.sl 1) (List.map_congr_left λ_ _=>rfl)]
 rfl
def aeR (ns:List au)(h:BU y lf j k ns m):jm m ([.sl 11 a,.sl 2 b,.a,.a,.a,.sl 6 c,.sl 2 d,.pt [.sl 1 [.a],.sl 1 [.sl 10 X]]]::r) (cC.D y (.ptr lf 2 0 0)::ds)=cC.D y (fdR y ns)::jm m r ds:=by
 rw[jm];congr 1;show D.agg [_,_,_,_,_,_,_,xC m (.pt [.sl 1 [.a],.sl 1 [.sl 10 X]]) (.ptr lf 2 0 0)]=_;rw[aiR y ns h];rfl
def ac5 (ns:List au)(h:BU y lf j k ns m):Vu m (.pt [.sl 1 [.a],.sl 1 [.sl 10 X]]) (.ptr lf 2 0 0):=by
 obtain⟨h1,h2,h3⟩:=h;have e1:aH m lf=[eP j k ns.length]:=by simp only[aH,h1]
 have e2:=G6 h2 (a8 ..);have e3:=G6 h3 (zd y ns);refine⟨by simp only[dT,h1];exact⟨trivial,Nat.zero_le _⟩, ?_⟩;rw[e1];intro e he;obtain rfl:=aD.1 he;show Vu m (.sl 1 [.a]) (.own j 1 0 ns.length)/\Vu m (.sl 1 [.sl 10 X]) (.own k 1 0 ns.length)/\aK []=true;refine⟨⟨by simp only[dT,h2];exact⟨trivial,aC⟩, ?_⟩,⟨by simp only[dT,h3];exact⟨trivial,by rw[zd];omega⟩, ?_⟩,rfl⟩
 .rw[e2];intro e he;obtain⟨_,_,rfl⟩:=bY.1 he;exact rfl
 .rw[e3];intro e he;obtain⟨_,_,rfl⟩:=bY.1 he;exact rfl
def aaG (ns:List au)(h:BU y lf j k ns m)(hr:jb m r ds):jb m ([.sl 11 a,.sl 2 b,.a,.a,.a,.sl 6 c,.sl 2 d,.pt [.sl 1 [.a],.sl 1 [.sl 10 X]]]::r) (cC.D y (.ptr lf 2 0 0)::ds):=by
 rw[jb];refine⟨?_,hr⟩;show _/\_/\_/\_/\_/\_/\_/\Vu m (.pt [.sl 1 [.a],.sl 1 [.sl 10 X]]) (.ptr lf 2 0 0)/\_;exact⟨rfl,rfl,rfl,rfl,rfl,rfl,rfl,ac5 y ns h,rfl⟩
end
def ofT_y {l:List uz}{i:Nat}(h:i<l.length)(hc:ft=[]\/isF l[i]!.r.feats ft=true):(l.take i).filter (Yn ft)++[l[i]!]=(l.take (i+1)).filter (Yn ft):=by
 rw[Fy h,ak];unfold Yn;rcases hc with h|h
 .rw[br h];rfl
 .rw[h,Bool.or_true]
def ofT_n {l:List uz}{i:Nat}(h:i<l.length)(hc:¬ft=[]/\isF l[i]!.r.feats ft=false):(l.take i).filter (Yn ft)=(l.take (i+1)).filter (Yn ft):=by
 rw[Fy h,ah,gB];unfold Yn;rw[bL hc.1,hc.2];simp
def SX {y:cC}(h:pB y):y.l.length<=1000:=by
 obtain⟨⟨⟨m,hm,_⟩,_⟩,_⟩:=h;rw[hm];simp
def Sx {y:cC}(h:k=fJ):dc y k=eL y.l:=by unfold dc;rw[ak h]
def Sw {y:cC}(h:¬k=fJ):dc y k=(eO y k).flatMap λx=>cM x.r y.e k.f:=by unfold dc;rw[ah h]
def XL {ns:List au}(h:k=fJ):jz ns k=ns:=by unfold jz;rw[ak h]
def OK {ns:List au}(h:¬k=fJ):jz ns k=eU ns k.n:=by unfold jz;rw[ah h]
def afI {y:cC}(hy:qq y){i:Nat}(h:i<(eO y k).length):BX (eO y k)[i]!.r/\(eO y k)[i]!.r.v∈bF:=by
 have hx:=aq h;exact⟨((xA hy.p k).2 _ hx).1,CT hy.p hy.v hy.m k.n _ (List.mem_filter.1 hx).1⟩
def BR (l k:Nat)(es:List Abs.D)(y:cC)(a b c d:Nat):iY l k es (cC.D y (.ptr a b c d))=cC.D y (iY l k es (.ptr a b c d)):=rfl
def nA (l k:Nat)(es:List Abs.D)(ns:List au):mN l k es (ns.map D.str)=ns.map D.str:=jM l k es _ (Iv ns)
def ny (l k:Nat)(es:List Abs.D)(y:cC)(ns:List au):mN l k es (dm y ns)=dm y ns:=jM l k es _ (jn y ns)
def qQ:D:=match mR y with
 |none=>.tup [.sl 2 [],.bool false]
 |some all=>.tup [.sl 2 (all.map Key.D),.bool true]
def Bf (b:List Key)(o c:Nat)(l:List Key):Prop:=c=l.length/\b.drop o=l/\o+c=b.length
structure RcS where
 n:Nat
 s:oW
 b:List Key
 o:Nat
 c:Nat
 nn:List au
structure RcT where
 i:Nat
 t:oW
 b:List Key
 o:Nat
 c:Nat
structure RcU where
 j:Nat
 u:oW
 b:List Key
 o:Nat
 c:Nat
def To (ns:List au)(p:RcS):Prop:=(p.n<=48/\Tp y p.s/\p.n+p.s.todo.length=p.s.all.length)/\(p.nn.length<=ns.length+p.n/\mR y=A8 y (49-p.n) p.s/\sB y 49 nE ns=sB y (49-p.n) p.s p.nn)/\Bf p.b p.o p.c p.s.todo
def Tq (s:oW)(p:RcT):Prop:=p.i<=(dc y s.todo[0]!).length/\p.t=Pp ⟨s.all,s.todo.drop 1⟩ ((dc y s.todo[0]!).take p.i)/\Bf p.b p.o p.c p.t.todo/\p.t.all.length+p.t.todo.length<=96+6*p.i
def N5 (row:fS)(t:oW)(i:Nat)(p:RcU):Prop:=p.j<=row.length/\p.u=(row.take p.j).foldl mD t/\Bf p.b p.o p.c p.u.todo/\p.u.all.length+p.u.todo.length<=96+6*i+2*p.j
def akQ (ns:List au):To y ns ⟨0,nE,[fJ],0,1,ns⟩:=⟨⟨aC,Zw y,rfl⟩,⟨aN _,rfl,rfl⟩,rfl,rfl,rfl⟩
def ahu {l:List Key}{o:Nat}(h:b.drop o=l)(h0:0<l.length):b[o+0]! =l[0]! :=by
 subst h;rw[jO]at h0;simp
def aht {l:List Key}{o c:Nat}(h1:c=l.length)(h2:b.drop o=l)(k:Key):((b.map Key.D).drop o).take c++[Key.D k]=(l++[k]).map Key.D:=by
 rw[<-List.map_drop,h2,h1,Gr,List.map_append];rfl
def ahv (l:List Key){c:Nat}(h:c=l.length)(k:Key):Bf (l++[k]) 0 (c+1) (l++[k]):=⟨gp,rfl,gp⟩
def ala {s:oW}{o c:Nat}(h1:c=s.todo.length)(h2:b.drop o=s.todo)(h3:o+c=b.length)(h0:0<s.todo.length)(h48:s.all.length<=48)(hle:s.todo.length<=s.all.length):Tq y s ⟨0,⟨s.all,s.todo.drop 1⟩,b,o+1,c-1⟩:=by
 refine⟨Nat.zero_le _,rfl,⟨?_, ?_, ?_⟩, ?_⟩
 .simp only[jO];omega
 .simp only;rw[<-h2,List.drop_drop]
 .simp only;omega
 .simp only[jO];omega
def alf (row:fS){i:Nat}{o c:Nat}(h1:c=t.todo.length)(h2:b.drop o=t.todo)(h3:o+c=b.length)(h:t.all.length+t.todo.length<=96+6*i):N5 row t i ⟨0,t,b,o,c⟩:=⟨Nat.zero_le _,rfl,⟨h1,h2,h3⟩,rm⟩
def Vc [Inhabited α]{l:List α}{i:Nat}(h:i<l.length):l.take (i+1)=l.take i++[l[i]!]:=by
 rw[List.take_add_one,List.getElem?_eq_getElem h];simp[h]
def Rp (h:j<row.length):(row.take (j+1)).foldl mD t=mD ((row.take j).foldl mD t) row[j]! :=by
 have e:row.take (j+1)=row.take j++[row[j]!]:=by
  rw[List.take_add_one,List.getElem?_eq_getElem h];simp[h]
 rw[e,List.foldl_append];rfl
def aed (l:List Key)(k:Key):(sA l k).length<=l.length+1:=by
 rcases Di l k with⟨h,_⟩|⟨h,_⟩
 .rw[h];omega
 .omega
def alh {u:oW}{i:Nat}{o c:Nat}(h:N5 row t i ⟨j,u,b,o,c⟩)(hj:j<row.length)(hc:u.all.length<(sA u.all row[j]!.k).length):N5 row t i ⟨j+1,⟨sA u.all row[j]!.k,u.todo++[row[j]!.k]⟩,u.todo++[row[j]!.k],0,c+1⟩:=by
 obtain⟨h1,h2,⟨h3,_⟩,h4⟩:=h;simp only at h1 h2 h3 h4;have:=aed u.all row[j]!.k;refine⟨hj, ?_,ahv _ h3 _, ?_⟩
 .simp only;rw[Rp hj,<-h2,mD,ak hc]
 .simp only[cu,List.length_singleton];omega
def alg {u:oW}{i:Nat}{o c:Nat}(h:N5 row t i ⟨j,u,b,o,c⟩)(hj:j<row.length)(hc:¬u.all.length<(sA u.all row[j]!.k).length):N5 row t i ⟨j+1,u,b,o,c⟩:=by
 obtain⟨h1,h2,h3,h4⟩:=h;simp only at h1 h2 h3 h4;refine⟨hj, ?_,h3,rm⟩;simp only;rw[Rp hj,<-h2,mD,ah hc]
def alb {y:cC}{s u:oW}{i:Nat}{b1 b2:List Key}{o1 c1 o2 c2:Nat}(h:Tq y s ⟨i,t,b1,o1,c1⟩)(hU:N5 (dc y s.todo[0]!)[i]! t i ⟨j,u,b2,o2,c2⟩)(hi:i<(dc y s.todo[0]!).length)(hj:(dc y s.todo[0]!)[i]!.length<=j)(hr:(dc y s.todo[0]!)[i]!.length<=3):Tq y s ⟨i+1,u,b2,o2,c2⟩:=by
 obtain⟨h1,h2,_,h4⟩:=h;obtain⟨g1,g2,g3,g4⟩:=hU;simp only at h1 h2 h4 g1 g2 g3 g4;refine⟨hi, ?_,g3,rm⟩;have e:=Vc hi;simp only;rw[e,Pp,List.foldl_append,g2,gU hj,h2];rfl
def akR {y:cC}{ns nn:List au}{n i:Nat}{s:oW}{b1:List Key}{o c o1 c1:Nat}(h:To y ns ⟨n,s,b,o,c,nn⟩)(hT:Tq y s ⟨i,t,b1,o1,c1⟩)(h0:0<s.todo.length)(hi:(dc y s.todo[0]!).length<=i)(h48:¬48<t.all.length):To y ns ⟨n+1,t,b1,o1,c1,jz nn s.todo[0]!⟩:=by
 obtain⟨⟨p1,p2,p3⟩,⟨q1,q2,q3⟩,_⟩:=h;obtain⟨_,t2,t3,_⟩:=hT;simp only at p1 p2 p3 q1 q2 q3 t2 t3;rw[gU hi]at t2;have t2:t=A9 y s:=t2;have hl:=(So y h0).1.len;rw[<-t2]at hl;simp only[jO]at hl;have h6:=p2.len.2;have e:49-n=(49-(n+1))+1:=ae;have hk:=CN nn s.todo[0]!;refine⟨⟨rm,t2▸ZA p2 h0 (by rw[<-t2];omega),rm⟩,⟨rm, ?_, ?_⟩,t3⟩
 .simp only;rw[q2,e,A8,ah ae,ah (by rw[<-t2];exact h48),t2]
 .simp only;rw[q3,e,sB,ah ae,ah (by rw[<-t2];exact h48),t2]
def Dq {y:cC}{ns nn:List au}{n i:Nat}{s:oW}{b1:List Key}{o c o1 c1:Nat}(h:To y ns ⟨n,s,b,o,c,nn⟩)(hT:Tq y s ⟨i,t,b1,o1,c1⟩)(h0:0<s.todo.length)(hi:(dc y s.todo[0]!).length<=i)(h48:48<t.all.length):qQ y=.tup [.sl 2 [],.bool false]/\sB y 49 nE ns=jz nn s.todo[0]! :=by
 obtain⟨⟨p1,p2,p3⟩,⟨q1,q2,q3⟩,_⟩:=h;obtain⟨_,t2,_⟩:=hT;simp only at p1 p2 p3 q1 q2 q3 t2;rw[gU hi]at t2;have t2:t=A9 y s:=t2;have e:49-n=(49-(n+1))+1:=ae;constructor
 .unfold qQ;rw[q2,e,A8,ah ae,ak (by rw[<-t2];exact h48)]
 .rw[q3,e,sB,ah ae,ak (by rw[<-t2];exact h48)]
def zb {y:cC}{ns nn:List au}{n:Nat}{s:oW}{o c:Nat}(h:To y ns ⟨n,s,b,o,c,nn⟩)(h0:s.todo.length=0):qQ y=.tup [.sl 2 (s.all.map Key.D),.bool true]/\sB y 49 nE ns=nn:=by
 obtain⟨⟨p1,p2,p3⟩,⟨q1,q2,q3⟩,_⟩:=h;simp only at p1 q2 q3;have e:49-n=(49-(n+1))+1:=ae;constructor
 .unfold qQ;rw[q2,e,A8,ak h0]
 .rw[q3,e,sB,ak h0]
def Bb (w:bP)(c:List Int)(i:Nat):List Int:=(List.range i).map λi=>if(fo w c)[i]! =true then c[i]! else-1
def aad (w:bP)(c:List Int)(i:Nat):(Bb w c i).length<=i:=by unfold Bb;rw[a8,List.length_range];omega
def ak8 {i:Nat}(h:(fo w c)[i]! =true):Bb w c i++[c[i]!]=Bb w c (i+1):=by
 unfold Bb;rw[List.range_succ,List.map_append,List.map_singleton,ak h]
def ak7 {i:Nat}(h:(fo w c)[i]! =false):Bb w c i++[-1]=Bb w c (i+1):=by
 unfold Bb;rw[List.range_succ,List.map_append,List.map_singleton,ah je]
def L4 (w:bP)(c:List Int):(fo w c).length<=c.length:=by
 cases h:ey w c with
 |true=>exact Nat.le_of_eq (qK h)
 |false=>unfold fo;rw[ak h];exact Nat.zero_le _
section
variable {y:cC}{all:List Key}{x:uz}{i:Nat}
def K7 (h:k=fJ):ew y all k=([⟨zV,-1,dG all (eL y.l),[]⟩],true):=ak h
def acr (h:k.f=[]):(⟨x.r.v,x.sh,dG all (cM x.r y.e k.f),wJ all x.r y.e⟩:eB)=dU y all k x:=by unfold dU;rw[ak h]
def acq (h:¬k.f=[]):(⟨x.r.v,x.sh,dG all (cM x.r y.e k.f),[]⟩:eB)=dU y all k x:=by unfold dU;rw[ah h]
def K6 (h:¬k=fJ)(hi:i<(eO y k).length)(hw:24<(dU y all k (eO y k)[i]!).needs.length\/24<(dU y all k (eO y k)[i]!).bars.length):ew y all k=([],false):=by
 unfold ew;rw[ah h,ak];rw[List.any_map,List.any_eq_true];refine⟨_,aq hi, ?_⟩;show oz _=true;unfold oz;rcases hw with h|h<;>rw[br h]<;>simp
def Ra (hi:i<(eO y k).length)(h:(((eO y k).take i).map (dU y all k)).any oz=false)(hn:¬24<(dU y all k (eO y k)[i]!).needs.length/\¬24<(dU y all k (eO y k)[i]!).bars.length):(((eO y k).take (i+1)).map (dU y all k)).any oz=false:=by
 rw[map_take hi,List.any_append,h,List.any_cons,List.any_nil];unfold oz;rw[bL hn.1,bL hn.2];rfl
def K5 (h:¬k=fJ)(hw:((eO y k).map (dU y all k)).any oz=false):ew y all k=((eO y k).map (dU y all k),decide ((dL y k.n).length<=16)):=by
 unfold ew;rw[ah h,ah (by rw[hw];simp)]
def Tr (nm:au):eU (eU ns nm) nm=eU ns nm:=by
 have:nm∈eU ns nm:=by
  unfold eU;split
  .assumption
  .simp
 rw[eU,ak this]
end
def rW (all:List Key)(k:Key):D:=.tup [.sl 8 ((ew y all k).1.map eB.D),.bool (ew y all k).2]
def Om (l k:Nat)(es:List Abs.D)(c:eB):iY l k es (eB.D c)=eB.D c:=rfl
def iR:List Key:=(mR y).getD []
def okY:Bool:=(mR y).isSome
def F3:qQ y=.tup [.sl 2 ((iR y).map Key.D),.bool (okY y)]:=by
 unfold qQ iR okY;cases mR y<;>rfl
def Wb:(iR y).length<=48:=by
 unfold iR;cases h:mR y with
 |none=>simp
 |some all=>exact(sC h).2.1
section
variable {y:cC}{i:Nat}
def Yo (y:cC)(i:Nat):Bool:=okY y&&(nJ y (iR y) i).2
def yl (y:cC)(i:Nat):List cI:=(nJ y (iR y) i).1
def Yk (y:cC)(i:Nat):List au:=aax (iR y) (sB y 49 nE []) i
def ND:∀i,(yl y i).length<=i
 |0=>aN _
 |i+1=>by
  have:=ND i;unfold yl at this⊢;rw[nJ];split
  .rw[cu,List.length_singleton];omega
  .omega
def adR (y:cC)(i:Nat):(Yk y i).length<=49+i:=by
 have h1:=NM (iR y) (sB y 49 nE []) i;have h2:=Mv y 49 nE [];unfold Yk;simp only[ca]at h2;omega
def ali (h:Yo y i=true):yl y i++[rK y (iR y) (iR y)[i]!]=yl y (i+1):=by
 unfold Yo at h;rw[aA]at h;unfold yl;rw[nJ,ak h.2]
def okS_s (h:Yo y i=true):(ew y (iR y) (iR y)[i]!).2=Yo y (i+1):=by
 unfold Yo at h⊢;rw[aA]at h;rw[nJ,ak h.2,h.1];rfl
def nsS_s:jz (Yk y i) (iR y)[i]! =Yk y (i+1):=rfl
def Gz {all:List Key}(h:(nJ y all i).2=false):∀n,nJ y all (i+n)=nJ y all i
 |0=>rfl
 |n+1=>by
  have ih:=Gz h n;rw[show i+(n+1)=(i+n)+1 from rfl,nJ,ah (by rw[ih,h];simp),ih]
def Vk (hi:i<=(iR y).length)(hc:¬((i:Nat):Int)<((iR y).length:Nat)\/Yo y i=false):eA y=(⟨yl y i⟩,Yo y i):=by
 unfold eA yl Yo okY iR at*
 cases h:mR y with
 |none=>
  rw[h]at hi;have:i=0:=by simpa using hi
  subst this;rfl
 |some all=>
  rw[h]at hi hc;simp only[Option.getD_some,Option.isSome_some,eI]at hi hc⊢;rcases hc with hc|hc
  .obtain rfl:i=all.length:=ae;rfl
  .have:=Gz hc (all.length-i);rw[show i+(all.length-i)=all.length by omega]at this;rw[this]
end
def zt:D:=.tup [bP.D (eA y).1,.bool (eA y).2]
def WldQ:D->List (Nat×bj)->Prop:=λd _=>d=zt y
def WldC (n:Nat)(y:cC)(V:D):=∀(nx lf:Nat) (m:List (Nat×bj)) (K:D->St->Prop),lf<nx->look m lf=some (.buf 2 [.agg [.aL,.aL]])->K V ⟨nx,c7 m lf⟩->Y.tr n [cC.D y (.ptr lf 2 0 0)] ⟨nx,m⟩ K
def alj (l k:Nat)(es:List Abs.D)(u:cI):iY l k es (cI.D u)=cI.D u:=rfl
section
variable {l:List gW}{shop:List bA}{e:Env}{ks:List Kp}
abbrev yp (l:List gW)(shop:List bA)(e:Env)(ks:List Kp):cC:=⟨l,shop,e,ks,gG l⟩
def acg (h:dr shop=false\/nV e=false):gP l shop e ks=(⟨[]⟩,1):=ak h
def ach {i:Nat}(h:dr shop=true/\nV e=true)(hi:i<(gG l).length)(hn:lq shop (gG l)[i]!.shelf<0):gP l shop e ks=(⟨[]⟩,12):=by
 unfold gP;rw[ah gp,ak];exact List.any_eq_true.2 ⟨_,aq hi,br hn⟩
def YN {i:Nat}(hi:¬i<(gG l).length)(h:∀j,j<i->0<=lq shop (gG l)[j]!.shelf):¬((gG l).any λp=>decide (lq shop p.shelf<0))=true:=by
 intro h1;obtain⟨p,hp,h2⟩:=List.any_eq_true.1 h1;obtain⟨j,hj,rfl⟩:=gh hp;have:=h j ae;simp at h2;rw[List.getElem!_eq_getElem?_getD]at this;omega
def aci (h:dr shop=true/\nV e=true)(hp:¬((gG l).any λp=>decide (lq shop p.shelf<0))=true)(hw:(eA (yp l shop e ks)).2=false):gP l shop e ks=(⟨[]⟩,10):=by
 unfold gP;rw[ah gp,ah hp,ak hw]
def acj (h:dr shop=true/\nV e=true)(hp:¬((gG l).any λp=>decide (lq shop p.shelf<0))=true)(hw:¬(eA (yp l shop e ks)).2=false):gP l shop e ks=((eA (yp l shop e ks)).1,0):=by
 unfold gP;rw[ah gp,ah hp,ah hw]
end
section
variable [cL]{P:Program}{ν:List (Nat×Nat)}{bN:List Nat}{t:List (Nat×mL)}{fid key u:Nat}{af:aj}{y:cC}{lf:Nat}{m:List (Nat×bj)}{K:D->St->Prop}
def aay (hmix:P.follows .mixedOrders=true)(hC:Vn P ν bN fid af)(hnp:1=af.np)(h1:lf<nx)(hat:look m lf=some (.buf 2 [.agg [.aL,.aL]]))(hK:K (zt y) ⟨nx,c7 m lf⟩)(hw:du ((under t key u).at 1) af.body (uA af (WldQ y)) (fQ af [cC.D y (.ptr 0 2 0 0)]) ⟨1,[(0,.buf 2 [.agg [.aL,.aL]])]⟩):uL P ν bN (under t key u) fid [cC.D y (.ptr lf 2 0 0)] ⟨nx,m⟩ K:=by
 have g3:gN 0 1 [(lf,0)]=true:=by simp[gN]
 have g4:∀l i,(l,i)∈[(lf,0)]->look m l≠none:=by
  intro l i h;obtain⟨rfl,rfl⟩:=Prod.mk.inj (aD.1 h);rw[hat];simp
 have g5:∀i b,look [(0,bj.buf 2 [.agg [.aL,.aL]])] i=some b->∃l b',(l,i)∈[(lf,0)]/\look m l=some b'/\qm 0 [(lf,0)] b' b:=by
  intro i b h;simp only[look]at h;split at h
  .rename_i e;subst e;obtain rfl:=aW h;exact⟨lf,_,.head _,hat,rfl,.inl ⟨rfl,rfl⟩⟩
  .cases h
 refine Ly (σi:=[(lf,0)]) (cs:=[cC.D y (.ptr 0 2 0 0)]) (λq=>Gu t key u q) hmix hC rfl ?_ hnp g3 g4 g5 hw ?_
 .intro i hi
  match i,hi with
  |0,_=>exact .inr (.inl (by simp[cC.D,tx,qT,U0,mT]))
 .rintro d m1 rfl;refine⟨[(0,lf)],1,⟨nx,c7 m lf⟩,zt y,⟨g3,by simp[gN,h1],aN _,g4, ?_,g5, ?_⟩,.inl ⟨rfl,rfl⟩,hK⟩
  .intro i l h;obtain⟨rfl,rfl⟩:=Prod.mk.inj (aD.1 h);exact .inl (.head _)
  .intro l bb h;rw[fk]at h;split at h
   .cases h
   .rename_i hne;exact .inr ⟨by simp only[nZ,ah (λe=>hne (Eq.symm e))],(λi hi=>by obtain⟨rfl,_⟩:=Prod.mk.inj (aD.1 hi);exact hne rfl),h⟩
end
def FN:∀{l:List D}{i:Nat},aK l=true->i<l.length->(l.getD i .any).aR=true
 |d::r,0,h,_=>by simp only[aK,aA]at h;exact h.1
 |d::r,i+1,h,hi=>by
  simp only[aK,aA]at h;exact FN (l:=r) h.2 oD
def B0 {y:cC}{rest:List D}(hr:aK rest=true):aeW (λf=>cC.D y f::rest):=by
 intro σ l l' h;refine⟨rfl,λi hi=>?_⟩;cases i with
 |zero=>exact .inr (.inl (by simp[cC.D,tx,qT,U0,h]))
 |succ i=>exact .inl ⟨rfl,FN (l:=rest) hr oD⟩
def Uz:(qQ y).aR=true:=by rw[F3];rfl
section
variable [cL]{P:Program}{ν:List (Nat×Nat)}{bN:List Nat}{t:List (Nat×mL)}{fid n key u k:Nat}{af:aj}{m:List (Nat×bj)}{K:D->St->Prop}
def TU {lm lc n':Nat}{es es' kvs:List D}{a b e vd:D}{Q:D->List (Nat×bj)->Prop}(hes:aK es=true)(hes':aK es'=true)(ha:tx 0 [(lc,0),(lm,1)] a=some a)(hb:tx 0 [(lc,0),(lm,1)] b=some b)(he:e.aR=true)(hv:vd.aR=true)(hmix:P.follows .mixedOrders=true)(hC:Vn P ν bN fid af)(hnp:2=af.np)(hn:n'=n)(hlt:lc<nx)(hltm:lm<nx)(h1:look m lc=some (.buf 1 es))(h2:look m lm=some (.mpb kvs))(hK:K vd ⟨nx,cT m lc (.buf 1 es')⟩)(hQ:∀d m,Q d m->d=vd/\look m 0=some (.buf 1 es')/\look m 1=some (.mpb kvs))(hw:du ((under t key u).at 2) af.body (uA af Q) (fQ af [.agg [a,b,.fn 5000000 [.it 1],.own 0 1 0 n],e]) ⟨2,[(0,.buf 1 es),(1,.mpb kvs)]⟩):uL P ν bN (under t key u) fid [.agg [a,b,.fn 5000000 [.it lm],.own lc 1 0 n'],e] ⟨nx,m⟩ K:=by
 subst hn;have hne:lc≠lm:=by rintro rfl;rw[h1]at h2;cases h2
 have b1:Nat.beq lc lm=false:=by rw[<-Bool.not_eq_true];exact λh=>hne (Nat.eq_of_beq_eq_true h)
 have b2:Nat.beq lm lc=false:=by rw[<-Bool.not_eq_true];exact λh=>hne (Nat.eq_of_beq_eq_true h).symm
 have g3:gN 0 2 [(lc,0),(lm,1)]=true:=by simp[gN,b1,b2,Nat.blt];exact rfl
 have g4:∀l i,(l,i)∈[(lc,0),(lm,1)]->look m l≠none:=by
  intro l i h;simp only[bG,dj,cU,or_false]at h;rcases h with⟨rfl,_⟩|⟨rfl,_⟩<;>simp[h1,h2]
 have g5:∀i b,look [(0,bj.buf 1 es),(1,.mpb kvs)] i=some b->∃l b',(l,i)∈[(lc,0),(lm,1)]/\look m l=some b'/\qm 0 [(lc,0),(lm,1)] b' b:=by
  intro i b h;simp only[look]at h;split at h
  .rename_i e;subst e;obtain rfl:=aW h;exact⟨lc,_,.head _,h1,rfl,.inl ⟨rfl,hes⟩⟩
  .split at h
   .rename_i e;subst e;obtain rfl:=aW h;exact⟨lm,_,.tail _ (.head _),h2,rfl⟩
   .cases h
 refine Ly (σi:=[(lc,0),(lm,1)]) (cs:=[.agg [a,b,.fn 5000000 [.it 1],.own 0 1 0 n'],e]) (λq=>Gu t key u q) hmix hC rfl ?_ hnp g3 g4 g5 hw ?_
 .intro i hi
  match i,hi with
  |0,_=>exact .inr (.inl (by simp[tx,qT,U0,mT,ha,hb,b1,b2]))
  |1,_=>exact .inl ⟨rfl,he⟩
 .intro d m1 h;obtain⟨rfl,hj,hk⟩:=hQ d m1 h;refine⟨[(0,lc),(1,lm)],2,⟨nx,cT m lc (.buf 1 es')⟩,d,⟨g3,by simp[gN,hlt,hltm,b1,b2,Nat.blt];exact⟨hlt,rfl,hltm⟩,aN _,g4, ?_,g5, ?_⟩,.inl ⟨rfl,hv⟩,hK⟩
  .intro i l h;simp only[bG,dj,cU,or_false]at h;rcases h with⟨rfl,rfl⟩|⟨rfl,rfl⟩
   .exact .inl (.head _)
   .exact .inl (.tail _ (.head _))
  .intro l bb h;rw[bM]at h;split at h
   .rename_i e;subst e;obtain rfl:=aW h;exact .inl ⟨0,_,.head _,hj,rfl,.inl ⟨rfl,hes'⟩⟩
   .rename_i h3;by_cases h4:l=lm
    .subst h4;rw[h2]at h;obtain rfl:=aW h;exact .inl ⟨1,_,.tail _ (.head _),hk,rfl⟩
    .exact .inr ⟨by simp only[nZ,ah (λe=>h3 (Eq.symm e)),ah (λe=>h4 (Eq.symm e))],(λi hi=>by
      simp only[bG,dj,cU,or_false]at hi;rcases hi with⟨rfl,_⟩|⟨rfl,_⟩
      .exact h3 rfl
      .exact h4 rfl),h⟩
end
section
variable [cL]{P:Program}{ν:List (Nat×Nat)}{bN:List Nat}{t:List (Nat×mL)}{fid n key u k:Nat}{af:aj}{m:List (Nat×bj)}{K:D->St->Prop}
def rU {a b:Nat}(h:a≠b):Nat.beq a b=false:=by
 cases h2:Nat.beq a b with
 |false=>rfl
 |true=>exact absurd (Nat.eq_of_beq_eq_true h2) h
theorem DN {m:List (Nat×bj)}{l lw:Nat}(h:l≠lw):gv (c7 m lw) l=match look m l with
 |some (.bld (some l2) _ _)=>c7 (c7 m lw) l2
 |_=>c7 m lw:=by
 grind [gv,fk,look]
def T8 {ws:List au}{s:au}{l lw:Nat}(hmix:P.follows .mixedOrders=true)(hC:Vn P ν bN fid af)(hnp:2=af.np)(h1:uK m l s)(h2:look m lw=some (.buf 1 (ws.map D.str)))(h3:l<nx)(h4:lw<nx)(hK:K (.tup []) ⟨nx+1,rV (c7 m lw) l nx (s++cq ws)⟩)(hw:∀m0,uK m0 0 s->look m0 1=some (.buf 1 (ws.map D.str))->du ((under t key u).at 3) af.body (uA af (λd m=>d=.tup []/\look m 0=some (.bld (some 9) (s++cq ws).length true)/\look m 9=some (.row (s++cq ws)))) (fQ af [.ptr 0 2 0 0,.own 1 1 0 ws.length]) ⟨3,m0⟩):
  uL P ν bN (under t key u) fid [.ptr l 2 0 0,.own lw 1 0 ws.length] ⟨nx,m⟩ K:=by
 have hlw:l≠lw:=by
  rintro rfl;rcases h1 with⟨u,h,_⟩|⟨l2,u,h,_⟩<;>rw[h2]at h<;>cases h
 have hnl:aK (ws.map D.str)=true:=bX (λ_=>rfl) _;have b1:=rU hlw;have b2:=rU (Ne.symm hlw);have b3:=rU (show l≠nx by omega);have b4:=rU (show nx≠l by omega)

 have fin:∀(σi:List (Nat×Nat)) (m0:List (Nat×bj)),gN 0 3 σi=true->(l,0)∈σi->(∀l i,(l,i)∈σi->look m l≠none)->(∀i b,look m0 i=some b->∃l b',(l,i)∈σi/\look m l=some b'/\qm 0 σi b' b)->
   (∀l' b,look (gv (c7 m lw) l) l'=some b->l'≠l->look m l'=some b/\∀i,(l',i)∉σi)->∀d m1,(d=.tup []/\look m1 0=some (.bld (some 9) (s++cq ws).length true)/\look m1 9=some (.row (s++cq ws)))->
   ∃(σo:List (Nat×Nat)) (q1:Nat) (st':St) (vd':D),Fr σi σo 3 q1 m0 m1 ⟨nx,m⟩ st'/\RnD 0 σo d vd'/\K vd' st':=by
  rintro σi m0 oki hm hlt hm0 hoff d m1 ⟨rfl,e0,e9⟩;refine⟨[(0,l),(9,nx)],10,⟨nx+1,rV (c7 m lw) l nx (s++cq ws)⟩,.tup [],⟨oki, ?_,Nat.le_succ _,hlt, ?_,hm0, ?_⟩,.inl ⟨rfl,rfl⟩,hK⟩
  .simp[gN,b3,b4];exact⟨ae,rfl⟩
  .intro i l' h;rcases bG.1 h with h|h
   .obtain⟨rfl,rfl⟩:=Prod.mk.inj h;exact .inl hm
   .obtain⟨rfl,rfl⟩:=Prod.mk.inj (aD.1 h);exact .inr (aN _)
  .intro l' bb h;simp only[rV,look]at h;split at h
   .rename_i e;subst e;obtain rfl:=aW h;exact .inl ⟨9,_,.tail _ (.head _),e9,rfl⟩
   .rename_i hln;rw[bM]at h;split at h
    .rename_i e;subst e;obtain rfl:=aW h;exact .inl ⟨0,_,.head _,e0,⟨nx,rfl,rfl⟩,rfl,rfl⟩
    .rename_i hl;obtain⟨g1,g2⟩:=hoff l' bb h hl;exact .inr ⟨by simp only[nZ,ah (λe=>hl (Eq.symm e)),ah hln],g2,g1⟩
 rcases h1 with⟨u,h1,rfl⟩|⟨l2,u,h1,h5⟩
 .have g4:∀l' i,(l',i)∈[(l,0),(lw,1)]->look m l'≠none:=by
   intro l' i h;rcases bG.1 h with h|h
   .obtain⟨rfl,rfl⟩:=Prod.mk.inj h;rw[h1];simp
   .obtain⟨rfl,rfl⟩:=Prod.mk.inj (aD.1 h);rw[h2];simp
  have g3:gN 0 3 [(l,0),(lw,1)]=true:=by simp[gN,b1,b2];rfl
  have g5:∀i b,look [(0,bj.bld none 0 u),(1,.buf 1 (ws.map D.str))] i=some b->∃l' b',(l',i)∈[(l,0),(lw,1)]/\look m l'=some b'/\qm 0 [(l,0),(lw,1)] b' b:=by
   intro i b h;simp only[look]at h;split at h
   .rename_i e;subst e;obtain rfl:=aW h;exact⟨l,_,.head _,h1,rfl,rfl,rfl⟩
   .split at h
    .rename_i e;subst e;obtain rfl:=aW h;exact⟨lw,_,.tail _ (.head _),h2,rfl,.inl ⟨rfl,hnl⟩⟩
    .cases h
  refine Ly (σi:=[(l,0),(lw,1)]) (cs:=[.ptr 0 2 0 0,.own 1 1 0 ws.length]) (λq=>Gu t key _ q) hmix hC rfl ?_ hnp g3 g4 g5 (hw _ (.inl ⟨u,rfl,rfl⟩) rfl) (fin _ _ g3 (.head _) g4 g5 ?_)
  .intro i hi
   match i,hi with
   |0,_=>exact .inr (.inl Te)
   |1,_=>exact .inr (.inl (by simp[tx,U0,mT,b1]))
  .intro l' b h hl;rw[DN hlw]at h;simp only[h1]at h;rw[fk]at h;split at h
   .cases h
   .rename_i hw';refine⟨h,λi hi=>?_⟩;rcases bG.1 hi with hi|hi
    .exact hl (Prod.mk.inj hi).1
    .exact hw' (Prod.mk.inj (aD.1 hi)).1
 .have c1:l2≠l:=by rintro rfl;rw[h1]at h5;cases h5
  have c2:l2≠lw:=by rintro rfl;rw[h2]at h5;cases h5
  have d1:=rU c1;have d2:=rU c2;have d3:=rU (Ne.symm c1);have d4:=rU (Ne.symm c2);have g4:∀l' i,(l',i)∈[(l,0),(lw,1),(l2,2)]->look m l'≠none:=by
   intro l' i h;rcases bG.1 h with h|h
   .obtain⟨rfl,rfl⟩:=Prod.mk.inj h;rw[h1];simp
   .rcases bG.1 h with h|h
    .obtain⟨rfl,rfl⟩:=Prod.mk.inj h;rw[h2];simp
    .obtain⟨rfl,rfl⟩:=Prod.mk.inj (aD.1 h);rw[h5];simp
  have g3:gN 0 3 [(l,0),(lw,1),(l2,2)]=true:=by simp[gN,b1,b2,d1,d2,d3,d4];exact⟨⟨rfl,rfl⟩,rfl⟩
  have g5:∀i b,look [(0,bj.bld (some 2) s.length u),(1,.buf 1 (ws.map D.str)),(2,.row s)] i=some b->∃l' b',(l',i)∈[(l,0),(lw,1),(l2,2)]/\look m l'=some b'/\qm 0 [(l,0),(lw,1),(l2,2)] b' b:=by
   intro i b h;simp only[look]at h;split at h
   .rename_i e;subst e;obtain rfl:=aW h;exact⟨l,_,.head _,h1,⟨2,by simp[mT,d3,d4],rfl⟩,rfl,rfl⟩
   .split at h
    .rename_i e;subst e;obtain rfl:=aW h;exact⟨lw,_,.tail _ (.head _),h2,rfl,.inl ⟨rfl,hnl⟩⟩
    .split at h
     .rename_i e;subst e;obtain rfl:=aW h;exact⟨l2,_,.tail _ (.tail _ (.head _)),h5,rfl⟩
     .cases h
  refine Ly (σi:=[(l,0),(lw,1),(l2,2)]) (cs:=[.ptr 0 2 0 0,.own 1 1 0 ws.length]) (λq=>Gu t key _ q) hmix hC rfl ?_ hnp g3 g4 g5 (hw _ (.inr ⟨2,u,rfl,rfl⟩) rfl) (fin _ _ g3 (.head _) g4 g5 ?_)
  .intro i hi
   match i,hi with
   |0,_=>exact .inr (.inl Te)
   |1,_=>exact .inr (.inl (by simp[tx,U0,mT,b1]))
  .intro l' b h hl;rw[DN hlw]at h;simp only[h1]at h;rw[fk]at h;split at h
   .cases h
   .rename_i hw2;rw[fk]at h;split at h
    .cases h
    .rename_i hw';refine⟨h,λi hi=>?_⟩;rcases bG.1 hi with hi|hi
     .exact hl (Prod.mk.inj hi).1
     .rcases bG.1 hi with hi|hi
      .exact hw' (Prod.mk.inj hi).1
      .exact hw2 (Prod.mk.inj (aD.1 hi)).1
end
def ai {p:Prop}(h:p:=by exact rfl):p:=h
def qqq6 {p:Prop}(h:p:=by repeat(first|exact fD.nil|refine fD.un ?_|refine fD.eq c8 ?_)):p:=h
def dZ {p:Prop}(h:p:=by first|exact rfl|exact bX (λ_=>rfl) _):p:=h
def Pj {p:Prop}(h:p:=by repeat(first|exact fD.nil|refine fD.un ?_|refine fD.eq c8 ?_|refine fD.nl c8 c8 ?_)):p:=h
def jD {p:Prop}(h:p:=by repeat' first|exact trivial|exact rfl|refine And.intro ?_ ?_):p:=h
def Dk {p:Prop}(h:p:=by repeat' first|exact trivial|exact rfl|exact aN _|refine And.intro ?_ ?_):p:=h
def Dj {p:Prop}(h:p:=by repeat(first|exact bo.nil|refine bo.AW c8 c8 (by first|exact rfl|exact bX (λ_=>rfl) _) ?_|refine bo.NU c8 c8 c8 ?_|refine bo.NV c8 c8 c8 c8 ?_)):p:=h
def Ms {p:Prop}(h:p:=by simp only[xc,iY,mN,zU,EI,c7,Nat.reduceEqDiff,bh,aX,ir,ed,dw,il,iq,cr,a8,aN,cY,bH,reduceCtorEq,bD,ca,Nat.reduceAdd,Nat.reduceLeDiff];exact rfl):p:=h
def b0 {p:Prop}[Decidable p]:(decide p=true)=p:=aT
def b1 {p:Prop}[Decidable p]:decide p=false↔¬p:=ct
def b2 (b:Bool):((!b)=true)=(b=false):=cE b
def b3 (b:Bool):((!b)=false)=(b=true):=cZ b
def b4 (b:Bool):(¬(b=false))=(b=true):=Bool.not_eq_false b
def b5 (a b:Bool):((a ||b)=true)=(a=true\/b=true):=dK a b
abbrev wkk (a:aj)(d:D)(ds:List D):Prop:=du (Y.at 0) a.body (N4 a d) (fQ a ds) ⟨0,[]⟩
def fK {a:aj}{d d2:D}{e:Ex}{m:List (Nat×bj)}(h:d2=d)(he:e.home:=by exact trivial)(h1:ow m env a.res:=by exact Dk)(h2:AI a env m:=by exact jD)(h3:NR a env m=d2:=by exact rfl):N4 a d e env ⟨nx,m⟩:=P3 he h1 h2 (h3.trans h)
def rrrb {a:aj}{d d2:Bool}{e:Ex}{m:List (Nat×bj)}(h:d2=d)(he:e.home:=by exact trivial)(h1:ow m env a.res:=by exact Dk)(h2:AI a env m:=by exact jD)(h3:NR a env m=.bool d2:=by exact rfl):N4 a (.bool d) e env ⟨nx,m⟩:=fK (aw _ h) he h1 h2 h3
def gtt {lo c nx2:Nat}{env2:List aY}{m m2:List (Nat×bj)}(σ:List (Nat×Nat))(hc:nx2=c:=by exact ai)(h:gN lo c σ=true:=by exact ai)(he:fD lo σ env env2:=by exact Pj)(hm:bo lo c σ m m2:=by exact Dj):aZ lo env ⟨nx,m⟩ env2 ⟨nx2,m2⟩:=aZ.to σ hc h he hm
section
variable {Y:Ctx}{Q:Ex->List aY->St->Prop}
def cmN:Wz env rs []=env:=rfl
def cmC {s p:Nat}{r:List (Nat×Nat)}{env1 env':List aY}{f:Bool}{d:D}(e:bQ [] rs (.l p)=⟨f,d⟩)(hs:env.set s ⟨f,d⟩=env1)(h:Wz env1 rs r=env'):Wz env rs ((s,p)::r)=env':=by
 simp only[Wz,e,hs,h]
def rrrg {draw:Bool}{b:AC}{nx':Nat}{m:List (Nat×bj)}{fQ env':List aY}(h:du Y b Q env' ⟨nx',m⟩)(he:Wz env rs cm=env':=by repeat(first|apply cmC c8 (by simp only[List.set_cons_zero,List.set_cons_succ];exact rfl)|with_reducible exact cmN))(hn:nx+rs.length=nx':=by simp only[bD,ca,Nat.reduceAdd];exact rfl):ay Y draw [] fQ rs nx m (λvs st'=>du Y b Q (iB env vs cm) st'):=
 bm h he hn
def rrrh {draw:Bool}{nx':Nat}{m:List (Nat×bj)}{fQ env':List aY}(h:Q .normal env' ⟨nx',m⟩)(he:Wz env rs cm=env':=by repeat(first|apply cmC c8 (by simp only[List.set_cons_zero,List.set_cons_succ];exact rfl)|with_reducible exact cmN))(hn:nx+rs.length=nx':=by simp only[bD,ca,Nat.reduceAdd];exact rfl):ay Y draw [] fQ rs nx m (λvs st'=>Q .normal (iB env vs cm) st'):=
 nF h he hn
end
def Fam (_:Prop):Type:=Unit
def wu {q:Prop}:Fam q:=()
structure Hid (q:Prop)(f:Fam q):Prop where
 val:q
def zzn {p q:Prop}(k:q)(h:Hid q wu->p:=by intro h;first|exact HV λ_=>h.1|exact Dn λ_=>h.1|exact Po λ_=>h.1):p:=h ⟨k⟩
def gO:(∀{p:Prop} [Decidable p],(decide p=true)=p)/\(∀{p:Prop} [Decidable p],decide p=false↔¬p)/\(∀b:Bool,((!b)=true)=(b=false))/\(∀b:Bool,((!b)=false)=(b=true))/\(∀b:Bool,(¬(b=false))=(b=true))/\(∀a b:Bool,((a ||b)=true)=(a=true\/b=true))/\(∀{a b:Bool},(a ||b)=false↔a=false/\b=false)/\(∀a b:Bool,((a&&b)=true)=(a=true/\b=true))/\(∀{a b:Bool},(a&&b)=false↔a=false\/b=false)/\(∀b:Bool,(¬(b=true))=(b=false))/\(∀b:Bool,(true&&b)=b)/\∀b:Bool,(b&&true)=b:=
 ⟨aT,ct,cE,cZ,Bool.not_eq_false,dK,ec,aA,ep,Bool.not_eq_true,eI,gC⟩
section
variable {Y:Ctx}{Q:Ex->List aY->St->Prop}{st:St}
def dP {c:Src}{a b r:AC}{t:Bool}{c1 c2:Prop}(h1:c1->du Y (.seq a r) Q env st)(h2:c2->du Y (.seq b r) Q env st)(hc:bQ env [] c=⟨true,.bool t⟩:=by exact rfl)(e1:t=true->c1:=by intro h;(try simp only[gO]at h);exact h)(e2:t=false->c2:=by intro h;(try simp only[gO]at h);exact h):du Y (.seq (.cond c a b) r) Q env st:=aQ (λh=>h1 (e1 h)) (λh=>h2 (e2 h)) hc
def Bo {c:Src}{a b:AC}{t:Bool}{c1 c2:Prop}(h1:c1->du Y a Q env st)(h2:c2->du Y b Q env st)(hc:bQ env [] c=⟨true,.bool t⟩:=by exact rfl)(e1:t=true->c1:=by intro h;(try simp only[gO]at h);exact h)(e2:t=false->c2:=by intro h;(try simp only[gO]at h);exact h):du Y (.cond c a b) Q env st:=wp_cond (λh=>h1 (e1 h)) (λh=>h2 (e2 h)) hc
end
abbrev zzh1:List Sh:=[.a,.a,.a,.a,.a,.a,.sl 3 [.sl 4 [.a,.a,.sl 1 [.a],.a],.a,.a],.sl 3 [.a,.a,.a],.sl 2 [.a,.sl 1 [.a]]]
abbrev s0:Src:=.s 0
abbrev s1:Src:=.s 1
abbrev s2:Src:=.s 2
abbrev s3:Src:=.s 3
abbrev s4:Src:=.s 4
abbrev s5:Src:=.s 5
abbrev s6:Src:=.s 6
abbrev s7:Src:=.s 7
abbrev s8:Src:=.s 8
abbrev s9:Src:=.s 9
abbrev U4:Src:=.s 10
abbrev s11:Src:=.s 11
abbrev ZY:Src:=.s 12
abbrev s13:Src:=.s 13
abbrev s14:Src:=.s 14
abbrev s15:Src:=.s 15
abbrev s16:Src:=.s 16
abbrev s17:Src:=.s 17
abbrev s18:Src:=.s 18
abbrev s19:Src:=.s 19
abbrev s20:Src:=.s 20
abbrev s21:Src:=.s 21
abbrev s22:Src:=.s 22
abbrev s23:Src:=.s 23
abbrev s24:Src:=.s 24
abbrev s25:Src:=.s 25
abbrev s26:Src:=.s 26
abbrev l0:Src:=.l 0
abbrev l1:Src:=.l 1
abbrev l2:Src:=.l 2
abbrev l3:Src:=.l 3
abbrev l4:Src:=.l 4
abbrev l5:Src:=.l 5
abbrev l6:Src:=.l 6
abbrev l7:Src:=.l 7
abbrev l8:Src:=.l 8
abbrev l9:Src:=.l 9
abbrev l10:Src:=.l 10
abbrev l11:Src:=.l 11
abbrev l12:Src:=.l 12
abbrev l13:Src:=.l 13
abbrev l14:Src:=.l 14
abbrev l15:Src:=.l 15
abbrev l16:Src:=.l 16
abbrev l17:Src:=.l 17
abbrev l18:Src:=.l 18
abbrev l19:Src:=.l 19
abbrev gm (x:Src):GI:=⟨.mv x,none⟩
abbrev gn (x:ax):GI:=⟨x,none⟩
abbrev i6 (n:Int):Src:=.c (.int .i64 n)
abbrev cs (s:List UInt8):Src:=.c (.str s)
abbrev gd (x:Src):GI:=⟨.ld 1 false x,none⟩
abbrev gk (b:Bool)(x:Src):GI:=⟨.ld n b x,none⟩
abbrev gf (x:Src):GI:=⟨.fa n x,none⟩
abbrev gl (x:Src):GI:=⟨.len x,none⟩
abbrev ga (x y:Src):GI:=⟨.ia n x y,none⟩
abbrev gb (x:Src):GI:=⟨.box n x,none⟩
abbrev gt (x y:Src):GI:=⟨.st n x y,none⟩
abbrev gx (x:List Src)(y:List (List Sh)):GI:=⟨.call n x y,none⟩
abbrev rg (y:List (Nat×Nat)):AC:=.reg false x y
abbrev rt (y:List (Nat×Nat)):AC:=.reg true x y
abbrev afk (x y:Src):ax:=.bin .lss x y
abbrev zH (x y:Src):ax:=.bin .eql x y
abbrev b_gtr (x y:Src):ax:=.bin .gtr x y
abbrev cbF:Src:=.c (.bool false)
abbrev cbT:Src:=.c (.bool true)
abbrev cse:Src:=.c (.str [])
abbrev yy:Src:=.c (.int .i64 0)
abbrev TY:Src:=.c (.int .i64 1)
abbrev gmt (x:Src):GI:=⟨.mv x,some (n,true)⟩
abbrev gdt (x:Src):GI:=⟨.ld 1 false x,some (n,true)⟩
abbrev Rt (n o:Nat)(x:Src):GI:=⟨.fa o x,some (n,true)⟩
abbrev AU (x:ax):GI:=⟨x,some (n,true)⟩
abbrev gmf (x:Src):GI:=⟨.mv x,some (n,false)⟩
abbrev gdf (x:Src):GI:=⟨.ld 1 false x,some (n,false)⟩
abbrev gff (n o:Nat)(x:Src):GI:=⟨.fa o x,some (n,false)⟩
abbrev Bt (x:ax):GI:=⟨x,some (n,false)⟩
abbrev sq (a b:AC):AC:=.seq a b
abbrev gcr (c x:Src):AC:=.cond c (.seq (.reg false [⟨.mv x,none⟩] [(1,0)]) .ret) .skip
abbrev Vq:List (List Sh):=[[.a]]
abbrev ha2:List (List Sh):=[[.a,.a]]
abbrev ha3:List (List Sh):=[[.a,.a,.a]]
abbrev ha5:List (List Sh):=[[.a,.a,.a,.a,.a]]
abbrev qD:List (List Sh):=[[.a],[.a]]
abbrev hb3:List (List Sh):=[[.a],[.a],[.a]]
abbrev hb4:List (List Sh):=[[.a],[.a],[.a],[.a]]
abbrev go1 (c x:Src):GI:=⟨.pick c (.c (.bool true)) x,none⟩
abbrev ga1 (c x:Src):GI:=⟨.pick c x (.c (.bool false)),none⟩
abbrev gaf (c x:Src):GI:=⟨.pick c x (.c (.bool false)),some (n,false)⟩
abbrev om (x y:Src):GI:=⟨.bin .lss x y,none⟩
abbrev Hx (x y:Src):GI:=⟨.bin .eql x y,none⟩
abbrev qJ (x y:Src):GI:=⟨.bin .add x y,none⟩
abbrev Yd (x y:Src):GI:=⟨.bin .gtr x y,none⟩
abbrev sv (x y:Src):GI:=⟨.bin .neq x y,none⟩
abbrev ajF (x y:Src):GI:=⟨.bin .leq x y,none⟩
abbrev gce (c:Src)(n:Nat):AC:=.cond c .skip (.exit n)
abbrev i8 (n:Int):Src:=.c (.int .u8 n)
abbrev i3 (n:Int):Src:=.c (.int .i32 n)
abbrev gno (x:Src):GI:=⟨.un .not x,none⟩
abbrev r1 (a b:Nat):AC:=.reg false x [(a,b)]
abbrev r2 (a b:Nat):AC:=.reg true x [(a,b)]
abbrev re1:List GL:=[⟨1,none⟩]
def IZ:=∀(l:List au) (x:UInt8),((cn [x] l).length<=1099511627776)->T [.sl 1 (l.map D.str),.int .u8 (x.toNat:Nat)] (.str (cn [x] l))
def C249 (Z:Ctx):Prop:=IZ (aG Z 249)
def J6:=∀(l:List au),T [.sl 1 (l.map D.str)] (.bool (rising l))
def C815 (Z:Ctx):Prop:=J6 (aG Z 815)
end Go.Abs
