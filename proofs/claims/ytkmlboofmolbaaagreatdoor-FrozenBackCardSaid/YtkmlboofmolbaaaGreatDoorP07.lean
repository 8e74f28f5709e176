/- A part of the proofs. -/
import Derived.Test.YtkmlboofmolbaaaGreatDoorP06
set_option linter.all false
set_option maxRecDepth 60000
set_option maxHeartbeats 2000000
namespace Go.Abs
def Gn:av:=[97,112,112]
def jX (g:Gs):List iC×Gs:=if g.val 4=0 then([⟨cB[(g.aR.val 4).toNat]!,Dq⟩],g.aR.aR)else([],g.aR)
def B8 (g:Gs):List ko×Gs:=if g.val 4=0 then([⟨cB[(g.aR.val 4).toNat]!,j0[(g.aR.aR.val 8).toNat]!⟩],g.aR.aR.aR)else([],g.aR)
def jt (ks:List Int):Rec×Gs:=oV ⟨ks,0⟩ Gn bN[0]! 3
def yA (ks:List Int):gO:=⟨(jt ks).1,(jX (jt ks).2).1,(B8 (jX (jt ks).2).2).1⟩
def Xl:gO:=⟨⟨Gn,bN[0]!,[],[],[]⟩,[],[]⟩
def jx (ks:List Int):gO:=if(kr (yA ks)).1=0 then yA ks else Xl
def Ve (m:gO):Prop:=((kr m).1=0/\Xm m)/\m.ps.length<=1/\m.hs.length<=1
def vX (l:List gO):Prop:=∃m,l=[m]/\Ve m
def adw (g:Gs){nm:av}{v:bX}(most:Int)(hn:nm.length<=3)(hv:v.sm):gZ (oV g nm v most).1:=by
 refine⟨⟨by show nm.length<=_;omega,hv⟩,Ra nm g.aR _, ?_, ?_⟩
 .show ∀b∈(ez (nS nm g.aR (g.val (most+1)).toNat).2 nm).1,b.sm
  unfold ez;split
  .intro b hb;rw[aC.1 hb];exact⟨by have:=yF (nS nm g.aR (g.val (most+1)).toNat).2.aR nm;simp only;omega,Hx,show([]:av)∈Ls by decide⟩
  .intro b hb;cases hb
 .show(kZ (ez (nS nm g.aR (g.val (most+1)).toNat).2 nm).2 (nS nm g.aR (g.val (most+1)).toNat).1).1∈BO;unfold kZ;split
  .exact .tail _ (bW.2 ⟨_,aeS (Xt nm g.aR _),rfl⟩)
  .exact .head _
def acP:Ve Xl:=by
 refine⟨⟨by decide+kernel,⟨⟨aU,by simp only[Xl,bX.sm];decide⟩,(fun n h=>bZ),(fun n h=>bZ),.head _⟩,fun h hh=>by cases hh⟩,aU,aU⟩
def Q5 (ks:List Int):Xm (yA ks)/\(yA ks).ps.length<=1/\(yA ks).hs.length<=1:=by
 refine⟨⟨adw _ 3 aU (xS 0), ?_⟩, ?_, ?_⟩
 .show ∀h∈(B8 (jX (jt ks).2).2).1,j9 h.range
  unfold B8;split
  .intro h hh;rw[aC.1 hh];exact Hx
  .intro h hh;cases hh
 .show(jX (jt ks).2).1.length<=1;unfold jX;split<;>simp
 .show(B8 (jX (jt ks).2).2).1.length<=1;unfold B8;split<;>simp
def ZP (ks:List Int):vX [jx ks]:=by
 refine⟨_,rfl, ?_⟩;unfold jx;split
 .rename_i h;obtain⟨h1,h2,h3⟩:=Q5 ks;exact⟨⟨h,h1⟩,h2,h3⟩
 .exact acP
def ED (n:Nat)(k:Int)(i:Nat):Int:=((i:Int)*(1+k%3)+k)%(n:Int)
def kg (n:Nat)(k:Int):Nat->List Int
 |0=>[]
 |i+1=>if Tf (kg n k i) (ED n k i)=true then kg n k i else kg n k i++[ED n k i]
def xc (n:Nat)(k:Int):Nat:=min n (k%5).toNat
def jm (us:List cL)(l:List Int)(u:Nat):Int:=jY (atI l (u:Int)) 24
def EC (us:List cL)(l:List Int)(u:Nat):List Int:=kg us[u]!.cands.length (jm us l u) (xc us[u]!.cands.length (jm us l u))
def iJ (us:List cL)(l:List Int):List (List Int):=if l.length=0 then []else(List.range us.length).map (EC us l)
def Rr {n:Nat}(hn:0<n)(k:Int):∀i,(∀p∈kg n k i,0<=p/\p<(n:Int))/\(kg n k i).length<=i
 |0=>⟨fun p hp=>(by cases hp),aO _⟩
 |i+1=>by
  obtain⟨h1,h2⟩:=Rr hn k i;rw[kg];split
  .exact⟨h1,ae⟩
  .refine⟨fun p hp=>?_,Kb⟩;rcases List.mem_append.1 hp with hp|hp
   .exact h1 p hp
   .obtain rfl:=aC.1 hp;exact⟨Int.emod_nonneg _ ae,Int.emod_lt_of_pos _ ae⟩
def ac9 (us:List cL)(l:List Int)(u:Nat):(EC us l u).length<=4/\∀p∈EC us l u,0<=p/\p<(us[u]!.cands.length:Int):=by
 unfold EC;have hc:xc us[u]!.cands.length (jm us l u)<=4:=by unfold xc;omega
 rcases Nat.eq_zero_or_pos us[u]!.cands.length with h|h
 .rw[h,show xc 0 (jm us l u)=0 by unfold xc;omega];exact⟨by simp[kg],fun p hp=>by cases hp⟩
 .obtain⟨h1,h2⟩:=Rr h (jm us l u) (xc us[u]!.cands.length (jm us l u));exact⟨ae,h1⟩
def pI {us:List cL}(l:List Int):yc (dp us) (iJ us l):=by
 intro u hu;have hn:(dp us).needs.length=us.length:=by simp[dp,ep]
 have hul:u<us.length:=ae;have e1:(dp us).needs[u]!.length=us[u]!.cands.length:=by unfold dp ep;dsimp only;rw[List.take_length,fC hul];simp[eH]
 rw[e1];have key:cM (iJ us l) ((u:Nat):Int)=[]\/cM (iJ us l) ((u:Nat):Int)=EC us l u:=by
  unfold cM iJ;by_cases h0:l.length=0
  .rw[ak h0,ah aF];exact .inl rfl
  .rw[ah h0,ak fo,Int.toNat_natCast];exact .inr (by simp[hul])
 rcases key with h|h<;>rw[h]
 .exact⟨aF,fun p hp=>by cases hp⟩
 .obtain⟨h1,h2⟩:=ac9 us l u;exact⟨ae,h2⟩
def vy (us:List cL):Nat->Nat
 |0=>1
 |i+1=>if us[i]!.feat=[]then vy us i*(us[i]!.cands.length+1)else vy us i
def LP (us:List cL):Nat->Nat->Nat->Nat
 |0,_,n=>n
 |r+1,i,n=>if n<1000000 then LP us r (i+1) (if us[i]!.feat=[]then n*(us[i]!.cands.length+1)else n)else n
def CG (us:List cL):Nat:=LP us us.length 0 1
def tidV (w:bT)(c:List Int)(is:List Bool):List Int:=(List.range is.length).map fun i=>if is[i]! =true then c[i]! else-1
def vw (w:bT)(c:List Int)(is:List Bool)(l:List Want):List Bool:=l.foldl (fun is x=>is.set x.u.toNat (is[x.u.toNat]! ||kH w c x)) is
def wT (w:bT)(c:List Int)(is:List Bool)(l:List nH):List Bool:=l.foldl (vw w c) is
def Hb (w:bT)(c:List Int)(i:Nat)(is:List Bool):List Bool:=if is[i]! =true then wT w c is (aT w c i).needs else is
def iS (w:bT)(c:List Int):Nat->List Bool->List Bool
 |0,is=>is
 |i+1,is=>Hb w c i (iS w c i is)
def jV (w:bT)(c:List Int):Nat->List Bool->List Bool
 |0,is=>is
 |n+1,is=>iS w c c.length (jV w c n is)
def mG (c:List Int):List Bool:=(List.replicate c.length false).set 0 (decide (0<=c[0]!))
def ff (w:bT)(c:List Int):List Bool:=if eB w c=false then []else jV w c c.length (mG c)
def rh (w:bT)(c:List Int):List Int:=tidV w c (ff w c)
def dk (m:gO)(shop:List bJ)(e:Env)(os:List Int):bT×List Int×Bool:=
 if(gG [m] shop e []).2≠0\/5000<CG (gG [m] shop e []).1.us then((gG [m] shop e []).1,[],false)
 else match kv (gG [m] shop e []).1.us (iJ (gG [m] shop e []).1.us os)with
  |none=>((gG [m] shop e []).1,[],false)
  |some c=>((gG [m] shop e []).1,rh (gG [m] shop e []).1 c,true)
def acF {l:List Key}{k:Key}(i:Nat)(h:i<=l.length):i<=Et l k i/\Et l k i<=l.length:=by
 unfold Et;have:=(List.takeWhile_sublist (l:=l.drop i) (p:=fun x=>eP x k)).length_le;rw[jA]at this;omega
def CN (l:List Key)(k:Key):(r9 l k=l/\k∈l)\/((r9 l k).length=l.length+1/\∀x,x∈r9 l k↔x∈l\/x=k):=by
 have hk:=(acF (l:=l) (k:=k) 0 (Nat.zero_le _)).2;unfold r9;split
 .rename_i h;exact .inl ⟨rfl,h.2▸aq h.1⟩
 .refine .inr ⟨fo,fun x=>?_⟩;have:x∈l↔x∈l.take (Et l k 0)\/x∈l.drop (Et l k 0):=by
   rw[<-List.mem_append,List.take_append_drop]
  simp only[List.mem_append,aC];rw[this];constructor
  .rintro((h|h)|h)<;>simp[h]
  .rintro((h|h)|h)<;>simp[h]
def Hy (s:oL)(a:je):(∀x,x∈(mg s a).all↔x∈s.all\/x=a.k)/\(∀x,x∈s.todo->x∈(mg s a).todo)/\(∀x∈(mg s a).todo,x∈s.todo\/x=a.k)/\(∀x∈(mg s a).all,x∈s.all\/x∈(mg s a).todo)/\s.all.length<=(mg s a).all.length/\(mg s a).all.length+s.todo.length=s.all.length+(mg s a).todo.length:=by
 unfold mg;rcases CN s.all a.k with⟨h1,h2⟩|⟨h1,h2⟩
 .rw[ah (by rw[h1];omega)];exact⟨fun x=>⟨.inl,fun h=>h.elim id fun e=>e▸h2⟩,fun _ h=>h,fun _ h=>.inl h,fun _ h=>.inl h,aO _,rfl⟩
 .rw[ak ae];refine⟨h2,fun x h=>List.mem_append_left _ h,fun x h=>qO,fun x h=>?_,qQ,aky⟩;rcases(h2 x).1 h with h|rfl
  .exact .inl h
  .exact .inr aF
structure uv (s t:oL):Prop where
 all:∀x∈s.all,x∈t.all
 todo:∀x∈s.todo,x∈t.todo
 back:∀x∈t.all,x∈s.all\/x∈t.todo
 inn:∀x∈t.todo,x∈s.todo\/x∈t.all
 len:t.all.length+s.todo.length=s.all.length+t.todo.length
 grow:s.all.length<=t.all.length
def uv.My (s:oL):uv s s:=⟨fun _ h=>h,fun _ h=>h,fun _ h=>.inl h,fun _ h=>.inl h,rfl,aO _⟩
def uv.tr {a b c:oL}(h1:uv a b)(h2:uv b c):uv a c:=by
 refine⟨fun x h=>h2.all x (h1.all x h),fun x h=>h2.todo x (h1.todo x h),fun x h=>?_,fun x h=>?_,by have:=h1.len;have:=h2.len;omega,eX h1.grow h2.grow⟩
 .rcases h2.back x h with h|h
  .exact(h1.back x h).imp id (h2.todo x)
  .exact .inr h
 .rcases h2.inn x h with h|h
  .exact(h1.inn x h).imp id (h2.all x)
  .exact .inr h
def adt (s:oL)(a:je):uv s (mg s a)/\a.k∈(mg s a).all:=by
 obtain⟨h1,h2,h3,h4,h5,h6⟩:=Hy s a;exact⟨⟨fun x h=>(h1 x).2 (.inl h),h2,h4,fun x h=>(h3 x h).imp id fun e=>(h1 x).2 (.inr e),h6,h5⟩,(h1 _).2 (.inr rfl)⟩
def RC:∀(row:fJ) (s:oL),uv s (row.foldl mg s)/\∀a∈row,a.k∈(row.foldl mg s).all
 |[],s=>⟨.My s,fun a h=>bZ⟩
 |b::r,s=>by
  obtain⟨h1,h2⟩:=adt s b;obtain⟨h3,h4⟩:=RC r (mg s b);refine⟨h1.tr h3,fun a ha=>?_⟩;rcases bF.1 ha with rfl|ha
  .exact h3.all _ h2
  .exact h4 a ha
def RF:∀(l:List fJ) (s:oL),uv s (OO s l)/\∀row∈l,∀a∈row,a.k∈(OO s l).all
 |[],s=>⟨.My s,fun a h=>bZ⟩
 |b::r,s=>by
  obtain⟨h1,h2⟩:=RC b s;obtain⟨h3,h4⟩:=RF r (b.foldl mg s);refine⟨h1.tr h3,fun row hr=>?_⟩;rcases bF.1 hr with rfl|hr
  .exact fun a ha=>h3.all _ (h2 a ha)
  .exact h4 row hr
structure SL (y:cx)(s:oL):Prop where
 zero:fD∈s.all
 inn:∀x∈s.todo,x∈s.all
 done:∀x∈s.all,x∉s.todo->∀row∈cT y x,∀a∈row,a.k∈s.all
 len:s.todo.length<=s.all.length/\s.all.length<=48
def YJ (y:cx):SL y nq:=⟨by simp[nq],fun x h=>h,fun x h h2=>absurd h h2,by simp[nq]⟩
def RG (y:cx){s:oL}(h:0<s.todo.length):uv ⟨s.all,s.todo.drop 1⟩ (AM y s)/\∀row∈cT y s.todo[0]!,∀a∈row,a.k∈(AM y s).all:=RF _ _
def YN {y:cx}{s:oL}(hI:SL y s)(h:0<s.todo.length)(h48:(AM y s).all.length<=48):SL y (AM y s):=by
 obtain⟨h1,h2⟩:=RG y h;have hd:∀x∈s.todo.drop 1,x∈s.todo:=fun x hx=>List.mem_of_mem_drop hx
 have hc:s.todo=s.todo[0]! ::s.todo.drop 1:=by
  cases ht:s.todo with
  |nil=>rw[ht]at h;cases h
  |cons a r=>simp
 refine⟨h1.all _ hI.zero,fun x hx=>?_,fun x hx hn=>?_, ?_⟩
 .rcases h1.inn x hx with h3|h3
  .exact h1.all _ (hI.inn _ (hd x h3))
  .exact h3
 .rcases h1.back x hx with h3|h3
  .by_cases h4:x∈s.todo
   .rw[hc]at h4;rcases bF.1 h4 with h5|h5
    .rw[h5];exact h2
    .exact absurd (h1.todo _ h5) hn
   .exact fun row hr a ha=>h1.all _ (hI.done x h3 h4 row hr a ha)
  .exact absurd h3 hn
 .have:=h1.len;have:=hI.len;simp only[jA]at*
  omega
def RE {y:cx}:∀(n:Nat){s:oL}{all:List Key},SL y s->AL y n s=some all->SL y ⟨all,[]⟩
 |0,s,all,_,h=>by cases h
 |n+1,s,all,hI,h=>by
  rw[AL]at h;split at h
  .rename_i h0;obtain rfl:=aV h;have:s.todo=[]:=ZY.1 h0;exact⟨hI.zero,fun x h=>bZ,fun x hx _=>hI.done x hx (by rw[this];simp),⟨Nat.zero_le _,hI.len.2⟩⟩
  .split at h
   .cases h
   .rename_i h0 h1;exact RE n (YN hI ae ae) h
def sc {y:cx}{all:List Key}(h:mI y=some all):fD∈all/\all.length<=48/\∀k∈all,∀row∈cT y k,∀a∈row,a.k∈all:=by
 have:=RE 49 (YJ y) h;exact⟨this.zero,this.len.2,fun k hk=>this.done k hk aF⟩
def yI {all:List Key}{k:Key}(h:k∈all):0<=ec all k/\ec all k<all.length:=by
 unfold ec;rcases eO (f:=fun x=>decide (x=k)) (l:=all) (k:=0)with⟨_,h2⟩|⟨j,h1,h2,_⟩
 .obtain⟨i,hi,e⟩:=fQ h;have:=h2 i hi;rw[e]at this;simp at this
 .rw[h1];omega
def OH (all:List Key)(k:Key):ec all k=-1\/∃j:Nat,ec all k=(j:Int)/\j<all.length:=by
 unfold ec;rcases eO (f:=fun x=>decide (x=k)) (l:=all) (k:=0)with⟨h,_⟩|⟨j,h1,h2,_⟩
 .exact .inl h
 .exact .inr ⟨j,by rw[h1];omega,h2⟩
def Bz (r:Rec):Prop:=E9 r/\gZ r
def qG (s:av):eU s∈gN:=by
 unfold eU;refine aq ?_;rcases eO (f:=fun t=>decide (t=s)) (l:=j0) (k:=0)with⟨h,_⟩|⟨j,h,h2,_⟩
 .rw[h];decide
 .rw[h];have:j0.length=8:=rfl;have:gN.length=8:=rfl;omega
def MK:∀s∈gN,vH s=true:=by decide+kernel
def FL:∀s∈gN,(s.rel.length<=2/\s.pr.length<=2)/\(∀x∈s.rel,(x.f.v.pre.length<=3/\x.f.v.build.length<=3)/\x.t.v.pre.length<=3/\x.t.v.build.length<=3)/\∀x∈s.pr,(x.f.v.pre.length<=3/\x.f.v.build.length<=3)/\x.t.v.pre.length<=3/\x.t.v.build.length<=3:=by decide+kernel
def adE (s:av):vH (eU s)=true:=MK _ (qG s)
def adF (s:av):(eU s).sm:=by
 obtain⟨_,h1,h2⟩:=FL _ (qG s);constructor
 .intro x hx;obtain⟨a,b⟩:=h1 x hx;exact⟨⟨ae,ae⟩,ae,ae⟩
 .intro x hx;obtain⟨a,b⟩:=h2 x hx;exact⟨⟨ae,ae⟩,ae,ae⟩
def oc (x:cZ):0<(eV x).length/\(eV x).length<=x.feats.length+1:=by
 unfold eV;rw[cn,bg];split
 .split
  .rename_i h;rw[h];simp
  .rename_i h;have:=List.length_pos_iff.2 h;simp only[b9];omega
 .simp only[List.length_singleton];omega
def vW (n:bj):Prop:=(0<n.any.length/\n.any.length<=3)/\∀w∈n.any,w.feats.length<=6
def tc {n:bj}(h:vW n):(0<(iA n).length/\(iA n).length<=7)/\∀r∈iA n,0<r.length/\r.length<=3:=by
 obtain⟨⟨h0,h1⟩,h2⟩:=h;unfold iA;split
 .have h3:=oc n.any[0]!;have h4:=h2 _ (aq h0);rw[bg];refine⟨ae,fun r hr=>?_⟩;obtain⟨k,_,rfl⟩:=bW.1 hr;simp
 .refine⟨aF,fun r hr=>?_⟩;rw[aC.1 hr,bg];exact⟨h0,h1⟩
def ic {α β:Type}{f:α->List β}{B:Nat}:∀{l:List α},(∀x∈l,(f x).length<=B)->(l.flatMap f).length<=B*l.length
 |[],_=>aF
 |a::r,h=>by
  have h1:=h a (.head _);have h2:=ic (f:=f) (B:=B) (l:=r) fun x hx=>h x (.tail _ hx)
  rw[List.flatMap_cons,cn,bD,Nat.mul_succ];omega
def gh {r:Rec}(h:Bz r):r.needs.length<=8/\∀n∈r.needs,vW n:=by
 have hf:=sQ h;refine⟨hf.ns,fun n hn=>?_⟩;obtain⟨⟨_,⟨h1,h2⟩,hp⟩,_⟩:=h;have h0:(lz r).1=0:=by grind [ea]
 obtain⟨i,hi,rfl⟩:=fQ hn;have h3:=qj h0 i hi;have h4:=(hf.n _ hn).1;refine⟨⟨?_,h4.1⟩,fun w hw=>(h4.2 w hw).2.1⟩;unfold js at h3;split at h3
 .cases h3
 .omega
def LF {e:Env}{o:av}{n:bj}(h:vW n):(AI e o n).length<=7/\∀r∈AI e o n,0<r.length/\r.length<=3:=by
 have:=tc h;unfold AI;split
 .exact⟨this.1.2,this.2⟩
 .exact⟨aF,fun r hr=>by cases hr⟩
def xa {ns:List bj}{e:Env}{o:av}(h:∀n∈ns,vW n):(qx ns e o).length<=7*ns.length/\∀r∈qx ns e o,0<r.length/\r.length<=3:=by
 refine⟨ic fun n hn=>(LF (h n hn)).1,fun r hr=>?_⟩;obtain⟨n,hn,hr⟩:=List.mem_flatMap.1 hr;exact(LF (h n hn)).2 r hr
def Fx {e:Env}{nm ft:av}{n:bj}(h:vW n):(qX e nm ft n).length<=8/\∀r∈qX e nm ft n,0<r.length/\r.length<=3:=by
 have:=tc h;unfold qX;split
 .rw[cn,List.length_singleton];split
  .exact⟨aF,fun r hr=>by rw[qM]at hr;rw[aC.1 hr];simp⟩
  .refine⟨ae,fun r hr=>?_⟩;rcases List.mem_append.1 hr with hr|hr
   .exact this.2 r hr
   .rw[aC.1 hr];simp
 .exact⟨aF,fun r hr=>by cases hr⟩
def yK {ns:List bj}{e:Env}{nm ft:av}(h:∀n∈ns,vW n):(iN ns e nm ft).length<=8*ns.length/\∀r∈iN ns e nm ft,0<r.length/\r.length<=3:=by
 refine⟨ic fun n hn=>(Fx (h n hn)).1,fun r hr=>?_⟩;obtain⟨n,hn,hr⟩:=List.mem_flatMap.1 hr;exact(Fx (h n hn)).2 r hr
def sR {r:Rec}{e:Env}{s:av}(h:Bz r):(lZ r e s).length<=64/\∀w∈lZ r e s,0<w.length/\w.length<=3:=by
 obtain⟨h1,h2⟩:=gh h;unfold lZ;split
 .exact⟨aF,fun w hw=>by rw[aC.1 hw];simp⟩
 .split
  .have:=xa (e:=e) (o:=(bI s).2.1) h2;exact⟨ae,this.2⟩
  .have:=yK (e:=e) (nm:=(bI s).2.1) (ft:=(bI s).2.2) h2;exact⟨ae,this.2⟩
def wX {r:Rec}(h:Bz r)(ft:av):(uC r.feats ft).length<=6/\∀s∈uC r.feats ft,qW s:=by
 have hf:=sQ h;unfold uC;split
 .exact⟨aF,fun s hs=>by cases hs⟩
 .rename_i h0;have hj:(findF r.feats ft 0).toNat<r.feats.length:=by
   unfold findF at h0⊢;rw[dI]at h0⊢;cases h1:r.feats.findIdx? (fun x=>decide (x.name=ft))with
   |none=>rw[h1]at h0;exact absurd aU h0
   |some k=>
    have:=(List.findIdx?_eq_some_iff_getElem.1 h1).1;simp only[cD,Int.toNat_natCast];exact this
  have hm:=aq (l:=r.feats) hj;exact⟨(hf.f _ hm).2,fun s hs=>jh.it h.2.2.2.2 _ hm _ hs⟩
def lA {r:Rec}{e:Env}{ft:av}(h:Bz r):(cH r e ft).length<=385/\∀w∈cH r e ft,0<w.length/\w.length<=3:=by
 obtain⟨h1,h2⟩:=gh h;unfold cH;split
 .have:=xa (e:=e) (o:=[]) h2;exact⟨ae,this.2⟩
 .have h3:=ic (f:=lZ r e) (B:=64) (l:=uC r.feats ft) fun s _=>(sR h).1
  have h4:=(wX h ft).1;refine⟨Kb,fun w hw=>?_⟩;rcases List.mem_append.1 hw with hw|hw
  .rw[aC.1 hw];simp
  .obtain⟨s,_,hs⟩:=List.mem_flatMap.1 hw;exact(sR h).2 w hs
def HW {shop:List bJ}(h:eJ shop=true){i:Nat}(hi:i<shop.length):gQ shop[i]! =true:=by
 simp only[eJ,aD,bw,AP]at h;exact(h.2 i (Nat.zero_le _) hi).1
def RW {s:bJ}(h:gQ s=true):s.es.length<=64:=by
 simp only[gQ,aD,aW]at h;exact h.1.2
def adK {s:bJ}(h:gQ s=true)(hs:∀x∈s.es,gZ x.r):∀x∈s.es,Bz x.r:=by
 intro x hx;obtain⟨i,hi,rfl⟩:=fQ hx;simp only[gQ,aD,bw,rH,aW]at h;have h1:=(h.2 i (Nat.zero_le _) hi).1.1;refine⟨lS ?_,hs _ hx⟩;unfold fh at h1;split at h1
 .rename_i h2;exact absurd h1 h2
 .rename_i h2;exact Classical.not_not.1 h2
def Zm (l:List bJ)(nm:av):mi l nm=-1\/∃j:Nat,mi l nm=(j:Int)/\j<l.length:=by
 unfold mi;rcases eO (f:=Fb nm) (l:=l) (k:=0)with⟨h,_⟩|⟨j,h1,h2,_⟩
 .exact .inl h
 .exact .inr ⟨j,by rw[h1];omega,h2⟩
def WB (l:List bJ)(nm:av):gu (B6 nm) l 0=-1\/∃j:Nat,gu (B6 nm) l 0=(j:Int)/\j<l.length:=by
 rcases eO (f:=B6 nm) (l:=l) (k:=0)with⟨h,_⟩|⟨j,h1,h2,_⟩
 .exact .inl h
 .exact .inr ⟨j,by rw[h1];omega,h2⟩
def qy (l:List gO)(nm:av):lE l nm=-1\/∃j:Nat,lE l nm=(j:Int)/\j<l.length:=by
 unfold lE;rcases eO (f:=isM nm) (l:=l) (k:=0)with⟨h,_⟩|⟨j,h1,h2,_⟩
 .exact .inl h
 .exact .inr ⟨j,by rw[h1];omega,h2⟩
def pz {shop:List bJ}{pins:List iC}{nm:av}(h:(fS shop pins nm).2=0):eJ shop=true/\∃j:Nat,(fS shop pins nm).1=(j:Int)/\j<shop.length:=by
 unfold fS at*
 split at h
 .cases h
 .rename_i h1;refine⟨by simpa using h1, ?_⟩;rw[ah h1];split at h
  .cases h
  .rename_i h2;rw[ah h2];split at h
   .rename_i h3;rw[ak h3];split at h
    .cases h
    .rename_i h4;rw[ah h4];exact(Zm _ _).resolve_left ae
   .rename_i h3;rw[ah h3];split at h
    .cases h
    .rename_i h4;rw[ah h4];exact(WB _ _).resolve_left ae
def WW (es:List ki)(l:List Int)(i:Nat):(GU es l i).length=l.length+1:=by
 unfold GU;simp only[cn,ek,jA,bD,b9];omega
def K4 {es:List ki}{l:List Int}{i:Nat}{x:Int}(h:x∈GU es l i):x∈l\/x=(i:Int):=by
 unfold GU at h;simp only[List.mem_append,aC]at h;rcases h with(h|h)|h
 .exact .inl (D6 h)
 .exact .inr h
 .exact .inl (List.mem_of_mem_drop h)
def wM (es:List ki)(nm:av):∀i,(eA es nm i).length<=i/\∀x∈eA es nm i,0<=x/\x<(i:Int)
 |0=>⟨aO _,fun x h=>bZ⟩
 |i+1=>by
  obtain⟨h1,h2⟩:=wM es nm i;rw[eA];split
  .refine⟨by rw[WW];omega,fun x hx=>?_⟩;rcases K4 hx with h|h
   .have:=h2 x h;omega
   .omega
  .exact⟨ae,fun x hx=>by have:=h2 x hx;omega⟩
def rR (s:bJ)(nm:av):(j7 s nm).length<=64/\∀x∈j7 s nm,0<=x/\x<(s.es.length:Int):=by
 unfold j7;cases h:gQ s with
 |false=>exact⟨aF,fun x hx=>by simp at hx⟩
 |true=>
  rw[ah aF];have h1:=RW h;obtain⟨h2,h3⟩:=wM s.es nm s.es.length;exact⟨ae,h3⟩
def pE {y:cx}{nm:av}{a:Nat}:∀(l:List Int),(iM y nm a l).length<=l.length/\∀x∈iM y nm a l,(∃i∈l,x.r=y.shop[a]!.es[i.toNat]!.r)/\x.sh=(a:Int)
 |[]=>⟨aO _,fun x h=>bZ⟩
 |i::r=>by
  obtain⟨h1,h2⟩:=pE (y:=y) (nm:=nm) (a:=a) r;rw[iM];refine⟨?_,fun x hx=>?_⟩
  .rw[cn,bD];split<;>simp<;>omega
  .rcases List.mem_append.1 hx with hx|hx
   .split at hx
    .rw[aC.1 hx];exact⟨⟨i,.head _,rfl⟩,rfl⟩
    .cases hx
   .obtain⟨⟨j,h3,h4⟩,h5⟩:=h2 x hx;exact⟨⟨j,.tail _ h3,h4⟩,h5⟩
def pe (y:cx):Prop:=(vX y.l/\ja y.shop)/\y.keeps.length<=1000/\(∀k∈y.keeps,k.v.sm)/\y.pins.length<=1000
def Ba {m:gO}(h:Ve m):Bz m.r:=by
 obtain⟨⟨h1,h2⟩,_⟩:=h;refine⟨lS ?_,h2.1⟩;unfold kr at h1;split at h1
 .rename_i h3;exact absurd h1 h3
 .rename_i h3;exact Classical.not_not.1 h3
def look_ok {y:cx}(h:pe y)(nm:av):(dE y nm).length<=64/\∀x∈dE y nm,Bz x.r/\(x.sh=-1\/∃j:Nat,x.sh=(j:Int)/\j<y.shop.length):=by
 obtain⟨⟨⟨m,hm,hM⟩,hs⟩,_⟩:=h;unfold dE;split
 .rename_i h0;refine⟨aF,fun x hx=>?_⟩;rw[aC.1 hx];refine⟨?_,.inl rfl⟩;obtain⟨j,hj,hjl⟩:=(qy y.l nm).resolve_left ae;rw[hj,Int.toNat_natCast];have:=aq hjl;rw[hm]at this⊢;rw[aC.1 this];exact Ba hM
 .split
  .exact⟨aF,fun x hx=>by cases hx⟩
  .rename_i h1;have h1:(cE y.shop y.pins nm).2.2=0:=Classical.not_not.1 h1;have h2:(fS y.shop y.pins nm).2=0:=by
    unfold cE at h1;split at h1
    .rename_i h3;exact absurd h1 h3
    .rename_i h3;exact Classical.not_not.1 h3
   obtain⟨hB,j,hj,hjl⟩:=pz h2;have e1:cE y.shop y.pins nm=((j:Int),j7 y.shop[j]! nm,0):=by
    unfold cE;rw[ah (fun h=>h h2),hj,Int.toNat_natCast]
   rw[e1];simp only[Int.toNat_natCast];obtain⟨h3,h4⟩:=rR y.shop[j]! nm;obtain⟨h5,h6⟩:=pE (y:=y) (nm:=nm) (a:=j) (j7 y.shop[j]! nm);refine⟨ae,fun x hx=>?_⟩;obtain⟨⟨i,hi,e⟩,hsh⟩:=h6 x hx;have:=h4 i hi;refine⟨?_,.inr ⟨j,hsh,hjl⟩⟩;rw[e];exact adK (HW hB hjl) (hs _ (aq hjl)) _ (aq ae)
def wY {y:cx}(h:pe y)(k:Key):(eF y k).length<=64/\∀x∈eF y k,Bz x.r/\(x.sh=-1\/∃j:Nat,x.sh=(j:Int)/\j<y.shop.length):=by
 obtain⟨h1,h2⟩:=look_ok h k.n;exact⟨eX (List.length_filter_le _ _) h1,fun x hx=>h2 x (List.mem_filter.1 hx).1⟩
def HT {y:cx}(h:pe y):(eC y.l).length=1/\∀r∈eC y.l,r.length=1:=by
 obtain⟨⟨⟨m,hm,hM⟩,hs⟩,_⟩:=h;rw[hm];exact⟨rfl,fun r hr=>by rw[aC.1 hr];rfl⟩
def Y9 {y:cx}(h:pe y)(k:Key):(cT y k).length<=25000/\∀r∈cT y k,0<r.length/\r.length<=3:=by
 unfold cT;split
 .obtain⟨h1,h2⟩:=HT h;exact⟨ae,fun r hr=>by have:=h2 r hr;omega⟩
 .obtain⟨h1,h2⟩:=wY h k;have h3:=ic (f:=fun x=>cH x.r y.e k.f) (B:=385) (l:=eF y k) fun x hx=>(lA (h2 x hx).1).1
  refine⟨ae,fun r hr=>?_⟩;obtain⟨x,hx,hr⟩:=List.mem_flatMap.1 hr;exact(lA (h2 x hx).1).2 r hr
def BA (v:bX)(l:List fJ):Prop:=∀r∈l,∀a∈r,a.s∈gN\/a.s=dz v
def MI {v:bX}{a b:List fJ}(h1:BA v a)(h2:BA v b):BA v (a++b):=fun r hr=>(List.mem_append.1 hr).elim (h1 r) (h2 r)
def Dl (v:bX):BA v []:=fun r hr=>by cases hr
def yV {α:Type}{v:bX}{f:α->List fJ}{l:List α}(h:∀x∈l,BA v (f x)):BA v (l.flatMap f):=fun r hr=>by
 obtain⟨x,hx,hr⟩:=List.mem_flatMap.1 hr;exact h x hx r hr
def Dm {v:bX}{a:je}(h:a.s∈gN\/a.s=dz v):BA v [[a]]:=fun r hr b hb=>by
 rw[aC.1 hr]at hb;rw[aC.1 hb];exact h
def FJ (v:bX)(n:bj):BA v (iA n):=by
 unfold iA;split
 .intro r hr a ha;obtain⟨k,_,rfl⟩:=bW.1 hr;rw[aC.1 ha];exact .inl (qG _)
 .intro r hr a ha;rw[aC.1 hr]at ha;obtain⟨w,_,rfl⟩:=bW.1 ha;exact .inl (qG _)
def LG (v:bX)(ns:List bj)(e:Env)(o:av):BA v (qx ns e o):=yV fun n _=>by
 unfold AI;split
 .exact FJ v n
 .exact Dl v
def TQ (v:bX)(ns:List bj)(e:Env)(nm ft:av):BA v (iN ns e nm ft):=yV fun n _=>by
 unfold qX;split
 .refine MI ?_ (Dm (.inl (qG _)));split
  .exact Dl v
  .exact FJ v n
 .exact Dl v
def Cw (r:Rec)(e:Env)(ft:av):BA r.v (cH r e ft):=by
 unfold cH;split
 .exact LG r.v _ _ _
 .refine MI (Dm (.inr rfl)) (yV fun s _=>?_);unfold lZ;split
  .exact Dm (.inr rfl)
  .split
   .exact LG r.v _ _ _
   .exact TQ r.v _ _ _ _
def FK {s:cr}{v:bX}(hv:v.sm)(h:s∈gN\/s=dz v):s.sm:=by
 rcases h with h|rfl
 .obtain⟨_,h1,h2⟩:=FL _ h;constructor
  .intro x hx;obtain⟨a,b⟩:=h1 x hx;exact⟨⟨ae,ae⟩,ae,ae⟩
  .intro x hx;obtain⟨a,b⟩:=h2 x hx;exact⟨⟨ae,ae⟩,ae,ae⟩
 .exact E4 hv
def pP {all:List Key}{l:List fJ}{r:nH}(h:r∈dy all l):∃q∈l,r=q.map fun a=>⟨ec all a.k,a.s⟩:=by
 obtain⟨q,hq,rfl⟩:=bW.1 h;exact⟨q,hq,rfl⟩
def CndW (n:Nat)(c:en):Prop:=(c.sm/\c.needs.length<=24/\c.bars.length<=24)/\(∀r∈c.needs,(0<r.length/\r.length<=3)/\∀w∈r,0<=w.u/\w.u<(n:Int))/\∀w∈c.bars,0<=w.u/\w.u<(n:Int)
def EU {all:List Key}{r:Rec}{e:Env}{w:Want}(h:w∈we all r e):(0<=w.u/\w.u<(all.length:Int))/\w.s∈gN:=by
 obtain⟨b,_,hb⟩:=List.mem_flatMap.1 h;unfold qb at hb;split at hb
 .rename_i hc;rw[aC.1 hb];refine⟨⟨hc.1, ?_⟩,qG _⟩;obtain⟨j,hj,hjl⟩:=(OH all ⟨b.name,[]⟩).resolve_left ae;show ec all ⟨b.name,[]⟩<_;omega
 .cases hb
def Qx {y:cx}{all:List Key}{k:Key}{x:ub}(hx:Bz x.r)(hcl:∀row∈cH x.r y.e k.f,∀a∈row,a.k∈all)(hw:oe (dM y all k x)=false):CndW all.length (dM y all k x):=by
 have h1:=Cw x.r y.e k.f;have h2:=(lA (e:=y.e) (ft:=k.f) hx).2;have hv:x.r.v.sm:=hx.2.1.2;simp only[oe,eW,cv]at hw;refine⟨⟨⟨hv, ?_, ?_⟩,ae,ae⟩, ?_, ?_⟩
 .intro r hr w hwr;obtain⟨q,hq,rfl⟩:=pP hr;obtain⟨a,ha,rfl⟩:=bW.1 hwr;exact FK hv (h1 q hq a ha)
 .intro w hwb;have hwb:w∈(if k.f=[]then we all x.r y.e else []):=hwb;split at hwb
  .exact FK hv (.inl (EU hwb).2)
  .cases hwb
 .intro r hr;obtain⟨q,hq,rfl⟩:=pP hr;rw[bg];refine⟨h2 q hq,fun w hwr=>?_⟩;obtain⟨a,ha,rfl⟩:=bW.1 hwr;exact yI (hcl q hq a ha)
 .intro w hwb;have hwb:w∈(if k.f=[]then we all x.r y.e else []):=hwb;split at hwb
  .exact(EU hwb).1
  .cases hwb
def aiZ (y:cx)(k:Key):(eF y k).length<=(dE y k.n).length:=List.length_filter_le _ _
def yf {y:cx}{all:List Key}{k:Key}(hy:pe y)(hcl:∀row∈cT y k,∀a∈row,a.k∈all)(h:(eh y all k).2=true):(eh y all k).1.length<=16/\∀c∈(eh y all k).1,CndW all.length c:=by
 unfold eh at*
 by_cases hk:k=fD
 .rw[ak hk];refine⟨aF,fun c hc=>?_⟩;rw[aC.1 hc];obtain⟨h1,h2⟩:=HT hy;have hrow:cT y k=eC y.l:=by unfold cT;rw[ak hk]
  rw[hrow]at hcl;obtain⟨⟨⟨m,hm,hM⟩,_⟩,_⟩:=hy;refine⟨⟨⟨Gd, ?_,fun w hw=>by cases hw⟩,by simp[dy,h1],aF⟩, ?_,fun w hw=>by cases hw⟩
  .intro r hr w hw;obtain⟨q,hq,rfl⟩:=pP hr;rw[hm]at hq;rw[aC.1 hq]at hw;obtain⟨a,ha,rfl⟩:=bW.1 hw;rw[aC.1 ha];exact E4 (Ba hM).2.1.2
  .intro r hr;obtain⟨q,hq,rfl⟩:=pP hr;have:=h2 q hq;rw[bg];refine⟨ae,fun w hw=>?_⟩;obtain⟨a,ha,rfl⟩:=bW.1 hw;exact yI (hcl q hq a ha)
 .rw[ah hk]at h⊢;have hrow:cT y k=(eF y k).flatMap fun x=>cH x.r y.e k.f:=by unfold cT;rw[ah hk]
  rw[hrow]at hcl;split at h
  .cases h
  .rename_i hw;rw[ah hw];have hle:(dE y k.n).length<=16:=by simpa using h
   have:=aiZ y k;refine⟨lL,fun c hc=>?_⟩;have hcw:oe c=false:=by
    cases hq:oe c with
    |false=>rfl
    |true=>exact absurd (List.any_eq_true.2 ⟨c,hc,hq⟩) hw
   obtain⟨x,hx,rfl⟩:=bW.1 hc;exact Qx ((wY hy k).2 x hx).1 (fun row hr a ha=>hcl row (List.mem_flatMap.2 ⟨x,hx,hr⟩) a ha) hcw
def Sa {y:cx}{all:List Key}:∀n,n<=all.length->(nw y all n).2=true->(nw y all n).1=(all.take n).map (rj y all)/\∀i,i<n->(eh y all all[i]!).2=true
 |0,_,_=>⟨rfl,fun i h=>absurd h (Nat.not_lt_zero i)⟩
 |n+1,hn,h=>by
  rw[nw]at h⊢;cases h0:(nw y all n).2 with
  |false=>rw[h0,ah aF]at h;rw[h0]at h;cases h
  |true=>
   rw[h0,ak rfl]at h;rw[ak rfl];obtain⟨h1,h2⟩:=Sa n ae h0;have e:all.take (n+1)=all.take n++[all[n]!]:=by
    rw[List.take_add_one,List.getElem?_eq_getElem ae];simp[show n<all.length by omega]
   refine⟨by rw[h1,e,List.map_append];rfl,fun i hi=>?_⟩;rcases dQ i n with h3|h3
   .exact h2 i h3
   .obtain rfl:i=n:=ae;exact h
structure Kh (w:bT):Prop where
 len:0<w.us.length/\w.us.length<=48
 u:∀u∈w.us,u.cands.length<=16/\∀c∈u.cands,CndW w.us.length c
def sA {y:cx}(hy:pe y)(h:(ei y).2=true):∃all,mI y=some all/\(ei y).1.us=all.map (rj y all)/\(∀i,i<all.length->(eh y all all[i]!).2=true)/\Kh (ei y).1:=by
 unfold ei at*
 cases hr:mI y with
 |none=>rw[hr]at h;cases h
 |some all=>
  rw[hr]at h;obtain⟨h1,h2⟩:=Sa all.length (aO _) h;rw[List.take_length]at h1;obtain⟨r1,r2,r3⟩:=sc hr;refine⟨all,rfl,h1,h2, ?_⟩;have hl:(nw y all all.length).1.length=all.length:=by rw[h1,bg]
  refine⟨by show 0<(nw y all all.length).1.length/\(nw y all all.length).1.length<=48;rw[hl];exact⟨List.length_pos_of_mem r1,r2⟩, ?_⟩;show ∀u∈(nw y all all.length).1,u.cands.length<=16/\∀c∈u.cands,CndW (nw y all all.length).1.length c
  intro u hu;rw[h1]at hu;obtain⟨k,hk,rfl⟩:=bW.1 hu;rw[hl];obtain⟨i,hi,rfl⟩:=fQ hk;exact yf hy (r3 _ hk) (h2 i hi)
theorem Kh.sm {w:bT}(h:Kh w):w.sm:=fun u hu=>⟨(h.u u hu).1,fun c hc=>((h.u u hu).2 c hc).1.1⟩
def Kh.few {w:bT}(h:Kh w):Few w.us:=fun u hu c hc=>by
 obtain⟨⟨_,h1,h2⟩,h3,_⟩:=(h.u u hu).2 c hc;exact⟨ae,ae,fun r hr=>by have:=(h3 r hr).1;omega⟩
def Kh.msk {w:bT}(h:Kh w):vV (dp w.us):=by
 obtain⟨hpos,hU⟩:=h;have hn:(dp w.us).needs.length=w.us.length:=by simp[dp,ep]
 have hb:(dp w.us).bars.length=w.us.length:=by simp[dp,jq]
 have hfu:(dp w.us).full.length=w.us.length:=by simp[dp,iI]
 refine⟨⟨ae,ae,ae,ae⟩,fun u hu=>?_⟩;rw[hn]at hu⊢;have e1:(dp w.us).needs[u]! =eH w.us w.us[u]!.cands:=by unfold dp ep;dsimp only;rw[List.take_length,fC hu]
 have e2:(dp w.us).bars[u]! =jr w.us w.us[u]!.cands:=by unfold dp jq;dsimp only;rw[List.take_length,fC hu]
 obtain⟨h16,hC⟩:=hU _ (aq hu);rw[e1,e2];refine⟨⟨by simp[eH,jr],by simpa[eH]using h16⟩,fun c hc r hr=>?_,fun r hr x hx=>?_⟩
 .unfold eH at hc;obtain⟨cd,h1,rfl⟩:=bW.1 hc;unfold kM at hr;obtain⟨r0,h2,rfl⟩:=bW.1 hr;obtain⟨h3,h4⟩:=(hC cd h1).2.1 r0 h2;refine⟨by rw[show(er w.us r0).length=r0.length by simp[er]];omega,fun x hx=>?_⟩;unfold er at hx;obtain⟨y,h5,rfl⟩:=bW.1 hx;exact h4 y h5
 .unfold jr at hr;obtain⟨cd,h1,rfl⟩:=bW.1 hr;unfold er at hx;obtain⟨y,h5,rfl⟩:=bW.1 hx;exact(hC cd h1).2.2 y h5
end Go.Abs
section
namespace Go.Abs
def eL (ns:List av)(nm:av):List av:=if nm∈ns then ns else ns++[nm]
def jk (ns:List av)(k:Key):List av:=if k=fD then ns else eL ns k.n
def sb (y:cx):Nat->oL->List av->List av
 |0,_,ns=>ns
 |n+1,s,ns=>if s.todo.length=0 then ns else if 48<(AM y s).all.length then jk ns s.todo[0]! else sb y n (AM y s) (jk ns s.todo[0]!)
def ZJ (all:List Key)(ns:List av):Nat->List av
 |0=>ns
 |i+1=>jk (ZJ all ns i) all[i]!
def Kv (ns:List av)(nm:av):(eL ns nm).length<=ns.length+1:=by
 unfold eL;split
 .omega
 .rw[cn,List.length_singleton];exact aO _
def Ci (ns:List av)(k:Key):(jk ns k).length<=ns.length+1:=by
 unfold jk;split
 .omega
 .exact Kv _ _
def LY (y:cx):∀(n:Nat) (s:oL) (ns:List av),(sb y n s ns).length<=ns.length+n
 |0,s,ns=>aO _
 |n+1,s,ns=>by
  have h1:=Ci ns s.todo[0]!;rw[sb];split
  .omega
  .split
   .omega
   .have:=LY y n (AM y s) (jk ns s.todo[0]!);omega
def M9 (all:List Key)(ns:List av):∀i,(ZJ all ns i).length<=ns.length+i
 |0=>aO _
 |i+1=>by
  have h1:=Ci (ZJ all ns i) all[i]!;have h2:=M9 all ns i;rw[ZJ];omega
def de (y:cx)(ns:List av):List D:=ns.map fun nm=>uj (dE y nm)
def eG (a b n:Nat):D:=.agg [.own a 1 0 n,.own b 1 0 n]
def Bw (y:cx)(lf ln lr:Nat)(ns:List av)(m:List (Nat×bd)):Prop:=look m lf=some (.buf 2 [eG ln lr ns.length])/\look m ln=some (.buf 1 (ns.map D.str))/\look m lr=some (.buf 1 (de y ns))
def Nr (Y:Ctx)(n:Nat)(y:cx)(aEc:D->List D)(ns ns':List av)(V:D):Prop:=∀(nx lf ln lr:Nat) (m:List (Nat×bd)) (K:D->St->Prop),lf<nx->ln<nx->lr<nx->ln≠lr->Bw y lf ln lr ns m->
 K V ⟨nx+2,(nx,.buf 1 (ns'.map D.str))::(nx+1,.buf 1 (de y ns'))::cO (cW (cW m ln) lr) lf (.buf 2 [eG nx (nx+1) ns'.length])⟩->Y.tr n (aEc (.ptr lf 2 0 0)) ⟨nx,m⟩ K
def Kj (y:cx)(ns':List av)(V:D):D->List (Nat×bd)->Prop:=fun d m=>d=V/\∃j k:Nat,(0<j/\0<k/\j≠k)/\Bw y 0 j k ns' m
def iZ (y:cx)(ns:List av):aL (de y ns)=true:=b7 (fun _=>rfl) _
def H0 (ns:List av):aL (ns.map D.str)=true:=b7 (fun _=>rfl) _
def yS (y:cx)(ns:List av):(de y ns).length=ns.length:=bg ..
def ad5 (aEc:D->List D):Prop:=∀σ l l',mK 0 σ l=some l'->(aEc (.ptr l 2 0 0)).length=(aEc (.ptr l' 2 0 0)).length/\∀i,i<(aEc (.ptr l 2 0 0)).length->RnD 0 σ ((aEc (.ptr l 2 0 0)).getD i .any) ((aEc (.ptr l' 2 0 0)).getD i .any)
end Go.Abs
namespace Go.Abs
def fdR (y:cx)(ns:List av):D:=.ref 2 [.agg [.sl 1 (ns.map D.str),.sl 1 (de y ns)]] 0 0
end Go.Abs
end
namespace Go.Abs
def iPin (a b:iC):iC.D a=iC.D b↔a=b:=by cases a;cases b;simp[iC.D]
def WM (a b:List iC):a.map iC.D=b.map iC.D↔a=b:=kF iPin a b
def aeG (a b:ko):ko.D a=ko.D b↔a=b:=by cases a;cases b;simp[ko.D]
def WI (a b:List ko):a.map ko.D=b.map ko.D↔a=b:=kF aeG a b
def iMan (a b:gO):gO.D a=gO.D b↔a=b:=by
 obtain⟨⟨n,⟨v1,v2,v3,v4,v5⟩,x,y,z⟩,p,q⟩:=a;obtain⟨⟨n',⟨w1,w2,w3,w4,w5⟩,x',y',z'⟩,p',q'⟩:=b;simp[gO.D,Cb,K1,Ca,WM,WI,and_assoc]
def aeI (a b:List gO):a.map gO.D=b.map gO.D↔a=b:=kF iMan a b
def aeH (a b:Key):Key.D a=Key.D b↔a=b:=by cases a;cases b;simp[Key.D]
def iKeys (a b:List Key):a.map Key.D=b.map Key.D↔a=b:=kF aeH a b
def iKp (a b:Kp):Kp.D a=Kp.D b↔a=b:=by
 obtain⟨n,⟨v1,v2,v3,v4,v5⟩⟩:=a;obtain⟨n',⟨w1,w2,w3,w4,w5⟩⟩:=b;simp[Kp.D,and_assoc]
def iKps (a b:List Kp):a.map Kp.D=b.map Kp.D↔a=b:=kF iKp a b
def iAsd (a b:je):je.D a=je.D b↔a=b:=by
 obtain⟨⟨n,f⟩,⟨x,y⟩⟩:=a;obtain⟨⟨n',f'⟩,⟨x',y'⟩⟩:=b;simp[je.D,Cc,and_assoc]
def aeE (a b:fJ):dL a=dL b↔a=b:=by simp only[dL,D.sl.injEq,ee];exact kF iAsd a b
def aib (a b:List fJ):a.map dL=b.map dL↔a=b:=kF aeE a b
def iYrd (y y':cx)(f f':D):cx.D y f=cx.D y' f'↔y=y'/\f=f':=by
 obtain⟨l,s,⟨a,b,c⟩,k,p⟩:=y;obtain⟨l',s',⟨a',b',c'⟩,k',p'⟩:=y';simp[cx.D,aeI,WN,iKps,WM,and_assoc]
def VU {A:RT->Prop}(h:A (fun ds d=>A fun ds' d'=>ds'=ds->d=d'):=by
 (repeat' first|apply And.intro|intro _)
 all_goals rename_i e
 all_goals (try simp only[sE,D.str.injEq,D.int.injEq,D.bool.injEq,D.sl.injEq,D.ref.injEq,D.agg.injEq,D.fn.injEq,WQ,Tj,iByt,iVer,WT,N0,WL,Cb,iBar,K1,WH,Ca,iRec,WG,iEtr,iShf,WN,iEnv,iLkd,WK,iLck,iCut,aeF,WO,Cc,iSet,WS,GO,WU,N1,iCnd,WE,iUnt,WR,iWld,iKey,iGs,aeJ,iTrm,aeK,iTr,iTrL,iMsk,iAsk,WJ,iMan,aeI,iPin,WM,aeG,WI,aeH,iKeys,iKps,iAsd,aeE,aib,iYrd,List.map_cons,List.map_nil,iU8,oZ,iNat,dx,ee,reduceCtorEq,iy,ix]at e)
 all_goals first|rfl|(simp only[e];done)|simp_all):Det (G1 A):=agM h
section
def rp {a b:Nat}(h:a≠b):Nat.beq a b=false:=by
 cases q:Nat.beq a b with
 |false=>rfl
 |true=>exact absurd (Nat.eq_of_beq_eq_true q) h
def QK {σ:List (Nat×Nat)}{a b a' b' n:Nat}(h1:mK 0 σ a=some a')(h2:mK 0 σ b=some b'):sZ 0 σ (eG a b n)=some (eG a' b' n):=by simp only[eG,sZ,qD,Uk,h1,h2]
section
variable [cG] {P:Program} {ν:List (Nat×Nat)} {bL:List Nat} {t:List (Nat×mC)} {fid key u:Nat} {af:aj} {y:cx} {aEc:D->List D} {ns ns':List av} {V:D} {lf ln lr nx:Nat} {m:List (Nat×bd)} {K:D->St->Prop}
def nM (has:ad5 aEc)(hV:V.aS=true)(hmix:P.follows .mixedOrders=true)(hC:UF P ν bL fid af)(hnp:(aEc (.ptr 0 2 0 0)).length=af.np)
  (h1:lf<nx) (h2:ln<nx) (h3:lr<nx) (hne:ln≠lr) (hat:Bw y lf ln lr ns m)
  (hK:K V ⟨nx+2,(nx,.buf 1 (ns'.map D.str))::(nx+1,.buf 1 (de y ns'))::cO (cW (cW m ln) lr) lf (.buf 2 [eG nx (nx+1) ns'.length])⟩)
  (hw:dn ((under t key u).at 3) af.body (uc af (Kj y ns' V)) (fI af (aEc (.ptr 0 2 0 0))) ⟨3,[(0,.buf 2 [eG 1 2 ns.length]),(1,.buf 1 (ns.map D.str)),(2,.buf 1 (de y ns))]⟩):uu P ν bL (under t key u) fid (aEc (.ptr lf 2 0 0)) ⟨nx,m⟩ K:=by
 obtain⟨a1,a2,a3⟩:=hat;have n1:lf≠ln:=by
  rintro rfl;rw[a1]at a2;exact absurd (bd.buf.inj (aV a2)).1 aU
 have n2:lf≠lr:=by
  rintro rfl;rw[a1]at a3;exact absurd (bd.buf.inj (aV a3)).1 aU
 have b1:=rp n1;have b2:=rp n2;have b3:=rp hne;have c1:=rp n1.symm;have c2:=rp n2.symm;have c3:=rp hne.symm;have g3:gE 0 3 [(lf,0),(ln,1),(lr,2)]=true:=by simp[gE,b1,b2,b3,c1,c2,c3];decide
 have g4:∀l i,(l,i)∈[(lf,0),(ln,1),(lr,2)]->look m l≠none:=by
  intro l i h;simp only[bF,c9,cP,or_false]at h;rcases h with⟨rfl,_⟩|⟨rfl,_⟩|⟨rfl,_⟩<;>simp[a1,a2,a3]
 have g5:∀i b,look [(0,.buf 2 [eG 1 2 ns.length]),(1,.buf 1 (ns.map D.str)),(2,.buf 1 (de y ns))] i=some b->∃l b',(l,i)∈[(lf,0),(ln,1),(lr,2)]/\look m l=some b'/\p0 0 [(lf,0),(ln,1),(lr,2)] b' b:=by
  intro i b h;simp only[look]at h;split at h
  .rename_i e;subst e;obtain rfl:=aV h;exact⟨lf,_,.head _,a1,rfl,.inr (.inl (by simp only[qD,QK (σ:=[(lf,0),(ln,1),(lr,2)]) (a:=ln) (b:=lr) (a':=1) (b':=2) (by simp[mK,b1]) (by simp[mK,b2,b3])]))⟩
  .split at h
   .rename_i e;subst e;obtain rfl:=aV h;exact⟨ln,_,.tail _ (.head _),a2,rfl,.inl ⟨rfl,H0 ns⟩⟩
   .split at h
    .rename_i e;subst e;obtain rfl:=aV h;exact⟨lr,_,.tail _ (.tail _ (.head _)),a3,rfl,.inl ⟨rfl,iZ y ns⟩⟩
    .cases h
 obtain⟨e1,e2⟩:=has [(lf,0),(ln,1),(lr,2)] lf 0 (by simp[mK]);refine KZ (σi:=[(lf,0),(ln,1),(lr,2)]) (cs:=aEc (.ptr 0 2 0 0)) (fun q=>F3 t key u q) hmix hC e1.symm e2 hnp g3 g4 g5 hw ?_;rintro d m1 ⟨rfl,j,k,⟨hj,hk,hjk⟩,d1,d2,d3⟩;have q1:Nat.beq 0 j=false:=rp ae;have q2:Nat.beq 0 k=false:=rp ae;have q3:Nat.beq j k=false:=rp hjk;have q4:Nat.beq j 0=false:=rp ae;have q5:Nat.beq k 0=false:=rp ae;have q6:Nat.beq k j=false:=rp (Ne.symm hjk);have r1:Nat.beq lf nx=false:=rp ae;have r2:Nat.beq lf (nx+1)=false:=rp ae;have r3:Nat.beq nx (nx+1)=false:=rp ae;have r4:Nat.beq nx lf=false:=rp ae;have r5:Nat.beq (nx+1) lf=false:=rp ae;have r6:Nat.beq (nx+1) nx=false:=rp ae;refine⟨[(0,lf),(j,nx),(k,nx+1)],j+k+1,_,d,⟨g3, ?_,Nat.le_add_right _ _,g4, ?_,g5, ?_⟩,.inl ⟨rfl,hV⟩,hK⟩
 .simp[gE,q1,q2,q3,q4,q5,q6,r1,r2,r3,r4,r5,r6];omega
 .intro i l h;simp only[bF,c9,cP,or_false]at h;rcases h with⟨rfl,rfl⟩|⟨rfl,rfl⟩|⟨rfl,rfl⟩
  .exact .inl (.head _)
  .exact .inr (aO _)
  .exact .inr (Nat.le_succ _)
 .intro l bb h;simp only[look]at h;split at h
  .rename_i e;subst e;obtain rfl:=aV h;exact .inl ⟨j,_,.tail _ (.head _),d2,rfl,.inl ⟨rfl,H0 _⟩⟩
  .rename_i hln;split at h
   .rename_i e;subst e;obtain rfl:=aV h;exact .inl ⟨k,_,.tail _ (.tail _ (.head _)),d3,rfl,.inl ⟨rfl,iZ _ _⟩⟩
   .rename_i hln2;rw[bK]at h;split at h
    .rename_i e;subst e;obtain rfl:=aV h;exact .inl ⟨0,_,.head _,d1,rfl,.inr (.inl (by simp only[qD,QK (σ:=[(0,l),(j,nx),(k,nx+1)]) (a:=j) (b:=k) (a':=nx) (b':=nx+1) (by simp[mK,q1]) (by simp[mK,q2,q3])]))⟩
    .rename_i hlf;rw[e8]at h;split at h
     .cases h
     .rename_i hl3;rw[e8]at h;split at h
      .cases h
      .rename_i hl2;refine .inr ⟨by simp only[nO,ah (fun e=>hlf (Eq.symm e)),ah hln,ah hln2],fun i hi=>?_,h⟩;simp only[bF,c9,cP,or_false]at hi;rcases hi with⟨rfl,_⟩|⟨rfl,_⟩|⟨rfl,_⟩
       .exact hlf rfl
       .exact hl2 rfl
       .exact hl3 rfl
end
end
end Go.Abs
section
namespace Go.Abs
def nL {α β:Type} [Inhabited α]{f:α->List β}{l:List α}{i:Nat}(h:i<l.length):(l.take (i+1)).flatMap f=(l.take i).flatMap f++f l[i]! :=by
 have e:l.take (i+1)=l.take i++[l[i]!]:=by
  rw[List.take_add_one,List.getElem?_eq_getElem h];simp[h]
 rw[e,List.flatMap_append];simp
def map_take {α β:Type} [Inhabited α]{f:α->β}{l:List α}{i:Nat}(h:i<l.length):(l.take (i+1)).map f=(l.take i).map f++[f l[i]!]:=by
 have e:l.take (i+1)=l.take i++[l[i]!]:=by
  rw[List.take_add_one,List.getElem?_eq_getElem h];simp[h]
 rw[e,List.map_append];rfl
def F0 {α β:Type}{f:α->β}(xs:List α):(xs.map f).take xs.length=xs.map f:=by rw[<-bg (f:=f),List.take_length]
def E6 {α:Type} [Inhabited α]{f:α->Bool}{l:List α}{i:Nat}(h:i<l.length):(l.take (i+1)).filter f=(l.take i).filter f++(if f l[i]! =true then [l[i]!]else []):=by
 have e:l.take (i+1)=l.take i++[l[i]!]:=by
  rw[List.take_add_one,List.getElem?_eq_getElem h];simp[h]
 rw[e,List.filter_append,List.filter_cons,List.filter_nil]
def VN {m:gO}(h:¬(cS m.r).1=0):kr m=cS m.r:=ak h
def VL {m:gO}(h:¬¬(cS m.r).1=0)(h2:8<m.ps.length\/8<m.hs.length):kr m=(3,0):=by unfold kr;rw[ah h,ak h2]
def VM {m:gO}(h:¬¬(cS m.r).1=0)(h2:¬(8<m.ps.length\/8<m.hs.length)){q:Int×Int}(h3:CF m.ps=q)(h4:¬q.1=0):kr m=q:=by
 subst h3;unfold kr;rw[ah h,ah h2,ak h4]
def VK {m:gO}(h:¬¬(cS m.r).1=0)(h2:¬(8<m.ps.length\/8<m.hs.length))(h3:(CF m.ps).1=0){q:Int×Int}(h4:B9 m.hs=q):kr m=q:=by
 subst h4;unfold kr;rw[ah h,ah h2,ah (fun h=>h h3)]
def LN {l:List iC}{i:Nat}(h:(dd l[i]!.name=false\/dd l[i]!.shelf=false)\/(0<i/\Op.bytesLess l[i-1]!.name l[i]!.name=false)):LM l i=15:=ak h
def Rs {l:List iC}{i:Nat}(h:¬((dd l[i]!.name=false\/dd l[i]!.shelf=false)\/(0<i/\Op.bytesLess l[i-1]!.name l[i]!.name=false))):LM l i=0:=ah h
def acp {l:List ko}{i:Nat}(h:dd l[i]!.name=false\/(0<i/\Op.bytesLess l[i-1]!.name l[i]!.name=false)):B7 l i=4:=ak h
def acq {l:List ko}{i:Nat}(h:¬(dd l[i]!.name=false\/(0<i/\Op.bytesLess l[i-1]!.name l[i]!.name=false)))(h2:qz l[i]!.range=false):B7 l i=6:=by unfold B7;rw[ah h,ak h2]
def WD {l:List ko}{i:Nat}(h:¬(dd l[i]!.name=false\/(0<i/\Op.bytesLess l[i-1]!.name l[i]!.name=false)))(h2:qz l[i]!.range=true):B7 l i=0:=by unfold B7;rw[ah h,ah (by rw[h2];simp)]
def xW {l:List gO}(h:vX l):l.length=1/\∀i,i<l.length->Ve l[i]! :=by
 obtain⟨m,rfl,hm⟩:=h;refine⟨rfl,fun i hi=>?_⟩;obtain rfl:i=0:=by simpa using hi
 exact hm
def aiM {m:gO}(h:Ve m):kr m=(0,0):=by
 obtain⟨⟨h1,_⟩,_⟩:=h;have h0:=h1;unfold kr at h1⊢;split
 .rename_i h2;rw[ak h2]at h1;exact absurd h1 h2
 .rename_i h2;rw[ah h2]at h1;split
  .rename_i h3;rw[ak h3]at h1;cases h1
  .rename_i h3;rw[ah h3]at h1;split
   .rename_i h4;rw[ak h4]at h1;exact absurd h1 h4
   .rename_i h4;rw[ah h4]at h1;exact B1 _ _ _ h1
def PN {l:List gO}(h:vX l){i:Nat}(hi:i<l.length):lE l l[i]!.r.name=(i:Nat):=by
 obtain⟨m,rfl,hm⟩:=h;obtain rfl:i=0:=by simpa using hi
 show gu (isM m.r.name) [m] 0=0;simp[gu,isM]
def tj {l:List gO}(h:vX l){i:Nat}(hi:i<l.length):l[i]!.ps=gw l/\l[i]!.hs=l[0]!.hs/\l[i]!.ps.length<=1/\l[i]!.hs.length<=1:=by
 have h1:=xW h;obtain rfl:i=0:=ae;exact⟨rfl,rfl,(h1.2 0 hi).2⟩
def aia {l:List gO}{nm:av}{k:Nat}(hk:k=0)(h:k<l[0]!.hs.length)(h2:l[0]!.hs[k]!.name=nm):kC l nm=eU l[0]!.hs[k]!.range:=by
 subst hk;unfold kC;rw[ak ⟨ae,h2⟩]
def ah9 {l:List gO}{nm:av}{k:Nat}(hk:k=0)(h2:¬l[0]!.hs[k]!.name=nm):kC l nm=pf:=by
 subst hk;unfold kC;rw[ah fun h=>h2 h.2]
def ah8 {l:List gO}{nm:av}{k:Nat}(hk:k=l[0]!.hs.length):(if k=0 then pf else kC l nm)=kC l nm:=by
 split
 .unfold kC;rw[ah fun h=>h.1 ae]
 .rfl
def lD (l:List iC)(p:iC):List iC×Bool:=
 if kPin l p 0<l.length/\l[kPin l p 0]!.name=p.name then(l,decide (l[kPin l p 0]! =p))else((l.take (kPin l p 0)++[p])++l.drop (kPin l p 0),true)
where kPin (l:List iC) (p:iC) (i:Nat):Nat:=i+((l.drop i).takeWhile fun x=>Op.bytesLess x.name p.name).length
def Tq {l:List iC}{p:iC}{i:Nat}(h:i<l.length)(hc:Op.bytesLess l[i]!.name p.name=true):lD.kPin l p i=lD.kPin l p (i+1):=by
 unfold lD.kPin;rw[eY h,List.takeWhile_cons_of_pos (by simpa[h]using hc)];simp;omega
def Tr {l:List iC}{p:iC}{i:Nat}(h:i<l.length->Op.bytesLess l[i]!.name p.name=false):lD.kPin l p i=i:=by
 unfold lD.kPin;rcases dQ i l.length with hi|hi
 .rw[eY hi,List.takeWhile_cons_of_neg (by simpa[hi]using h hi)];rfl
 .rw[j2 hi];rfl
def X1 {k:Nat}(hk:k=0){l:List iC}(h:k<l.length):lD (l.take k) l[k]! =(l.take (k+1),true):=by
 subst hk;cases l with
 |nil=>cases h
 |cons a r=>rfl
def W0 {l:List Key}{k:Key}{i:Nat}(h:i<l.length)(hc:eP l[i]! k=true):Et l k i=Et l k (i+1):=by
 unfold Et;rw[eY h,List.takeWhile_cons_of_pos (by simpa[h]using hc)];simp;omega
def W1 {l:List Key}{k:Key}{i:Nat}(h:i<l.length->eP l[i]! k=false):Et l k i=i:=by
 unfold Et;rcases dQ i l.length with hi|hi
 .rw[eY hi,List.takeWhile_cons_of_neg (by simpa[hi]using h hi)];rfl
 .rw[j2 hi];rfl
def Tl {es:List ki}{l:List Int}{i k:Nat}(h:k<l.length)(hc:iz es[(l[k]!).toNat]!.r.v es[i]!.r.v<0):AD es l i k=AD es l i (k+1):=by
 unfold AD;rw[eY h,List.takeWhile_cons_of_pos (by simpa[h]using hc)];simp;omega
def Tm {es:List ki}{l:List Int}{i k:Nat}(h:k<l.length->¬iz es[(l[k]!).toNat]!.r.v es[i]!.r.v<0):AD es l i k=k:=by
 unfold AD;rcases dQ k l.length with hi|hi
 .rw[eY hi,List.takeWhile_cons_of_neg (by simpa[hi]using h hi)];rfl
 .rw[j2 hi];rfl
def Key.eqD (a b:Key):gV (Key.D a).cells (Key.D b).cells=decide (a=b):=by
 obtain⟨a1,a2⟩:=a;obtain⟨b1,b2⟩:=b
 grind [Key.D,D.cells,gV,sM]
def iC.eq (a b:iC):gV (iC.D a).cells (iC.D b).cells=decide (a=b):=by
 obtain⟨a1,a2⟩:=a;obtain⟨b1,b2⟩:=b
 grind [iC.D,D.cells,gV,sM]
def XZ {l:List iC}{i:Nat}(h:(dd l[i]!.name=false\/dd l[i]!.shelf=false)\/(0<i/\Op.bytesLess l[i-1]!.name l[i]!.name=false)):decide (LM l i=0)=false:=by rw[LN h];rfl
def TO {l:List iC}{i:Nat}(h:¬((dd l[i]!.name=false\/dd l[i]!.shelf=false)\/(0<i/\Op.bytesLess l[i-1]!.name l[i]!.name=false))):decide (LM l i=0)=true:=by rw[Rs h];rfl
def XU {ns:List bj}{e:Env}{o:av}{i:Nat}(h:i<ns.length):qx (ns.take i) e o++AI e o ns[i]! =qx (ns.take (i+1)) e o:=by unfold qx;rw[nL h]
def ajf {e:Env}{o:av}{n:bj}(h:n.option=o/\Fs n.when' e=true):AI e o n=iA n:=by unfold AI;rw[ak h]
def aje {e:Env}{o:av}{n:bj}(h:¬n.option=o\/Fs n.when' e=false):AI e o n=[]:=by unfold AI;rw[ah (by rintro⟨h1,h2⟩;rcases h with h|h;exact h h1;rw[h]at h2;cases h2)]
def Ho {ns:List bj}{e:Env}{nm ft:av}{i:Nat}(h:i<ns.length):iN (ns.take i) e nm ft++qX e nm ft ns[i]! =iN (ns.take (i+1)) e nm ft:=by unfold iN;rw[nL h]
def adk {e:Env}{nm ft:av}{n:bj}(h:(¬(n.any.length:Int)=1\/¬n.any[0]!.name=nm)\/Fs n.when' e=false):qX e nm ft n=[]:=by
 unfold qX;rw[ah];rintro⟨⟨h1,h2⟩,h3⟩;rcases h with(h|h)|h
 .omega
 .exact h h2
 .rw[h]at h3;cases h3
def XS (n:bj):List fJ:=if n.option=[]then []else iA n
def Rw {e:Env}{nm ft:av}{n:bj}(h:((n.any.length:Int)=1/\n.any[0]!.name=nm)/\Fs n.when' e=true):qX e nm ft n=XS n++[[⟨⟨nm,ft⟩,eU n.any[0]!.range⟩]]:=by
 unfold qX;rw[ak ⟨⟨ae,h.1.2⟩,h.2⟩];rfl
def yC (r:Rec)(e:Env)(ft:av)(i:Nat):List fJ:=[[⟨⟨r.name,[]⟩,dz r.v⟩]]++((uC r.feats ft).take i).flatMap (lZ r e)
def Oo {r:Rec}{e:Env}{ft:av}{i:Nat}(h:i<(uC r.feats ft).length):yC r e ft i++lZ r e (uC r.feats ft)[i]! =yC r e ft (i+1):=by unfold yC;rw[nL h,fm]
def aiP {r:Rec}{e:Env}{ft:av}(h:¬ft=[]):yC r e ft (uC r.feats ft).length=cH r e ft:=by unfold yC cH;rw[ah h,List.take_length]
def Xv {r:Rec}{e:Env}{ft:av}(h:Bz r)(i:Nat):(yC r e ft i).length<=1+384:=by
 have h2:=(wX h ft).1;have h1:=ic (f:=lZ r e) (B:=64) (l:=(uC r.feats ft).take i) fun s _=>(sR h).1
 unfold yC;rw[ek]at h1;rw[cn,List.length_singleton];have:64*min i (uC r.feats ft).length<=64*6:=Nat.mul_le_mul_left _ ae;omega
def air {r:Rec}{e:Env}{s:av}(h:(bI s).1=1):lZ r e s=[[⟨⟨r.name,(bI s).2.1⟩,dz r.v⟩]]:=by unfold lZ;rw[ak h]
def ais {r:Rec}{e:Env}{s:av}(h:¬(bI s).1=1)(h2:(bI s).1=2):lZ r e s=qx r.needs e (bI s).2.1:=by unfold lZ;rw[ah h,ak h2]
def ait {r:Rec}{e:Env}{s:av}(h:¬(bI s).1=1)(h2:¬(bI s).1=2):lZ r e s=iN r.needs e (bI s).2.1 (bI s).2.2:=by unfold lZ;rw[ah h,ah h2]
def S6 (l:List b6)(nm:av):findF l nm 0=-1\/∃j:Nat,findF l nm 0=(j:Int)/\j<l.length:=by
 unfold findF;rw[dI];cases h:l.findIdx? (fun x=>decide (x.name=nm))with
 |none=>exact .inl rfl
 |some k=>exact .inr ⟨k,aF,(List.findIdx?_eq_some_iff_getElem.1 h).1⟩
def ri (all:List Key)(r:fJ)(i:Nat):nH:=(r.take i).map fun a=>⟨ec all a.k,a.s⟩
def adU {all:List Key}{r:fJ}{i:Nat}(h:i<r.length):ri all r i++[⟨ec all r[i]!.k,r[i]!.s⟩]=ri all r (i+1):=by unfold ri;rw[map_take h]
def Ux (all:List Key)(r:fJ)(i:Nat):(ri all r i).length<=i:=by unfold ri;rw[bg,ek];omega
def adT {all:List Key}{l:List fJ}{i:Nat}(h:i<l.length):dy all (l.take i)++[ri all l[i]! l[i]!.length]=dy all (l.take (i+1)):=by unfold dy ri;rw[map_take h,List.take_length]
def Uw (all:List Key)(l:List fJ)(i:Nat):(dy all (l.take i)).length<=i:=by unfold dy;rw[bg,ek];omega
def Qn {all:List Key}{r:Rec}{e:Env}{i:Nat}(h:i<r.bars.length):(r.bars.take i).flatMap (qb all e)++qb all e r.bars[i]! =(r.bars.take (i+1)).flatMap (qb all e):=by rw[nL h]
def agA {all:List Key}{e:Env}{b:mA}(h:0<=ec all ⟨b.name,[]⟩/\Fs b.when' e=true):qb all e b=[⟨ec all ⟨b.name,[]⟩,eU b.range⟩]:=by unfold qb;rw[ak h]
def agz {all:List Key}{e:Env}{b:mA}(h:¬0<=ec all ⟨b.name,[]⟩\/Fs b.when' e=false):qb all e b=[]:=by unfold qb;rw[ah (by rintro⟨h1,h2⟩;rcases h with h|h;exact h h1;rw[h]at h2;cases h2)]
def Vy (all:List Key)(e:Env)(b:mA):(qb all e b).length<=1:=by unfold qb;split<;>simp
def SV (all:List Key)(e:Env)(l:List mA)(i:Nat):((l.take i).flatMap (qb all e)).length<=i:=by
 have h:=ic (f:=qb all e) (B:=1) (l:=l.take i) fun b _=>Vy all e b
 rw[ek]at h;omega
def ajZ {l:List gO}{i:Nat}(h:i<l.length):eC (l.take i)++[[⟨⟨l[i]!.r.name,kW⟩,dz l[i]!.r.v⟩]]=eC (l.take (i+1)):=by unfold eC;rw[map_take h]
def Y7 (l:List gO)(i:Nat):(eC (l.take i)).length<=i:=by unfold eC;rw[bg,ek];omega
def ach (l k:Nat)(es:List Abs.D)(xs:List nH):ow l k es (xs.map jv)=xs.map jv:=jU l k es _ (b7 (fun _=>rfl) _)
def gO.fz (l k:Nat)(es:List Abs.D)(c:gO):iW l k es c.D=c.D:=gW l k es _ rfl
def mA.fz (l k:Nat)(es:List Abs.D)(c:mA):iW l k es c.D=c.D:=gW l k es _ rfl
def je.fz (l k:Nat)(es:List Abs.D)(c:je):iW l k es c.D=c.D:=gW l k es _ rfl
end Go.Abs
namespace Go.Abs
section
variable {shop:List bJ} {ps:List iC} {nm:av}
def ah0 (h:eJ shop=false):fS shop ps nm=(0,1):=by unfold fS;rw[ak h]
def ah1 (h:eJ shop=true)(h2:zJ ps=false):fS shop ps nm=(0,15):=by unfold fS;rw[ah iR,ak h2]
def ah2 {i:Nat}(h:eJ shop=true)(h2:zJ ps=true)(h3:EE ps nm=(i:Nat))(h4:mi shop ps[i]!.shelf<0):fS shop ps nm=(0,12):=by
 unfold fS;rw[ah iR,ah (by rw[h2];simp),ak ae,h3,Int.toNat_natCast,ak h4]
def ah3 {i:Nat}(h:eJ shop=true)(h2:zJ ps=true)(h3:EE ps nm=(i:Nat))(h4:¬mi shop ps[i]!.shelf<0):fS shop ps nm=(mi shop ps[i]!.shelf,0):=by
 unfold fS;rw[ah iR,ah (by rw[h2];simp),ak ae,h3,Int.toNat_natCast,ah h4]
def ah4 {j:Nat}(h:eJ shop=true)(h2:zJ ps=true)(h3:EE ps nm=-1)(h4:gu (B6 nm) shop 0=(j:Nat)):fS shop ps nm=(((j:Nat):Int),0):=by
 unfold fS;rw[ah iR,ah (by rw[h2];simp),ah ae,h4,ah ae]
def ah5 (h:eJ shop=true)(h2:zJ ps=true)(h3:EE ps nm=-1)(h4:gu (B6 nm) shop 0=-1):fS shop ps nm=(0,9):=by
 unfold fS;rw[ah iR,ah (by rw[h2];simp),ah ae,h4];rfl
end
def acx {es:List ki}{l:List Int}{i k:Nat}(h:AD es l i 0=k):(l.take k++[((i:Nat):Int)])++l.drop k=GU es l i:=by unfold GU;rw[h]
def acK {es:List ki}{nm:av}{i:Nat}(h:es[i]!.r.name=nm):GU es (eA es nm i) i=eA es nm (i+1):=by rw[eA,ak h]
def acJ {es:List ki}{nm:av}{i:Nat}(h:¬es[i]!.r.name=nm):eA es nm i=eA es nm (i+1):=by rw[eA,ah h]
def acI {s:bJ}{nm:av}(h:gQ s=true):eA s.es nm s.es.length=j7 s nm:=by unfold j7;rw[h,ah aF]
def ado {l:List Key}{k:Key}{i:Nat}(h:Et l k 0=i)(h2:¬(i<l.length/\l[i]! =k)):(l.take i++[k])++l.drop i=r9 l k:=by unfold r9;rw[h,ah h2]
def adm {l:List Key}{k:Key}{i:Nat}(h:Et l k 0=i)(h2:i<l.length/\l[i]! =k):l=r9 l k:=by unfold r9;rw[h,ak h2]
def DB {α:Type}{l:List α}{i:Nat}{x:α}(h:x∈l.take i):x∈l:=D6 h
def kP (x:cZ):List Key:=if x.bare=true then []else [⟨x.name,kW⟩]
def oa (x:cZ):List Key:=if x.bare=true then(if x.feats=[]then [⟨x.name,[]⟩]else [])else [⟨x.name,kW⟩]
def mL (x:cZ)(i:Nat):List Key:=oa x++(x.feats.take i).map (Key.mk x.name)
def Zw {x:cZ}(h:x.bare=false):kP x=[⟨x.name,kW⟩]:=by unfold kP;rw[h];rfl
def Zx {x:cZ}(h:x.bare=true):kP x=[]:=by unfold kP;rw[ak h]
def Zz {x:cZ}(h:x.bare=true/\(x.feats.length:Int)=0):kP x++[⟨x.name,[]⟩]=oa x:=by
 have:x.feats=[]:=ZY.1 ae;unfold kP oa;rw[ak h.1,ak h.1,ak this];rfl
def Zy {x:cZ}(h:x.bare=false\/¬(x.feats.length:Int)=0):kP x=oa x:=by
 unfold kP oa;cases hb:x.bare with
 |false=>rfl
 |true=>
  have h2:=h.resolve_left (by rw[hb];simp);have:¬x.feats=[]:=fun e=>h2 (by rw[e];rfl)
  rw[ak rfl,ak rfl,ah this]
def PF (x:cZ):(kP x).length<=1:=by unfold kP;split<;>simp
def PG (x:cZ):(oa x).length<=1:=by unfold oa;split<;>(try split)<;>simp
def PH (x:cZ)(i:Nat):(mL x i).length<=1+i:=by
 have:=PG x;unfold mL;rw[cn,bg,ek];omega
def ZA (x:cZ):oa x=mL x 0:=by unfold mL;simp
def ZC {x:cZ}{i:Nat}(h:i<x.feats.length):mL x i++[⟨x.name,x.feats[i]!⟩]=mL x (i+1):=by
 unfold mL;rw[map_take h,<-fm]
def ZB (x:cZ):mL x x.feats.length=eV x:=by unfold mL eV oa;rw[List.take_length]
def asdK (s:cr)(k:Key):fJ:=[⟨k,s⟩]
def yU (n:bj)(i:Nat):List fJ:=((eV n.any[0]!).take i).map (asdK (eU n.any[0]!.range))
def aj4 {n:bj}{i:Nat}(h:i<(eV n.any[0]!).length):yU n i++[asdK (eU n.any[0]!.range) (eV n.any[0]!)[i]!]=yU n (i+1):=by unfold yU;rw[map_take h]
def aj3 {n:bj}(h:(n.any.length:Int)=1):yU n (eV n.any[0]!).length=iA n:=by unfold yU iA;rw[ak ae,List.take_length];rfl
def Za (n:bj)(i:Nat):(yU n i).length<=i:=by unfold yU;rw[bg,ek];omega
def XH (w:cZ):je:=⟨(eV w)[0]!,eU w.range⟩
def AH (n:bj)(i:Nat):List je:=(n.any.take i).map XH
def ai4 {n:bj}{i:Nat}(h:i<n.any.length):AH n i++[XH n.any[i]!]=AH n (i+1):=by unfold AH;rw[map_take h]
def ai3 {n:bj}(h:¬(n.any.length:Int)=1):[AH n n.any.length]=iA n:=by unfold AH iA;rw[ah ae,List.take_length];rfl
def XG (n:bj)(i:Nat):(AH n i).length<=i:=by unfold AH;rw[bg,ek];omega
def wH (l k:Nat)(es:List Abs.D)(xs:List fJ)(d:Abs.D):ow l k es (xs.map dL++[d])=xs.map dL++[iW l k es d]:=by
 induction xs with
 |nil=>rfl
 |cons x r ih=>rw[List.map_cons,sD,ow,ih];rfl
def B4 (l k:Nat)(es:List Abs.D)(xs:List je):ow l k es (xs.map je.D)=xs.map je.D:=jU l k es _ (b7 (fun _=>rfl) _)
def bj.fz (l k:Nat)(es:List Abs.D)(c:bj):iW l k es c.D=c.D:=gW l k es _ rfl
def Env.fz (l k:Nat)(es:List Abs.D)(c:Env):iW l k es c.D=c.D:=gW l k es _ rfl
def cZ.fz (l k:Nat)(es:List Abs.D)(c:cZ):iW l k es c.D=c.D:=gW l k es _ rfl
def cr.fz (l k:Nat)(es:List Abs.D)(c:cr):iW l k es c.D=c.D:=gW l k es _ rfl
def Key.fz (l k:Nat)(es:List Abs.D)(c:Key):iW l k es c.D=c.D:=gW l k es _ rfl
def ub.fz (l k:Nat)(es:List Abs.D)(c:ub):iW l k es c.D=c.D:=gW l k es _ rfl
def pg (xs:List fJ)(a:je):xs.map dL++[.sl 4 [a.D]]=(xs++[[a]]).map dL:=by rw[List.map_append];rfl
def Xf {y:cx}{nm:av}{j:Nat}(hj:lE y.l nm=(j:Nat)):dE y nm=[⟨y.l[j]!.r,-1⟩]:=by
 unfold dE;rw[ak ae,hj,Int.toNat_natCast]
def acN (y:cx)(nm:av):(cE y.shop y.pins nm).2.1.length<=64:=by
 unfold cE;split
 .simp
 .exact(rR _ _).1
def aiK {y:cx}(hy:pe y){nm:av}{i:Nat}(hc:(cE y.shop y.pins nm).2.2=0)(hi:i<(cE y.shop y.pins nm).2.1.length):
  ∃j:Nat,(cE y.shop y.pins nm).1=(j:Int)/\j<y.shop.length/\∃t:Nat,(cE y.shop y.pins nm).2.1[i]! =(t:Int)/\t<y.shop[j]!.es.length/\y.shop[j]!.es[t]!.r.v.sm:=by
 have h2:(fS y.shop y.pins nm).2=0:=by
  unfold cE at hc;split at hc
  .rename_i h3;exact absurd hc h3
  .rename_i h3;exact Classical.not_not.1 h3
 obtain⟨hB,j,hj,hjl⟩:=pz h2;have e1:cE y.shop y.pins nm=((j:Int),j7 y.shop[j]! nm,0):=by
  unfold cE;rw[ah (fun h=>h h2),hj,Int.toNat_natCast]
 rw[e1]at hi⊢;dsimp only at hi⊢;obtain⟨h5,h6⟩:=(rR y.shop[j]! nm).2 _ (aq hi);refine⟨j,rfl,hjl,(j7 y.shop[j]! nm)[i]!.toNat,ae,ae, ?_⟩;exact(hy.1.2 _ (aq hjl) _ (aq ae)).1.2
def Fh (y:cx)(nm:av)(a:Nat):∀(l r:List Int),iM y nm a (l++r)=iM y nm a l++iM y nm a r
 |[],_=>rfl
 |x::l,r=>by rw[sD,iM,iM,Fh y nm a l r,fm]
def Q3 (y:cx)(nm:av)(a:Nat){l:List Int}{i:Nat}(h:i<l.length):iM y nm a (l.take (i+1))=iM y nm a (l.take i)++(if R1 y nm y.shop[a]!.es[l[i]!.toNat]! =true then [⟨y.shop[a]!.es[l[i]!.toNat]!.r,(a:Int)⟩]else []):=by
 have e:l.take (i+1)=l.take i++[l[i]!]:=by
  rw[List.take_add_one,List.getElem?_eq_getElem h];simp[h]
 rw[e,Fh,iM,iM,fZ]
def acM {y:cx}{nm:av}{A:Int}{j:Nat}{l:List Int}{i t:Nat}(hj:A=(j:Int))(h:i<l.length)(ht:l[i]! =(t:Int))(hx:(y.shop[j]!.es[t]!.off=false\/K8 y.keeps y.shop[j]!.es[t]!.r=true)/\oN (kC y.l nm) y.shop[j]!.es[t]!.r.v=true):iM y nm A.toNat (l.take i)++[⟨y.shop[j]!.es[t]!.r,A⟩]=iM y nm A.toNat (l.take (i+1)):=by
 subst hj;rw[Q3 y nm _ h,ht,Int.toNat_natCast,Int.toNat_natCast,ak];unfold R1;rw[hx.2];rcases hx.1 with h|h<;>rw[h]<;>simp
def acL {y:cx}{nm:av}{A:Int}{j:Nat}{l:List Int}{i t:Nat}(hj:A=(j:Int))(h:i<l.length)(ht:l[i]! =(t:Int))(hx:(y.shop[j]!.es[t]!.off=true/\K8 y.keeps y.shop[j]!.es[t]!.r=false)\/oN (kC y.l nm) y.shop[j]!.es[t]!.r.v=false):iM y nm A.toNat (l.take i)=iM y nm A.toNat (l.take (i+1)):=by
 subst hj;rw[Q3 y nm _ h,ht,Int.toNat_natCast,Int.toNat_natCast,ah,fZ];unfold R1;rcases hx with⟨h1,h2⟩|h<;>simp_all
def aiH {y:cx}{nm:av}{i:Nat}(h0:¬0<=lE y.l nm)(hi:i<=(cE y.shop y.pins nm).2.1.length)(he:¬((i:Nat):Int)<((cE y.shop y.pins nm).2.1.length:Nat)\/¬(cE y.shop y.pins nm).2.2=0):iM y nm (cE y.shop y.pins nm).1.toNat ((cE y.shop y.pins nm).2.1.take i)=dE y nm:=by
 unfold dE;rw[ah h0];by_cases hc:(cE y.shop y.pins nm).2.2=0
 .rw[ah (fun h=>h hc),gK (by rcases he with h|h;omega;exact absurd hc h)]
 .rw[ak hc];have:(cE y.shop y.pins nm).2.1=[]:=by
   unfold cE at hc⊢;split
   .rfl
   .rename_i h;rw[ah h]at hc;exact absurd rfl hc
  rw[this,List.take_nil];rfl
def WC (l:List gO)(nm:av):(kC l nm).sm:=by
 unfold kC;split
 .exact adF _
 .exact abb
def ZF {v:bX}(h:v∈bN):v.sm:=by
 obtain⟨i,hi,rfl⟩:=fQ h;exact xS i
end Go.Abs
end
namespace Go.Abs
section
def EY (n i:Nat):List Int:=(List.range n).map fun u=>if 1<=u/\u<i then-1 else 0
def Qv (n i:Nat):List Int:=(List.range n).map fun u=>if u<i then-1 else 0
def A1 (n i:Nat):(EY n i).length=n:=by simp[EY]
def wj (n i:Nat):(Qv n i).length=n:=by simp[Qv]
def c1T_0 (n:Nat):List.replicate n (D.int .i64 0)=(Qv n 0).map (D.int .i64):=by
 apply List.ext_getElem
 .simp[Qv]
 .intro i h1 h2;simp only[List.getElem_replicate,Qv,List.getElem_map,List.getElem_range];rw[ah ae]
def abv {n i:Nat}(hi:i<n):(Qv n i).set i (-1)=Qv n (i+1):=by
 apply List.ext_getElem
 .simp[Qv]
 .intro j h1 h2;simp only[List.getElem_set,Qv,List.getElem_map,List.getElem_range]
  grind
def abu {n:Nat}:(Qv n n).set 0 0=EY n n:=by
 apply List.ext_getElem
 .simp[EY,Qv]
 .intro j h1 h2;simp only[List.getElem_set,EY,Qv,List.getElem_map,List.getElem_range];simp only[List.length_set,wj]at h1
  grind
def jg (shop:List bJ)(e:Env)(w:bT)(l:mB):List Int×Int×av:=
 if eu w=false\/eJ shop=false\/nK e=false then([],1,[])else if Ld l=false\/l.env≠e then([],34,[])
 else vt shop w.us l.lines (EY w.us.length w.us.length)
def ChoP (shop:List bJ)(w:bT)(l:mB):Prop:=ja shop/\w.sm/\l.sm
section
variable {shop:List bJ} {e:Env} {w:bT} {l:mB}
def cho_a (h:(eu w=false\/eJ shop=false)\/nK e=false):jg shop e w l=([],1,[]):=by
 rw[jg,ak (by grind)]
def cho_b (h:(eu w=true/\eJ shop=true)/\nK e=true)(h2:Ld l=false\/¬l.env=e):jg shop e w l=([],34,[]):=by
 rw[jg,ah (by grind),ak h2]
def aev (h:(eu w=true/\eJ shop=true)/\nK e=true)(h2:Ld l=true/\l.env=e):jg shop e w l=vt shop w.us l.lines (EY w.us.length w.us.length):=by
 rw[jg,ah (by grind),ah (by grind)]
end
def G2 (shop:List bJ)(us:List cL)(l:List eg)(c:List Int):Nat->List Int
 |0=>c
 |i+1=>(mH shop us l[i]! (G2 shop us l c i)).2
def Lj {shop:List bJ}{us:List cL}{l:List eg}{c:List Int}:∀i,(G2 shop us l c i).length=c.length
 |0=>rfl
 |i+1=>by rw[G2,Ym,Lj]
def uk (us:List cL):Nat->List D
 |0=>[]
 |i+1=>if 0<i then zF (vO us[i]!.name us[i]!.feat) (.int .i64 (i:Nat)) (uk us i)else []
def aeP {k v:D}(hk:vo k=true):∀{l:List D},wS l=true->wS (zF k v l)=true
 |[],_=>by simp[zF,wS,hk]
 |[_],h=>by simp[wS]at h
 |a::b::r,h=>by
  simp only[wS,aD]at h;rw[zF];cases pD a k
  .simp only[cond_false,wS,h.1,aeP hk h.2,Bool.and_self]
  .simp only[cond_true,wS,h.1,h.2,Bool.and_self]
def DG (us:List cL):∀i,wS (uk us i)=true
 |0=>rfl
 |i+1=>by
  rw[uk];split
  .exact aeP rfl (DG us i)
  .rfl
def N5 (a b c d:av):pD (vO a b) (vO c d)=(decide (a=c)&&decide (b=d)):=by
 simp only[pD,vO];rw[Bool.eq_iff_iff];simp
def QT {a:D}{c d:av}(h:pD a (vO c d)=true):a=vO c d:=by
 unfold pD vO at h;split at h
 .rename_i h1;simp only[D.agg.injEq,sE,D.str.injEq,dx,aD,beq_iff_eq]at h1 h;obtain⟨rfl,rfl⟩:=h1;rw[h.1,h.2];rfl
 .cases h
def Xp {a b c d:av}{v:D}:∀{l:List D},wS l=true->Nl (vO a b) (zF (vO c d) v l)=if a=c/\b=d then some v else Nl (vO a b) l
 |[],_=>by
  simp only[zF,Nl,N5];by_cases h:a=c/\b=d
  .rw[ak h];simp[h]
  .rw[ah h];have:(decide (c=a)&&decide (d=b))=false:=by grind
   rw[this];rfl
 |[_],h=>by simp[wS]at h
 |k::w::r,h=>by
  simp only[wS,aD]at h;rw[zF];cases hk:pD k (vO c d)
  .simp only[cond_false,Nl,Xp h.2];cases hk2:pD k (vO a b)
   .rfl
   .have:=QT hk2;subst this;rw[N5]at hk;have hn:¬(a=c/\b=d):=by grind
    simp only[ah hn]
  .have:=QT hk;subst this;simp only[cond_true,Nl,N5];by_cases h2:a=c/\b=d
   .rw[ak h2];simp[h2]
   .rw[ah h2];have:(decide (c=a)&&decide (d=b))=false:=by grind
    rw[this];rfl
end
def wJ:∀a b c:av,Op.bytesLess a b=true->Op.bytesLess b c=true->Op.bytesLess a c=true
 |[],[],_,h,_=>by simp[Op.bytesLess]at h
 |[],_::_,[],_,h=>by simp[Op.bytesLess]at h
 |[],_::_,_::_,_,_=>by simp[Op.bytesLess]
 |_::_,[],_,h,_=>by simp[Op.bytesLess]at h
 |_::_,_::_,[],_,h=>by simp[Op.bytesLess]at h
 |x::a,y::b,z::c,h1,h2=>by
  have ih:=wJ a b c;unfold Op.bytesLess at h1 h2⊢;have e1:=UInt8.lt_iff_toNat_lt (a:=x) (b:=y);have e2:=UInt8.lt_iff_toNat_lt (a:=y) (b:=z);have e3:=UInt8.lt_iff_toNat_lt (a:=x) (b:=z);have e4:=oZ (a:=x) (b:=y);have e5:=oZ (a:=y) (b:=z);have e6:=oZ (a:=x) (b:=z)
  grind
def Vs {a b c:cL}(h1:jz a b=true)(h2:jz b c=true):jz a c=true:=by
 have t1:=wJ a.name b.name c.name;have t2:=wJ a.feat b.feat c.feat;unfold jz at*
 grind
def tf {w:bT}(h:eu w=true){i:Nat}(hi:1<=i):∀{j:Nat},i<j->j<w.us.length->jz w.us[i]! w.us[j]! =true
 |0,h1,_=>absurd h1 (Nat.not_lt_zero _)
 |j+1,h1,h2=>by
  have h3:jz w.us[j]! w.us[j+1]! =true:=by
   simp only[eu,aD,bw,lg]at h;have:=(h.2 (j+1) (Nat.zero_le _) h2).1.1.2;simp only[cz,ed,cv,df,Nat.add_sub_cancel]at this;rcases this with h4|h4
   .omega
   .exact h4
  by_cases hij:i=j
  .subst hij;exact h3
  .exact Vs (tf h hi ae ae) h3
def yZ {w:bT}(h:eu w=true){a b:av}{i j:Nat}(hi:1<=i)(hij:i<j)(hj:j<w.us.length)(h1:nP a b w.us[i]! =true)(h2:nP a b w.us[j]! =true):False:=by
 have:=tf h hi hij hj;simp only[nP,aD,aW]at h1 h2;unfold jz at this;rw[h1.1,h1.2,h2.1,h2.2,mb,mb]at this;simp at this
def Zu {us:List cL}{a b:av}:∀{n:Nat},(∀i,1<=i->i<n->nP a b us[i]! =false)->Nl (vO a b) (uk us n)=none
 |0,_=>rfl
 |n+1,h=>by
  rw[uk];split
  .rename_i h0;have h1:=h n h0 ae;rw[Xp (DG us n),Zu (fun i h2 h3=>h i h2 ae)];simp only[nP]at h1;rw[ah (by grind)]
  .rfl
def Zv {w:bT}(hw:eu w=true){a b:av}{i:Nat}(hi:1<=i)(h:nP a b w.us[i]! =true):∀{n:Nat},i<n->n<=w.us.length->Nl (vO a b) (uk w.us n)=some (.int .i64 (i:Nat))
 |0,h1,_=>absurd h1 (Nat.not_lt_zero _)
 |n+1,h1,h2=>by
  rw[uk,ak ae,Xp (DG _ n)];by_cases hin:i=n
  .subst hin;simp only[nP,aD,aW]at h;rw[ak ⟨h.1.symm,h.2.symm⟩]
  .have h3:=Zv hw hi h (n:=n) ae ae;have h4:nP a b w.us[n]! =false:=by
    cases hc:nP a b w.us[n]!
    .rfl
    .exact(yZ hw hi ae ae h hc).elim
   simp only[nP]at h4;rw[h3,ah (by grind)]
def aiN {w:bT}(hw:eu w=true):Vf w.us (uk w.us w.us.length):=by
 refine⟨DG _ _,fun a b=>?_⟩;have hd:∀q,(w.us.drop 1)[q]! =w.us[1+q]! :=fun q=>by simp[List.getElem!_eq_getElem?_getD,Nat.add_comm]
 have hu:fN w.us a b=gu (nP a b) (w.us.drop 1) 1:=rfl;rcases eO (f:=nP a b) (l:=w.us.drop 1) (k:=1)with⟨h1,h2⟩|⟨j,h1,h2,h3,_⟩
 .rw[Zu (fun i h3 h4=>by have:=h2 (i-1) (by rw[jA];omega);rw[hd,show 1+(i-1)=i by omega]at this;exact this)];simp only[xR];rw[hu,h1];rfl
 .rw[hd]at h3;rw[jA]at h2;rw[Zv hw (i:=1+j) ae h3 ae (aO _)];simp only[xR];rw[hu,h1,ah ae,bo ae]
def PK {w:bT}(h:eu w=true):1<=w.us.length/\w.us.length<=48:=by
 simp only[eu,aD,aW]at h;exact h.1.1
def mB.fz (l k:Nat)(es:List Abs.D)(c:mB):iW l k es c.D=c.D:=gW l k es _ (by simp only[mB.D,D.aS,aL,gL])
def Ck:∀a b:av,Op.bytesLess a b=false->a≠b->Op.bytesLess b a=true
 |[],[],_,h=>absurd rfl h
 |[],_::_,h,_=>by simp[Op.bytesLess]at h
 |_::_,[],_,_=>by simp[Op.bytesLess]
 |x::a,y::b,h,hn=>by
  have ih:=Ck a b;unfold Op.bytesLess at h⊢;have e1:=UInt8.lt_iff_toNat_lt (a:=x) (b:=y);have e2:=UInt8.lt_iff_toNat_lt (a:=y) (b:=x);have e4:=oZ (a:=x) (b:=y)
  grind
def sS (a:Key):eP a a=false:=by unfold eP;rw[mb,mb];simp
def N8 {a b c:Key}(h1:eP a b=true)(h2:eP b c=true):eP a c=true:=by
 have t1:=wJ a.n b.n c.n;have t2:=wJ a.f b.f c.f;unfold eP at*
 grind
def GW {a b:Key}(h:eP a b=false)(hn:a≠b):eP b a=true:=by
 have t1:=Ck a.n b.n;have t2:=Ck a.f b.f;have hk:¬(a.n=b.n/\a.f=b.f):=fun h=>hn (by cases a;cases b;simp at h;simp[h.1,h.2])
 unfold eP at*
 grind
def W4 {k:Key}(h:k≠fD):eP fD k=true:=by
 refine GW ?_ h;unfold eP fD;cases k with
 |mk n f=>cases n<;>cases f<;>simp[Op.bytesLess]
def KS (l:List Key):Prop:=l.Pairwise fun a b=>eP a b=true
def qI {α:Type}{p:α->Bool}:∀(l:List α),∀x∈l.take (l.takeWhile p).length,p x=true
 |[],x,h=>by simp at h
 |a::r,x,h=>by
  rw[List.takeWhile_cons]at h;split at h
  .rename_i ha;simp only[bD,List.take_succ_cons,bF]at h;rcases h with rfl|h
   .exact ha
   .exact qI r x h
  .simp at h
def vN {α:Type} [Inhabited α]{p:α->Bool}:∀(l:List α),(l.takeWhile p).length<l.length->p l[(l.takeWhile p).length]! =false
 |[],h=>by simp at h
 |a::r,h=>by
  rw[List.takeWhile_cons]at h⊢;split
  .rename_i ha;rw[ak ha]at h;simp only[bD]at h⊢;have:=vN (p:=p) r ae;simpa using this
  .rename_i ha;simpa using ha
def K5 {α:Type} [Inhabited α]{lt:α->α->Prop}{p:α->Bool}{l:List α}{k:α}(htr:∀a b c,lt a b->lt b c->lt a c)(hl:l.Pairwise lt)(h1:∀x∈l,p x=true->lt x k)(h2:∀x∈l,p x=false->lt k x):
  ((l.take (l.takeWhile p).length++[k])++l.drop (l.takeWhile p).length).Pairwise lt:=by
 have hs:(l.take (l.takeWhile p).length++l.drop (l.takeWhile p).length).Pairwise lt:=by rw[List.take_append_drop];exact hl
 rw[List.pairwise_append]at hs;obtain⟨g1,g2,g3⟩:=hs;have e1:∀x∈l.take (l.takeWhile p).length,lt x k:=fun x hx=>h1 x (D6 hx) (qI l x hx)
 have e2:∀x∈l.drop (l.takeWhile p).length,lt k x:=by
  rcases dQ (l.takeWhile p).length l.length with h|h
  .have hd:=vN l h;have hlt:=h2 _ (aq h) hd;rw[eY h]at g2⊢;rw[show l[(l.takeWhile p).length]=l[(l.takeWhile p).length]! by simp[h]]at g2⊢;intro x hx;rcases bF.1 hx with rfl|hx
   .exact hlt
   .exact htr _ _ _ hlt ((List.pairwise_cons.1 g2).1 x hx)
  .rw[j2 h];intro x hx;cases hx
 rw[List.pairwise_append,List.pairwise_append];refine⟨⟨g1,List.pairwise_singleton _ _,fun a ha b hb=>?_⟩,g2,fun a ha b hb=>?_⟩
 .rw[aC.1 hb];exact e1 a ha
 .rcases List.mem_append.1 ha with ha|ha
  .exact htr _ _ _ (e1 a ha) (e2 b hb)
  .rw[aC.1 ha];exact e2 b hb
def TS {l:List Key}{k:Key}(hl:KS l):KS (r9 l k):=by
 unfold r9;split
 .exact hl
 .rename_i hn;have e:Et l k 0=(l.takeWhile fun x=>eP x k).length:=by unfold Et;rw[dI,cD]
  rw[e]at hn⊢;by_cases hk:k∈l
  ·
   exfalso;refine hn ?_;have hlt:(l.takeWhile fun x=>eP x k).length<l.length:=by
    rcases dQ (l.takeWhile fun x=>eP x k).length l.length with h|h
    .exact h
    .have:=qI (p:=fun x=>eP x k) l k (by rw[gK h];exact hk);rw[sS]at this;cases this
   refine⟨hlt, ?_⟩;have hd:=vN (p:=fun x=>eP x k) l hlt;by_cases hq:l[(l.takeWhile fun x=>eP x k).length]! =k
   .exact hq
   .have h3:=GW hd hq;have hs:(l.take (l.takeWhile fun x=>eP x k).length++l.drop (l.takeWhile fun x=>eP x k).length).Pairwise fun a b=>eP a b=true:=by rw[List.take_append_drop];exact hl
    rw[List.pairwise_append]at hs;have hk2:k∈l.take (l.takeWhile fun x=>eP x k).length\/k∈l.drop (l.takeWhile fun x=>eP x k).length:=by rw[<-List.mem_append,List.take_append_drop];exact hk
    rcases hk2 with h4|h4
    .have:=qI (p:=fun x=>eP x k) l k h4;rw[sS]at this;cases this
    .obtain⟨_,g2,_⟩:=hs;rw[eY hlt,show l[(l.takeWhile fun x=>eP x k).length]=l[(l.takeWhile fun x=>eP x k).length]! by simp[hlt]]at g2 h4;rcases bF.1 h4 with h5|h5
     .exact absurd h5.symm hq
     .have h6:=(List.pairwise_cons.1 g2).1 k h5;have:=N8 h3 h6;rw[sS]at this;cases this
  .refine K5 (lt:=fun a b=>eP a b=true) (p:=fun x=>eP x k) (fun a b c h1 h2=>N8 h1 h2) hl (fun x _ h=>h) (fun x hx h=>GW h fun e=>hk (e▸hx))
def NmK (k:Key):Prop:=k=fD\/k.n≠[]
structure Kq (s:oL):Prop where
 sort:KS s.all
 nm:∀k∈s.all,NmK k
def ajV {s:oL}{a:je}(h:Kq s)(ha:a.k.n≠[]):Kq (mg s a):=by
 have hm:=(Hy s a).1;refine⟨?_,fun k hk=>?_⟩
 .unfold mg;split
  .exact TS h.sort
  .exact h.sort
 .rcases(hm k).1 hk with h1|rfl
  .exact h.nm k h1
  .exact .inr ha
def YK:∀(row:fJ) (s:oL),(∀a∈row,a.k.n≠[])->Kq s->Kq (row.foldl mg s)
 |[],s,_,h=>h
 |b::r,s,hn,h=>YK r _ (fun a ha=>hn a (.tail _ ha)) (ajV h (hn b (.head _)))
def YM:∀(l:List fJ) (s:oL),(∀row∈l,∀a∈row,a.k.n≠[])->Kq s->Kq (OO s l)
 |[],s,_,h=>h
 |b::r,s,hn,h=>YM r _ (fun row hr=>hn row (.tail _ hr)) (YK b s (hn b (.head _)) h)
def YL {y:cx}(hy:∀k,∀row∈cT y k,∀a∈row,a.k.n≠[]):∀(n:Nat){s:oL}{all:List Key},Kq s->AL y n s=some all->Kq ⟨all,[]⟩
 |0,s,all,_,h=>by cases h
 |n+1,s,all,hI,h=>by
  rw[AL]at h;split at h
  .obtain rfl:=aV h;exact⟨hI.sort,hI.nm⟩
  .split at h
   .cases h
   .exact YL hy n (s:=AM y s) (YM (cT y s.todo[0]!) ⟨s.all,s.todo.drop 1⟩ (hy _) ⟨hI.sort,hI.nm⟩) h
def Vg (l:List fJ):Prop:=∀row∈l,∀a∈row,a.k.n≠[]
def Rj {a b:List fJ}(h1:Vg a)(h2:Vg b):Vg (a++b):=fun r hr=>(List.mem_append.1 hr).elim (h1 r) (h2 r)
def wV {α:Type}{f:α->List fJ}{l:List α}(h:∀x∈l,Vg (f x)):Vg (l.flatMap f):=fun r hr=>by
 obtain⟨x,hx,hr⟩:=List.mem_flatMap.1 hr;exact h x hx r hr
def He {k:Key}{s:cr}(h:k.n≠[]):Vg [[⟨k,s⟩]]:=fun r hr b hb=>by
 rw[aC.1 hr]at hb;rw[aC.1 hb];exact h
def rV {s:av}(h:dd s=true):s≠[]:=by
 rintro rfl;revert h;decide
def CU {r:Rec}(h:Bz r):r.name≠[]:=rV h.1.1.1
def pL {r:Rec}(h:Bz r):∀n∈r.needs,∀w∈n.any,dd w.name=true:=by
 intro n hn w hw;obtain⟨⟨_,_,hp⟩,_⟩:=h;have h0:(lz r).1=0:=by grind [ea]
 obtain⟨i,hi,rfl⟩:=fQ hn;have h3:=qj h0 i hi;obtain⟨j,hj,rfl⟩:=fQ hw;have h4:nv r r.needs[i]!.any=0:=by grind [js]
 have h5:=BX h4 j hj
 grind [lh,gB]
def DH (w:cZ):∀k∈eV w,k.n=w.name:=by
 intro k hk;unfold eV at hk;rcases List.mem_append.1 hk with h|h
 .split at h
  .split at h
   .rw[aC.1 h]
   .cases h
  .rw[aC.1 h]
 .obtain⟨f,_,rfl⟩:=bW.1 h;rfl
def MD {n:bj}(hn:vW n)(h:∀w∈n.any,dd w.name=true):Vg (iA n):=by
 unfold iA;split
 .intro r hr a ha;obtain⟨k,hk,rfl⟩:=bW.1 hr;rw[aC.1 ha,DH _ k hk];exact rV (h _ (aq hn.1.1))
 .intro r hr a ha;rw[aC.1 hr]at ha;obtain⟨w,hw,rfl⟩:=bW.1 ha;rw[DH w _ (aq (oc w).1)];exact rV (h w hw)
def Rq {r:Rec}(h:Bz r)(e:Env)(o:av):Vg (qx r.needs e o):=wV fun n hn=>by
 unfold AI;split
 .exact MD ((gh h).2 n hn) (pL h n hn)
 .intro q hq;cases hq
def Yf {r:Rec}(h:Bz r)(e:Env)(nm ft:av):Vg (iN r.needs e nm ft):=wV fun n hn=>by
 have hN:=(gh h).2 n hn;unfold qX;split
 .rename_i hc;refine Rj ?_ (He ?_)
  .split
   .intro q hq;cases hq
   .exact MD hN (pL h n hn)
  .show nm≠[];rw[<-hc.1.2];exact rV (pL h n hn _ (aq hN.1.1))
 .intro q hq;cases hq
def Fm {r:Rec}(h:Bz r)(e:Env)(ft:av):Vg (cH r e ft):=by
 unfold cH;split
 .exact Rq h e []
 .refine Rj (He (CU h)) (wV fun s _=>?_);unfold lZ;split
  .exact He (CU h)
  .split
   .exact Rq h e _
   .exact Yf h e _ _
def ME {y:cx}(hy:pe y)(k:Key):Vg (cT y k):=by
 unfold cT;split
 .obtain⟨⟨⟨m,hm,hM⟩,_⟩,_⟩:=hy;intro r hr a ha;rw[hm]at hr;rw[aC.1 hr]at ha;rw[aC.1 ha];exact CU (Ba hM)
 .exact wV fun x hx=>Fm ((wY hy k).2 x hx).1 y.e k.f
def Hz {y:cx}(hy:pe y){all:List Key}(h:mI y=some all):KS all/\∀k∈all,NmK k:=by
 have:=YL (ME hy) 49 (s:=nq) ⟨by simp[KS,nq],fun k hk=>.inl (by simpa[nq]using hk)⟩ h;exact⟨this.sort,this.nm⟩
def all_zero {all:List Key}(hs:KS all)(hz:fD∈all):all[0]! =fD/\0<all.length:=by
 have h0:=List.length_pos_of_mem hz;refine⟨?_,h0⟩;cases all with
 |nil=>cases hz
 |cons a r=>
  show a=fD;rcases bF.1 hz with h|h
  .exact h.symm
  .have h1:=(List.pairwise_cons.1 hs).1 fD h;by_cases he:a=fD
   .exact he
   .have:=N8 h1 (W4 he);rw[sS]at this;cases this
def sX {all:List Key}(hs:KS all)(hz:fD∈all){k:Key}(hk:k≠fD):¬ec all k=0:=by
 intro h;unfold ec at h;rcases eO (f:=fun x=>decide (x=k)) (l:=all) (k:=0)with⟨h1,_⟩|⟨j,h1,_,h3,_⟩
 .rw[h1]at h;cases h
 .rw[h1]at h;obtain rfl:j=0:=ae;rw[(all_zero hs hz).1]at h3;exact hk (of_decide_eq_true h3).symm
def ZG:∀a∈bN,∀b∈bN,iz a b<0\/a=b\/iz b a<0:=by decide+kernel
def R8:∀a∈bN,∀b∈bN,∀c∈bN,iz a b<0->iz b c<0->iz a c<0:=by decide+kernel
def Vp (shop:List bJ):Prop:=∀s∈shop,∀x∈s.es,x.r.v∈bN
def Zh {s:bJ}(h:gQ s=true){i j:Nat}(hij:i<j)(hj:j<s.es.length)(hn:s.es[i]!.r.name=s.es[j]!.r.name)(hv:gA s.es[j]!.r.v=true):¬s.es[i]!.r.v=s.es[j]!.r.v:=by
 intro e;simp only[gQ,aD,bw,rH,aW]at h;have h1:=(h.2 j (Nat.zero_le _) hj).2;rw[X3]at h1;have h2:=h1 s.es[i]! (by
  have:i<(s.es.take j).length:=by rw[ek];omega
  have h3:=aq this;rw[List.getElem!_eq_getElem?_getD,List.getElem?_take_of_lt hij,<-List.getElem!_eq_getElem?_getD]at h3;exact h3)
 unfold K6 at h2;rw[bo hn,e,Ft hv]at h2;cases h2
def ltE (es:List ki)(a b:Int):Prop:=(es[a.toNat]!.r.v∈bN/\es[b.toNat]!.r.v∈bN)/\iz es[a.toNat]!.r.v es[b.toNat]!.r.v<0
def aiL {es:List ki}(a b c:Int)(h1:ltE es a b)(h2:ltE es b c):ltE es a c:=⟨⟨h1.1.1,h2.1.2⟩,R8 _ h1.1.1 _ h1.1.2 _ h2.1.2 h1.2 h2.2⟩
def vu {s:bJ}(h:gQ s=true)(hv:∀x∈s.es,x.r.v∈bN)(nm:av):∀i,i<=s.es.length->(eA s.es nm i).Pairwise (ltE s.es)/\∀x∈eA s.es nm i,s.es[x.toNat]!.r.name=nm
 |0,_=>⟨List.Pairwise.nil,fun x hx=>(by cases hx)⟩
 |i+1,hi=>by
  obtain⟨h1,h2⟩:=vu h hv nm i ae;rw[eA];split
  .rename_i hn;have hiv:=hv _ (aq (show i<s.es.length by omega));have hvb:gA s.es[i]!.r.v=true:=(wB _ hiv).2;have hin:=(wM s.es nm i).2;refine⟨?_,fun x hx=>?_⟩
   .unfold GU AD;rw[dI,cD];refine K5 (lt:=ltE s.es) aiL h1 (fun x hx hp=>?_) (fun x hx hp=>?_)
    .have:=hin x hx;rw[aW]at hp;refine⟨⟨hv _ (aq ae), ?_⟩, ?_⟩<;>rw[Int.toNat_natCast]
     .exact hiv
     .exact hp
    .have hxr:=hin x hx;have hxv:=hv _ (aq (show x.toNat<s.es.length by omega));rw[cv]at hp;refine⟨⟨?_,hxv⟩, ?_⟩<;>rw[Int.toNat_natCast]
     .exact hiv
     .rcases ZG _ hxv _ hiv with h3|h3|h3
      .exact absurd h3 hp
      .exact absurd h3 (Zh h (show x.toNat<i by omega) ae (by rw[h2 x hx,hn]) hvb)
      .exact h3
   .rcases K4 hx with h3|h3
    .exact h2 x h3
    .rw[h3,Int.toNat_natCast];exact hn
  .exact⟨h1,h2⟩
def yv {y:cx}{nm:av}{a:Nat}:∀(l:List Int),(iM y nm a l).Sublist (l.map fun i=>⟨y.shop[a]!.es[i.toNat]!.r,(a:Int)⟩)
 |[]=>List.Sublist.slnil
 |i::r=>by
  rw[iM,List.map_cons];split
  .exact(yv r).cons₂ _
  .exact(yv r).cons _
def RcLt (a b:ub):Prop:=iz a.r.v b.r.v<0
def Tv {y:cx}(h:pe y)(hv:Vp y.shop)(nm:av):(dE y nm).Pairwise RcLt:=by
 unfold dE;split
 .exact List.pairwise_singleton _ _
 .split
  .exact List.Pairwise.nil
  .rename_i h1;have h1:(cE y.shop y.pins nm).2.2=0:=Classical.not_not.1 h1;have h2:(fS y.shop y.pins nm).2=0:=by
    unfold cE at h1;split at h1
    .rename_i h3;exact absurd h1 h3
    .rename_i h3;exact Classical.not_not.1 h3
   obtain⟨hB,j,hj,hjl⟩:=pz h2;have e1:cE y.shop y.pins nm=((j:Int),j7 y.shop[j]! nm,0):=by
    unfold cE;rw[ah (fun h=>h h2),hj,Int.toNat_natCast]
   rw[e1];simp only[Int.toNat_natCast];have hs:=HW hB hjl;have e2:j7 y.shop[j]! nm=eA y.shop[j]!.es nm y.shop[j]!.es.length:=by unfold j7;rw[hs,ah aF]
   rw[e2];have h3:=(vu hs (hv _ (aq hjl)) nm _ (aO _)).1;refine List.Pairwise.sublist (yv _) ?_;rw[List.pairwise_map];exact h3.imp fun h=>h.2
def ac3 {y:cx}(h:pe y)(hv:Vp y.shop)(k:Key):(eF y k).Pairwise RcLt:=List.Pairwise.sublist List.filter_sublist (Tv h hv k.n)
def Cm {y:cx}(h:pe y)(hv:Vp y.shop)(hm:∀m∈y.l,m.r.v∈bN)(nm:av):∀x∈dE y nm,x.r.v∈bN:=by
 unfold dE;split
 .rename_i h0;intro x hx;rw[aC.1 hx];obtain⟨j,hj,hjl⟩:=(qy y.l nm).resolve_left ae;rw[hj,Int.toNat_natCast];exact hm _ (aq hjl)
 .split
  .intro x hx;cases hx
  .rename_i h1;have h1:(cE y.shop y.pins nm).2.2=0:=Classical.not_not.1 h1;have h2:(fS y.shop y.pins nm).2=0:=by
    unfold cE at h1;split at h1
    .rename_i h3;exact absurd h1 h3
    .rename_i h3;exact Classical.not_not.1 h3
   obtain⟨hB,j,hj,hjl⟩:=pz h2;have e1:cE y.shop y.pins nm=((j:Int),j7 y.shop[j]! nm,0):=by
    unfold cE;rw[ah (fun h=>h h2),hj,Int.toNat_natCast]
   rw[e1];simp only[Int.toNat_natCast];intro x hx;obtain⟨⟨i,hi,e⟩,_⟩:=(pE (y:=y) (nm:=nm) (a:=j) _).2 x hx;have:=(rR y.shop[j]! nm).2 i hi;rw[e];exact hv _ (aq hjl) _ (aq ae)
def Vq (n:Nat)(w:Want):Prop:=(0<w.u/\w.u<(n:Int))/\vH w.s=true
def F5 {n:Nat}{l:List Want}(h:∀w∈l,Vq n w):oX (n:Int) l=true:=by
 unfold oX;rw[bw];intro j _ hj;obtain⟨⟨h1,h2⟩,h3⟩:=h _ (aq hj);unfold sy;rw[bo h1,bo h2,h3];rfl
def KA {n:Nat}{c:en}(h1:c.needs.length<=24)(h2:c.bars.length<=24)(h3:∀r∈c.needs,(0<r.length/\r.length<=24)/\∀w∈r,Vq n w)(h4:∀w∈c.bars,Vq n w):mO (n:Int) c=true:=by
 unfold mO;rw[bo h1,bo h2,F5 h4,gL,ew,ew,bw];intro j _ hj;obtain⟨⟨h5,h6⟩,h7⟩:=h3 _ (aq hj);unfold ra;rw[F5 h7,bo h5,bo h6];rfl
def adI {s:cr}{v:bX}(hv:v∈bN)(h:s∈gN\/s=dz v):vH s=true:=by
 rcases h with h|rfl
 .exact MK _ h
 .exact(wB v hv).1
structure qa (y:cx):Prop where
 p:pe y
 v:Vp y.shop
 m:∀m∈y.l,m.r.v∈bN
def G8 {k:Key}(h:k.n≠[]):k≠fD:=fun e=>h (by rw[e];rfl)
def VJ {y:cx}{all:List Key}{k:Key}{x:ub}(hx:Bz x.r)(hxv:x.r.v∈bN)(hz:fD∈all)(hs:KS all)(hcl:∀row∈cH x.r y.e k.f,∀a∈row,a.k∈all)(hw:oe (dM y all k x)=false):mO (all.length:Int) (dM y all k x)=true:=by
 have hC:=Qx hx hcl hw;have h1:=Cw x.r y.e k.f;have hnm:=Fm hx y.e k.f;refine KA hC.1.2.1 hC.1.2.2 (fun r hr=>?_) (fun w hwb=>?_)
 .have h2:=hC.2.1 r hr;refine⟨ae,fun w hwr=>?_⟩;have h3:=h2.2 w hwr;obtain⟨q,hq,rfl⟩:=pP hr;obtain⟨a,ha,rfl⟩:=bW.1 hwr;have h4:=sX hs hz (G8 (hnm q hq a ha));dsimp only at h3⊢;exact⟨⟨mz,h3.2⟩,adI hxv (h1 q hq a ha)⟩
 .have h3:=hC.2.2 w hwb;have hwb:w∈(if k.f=[]then we all x.r y.e else []):=hwb;split at hwb
  .obtain⟨b,hb,hwb2⟩:=List.mem_flatMap.1 hwb;unfold qb at hwb2;split at hwb2
   .rw[aC.1 hwb2]at h3⊢;have hbn:b.name≠[]:=by
     obtain⟨⟨_,_,hp⟩,_⟩:=hx;have h0:(uw x.r).1=0:=by grind [ea]
     obtain⟨i,hi,rfl⟩:=fQ hb;have h5:=qj h0 i hi;have h6:dd x.r.bars[i]!.name=true:=by grind [rv,gB]
     exact rV h6
    have h4:=sX hs hz (G8 (k:=⟨b.name,[]⟩) hbn);dsimp only at h3;exact⟨⟨mz,h3.2⟩,adE _⟩
   .cases hwb2
  .cases hwb
def SX {y:cx}{all:List Key}{k:Key}(hy:qa y)(hz:fD∈all)(hs:KS all)(hcl:∀row∈cT y k,∀a∈row,a.k∈all)(h:(eh y all k).2=true):
  (k=fD->(eh y all k).1.length=1)/\∀i,i<(eh y all k).1.length->mP all.length (eh y all k).1 i=true:=by
 have hC:=yf hy.p hcl h;unfold eh at*
 by_cases hk:k=fD
 .rw[ak hk]at hC⊢;refine⟨fun _=>rfl,fun i hi=>?_⟩;obtain rfl:i=0:=by simpa using hi
  have hrow:cT y k=eC y.l:=by unfold cT;rw[ak hk]
  have hnm:=ME hy.p k;rw[hrow]at hcl hnm;obtain⟨⟨hsm,h24,hb24⟩,hn,hb⟩:=hC.2 _ (.head _);unfold mP;show(gA zV&&mO (all.length:Int) ⟨zV,-1,dy all (eC y.l),[]⟩&& !(decide (0<0)&&_))=true;rw[show gA zV=true by decide,KA h24 hb24 (fun r hr=>?_) (fun w hw=>by cases hw)]
  .rfl
  .have h2:=hn r hr;refine⟨ae,fun w hwr=>?_⟩;have h3:=h2.2 w hwr;obtain⟨q,hq,rfl⟩:=pP hr;obtain⟨a,ha,rfl⟩:=bW.1 hwr;have h4:=sX hs hz (G8 (hnm q hq a ha));refine⟨⟨by dsimp only at h3⊢;omega,h3.2⟩, ?_⟩;obtain⟨⟨⟨m,hm,hM⟩,_⟩,_⟩:=hy.p;have hmv:=hy.m m (by rw[hm];simp);rw[hm]at hq;rw[aC.1 hq]at ha;rw[aC.1 ha];exact(wB _ hmv).1
 .rw[ah hk]at h⊢;refine⟨fun e=>absurd e hk, ?_⟩;have hrow:cT y k=(eF y k).flatMap fun x=>cH x.r y.e k.f:=by unfold cT;rw[ah hk]
  rw[hrow]at hcl;split at h
  .cases h
  .rename_i hw;rw[ah hw];intro i hi;dsimp only at hi⊢;have hi2:i<(eF y k).length:=by simpa using hi
   have e:((eF y k).map (dM y all k))[i]! =dM y all k (eF y k)[i]! :=fC hi2;have hx:=aq hi2;have hlk:(eF y k)[i]! ∈dE y k.n:=(List.mem_filter.1 hx).1;have hv:=Cm hy.p hy.v hy.m k.n _ hlk;have hcw:oe (dM y all k (eF y k)[i]!)=false:=by
    cases hq:oe (dM y all k (eF y k)[i]!)with
    |false=>rfl
    |true=>exact absurd (List.any_eq_true.2 ⟨_,bW.2 ⟨_,hx,rfl⟩,hq⟩) hw
   unfold mP;rw[e,VJ ((wY hy.p k).2 _ hx).1 hv hz hs (fun row hr a ha=>hcl row (List.mem_flatMap.2 ⟨_,hx,hr⟩) a ha) hcw];rw[show gA (dM y all k (eF y k)[i]!).v=true from(wB _ hv).2,ew,ew,cz];by_cases h0:0<i
   .rw[fC (show i-1<(eF y k).length by omega)];have hp:=List.pairwise_iff_getElem.1 (ac3 hy.p hy.v k) (i-1) i ae hi2 ae;unfold RcLt at hp;rw[<-getElem!_pos (eF y k) (i-1) ae,<-getElem!_pos (eF y k) i hi2]at hp;have hq:¬0<=iz (dM y all k (eF y k)[i-1]!).v (dM y all k (eF y k)[i]!).v:=by
     have:iz (dM y all k (eF y k)[i-1]!).v (dM y all k (eF y k)[i]!).v=iz (eF y k)[i-1]!.r.v (eF y k)[i]!.r.v:=rfl;omega
    rw[bG hq,Bool.and_false]
   .rw[bG h0,Bool.false_and]
def DQ {y:cx}(hy:qa y)(h:(ei y).2=true):eu (ei y).1=true:=by
 obtain⟨all,hr,hus,hc,hB⟩:=sA hy.p h;obtain⟨hz,h48,hcl⟩:=sc hr;obtain⟨hs,hnm⟩:=Hz hy.p hr;obtain⟨h0,hpos⟩:=all_zero hs hz;have hl:(ei y).1.us.length=all.length:=by rw[hus,bg]
 have hat:∀i,i<all.length->(ei y).1.us[i]! =rj y all all[i]! :=fun i hi=>by rw[hus,fC hi]
 have hcv:∀i,i<all.length->_:=fun i hi=>SX hy hz hs (hcl _ (aq hi)) (hc i hi)
 unfold eu;rw[hl,bo (show 1<=all.length by omega),bo h48,ew,ew,aD];constructor
 .unfold uA;rw[hat 0 hpos,h0];have:=(hcv 0 hpos).1 h0;rw[h0]at this;show(decide (([]:av)=[])&&decide (([]:av)=[])&&decide ((eh y all fD).1.length=1))=true;rw[bo this];rfl
 .rw[bw];intro i _ hi;unfold lg;rw[hat i hi];have h16:=(yf hy.p (hcl _ (aq hi)) (hc i hi)).1;have hlen:(ei y).1.us.length=all.length:=hl;rw[aD,aD,aD];refine⟨⟨⟨?_, ?_⟩,bo h16⟩, ?_⟩
  .by_cases hi0:0<i
   .have:all[i]!.n≠[]:=by
     rcases hnm _ (aq hi)with e|e
     .exfalso;have:=List.pairwise_iff_getElem.1 hs 0 i hpos hi hi0;rw[<-getElem!_pos all 0 hpos,<-getElem!_pos all i hi,h0,e,sS]at this;cases this
     .exact e
    show(!(decide (0<i)&&decide (all[i]!.n=[])))=true;rw[bG this,Bool.and_false];rfl
   .rw[bG hi0];rfl
  .by_cases hi1:1<i
   .rw[hat (i-1) ae];have:=List.pairwise_iff_getElem.1 hs (i-1) i ae hi ae;rw[<-getElem!_pos all (i-1) ae,<-getElem!_pos all i hi]at this;have e:jz (rj y all all[i-1]!) (rj y all all[i]!)=true:=this;rw[e];simp
   .rw[bG hi1];rfl
  .rw[bw,hlen];intro j _ hj;exact(hcv i hi).2 j hj
section
structure vU (w:bT)(c:List Int):Prop where
 l:c.length=w.us.length
 z:c[0]! =0
 f:∀i,i<w.us.length->-1<=c[i]! /\c[i]! <(w.us[i]!.cands.length:Int)
def Dk {c:List Int}{j i:Nat}{v:Int}(hj:j<c.length):(c.set j v)[i]! =if i=j then v else c[i]! :=by
 simp only[List.getElem!_eq_getElem?_getD,List.getElem?_set]
 grind
def vU.set {w:bT}{c:List Int}{j k:Nat}(h:vU w c)(h1:1<=j)(hj:j<w.us.length)(hk:k<w.us[j]!.cands.length):vU w (c.set j (k:Int)):=by
 have hl:j<c.length:=by have:=h.l;omega
 refine⟨by rw[List.length_set,h.l],by rw[Dk hl,ah ae];exact h.z,fun i hi=>?_⟩;rw[Dk hl];split
 .rename_i e;subst e;omega
 .exact h.f i hi
def X6 {w:bT}{a b:av}{v:bX}{t:Bool}{c:List Int}(h:vU w c)(h2:¬me w.us (fN w.us a b) v t<0):vU w (c.set (fN w.us a b).toNat (me w.us (fN w.us a b) v t)):=by
 rcases LO (us:=w.us) (u:=fN w.us a b) (v:=v) (t:=t)with h3|⟨j,k,h3,h4,h5⟩
 .omega
 .rcases DI (us:=w.us) (a:=a) (b:=b)with h6|⟨i,h6,h7,h8⟩
  .omega
  .rw[h4,h3,Int.toNat_natCast];exact h.set ae ae h5
def KV {w:bT}{x:eg}:∀{l:List av}{c:List Int},vU w c->vU w (vi w.us x l c).2
 |[],c,h=>h
 |f::r,c,h=>by
  rw[vi];split
  .exact h
  .rename_i h2;exact KV (X6 h h2)
def Yl {shop:List bJ}{w:bT}{x:eg}{c:List Int}(h:vU w c):vU w (mH shop w.us x c).2:=by
 unfold mH;split
 .exact h
 .rename_i h2;split
  .exact h
  .exact KV (X6 h h2)
def Lk {shop:List bJ}{w:bT}:∀{l:List eg}{c:List Int},vU w c->(vt shop w.us l c).2.1=0->vU w (vt shop w.us l c).1
 |[],c,h,_=>h
 |x::r,c,h,h2=>by
  rw[vt]at h2⊢;split at h2
  .rename_i h3;exact absurd h2 h3
  .rename_i h3;rw[ah h3];exact Lk (Yl h) h2
def GA {n i:Nat}(h:i<n):(EY n n)[i]! =if 1<=i then-1 else 0:=by
 simp only[EY,List.getElem!_eq_getElem?_getD,List.getElem?_map,List.getElem?_range h]
 grind
def abt {w:bT}(h:eu w=true):vU w (EY w.us.length w.us.length):=by
 have h1:=PK h;have h0:w.us[0]!.cands.length=1:=by
  simp only[eu,uA,aD,aW]at h;exact h.1.2.2
 refine⟨A1 _ _,by rw[GA ae];rfl,fun i hi=>?_⟩;rw[GA hi];split
 .omega
 .have:i=0:=ae;subst this;omega
def aby {shop:List bJ}{e:Env}{w:bT}{l:mB}(h:(jg shop e w l).2.1=0):eu w=true/\vU w (jg shop e w l).1:=by
 unfold jg at h⊢;split at h
 .cases h
 .rename_i h1;rw[ah h1];split at h
  .cases h
  .rename_i h2;rw[ah h2];have hw:eu w=true:=by grind
   exact⟨hw,Lk (abt hw) h⟩
def acA {w:bT}{c:List Int}(hw:eu w=true)(h:vU w c):eB w c=true:=by
 simp only[eB,uf,Aw,hw,ew,aD,aW,bw];exact⟨h.l,fun i _ hi=>h.f i (by have:=h.l;omega)⟩
def UE {w:bT}{c:List Int}{f:vT}(h:f∈jN w c)(hl:c.length=w.us.length):0<=f.unit/\f.unit<(w.us.length:Int):=by
 unfold jN at h;split at h
 .cases h
 .simp only[fY,List.mem_flatMap,List.mem_range]at h;obtain⟨u,hu,h⟩:=h;split at h
  .cases h
  .simp only[AG,fG,jT,List.mem_append,List.mem_flatMap,List.mem_range]at h;have:f.unit=(u:Int):=by
    rcases h with⟨k,_,h⟩|⟨k,_,h⟩<;>split at h<;>first|(cases h;done)|(rw[aC.1 h])
   omega
def At (shop:List bJ)(e:Env)(w:bT)(l:mB):Int×av:=
 if(jg shop e w l).2.1≠0 then(jg shop e w l).2 else if(jN w (jg shop e w l).1).length=0 then(0,[])else(35,w.us[(jN w (jg shop e w l).1)[0]!.unit.toNat]!.name)
section
variable {shop:List bJ} {e:Env} {w:bT} {l:mB}
def chk_a (h:¬(jg shop e w l).2.1=0):At shop e w l=((jg shop e w l).2.1,(jg shop e w l).2.2):=by rw[At,ak h]
def aeu (h:(jg shop e w l).2.1=0)(h2:(jN w (jg shop e w l).1).length=0):At shop e w l=(0,[]):=by rw[At,ah fR,ak h2]
def chk_c (h:(jg shop e w l).2.1=0)(h2:¬(jN w (jg shop e w l).1).length=0):At shop e w l=((35:Int),w.us[(jN w (jg shop e w l).1)[0]!.unit.toNat]!.name):=by rw[At,ah fR,ah h2]
def abz (hw:w.sm)(h:(jg shop e w l).2.1=0):WrgP w (jg shop e w l).1/\eB w (jg shop e w l).1=true/\(0<(jN w (jg shop e w l).1).length->0<=(jN w (jg shop e w l).1)[0]!.unit/\(jN w (jg shop e w l).1)[0]!.unit<(w.us.length:Int)):=by
 obtain⟨h1,h2⟩:=aby h;exact⟨⟨hw,by rw[h2.z];exact Int.le_refl _⟩,acA h1 h2,fun h3=>UE (aq h3) h2.l⟩
end
end
section
def fL (us:List cL)(c:List Int)(nm:av):Nat->List av
 |0=>[]
 |i+1=>if 0<i/\((us[i]!.name=nm/\¬us[i]!.feat=[])/\0<=c[i]!)then fL us c nm i++[us[i]!.feat]else fL us c nm i
def lT (us:List cL)(c:List Int)(u:Nat):List av:=fL us c us[u]!.name us.length
def eQ (shop:List bJ)(us:List cL)(c:List Int)(u:Nat)(x:en):eg×Int:=
 if x.sh=-1 then(⟨us[u]!.name,x.v,[],0,lT us c u⟩,0)else if x.sh<0\/(shop.length:Int)<=x.sh then(default,12)
 else if jE shop[x.sh.toNat]! us[u]!.name x.v<0 then(default,9)
 else(⟨us[u]!.name,x.v,shop[x.sh.toNat]!.name,shop[x.sh.toNat]!.es[(jE shop[x.sh.toNat]! us[u]!.name x.v).toNat]!.sum,lT us c u⟩,0)
def fw (us:List cL)(c:List Int)(u:Nat):en:=us[u]!.cands[c[u]!.toNat]!
def iB (us:List cL)(c:List Int)(u:Nat):Bool:=(decide (u=0) ||decide (c[u]! <0)) ||!decide (us[u]!.feat=[])
def dt (shop:List bJ)(us:List cL)(c:List Int):Nat->List eg×Int
 |0=>([],0)
 |i+1=>if(dt shop us c i).2≠0 then dt shop us c i else if iB us c i=true then dt shop us c i
  else if(eQ shop us c i (fw us c i)).2≠0 then([],(eQ shop us c i (fw us c i)).2)else((dt shop us c i).1++[(eQ shop us c i (fw us c i)).1],0)
def GZ:mB:=⟨⟨[],[],[]⟩,[]⟩
def gv (shop:List bJ)(w:bT)(c:List Int):List eg×Int:=dt shop w.us c w.us.length
def EA (shop:List bJ)(e:Env)(w:bT)(c:List Int):mB×Int:=
 if((eu w=false\/eJ shop=false)\/nK e=false)\/eB w c=false then(GZ,1)else if ¬(jN w c).length=0 then(GZ,37)
 else if ¬(gv shop w c).2=0 then(GZ,(gv shop w c).2)else(⟨e,(gv shop w c).1⟩,0)
section
variable {shop:List bJ} {us:List cL} {c:List Int} {i n:Nat}
def Ff (h:¬(dt shop us c i).2=0):∀{n:Nat},i<=n->dt shop us c n=dt shop us c i
 |0,hn=>by obtain rfl:i=0:=ae
           rfl
 |n+1,hn=>by
  rcases dQ n i with h1|h1
  .obtain rfl:i=n+1:=ae;rfl
  .have ih:=Ff h h1;rw[dt,ak (by rw[ih];exact h),ih]
def Oe (h0:(dt shop us c i).2=0)(h:iB us c i=true):dt shop us c (i+1)=dt shop us c i:=by
 rw[dt,ah (fun h=>h h0),ak h]
def Tu (h0:(dt shop us c i).2=0)(h:iB us c i=false){z:eg×Int}(hz:eQ shop us c i (fw us c i)=z)(h2:¬z.2=0):dt shop us c (i+1)=([],z.2):=by
 subst hz;rw[dt,ah (fun h=>h h0),ah fR,ak h2]
def Fe (h0:(dt shop us c i).2=0)(h:iB us c i=false){x:eg}(hz:eQ shop us c i (fw us c i)=(x,0)):dt shop us c (i+1)=((dt shop us c i).1++[x],0):=by
 rw[dt,ah (fun h=>h h0),ah fR,hz,ah (fun h=>h rfl)]
def sT:∀i,(dt shop us c i).1.length<=i
 |0=>aO _
 |i+1=>by
  have:=sT i;rw[dt];split
  .omega
  .split
   .omega
   .split
    .simp
    .rw[cn,List.length_singleton];omega
def va (nm:av):∀i,(fL us c nm i).length<=i
 |0=>aO _
 |i+1=>by
  have:=va nm i;rw[fL];split
  .rw[cn,List.length_singleton];omega
  .omega
def Wk {nm:av}(h:0<i/\((us[i]!.name=nm/\¬us[i]!.feat=[])/\0<=c[i]!)):fL us c nm (i+1)=fL us c nm i++[us[i]!.feat]:=by rw[fL,ak h]
def Wj {nm:av}(h:¬(0<i/\((us[i]!.name=nm/\¬us[i]!.feat=[])/\0<=c[i]!))):fL us c nm (i+1)=fL us c nm i:=by rw[fL,ah h]
end
end
section
def Ec (a b:List Bool):Prop:=a.length=b.length/\∀i:Nat,i<a.length->a[i]! =true->b[i]! =true
def Ec.My (a:List Bool):Ec a a:=⟨rfl,fun _ _ h=>h⟩
def Ec.tr {a b c:List Bool}(h1:Ec a b)(h2:Ec b c):Ec a c:=⟨h1.1.trans h2.1,fun i hi h=>h2.2 i (by rw[<-h1.1];exact hi) (h1.2 i hi h)⟩
def Ec.eq {a b:List Bool}(h1:Ec a b)(h2:Ec b a):a=b:=by
 apply List.ext_getElem h1.1;intro i hi hj;have e1:=h1.2 i hi;have e2:=h2.2 i hj;rw[getElem!_pos a i hi,getElem!_pos b i hj]at*
 cases ha:a[i]<;>cases hb:b[i]<;>simp_all
def RV (a:List Bool)(j:Nat)(b:Bool):Ec a (a.set j (a[j]! ||b)):=by
 refine⟨aF,fun i hi h=>?_⟩;by_cases hj:j=i
 .subst hj;rw[List.getElem!_eq_getElem?_getD,List.getElem?_set_self hi];simp[h]
 .rw[List.getElem!_eq_getElem?_getD,List.getElem?_set_ne hj,<-List.getElem!_eq_getElem?_getD];exact h
section
variable {w:bT} {c:List Int}
def Bd:∀(l:List Want) (is:List Bool),Ec is (vw w c is l)
 |[],is=>.My is
 |x::r,is=>(RV is x.u.toNat (kH w c x)).tr (Bd r _)
def G9:∀(l:List nH) (is:List Bool),Ec is (wT w c is l)
 |[],is=>.My is
 |x::r,is=>(Bd x is).tr (G9 r _)
def Rc (i:Nat)(is:List Bool):Ec is (Hb w c i is):=by
 unfold Hb;split
 .exact G9 _ _
 .exact .My is
def sV:∀(n:Nat) (is:List Bool),Ec is (iS w c n is)
 |0,is=>.My is
 |n+1,is=>(sV n is).tr (Rc n _)
def Bc:∀(n:Nat) (is:List Bool),Ec is (jV w c n is)
 |0,is=>.My is
 |n+1,is=>(Bc n is).tr (sV _ _)
def wu (l:List Bool):Nat:=l.countP fun b=>b
def NO:∀{a b:List Bool},Ec a b->wu a<=wu b/\(wu a=wu b->a=b)
 |[],[],_=>⟨aO _,fun _=>rfl⟩
 |[],_::_,h=>by simp[Ec]at h
 |_::_,[],h=>by simp[Ec]at h
 |x::a,y::b,h=>by
  have h0:x=true->y=true:=fun e=>by have:=h.2 0 aF;simpa using this (by simpa using e)
  have hr:Ec a b:=⟨by simpa using h.1,fun i hi e=>by have:=h.2 (i+1) kQ;simpa using this (by simpa using e)⟩;obtain⟨h1,h2⟩:=NO hr;unfold wu at*
  rw[List.countP_cons,List.countP_cons];cases x<;>cases y<;>simp_all<;>omega
def Fix (w:bT)(c:List Int)(is:List Bool):Prop:=iS w c c.length is=is
def Lt {is:List Bool}(hl:is.length=c.length):∀n,Fix w c (jV w c n is)\/n+1<=wu (iS w c c.length (jV w c n is))
 |0=>by
  obtain⟨h1,h2⟩:=NO (sV (w:=w) (c:=c) c.length is);by_cases h:wu is=wu (iS w c c.length is)
  .exact .inl (h2 h).symm
  .exact .inr (by show 0+1<=wu (iS w c c.length is);omega)
 |n+1=>by
  rcases Lt hl n with h|h
  .left;show iS w c c.length (iS w c c.length (jV w c n is))=iS w c c.length (jV w c n is);rw[show iS w c c.length (jV w c n is)=jV w c n is from h];exact h
  .obtain⟨h1,h2⟩:=NO (sV (w:=w) (c:=c) c.length (jV w c (n+1) is));by_cases h3:wu (jV w c (n+1) is)=wu (iS w c c.length (jV w c (n+1) is))
   .exact .inl (h2 h3).symm
   .right;have e:wu (jV w c (n+1) is)=wu (iS w c c.length (jV w c n is)):=rfl;omega
def abB (l:List Bool):wu l<=l.length:=List.countP_le_length
def Ou {is:List Bool}(hl:is.length=c.length):Fix w c (jV w c c.length is):=by
 rcases Lt (w:=w) hl c.length with h|h
 .exact h
 .have h1:=(sV (w:=w) (c:=c) c.length (jV w c c.length is)).1;have h2:=(Bc (w:=w) (c:=c) c.length is).1;have:=abB (iS w c c.length (jV w c c.length is));omega
def rN {a b d:List Bool}(h1:Ec a b)(h2:Ec b d)(h:a=d):b=a:=by subst h;exact h2.eq h1
def Fk:∀{l:List Want}{is:List Bool},vw w c is l=is->∀x∈l,x.u.toNat<is.length->kH w c x=true->is[x.u.toNat]! =true
 |[],is,_,x,hx,_,_=>by cases hx
 |y::r,is,h,x,hx,hl,hm=>by
  have e1:is.set y.u.toNat (is[y.u.toNat]! ||kH w c y)=is:=rN (RV is y.u.toNat (kH w c y)) (Bd r _) h.symm;rcases bF.1 hx with rfl|hx
  .rw[hm,Bool.or_true]at e1;rw[<-e1,List.getElem!_eq_getElem?_getD,List.getElem?_set_self hl];rfl
  .refine Fk (l:=r) ?_ x hx hl hm;have:vw w c (is.set y.u.toNat (is[y.u.toNat]! ||kH w c y)) r=is:=h;rw[e1]at this;exact this
def Fj:∀{l:List nH}{is:List Bool},wT w c is l=is->∀r∈l,∀x∈r,x.u.toNat<is.length->kH w c x=true->is[x.u.toNat]! =true
 |[],is,_,r,hr,_,_,_,_=>by cases hr
 |q::l,is,h,r,hr,x,hx,hl,hm=>by
  have e1:vw w c is q=is:=rN (Bd q is) (G9 l _) h.symm;rcases bF.1 hr with rfl|hr
  .exact Fk e1 x hx hl hm
  .refine Fj (l:=l) ?_ r hr x hx hl hm;have:wT w c (vw w c is q) l=is:=h;rw[e1]at this;exact this
def Fi:∀{n:Nat}{is:List Bool},iS w c n is=is->∀i,i<n->Hb w c i is=is
 |0,is,_,i,hi=>absurd hi (Nat.not_lt_zero i)
 |n+1,is,h,i,hi=>by
  have e1:iS w c n is=is:=rN (sV n is) (Rc n _) h.symm;rcases dQ i n with h1|h1
  .exact Fi e1 i h1
  .obtain rfl:i=n:=ae;have:Hb w c i (iS w c i is)=is:=h;rw[e1]at this;exact this
end
def Bs {w:bT}{c:List Int}(h:eB w c=true):jN w c=[]↔∀u,u<c.length->0<=c[u]! ->(∀k,k<(aT w c u).needs.length->Du w c (aT w c u).needs[k]! =true)/\∀k,k<(aT w c u).bars.length->kH w c (aT w c u).bars[k]! =false:=by
 unfold jN;rw[ah iR,fY,List.flatMap_eq_nil_iff];constructor
 .intro g u hu h0;have g1:=g u (List.mem_range.2 hu);rw[ah ae,AG,List.append_eq_nil_iff,fG,jT,List.flatMap_eq_nil_iff,List.flatMap_eq_nil_iff]at g1;refine⟨fun k hk=>?_,fun k hk=>?_⟩
  .have:=g1.1 k (List.mem_range.2 hk);split at this
   .assumption
   .cases this
  .have:=g1.2 k (List.mem_range.2 hk);split at this
   .cases this
   .rename_i hn;simpa using hn
 .intro g u hu;have hu:=List.mem_range.1 hu;split
  .rfl
  .rename_i h0;obtain⟨g1,g2⟩:=g u hu ae;rw[AG,List.append_eq_nil_iff,fG,jT,List.flatMap_eq_nil_iff,List.flatMap_eq_nil_iff];refine⟨fun k hk=>?_,fun k hk=>?_⟩
   .rw[ak (g1 k (List.mem_range.1 hk))]
   .rw[ah (by rw[g2 k (List.mem_range.1 hk)];simp)]
def qv {w:bT}{c:List Int}(h:eB w c=true):(ff w c).length=c.length:=by
 unfold ff;rw[ah iR,<-(Bc (w:=w) (c:=c) c.length (mG c)).1];simp[mG]
def MT {w:bT}{c:List Int}(h:eB w c=true):(rh w c).length=c.length:=by
 unfold rh tidV;rw[bg,List.length_range,qv h]
def te {w:bT}{c:List Int}(h:eB w c=true){i:Nat}(hi:i<c.length):(rh w c)[i]! =if(ff w c)[i]! =true then c[i]! else-1:=by
 have hl:=qv h;unfold rh tidV;simp[hl,hi]
def MU {w:bT}{c:List Int}(h:eB w c=true):eB w (rh w c)=true:=by
 have hl:=MT h;have h2:=h;unfold eB at h2⊢;rw[aD]at h2⊢;refine⟨h2.1, ?_⟩;obtain⟨h3,h4⟩:=m8 h2.2;unfold uf;rw[aD,aW,bw];refine⟨ae,fun j _ hj=>?_⟩;have h5:=h4 j ae;unfold Aw;rw[te h ae,aD,aW,aW];split
 .exact h5
 .omega
def InW (w:bT):Prop:=∀u∈w.us,∀c∈u.cands,(∀r∈c.needs,∀x∈r,0<=x.u/\x.u<(w.us.length:Int))/\∀x∈c.bars,0<=x.u/\x.u<(w.us.length:Int)
def PE {w:bT}{c:List Int}(hI:InW w)(h:eB w c=true)(hh:jN w c=[]):jN w (rh w c)=[]:=by
 have hm:=MU h;have hl:=MT h;have hc:=(Bs h).1 hh;have hb:=h;unfold eB at hb;rw[aD]at hb;obtain⟨hlen,hfit⟩:=m8 hb.2;have hfix:Fix w c (ff w c):=by
  unfold ff;rw[ah iR];exact Ou (by simp[mG])
 have hnl:=qv h;rw[Bs hm];intro u hu h0;rw[hl]at hu;rw[te h hu]at h0;have hn:(ff w c)[u]! =true:=by
  cases hq:(ff w c)[u]! with
  |true=>rfl
  |false=>rw[hq,ah aF]at h0;exact absurd h0 aU
 rw[hn,ak rfl]at h0;have hcu:=hfit u hu;have e1:aT w (rh w c) u=aT w c u:=by unfold aT;rw[te h hu,hn,ak rfl]
 rw[e1];have hmem:aT w c u∈w.us[u]!.cands:=aq ae;obtain⟨hI1,hI2⟩:=hI _ (aq ae) _ hmem;have hstep:=Fi hfix u hu;unfold Hb at hstep;rw[hn,ak rfl]at hstep;obtain⟨g1,g2⟩:=hc u hu h0;refine⟨fun k hk=>?_,fun k hk=>?_⟩
 .have hr:=aq hk;obtain⟨x,hx,hmx⟩:=List.any_eq_true.1 (show(aT w c u).needs[k]!.any (kH w c)=true from g1 k hk);have hx2:=hI1 _ hr x hx;have hnx:=Fj hstep _ hr x hx ae hmx;refine List.any_eq_true.2 ⟨x,hx, ?_⟩;unfold kH at hmx⊢;rw[te h (show x.u.toNat<c.length by omega),hnx,ak rfl];exact hmx
 .have hx2:=hI2 _ (aq hk);cases hq:kH w (rh w c) (aT w c u).bars[k]! with
  |false=>rfl
  |true=>
   have g3:=g2 k hk;unfold kH at hq g3;rw[te h (show(aT w c u).bars[k]!.u.toNat<c.length by omega)]at hq;split at hq
   .rw[hq]at g3;cases g3
   .simp at hq
end
section
def aba {ns:List av}{nm:av}{i:Nat}(h:i<ns.length)(e:ns[i]! =nm):eL ns nm=ns:=by
 unfold eL;rw[ak (by rw[<-e];exact aq h)]
def Vr {ns:List av}{nm:av}(h:∀j,j<ns.length->ns[j]! ≠nm):eL ns nm=ns++[nm]:=by
 unfold eL;rw[ah];intro hm;obtain⟨j,hj,e⟩:=List.getElem_of_mem hm;exact h j hj (by simpa[hj]using e)
section
variable {m:List (Nat×bd)} {lf j k:Nat} {a b c d X:List Sh} {r:List (List Sh)} {ds:List D}
def GD {l n:Nat}{es:List D}(h:look m l=some (.buf 1 es))(hn:es.length=n):((aH m l).drop 0).take n=es:=by
 simp only[aH,h,dI];rw[<-hn,List.take_length]
def ahZ (y:cx)(ns:List av)(h:Bw y lf j k ns m):xC m (.pt [.sl 1 [.a],.sl 1 [.sl 10 X]]) (.ptr lf 2 0 0)=fdR y ns:=by
 obtain⟨h1,h2,h3⟩:=h;have e1:aH m lf=[eG j k ns.length]:=by simp only[aH,h1]
 have e2:=GD h2 (bg ..);have e3:=GD h3 (yS y ns);show D.ref 2 ((aH m lf).map _) 0 0=_;rw[e1];show D.ref 2 [D.agg [xC m (.sl 1 [.a]) (.own j 1 0 ns.length),xC m (.sl 1 [.sl 10 X]) (.own k 1 0 ns.length)]] 0 0=_;rw[show xC m (.sl 1 [.a]) (.own j 1 0 ns.length)=.sl 1 (ns.map D.str)from by simp only[xC];rw[e2,List.map_map];exact aw (D.sl 1) (List.map_congr_left fun _ _=>rfl),
  show xC m (.sl 1 [.sl 10 X]) (.own k 1 0 ns.length)=.sl 1 (de y ns)from by simp only[xC];rw[e3,de,List.map_map];exact aw (D.sl 1) (List.map_congr_left fun _ _=>rfl)]
 rfl
def ad1 (y:cx)(ns:List av)(h:Bw y lf j k ns m):iY m ([.sl 11 a,.sl 2 b,.a,.a,.a,.sl 6 c,.sl 2 d,.pt [.sl 1 [.a],.sl 1 [.sl 10 X]]]::r) (cx.D y (.ptr lf 2 0 0)::ds)=cx.D y (fdR y ns)::iY m r ds:=by
 rw[iY];congr 1;show D.agg [_,_,_,_,_,_,_,xC m (.pt [.sl 1 [.a],.sl 1 [.sl 10 X]]) (.ptr lf 2 0 0)]=_;rw[ahZ y ns h];rfl
def aca (y:cx)(ns:List av)(h:Bw y lf j k ns m):UM m (.pt [.sl 1 [.a],.sl 1 [.sl 10 X]]) (.ptr lf 2 0 0):=by
 obtain⟨h1,h2,h3⟩:=h;have e1:aH m lf=[eG j k ns.length]:=by simp only[aH,h1]
 have e2:=GD h2 (bg ..);have e3:=GD h3 (yS y ns);refine⟨by simp only[dT,h1];exact⟨trivial,Nat.zero_le _⟩, ?_⟩;rw[e1];intro e he;obtain rfl:=aC.1 he;show UM m (.sl 1 [.a]) (.own j 1 0 ns.length)/\UM m (.sl 1 [.sl 10 X]) (.own k 1 0 ns.length)/\aL []=true;refine⟨⟨by simp only[dT,h2];exact⟨trivial,aF⟩, ?_⟩,⟨by simp only[dT,h3];exact⟨trivial,by rw[yS];omega⟩, ?_⟩,rfl⟩
 .rw[e2];intro e he;obtain⟨_,_,rfl⟩:=bW.1 he;exact rfl
 .rw[e3];intro e he;obtain⟨_,_,rfl⟩:=bW.1 he;exact rfl
def ZS (y:cx)(ns:List av)(h:Bw y lf j k ns m)(hr:iO m r ds):iO m ([.sl 11 a,.sl 2 b,.a,.a,.a,.sl 6 c,.sl 2 d,.pt [.sl 1 [.a],.sl 1 [.sl 10 X]]]::r) (cx.D y (.ptr lf 2 0 0)::ds):=by
 rw[iO];refine⟨?_,hr⟩;show _/\_/\_/\_/\_/\_/\_/\UM m (.pt [.sl 1 [.a],.sl 1 [.sl 10 X]]) (.ptr lf 2 0 0)/\_;exact⟨rfl,rfl,rfl,rfl,rfl,rfl,rfl,aca y ns h,rfl⟩
end
def ofT_y {l:List ub}{ft:av}{i:Nat}(h:i<l.length)(hc:ft=[]\/isF l[i]!.r.feats ft=true):(l.take i).filter (XE ft)++[l[i]!]=(l.take (i+1)).filter (XE ft):=by
 rw[E6 h,ak];unfold XE;rcases hc with h|h
 .rw[bo h];rfl
 .rw[h,Bool.or_true]
def ofT_n {l:List ub}{ft:av}{i:Nat}(h:i<l.length)(hc:¬ft=[]/\isF l[i]!.r.feats ft=false):(l.take i).filter (XE ft)=(l.take (i+1)).filter (XE ft):=by
 rw[E6 h,ah,fZ];unfold XE;rw[bG hc.1,hc.2];simp
def Sf {y:cx}(h:pe y):y.l.length<=1000:=by
 obtain⟨⟨⟨m,hm,_⟩,_⟩,_⟩:=h;rw[hm];simp
def RP {y:cx}{k:Key}(h:k=fD):cT y k=eC y.l:=by unfold cT;rw[ak h]
def RO {y:cx}{k:Key}(h:¬k=fD):cT y k=(eF y k).flatMap fun x=>cH x.r y.e k.f:=by unfold cT;rw[ah h]
def W2 {ns:List av}{k:Key}(h:k=fD):jk ns k=ns:=by unfold jk;rw[ak h]
def N6 {ns:List av}{k:Key}(h:¬k=fD):jk ns k=eL ns k.n:=by unfold jk;rw[ah h]
def aeR {y:cx}(hy:qa y){k:Key}{i:Nat}(h:i<(eF y k).length):Bz (eF y k)[i]!.r/\(eF y k)[i]!.r.v∈bN:=by
 have hx:=aq h;exact⟨((wY hy.p k).2 _ hx).1,Cm hy.p hy.v hy.m k.n _ (List.mem_filter.1 hx).1⟩
def Bt (l k:Nat)(es:List Abs.D)(y:cx)(a b c d:Nat):iW l k es (cx.D y (.ptr a b c d))=cx.D y (iW l k es (.ptr a b c d)):=rfl
def nb (l k:Nat)(es:List Abs.D)(ns:List av):ow l k es (ns.map D.str)=ns.map D.str:=jU l k es _ (H0 ns)
def na (l k:Nat)(es:List Abs.D)(y:cx)(ns:List av):ow l k es (de y ns)=de y ns:=jU l k es _ (iZ y ns)
def qA (y:cx):D:=match mI y with
 |none=>.tup [.sl 2 [],.bool false]
 |some all=>.tup [.sl 2 (all.map Key.D),.bool true]
def Bf (b:List Key)(o c:Nat)(l:List Key):Prop:=c=l.length/\b.drop o=l/\o+c=b.length
structure RcS where
 n:Nat
 s:oL
 b:List Key
 o:Nat
 c:Nat
 nn:List av
structure RcT where
 i:Nat
 t:oL
 b:List Key
 o:Nat
 c:Nat
structure RcU where
 j:Nat
 u:oL
 b:List Key
 o:Nat
 c:Nat
def SK (y:cx)(ns:List av)(p:RcS):Prop:=(p.n<=48/\SL y p.s/\p.n+p.s.todo.length=p.s.all.length)/\(p.nn.length<=ns.length+p.n/\mI y=AL y (49-p.n) p.s/\sb y 49 nq ns=sb y (49-p.n) p.s p.nn)/\Bf p.b p.o p.c p.s.todo
def SM (y:cx)(s:oL)(p:RcT):Prop:=p.i<=(cT y s.todo[0]!).length/\p.t=OO ⟨s.all,s.todo.drop 1⟩ ((cT y s.todo[0]!).take p.i)/\Bf p.b p.o p.c p.t.todo/\p.t.all.length+p.t.todo.length<=96+6*p.i
def Nv (row:fJ)(t:oL)(i:Nat)(p:RcU):Prop:=p.j<=row.length/\p.u=(row.take p.j).foldl mg t/\Bf p.b p.o p.c p.u.todo/\p.u.all.length+p.u.todo.length<=96+6*i+2*p.j
def ajX (y:cx)(ns:List av):SK y ns ⟨0,nq,[fD],0,1,ns⟩:=⟨⟨aF,YJ y,rfl⟩,⟨aO _,rfl,rfl⟩,rfl,rfl,rfl⟩
def agD {b l:List Key}{o:Nat}(h:b.drop o=l)(h0:0<l.length):b[o+0]! =l[0]! :=by
 subst h;rw[jA]at h0;simp
def agC {b l:List Key}{o c:Nat}(h1:c=l.length)(h2:b.drop o=l)(k:Key):((b.map Key.D).drop o).take c++[Key.D k]=(l++[k]).map Key.D:=by
 rw[<-List.map_drop,h2,h1,F0,List.map_append];rfl
def agE (l:List Key){c:Nat}(h:c=l.length)(k:Key):Bf (l++[k]) 0 (c+1) (l++[k]):=⟨fR,rfl,fR⟩
def akh (y:cx){s:oL}{b:List Key}{o c:Nat}(h1:c=s.todo.length)(h2:b.drop o=s.todo)(h3:o+c=b.length)(h0:0<s.todo.length)(h48:s.all.length<=48)(hle:s.todo.length<=s.all.length):SM y s ⟨0,⟨s.all,s.todo.drop 1⟩,b,o+1,c-1⟩:=by
 refine⟨Nat.zero_le _,rfl,⟨?_, ?_, ?_⟩, ?_⟩
 .simp only[jA];omega
 .simp only;rw[<-h2,List.drop_drop]
 .simp only;omega
 .simp only[jA];omega
def akm (row:fJ){t:oL}{i:Nat}{b:List Key}{o c:Nat}(h1:c=t.todo.length)(h2:b.drop o=t.todo)(h3:o+c=b.length)(h:t.all.length+t.todo.length<=96+6*i):Nv row t i ⟨0,t,b,o,c⟩:=⟨Nat.zero_le _,rfl,⟨h1,h2,h3⟩,qQ⟩
def Uu {α:Type} [Inhabited α]{l:List α}{i:Nat}(h:i<l.length):l.take (i+1)=l.take i++[l[i]!]:=by
 rw[List.take_add_one,List.getElem?_eq_getElem h];simp[h]
def QL {row:fJ}{t:oL}{j:Nat}(h:j<row.length):(row.take (j+1)).foldl mg t=mg ((row.take j).foldl mg t) row[j]! :=by
 have e:row.take (j+1)=row.take j++[row[j]!]:=by
  rw[List.take_add_one,List.getElem?_eq_getElem h];simp[h]
 rw[e,List.foldl_append];rfl
def adn (l:List Key)(k:Key):(r9 l k).length<=l.length+1:=by
 rcases CN l k with⟨h,_⟩|⟨h,_⟩
 .rw[h];omega
 .omega
def ako {row:fJ}{t u:oL}{i j:Nat}{b:List Key}{o c:Nat}(h:Nv row t i ⟨j,u,b,o,c⟩)(hj:j<row.length)(hc:u.all.length<(r9 u.all row[j]!.k).length):Nv row t i ⟨j+1,⟨r9 u.all row[j]!.k,u.todo++[row[j]!.k]⟩,u.todo++[row[j]!.k],0,c+1⟩:=by
 obtain⟨h1,h2,⟨h3,_⟩,h4⟩:=h;simp only at h1 h2 h3 h4;have:=adn u.all row[j]!.k;refine⟨hj, ?_,agE _ h3 _, ?_⟩
 .simp only;rw[QL hj,<-h2,mg,ak hc]
 .simp only[cn,List.length_singleton];omega
def akn {row:fJ}{t u:oL}{i j:Nat}{b:List Key}{o c:Nat}(h:Nv row t i ⟨j,u,b,o,c⟩)(hj:j<row.length)(hc:¬u.all.length<(r9 u.all row[j]!.k).length):Nv row t i ⟨j+1,u,b,o,c⟩:=by
 obtain⟨h1,h2,h3,h4⟩:=h;simp only at h1 h2 h3 h4;refine⟨hj, ?_,h3,qQ⟩;simp only;rw[QL hj,<-h2,mg,ah hc]
def aki {y:cx}{s t u:oL}{i j:Nat}{b1 b2:List Key}{o1 c1 o2 c2:Nat}(h:SM y s ⟨i,t,b1,o1,c1⟩)(hU:Nv (cT y s.todo[0]!)[i]! t i ⟨j,u,b2,o2,c2⟩)(hi:i<(cT y s.todo[0]!).length)(hj:(cT y s.todo[0]!)[i]!.length<=j)(hr:(cT y s.todo[0]!)[i]!.length<=3):SM y s ⟨i+1,u,b2,o2,c2⟩:=by
 obtain⟨h1,h2,_,h4⟩:=h;obtain⟨g1,g2,g3,g4⟩:=hU;simp only at h1 h2 h4 g1 g2 g3 g4;refine⟨hi, ?_,g3,qQ⟩;have e:=Uu hi;simp only;rw[e,OO,List.foldl_append,g2,gK hj,h2];rfl
def ajY {y:cx}{ns nn:List av}{n i:Nat}{s t:oL}{b b1:List Key}{o c o1 c1:Nat}(h:SK y ns ⟨n,s,b,o,c,nn⟩)(hT:SM y s ⟨i,t,b1,o1,c1⟩)(h0:0<s.todo.length)(hi:(cT y s.todo[0]!).length<=i)(h48:¬48<t.all.length):SK y ns ⟨n+1,t,b1,o1,c1,jk nn s.todo[0]!⟩:=by
 obtain⟨⟨p1,p2,p3⟩,⟨q1,q2,q3⟩,_⟩:=h;obtain⟨_,t2,t3,_⟩:=hT;simp only at p1 p2 p3 q1 q2 q3 t2 t3;rw[gK hi]at t2;have t2:t=AM y s:=t2;have hl:=(RG y h0).1.len;rw[<-t2]at hl;simp only[jA]at hl;have h6:=p2.len.2;have e:49-n=(49-(n+1))+1:=ae;have hk:=Ci nn s.todo[0]!;refine⟨⟨qQ,t2▸YN p2 h0 (by rw[<-t2];omega),qQ⟩,⟨qQ, ?_, ?_⟩,t3⟩
 .simp only;rw[q2,e,AL,ah ae,ah (by rw[<-t2];exact h48),t2]
 .simp only;rw[q3,e,sb,ah ae,ah (by rw[<-t2];exact h48),t2]
def CV {y:cx}{ns nn:List av}{n i:Nat}{s t:oL}{b b1:List Key}{o c o1 c1:Nat}(h:SK y ns ⟨n,s,b,o,c,nn⟩)(hT:SM y s ⟨i,t,b1,o1,c1⟩)(h0:0<s.todo.length)(hi:(cT y s.todo[0]!).length<=i)(h48:48<t.all.length):qA y=.tup [.sl 2 [],.bool false]/\sb y 49 nq ns=jk nn s.todo[0]! :=by
 obtain⟨⟨p1,p2,p3⟩,⟨q1,q2,q3⟩,_⟩:=h;obtain⟨_,t2,_⟩:=hT;simp only at p1 p2 p3 q1 q2 q3 t2;rw[gK hi]at t2;have t2:t=AM y s:=t2;have e:49-n=(49-(n+1))+1:=ae;constructor
 .unfold qA;rw[q2,e,AL,ah ae,ak (by rw[<-t2];exact h48)]
 .rw[q3,e,sb,ah ae,ak (by rw[<-t2];exact h48)]
def yQ {y:cx}{ns nn:List av}{n:Nat}{s:oL}{b:List Key}{o c:Nat}(h:SK y ns ⟨n,s,b,o,c,nn⟩)(h0:s.todo.length=0):qA y=.tup [.sl 2 (s.all.map Key.D),.bool true]/\sb y 49 nq ns=nn:=by
 obtain⟨⟨p1,p2,p3⟩,⟨q1,q2,q3⟩,_⟩:=h;simp only at p1 q2 q3;have e:49-n=(49-(n+1))+1:=ae;constructor
 .unfold qA;rw[q2,e,AL,ak h0]
 .rw[q3,e,sb,ak h0]
def AQ (w:bT)(c:List Int)(i:Nat):List Int:=(List.range i).map fun i=>if(ff w c)[i]! =true then c[i]! else-1
def Zp (w:bT)(c:List Int)(i:Nat):(AQ w c i).length<=i:=by unfold AQ;rw[bg,List.length_range];omega
def akf {w:bT}{c:List Int}{i:Nat}(h:(ff w c)[i]! =true):AQ w c i++[c[i]!]=AQ w c (i+1):=by
 unfold AQ;rw[List.range_succ,List.map_append,List.map_singleton,ak h]
def ake {w:bT}{c:List Int}{i:Nat}(h:(ff w c)[i]! =false):AQ w c i++[-1]=AQ w c (i+1):=by
 unfold AQ;rw[List.range_succ,List.map_append,List.map_singleton,ah iR]
def Lu (w:bT)(c:List Int):(ff w c).length<=c.length:=by
 cases h:eB w c with
 |true=>exact Nat.le_of_eq (qv h)
 |false=>unfold ff;rw[ak h];exact Nat.zero_le _
end
section
section
variable {y:cx} {all:List Key} {k:Key} {x:ub} {i:Nat}
def KD (h:k=fD):eh y all k=([⟨zV,-1,dy all (eC y.l),[]⟩],true):=ak h
def abx (h:k.f=[]):(⟨x.r.v,x.sh,dy all (cH x.r y.e k.f),we all x.r y.e⟩:en)=dM y all k x:=by unfold dM;rw[ak h]
def abw (h:¬k.f=[]):(⟨x.r.v,x.sh,dy all (cH x.r y.e k.f),[]⟩:en)=dM y all k x:=by unfold dM;rw[ah h]
def KC (h:¬k=fD)(hi:i<(eF y k).length)(hw:24<(dM y all k (eF y k)[i]!).needs.length\/24<(dM y all k (eF y k)[i]!).bars.length):eh y all k=([],false):=by
 unfold eh;rw[ah h,ak];rw[List.any_map,List.any_eq_true];refine⟨_,aq hi, ?_⟩;show oe _=true;unfold oe;rcases hw with h|h<;>rw[bo h]<;>simp
def Qw (hi:i<(eF y k).length)(h:(((eF y k).take i).map (dM y all k)).any oe=false)(hn:¬24<(dM y all k (eF y k)[i]!).needs.length/\¬24<(dM y all k (eF y k)[i]!).bars.length):(((eF y k).take (i+1)).map (dM y all k)).any oe=false:=by
 rw[map_take hi,List.any_append,h,List.any_cons,List.any_nil];unfold oe;rw[bG hn.1,bG hn.2];rfl
def KB (h:¬k=fD)(hw:((eF y k).map (dM y all k)).any oe=false):eh y all k=((eF y k).map (dM y all k),decide ((dE y k.n).length<=16)):=by
 unfold eh;rw[ah h,ah (by rw[hw];simp)]
def SN (ns:List av)(nm:av):eL (eL ns nm) nm=eL ns nm:=by
 have:nm∈eL ns nm:=by
  unfold eL;split
  .assumption
  .simp
 rw[eL,ak this]
end
def rB (y:cx)(all:List Key)(k:Key):D:=.tup [.sl 8 ((eh y all k).1.map en.D),.bool (eh y all k).2]
def NN (l k:Nat)(es:List Abs.D)(c:en):iW l k es (en.D c)=en.D c:=rfl
end
end Go.Abs
section
namespace Go.Abs
def iF (y:cx):List Key:=(mI y).getD []
def okY (y:cx):Bool:=(mI y).isSome
def FC (y:cx):qA y=.tup [.sl 2 ((iF y).map Key.D),.bool (okY y)]:=by
 unfold qA iF okY;cases mI y<;>rfl
def Vt (y:cx):(iF y).length<=48:=by
 unfold iF;cases h:mI y with
 |none=>simp
 |some all=>exact(sc h).2.1
section
variable {y:cx} {i:Nat}
def XF (y:cx)(i:Nat):Bool:=okY y&&(nw y (iF y) i).2
def xQ (y:cx)(i:Nat):List cL:=(nw y (iF y) i).1
def XB (y:cx)(i:Nat):List av:=ZJ (iF y) (sb y 49 nq []) i
def M1:∀i,(xQ y i).length<=i
 |0=>aO _
 |i+1=>by
  have:=M1 i;unfold xQ at this⊢;rw[nw];split
  .rw[cn,List.length_singleton];omega
  .omega
def ac0 (y:cx)(i:Nat):(XB y i).length<=49+i:=by
 have h1:=M9 (iF y) (sb y 49 nq []) i;have h2:=LY y 49 nq [];unfold XB;simp only[b9]at h2;omega
def akp (h:XF y i=true):xQ y i++[rj y (iF y) (iF y)[i]!]=xQ y (i+1):=by
 unfold XF at h;rw[aD]at h;unfold xQ;rw[nw,ak h.2]
def okS_s (h:XF y i=true):(eh y (iF y) (iF y)[i]!).2=XF y (i+1):=by
 unfold XF at h⊢;rw[aD]at h;rw[nw,ak h.2,h.1];rfl
def nsS_s:jk (XB y i) (iF y)[i]! =XB y (i+1):=rfl
def F8 {all:List Key}(h:(nw y all i).2=false):∀n,nw y all (i+n)=nw y all i
 |0=>rfl
 |n+1=>by
  have ih:=F8 h n;rw[show i+(n+1)=(i+n)+1 from rfl,nw,ah (by rw[ih,h];simp),ih]
def UC (hi:i<=(iF y).length)(hc:¬((i:Nat):Int)<((iF y).length:Nat)\/XF y i=false):ei y=(⟨xQ y i⟩,XF y i):=by
 unfold ei xQ XF okY iF at*
 cases h:mI y with
 |none=>
  rw[h]at hi;have:i=0:=by simpa using hi
  subst this;rfl
 |some all=>
  rw[h]at hi hc;simp only[Option.getD_some,Option.isSome_some,ew]at hi hc⊢;rcases hc with hc|hc
  .obtain rfl:i=all.length:=ae;rfl
  .have:=F8 hc (all.length-i);rw[show i+(all.length-i)=all.length by omega]at this;rw[this]
end
def y2 (y:cx):D:=.tup [bT.D (ei y).1,.bool (ei y).2]
def WldQ (y:cx):D->List (Nat×bd)->Prop:=fun d _=>d=y2 y
def WldC (Y:Ctx)(n:Nat)(y:cx)(V:D):Prop:=∀(nx lf:Nat) (m:List (Nat×bd)) (K:D->St->Prop),lf<nx->look m lf=some (.buf 2 [.agg [.aK,.aK]])->K V ⟨nx,cW m lf⟩->Y.tr n [cx.D y (.ptr lf 2 0 0)] ⟨nx,m⟩ K
def akq (l k:Nat)(es:List Abs.D)(u:cL):iW l k es (cL.D u)=cL.D u:=rfl
end Go.Abs
namespace Go.Abs
section
variable {l:List gO} {shop:List bJ} {e:Env} {ks:List Kp}
abbrev xU (l:List gO)(shop:List bJ)(e:Env)(ks:List Kp):cx:=⟨l,shop,e,ks,gw l⟩
def abm (h:eJ shop=false\/nK e=false):gG l shop e ks=(⟨[]⟩,1):=ak h
def abn {i:Nat}(h:eJ shop=true/\nK e=true)(hi:i<(gw l).length)(hn:mi shop (gw l)[i]!.shelf<0):gG l shop e ks=(⟨[]⟩,12):=by
 unfold gG;rw[ah fR,ak];exact List.any_eq_true.2 ⟨_,aq hi,bo hn⟩
def X0 {i:Nat}(hi:¬i<(gw l).length)(h:∀j,j<i->0<=mi shop (gw l)[j]!.shelf):¬((gw l).any fun p=>decide (mi shop p.shelf<0))=true:=by
 intro h1;obtain⟨p,hp,h2⟩:=List.any_eq_true.1 h1;obtain⟨j,hj,rfl⟩:=fQ hp;have:=h j ae;simp at h2;rw[List.getElem!_eq_getElem?_getD]at this;omega
def abo (h:eJ shop=true/\nK e=true)(hp:¬((gw l).any fun p=>decide (mi shop p.shelf<0))=true)(hw:(ei (xU l shop e ks)).2=false):gG l shop e ks=(⟨[]⟩,10):=by
 unfold gG;rw[ah fR,ah hp,ak hw]
def abp (h:eJ shop=true/\nK e=true)(hp:¬((gw l).any fun p=>decide (mi shop p.shelf<0))=true)(hw:¬(ei (xU l shop e ks)).2=false):gG l shop e ks=((ei (xU l shop e ks)).1,0):=by
 unfold gG;rw[ah fR,ah hp,ah hw]
end
end Go.Abs
end
section
namespace Go.Abs
section
variable [cG] {P:Program} {ν:List (Nat×Nat)} {bL:List Nat} {t:List (Nat×mC)} {fid key u:Nat} {af:aj} {y:cx} {lf nx:Nat} {m:List (Nat×bd)} {K:D->St->Prop}
def ZK (hmix:P.follows .mixedOrders=true)(hC:UF P ν bL fid af)(hnp:1=af.np)(h1:lf<nx)(hat:look m lf=some (.buf 2 [.agg [.aK,.aK]]))(hK:K (y2 y) ⟨nx,cW m lf⟩)
  (hw:dn ((under t key u).at 1) af.body (uc af (WldQ y)) (fI af [cx.D y (.ptr 0 2 0 0)]) ⟨1,[(0,.buf 2 [.agg [.aK,.aK]])]⟩):uu P ν bL (under t key u) fid [cx.D y (.ptr lf 2 0 0)] ⟨nx,m⟩ K:=by
 have g3:gE 0 1 [(lf,0)]=true:=by simp[gE]
 have g4:∀l i,(l,i)∈[(lf,0)]->look m l≠none:=by
  intro l i h;obtain⟨rfl,rfl⟩:=Prod.mk.inj (aC.1 h);rw[hat];simp
 have g5:∀i b,look [(0,bd.buf 2 [.agg [.aK,.aK]])] i=some b->∃l b',(l,i)∈[(lf,0)]/\look m l=some b'/\p0 0 [(lf,0)] b' b:=by
  intro i b h;simp only[look]at h;split at h
  .rename_i e;subst e;obtain rfl:=aV h;exact⟨lf,_,.head _,hat,rfl,.inl ⟨rfl,rfl⟩⟩
  .cases h
 refine KZ (σi:=[(lf,0)]) (cs:=[cx.D y (.ptr 0 2 0 0)]) (fun q=>F3 t key u q) hmix hC rfl ?_ hnp g3 g4 g5 hw ?_
 .intro i hi
  match i,hi with
  |0,_=>exact .inr (.inl (by simp[cx.D,sZ,qD,Uk,mK]))
 .rintro d m1 rfl;refine⟨[(0,lf)],1,⟨nx,cW m lf⟩,y2 y,⟨g3,by simp[gE,h1],aO _,g4, ?_,g5, ?_⟩,.inl ⟨rfl,rfl⟩,hK⟩
  .intro i l h;obtain⟨rfl,rfl⟩:=Prod.mk.inj (aC.1 h);exact .inl (.head _)
  .intro l bb h;rw[e8]at h;split at h
   .cases h
   .rename_i hne;exact .inr ⟨by simp only[nO,ah (fun e=>hne (Eq.symm e))],(fun i hi=>by obtain⟨rfl,_⟩:=Prod.mk.inj (aC.1 hi);exact hne rfl),h⟩
end
end Go.Abs
namespace Go.Abs
def Fo:∀{l:List D}{i:Nat},aL l=true->i<l.length->(l.getD i .any).aS=true
 |d::r,0,h,_=>by simp only[aL,aD]at h;exact h.1
 |d::r,i+1,h,hi=>by
  simp only[aL,aD]at h;exact Fo (l:=r) h.2 kQ
def BC {y:cx}{rest:List D}(hr:aL rest=true):ad5 (fun f=>cx.D y f::rest):=by
 intro σ l l' h;refine⟨rfl,fun i hi=>?_⟩;cases i with
 |zero=>exact .inr (.inl (by simp[cx.D,sZ,qD,Uk,h]))
 |succ i=>exact .inl ⟨rfl,Fo (l:=rest) hr kQ⟩
def TU (y:cx):(qA y).aS=true:=by rw[FC];rfl
end Go.Abs
end
namespace Go.Abs
section
section
variable [cG] {P:Program} {ν:List (Nat×Nat)} {bL:List Nat} {t:List (Nat×mC)} {fid n key u k:Nat} {af:aj} {nx:Nat} {m:List (Nat×bd)} {K:D->St->Prop}
def Tg {lm lc n':Nat}{es es' kvs:List D}{a b e vd:D}{Q:D->List (Nat×bd)->Prop}(hes:aL es=true)(hes':aL es'=true)(ha:sZ 0 [(lc,0),(lm,1)] a=some a)(hb:sZ 0 [(lc,0),(lm,1)] b=some b)(he:e.aS=true)(hv:vd.aS=true)(hmix:P.follows .mixedOrders=true)(hC:UF P ν bL fid af)(hnp:2=af.np)(hn:n'=n)
  (hlt:lc<nx) (hltm:lm<nx) (h1:look m lc=some (.buf 1 es)) (h2:look m lm=some (.mpb kvs)) (hK:K vd ⟨nx,cO m lc (.buf 1 es')⟩) (hQ:∀d m,Q d m->d=vd/\look m 0=some (.buf 1 es')/\look m 1=some (.mpb kvs))
  (hw:dn ((under t key u).at 2) af.body (uc af Q) (fI af [.agg [a,b,.fn 5000000 [.it 1],.own 0 1 0 n],e]) ⟨2,[(0,.buf 1 es),(1,.mpb kvs)]⟩):uu P ν bL (under t key u) fid [.agg [a,b,.fn 5000000 [.it lm],.own lc 1 0 n'],e] ⟨nx,m⟩ K:=by
 subst hn;have hne:lc≠lm:=by rintro rfl;rw[h1]at h2;cases h2
 have b1:Nat.beq lc lm=false:=by rw[<-Bool.not_eq_true];exact fun h=>hne (Nat.eq_of_beq_eq_true h)
 have b2:Nat.beq lm lc=false:=by rw[<-Bool.not_eq_true];exact fun h=>hne (Nat.eq_of_beq_eq_true h).symm
 have g3:gE 0 2 [(lc,0),(lm,1)]=true:=by simp[gE,b1,b2,Nat.blt];exact rfl
 have g4:∀l i,(l,i)∈[(lc,0),(lm,1)]->look m l≠none:=by
  intro l i h;simp only[bF,c9,cP,or_false]at h;rcases h with⟨rfl,_⟩|⟨rfl,_⟩<;>simp[h1,h2]
 have g5:∀i b,look [(0,bd.buf 1 es),(1,.mpb kvs)] i=some b->∃l b',(l,i)∈[(lc,0),(lm,1)]/\look m l=some b'/\p0 0 [(lc,0),(lm,1)] b' b:=by
  intro i b h;simp only[look]at h;split at h
  .rename_i e;subst e;obtain rfl:=aV h;exact⟨lc,_,.head _,h1,rfl,.inl ⟨rfl,hes⟩⟩
  .split at h
   .rename_i e;subst e;obtain rfl:=aV h;exact⟨lm,_,.tail _ (.head _),h2,rfl⟩
   .cases h
 refine KZ (σi:=[(lc,0),(lm,1)]) (cs:=[.agg [a,b,.fn 5000000 [.it 1],.own 0 1 0 n'],e]) (fun q=>F3 t key u q) hmix hC rfl ?_ hnp g3 g4 g5 hw ?_
 .intro i hi
  match i,hi with
  |0,_=>exact .inr (.inl (by simp[sZ,qD,Uk,mK,ha,hb,b1,b2]))
  |1,_=>exact .inl ⟨rfl,he⟩
 .intro d m1 h;obtain⟨rfl,hj,hk⟩:=hQ d m1 h;refine⟨[(0,lc),(1,lm)],2,⟨nx,cO m lc (.buf 1 es')⟩,d,⟨g3,by simp[gE,hlt,hltm,b1,b2,Nat.blt];exact⟨hlt,rfl,hltm⟩,aO _,g4, ?_,g5, ?_⟩,.inl ⟨rfl,hv⟩,hK⟩
  .intro i l h;simp only[bF,c9,cP,or_false]at h;rcases h with⟨rfl,rfl⟩|⟨rfl,rfl⟩
   .exact .inl (.head _)
   .exact .inl (.tail _ (.head _))
  .intro l bb h;rw[bK]at h;split at h
   .rename_i e;subst e;obtain rfl:=aV h;exact .inl ⟨0,_,.head _,hj,rfl,.inl ⟨rfl,hes'⟩⟩
   .rename_i h3;by_cases h4:l=lm
    .subst h4;rw[h2]at h;obtain rfl:=aV h;exact .inl ⟨1,_,.tail _ (.head _),hk,rfl⟩
    .exact .inr ⟨by simp only[nO,ah (fun e=>h3 (Eq.symm e)),ah (fun e=>h4 (Eq.symm e))],(fun i hi=>by
      simp only[bF,c9,cP,or_false]at hi;rcases hi with⟨rfl,_⟩|⟨rfl,_⟩
      .exact h3 rfl
      .exact h4 rfl),h⟩
end
end
section
section
variable [cG] {P:Program} {ν:List (Nat×Nat)} {bL:List Nat} {t:List (Nat×mC)} {fid n key u k:Nat} {af:aj} {nx:Nat} {m:List (Nat×bd)} {K:D->St->Prop}
def ry {a b:Nat}(h:a≠b):Nat.beq a b=false:=by
 cases h2:Nat.beq a b with
 |false=>rfl
 |true=>exact absurd (Nat.eq_of_beq_eq_true h2) h
def Di {m:List (Nat×bd)}{l lw:Nat}(h:l≠lw):fU (cW m lw) l=match look m l with
 |some (.bld (some l2) _ _)=>cW (cW m lw) l2
 |_=>cW m lw:=by
 grind [fU,e8,look]
def Tt {ws:List av}{s:av}{l lw:Nat}(hmix:P.follows .mixedOrders=true)(hC:UF P ν bL fid af)(hnp:2=af.np)
  (h1:ur m l s) (h2:look m lw=some (.buf 1 (ws.map D.str))) (h3:l<nx) (h4:lw<nx) (hK:K (.tup []) ⟨nx+1,rA (cW m lw) l nx (s++cj ws)⟩)
  (hw:∀m0,ur m0 0 s->look m0 1=some (.buf 1 (ws.map D.str))->dn ((under t key u).at 3) af.body (uc af (fun d m=>d=.tup []/\look m 0=some (.bld (some 9) (s++cj ws).length true)/\look m 9=some (.row (s++cj ws)))) (fI af [.ptr 0 2 0 0,.own 1 1 0 ws.length]) ⟨3,m0⟩):
  uu P ν bL (under t key u) fid [.ptr l 2 0 0,.own lw 1 0 ws.length] ⟨nx,m⟩ K:=by
 have hlw:l≠lw:=by
  rintro rfl;rcases h1 with⟨u,h,_⟩|⟨l2,u,h,_⟩<;>rw[h2]at h<;>cases h
 have hnl:aL (ws.map D.str)=true:=b7 (fun _=>rfl) _;have b1:=ry hlw;have b2:=ry (Ne.symm hlw);have b3:=ry (show l≠nx by omega);have b4:=ry (show nx≠l by omega)

 have fin:∀(σi:List (Nat×Nat)) (m0:List (Nat×bd)),gE 0 3 σi=true->(l,0)∈σi->(∀l i,(l,i)∈σi->look m l≠none)->(∀i b,look m0 i=some b->∃l b',(l,i)∈σi/\look m l=some b'/\p0 0 σi b' b)->
   (∀l' b,look (fU (cW m lw) l) l'=some b->l'≠l->look m l'=some b/\∀i,(l',i)∉σi)->∀d m1,(d=.tup []/\look m1 0=some (.bld (some 9) (s++cj ws).length true)/\look m1 9=some (.row (s++cj ws)))->
   ∃(σo:List (Nat×Nat)) (q1:Nat) (st':St) (vd':D),Fr σi σo 3 q1 m0 m1 ⟨nx,m⟩ st'/\RnD 0 σo d vd'/\K vd' st':=by
  rintro σi m0 oki hm hlt hm0 hoff d m1 ⟨rfl,e0,e9⟩;refine⟨[(0,l),(9,nx)],10,⟨nx+1,rA (cW m lw) l nx (s++cj ws)⟩,.tup [],⟨oki, ?_,Nat.le_succ _,hlt, ?_,hm0, ?_⟩,.inl ⟨rfl,rfl⟩,hK⟩
  .simp[gE,b3,b4];exact⟨ae,rfl⟩
  .intro i l' h;rcases bF.1 h with h|h
   .obtain⟨rfl,rfl⟩:=Prod.mk.inj h;exact .inl hm
   .obtain⟨rfl,rfl⟩:=Prod.mk.inj (aC.1 h);exact .inr (aO _)
  .intro l' bb h;simp only[rA,look]at h;split at h
   .rename_i e;subst e;obtain rfl:=aV h;exact .inl ⟨9,_,.tail _ (.head _),e9,rfl⟩
   .rename_i hln;rw[bK]at h;split at h
    .rename_i e;subst e;obtain rfl:=aV h;exact .inl ⟨0,_,.head _,e0,⟨nx,rfl,rfl⟩,rfl,rfl⟩
    .rename_i hl;obtain⟨g1,g2⟩:=hoff l' bb h hl;exact .inr ⟨by simp only[nO,ah (fun e=>hl (Eq.symm e)),ah hln],g2,g1⟩
 rcases h1 with⟨u,h1,rfl⟩|⟨l2,u,h1,h5⟩
 .have g4:∀l' i,(l',i)∈[(l,0),(lw,1)]->look m l'≠none:=by
   intro l' i h;rcases bF.1 h with h|h
   .obtain⟨rfl,rfl⟩:=Prod.mk.inj h;rw[h1];simp
   .obtain⟨rfl,rfl⟩:=Prod.mk.inj (aC.1 h);rw[h2];simp
  have g3:gE 0 3 [(l,0),(lw,1)]=true:=by simp[gE,b1,b2];rfl
  have g5:∀i b,look [(0,bd.bld none 0 u),(1,.buf 1 (ws.map D.str))] i=some b->∃l' b',(l',i)∈[(l,0),(lw,1)]/\look m l'=some b'/\p0 0 [(l,0),(lw,1)] b' b:=by
   intro i b h;simp only[look]at h;split at h
   .rename_i e;subst e;obtain rfl:=aV h;exact⟨l,_,.head _,h1,rfl,rfl,rfl⟩
   .split at h
    .rename_i e;subst e;obtain rfl:=aV h;exact⟨lw,_,.tail _ (.head _),h2,rfl,.inl ⟨rfl,hnl⟩⟩
    .cases h
  refine KZ (σi:=[(l,0),(lw,1)]) (cs:=[.ptr 0 2 0 0,.own 1 1 0 ws.length]) (fun q=>F3 t key _ q) hmix hC rfl ?_ hnp g3 g4 g5 (hw _ (.inl ⟨u,rfl,rfl⟩) rfl) (fin _ _ g3 (.head _) g4 g5 ?_)
  .intro i hi
   match i,hi with
   |0,_=>exact .inr (.inl Sy)
   |1,_=>exact .inr (.inl (by simp[sZ,Uk,mK,b1]))
  .intro l' b h hl;rw[Di hlw]at h;simp only[h1]at h;rw[e8]at h;split at h
   .cases h
   .rename_i hw';refine⟨h,fun i hi=>?_⟩;rcases bF.1 hi with hi|hi
    .exact hl (Prod.mk.inj hi).1
    .exact hw' (Prod.mk.inj (aC.1 hi)).1
 .have c1:l2≠l:=by rintro rfl;rw[h1]at h5;cases h5
  have c2:l2≠lw:=by rintro rfl;rw[h2]at h5;cases h5
  have d1:=ry c1;have d2:=ry c2;have d3:=ry (Ne.symm c1);have d4:=ry (Ne.symm c2);have g4:∀l' i,(l',i)∈[(l,0),(lw,1),(l2,2)]->look m l'≠none:=by
   intro l' i h;rcases bF.1 h with h|h
   .obtain⟨rfl,rfl⟩:=Prod.mk.inj h;rw[h1];simp
   .rcases bF.1 h with h|h
    .obtain⟨rfl,rfl⟩:=Prod.mk.inj h;rw[h2];simp
    .obtain⟨rfl,rfl⟩:=Prod.mk.inj (aC.1 h);rw[h5];simp
  have g3:gE 0 3 [(l,0),(lw,1),(l2,2)]=true:=by simp[gE,b1,b2,d1,d2,d3,d4];exact⟨⟨rfl,rfl⟩,rfl⟩
  have g5:∀i b,look [(0,bd.bld (some 2) s.length u),(1,.buf 1 (ws.map D.str)),(2,.row s)] i=some b->∃l' b',(l',i)∈[(l,0),(lw,1),(l2,2)]/\look m l'=some b'/\p0 0 [(l,0),(lw,1),(l2,2)] b' b:=by
   intro i b h;simp only[look]at h;split at h
   .rename_i e;subst e;obtain rfl:=aV h;exact⟨l,_,.head _,h1,⟨2,by simp[mK,d3,d4],rfl⟩,rfl,rfl⟩
   .split at h
    .rename_i e;subst e;obtain rfl:=aV h;exact⟨lw,_,.tail _ (.head _),h2,rfl,.inl ⟨rfl,hnl⟩⟩
    .split at h
     .rename_i e;subst e;obtain rfl:=aV h;exact⟨l2,_,.tail _ (.tail _ (.head _)),h5,rfl⟩
     .cases h
  refine KZ (σi:=[(l,0),(lw,1),(l2,2)]) (cs:=[.ptr 0 2 0 0,.own 1 1 0 ws.length]) (fun q=>F3 t key _ q) hmix hC rfl ?_ hnp g3 g4 g5 (hw _ (.inr ⟨2,u,rfl,rfl⟩) rfl) (fin _ _ g3 (.head _) g4 g5 ?_)
  .intro i hi
   match i,hi with
   |0,_=>exact .inr (.inl Sy)
   |1,_=>exact .inr (.inl (by simp[sZ,Uk,mK,b1]))
  .intro l' b h hl;rw[Di hlw]at h;simp only[h1]at h;rw[e8]at h;split at h
   .cases h
   .rename_i hw2;rw[e8]at h;split at h
    .cases h
    .rename_i hw';refine⟨h,fun i hi=>?_⟩;rcases bF.1 hi with hi|hi
     .exact hl (Prod.mk.inj hi).1
     .rcases bF.1 hi with hi|hi
      .exact hw' (Prod.mk.inj hi).1
      .exact hw2 (Prod.mk.inj (aC.1 hi)).1
end
end
section
section
variable [cG] {P:Program} {ν:List (Nat×Nat)} {bL:List Nat} {t:List (Nat×mC)} {fid n key u k:Nat} {af:aj} {nx:Nat} {m:List (Nat×bd)} {K:D->St->Prop}
end
end
section
section
variable [cG] {P:Program} {ν:List (Nat×Nat)} {bL:List Nat} {t:List (Nat×mC)} {fid key u k:Nat} {af:aj} {nx:Nat} {m:List (Nat×bd)} {K:D->St->Prop}
end
end
section
section
variable [cG] {P:Program} {ν:List (Nat×Nat)} {bL:List Nat} {t:List (Nat×mC)} {fid key u k:Nat} {af:aj} {nx:Nat} {m:List (Nat×bd)} {K:D->St->Prop}
end
end
end Go.Abs
section
namespace Go.Abs
def ai {p:Prop}(h:p:=by exact rfl):p:=h
def qqq6 {p:Prop}(h:p:=by repeat(first|exact fq.nil|refine fq.un ?_|refine fq.eq cY ?_)):p:=h
def dS {p:Prop}(h:p:=by first|exact rfl|exact b7 (fun _=>rfl) _):p:=h
def OI {p:Prop}(h:p:=by repeat(first|exact fq.nil|refine fq.un ?_|refine fq.eq cY ?_|refine fq.nl cY cY ?_)):p:=h
def jo {p:Prop}(h:p:=by repeat' first|exact trivial|exact rfl|refine And.intro ?_ ?_):p:=h
def CP {p:Prop}(h:p:=by repeat' first|exact trivial|exact rfl|exact aO _|refine And.intro ?_ ?_):p:=h
def CO {p:Prop}(h:p:=by repeat(first|exact bm.nil|refine bm.AA cY cY (by first|exact rfl|exact b7 (fun _=>rfl) _) ?_|refine bm.Nj cY cY cY ?_|refine bm.Nk cY cY cY cY ?_)):p:=h
def LV {p:Prop}(h:p:=by simp only[x7,iW,ow,Ax,Em,cW,Nat.reduceEqDiff,bh,aZ,iK,ee,dx,ix,iy,cD,bg,aO,dI,bR,reduceCtorEq,bD,b9,Nat.reduceAdd,Nat.reduceLeDiff];exact rfl):p:=h
def b0 {p:Prop} [Decidable p]:(decide p=true)=p:=aW
def b1 {p:Prop} [Decidable p]:decide p=false↔¬p:=cv
def b2 (b:Bool):((!b)=true)=(b=false):=cz b
def b3 (b:Bool):((!b)=false)=(b=true):=df b
def b4 (b:Bool):(¬(b=false))=(b=true):=Bool.not_eq_false b
def b5 (a b:Bool):((a ||b)=true)=(a=true\/b=true):=dC a b
end Go.Abs
namespace Go.Abs
abbrev wkk (Y:Ctx)(a:aj)(d:D)(ds:List D):Prop:=dn (Y.at 0) a.body (Nu a d) (fI a ds) ⟨0,[]⟩
def fE {a:aj}{d d2:D}{e:Ex}{nx:Nat}{m:List (Nat×bd)}{env:List aX}(h:d2=d)(he:e.home:=by exact trivial)(h1:n8 m env a.res:=by exact CP)(h2:Al a env m:=by exact jo)(h3:Ng a env m=d2:=by exact rfl):Nu a d e env ⟨nx,m⟩:=Pr he h1 h2 (h3.trans h)
def rrrb {a:aj}{d d2:Bool}{e:Ex}{nx:Nat}{m:List (Nat×bd)}{env:List aX}(h:d2=d)(he:e.home:=by exact trivial)(h1:n8 m env a.res:=by exact CP)(h2:Al a env m:=by exact jo)(h3:Ng a env m=.bool d2:=by exact rfl):Nu a (.bool d) e env ⟨nx,m⟩:=fE (aw _ h) he h1 h2 h3
def gtt {lo c nx nx2:Nat}{env env2:List aX}{m m2:List (Nat×bd)}(σ:List (Nat×Nat))(hc:nx2=c:=by exact ai)(h:gE lo c σ=true:=by exact ai)(he:fq lo σ env env2:=by exact OI)(hm:bm lo c σ m m2:=by exact CO):aY lo env ⟨nx,m⟩ env2 ⟨nx2,m2⟩:=aY.to σ hc h he hm
end Go.Abs
namespace Go.Abs
end Go.Abs
namespace Go.Abs
section
variable {Y:Ctx} {Q:Ex->List aX->St->Prop}
def cmN {env rs:List aX}:VP env rs []=env:=rfl
def cmC {s p:Nat}{r:List (Nat×Nat)}{env rs env1 env':List aX}{f:Bool}{d:D}(e:bO [] rs (.l p)=⟨f,d⟩)(hs:env.set s ⟨f,d⟩=env1)(h:VP env1 rs r=env'):VP env rs ((s,p)::r)=env':=by
 simp only[VP,e,hs,h]
def rrrg {draw:Bool}{cm:List (Nat×Nat)}{b:AC}{nx nx':Nat}{m:List (Nat×bd)}{rs env fI env':List aX}(h:dn Y b Q env' ⟨nx',m⟩)
  (he:VP env rs cm=env':=by repeat(first|apply cmC cY (by simp only[List.set_cons_zero,List.set_cons_succ];exact rfl)|with_reducible exact cmN)) (hn:nx+rs.length=nx':=by simp only[bD,b9,Nat.reduceAdd];exact rfl):ay Y draw [] fI rs nx m (fun vs st'=>dn Y b Q (iq env vs cm) st'):=
 bp h he hn
def rrrh {draw:Bool}{cm:List (Nat×Nat)}{nx nx':Nat}{m:List (Nat×bd)}{rs env fI env':List aX}(h:Q .normal env' ⟨nx',m⟩)
  (he:VP env rs cm=env':=by repeat(first|apply cmC cY (by simp only[List.set_cons_zero,List.set_cons_succ];exact rfl)|with_reducible exact cmN)) (hn:nx+rs.length=nx':=by simp only[bD,b9,Nat.reduceAdd];exact rfl):ay Y draw [] fI rs nx m (fun vs st'=>Q .normal (iq env vs cm) st'):=
 nr h he hn
end
def Fam (_:Prop):Type:=Unit
def vR {q:Prop}:Fam q:=()
structure Hid (q:Prop)(f:Fam q):Prop where
 val:q
section
variable {Y:Ctx} {draw b1:Bool} {r:List GI} {env rs:List aX} {nx n0 n1:Nat} {m:List (Nat×bd)} {K:List aX->St->Prop} {g:Option (Nat×Bool)} {x0 x1 x2:Src}
end
def zzn {p q:Prop}(k:q)(h:Hid q vR->p:=by intro h;first|exact Hs fun _=>h.1|exact CT fun _=>h.1|exact ON fun _=>h.1):p:=h ⟨k⟩
section
variable {Y:Ctx} {Q:Ex->List aX->St->Prop}
end
def gF:(∀{p:Prop} [Decidable p],(decide p=true)=p)/\(∀{p:Prop} [Decidable p],decide p=false↔¬p)/\(∀b:Bool,((!b)=true)=(b=false))/\(∀b:Bool,((!b)=false)=(b=true))/\(∀b:Bool,(¬(b=false))=(b=true))/\(∀a b:Bool,((a ||b)=true)=(a=true\/b=true))/\(∀{a b:Bool},(a ||b)=false↔a=false/\b=false)/\(∀a b:Bool,((a&&b)=true)=(a=true/\b=true))/\(∀{a b:Bool},(a&&b)=false↔a=false\/b=false)/\(∀b:Bool,(¬(b=true))=(b=false))/\(∀b:Bool,(true&&b)=b)/\∀b:Bool,(b&&true)=b:=
 ⟨aW,cv,cz,df,Bool.not_eq_false,dC,eW,aD,ed,Bool.not_eq_true,ew,gL⟩
section
variable {Y:Ctx} {Q:Ex->List aX->St->Prop} {env:List aX} {st:St}
def dG {c:Src}{a b r:AC}{t:Bool}{c1 c2:Prop}(h1:c1->dn Y (.seq a r) Q env st)(h2:c2->dn Y (.seq b r) Q env st)(hc:bO env [] c=⟨true,.bool t⟩:=by exact rfl)(e1:t=true->c1:=by intro h;(try simp only[gF]at h);exact h)(e2:t=false->c2:=by intro h;(try simp only[gF]at h);exact h):dn Y (.seq (.cond c a b) r) Q env st:=aQ (fun h=>h1 (e1 h)) (fun h=>h2 (e2 h)) hc
def A3 {c:Src}{a b:AC}{t:Bool}{c1 c2:Prop}(h1:c1->dn Y a Q env st)(h2:c2->dn Y b Q env st)(hc:bO env [] c=⟨true,.bool t⟩:=by exact rfl)(e1:t=true->c1:=by intro h;(try simp only[gF]at h);exact h)(e2:t=false->c2:=by intro h;(try simp only[gF]at h);exact h):dn Y (.cond c a b) Q env st:=wp_cond (fun h=>h1 (e1 h)) (fun h=>h2 (e2 h)) hc
end
end Go.Abs
namespace Go.Abs
end Go.Abs
namespace Go.Abs
abbrev zzh1:List Sh:=[.a,.a,.a,.a,.a,.a,.sl 3 [.sl 4 [.a,.a,.sl 1 [.a],.a],.a,.a],.sl 3 [.a,.a,.a],.sl 2 [.a,.sl 1 [.a]]]
abbrev s0:Src:=.s 0
abbrev s1:Src:=.s 1
abbrev s2:Src:=.s 2
abbrev s3:Src:=.s 3
abbrev s4:Src:=.s 4
abbrev s5:Src:=.s 5
abbrev s6:Src:=.s 6
abbrev s7:Src:=.s 7
abbrev s8:Src:=.s 8
abbrev s9:Src:=.s 9
abbrev Un:Src:=.s 10
abbrev s11:Src:=.s 11
abbrev Zb:Src:=.s 12
abbrev s13:Src:=.s 13
abbrev s14:Src:=.s 14
abbrev s15:Src:=.s 15
abbrev s16:Src:=.s 16
abbrev s17:Src:=.s 17
abbrev s18:Src:=.s 18
abbrev s19:Src:=.s 19
abbrev s20:Src:=.s 20
abbrev s21:Src:=.s 21
abbrev s22:Src:=.s 22
abbrev s23:Src:=.s 23
abbrev s24:Src:=.s 24
abbrev s25:Src:=.s 25
abbrev s26:Src:=.s 26
abbrev l0:Src:=.l 0
abbrev l1:Src:=.l 1
abbrev l2:Src:=.l 2
abbrev l3:Src:=.l 3
abbrev l4:Src:=.l 4
abbrev l5:Src:=.l 5
abbrev l6:Src:=.l 6
abbrev l7:Src:=.l 7
abbrev l8:Src:=.l 8
abbrev l9:Src:=.l 9
abbrev l10:Src:=.l 10
abbrev l11:Src:=.l 11
abbrev l12:Src:=.l 12
abbrev l13:Src:=.l 13
abbrev l14:Src:=.l 14
abbrev l15:Src:=.l 15
abbrev l16:Src:=.l 16
abbrev l17:Src:=.l 17
abbrev l18:Src:=.l 18
abbrev l19:Src:=.l 19
abbrev gm (x:Src):GI:=⟨.mv x,none⟩
abbrev gn (x:ax):GI:=⟨x,none⟩
abbrev i6 (n:Int):Src:=.c (.int .i64 n)
abbrev cs (s:List UInt8):Src:=.c (.str s)
abbrev gd (x:Src):GI:=⟨.ld 1 false x,none⟩
abbrev gk (n:Nat)(b:Bool)(x:Src):GI:=⟨.ld n b x,none⟩
abbrev gf (n:Nat)(x:Src):GI:=⟨.fa n x,none⟩
abbrev gl (x:Src):GI:=⟨.len x,none⟩
abbrev ga (n:Nat)(x y:Src):GI:=⟨.ia n x y,none⟩
abbrev gb (n:Nat)(x:Src):GI:=⟨.box n x,none⟩
abbrev gt (n:Nat)(x y:Src):GI:=⟨.st n x y,none⟩
abbrev gx (n:Nat)(x:List Src)(y:List (List Sh)):GI:=⟨.call n x y,none⟩
abbrev rg (x:List GI)(y:List (Nat×Nat)):AC:=.reg false x y
abbrev rt (x:List GI)(y:List (Nat×Nat)):AC:=.reg true x y
abbrev aet (x y:Src):ax:=.bin .lss x y
abbrev zi (x y:Src):ax:=.bin .eql x y
abbrev b_gtr (x y:Src):ax:=.bin .gtr x y
abbrev cbF:Src:=.c (.bool false)
abbrev cbT:Src:=.c (.bool true)
abbrev cse:Src:=.c (.str [])
abbrev x8:Src:=.c (.int .i64 0)
abbrev Tk:Src:=.c (.int .i64 1)
abbrev gmt (n:Nat)(x:Src):GI:=⟨.mv x,some (n,true)⟩
abbrev gdt (n:Nat)(x:Src):GI:=⟨.ld 1 false x,some (n,true)⟩
abbrev QP (n o:Nat)(x:Src):GI:=⟨.fa o x,some (n,true)⟩
abbrev Ay (n:Nat)(x:ax):GI:=⟨x,some (n,true)⟩
abbrev gmf (n:Nat)(x:Src):GI:=⟨.mv x,some (n,false)⟩
abbrev gdf (n:Nat)(x:Src):GI:=⟨.ld 1 false x,some (n,false)⟩
abbrev gff (n o:Nat)(x:Src):GI:=⟨.fa o x,some (n,false)⟩
abbrev A8 (n:Nat)(x:ax):GI:=⟨x,some (n,false)⟩
abbrev sq (a b:AC):AC:=.seq a b
abbrev gcr (c x:Src):AC:=.cond c (.seq (.reg false [⟨.mv x,none⟩] [(1,0)]) .ret) .skip
abbrev UI:List (List Sh):=[[.a]]
abbrev ha2:List (List Sh):=[[.a,.a]]
abbrev ha3:List (List Sh):=[[.a,.a,.a]]
abbrev ha5:List (List Sh):=[[.a,.a,.a,.a,.a]]
abbrev qm:List (List Sh):=[[.a],[.a]]
abbrev hb3:List (List Sh):=[[.a],[.a],[.a]]
abbrev hb4:List (List Sh):=[[.a],[.a],[.a],[.a]]
abbrev go1 (c x:Src):GI:=⟨.pick c (.c (.bool true)) x,none⟩
abbrev ga1 (c x:Src):GI:=⟨.pick c x (.c (.bool false)),none⟩
abbrev gaf (n:Nat)(c x:Src):GI:=⟨.pick c x (.c (.bool false)),some (n,false)⟩
abbrev nX (x y:Src):GI:=⟨.bin .lss x y,none⟩
abbrev G7 (x y:Src):GI:=⟨.bin .eql x y,none⟩
abbrev qu (x y:Src):GI:=⟨.bin .add x y,none⟩
abbrev Xu (x y:Src):GI:=⟨.bin .gtr x y,none⟩
abbrev rW (x y:Src):GI:=⟨.bin .neq x y,none⟩
abbrev aiO (x y:Src):GI:=⟨.bin .leq x y,none⟩
abbrev gce (c:Src)(n:Nat):AC:=.cond c .skip (.exit n)
abbrev i8 (n:Int):Src:=.c (.int .u8 n)
abbrev i3 (n:Int):Src:=.c (.int .i32 n)
abbrev gno (x:Src):GI:=⟨.un .not x,none⟩
abbrev r1 (x:List GI)(a b:Nat):AC:=.reg false x [(a,b)]
abbrev r2 (x:List GI)(a b:Nat):AC:=.reg true x [(a,b)]
abbrev re1:List Gg:=[⟨1,none⟩]
end Go.Abs
end
namespace Go.Abs
def Iw (T:List D->D->Prop):Prop:=∀(l:List av) (x:UInt8),((ch [x] l).length<=1099511627776)->T [.sl 1 (l.map D.str),.int .u8 (x.toNat:Nat)] (.str (ch [x] l))
def C249 (Y:Ctx):Prop:=Iw (aG Y 249)
def JG (T:List D->D->Prop):Prop:=∀(l:List av),T [.sl 1 (l.map D.str)] (.bool (rising l))
def C815 (Y:Ctx):Prop:=JG (aG Y 815)
end Go.Abs
