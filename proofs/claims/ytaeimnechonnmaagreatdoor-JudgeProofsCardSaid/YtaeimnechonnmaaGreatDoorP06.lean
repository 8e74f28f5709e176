/- A part of the proofs. -/
import Derived.Test.YtaeimnechonnmaaGreatDoorP05
set_option linter.all false
set_option maxRecDepth 4000
namespace Go.Abs
def RU.raw (u:RU):Prop:=∃vs:List bo,u.cs=vs.map aX/\vs.length<=4/\∀v∈vs,v.sm
def zH (m:Int)(a b:dG):(⟨a,b,(bD m 4).map aX⟩:RU).raw:=⟨_,rfl,kE m 4,qx m 4 (aB _)⟩
def xi (vs:List bo):∀r g acc,(∀v∈acc,v∈vs)->r<=vs.length->∀v∈(fG vs r g acc).1,v∈vs
 |0,g,acc,h,_=>h
 |r+1,g,acc,h,hr=>by
  rw[fG];refine xi vs r _ _ ?_ ae;intro v hv;split at hv
  .rcases List.mem_append.1 hv with hv|hv
   .exact h v hv
   .obtain rfl:=bG.1 hv;exact ak ae
  .exact h v hv
def HP (m:Int)(g:Gs)(a b:dG):(⟨a,b,(fG (bD m 4) (bD m 4).length g []).1.map aX⟩:RU).raw:=by
 refine⟨_,rfl, ?_,fun v hv=>qx m 4 (aB _) v (xi _ _ _ _ (fun _ h=>by cases h) (aB _) v hv)⟩;have:=xh (bD m 4) (bD m 4).length g [];have:=kE m 4;simp only[bw]at*;omega
def Ds (vs:List bo):∀r g acc,(fG vs r g acc).2.i=g.i+r
 |0,g,acc=>by simp[fG]
 |r+1,g,acc=>by rw[fG,Ds vs r];simp only[Gs.bQ];omega
def mA (few:Int):∀(r:Nat) (g:Gs) (us:List RU),r<=5->∃more,(ff few r g us).1=us++more/\(∀u∈more,u.raw)/\more.length<=r+(r-3)/\g.i<=(ff few r g us).2.i/\(ff few r g us).2.i<=g.i+10*r+1
 |0,g,us,_=>⟨[],by simp[ff],bA,bA,by simp only[ff,Gs.bQ];omega,by simp only[ff,Gs.bQ];omega⟩
 |r+1,g,us,hr=>by
  rw[ff];split
  .split
   .rename_i h1 h2;have hf:=Ds (bD (g.bQ.val 16) 4) (bD (g.bQ.val 16) 4).length g.ez [];have hb:=kE (g.bQ.val 16) 4;obtain⟨more,e,hm,hl,hi1,hi2⟩:=mA few r (fG (bD (g.bQ.val 16) 4) (bD (g.bQ.val 16) 4).length g.ez []).2 ((us++[⟨bS[4-r]!,[],(bD (g.bQ.val 16) 4).map aX⟩])++[⟨bS[4-r]!,[102],(fG (bD (g.bQ.val 16) 4) (bD (g.bQ.val 16) 4).length g.ez []).1.map aX⟩]) ae;refine⟨_::_::more,by rw[e];simp only[lU,List.singleton_append];rfl, ?_, ?_, ?_, ?_⟩
    .intro u hu;rcases dF.1 hu with rfl|hu
     .exact zH _ _ _
     .rcases dF.1 hu with rfl|hu
      .exact HP _ _ _ _
      .exact hm u hu
    .simp only[bj];omega
    .rw[hf]at hi1;simp only[Gs.ez,Gs.bQ]at*;omega
    .rw[hf]at hi2;simp only[Gs.ez,Gs.bQ]at*;omega
   .have hg:g.i+2<=(if 4-r<2 then g.ez else g.bQ.bQ).i/\(if 4-r<2 then g.ez else g.bQ.bQ).i<=g.i+3:=by
     split<;>simp only[Gs.ez,Gs.bQ]<;>omega
    obtain⟨more,e,hm,hl,hi1,hi2⟩:=mA few r (if 4-r<2 then g.ez else g.bQ.bQ) (us++[⟨bS[4-r]!,[],(bD (g.bQ.val 16) 4).map aX⟩]) ae;refine⟨_::more,by rw[e];simp only[lU,List.singleton_append];rfl, ?_, ?_, ?_, ?_⟩
    .intro u hu;rcases dF.1 hu with rfl|hu
     .exact zH _ _ _
     .exact hm u hu
    .simp only[bj];omega
    .omega
    .omega
  .refine⟨[],bA,bA,bA, ?_, ?_⟩<;>simp only[Gs.bQ]<;>omega
def CV {g:Gs}{few:Int}:2<=(ep g few).1.length:=by
 have hv:=g.x8 few;have h:(0:Int)<1+g.val few:=ae;unfold ep;rw[show 5=4+1 from rfl,ff,ay (by simpa using h)];split
 .obtain⟨more,e,_⟩:=mA few 4 (fG (bD (g.bQ.val 16) 4) (bD (g.bQ.val 16) 4).length g.ez []).2 ((tq++[⟨bS[4-4]!,[],(bD (g.bQ.val 16) 4).map aX⟩])++[⟨bS[4-4]!,[102],(fG (bD (g.bQ.val 16) 4) (bD (g.bQ.val 16) 4).length g.ez []).1.map aX⟩]) ae;rw[e];simp[tq]
 .obtain⟨more,e,_⟩:=mA few 4 (if 4-4<2 then g.ez else g.bQ.bQ) (tq++[⟨bS[4-4]!,[],(bD (g.bQ.val 16) 4).map aX⟩]) ae;rw[e];simp[tq]
def xZ {g:Gs}{few:Int}:∃more,(ep g few).1=tq++more/\(∀u∈more,u.raw)/\(1<=more.length/\more.length<=7)/\g.i<=(ep g few).2.i/\(ep g few).2.i<=g.i+51:=by
 obtain⟨more,e,hm,hl,h1,h2⟩:=mA few 5 g tq ae;have h3:=CV (g:=g) (few:=few);unfold ep at*
 rw[e]at h3⊢;refine⟨more,rfl,hm,⟨?_,ae⟩,h1,ae⟩;simp only[tq,cI,List.length_singleton]at h3;omega
def nu (h:Gs)(n:Nat)(vs:Nat->List bo)(i:Nat)(f:dG)(v:bo):List kL:=(if f=[]then []else [[⟨(i:Int) -1,b7 v⟩]])++(az h n vs 2).1
def gL (h:Gs)(n:Nat)(vs:Nat->List bo)(i:Nat)(f:dG)(v:bo):CW×Gs:=
 if(az h n vs 2).2.val 4=0 then(⟨v,0,.sl (nu h n vs i f v),.sl [cD (az h n vs 2).2.bQ n vs]⟩,(az h n vs 2).2.bQ.ez)
 else(⟨v,0,.sl (nu h n vs i f v),.nil⟩,(az h n vs 2).2.bQ)
def dW (n:Nat)(vs:Nat->List bo)(i:Nat)(f:dG):List bo->Gs->List CW×Gs
 |[],h=>([],h)
 |v::r,h=>((gL h n vs i f v).1::(dW n vs i f r (gL h n vs i f v).2).1,(dW n vs i f r (gL h n vs i f v).2).2)
def cn (cs:Nat->List CW)(i:Nat)(x:List CW)(t:Nat):List CW:=if t=i then x else cs t
def iZ (n:Nat)(vs:Nat->List bo)(ft:Nat->dG):Nat->Nat->Gs->(Nat->List CW)->Nat->List CW
 |0,_,_,cs=>cs
 |r+1,i,h,cs=>iZ n vs ft r (i+1) (dW n vs i (ft i) (vs i) h).2 (cn cs i (dW n vs i (ft i) (vs i) h).1)
def yM (n:Nat)(vs:Nat->List bo):∀k g acc,g.i<=(iY n vs k g acc).2.i/\(iY n vs k g acc).2.i<=g.i+7*k
 |0,g,acc=>by simp[iY]
 |k+1,g,acc=>by
  rw[iY];split
  .have:=yM n vs k g.ez.bQ.ez (acc++[[cD g n vs,cD g.ez.bQ n vs]]);simp only[Gs.ez,Gs.bQ]at*;omega
  .have:=yM n vs k g.ez.bQ (acc++[[cD g n vs]]);simp only[Gs.ez,Gs.bQ]at*;omega
def vy {g:Gs}{n:Nat}{vs:Nat->List bo}{most:Int}(h0:0<=most)(h3:most<=3):g.i<=(az g n vs most).2.i/\(az g n vs most).2.i<=g.i+22:=by
 have hv:=cS (zm g.l g.i) (most+1) ae;have hv2:g.val (most+1)=bH (zm g.l g.i) (most+1):=rfl;have:=yM n vs (g.val (most+1)).toNat g.bQ [];unfold az;simp only[Gs.bQ]at*;omega
def Di {h:Gs}{n i:Nat}{vs:Nat->List bo}{f:dG}{v:bo}:h.i<=(gL h n vs i f v).2.i/\(gL h n vs i f v).2.i<=h.i+30:=by
 have:=vy (g:=h) (n:=n) (vs:=vs) (most:=2) cg cg;unfold gL;split<;>simp only[Gs.ez,Gs.bQ]<;>omega
def Dj (h:Gs)(n i:Nat)(vs:Nat->List bo)(f:dG)(v:bo):(gL h n vs i f v).1.v=v/\(gL h n vs i f v).1.pl=true:=by
 unfold gL;split<;>exact⟨rfl,rfl⟩
def uR (n:Nat)(vs:Nat->List bo)(i:Nat)(f:dG):∀(l:List bo) (h:Gs),(dW n vs i f l h).1.map CW.v=l/\(∀c∈(dW n vs i f l h).1,c.pl=true)/\h.i<=(dW n vs i f l h).2.i/\(dW n vs i f l h).2.i<=h.i+30*l.length
 |[],h=>⟨rfl,(fun _ hc=>by cases hc),by simp[dW],by simp[dW]⟩
 |v::r,h=>by
  have ih:=uR n vs i f r (gL h n vs i f v).2;have h1:=Dj h n i vs f v;have h2:=Di (h:=h) (n:=n) (i:=i) (vs:=vs) (f:=f) (v:=v);refine⟨by simp only[dW,List.map_cons,h1.1,ih.1], ?_,by simp only[dW];omega,by simp only[dW,bj];omega⟩;intro c hc;simp only[dW]at hc;rcases dF.1 hc with rfl|hc
  .exact h1.2
  .exact ih.2.1 c hc
def kY {cs:Nat->List CW}{i:Nat}{x:List CW}:cn cs i x i=x:=ay rfl
def zf {cs:Nat->List CW}{i t:Nat}{x:List CW}(h:t≠i):cn cs i x t=cs t:=ai h
def OO {cs:Nat->List CW}{i:Nat}:cn cs i (cs i)=cs:=by
 funext t;unfold cn;split
 .rename_i h;rw[h]
 .rfl
def tW {cs:Nat->List CW}{i:Nat}{x y:List CW}:cn (cn cs i x) i y=cn cs i y:=by
 funext t;unfold cn;split<;>rfl
def pg (vs:Nat->List bo)(B:Nat->List CW):Prop:=∀t,(B t).map CW.v=vs t/\∀c∈B t,c.pl=true
def pg.J3 {vs:Nat->List bo}{B:Nat->List CW}(h:pg vs B){i:Nat}{x:List CW}(hv:x.map CW.v=vs i)(hp:∀c∈x,c.pl=true):pg vs (cn B i x):=by
 intro t;unfold cn;split
 .rename_i e;subst e;exact⟨hv,hp⟩
 .exact h t
def pg.len {vs:Nat->List bo}{B:Nat->List CW}(h:pg vs B):(fun j=>(B j).length)=fun j=>(vs j).length:=by
 funext j;rw[<-(h j).1,aE]
def pg.gT {vs:Nat->List bo}{B:Nat->List CW}(h:pg vs B):gT B=vs:=by
 funext j;exact(h j).1
def HE {α:Type} [Inhabited α]{n l k i o:Nat}{ag:Bool}{q:α->D}{xs:List α}{m:List (Nat×bT)}{v:D}(hl:look m l=some (.buf k (xs.map q)))(hi:i<xs.length)(hv:om (q xs[i]!) k n o ag=v)(ho:o+n<=k):xu m n (.ptr l k i o)/\uX m n ag (.ptr l k i o)=v:=by
 refine⟨?_, ?_⟩
 .simp only[xu,eB,hl,aE];exact⟨⟨trivial,ae⟩,ho⟩
 .simp only[uX,a7,hl];rw[getD_map hi];exact hv
def OT (o:Nat)(us:List RU):List D:=(List.range us.length).map fun j=>.agg [.str us[j]!.name,.str us[j]!.feat,.own (o+j) 8 0 us[j]!.cs.length]
def OU (nx:Nat)(us:List RU):List (Nat×bT):=[(nx,.buf 3 (OT (nx+1) us)),(nx+1,.buf 8 (us[0]!.cs.map (CW.D 10))),(nx+2,.buf 8 (us[1]!.cs.map (CW.D 10))),(nx+3,.buf 8 (us[2]!.cs.map (CW.D 10))),(nx+4,.buf 8 (us[3]!.cs.map (CW.D 10))),
 (nx+5,.buf 8 (us[4]!.cs.map (CW.D 10))),(nx+6,.buf 8 (us[5]!.cs.map (CW.D 10))),(nx+7,.buf 8 (us[6]!.cs.map (CW.D 10))),(nx+8,.buf 8 (us[7]!.cs.map (CW.D 10)))]
def Nv {lo o:Nat}{us:List RU}{ln:Nat->Nat}(σ:List (Nat×Nat))(h:∀j,j<us.length->fh lo σ (o+j)=some (2+j))(hl:∀j,us[j]!.cs.length=ln j):fu lo σ (OT o us)=some (UB us.length (fun j=>us[j]!.name) (fun j=>us[j]!.feat) ln):=by
 unfold OT UB;have h2:∀j∈List.range us.length,fh lo σ (o+j)=some (2+j):=fun j hj=>h j (List.mem_range.1 hj)
 revert h2;generalize List.range us.length=r;intro h2;induction r with
 |nil=>rfl
 |cons a r ih=>
  have:=h2 a (.head _);simp only[List.map_cons,fu,UD,jm,qh,this,hl a,ih fun j hj=>h2 j (.tail _ hj)]
def Lv {lo v:Nat}{a b:Nat×Nat}{r:List (Nat×Nat)}(h:v<8)(ha:a.1<5)(hb:b.1<5):fh lo (a::b::(5,2)::(6,3)::(7,4)::(8,5)::(9,6)::(10,7)::(11,8)::(12,9)::r) (5+v)=some (2+v):=by
 simp only[fh,ey (show a.1≠5+v by omega),ey (show b.1≠5+v by omega),cond_false]
 match v,h with
 |0,_=>rfl
 |1,_=>rfl
 |2,_=>rfl
 |3,_=>rfl
 |4,_=>rfl
 |5,_=>rfl
 |6,_=>rfl
 |7,_=>rfl
def eU {lo v:Nat}{r:List (Nat×Nat)}(h:v<8):fh lo ((0,0)::(1,1)::(2,2)::(3,3)::(4,4)::(5,5)::(6,6)::(7,7)::(8,8)::(9,9)::r) (2+v)=some (2+v):=by
 simp only[fh,ey (show 0≠2+v by omega),cond_false];exact hO h
def lO {lo k i o l l':Nat}{σ:List (Nat×Nat)}(h:fh lo σ l=some l'):jm lo σ (.ptr l k i o)=some (.ptr l' k i o):=by simp only[jm,qh,h]
def vn {done rest:List CW}{x X:CW}{e e':Nat}{d:D}(hd:∀c∈done,c.pl=true)(hr:∀c∈rest,c.pl=true)(hX:X.D e'=d):((done++x::rest).map (CW.D e)).set done.length d=(done++X::rest).map (CW.D e'):=by
 rw[List.map_append,List.map_cons,tJ (e:=e) (e':=e') hd,tJ (e:=e) (e':=e') hr,List.set_append_right _ _ bA,aE,Nat.sub_self,List.set_cons_zero,<-hX,List.map_append,List.map_cons]
def rX {done rest:List CW}{x:CW}:(done++x::rest)[done.length]! =x:=by simp[List.getElem!_eq_getElem?_getD]
def ou {done rest:List CW}{x:CW}{e:Nat}:((done++x::rest).map (CW.D e)).getD done.length .any=x.D e:=by
 rw[getD_map bA,rX]
def yI {l k:Nat}{es:List D}{B:Nat->List CW}{i:Nat}{done rest:List CW}{x X:CW}(hB:∀t,t≠i->∀c∈B t,c.pl=true)(hd:∀c∈done,c.pl=true)(hr:∀c∈rest,c.pl=true)(hX:dQ l k es (x.D l)=X.D 10)(t:Nat):
  dS l k es ((cn B i (done++x::rest) t).map (CW.D l))=(cn B i (done++X::rest) t).map (CW.D 10):=by
 have pl:∀xs:List CW,(∀c∈xs,c.pl=true)->dS l k es (xs.map (CW.D l))=xs.map (CW.D 10):=fun xs h=>by rw[iB _ _ _ _ (cu h),tJ h]
 have app:∀a b:List D,dS l k es (a++b)=dS l k es a++dS l k es b:=fun a b=>by
  induction a with
  |nil=>rfl
  |cons x r ih=>simp only[qq,dS,ih]
 unfold cn;split
 .rw[List.map_append,List.map_cons,app,dS,pl _ hd,pl _ hr,hX,List.map_append,List.map_cons]
 .rename_i h;exact pl _ (hB t h)
def dk (m:List (Nat×bT))(L:Nat)(b:bT)(l:Nat):look (cU m L b) l=if l=L then some b else look m l:=by
 induction m with
 |nil=>by_cases h:l=L<;>simp[cU,look,h,eq_comm]<;>omega
 |cons a r ih=>
  obtain⟨k,x⟩:=a;by_cases h1:k=L<;>by_cases h2:l=L<;>by_cases h3:k=l<;>simp_all[cU,look]
def wq {e e0 i:Nat}{a b:bT}{B:Nat->List CW}{Yq:List CW}{r r':List (Nat×bT)}(hi:i<8)(hB:∀t,t≠i->∀c∈B t,c.pl=true)
  (hr:jI (cU ((0,a)::(1,b)::(2,.buf 8 ((B 0).map (CW.D e0)))::(3,.buf 8 ((B 1).map (CW.D e0)))::(4,.buf 8 ((B 2).map (CW.D e0)))::(5,.buf 8 ((B 3).map (CW.D e0)))::(6,.buf 8 ((B 4).map (CW.D e0)))::(7,.buf 8 ((B 5).map (CW.D e0)))::(8,.buf 8 ((B 6).map (CW.D e0)))::(9,.buf 8 ((B 7).map (CW.D e0)))::r) (2+i) (.buf 8 (Yq.map (CW.D e)))) r'):
  jI (cU ((0,a)::(1,b)::(2,.buf 8 ((B 0).map (CW.D e0)))::(3,.buf 8 ((B 1).map (CW.D e0)))::(4,.buf 8 ((B 2).map (CW.D e0)))::(5,.buf 8 ((B 3).map (CW.D e0)))::(6,.buf 8 ((B 4).map (CW.D e0)))::(7,.buf 8 ((B 5).map (CW.D e0)))::(8,.buf 8 ((B 6).map (CW.D e0)))::(9,.buf 8 ((B 7).map (CW.D e0)))::r) (2+i) (.buf 8 (Yq.map (CW.D e))))
   ((0,a)::(1,b)::(2,.buf 8 ((cn B i Yq 0).map (CW.D e)))::(3,.buf 8 ((cn B i Yq 1).map (CW.D e)))::(4,.buf 8 ((cn B i Yq 2).map (CW.D e)))::(5,.buf 8 ((cn B i Yq 3).map (CW.D e)))::(6,.buf 8 ((cn B i Yq 4).map (CW.D e)))::(7,.buf 8 ((cn B i Yq 5).map (CW.D e)))::(8,.buf 8 ((cn B i Yq 6).map (CW.D e)))::(9,.buf 8 ((cn B i Yq 7).map (CW.D e)))::r'):=by
 have ent:∀k,k<8->look (cU ((0,a)::(1,b)::(2,.buf 8 ((B 0).map (CW.D e0)))::(3,.buf 8 ((B 1).map (CW.D e0)))::(4,.buf 8 ((B 2).map (CW.D e0)))::(5,.buf 8 ((B 3).map (CW.D e0)))::(6,.buf 8 ((B 4).map (CW.D e0)))::(7,.buf 8 ((B 5).map (CW.D e0)))::(8,.buf 8 ((B 6).map (CW.D e0)))::(9,.buf 8 ((B 7).map (CW.D e0)))::r) (2+i) (.buf 8 (Yq.map (CW.D e)))) (2+k)=some (.buf 8 ((cn B i Yq k).map (CW.D e))):=by
  intro k hk;rw[dk];split
  .rename_i h;obtain rfl:k=i:=ae;rw[kY]
  .rename_i h;have hne:k≠i:=ae;rw[hH (fun t=>(B t).map (CW.D e0)) hk,zf hne,tJ (hB k hne)]
 refine .id ?_ (.id ?_ (.id (ent 0 cg) (.id (ent 1 cg) (.id (ent 2 cg) (.id (ent 3 cg) (.id (ent 4 cg) (.id (ent 5 cg) (.id (ent 6 cg) (.id (ent 7 cg) hr)))))))))
 .rw[dk,ai ae];rfl
 .rw[dk,ai ae];rfl
def NF.p:NF->List kL
 | .sl l=>l
 |_=>[]
def BF.p:BF->List Want
 | .sl l=>l
 |_=>[]
def CW.p (c:CW):dy:=⟨c.v,c.sh,c.n.p,c.b.p⟩
def mR (us:List RU)(g:Gs):Nat->List CW:=iZ us.length (fun t=>us[t]!.cs.map CW.v) (fun t=>us[t]!.feat) (us.length-1) 1 (az g us.length (fun t=>us[t]!.cs.map CW.v) 3).2 (cn (fun t=>us[t]!.cs) 0 [⟨zV,-1,.sl (az g us.length (fun t=>us[t]!.cs.map CW.v) 3).1,.nil⟩])
def cw (ks:List Int)(few:Int):bz:=⟨(List.range (ep ⟨ks,0⟩ few).1.length).map fun t=>⟨(ep ⟨ks,0⟩ few).1[t]!.name,(ep ⟨ks,0⟩ few).1[t]!.feat,(mR (ep ⟨ks,0⟩ few).1 (ep ⟨ks,0⟩ few).2 t).map CW.p⟩⟩
def rp (vs:Nat->List bo)(B:Nat->List CW):Prop:=∀t,(B t).map CW.v=vs t
def pg.v {vs:Nat->List bo}{B:Nat->List CW}(h:pg vs B):rp vs B:=fun t=>(h t).1
def rp.len {vs:Nat->List bo}{B:Nat->List CW}(h:rp vs B):(fun j=>(B j).length)=fun j=>(vs j).length:=by
 funext j;rw[<-h j,aE]
def rp.gT {vs:Nat->List bo}{B:Nat->List CW}(h:rp vs B):gT B=vs:=by
 funext j;exact h j
def rp.J3 {vs:Nat->List bo}{B:Nat->List CW}(h:rp vs B){i:Nat}{x:List CW}(hv:x.map CW.v=vs i):rp vs (cn B i x):=by
 intro t;unfold cn;split
 .rename_i e;subst e;exact hv
 .exact h t
def yk (vs:Nat->List bo):Prop:=∀t,(vs t).length<=4/\∀v∈vs t,v.sm
def rp.ok {vs:Nat->List bo}{B:Nat->List CW}{n:Nat}(h:rp vs B)(hn:2<=n/\n<=8)(hv:yk vs):G9 n B:=by
 refine⟨hn,fun t=>⟨?_,fun c hc=>?_⟩⟩
 .have:=(hv t).1;rw[<-h t,aE]at this;exact this
 .exact(hv t).2 _ (by rw[<-h t];exact List.mem_map_of_mem hc)
def vo {done:List CW}{r:List bo}{v:bo}{l:List bo}{c:CW}(hd:done.map CW.v=l.take done.length)(hr:l.drop done.length=v::r)(hc:c.v=v):(done++c::r.map aX).map CW.v=l:=by
 have h2:(r.map aX).map CW.v=r:=by rw[List.map_map];exact List.map_id _
 rw[List.map_append,List.map_cons,hd,h2,hc,<-hr,List.take_append_drop]
def xy (n:Nat)(vs:Nat->List bo):∀k g acc,(iY n vs k g acc).1.length=acc.length+k
 |0,g,acc=>by simp[iY]
 |k+1,g,acc=>by
  rw[iY];split<;>rw[xy n vs k]<;>simp<;>omega
def vz {g:Gs}{n:Nat}{vs:Nat->List bo}{most:Int}(h0:0<=most)(h3:most<=3):(az g n vs most).1.length<=3:=by
 have hv:=cS (zm g.l g.i) (most+1) ae;have hv2:g.val (most+1)=bH (zm g.l g.i) (most+1):=rfl;unfold az;rw[xy];simp only[bw];omega
def oK {ks:List Int}{few:Int}{us:List RU}{g1:Gs}(h:ep ⟨ks,0⟩ few=(us,g1)):(2<=us.length/\us.length<=8)/\us[0]!.cs=[wE]/\(∀t:Nat,1<=t->us[t]!.cs=(us[t]!.cs.map CW.v).map aX)/\yk (fun t=>us[t]!.cs.map CW.v)/\(∀t:Nat,∀c∈us[t]!.cs,c.pl=true)/\0<=g1.i/\g1.i<=51:=by
 obtain⟨more,e,hm,hl,h1,h2⟩:=xZ (g:=⟨ks,0⟩) (few:=few);rw[h]at e h1 h2;dsimp only at e h1 h2;subst e;have hc:∀t,1<=t->(tq++more)[t]!.cs=[]\/(tq++more)[t]!.raw:=by
  intro t ht;rcases cV t (tq++more).length with h|h
  .right;have h5:(tq++more)[t]! =more[t-1]! :=by
    simp only[tq,cI,List.length_singleton]at h;simp[tq,List.getElem!_eq_getElem?_getD,List.getElem?_cons,show t≠0 by omega]
   rw[h5];exact hm _ (ak (by simp only[tq,cI,List.length_singleton]at h;omega))
  .left;rw[qI h];rfl
 have h0:(tq++more)[0]!.cs=[wE]:=by simp[tq]
 refine⟨by simp only[tq,cI,List.length_singleton];omega,h0,fun t ht=>?_,fun t=>?_,fun t=>?_,ae,ae⟩
 .rcases hc t ht with e|⟨vs,e,_⟩
  .rw[e];rfl
  .rw[e,List.map_map,List.map_map];congr 1
 .rcases Nat.eq_zero_or_pos t with rfl|ht
  .simp only[h0,List.map_cons,List.map_nil,List.length_singleton];exact⟨ae,fun v hv=>by obtain rfl:=bG.1 hv;exact sS⟩
  .rcases hc t ht with e|⟨vs,e,hl4,hsm⟩
   .simp only[e,List.map_nil,bw];exact⟨ae,fun v hv=>by cases hv⟩
   .have e2:(vs.map aX).map CW.v=vs:=by rw[List.map_map];exact List.map_id _
    simp only[e,e2];exact⟨hl4,hsm⟩
 .rcases Nat.eq_zero_or_pos t with rfl|ht
  .rw[h0];intro c hc';obtain rfl:=bG.1 hc';rfl
  .rcases hc t ht with e|⟨vs,e,_⟩
   .rw[e];intro c hc';cases hc'
   .rw[e];exact fE vs
def yJ {done rest:List CW}{c:CW}(hd:∀c∈done,c.pl=true)(hc:c.pl=true)(hr:∀c∈rest,c.pl=true):∀x∈done++c::rest,x.pl=true:=fun x hx=>(List.mem_append.1 hx).elim (hd x) fun h=>(dF.1 h).elim (fun e=>by rw[e];exact hc) (hr x)
def JG {α:Type}{l:List α}{k:Nat}{v:α}{r:List α}(h:l.drop k=v::r):l.take (k+1)=l.take k++[v]:=by
 have h2:(l.drop k)[0]? =some v:=by rw[h];rfl
 rw[List.getElem?_drop]at h2;rw[List.take_succ,show l[k]? =some v by simpa using h2];rfl
def mV {n i:Nat}{vs:Nat->List bo}{f:dG}{cs B:Nat->List CW}{done:List CW}{v:bo}{r:List bo}{k h g':Gs}{c':CW}{F:List CW×Gs}(hvr:(vs i).drop done.length=v::r)(hB:B=cn cs i (done++((vs i).drop done.length).map aX))
  (hf:(done++(dW n vs i f (v::r) k).1,(dW n vs i f (v::r) k).2)=F) (hdv:done.map CW.v=(vs i).take done.length) (hdp:∀c∈done,c.pl=true) (hk:0<=k.i/\k.i<=h.i+30*(done.length:Nat)) (hce:gL k n vs i f v=(c',g')):
  (done.length+1<=(vs i).length/\(done++[c']).length=done.length+1)/\cn B i (done++c'::r.map aX)=cn cs i ((done++[c'])++((vs i).drop (done.length+1)).map aX)/\
    ((done++[c'])++(dW n vs i f ((vs i).drop (done.length+1)) g').1,(dW n vs i f ((vs i).drop (done.length+1)) g').2)=F/\((done++[c']).map CW.v=(vs i).take (done.length+1)/\∀c∈done++[c'],c.pl=true)/\(0<=g'.i/\g'.i<=h.i+30*((done.length+1:Nat):Int)):=by
 have hr1:(vs i).drop (done.length+1)=r:=by rw[<-List.drop_drop,hvr];rfl
 have h1:=Di (h:=k) (n:=n) (vs:=vs) (i:=i) (f:=f) (v:=v);have h2:=Dj k n i vs f v;rw[hce]at h1 h2;dsimp only at h1 h2;have hl:done.length+1<=(vs i).length:=by
  have:=bV List.length hvr;simp only[wG,bj]at this;omega
 refine⟨⟨hl,bA⟩, ?_, ?_,⟨?_, ?_⟩,ae⟩
 .rw[hr1,hB,tW,lU];rfl
 .rw[hr1,<-hf];simp only[dW,hce,lU,List.singleton_append]
 .rw[List.map_append,hdv,JG hvr,List.map_cons,List.map_nil,h2.1]
 .intro c hc;rcases List.mem_append.1 hc with hc|hc
  .exact hdp c hc
  .obtain rfl:=bG.1 hc;exact h2.2
def Ci {n i:Nat}{vs:Nat->List bo}{ft:Nat->dG}{cs B:Nat->List CW}{done:List CW}{k h:Gs}(hi:i<n)(hle:(vs i).length<=done.length)(hB:B=cn cs i (done++((vs i).drop done.length).map aX))
  (hf:(done++(dW n vs i (ft i) ((vs i).drop done.length) k).1,(dW n vs i (ft i) ((vs i).drop done.length) k).2)=dW n vs i (ft i) (vs i) h):iZ n vs ft (n-(i+1)) (i+1) k B=iZ n vs ft (n-i) i h cs:=by
 obtain⟨r,hr⟩:∃r,n-i=r+1:=⟨n-i-1,ae⟩
 rw[hr,iZ,<-hf,hB,nn hle];obtain rfl:r=n-(i+1):=ae;simp only[dW,List.map_nil,JY]
def SHW:List Sh:=[.sl 3 [.a,.a,.sl 8 [.a,.a,.a,.a,.a,.a,.sl 1 [.sl 3 [.a,.a]],.sl 3 [.a,.a,.a]]]]
def Dk {m:List (Nat×bT)}{c:CW}(h:c.pl=true):(match c.D 10 with
  | .agg ds=>.agg (xL m [.a,.a,.a,.a,.a,.a,.sl 1 [.sl 3 [.a,.a]],.sl 3 [.a,.a,.a]] ds)
  |e=>xH m [.a,.a,.a,.a,.a,.a,.sl 1 [.sl 3 [.a,.a]],.sl 3 [.a,.a,.a]] e)=c.p.D/\(match c.D 10 with
  | .agg ds=>DY m [.a,.a,.a,.a,.a,.a,.sl 1 [.sl 3 [.a,.a]],.sl 3 [.a,.a,.a]] ds
  |e=>L2 m [.a,.a,.a,.a,.a,.a,.sl 1 [.sl 3 [.a,.a]],.sl 3 [.a,.a,.a]] e):=by
 obtain⟨v,sh,n,b⟩:=c;cases n<;>cases b<;>first|(simp[CW.pl,NF.pl,BF.pl]at h;done)|exact⟨rfl,rfl,rfl,rfl,rfl,rfl,rfl,rfl,rfl,rfl⟩
def GK {m:List (Nat×bT)}{n:Nat}{nm ft:Nat->dG}{ln:Nat->Nat}{cs:Nat->List CW}(h1:look m 1=some (.buf 3 (UB n nm ft ln)))(hc:∀t,t<8->look m (2+t)=some (.buf 8 ((cs t).map (CW.D 10))))(hl:∀t,ln t=(cs t).length)(hp:∀t,∀c∈cs t,c.pl=true)(hn:n<=8):
  xV m SHW (.agg [.own 1 3 0 n])=bz.D ⟨(List.range n).map fun t=>⟨nm t,ft t,(cs t).map CW.p⟩⟩/\J5 m SHW (.agg [.own 1 3 0 n]):=by
 have hu:(UB n nm ft ln).take n=UB n nm ft ln:=fg (by simp[UB]);have hq:∀t,((cs t).map (CW.D 10)).take (ln t)=(cs t).map (CW.D 10):=fun t=>fg (by simp[hl])
 constructor
 .simp only[SHW,xV,xL,xC,a7,h1,aU,hu];simp only[bz.D,UB,List.map_map];congr 2;congr 1;apply List.map_congr_left;intro j hj;have h2:=hc j (by have:=List.mem_range.1 hj;omega);simp only[Function.comp,UD,xL,xC,a7,h2,aU,hq,bN.D,List.map_map];congr 4;refine bV (D.sl 8) ?_;apply List.map_congr_left;intro c hc2;exact(Dk (m:=m) (hp j c hc2)).1
 .simp only[SHW,J5,DY,J4,a7,eB,h1,aU,hu];refine⟨⟨⟨trivial,by simp[UB]⟩, ?_⟩,rfl⟩;intro e he;simp only[UB,gr,List.mem_range]at he;obtain⟨j,hj,rfl⟩:=he;have h2:=hc j ae;simp only[UD,DY,J4,a7,eB,h2,aU,hq];refine⟨rfl,rfl,⟨⟨trivial,by simp[hl]⟩, ?_⟩,rfl⟩;intro e he;obtain⟨c,hc2,rfl⟩:=gr.1 he;exact(Dk (m:=m) (hp j c hc2)).2
def GL {ks:List Int}{few:Int}{us:List RU}{g1:Gs}{F:Nat->List CW}(h:ep ⟨ks,0⟩ few=(us,g1))(hF:mR us g1=F):(⟨(List.range us.length).map fun t=>⟨us[t]!.name,us[t]!.feat,(F t).map CW.p⟩⟩:bz)=cw ks few:=by
 unfold cw;rw[h,<-hF]
def Qh (c:CW):Prop:=c.v.sm/\(∀r∈c.n.p,∀w∈r,w.sm)/\∀w∈c.b.p,w.sm
def wm {g:Gs}{n:Nat}{vs:Nat->List bo}(hv:yk vs):(cD g n vs).sm:=(OD (hv _).2 (hv _).1).1
def Ah {n:Nat}{vs:Nat->List bo}(hv:yk vs):∀k g acc,(∀r∈acc,∀w∈r,w.sm)->∀r∈(iY n vs k g acc).1,∀w∈r,w.sm
 |0,g,acc,h=>h
 |k+1,g,acc,h=>by
  rw[iY];split<;>refine Ah hv k _ _ ?_<;>intro r hr<;>rcases List.mem_append.1 hr with hr|hr
  .exact h r hr
  .obtain rfl:=bG.1 hr;intro w hw;simp only[dF,ec,or_false]at hw;rcases hw with rfl|rfl<;>exact wm hv
  .exact h r hr
  .obtain rfl:=bG.1 hr;intro w hw;obtain rfl:=bG.1 hw;exact wm hv
def xA {n:Nat}{vs:Nat->List bo}(hv:yk vs)(g:Gs)(most:Int):∀r∈(az g n vs most).1,∀w∈r,w.sm:=Ah hv _ _ _ (fun _ h=>by cases h)
def AY {h:Gs}{n i:Nat}{vs:Nat->List bo}{f:dG}{v:bo}(hv:yk vs)(hs:v.sm):∀r∈nu h n vs i f v,∀w∈r,w.sm:=by
 intro r hr;unfold nu at hr;rcases List.mem_append.1 hr with hr|hr
 .split at hr
  .cases hr
  .obtain rfl:=bG.1 hr;intro w hw;obtain rfl:=bG.1 hw;exact xg hs
 .exact xA hv _ _ r hr
def HD {h:Gs}{n i:Nat}{vs:Nat->List bo}{f:dG}{v:bo}(hv:yk vs)(hs:v.sm):Qh (gL h n vs i f v).1:=by
 unfold gL;split
 .exact⟨hs,AY hv hs,fun w hw=>by obtain rfl:=bG.1 hw;exact wm hv⟩
 .exact⟨hs,AY hv hs,fun w hw=>by cases hw⟩
def xo {n i:Nat}{vs:Nat->List bo}{f:dG}(hv:yk vs):∀(l:List bo) (h:Gs),(∀v∈l,v.sm)->∀c∈(dW n vs i f l h).1,Qh c
 |[],h,_,c,hc=>by cases hc
 |v::r,h,hl,c,hc=>by
  simp only[dW]at hc;rcases dF.1 hc with rfl|hc
  .exact HD hv (hl _ (.head _))
  .exact xo hv r _ (fun x hx=>hl x (.tail _ hx)) c hc
def xF {n:Nat}{vs:Nat->List bo}{ft:Nat->dG}(hv:yk vs):∀r i h cs,(∀t,((cs t).length<=4)/\∀c∈cs t,Qh c)->∀t,((iZ n vs ft r i h cs t).length<=4)/\∀c∈iZ n vs ft r i h cs t,Qh c
 |0,i,h,cs,hc=>hc
 |r+1,i,h,cs,hc=>by
  rw[iZ];refine xF hv r _ _ _ fun t=>?_
  unfold cn;split
  .refine⟨?_,xo hv _ _ (hv i).2⟩;have:=bV List.length (uR n vs i (ft i) (vs i) h).1;rw[aE]at this;rw[this];exact(hv i).1
  .exact hc t
def sv (ks:List Int)(few:Int):(cw ks few).sm/\(cw ks few).us.length<=8:=by
 obtain⟨us,g1,h⟩:∃us g1,ep ⟨ks,0⟩ few=(us,g1):=⟨_,_,rfl⟩
 obtain⟨h8,h0,hraw,hv,hp,_⟩:=oK h;have hb:∀t:Nat,(us[t]!.cs.length<=4)/\∀c∈us[t]!.cs,Qh c:=by
  intro t;have h4:=(hv t).1;rw[aE]at h4;refine⟨h4,fun c hc=>?_⟩;have hvs:c.v.sm:=(hv t).2 _ (List.mem_map_of_mem hc);rcases Nat.eq_zero_or_pos t with rfl|ht
  .rw[h0]at hc;obtain rfl:=bG.1 hc;exact⟨hvs,(fun _ h=>by cases h),(fun _ h=>by cases h)⟩
  .rw[hraw t ht]at hc;obtain⟨v,_,rfl⟩:=gr.1 hc;exact⟨hvs,(fun _ h=>by cases h),(fun _ h=>by cases h)⟩
 have hf:=xF (n:=us.length) (ft:=fun t=>us[t]!.feat) hv (us.length-1) 1 (az g1 us.length (fun t=>us[t]!.cs.map CW.v) 3).2 (cn (fun t=>us[t]!.cs) 0 [⟨zV,-1,.sl (az g1 us.length (fun t=>us[t]!.cs.map CW.v) 3).1,.nil⟩]) (by
  intro t;unfold cn;split
  .refine⟨bA,fun c hc=>?_⟩;obtain rfl:=bG.1 hc;exact⟨sS,xA hv _ _,fun _ h=>by cases h⟩
  .exact hb t)
 unfold cw;rw[h];refine⟨?_,by simp only[aE,List.length_range];exact h8.2⟩;intro u hu;obtain⟨t,_,rfl⟩:=gr.1 hu;have:=hf t;refine⟨by dsimp only[mR];rw[List.length_map];exact Nat.le_trans this.1 cg,fun c hc=>?_⟩;obtain⟨x,hx,rfl⟩:=gr.1 hc;exact this.2 x hx
def eI (a b:Int):Int:=IntKind.i64.wrap ((BitVec.ofInt 64 a&&&BitVec.ofInt 64 b).toNat)
def J0 (a b:Int):Int:=IntKind.i64.wrap ((BitVec.ofInt 64 a&&& ~~~ BitVec.ofInt 64 b).toNat)
def ru (a b:Int):Int:=IntKind.i64.wrap ((BitVec.ofInt 64 a |||BitVec.ofInt 64 b).toNat)
def bW (us:List bN)(u:Int):Int:=if u<0\/(us.length:Int)<=u then 0 else 2^(us[u.toNat]!.cands.length+1) -1
def jz (cs:List dy)(s:bL):Nat->Int
 |0=>0
 |k+1=>if nB s cs[k]!.v=true then jz cs s k+2^(k+1)else jz cs s k
def eR (us:List bN)(w:Want):Int:=if w.u<0\/(us.length:Int)<=w.u then 0 else jz us[w.u.toNat]!.cands w.s us[w.u.toNat]!.cands.length
def aI (us:List bN):List bK->Int->Int
 |[],u=>bW us u
 |t::r,u=>if t.u=u then t.m else aI us r u
def lT (us:List bN)(t:bK):Bool:=decide (t.m≠0)&&decide (eI t.m (bW us t.u)=t.m)&&decide (t.m≠bW us t.u)
def dM (us:List bN)(l:List bK):Bool:=cO (fun i=>lT us l[i]! && !(decide (0<i)&&decide (l[i]!.u<=l[i-1]!.u))) 0 l.length
def nd (a b:Int):Int:=if eI a b=a then 2 else if eI a b=0 then 0 else 1
def xx {us:List bN}{l:List bK}{u:Int}{i:Nat}(hi:i<l.length)(h:l[i]!.u=u):aI us (l.drop i) u=l[i]!.m:=by
 rw[kZ hi,aI,ay (by simpa[hi]using h)];simp[hi]
def vj {us:List bN}{l:List bK}{u:Int}{i:Nat}(hi:i<l.length)(h:¬l[i]!.u=u):aI us (l.drop i) u=aI us (l.drop (i+1)) u:=by
 rw[kZ hi,aI,ai (by simpa[hi]using h)]
def xw {us:List bN}{l:List bK}{u:Int}{i:Nat}(hi:l.length<=i):aI us (l.drop i) u=bW us u:=by
 rw[nn hi,aI]
def Cj (k:Nat):(2:Int)^k=((2^k:Nat):Int):=by
 induction k with
 |zero=>rfl
 |succ k ih=>rw[Int.pow_succ,ih,Nat.pow_succ];omega
def Ck {k n:Nat}(h:k<=n):(2:Int)^k<=2^n:=by
 rw[Cj,Cj];exact Int.ofNat_le.2 (Nat.pow_le_pow_right cg h)
def eS (k:Nat):(1:Int)<=2^k:=by
 rw[Cj];have:=Nat.one_le_two_pow (n:=k);omega
def oz {k:Nat}(h:k<=40):(2:Int)^k<=1099511627776:=Ck h
def vl (cs:List dy)(s:bL):∀k,0<=jz cs s k/\jz cs s k<=2^(k+1) -2
 |0=>by simp[jz]
 |k+1=>by
  have ih:=vl cs s k;have h1:(2:Int)^(k+1+1)=2^(k+1)*2:=Int.pow_succ 2 (k+1);have h2:=eS (k+1);rw[jz];split<;>omega
def q7 (us:List bN)(row:aj)(k:Int)(w:Want):Bool:=if w.u=row.unit then decide (eI (eR us w) (2^(k+1).toNat)≠0)else decide (J0 (aI us row.terms w.u) (eR us w)=0)
def qQ (us:List bN)(row:aj)(k:Int)(w:Want):Bool:=if w.u=row.unit then decide (eI (eR us w) (2^(k+1).toNat)=0)else decide (eI (eR us w) (aI us row.terms w.u)=0)
def qt (x:Int):Prop:=-9223372036854775808<=x/\x<=9223372036854775807
def zj (x:BitVec 64):IntKind.i64.wrap (x.toNat:Int)=x.toInt:=by
 have h:=x.isLt;have e:IntKind.i64.wrap (x.toNat:Int)=if decide ((x.toNat:Int)%18446744073709551616≥9223372036854775808)=true then(x.toNat:Int)%18446744073709551616-18446744073709551616 else(x.toNat:Int)%18446744073709551616:=rfl
 rw[e,BitVec.toInt_eq_toNat_cond];simp only[cj];split<;>split<;>omega
def kQ {m:Int}(h:qt m):(BitVec.ofInt 64 m).toInt=m:=by
 obtain⟨h1,h2⟩:=h;rw[BitVec.toInt_ofInt,Int.bmod_def];split<;>omega
def mL (a b:Int):eI a b=(BitVec.ofInt 64 a&&&BitVec.ofInt 64 b).toInt:=zj _
def Hy (a b:Int):J0 a b=(BitVec.ofInt 64 a&&& ~~~ BitVec.ofInt 64 b).toInt:=zj _
def HA (a b:Int):ru a b=(BitVec.ofInt 64 a |||BitVec.ofInt 64 b).toInt:=zj _
def nW (a b:Int):eI a b=eI b a:=by rw[mL,mL,BitVec.and_comm]
def zd {x:BitVec 64}:x.toInt=0↔x=0#64:=⟨fun h=>BitVec.eq_of_toInt_eq (by rw[h];rfl),fun h=>by rw[h];rfl⟩
def FA {x y:BitVec 64}:x&&& ~~~ y=0#64↔x&&&y=x:=by
 constructor<;>intro h<;>ext i hi<;>have:=bV (fun z=>z.getLsbD i) h<;>simp at this<;>simp[hi]<;>grind
def Dg {m f:Int}(h:qt m):J0 m f=0↔eI m f=m:=by
 rw[Hy,mL,zd,FA];constructor
 .intro e;rw[e];exact kQ h
 .intro e;exact BitVec.eq_of_toInt_eq (by rw[e,kQ h])
def Dh {a:Int}{i:Nat}(h0:0<=a)(h1:a<2^i)(hi:i<=40):ru a (2^i)=a+2^i:=by
 have hp:=oz hi;obtain⟨n,rfl⟩:∃n:Nat,a=(n:Int):=⟨a.toNat,ae⟩
 rw[Cj]at h1 hp⊢;have h2:n<2^i:=ae;have hl:(2:Nat)^i<=1099511627776:=ae;have e:(BitVec.ofInt 64 (n:Int) |||BitVec.ofInt 64 ((2^i:Nat):Int)).toNat=n+2^i:=by
  rw[BitVec.toNat_or,BitVec.toNat_ofInt,BitVec.toNat_ofInt];have h3:((n:Int)%((2^64:Nat):Int)).toNat=n:=ae;have h4:(((2^i:Nat):Int)%((2^64:Nat):Int)).toNat=2^i:=ae;rw[h3,h4,Nat.or_comm];have:=Nat.two_pow_add_eq_or_of_lt h2 1;simp only[Nat.mul_one]at this;omega
 unfold ru;rw[e,wrap_i64 ae ae];omega
def LW (us:List bN)(t:bK):Bool:=!(decide (t.m=0) ||!decide (J0 t.m (bW us t.u)=0) ||decide (t.m=bW us t.u))
def LX {us:List bN}{t:bK}(h:qt t.m):LW us t=lT us t:=by
 unfold LW lT;have:=Dg (f:=bW us t.u) h;by_cases h1:t.m=0<;>by_cases h2:eI t.m (bW us t.u)=t.m<;>by_cases h3:t.m=bW us t.u<;>simp_all
def q5 {b:Int}{n:Nat}(hb:b=(n:Int))(hn:n<=40):IntKind.i64.wrap (1*2^(min b.toNat IntKind.i64.bits))=2^n:=by
 subst hb;have h:=oz hn;have h2:=eS n;rw[show min (Int.toNat (n:Int)) IntKind.i64.bits=n from Nat.min_eq_left (by simp only[IntKind.bits];omega),Int.one_mul];exact wrap_i64 ae ae
def iV {α:Type}(f:α->Bool):List α->Nat->Int
 |[],_=>-1
 |x::r,i=>if f x=true then(i:Int)else iV f r (i+1)
def qJ {α:Type} [Inhabited α]{f:α->Bool}{l:List α}{i:Nat}(hi:i<l.length)(h:f l[i]! =true):iV f (l.drop i) i=i:=by
 rw[kZ hi,iV,ay (by simpa[hi]using h)]
def oU {α:Type} [Inhabited α]{f:α->Bool}{l:List α}{i:Nat}(hi:i<l.length)(h:f l[i]! =false):iV f (l.drop i) i=iV f (l.drop (i+1)) (i+1):=by
 rw[kZ hi,iV,ai (by simpa[hi]using h)]
def uQ {α:Type}{f:α->Bool}{l:List α}{i:Nat}(hi:l.length<=i):iV f (l.drop i) i=-1:=by
 rw[nn hi,iV]
def uP {α:Type}{f:α->Bool}:∀{l:List α}{i:Nat},decide (0<=iV f l i)=l.any f
 |[],i=>by simp[iV]
 |x::r,i=>by
  rw[iV,List.any_cons];split
  .rename_i h;rw[h];simp
  .rename_i h;rw[uP];simp[h]
def fB (b:Bool)(us:List bN)(row:aj)(k:Int)(w:Want):Bool:=if b=true then q7 us row k w else !qQ us row k w
def gh (us:List bN)(row:aj)(k:Int)(r:kL):Bool:=!r.any (fB false us row k)
def lA (us:List bN)(row:aj)(k:Nat)(mild:Bool):Bool:=if mild=true then us[row.unit.toNat]!.cands[k]!.bars.any (fB true us row (k:Int))else us[row.unit.toNat]!.cands[k]!.needs.any (gh us row (k:Int))
def dy.fz (l k:Nat)(es:List Abs.D)(c:dy):dQ l k es c.D=c.D:=pS l k es _ (by simp only[dy.D,D.bm,aV,eL])
def bg.fz (l k:Nat)(es:List Abs.D)(c:bg):dQ l k es c.D=c.D:=pS l k es _ (by simp only[bg.D,D.bm,aV,eL])
def aj.fz (l k:Nat)(es:List Abs.D)(c:aj):dQ l k es c.D=c.D:=pS l k es _ (by simp only[aj.D,D.bm,aV,eL])
def wT (l:List bK)(u:Int):Bool:=l.any fun t=>decide (t.u=u)
def mg (us:List bN)(u:Int):∀(l:List bK) (i:Nat),(iV (fun t=>decide (t.u=u)) l i=-1/\wT l u=false/\aI us l u=bW us u)\/∃j,j<l.length/\iV (fun t=>decide (t.u=u)) l i=((i+j:Nat):Int)/\l[j]!.u=u/\aI us l u=l[j]!.m/\wT l u=true
 |[],i=>.inl ⟨rfl,rfl,rfl⟩
 |t::r,i=>by
  by_cases h:t.u=u
  .refine .inr ⟨0,bA, ?_,by simpa using h, ?_, ?_⟩
   .rw[iV,ay (by simpa using h)];rfl
   .rw[aI,ay h];rfl
   .simp[wT,h]
  .rcases mg us u r (i+1)with⟨h1,h2,h3⟩|⟨j,h1,h2,h3,h4,h5⟩
   .refine .inl ⟨?_, ?_, ?_⟩
    .rw[iV,ai (by simpa using h)];exact h1
    .unfold wT at*;rw[List.any_cons,h2];simp[h]
    .rw[aI,ai h];exact h3
   .refine .inr ⟨j+1,eu, ?_, ?_, ?_, ?_⟩
    .rw[iV,ai (by simpa using h),h2];omega
    .simpa using h3
    .rw[aI,ai h,h4];simp
    .unfold wT at*;rw[List.any_cons,h5];simp
def gF (us:List bN)(row:aj)(mild:Bool):Bool:=wT row.terms row.unit&&decide (eI (aI us row.terms row.unit) 1=0)&&cO (fun k=>decide (eI (aI us row.terms row.unit) (2^(k+1))=0) ||lA us row k mild) 0 us[row.unit.toNat]!.cands.length
def qn {us:List bN}{t:bK}(h:lT us t=true):0<=t.u/\t.u<us.length:=by
 simp only[lT,bR,cj]at h;by_cases q:t.u<0\/(us.length:Int)<=t.u
 .exfalso;rw[show bW us t.u=0 from ay q]at h;have h2:eI t.m 0=0:=by rw[mL];simp
  rw[h2]at h;exact h.1.1 h.1.2.symm
 .omega
def tT {us:List bN}{l:List bK}(h:dM us l=true){i:Nat}(hi:i<l.length):lT us l[i]! =true:=by
 unfold dM at h;rw[de]at h;have:=h i ae hi;simp only[bR]at this;exact this.1
def xD (k:Int):D:=if k=1 then .fn 4001178 [.agg []]else if k=2\/k=3 then .fn 4001179 [.agg [.bool (decide (k=3))]]else if k=4 then .fn 4001180 [.agg []]else if k=5 then .fn 4001181 [.agg []]else .fn 4600000 []
def pz (us:List bN)(A B:List bK)(row:aj)(u:Nat):Bool:=decide (J0 (aI us row.terms (u:Int)) (if(u:Int)=row.unit then ru (aI us A (u:Int)) (aI us B (u:Int))else eI (aI us A (u:Int)) (aI us B (u:Int)))=0)
def nV (c:bg)(row:aj)(i:Int):Bool:=decide (bW c.w.us row.unit≠0)&&(decide (0<=row.a)&&decide (row.a<i))&&(decide (0<=row.b)&&decide (row.b<i))&&(dM c.w.us c.rows[row.a.toNat]!.terms&&dM c.w.us c.rows[row.b.toNat]!.terms)&&cO (pz c.w.us c.rows[row.a.toNat]!.terms c.rows[row.b.toNat]!.terms row) 0 c.w.us.length
def uq (c:bg)(row:aj):Bool:=decide (bW c.w.us row.unit≠0)&&decide (row.unit<c.allow.length)&&decide (eI (aI c.w.us row.terms row.unit) c.allow[row.unit.toNat]! =0)
def lu (c:bg)(row:aj)(i:Int):Bool:=if row.kind=5 then nV c row i else decide (row.a=0)&&decide (row.b=0)&&(if row.kind=1 then decide (row.unit=0)&&decide (aI c.w.us row.terms 0=1)else if row.kind=2\/row.kind=3 then gF c.w.us row (decide (row.kind=3))else if row.kind=4 then uq c row else false)
def dA (c:bg)(i:Int):Bool:=decide (0<=i)&&decide (i<c.rows.length)&&dM c.w.us c.rows[i.toNat]!.terms&&lu c c.rows[i.toNat]! i
def RowsIn (l:List aj):Prop:=∀r∈l,∀t∈r.terms,qt t.m
def KS {us:List bN}{u:Int}(h:bW us u≠0):0<=u/\u<us.length:=by
 by_cases q:u<0\/(us.length:Int)<=u
 .exact absurd (ay q) h
 .omega
def BZ (k:Int):k=1\/(k=2\/k=3)\/k=4\/k=5\/¬(k=1\/k=2\/k=3\/k=4\/k=5):=ae
def ofK1 {k:Int}(h:k=1):xD k=.fn 4001178 [.agg []]:=ay h
def ofK2 {k:Int}(h:k=2\/k=3):xD k=.fn 4001179 [.agg [.bool (decide (k=3))]]:=by unfold xD;rw[ai ae,ay h]
def ofK4 {k:Int}(h:k=4):xD k=.fn 4001180 [.agg []]:=by unfold xD;rw[ai ae,ai ae,ay h]
def ofK5 {k:Int}(h:k=5):xD k=.fn 4001181 [.agg []]:=by unfold xD;rw[ai ae,ai ae,ai ae,ay h]
def ofK0 {k:Int}(h:¬(k=1\/k=2\/k=3\/k=4\/k=5)):xD k=.fn 4600000 []:=by unfold xD;rw[ai ae,ai ae,ai ae,ai ae]
def iq (f:Nat->Bool):Nat->Nat->Nat
 |0,i=>i
 |k+1,i=>if f i=true then iq f k (i+1)else i
def tG {f:Nat->Bool}{i n:Nat}(hi:i<n)(h:f i=true):iq f (n-i) i=iq f (n-(i+1)) (i+1):=by
 obtain⟨k,hk⟩:∃k,n-i=k+1:=⟨n-i-1,ae⟩
 rw[hk,iq,ay h,show k=n-(i+1)by omega]
def tF {f:Nat->Bool}{i n:Nat}(hi:i<n)(h:f i=false):iq f (n-i) i=i:=by
 obtain⟨k,hk⟩:∃k,n-i=k+1:=⟨n-i-1,ae⟩
 rw[hk,iq,ai (by rw[h];exact Bool.false_ne_true)]
def qv {f:Nat->Bool}{i n:Nat}(hi:n<=i):iq f (n-i) i=i:=by
 rw[show n-i=0 by omega,iq]
def eD (ok:Bool)(f:Nat->Bool)(l:List aj):Int×Bool:=if ok=false then(0,false)else if iq f l.length 0<l.length then((iq f l.length 0:Nat),false)else((l.length:Nat),decide (0<l.length)&&decide (l[l.length-1]!.terms.length=0))
def okW (w:bz)(allow:List Int):Bool:=tv w&& !(decide (0<allow.length)&&decide (allow.length≠w.us.length))
def js (m:Int):Nat->List Int
 |0=>[]
 |i+1=>if eI m (2^i)≠0 then js m i++[(i:Int) -1]else js m i
def jO (m:Int):List Int:=js m 17
def tl (us:List bN)(row:aj)(bit:Int)(u:Int):Int:=if u=row.unit then bit else aI us row.terms u
def ow (us:List bN)(row:aj)(bit:Int)(l:List Want):Bool:=cO (fun i=>decide (eI (tl us row bit l[i]!.u) (eR us l[i]!)=0)) 0 l.length
def ko (us:List bN)(row:aj)(bit:Int)(w:Want):Bool:=decide (nd (tl us row bit w.u) (eR us w)=2)
def iR (us:List bN)(row:aj)(k:Nat):Bool:=if row.kind=2 then lX (fun i=>ow us row (2^(k+1)) us[row.unit.toNat]!.cands[k]!.needs[i]!) 0 us[row.unit.toNat]!.cands[k]!.needs.length else lX (fun i=>ko us row (2^(k+1)) us[row.unit.toNat]!.cands[k]!.bars[i]!) 0 us[row.unit.toNat]!.cands[k]!.bars.length
def oH (us:List bN)(row:aj):Bool:=decide (0<=row.unit)&&decide (row.unit<us.length)&&decide (eI (aI us row.terms row.unit) 1≠1)&&cO (fun i=>iR us row (jO (aI us row.terms row.unit))[i]!.toNat) 0 (jO (aI us row.terms row.unit)).length
def pJ (us:List bN)(A B:List bK)(row:aj)(u:Nat):Bool:=decide (nd (aI us row.terms (u:Int)) (if(u:Int)=row.unit then ru (aI us A (u:Int)) (aI us B (u:Int))else eI (aI us A (u:Int)) (aI us B (u:Int)))=2)
def uw (c:bg)(row:aj)(i:Int):Bool:=(decide (0<=row.a)&&decide (row.a<i))&&(decide (0<=row.b)&&decide (row.b<i))&&(dM c.w.us c.rows[row.a.toNat]!.terms&&dM c.w.us c.rows[row.b.toNat]!.terms)&&cO (pJ c.w.us c.rows[row.a.toNat]!.terms c.rows[row.b.toNat]!.terms row) 0 c.w.us.length
def mi (c:bg)(row:aj)(i:Int):Bool:=if row.kind=5 then uw c row i else decide (row.a=0)&&decide (row.b=0)&&(if row.kind=1 then decide (row.unit=0)&&decide (aI c.w.us row.terms row.unit=1)else if row.kind=2\/row.kind=3 then oH c.w.us row else if row.kind=4 then decide (row.unit<c.allow.length)&&decide (eI (aI c.w.us row.terms row.unit) c.allow[row.unit.toNat]! =0)else false)
def nD (c:bg)(i:Int):Bool:=decide (0<=i)&&decide (i<c.rows.length)&&dM c.w.us c.rows[i.toNat]!.terms&&(decide (0<=c.rows[i.toNat]!.unit)&&decide (c.rows[i.toNat]!.unit<c.w.us.length))&&mi c c.rows[i.toNat]! i
def oS {m x:Int}:∀{n:Nat},x∈js m n->∃i,i<n/\x=(i:Int) -1/\eI m (2^i)≠0
 |0,h=>by cases h
 |n+1,h=>by
  rw[js]at h;split at h
  .rename_i hb;rcases List.mem_append.1 h with h|h
   .obtain⟨i,h1,h2⟩:=oS h;exact⟨i,ae,h2⟩
   .obtain rfl:=bG.1 h;exact⟨n,ae,rfl,hb⟩
  .obtain⟨i,h1,h2⟩:=oS h;exact⟨i,ae,h2⟩
def rC (m:Int):∀n,(js m n).length<=n
 |0=>aB _
 |n+1=>by
  have:=rC m n;rw[js];split
  .simp only[cI,List.length_singleton];omega
  .omega
def HW:∀n,n<17->∀i,i<17->i<=n\/eI ((2:Int)^(n+1) -1) (2^i)=0:=by decide+kernel
def KG {m f b:Int}(h:eI m f=m)(hm:qt m)(hb:eI m b≠0):eI f b≠0:=by
 rw[mL]at*
 intro h2;apply hb;have e:BitVec.ofInt 64 m&&&BitVec.ofInt 64 f=BitVec.ofInt 64 m:=BitVec.eq_of_toInt_eq (by rw[h,kQ hm]);rw[zd]at h2⊢;rw[<-e,BitVec.and_assoc,h2,BitVec.and_zero]
def mK (a b:Int):qt (eI a b):=by
 rw[mL];have h1:=BitVec.le_toInt (BitVec.ofInt 64 a&&&BitVec.ofInt 64 b);have h2:=BitVec.toInt_lt (x:=BitVec.ofInt 64 a&&&BitVec.ofInt 64 b);exact⟨by simpa using h1,by have:=h2;simp at this;omega⟩
def ze {us:List bN}{t:bK}(h:lT us t=true):qt t.m:=by
 simp only[lT,bR,cj]at h;rw[<-h.1.2];exact mK _ _
def Df (m:Int):eI m 1=0\/eI m 1=1:=by
 have h:(BitVec.ofInt 64 m&&&BitVec.ofInt 64 1).toNat<=1:=by
  rw[BitVec.toNat_and];exact ea Nat.and_le_right cg
 unfold eI;generalize (BitVec.ofInt 64 m&&&BitVec.ofInt 64 1).toNat=x at h;have:x=0\/x=1:=ae;rcases this with rfl|rfl
 .left;rfl
 .right;rfl
def zI {m:Int}(h:qt m):eI m m=m:=by
 rw[mL,BitVec.and_self,kQ h]
def oa {us:List bN}{u:Int}(h:∀x∈us,x.cands.length<=16):qt (bW us u):=by
 unfold bW;split
 .exact⟨cg,cg⟩
 .rename_i q;have:=h _ (ak (show u.toNat<us.length by omega));have h1:=oz (k:=us[u.toNat]!.cands.length+1) ae;have h2:=eS (us[u.toNat]!.cands.length+1);constructor<;>omega
def iX {us:List bN}{l:List bK}{u:Int}(hs:∀x∈us,x.cands.length<=16)(h:dM us l=true):qt (aI us l u)/\eI (aI us l u) (bW us u)=aI us l u:=by
 rcases mg us u l 0 with⟨_,_,e⟩|⟨j,h1,_,h3,e,_⟩
 .rw[e];exact⟨oa hs,zI (oa hs)⟩
 .have ht:=tT h h1;rw[e];refine⟨ze ht, ?_⟩;simp only[lT,bR,cj]at ht;rw[<-h3];exact ht.1.2
def Dq {us:List bN}{l:List bK}{u:Int}(hs:∀x∈us,x.cands.length<=16)(h:dM us l=true)(h0:0<=u)(h1:u<us.length)(hb:eI (aI us l u) 1≠1):∀x∈jO (aI us l u),0<=x/\x<us[u.toNat]!.cands.length:=by
 intro x hx;obtain⟨i,hi,rfl,hm⟩:=oS hx;obtain⟨g1,g2⟩:=iX (u:=u) hs h;have hc:=hs _ (ak (show u.toNat<us.length by omega));have h5:=KG g2 g1 hm;rw[show bW us u=2^(us[u.toNat]!.cands.length+1) -1 from ai ae]at h5;rcases HW _ (show us[u.toNat]!.cands.length<17 by omega) i hi with h6|h6
 .rcases Nat.eq_zero_or_pos i with rfl|hp
  .exfalso;rcases Df (aI us l u)with h7|h7
   .exact hm h7
   .exact hb h7
  .omega
 .exact absurd h6 h5
def A5 {b:Int}{n:Nat}(hb:b=(n:Int))(hn:n<=39):IntKind.i64.wrap (2*2^(min b.toNat IntKind.i64.bits))=2^(n+1):=by
 subst hb;have h:=oz (k:=n+1) ae;have h2:=eS n;rw[Int.pow_succ]at h;rw[show min (Int.toNat (n:Int)) IntKind.i64.bits=n from Nat.min_eq_left (by simp only[IntKind.bits];omega),Int.pow_succ,Int.mul_comm];exact wrap_i64 ae ae
def cY (l k:Nat)(es:List D)(rs:List aj):dS l k es (rs.map aj.D)=rs.map aj.D:=iB l k es _ (cd (fun r=>by simp only[aj.D,D.bm,aV,eL]) _)
def fP {α:Type} [Inhabited α]{l:List α}{i:Nat}(h:i<l.length):l.take i++[l[i]!]=l.take (i+1):=by
 rw[List.take_succ,show l[i]? =some l[i]! by simp[h]];rfl
def mE (us:List bN)(ks:List Int)(i:Nat):Int:=if bH (zm ks (i:Int)) 300<100/\0<i then eI (bW us (i:Int)) (bH (zm ks (i:Int)) 300)else bW us (i:Int)
def nS (us:List bN)(ks:List Int):Nat->List Int
 |0=>[]
 |i+1=>nS us ks i++[mE us ks i]
def fV (us:List bN)(ks:List Int):List Int:=if ks.length=0 then []else nS us ks us.length
def pI (us:List bN)(ks:List Int):∀i,(nS us ks i).length=i
 |0=>rfl
 |i+1=>by rw[nS,cI,pI us ks i];rfl
def jG:bz:=⟨[⟨[],[],[⟨zV,-1,[[⟨1,wO⟩]],[]⟩]⟩,⟨[97,110,116],[],[]⟩]⟩
def bz.fz (l k:Nat)(es:List Abs.D)(w:bz):dQ l k es w.D=w.D:=pS l k es _ rfl
def bK.eq (a b:bK):ic (bK.D a).cells (bK.D b).cells=decide (a=b):=by
 cases a;cases b
 grind [bK.D,D.cells,ic,tL]
def Ih {α:Type} [Inhabited α]{a b:List α}(h:a.length=b.length)(hk:∀k,k<a.length->a[k]! =b[k]!):a=b:=by
 apply List.ext_getElem h;intro n h1 h2;have:=hk n h1;simpa[h1,h2]using this
def lJ (us:List bN)(i:Nat):List Int:=(List.range i).map fun u=>bW us ((u:Nat):Int)
def lI (us:List bN):List Int:=lJ us us.length
def mT (us:List bN)(i:Nat):(lJ us i).length=i:=by simp[lJ]
def BS (us:List bN):(lI us).length=us.length:=mT _ _
def BT (us:List bN)(i:Nat):lJ us i++[bW us ((i:Nat):Int)]=lJ us (i+1):=by
 simp[lJ,List.range_succ]
def iW (us:List bN)(ms:List Int):Nat->List bK
 |0=>[]
 |i+1=>if ms[i]! ≠bW us ((i:Nat):Int)then iW us ms i++[⟨((i:Nat):Int),ms[i]!⟩]else iW us ms i
def rV (us:List bN)(ms:List Int):∀i,(iW us ms i).length<=i
 |0=>aB _
 |i+1=>by
  have:=rV us ms i;rw[iW];split
  .simp only[cI,List.length_singleton];omega
  .omega
def K1 {us:List bN}{ms:List Int}{i:Nat}(h:ms[i]! ≠bW us ((i:Nat):Int)):iW us ms i++[⟨((i:Nat):Int),ms[i]!⟩]=iW us ms (i+1):=by rw[iW,ay h]
def K0 {us:List bN}{ms:List Int}{i:Nat}(h:¬ms[i]! ≠bW us ((i:Nat):Int)):iW us ms i=iW us ms (i+1):=by rw[iW,ai h]
def iH (us:List bN)(ms:List Int):List bK×Bool:=if cO (fun i=>decide (ms[i]! ≠0)) 0 ms.length=true then(iW us ms ms.length,true)else([],false)
def FZ (us:List bN)(ms:List Int):(iH us ms).1.length<=ms.length:=by
 unfold iH;split
 .exact rV _ _ _
 .exact Nat.zero_le _
def JA {xs:List Int}{i:Nat}(h:i<xs.length)(v:Int):(xs.map (D.int .i64)).set i (oI ((xs.map (D.int .i64)).getD i .any) 1 1 0 (.int .i64 v))=(xs.set i v).map (D.int .i64):=by
 rw[getD_map h,List.map_set];rfl
def C8 (ms:List Int)(t:bK):List Int:=ms.set t.u.toNat (eI ms[t.u.toNat]! t.m)
def nC (us:List bN)(l:List bK):Nat->List Int
 |0=>lI us
 |i+1=>C8 (nC us l i) l[i]!
def ov (us:List bN)(l:List bK):∀i,(nC us l i).length=us.length
 |0=>BS us
 |i+1=>by rw[nC,C8,List.length_set,ov us l i]
def Mr (us:List bN)(t:bK):Bool:=decide (0<=t.u)&&decide (t.u<us.length)
def vt (us:List bN)(l:List bK):List bK×Bool:=if cO (fun i=>Mr us l[i]!) 0 l.length=true then iH us (nC us l l.length)else([],false)
def tQ (us:List bN)(l:List bK):(vt us l).1.length<=us.length:=by
 unfold vt;split
 .have:=FZ us (nC us l l.length);rw[ov]at this;exact this
 .exact Nat.zero_le _
def kf (us:List bN)(a b:List bK)(unit:Int)(u:Nat):Int:=if((u:Nat):Int)=unit then ru (aI us a ((u:Nat):Int)) (aI us b ((u:Nat):Int))else eI (aI us a ((u:Nat):Int)) (aI us b ((u:Nat):Int))
def e8 (us:List bN)(a b:List bK)(unit:Int)(i:Nat):List Int:=(List.range us.length).map fun u=>if u<i then kf us a b unit u else bW us ((u:Nat):Int)
def pV (us:List bN)(a b:List bK)(unit:Int)(i:Nat):(e8 us a b unit i).length=us.length:=by simp[e8]
def Ia (us:List bN)(a b:List bK)(unit:Int):lI us=e8 us a b unit 0:=by simp[e8,lI,lJ]
def uT {us:List bN}{a b:List bK}{unit:Int}{i:Nat}{v:Int}(hv:v=kf us a b unit i):(e8 us a b unit i).set i v=e8 us a b unit (i+1):=by
 apply List.ext_getElem
 .simp[e8]
 .intro n h1 h2;simp only[e8,List.length_set,aE,List.length_range]at h1 h2;simp only[e8,List.getElem_set,List.getElem_map,List.getElem_range];by_cases e:i=n
  .subst e;rw[ay rfl,ay ae,hv]
  .rw[ai e];by_cases l:n<i
   .rw[ay l,ay ae]
   .rw[ai l,ai ae]
def gQ (us:List bN)(a b:List bK)(unit:Int):List bK×Bool:=if unit<0\/(us.length:Int)<=unit then([],false)else iH us (e8 us a b unit us.length)
def nj (us:List bN)(c:List Int)(u:Int):Int:=
 if u<0\/(us.length:Int)<=u\/(c.length:Int)<=u then 0 else if c[u.toNat]! < -1\/min (us[u.toNat]!.cands.length:Int) 16<=c[u.toNat]! then 0 else 2^(c[u.toNat]! +1).toNat
def rJ (us:List bN)(c:List Int)(t:bK):Bool:=decide (eI (nj us c t.u) t.m≠0)
def Mx (f:Nat->Bool):Nat->Bool
 |0=>true
 |k+1=>Mx f k&&f k
def DJ {f:Nat->Bool}:∀{n:Nat},Mx f n=true↔∀i,i<n->f i=true
 |0=>⟨fun _ i h=>ae,fun _=>rfl⟩
 |n+1=>by
  rw[Mx,bR,DJ];constructor
  .rintro⟨h1,h2⟩ i hi;rcases cV i n with h|h
   .exact h1 i h
   .obtain rfl:i=n:=ae;exact h2
  .exact fun h=>⟨fun i hi=>h i ae,h n ae⟩
def lG (l:List bK)(u:Int):List bK:=l.filter fun t=>decide (t.u≠u)
def sV (l:List bK)(u:Int)(i:Nat):List bK:=lG (l.take i) u
def NK {l:List bK}{u:Int}{i:Nat}(hi:i<l.length)(h:l[i]!.u≠u):sV l u i++[l[i]!]=sV l u (i+1):=by
 unfold sV lG;rw[<-fP hi,List.filter_append,List.filter_cons_of_pos (by simpa using h)];rfl
def NJ {l:List bK}{u:Int}{i:Nat}(hi:i<l.length)(h:¬l[i]!.u≠u):sV l u i=sV l u (i+1):=by
 unfold sV lG;rw[<-fP hi,List.filter_append,List.filter_cons_of_neg (by simpa using h)];simp
def Hx (l:List bK)(u:Int)(i:Nat):(sV l u i).length<=i:=by
 have h1:=List.length_filter_le (fun t:bK=>decide (t.u≠u)) (l.take i);have h2:(l.take i).length<=i:=by rw[eg];omega
 exact ea h1 h2
def Hw (l:List bK)(u:Int):(lG l u).length<=l.length:=List.length_filter_le _ _
def KC (l:List bK)(u:Nat):List bK:=l.filter fun t=>decide (t.u=((u:Nat):Int))
def ju (l:List bK):Nat->List bK
 |0=>[]
 |u+1=>ju l u++KC l u
def kX (l:List bK)(u i:Nat):List bK:=ju l u++KC (l.take i) u
def LR {l:List bK}{u i:Nat}(hi:i<l.length)(h:l[i]!.u=((u:Nat):Int)):kX l u i++[l[i]!]=kX l u (i+1):=by
 unfold kX KC;rw[<-fP hi,List.filter_append,List.filter_cons_of_pos (by simpa using h),lU];rfl
def LO {l:List bK}{u i:Nat}(hi:i<l.length)(h:¬l[i]!.u=((u:Nat):Int)):kX l u i=kX l u (i+1):=by
 unfold kX KC;rw[<-fP hi,List.filter_append,List.filter_cons_of_neg (by simpa using h)];simp
def LN (l:List bK)(u:Nat):ju l u=kX l u 0:=by simp[kX,KC]
def LP (l:List bK)(u:Nat):kX l u l.length=ju l (u+1):=by simp[kX,ju]
def xR (l:List bK):∀u,(ju l u).length<=u*l.length
 |0=>by simp[ju]
 |u+1=>by
  have h1:=xR l u;have h2:(KC l u).length<=l.length:=List.length_filter_le _ _;rw[ju,cI,Nat.succ_mul];omega
def GA (l:List bK)(u i:Nat):(kX l u i).length<=u*l.length+i:=by
 have h1:=xR l u;have h2:(KC (l.take i) u).length<=(l.take i).length:=List.length_filter_le _ _;have h3:(l.take i).length<=i:=by rw[eg];omega
 rw[kX,cI];omega
def xS (l:List bK):List bK:=ju l 48
def oo (x r:aj):Bool:=decide (x.kind=r.kind)&&decide (x.unit=r.unit)&&decide (lG x.terms r.unit=lG r.terms r.unit)
def IQ (rows:List aj)(r:aj):Nat:=iq (fun i=>!oo rows[i]! r) rows.length 0
def gC (us:List bN)(x r:aj):aj:=⟨x.kind,x.unit,x.a,x.b,xS (⟨r.unit,ru (aI us x.terms r.unit) (aI us r.terms r.unit)⟩::lG x.terms r.unit)⟩
def mY (us:List bN)(rows:List aj)(r:aj):List aj:=if IQ rows r<rows.length then rows.set (IQ rows r) (gC us rows[IQ rows r]! r)else rows++[r]
def IS (us:List bN)(rows:List aj)(r:aj):(mY us rows r).length<=rows.length+1:=by
 unfold mY;split
 .rw[List.length_set];omega
 .simp
def stJ4 {xs:List aj}{k:Nat}{l:List bK}(h:k<xs.length):(xs.map aj.D).set k (oI ((xs.map aj.D).getD k .any) 5 1 4 (.sl 2 (l.map bK.D)))=(xs.set k ⟨xs[k]!.kind,xs[k]!.unit,xs[k]!.a,xs[k]!.b,l⟩).map aj.D:=by
 rw[getD_map h,List.map_set];rfl
def aj.OW (l k:Nat)(es:List Abs.D)(r:aj):dQ l k es r.D=r.D:=aj.fz l k es r
def fH (us:List bN)(u k:Nat)(l:List Want)(bar:Bool):List bK:=⟨((u:Nat):Int),eI (bW us ((u:Nat):Int)) (2^(k+1))⟩::l.map fun w=>⟨w.u,if bar=true then eR us w else bW us w.u-eR us w⟩
def GQ (us:List bN)(bar:Bool)(w:Want):Int:=if bar=true then eR us w else bW us w.u-eR us w
def sB {us:List bN}{u k:Nat}{l:List Want}{bar:Bool}{i:Nat}(hi:i<l.length):fH us u k (l.take i) bar++[⟨l[i]!.u,GQ us bar l[i]!⟩]=fH us u k (l.take (i+1)) bar:=by
 unfold fH GQ;rw[<-fP hi];simp
def Dv {us:List bN}{u:Int}(h:∀x∈us,x.cands.length<=16):0<=bW us u/\bW us u<=131071:=by
 unfold bW;split
 .omega
 .have hc:=h _ (ak (show u.toNat<us.length by omega));have h1:=Ck (k:=us[u.toNat]!.cands.length+1) (n:=17) ae;have h2:=eS (us[u.toNat]!.cands.length+1);have h3:(2:Int)^17=131072:=rfl;omega
def Cd {us:List bN}{w:Want}(h:∀x∈us,x.cands.length<=16):0<=eR us w/\eR us w<=131071:=by
 unfold eR;split
 .omega
 .have hc:=h _ (ak (show w.u.toNat<us.length by omega));have h1:=Ck (k:=us[w.u.toNat]!.cands.length+1) (n:=17) ae;have h2:=vl us[w.u.toNat]!.cands w.s us[w.u.toNat]!.cands.length;have h3:(2:Int)^17=131072:=rfl;omega
def eh (us:List bN)(u k:Nat)(l:List Want)(bar:Bool):List bK×Bool:=vt us (fH us u k l bar)
def wN (us:List bN)(rows:List aj)(kind u:Int)(c:List bK×Bool):List aj:=if c.2=true then mY us rows ⟨kind,u,0,0,c.1⟩else rows
def zB (us:List bN)(rows:List aj)(kind u:Int)(c:List bK×Bool):(wN us rows kind u c).length<=rows.length+1:=by
 unfold wN;split
 .exact IS _ _ _
 .omega
def dX (us:List bN)(u i:Nat)(l:List kL)(rows:List aj):Nat->List aj
 |0=>rows
 |k+1=>wN us (dX us u i l rows k) 2 ((u:Nat):Int) (eh us u i l[k]! false)
def qb (us:List bN)(u i:Nat)(l:List kL)(rows:List aj):∀k,(dX us u i l rows k).length<=rows.length+k
 |0=>aB _
 |k+1=>by
  have h1:=qb us u i l rows k;have h2:=zB us (dX us u i l rows k) 2 ((u:Nat):Int) (eh us u i l[k]! false);rw[dX];omega
def jr (us:List bN)(u i:Nat)(l:List Want)(rows:List aj):Nat->List aj
 |0=>rows
 |k+1=>wN us (jr us u i l rows k) 3 ((u:Nat):Int) (eh us u i [l[k]!] true)
def rq (us:List bN)(u i:Nat)(l:List Want)(rows:List aj):∀k,(jr us u i l rows k).length<=rows.length+k
 |0=>aB _
 |k+1=>by
  have h1:=rq us u i l rows k;have h2:=zB us (jr us u i l rows k) 3 ((u:Nat):Int) (eh us u i [l[k]!] true);rw[jr];omega
def HB (us:List bN)(u i:Nat)(c:dy)(rows:List aj):List aj:=jr us u i c.bars (dX us u i c.needs rows c.needs.length) c.bars.length
def dN (us:List bN)(u:Nat)(cs:List dy)(rows:List aj):Nat->List aj
 |0=>rows
 |i+1=>HB us u i cs[i]! (dN us u cs rows i)
def Few (us:List bN):Prop:=∀u∈us,∀c∈u.cands,c.needs.length<=1000/\c.bars.length<=1000/\∀r∈c.needs,r.length<=1000
def FF {us:List bN}{u i:Nat}{c:dy}{rows:List aj}(h:c.needs.length<=1000/\c.bars.length<=1000):(HB us u i c rows).length<=rows.length+2000:=by
 have h1:=qb us u i c.needs rows c.needs.length;have h2:=rq us u i c.bars (dX us u i c.needs rows c.needs.length) c.bars.length;unfold HB;omega
def pL {us:List bN}{u:Nat}{cs:List dy}{rows:List aj}(h:∀c∈cs,c.needs.length<=1000/\c.bars.length<=1000):∀{i},i<=cs.length->(dN us u cs rows i).length<=rows.length+2000*i
 |0,_=>by simp[dN]
 |i+1,hi=>by
  have h1:=pL (us:=us) (u:=u) (rows:=rows) h (show i<=cs.length by omega);have h2:=FF (us:=us) (u:=u) (i:=i) (rows:=dN us u cs rows i) (h _ (ak (show i<cs.length by omega)));have h4:(dN us u cs rows (i+1)).length<=(dN us u cs rows i).length+2000:=h2;have q:∀a b c:Nat,a<=c+2000*i->b<=a+2000->b<=c+2000*(i+1):=ae
  exact q _ _ _ h1 h4
def RS:aj:=⟨1,0,0,0,[⟨0,1⟩]⟩
def dr (us:List bN):Nat->List aj
 |0=>[RS]
 |u+1=>dN us u us[u]!.cands (dr us u) us[u]!.cands.length
def qo {us:List bN}(hf:Few us)(hc:∀u∈us,u.cands.length<=16):∀{i},i<=us.length->(dr us i).length<=1+32000*i
 |0,_=>by simp[dr]
 |i+1,hi=>by
  have h1:=qo hf hc (show i<=us.length by omega);have hm:=ak (show i<us.length by omega);have h2:=pL (us:=us) (u:=i) (rows:=dr us i) (cs:=us[i]!.cands) (fun c hc2=>⟨(hf _ hm c hc2).1,(hf _ hm c hc2).2.1⟩) (aB _);have h3:=hc _ hm;have h4:(dr us (i+1)).length<=(dr us i).length+2000*us[i]!.cands.length:=h2;have q:∀a b c:Nat,a<=1+32000*i->b<=a+2000*c->c<=16->b<=1+32000*(i+1):=ae
  exact q _ _ _ h1 h4 h3
def lH (us:List bN):List aj:=dr us us.length
def ur (us:List bN)(allow:List Int)(u:Nat):List bK×Bool:=vt us [⟨((u:Nat):Int),bW us ((u:Nat):Int) -eI (bW us ((u:Nat):Int)) allow[u]!⟩]
def nT (us:List bN)(allow:List Int):Nat->List aj
 |0=>lH us
 |u+1=>if(ur us allow u).2=true then nT us allow u++[⟨4,((u:Nat):Int),0,0,(ur us allow u).1⟩]else nT us allow u
def zE (us:List bN)(allow:List Int):∀u,(nT us allow u).length<=(lH us).length+u
 |0=>aB _
 |u+1=>by
  have:=zE us allow u;rw[nT];split
  .simp only[cI,List.length_singleton];omega
  .omega
def j6 (us:List bN)(allow:List Int):List aj:=nT us allow (min allow.length us.length)
structure j4 where
 w:bz
 facts:List aj
 x:D
def j4.D (p:j4):Abs.D:=.agg [.sl 3 (p.w.us.map bN.D),.sl 5 (p.facts.map aj.D),p.x]
def sP (us:List bN)(c:List Int)(t:bK):Bool:=decide (t.u<c.length)&&rJ us c t
def mN (us:List bN)(c:List Int)(row:aj):Bool:=Mx (fun k=>sP us c row.terms[k]!) row.terms.length
def eJ (us:List bN)(facts:List aj)(c:List Int):Nat:=iq (fun i=>!mN us c facts[i]!) facts.length 0
def kr (us:List bN)(facts:List aj)(c:List Int):Int:=if eJ us facts c<facts.length then((eJ us facts c:Nat):Int)else-1
def iv (us:List bN)(u:Nat)(now x:Int)(rows:List aj):aj:=⟨5,((u:Nat):Int),now,x,(gQ us rows[now.toNat]!.terms rows[x.toNat]!.terms ((u:Nat):Int)).1⟩
def nv (us:List bN)(u:Nat)(rc:List Int->List aj->Int×List aj)(c:List Int):Nat->Int->Int->List aj->Int×List aj
 |0,_,now,rows=>(now,rows)
 |n+1,i,now,rows=>
  if(rc (c++[i]) rows).1<0 then(-1,(rc (c++[i]) rows).2)
  else if aI us (rc (c++[i]) rows).2[(rc (c++[i]) rows).1.toNat]!.terms ((u:Nat):Int)=bW us ((u:Nat):Int)then rc (c++[i]) rows
  else if now<0 then nv us u rc c n (i+1) (rc (c++[i]) rows).1 (rc (c++[i]) rows).2
  else if aI us (iv us u now (rc (c++[i]) rows).1 (rc (c++[i]) rows).2).terms ((u:Nat):Int)=bW us ((u:Nat):Int)then
   ((((rc (c++[i]) rows).2.length:Nat):Int),(rc (c++[i]) rows).2++[iv us u now (rc (c++[i]) rows).1 (rc (c++[i]) rows).2])
  else nv us u rc c n (i+1) (((rc (c++[i]) rows).2.length:Nat):Int) ((rc (c++[i]) rows).2++[iv us u now (rc (c++[i]) rows).1 (rc (c++[i]) rows).2])
def kg (us:List bN)(facts:List aj):Nat->List Int->List aj->Int×List aj
 |0,c,rows=>if eJ us facts c<facts.length then(((rows.length:Nat):Int),rows++[facts[eJ us facts c]!])else(-1,rows)
 |f+1,c,rows=>if eJ us facts c<facts.length then(((rows.length:Nat):Int),rows++[facts[eJ us facts c]!])
  else if 3000<rows.length then(-1,rows)
  else nv us c.length (kg us facts f) c (us[c.length]!.cands.length+1) (-1) (-1) rows
def eN (us:List bN)(facts:List aj)(c:List Int)(rows:List aj):Int×List aj:=kg us facts (us.length-c.length) c rows
def kR (us:List bN)(allow:List Int):Int×List aj:=eN us (j6 us allow) [] []
def jc (us:List bN)(allow:List Int):Option (List aj):=
 if(kR us allow).1<0\/0<(kR us allow).2[(kR us allow).1.toNat]!.terms.length then none else some ((kR us allow).2.take ((kR us allow).1.toNat+1))
def pD:Option (List aj)->D
 |none=>.aG
 |some l=>.sl 5 (l.map aj.D)
def bt (m:Int)(i:Nat):Bool:=(BitVec.ofInt 64 m).getLsbD i
def ofInt_toInt (x:BitVec 64):BitVec.ofInt 64 x.toInt=x:=BitVec.ofInt_toInt
def lF (a b:Int)(i:Nat):bt (eI a b) i=(bt a i&&bt b i):=by
 unfold bt;rw[mL,ofInt_toInt,BitVec.getLsbD_and]
def ux (a b:Int)(i:Nat):bt (ru a b) i=(bt a i ||bt b i):=by
 unfold bt;rw[HA,ofInt_toInt,BitVec.getLsbD_or]
def Rn {m:Int}{i:Nat}(h:64<=i):bt m i=false:=BitVec.getLsbD_of_ge _ _ h
def yr {a b:Int}(ha:qt a)(hb:qt b)(h:∀i,bt a i=bt b i):a=b:=by
 have e:BitVec.ofInt 64 a=BitVec.ofInt 64 b:=by
  ext i hi
  have:=h i;unfold bt at this
  rwa [BitVec.getLsbD_eq_getElem hi,BitVec.getLsbD_eq_getElem hi]at this
 rw[<-kQ ha,<-kQ hb,e]
def yt (a b:Int):qt (ru a b):=by
 rw[HA];have h1:=BitVec.le_toInt (BitVec.ofInt 64 a |||BitVec.ofInt 64 b);have h2:=BitVec.toInt_lt (x:=BitVec.ofInt 64 a |||BitVec.ofInt 64 b);exact⟨by simpa using h1,by have:=h2;simp at this;omega⟩
def Rh:qt 0:=⟨cg,cg⟩
def lr (i:Nat):bt 0 i=false:=by unfold bt;simp
def uz {a b:Int}:eI a b=0↔∀i,¬(bt a i=true/\bt b i=true):=by
 constructor
 .intro h i hi;have:=lF a b i;rw[h,lr,hi.1,hi.2]at this;exact absurd this cg
 .intro h;refine yr (mK _ _) Rh fun i=>?_
  rw[lF,lr];have:=h i;revert this;cases bt a i<;>cases bt b i<;>simp
def Iu {a:Int}(ha:qt a):a≠0↔∃i,bt a i=true:=by
 constructor
 .intro h;refine Classical.byContradiction fun g=>h (yr ha Rh fun i=>?_)
  rw[lr];cases e:bt a i with
  |false=>rfl
  |true=>exact absurd ⟨i,e⟩ g
 .rintro⟨i,hi⟩ rfl;rw[lr]at hi;cases hi
def jf {a b:Int}(ha:qt a):eI a b=a↔∀i,bt a i=true->bt b i=true:=by
 constructor
 .intro h i hi;have:=lF a b i;rw[h,hi]at this;simpa using this.symm
 .intro h;refine yr (mK _ _) ha fun i=>?_
  rw[lF];have:=h i;revert this;cases bt a i<;>simp
def Hf {a:Int}(h0:0<=a)(h1:a<=1099511627776):qt a:=⟨ae,ae⟩
def uy {k:Nat}(hk:k<=40)(i:Nat):bt (2^k) i=decide (i=k):=by
 unfold bt;rw[Cj];have hl:(2:Nat)^k<=1099511627776:=by
  have:=oz hk;rw[Cj]at this;omega
 rw[show BitVec.ofInt 64 ((2^k:Nat):Int)=BitVec.ofNat 64 (2^k)from BitVec.ofInt_natCast ..];rw[BitVec.getLsbD_ofNat,Nat.testBit_two_pow];by_cases e:k=i
 .subst e;simp;omega
 .rw[cG e,Bool.and_false,cG (fun h=>e h.symm)]
def Ht:∀n,n<17->∀i,i<64->bt ((2:Int)^(n+1) -1) i=decide (i<=n):=by decide+kernel
def lq {us:List bN}{u:Nat}(hu:u<us.length)(hs:∀x∈us,x.cands.length<=16)(i:Nat):bt (bW us ((u:Nat):Int)) i=decide (i<=us[u]!.cands.length):=by
 have hc:=hs _ (ak hu);rw[show bW us ((u:Nat):Int)=2^(us[u]!.cands.length+1) -1 from ai ae];rcases cV i 64 with h|h
 .exact Ht _ ae i h
 .rw[Rn h,cG ae]
def Dc (cs:List dy)(s:bL)(i:Nat):∀k,k<=16->bt (jz cs s k) i=(decide (1<=i)&&decide (i<=k)&&nB s cs[i-1]!.v)
 |0,_=>by
  rw[jz,lr];by_cases h:1<=i
  .rw[cG (show ¬i<=0 by omega)];simp
  .rw[cG h];rfl
 |k+1,hk=>by
  have ih:=Dc cs s i k ae;have hr:=vl cs s k;rw[jz];split
  .rename_i h;rw[<-Dh hr.1 (by have:=eS (k+1);omega) ae,ux,ih,uy ae];by_cases e:i=k+1
   .subst e;rw[show k+1-1=k from rfl,h];simp
   .rw[cG e,Bool.or_false];congr 2;rw[wH];omega
  .rename_i h;rw[ih];by_cases e:i=k+1
   .subst e;simp only[Bool.not_eq_true]at h;rw[show k+1-1=k from rfl,h];simp
   .congr 2;rw[wH];omega
def NI {us:List bN}{w:Want}{u:Nat}(hw:w.u=((u:Nat):Int))(hu:u<us.length)(hs:∀x∈us,x.cands.length<=16)(i:Nat):bt (eR us w) i=(decide (1<=i)&&decide (i<=us[u]!.cands.length)&&nB w.s us[u]!.cands[i-1]!.v):=by
 have hc:=hs _ (ak hu);unfold eR;rw[ai ae,hw];exact Dc _ _ _ _ hc
def K3 {us:List bN}{w:Want}(h:w.u<0\/(us.length:Int)<=w.u):eR us w=0:=ay h
def HY {us:List bN}{u:Int}(h:u<0\/(us.length:Int)<=u):bW us u=0:=ay h
def Hu {a b:Int}(ha:qt a)(h:eI a b=a)(i:Nat):bt (b-a) i=(bt b i&& !bt a i):=by
 unfold bt;have e:BitVec.ofInt 64 a&&&BitVec.ofInt 64 b=BitVec.ofInt 64 a:=by
  rw[mL]at h;exact BitVec.eq_of_toInt_eq (by rw[h,kQ ha])
 have e2:BitVec.ofInt 64 (b-a)=BitVec.ofInt 64 b-BitVec.ofInt 64 a:=by
  rw[Int.sub_eq_add_neg,BitVec.ofInt_add,BitVec.ofInt_neg,BitVec.sub_eq_add_neg]
 rw[e2];generalize BitVec.ofInt 64 a=x at e;generalize BitVec.ofInt 64 b=y at e;have hz:(y&&& ~~~x)&&&x=0#64:=by
  ext j hj;simp
 have hs:(y&&& ~~~x)+x=y:=by
  rw[BitVec.add_eq_or_of_and_eq_zero _ _ hz]
  ext j hj
  have:=bV (fun z=>z.getLsbD j) e;simp[hj]at this;simp;cases hx:x[j]<;>cases hy:y[j]<;>simp_all
 have:y-x=y&&& ~~~x:=by
  have h2:(y&&& ~~~x)+x-x=y&&& ~~~x:=BitVec.add_sub_cancel _ _
  rwa [hs]at h2
 rw[this,BitVec.getLsbD_and];rcases cV i 64 with h|h
 .rw[BitVec.getLsbD_not];simp[h]
 .simp[h]
def Ik {us:List bN}{w:Want}(hs:∀x∈us,x.cands.length<=16):eI (eR us w) (bW us w.u)=eR us w:=by
 by_cases q:w.u<0\/(us.length:Int)<=w.u
 .rw[K3 q,HY q];rfl
 .obtain⟨u,hu⟩:∃u:Nat,w.u=(u:Int):=⟨w.u.toNat,ae⟩
  have hl:u<us.length:=ae;have hb:=Cd (w:=w) hs;rw[jf (Hf hb.1 ae)];intro i hi;rw[NI hu hl hs]at hi;rw[hu,lq hl hs];simp only[bR,cj]at hi⊢;exact hi.1.2
def Dd {us:List bN}{w:Want}(hs:∀x∈us,x.cands.length<=16)(i:Nat):bt (bW us w.u-eR us w) i=(bt (bW us w.u) i&& !bt (eR us w) i):=by
 have hb:=Cd (w:=w) hs;exact Hu (Hf hb.1 ae) (Ik hs) i
def Hm {α:Type} [Inhabited α]{f:α->Bool}{l:List α}:l.any f=lX (fun i=>f l[i]!) 0 l.length:=by
 rw[Bool.eq_iff_iff,Hl,List.any_eq_true];constructor
 .rintro⟨x,hx,hf⟩;obtain⟨i,hi,rfl⟩:=List.mem_iff_getElem.1 hx;exact⟨i,ae,hi,by simpa[hi]using hf⟩
 .rintro⟨i,_,hi,hf⟩;exact⟨l[i]!,ak hi,hf⟩
def xY {a b:Int}:decide (nd a b=2)=decide (eI a b=a):=by
 unfold nd;by_cases h:eI a b=a
 .simp[h]
 .by_cases h2:eI a b=0<;>simp[h,h2]<;>(intro e;exact absurd (h2.trans e) h)
def KE {i:Nat}(hi:i<=40)(b:Int):eI (2^i) b=0\/eI (2^i) b=2^i:=by
 have hp:=oz hi;rw[Cj]at hp⊢;have hl:(2:Nat)^i<=1099511627776:=ae;unfold eI;have h6:∀p:Nat,p<=1099511627776->(((p:Nat):Int)%((2^64:Nat):Int)).toNat=p:=fun p hp=>ae
 have h5:=h6 _ hl;have h4:(BitVec.ofInt 64 ((2^i:Nat):Int)).toNat=2^i:=by
  rw[BitVec.toNat_ofInt];exact h5
 rw[BitVec.toNat_and,h4];generalize (BitVec.ofInt 64 b).toNat=n;cases hb:n.testBit i with
 |false=>
  have:2^i&&&n=0:=by
   apply Nat.eq_of_testBit_eq;intro j;rw[Nat.testBit_and,Nat.testBit_two_pow,Nat.zero_testBit];by_cases e:i=j
   .subst e;simp[hb]
   .simp[e]
  left;rw[this];rfl
 |true=>
  have:2^i&&&n=2^i:=by
   apply Nat.eq_of_testBit_eq;intro j;rw[Nat.testBit_and,Nat.testBit_two_pow];by_cases e:i=j
   .subst e;simp[hb]
   .simp[e]
  right;rw[this];exact wrap_i64 ae ae
def KY (us:List bN)(row:aj)(k:Nat)(w:Want):qQ us row (k:Int) w=decide (eI (tl us row (2^(k+1)) w.u) (eR us w)=0):=by
 unfold qQ tl;split
 .rw[nW];rfl
 .rw[nW]
def Ip (us:List bN)(row:aj)(k:Nat)(r:kL):gh us row (k:Int) r=ow us row (2^(k+1)) r:=by
 unfold gh ow;rw[Hm];unfold lX;rw[Bool.not_not];congr 1;funext i;simp only[fB,gE,aF,Bool.not_not,KY]
def LV {us:List bN}{row:aj}{k:Nat}(hk:k<=30)(hs:∀x∈us,x.cands.length<=16)(ht:dM us row.terms=true)(w:Want):q7 us row (k:Int) w=ko us row (2^(k+1)) w:=by
 unfold q7 ko tl;rw[xY];split
 .rcases KE (i:=k+1) ae (eR us w)with h|h
  .rw[h,nW,show((k:Int)+1).toNat=k+1 from rfl,h];have:=eS (k+1);rw[cG bA,cG ae]
  .rw[h,nW,show((k:Int)+1).toNat=k+1 from rfl,h];have:=eS (k+1);rw[cr ae,cr rfl]
 .rw[Bool.eq_iff_iff,cj,cj];exact Dg (iX hs ht).1
def sO {us:List bN}{row:aj}{k:Nat}(hk:k<=30)(hs:∀x∈us,x.cands.length<=16)(ht:dM us row.terms=true)(h23:row.kind=2\/row.kind=3):lA us row k (decide (row.kind=3))=iR us row k:=by
 unfold lA iR;rcases h23 with h|h
 .rw[ai (by rw[h];decide),ay h,Hm];congr 1;funext i;exact Ip _ _ _ _
 .rw[ay (by rw[h];decide),ai (by rw[h];decide),Hm];congr 1;funext i;simp only[fB,aH];exact LV hk hs ht _
def zO {m:Int}{i:Nat}:∀{n:Nat},i<n->eI m (2^i)≠0->(i:Int) -1∈js m n
 |n+1,hi,h=>by
  rw[js];rcases cV i n with hn|hn
  .have:=zO hn h;split
   .exact List.mem_append_left _ this
   .exact this
  .obtain rfl:i=n:=ae;rw[ay h];exact List.mem_append_right _ (.head _)
def HX:∀n,n<17->eI ((2:Int)^(n+1) -1) 1=1:=by decide+kernel
def FG {us:List bN}{row:aj}(hs:∀x∈us,x.cands.length<=16)(ht:dM us row.terms=true)(h23:row.kind=2\/row.kind=3):gF us row (decide (row.kind=3))=((decide (0<=row.unit)&&decide (row.unit<us.length))&&oH us row):=by
 rcases mg us row.unit row.terms 0 with⟨_,e1,e2⟩|⟨j,h1,_,h3,e2,e3⟩
 ·
  have:oH us row=false:=by
   unfold oH;rw[e2];by_cases q:row.unit<0\/(us.length:Int)<=row.unit
   .rcases q with q|q
    .rw[cG ae];rfl
    .rw[show decide (row.unit<us.length)=false from cG ae];simp
   .rw[show bW us row.unit=2^(us[row.unit.toNat]!.cands.length+1) -1 from ai q,HX _ (by have:=hs _ (ak (show row.unit.toNat<us.length by omega));omega)];simp
  rw[this];unfold gF;rw[e1];simp
 .have hin:=qn (tT ht h1);rw[h3]at hin;have hc:=hs _ (ak (show row.unit.toNat<us.length by omega));unfold gF oH;rw[e3,cr hin.1,cr hin.2];simp only[jh];have hb:=Df (aI us row.terms row.unit);by_cases hz:eI (aI us row.terms row.unit) 1=0
  .rw[cr hz,cr (show eI (aI us row.terms row.unit) 1≠1 by omega)];simp only[jh];have hek:=Dq hs ht hin.1 hin.2 ae;rw[Bool.eq_iff_iff,de,de];constructor
   .intro g i _ hi;have hx:=ak hi;obtain⟨q,hq,e,hm⟩:=oS hx;have hr:=hek _ hx;have g2:=g (q-1) ae ae;rw[sO ae hs ht h23,show q-1+1=q by omega,cG hm,Bool.false_or]at g2;rw[e,show((q:Int) -1).toNat=q-1 by omega];exact g2
   .intro g k _ hk;by_cases hm:eI (aI us row.terms row.unit) (2^(k+1))=0
    .rw[cr hm];rfl
    .have hx:=zO (show k+1<17 by omega) hm;obtain⟨i,hi,e⟩:=List.mem_iff_getElem.1 hx;have g2:=g i ae hi;rw[sO ae hs ht h23,cG hm,Bool.false_or];rw[show(jO (aI us row.terms row.unit))[i]! =(k:Int)by unfold jO;simp[hi,e]]at g2;exact g2
  .rw[cG hz,show decide (eI (aI us row.terms row.unit) 1≠1)=false from cG ae];simp only[Bool.false_and]
def tM {us:List bN}{u:Int}:decide (bW us u≠0)=(decide (0<=u)&&decide (u<us.length)):=by
 unfold bW;by_cases q:u<0\/(us.length:Int)<=u
 .rw[ay q];rcases q with q|q
  .rw[cG bA,cG ae];rfl
  .rw[cG bA,show decide (u<us.length)=false from cG ae,Bool.and_false]
 .rw[ai q];have:=eS (us[u.toNat]!.cands.length);rw[Int.pow_succ,cr ae,cr ae,cr ae];rfl
def Hs {us:List bN}{A B:List bK}{row:aj}(hs:∀x∈us,x.cands.length<=16)(ht:dM us row.terms=true):pz us A B row=pJ us A B row:=by
 funext u;unfold pz pJ;rw[xY,Bool.eq_iff_iff,cj,cj];exact Dg (iX hs ht).1
def z8 {c:bg}(hs:∀x∈c.w.us,x.cands.length<=16)(i:Int):dA c i=nD c i:=by
 unfold dA nD;by_cases h0:0<=i/\i<c.rows.length/\dM c.w.us c.rows[i.toNat]!.terms=true
 .obtain⟨g1,g2,ht⟩:=h0;rw[cr g1,cr g2,ht];simp only[jh];generalize c.rows[i.toNat]! =row at ht;unfold lu mi;by_cases h5:row.kind=5
  .rw[ay h5,ay h5];unfold nV uw;rw[tM,Hs hs ht];simp only[Bool.and_assoc]
  .rw[ai h5,ai h5];by_cases h1:row.kind=1
   .rw[ay h1,ay h1];by_cases hu:row.unit=0
    .rw[hu];by_cases hm:aI c.w.us row.terms 0=1
     .have hr:(0:Int)<c.w.us.length:=by
       rcases mg c.w.us 0 row.terms 0 with⟨_,_,e⟩|⟨j,k1,_,k3,_,_⟩
       .rw[hm]at e;by_cases q:(0:Int)<0\/(c.w.us.length:Int)<=0
        .rw[show bW c.w.us 0=0 from ay q]at e;cases e
        .omega
       .have:=qn (tT ht k1);rw[k3]at this;exact this.2
      rw[cr hr];simp
     .simp[hm]
    .simp[hu]
   .rw[ai h1,ai h1];by_cases h23:row.kind=2\/row.kind=3
    .rw[ay h23,ay h23,FG hs ht h23];cases decide (0<=row.unit)<;>cases decide (row.unit<c.w.us.length)<;>cases decide (row.a=0)<;>cases decide (row.b=0)<;>rfl
    .rw[ai h23,ai h23];by_cases h4:row.kind=4
     .rw[ay h4,ay h4];unfold uq;rw[tM];cases decide (0<=row.unit)<;>cases decide (row.unit<c.w.us.length)<;>cases decide (row.a=0)<;>cases decide (row.b=0)<;>rfl
     .rw[ai h4,ai h4];simp
 .by_cases a1:0<=i
  .by_cases a2:i<c.rows.length
   .have a3:dM c.w.us c.rows[i.toNat]!.terms=false:=by
     cases h:dM c.w.us c.rows[i.toNat]!.terms with
     |false=>rfl
     |true=>exact absurd ⟨a1,a2,h⟩ h0
    rw[a3];simp
   .rw[show decide (i<c.rows.length)=false from cG a2];simp
  .rw[cG a1];simp
abbrev rm (us:List bN):Prop:=∀x∈us,x.cands.length<=16
abbrev Lt (l:List bK):Prop:=l.Pairwise fun a b=>a.u<b.u
def fj {us:List bN}{l:List bK}:dM us l=true↔(∀t∈l,lT us t=true)/\Lt l:=by
 unfold dM;rw[de];constructor
 .intro h;have h1:∀j,j<l.length->lT us l[j]! =true/\(0<j->l[j-1]!.u<l[j]!.u):=by
   intro j hj;have:=h j ae hj;simp only[bR,ef,fF,di]at this;exact⟨this.1,fun h0=>ae⟩
  refine⟨fun t ht=>?_, ?_⟩
  .obtain⟨i,hi,rfl⟩:=List.mem_iff_getElem.1 ht;have:=(h1 i hi).1;simpa[hi]using this
  .rw[Lt,List.pairwise_iff_getElem];have key:∀d i,i+d+1<l.length->l[i]!.u<l[i+d+1]!.u:=by
    intro d;induction d with
    |zero=>intro i hi;exact(h1 (i+1) hi).2 ae
    |succ d ih=>
     intro i hi;have a1:=ih i ae;have a2:=(h1 (i+d+1+1) hi).2 ae;rw[show i+d+1+1-1=i+d+1 by omega]at a2;exact Int.lt_trans a1 a2
   intro i j hi hj hij;have:=key (j-i-1) i ae;rw[show i+(j-i-1)+1=j by omega]at this;simpa[hi,hj]using this
 .rintro⟨h1,h2⟩ j _ hj;rw[Lt,List.pairwise_iff_getElem]at h2;simp only[bR,ef,fF,di];refine⟨h1 _ (ak hj), ?_⟩;by_cases h0:0<j
  .right;have:=h2 (j-1) j ae hj ae;simp only[hj,getElem!_pos,show j-1<l.length by omega];omega
  .left;exact h0
def mj {us:List bN}:∀{l:List bK},Lt l->∀t∈l,aI us l t.u=t.m
 |a::r,h,t,ht=>by
  rw[Lt,List.pairwise_cons]at h;rw[aI];rcases dF.1 ht with rfl|ht
  .rw[ay rfl]
  .have:=h.1 t ht;rw[ai ae,mj h.2 t ht]
def oX {us:List bN}{v:Int}:∀{l:List bK},(∀t∈l,t.u≠v)->aI us l v=bW us v
 |[],_=>rfl
 |a::r,h=>by rw[aI,ai (h a (.head _)),oX fun t ht=>h t (.tail _ ht)]
def yH {us:List bN}{v:Int}{l:List bK}(h:Lt l):(∃t∈l,t.u=v/\aI us l v=t.m)\/((∀t∈l,t.u≠v)/\aI us l v=bW us v):=by
 by_cases g:∃t∈l,t.u=v
 .obtain⟨t,ht,rfl⟩:=g;exact .inl ⟨t,ht,rfl,mj h t ht⟩
 .have g':∀t∈l,t.u≠v:=fun t ht e=>g ⟨t,ht,e⟩
  exact .inr ⟨g',oX g'⟩
def Ba {us:List bN}{l:List bK}{u:Int}(h:dM us l=true)(hm:aI us l u=bW us u):∀t∈l,t.u≠u:=by
 obtain⟨h1,h2⟩:=fj.1 h;rintro t ht rfl;rw[mj h2 t ht]at hm;have:=h1 t ht;simp only[lT,bR,cj]at this;exact this.2 hm
def kF {us:List bN}{ms:List Int}{t:bK}:∀{i},t∈iW us ms i↔∃u,u<i/\ms[u]! ≠bW us ((u:Nat):Int)/\t=⟨((u:Nat):Int),ms[u]!⟩
 |0=>⟨fun h=>(by cases h),fun⟨u,h,_⟩=>ae⟩
 |i+1=>by
  rw[iW];split
  .rename_i h;rw[List.mem_append,kF,bG];constructor
   .rintro(⟨u,h1,h2⟩|rfl)
    .exact⟨u,ae,h2⟩
    .exact⟨i,ae,h,rfl⟩
   .rintro⟨u,h1,h2,h3⟩;rcases cV u i with h4|h4
    .exact .inl ⟨u,h4,h2,h3⟩
    .obtain rfl:u=i:=ae;exact .inr h3
  .rename_i h;rw[kF];constructor
   .rintro⟨u,h1,h2⟩;exact⟨u,ae,h2⟩
   .rintro⟨u,h1,h2,h3⟩;rcases cV u i with h4|h4
    .exact⟨u,h4,h2,h3⟩
    .obtain rfl:u=i:=ae;exact absurd h2 h
def qR {us:List bN}{ms:List Int}:∀i,Lt (iW us ms i)
 |0=>List.Pairwise.nil
 |i+1=>by
  rw[iW];split
  .refine List.pairwise_append.2 ⟨qR i,List.pairwise_singleton _ _,fun a ha b hb=>?_⟩;obtain rfl:=bG.1 hb;obtain⟨u,hu,_,rfl⟩:=kF.1 ha;dsimp only;omega
  .exact qR i
def Nu (us:List bN)(ms:List Int):Prop:=∀u,u<us.length->eI ms[u]! (bW us ((u:Nat):Int))=ms[u]!
def DB {us:List bN}{ms:List Int}(hl:ms.length=us.length)(hs:Nu us ms)(h:(iH us ms).2=true):dM us (iH us ms).1=true/\(∀u,u<us.length->aI us (iH us ms).1 ((u:Nat):Int)=ms[u]!)/\∀u,u<us.length->ms[u]! ≠0:=by
 unfold iH at h⊢;split at h
 .rename_i ha;rw[ay ha];rw[de]at ha;have hnz:∀u,u<us.length->ms[u]! ≠0:=fun u hu=>by simpa using ha u ae ae
  refine⟨fj.2 ⟨fun t ht=>?_,qR _⟩,fun u hu=>?_,hnz⟩
  .obtain⟨u,hu,h2,rfl⟩:=kF.1 ht;simp only[lT,bR,cj];exact⟨⟨hnz u ae,hs u ae⟩,h2⟩
  .dsimp only;by_cases e:ms[u]! =bW us ((u:Nat):Int)
   .rw[oX,e];intro t ht;obtain⟨v,hv,h2,rfl⟩:=kF.1 ht;intro e2;obtain rfl:v=u:=by dsimp only at e2;omega
    exact h2 e
   .exact mj (qR _) ⟨((u:Nat):Int),ms[u]!⟩ (kF.2 ⟨u,ae,e,rfl⟩)
 .cases h
def F1 {us:List bN}{ms:List Int}(h:∀u,u<ms.length->ms[u]! ≠0):(iH us ms).2=true:=by
 unfold iH;rw[ay (by rw[de];intro u _ hu;simpa using h u hu)]
def Bb {us:List bN}{l:List bK}(h:dM us l=true):l.length<=us.length:=by
 obtain⟨h1,h2⟩:=fj.1 h;have h3:∀t∈l,0<=t.u/\t.u<us.length:=fun t ht=>qn (h1 t ht)
 rw[Lt,List.pairwise_iff_getElem]at h2;have key:∀i (hi:i<l.length),(i:Int)<=l[i].u:=by
  intro i;induction i with
  |zero=>intro hi;exact(h3 _ (List.getElem_mem hi)).1
  |succ i ih=>
   intro hi;have:=ih ae;have:=h2 i (i+1) ae hi ae;omega
 rcases Nat.eq_zero_or_pos l.length with h0|h0
 .omega
 .have:=key (l.length-1) ae;have:=(h3 _ (List.getElem_mem (show l.length-1<l.length by omega))).2;omega
def FQ {us:List bN}{u:Nat}(hu:u<us.length):(lI us)[u]! =bW us ((u:Nat):Int):=by
 simp[lI,lJ,hu]
def LJ {ms:List Int}{i u:Nat}{v:Int}(hu:u<ms.length):(ms.set i v)[u]! =if i=u then v else ms[u]! :=by
 simp only[List.getElem!_eq_getElem?_getD,List.getElem?_set];split
 .rename_i h;subst h;rw[ay hu];rfl
 .rfl
def Il {us:List bN}{l:List bK}(hs:rm us)(hin:∀t∈l,0<=t.u/\t.u<us.length):∀{n},n<=l.length->∀u,u<us.length->qt (nC us l n)[u]! /\∀i,bt (nC us l n)[u]! i=(bt (bW us ((u:Nat):Int)) i&&(l.take n).all fun t=>decide (t.u≠((u:Nat):Int)) ||bt t.m i)
 |0,_,u,hu=>by
  rw[nC,FQ hu];exact⟨oa hs,fun i=>bA⟩
 |n+1,hn,u,hu=>by
  have ih:=Il hs hin (show n<=l.length by omega) u hu;have ht:=hin _ (ak (show n<l.length by omega));rw[nC,C8,LJ (by rw[ov];exact hu)];rw[<-fP (show n<l.length by omega)];simp only[List.all_append,List.all_cons,List.all_nil,eL];by_cases e:l[n]!.u.toNat=u
  .rw[ay e,e];refine⟨mK _ _,fun i=>?_⟩;rw[lF,ih.2,cG (show ¬l[n]!.u≠((u:Nat):Int)by omega),Bool.false_or,Bool.and_assoc]
  .rw[ai e,cr (show l[n]!.u≠((u:Nat):Int)by omega)];simpa using ih
def Mw {us:List bN}{l:List bK}(hs:rm us)(h:(vt us l).2=true):dM us (vt us l).1=true/\(∀t∈l,0<=t.u/\t.u<us.length)/\∀u,u<us.length->qt (aI us (vt us l).1 ((u:Nat):Int))/\aI us (vt us l).1 ((u:Nat):Int)≠0/\
  ∀i,bt (aI us (vt us l).1 ((u:Nat):Int)) i=(bt (bW us ((u:Nat):Int)) i&&l.all fun t=>decide (t.u≠((u:Nat):Int)) ||bt t.m i):=by
 unfold vt at h⊢;split at h
 .rename_i ha;rw[ay ha];rw[de]at ha;have hin:∀t∈l,0<=t.u/\t.u<us.length:=fun t ht=>by
   obtain⟨i,hi,rfl⟩:=List.mem_iff_getElem.1 ht;have:=ha i ae hi;simpa[Mr,hi]using this
  have hg:=Il hs hin (aB l.length);rw[List.take_length]at hg;have hsub:Nu us (nC us l l.length):=fun u hu=>by
   rw[jf (hg u hu).1];intro i hi;rw[(hg u hu).2]at hi;simp only[bR]at hi;exact hi.1
  obtain⟨h1,h2,h3⟩:=DB (ov us l _) hsub h;refine⟨h1,hin,fun u hu=>?_⟩;rw[h2 u hu];exact⟨(hg u hu).1,h3 u hu,(hg u hu).2⟩
 .cases h
def tE {l:List bK}{u:Nat}{t:bK}:t∈KC l u↔t∈l/\t.u=((u:Nat):Int):=by simp[KC]
def sj {l:List bK}{t:bK}:∀{n},t∈ju l n↔t∈l/\0<=t.u/\t.u<((n:Nat):Int)
 |0=>⟨fun h=>(by cases h),fun⟨_,h1,h2⟩=>ae⟩
 |n+1=>by
  rw[ju,List.mem_append,sj,tE];constructor
  .rintro(⟨h,h1,h2⟩|⟨h,h1⟩)
   .exact⟨h,h1,ae⟩
   .exact⟨h,ae,ae⟩
  .rintro⟨h,h1,h2⟩;by_cases e:t.u=((n:Nat):Int)
   .exact .inr ⟨h,e⟩
   .exact .inl ⟨h,h1,ae⟩
def A6 {l:List bK}(h:l.Pairwise fun a b=>a.u≠b.u):∀n,Lt (ju l n)
 |0=>List.Pairwise.nil
 |n+1=>by
  rw[ju];refine List.pairwise_append.2 ⟨A6 h n, ?_,fun a ha b hb=>?_⟩
  .refine List.Pairwise.imp_of_mem ?_ (h.filter fun t=>decide (t.u=((n:Nat):Int)));intro a b ha hb hab;exact absurd ((tE.1 ha).2.trans (tE.1 hb).2.symm) hab
  .have:=(sj.1 ha).2.2;have:=(tE.1 hb).2;omega
def De {l:List bK}{u:Int}{t:bK}:t∈lG l u↔t∈l/\t.u≠u:=by simp[lG]
def vk {us:List bN}{u v:Int}(hv:v≠u):∀l:List bK,aI us (lG l u) v=aI us l v
 |[]=>rfl
 |t::r=>by
  have ih:=vk (us:=us) hv r;unfold lG at ih⊢;by_cases e:t.u=u
  .rw[List.filter_cons_of_neg (by simpa using e),ih,aI,ai ae]
  .rw[List.filter_cons_of_pos (by simpa using e),aI,aI,ih]
def vY {us:List bN}{x y:aj}(hu:x.unit=y.unit)(h:∀v,v≠x.unit->aI us x.terms v=aI us y.terms v)(k:Nat)(mild:Bool):lA us x k mild=lA us y k mild:=by
 have h1:∀b,fB b us x (k:Int)=fB b us y (k:Int):=by
  intro b;funext w;unfold fB q7 qQ;rw[<-hu];by_cases e:w.u=x.unit
  .simp only[ay e]
  .simp only[ai e,h _ e]
 have h2:gh us x (k:Int)=gh us y (k:Int):=by
  funext l;unfold gh;rw[h1]
 unfold lA;rw[<-hu,h1,h2]
def one_pow:(1:Int)=2^0:=rfl
def oO {m:Int}{k:Nat}(hk:k<=40):eI m (2^k)=0↔bt m k=false:=by
 rw[uz];constructor
 .intro h;cases e:bt m k with
  |false=>rfl
  |true=>exact absurd ⟨e,by rw[uy hk];simp⟩ (h k)
 .rintro h i ⟨h1,h2⟩;rw[uy hk,cj]at h2;subst h2;rw[h]at h1;cases h1
def mM {us:List bN}{r:aj}{mild:Bool}(hs:rm us)(hu:0<=r.unit/\r.unit<us.length):gF us r mild=true↔wT r.terms r.unit=true/\bt (aI us r.terms r.unit) 0=false/\∀k,k<us[r.unit.toNat]!.cands.length->bt (aI us r.terms r.unit) (k+1)=true->lA us r k mild=true:=by
 have hc:=hs _ (ak (show r.unit.toNat<us.length by omega));unfold gF;rw[bR,bR,cj,one_pow,oO ae,de,and_assoc];refine and_congr Iff.rfl (and_congr Iff.rfl ⟨fun h k hk hb=>?_,fun h k _ hk=>?_⟩)
 .have:=h k ae hk;rw[er,cj,oO ae]at this;rcases this with h1|h1
  .rw[hb]at h1;cases h1
  .exact h1
 .rw[er,cj,oO ae];cases e:bt (aI us r.terms r.unit) (k+1)with
  |false=>exact .inl rfl
  |true=>exact .inr (h k hk e)
def j5 (us:List bN)(allow:List Int)(r:aj):Prop:=dM us r.terms=true/\(r.a=0/\r.b=0)/\(0<=r.unit/\r.unit<us.length)/\
 (r.kind=1/\r.unit=0/\aI us r.terms 0=1\/(r.kind=2\/r.kind=3)/\gF us r (decide (r.kind=3))=true\/r.kind=4/\r.unit<allow.length/\eI (aI us r.terms r.unit) allow[r.unit.toNat]! =0)
def H5 {us:List bN}{l:List bK}{u:Int}(h:aI us l u≠bW us u):wT l u=true:=by
 rcases mg us u l 0 with⟨_,_,e⟩|⟨_,_,_,_,_,e⟩
 .exact absurd e h
 .exact e
def Ag (us:List bN)(x r:aj):∃n,n=48/\(gC us x r).terms=ju (⟨r.unit,ru (aI us x.terms r.unit) (aI us r.terms r.unit)⟩::lG x.terms r.unit) n:=⟨48,rfl,by unfold gC xS;rfl⟩
def Cc (us:List bN)(x r:aj):(gC us x r).kind=x.kind/\(gC us x r).unit=x.unit/\(gC us x r).a=x.a/\(gC us x r).b=x.b:=by
 unfold gC;exact⟨by dsimp only,by dsimp only,by dsimp only,by dsimp only⟩
def Ij {us:List bN}{allow:List Int}{x r:aj}(hs:rm us)(h48:us.length<=48)(hx:j5 us allow x)(hr:j5 us allow r)(hk:r.kind=2\/r.kind=3)(hl:oo x r=true):j5 us allow (gC us x r):=by
 simp only[oo,bR,cj]at hl;obtain⟨⟨e1,e2⟩,e3⟩:=hl;obtain⟨x1,x2,x3,x4⟩:=hx;obtain⟨r1,r2,r3,r4⟩:=hr;have xc:gF us x (decide (r.kind=3))=true:=by
  rw[<-e1];rcases x4 with h|h|h
  .omega
  .exact h.2
  .omega
 have rc:gF us r (decide (r.kind=3))=true:=by
  rcases r4 with h|h|h
  .omega
  .exact h.2
  .omega
 rw[mM hs x3]at xc;rw[mM hs r3]at rc;obtain⟨x5,x6⟩:=fj.1 x1;have hxin:∀t∈x.terms,0<=t.u/\t.u<us.length:=fun t ht=>qn (x5 t ht)
 have hM:(⟨r.unit,ru (aI us x.terms r.unit) (aI us r.terms r.unit)⟩::lG x.terms r.unit:List bK).Pairwise fun a b=>a.u≠b.u:=by
  refine List.pairwise_cons.2 ⟨fun t ht=>?_, ?_⟩
  .exact fun e=>(De.1 ht).2 e.symm
  .exact(List.Pairwise.filter _ x6).imp fun h=>ae
 obtain⟨k1,k2,k3,k4⟩:=Cc us x r;obtain⟨n48,hn48,hT⟩:∃n,n=48/\(gC us x r).terms=ju (⟨r.unit,ru (aI us x.terms r.unit) (aI us r.terms r.unit)⟩::lG x.terms r.unit) n:=Ag us x r
 have hlt:Lt (gC us x r).terms:=by rw[hT];exact A6 hM n48
 have hmem:∀t,t∈(gC us x r).terms↔t=⟨r.unit,ru (aI us x.terms r.unit) (aI us r.terms r.unit)⟩\/t∈x.terms/\t.u≠r.unit:=by
  intro t;rw[hT,sj,dF,De];constructor
  .exact fun h=>h.1
  .intro h;refine⟨h, ?_⟩;rcases h with rfl|h
   .dsimp only;omega
   .have:=hxin t h.1;omega
 have hmu:aI us (gC us x r).terms r.unit=ru (aI us x.terms r.unit) (aI us r.terms r.unit):=mj hlt ⟨r.unit,_⟩ ((hmem _).2 (.inl rfl));have hmv:∀v,v≠r.unit->aI us (gC us x r).terms v=aI us x.terms v:=by
  intro v hv;rcases yH (us:=us) (v:=v) x6 with⟨t,ht,rfl,e⟩|⟨hn,e⟩
  .rw[e];exact mj hlt t ((hmem t).2 (.inr ⟨ht,hv⟩))
  .rw[e];refine oX fun t ht=>?_
   rcases(hmem t).1 ht with rfl|h
   .exact fun e=>hv e.symm
   .exact hn t h.1
 have hmr:∀v,v≠r.unit->aI us (gC us x r).terms v=aI us r.terms v:=fun v hv=>by
  rw[hmv v hv,<-vk hv x.terms,e3,vk hv]
 have sx:=iX (u:=r.unit) hs x1;have sr:=iX (u:=r.unit) hs r1;have hb0:bt (ru (aI us x.terms r.unit) (aI us r.terms r.unit)) 0=false:=by
  rw[ux,rc.2.1,<-e2,xc.2.1];rfl
 obtain⟨n,hn⟩:∃n:Nat,r.unit=(n:Int):=⟨r.unit.toNat,ae⟩
 have hnl:n<us.length:=ae;have hfull:bt (bW us r.unit) 0=true:=by rw[hn,lq hnl hs];simp
 have hne:ru (aI us x.terms r.unit) (aI us r.terms r.unit)≠bW us r.unit:=fun e=>by rw[e,hfull]at hb0;cases hb0
 generalize gC us x r=y at*
 refine⟨fj.2 ⟨fun t ht=>?_,hlt⟩,by rw[k3,k4];exact x2,by rw[k2];exact x3,.inr (.inl ⟨ae, ?_⟩)⟩
 .rcases(hmem t).1 ht with rfl|h
  .simp only[lT,bR,cj];refine⟨⟨?_, ?_⟩,hne⟩
   .rw[Iu (yt _ _)];obtain⟨t,ht,e,e5⟩:∃t∈r.terms,t.u=r.unit/\aI us r.terms r.unit=t.m:=by
     rcases yH (us:=us) (v:=r.unit) (fj.1 r1).2 with h|⟨_,h⟩
     .exact h
     .have:=rc.2.1;rw[h,hfull]at this;cases this
    have h1:=(fj.1 r1).1 t ht;have h2:=ze h1;simp only[lT,bR,cj]at h1;obtain⟨i,hi⟩:=(Iu h2).1 h1.1.1;exact⟨i,by rw[ux,e5,hi,Bool.or_true]⟩
   .rw[jf (yt _ _)];intro i hi;rw[ux,er]at hi;rcases hi with hi|hi
    .exact(jf sx.1).1 sx.2 i hi
    .exact(jf sr.1).1 sr.2 i hi
  .exact x5 t h.1
 .rw[k1,e1,mM hs (by rw[k2];exact x3),k2,e2,hmu];refine⟨H5 (by rw[hmu];exact hne),hb0,fun k hk2 hb=>?_⟩;rw[ux,er]at hb;rcases hb with hb|hb
  .rw[<-vY (x:=x) (y:=y) k2.symm (fun v hv=>(hmv v (by rw[<-e2];exact hv)).symm)];exact xc.2.2 k (by rw[e2];exact hk2) (by rw[e2];exact hb)
  .rw[<-vY (x:=r) (y:=y) (by rw[k2,e2]) (fun v hv=>(hmr v hv).symm)];exact rc.2.2 k hk2 hb
def Oe {us:List bN}{allow:List Int}{rows:List aj}{r:aj}(hs:rm us)(h48:us.length<=48)(hx:∀x∈rows,j5 us allow x)(hr:j5 us allow r)(hk:r.kind=2\/r.kind=3):∀x∈mY us rows r,j5 us allow x:=by
 unfold mY;split
 .rename_i hi;intro x h;rcases List.mem_or_eq_of_mem_set h with h|rfl
  .exact hx x h
  .refine Ij hs h48 (hx _ (ak hi)) hr hk ?_;have key:∀k i,iq (fun i=>!oo rows[i]! r) k i<i+k->oo rows[iq (fun i=>!oo rows[i]! r) k i]! r=true:=by
    intro k;induction k with
    |zero=>intro i h;rw[iq]at h;omega
    |succ k ih=>
     intro i h;rw[iq]at h⊢;split at h
     .rename_i h2;rw[ay h2];exact ih _ ae
     .rename_i h2;rw[ai h2];simpa using h2
   exact key _ _ (by rw[aC];exact hi)
 .intro x h;rcases List.mem_append.1 h with h|h
  .exact hx x h
  .obtain rfl:=bG.1 h;exact hr
section
def xf {us:List bN}{allow:List Int}{u k:Nat}{l:List Want}{bar:Bool}(hs:rm us)(hu:u<us.length)(hk:k<us[u]!.cands.length)
  (hl:if bar=true then ∃w∈us[u]!.cands[k]!.bars,l=[w]else l∈us[u]!.cands[k]!.needs) (h:(eh us u k l bar).2=true):j5 us allow ⟨if bar=true then 3 else 2,((u:Nat):Int),0,0,(eh us u k l bar).1⟩:=by
 have hc:=hs _ (ak hu);unfold eh at h⊢;obtain⟨g1,g2,g3⟩:=Mw hs h;obtain⟨m1,m2,m3⟩:=g3 u hu;have hbit:∀i,bt (aI us (vt us (fH us u k l bar)).1 ((u:Nat):Int)) i=true->i=k+1:=by
  intro i hi;rw[m3,bR,List.all_eq_true]at hi;have:=hi.2 _ (List.mem_cons_self ..);simp only[ne_eq,not_true_eq_false,decide_false,Bool.false_or,lF,uy (show k+1<=40 by omega),bR,cj]at this;exact this.2
 obtain⟨i,hi⟩:=(Iu m1).1 m2;obtain rfl:=hbit i hi;have hall:∀w∈l,w.u=((u:Nat):Int)->bt (if bar=true then eR us w else bW us w.u-eR us w) (k+1)=true:=by
  intro w hw e;rw[m3,bR,List.all_eq_true]at hi;have:=hi.2 ⟨w.u,if bar=true then eR us w else bW us w.u-eR us w⟩ (List.mem_cons_of_mem _ (gr.2 ⟨w,hw,rfl⟩));simpa[e]using this
 have hoth:∀w∈l,0<=w.u/\w.u<us.length/\qt (aI us (vt us (fH us u k l bar)).1 w.u)/\∀i,bt (aI us (vt us (fH us u k l bar)).1 w.u) i=true->bt (if bar=true then eR us w else bW us w.u-eR us w) i=true:=by
  intro w hw;have hm:(⟨w.u,if bar=true then eR us w else bW us w.u-eR us w⟩:bK)∈fH us u k l bar:=List.mem_cons_of_mem _ (gr.2 ⟨w,hw,rfl⟩);have hin:=g2 _ hm;dsimp only at hin;obtain⟨v,hv⟩:∃v:Nat,w.u=(v:Int):=⟨w.u.toNat,ae⟩
  obtain⟨n1,_,n3⟩:=g3 v ae;refine⟨hin.1,hin.2,by rw[hv];exact n1,fun i hi=>?_⟩;rw[hv,n3,bR,List.all_eq_true]at hi;have:=hi.2 _ hm;simpa[hv]using this
 have hf0:bt (bW us ((u:Nat):Int)) 0=true:=by rw[lq hu hs];simp
 have hb0:bt (aI us (vt us (fH us u k l bar)).1 ((u:Nat):Int)) 0=false:=by
  cases e:bt (aI us (vt us (fH us u k l bar)).1 ((u:Nat):Int)) 0 with
  |false=>rfl
  |true=>have:=hbit 0 e;omega
 have hu':(0:Int)<=((u:Nat):Int)/\((u:Nat):Int)<us.length:=ae;refine⟨g1,⟨rfl,rfl⟩,hu',.inr (.inl ⟨by cases bar<;>simp, ?_⟩)⟩;rw[mM hs hu'];dsimp only;refine⟨H5 (fun e=>by rw[e,hf0]at hb0;cases hb0),hb0,fun k2 hk2 hb=>?_⟩;obtain rfl:k2=k:=by have:=hbit _ hb;omega
 unfold lA;dsimp only;rw[Int.toNat_natCast];cases bar with
 |false=>
  simp only[gE,aF]at hl hall hoth⊢;rw[ai cg,List.any_eq_true];refine⟨l,hl, ?_⟩;unfold gh;rw[ef,List.any_eq_false];intro w hw;simp only[fB,gE,aF,ef,Bool.not_eq_false];unfold qQ;dsimp only;split
  .rename_i e;rw[cj,show((k2:Int)+1).toNat=k2+1 from rfl,oO ae];have:=hall w hw e;rw[Dd hs,bR,ef]at this;exact this.2
  .rename_i e;rw[cj,uz];rintro i ⟨h1,h2⟩;have:=(hoth w hw).2.2.2 i h2;rw[Dd hs,h1]at this;simp at this
 |true=>
  simp only[aH]at hl hall hoth⊢;obtain⟨w,hw,rfl⟩:=hl;rw[ay cg,List.any_eq_true];refine⟨w,hw, ?_⟩;simp only[fB,aH];unfold q7;dsimp only;split
  .rename_i e;rw[cj,show((k2:Int)+1).toNat=k2+1 from rfl,Ne,oO ae,hall w (.head _) e];exact Bool.noConfusion
  .rename_i e;obtain⟨_,_,n1,n2⟩:=hoth w (.head _);rw[cj,Dg n1,jf n1];exact n2
abbrev ke (us:List bN)(allow:List Int)(rows:List aj):Prop:=∀x∈rows,j5 us allow x
section
variable {us:List bN} {allow:List Int}
def Hk {rows:List aj}{kind u:Int}{c:List bK×Bool}(hs:rm us)(h48:us.length<=48)(hk:kind=2\/kind=3)(hx:ke us allow rows)(hr:c.2=true->j5 us allow ⟨kind,u,0,0,c.1⟩):ke us allow (wN us rows kind u c):=by
 unfold wN;split
 .rename_i h;exact Oe hs h48 hx (hr h) hk
 .exact hx
def vA (hs:rm us)(h48:us.length<=48){u i:Nat}(hu:u<us.length)(hi:i<us[u]!.cands.length){rows:List aj}(hx:ke us allow rows):∀{k},k<=us[u]!.cands[i]!.needs.length->ke us allow (dX us u i us[u]!.cands[i]!.needs rows k)
 |0,_=>hx
 |k+1,hk=>Hk hs h48 (.inl rfl) (vA hs h48 hu hi hx ae) fun h=>xf (bar:=false) hs hu hi (by simpa using ak (show k<us[u]!.cands[i]!.needs.length by omega)) h
def yp (hs:rm us)(h48:us.length<=48){u i:Nat}(hu:u<us.length)(hi:i<us[u]!.cands.length){rows:List aj}(hx:ke us allow rows):∀{k},k<=us[u]!.cands[i]!.bars.length->ke us allow (jr us u i us[u]!.cands[i]!.bars rows k)
 |0,_=>hx
 |k+1,hk=>Hk hs h48 (.inr rfl) (yp hs h48 hu hi hx ae) fun h=>xf (bar:=true) hs hu hi ⟨_,ak (show k<us[u]!.cands[i]!.bars.length by omega),rfl⟩ h
def uB (hs:rm us)(h48:us.length<=48){u:Nat}(hu:u<us.length){rows:List aj}(hx:ke us allow rows):∀{i},i<=us[u]!.cands.length->ke us allow (dN us u us[u]!.cands rows i)
 |0,_=>hx
 |i+1,hi=>yp hs h48 hu ae (vA hs h48 hu ae (uB hs h48 hu hx ae) (aB _)) (aB _)
def Lx (hs:rm us)(h0:0<us.length)(h1:1<=us[0]!.cands.length):j5 us allow RS:=by
 have hc:=hs _ (ak h0);have hI:qt 1:=⟨cg,cg⟩;have hb1:∀i,bt 1 i=decide (i=0):=fun i=>by rw[one_pow];exact uy ae i
 refine⟨fj.2 ⟨fun t ht=>?_,List.pairwise_singleton _ _⟩,⟨rfl,rfl⟩,⟨Int.le_refl 0,by show(0:Int)<us.length;omega⟩,.inl ⟨rfl,rfl,rfl⟩⟩;obtain rfl:=bG.1 ht;simp only[lT,bR,cj];have hf:=lq h0 hs;refine⟨⟨cg, ?_⟩,fun e=>?_⟩
 .rw[jf hI];intro i hi;rw[hb1,cj]at hi;subst hi;have:=hf 0;rw[show((0:Nat):Int)=0 from rfl]at this;rw[this];simp
 .have:=hf 1;rw[show((0:Nat):Int)=0 from rfl,<-e,hb1,cG cg]at this;exact absurd h1 (of_decide_eq_false this.symm)
def wi (hs:rm us)(h48:us.length<=48)(h0:0<us.length)(h1:1<=us[0]!.cands.length):∀{u},u<=us.length->ke us allow (dr us u)
 |0,_=>fun x hx=>by obtain rfl:=bG.1 hx;exact Lx hs h0 h1
 |u+1,hu=>uB hs h48 ae (wi hs h48 h0 h1 ae) (aB _)
def KB {u:Nat}(hs:rm us)(hu:u<us.length)(ha:u<allow.length)(h:(ur us allow u).2=true):j5 us allow ⟨4,((u:Nat):Int),0,0,(ur us allow u).1⟩:=by
 unfold ur at h⊢;obtain⟨g1,g2,g3⟩:=Mw hs h;obtain⟨m1,m2,m3⟩:=g3 u hu;refine⟨g1,⟨rfl,rfl⟩,fw,.inr (.inr ⟨rfl,fw, ?_⟩)⟩;dsimp only;rw[Int.toNat_natCast,uz];rintro i ⟨h1,h2⟩;rw[m3,bR,List.all_eq_true]at h1;have:=h1.2 _ (.head _);simp only[ne_eq,not_true_eq_false,decide_false,Bool.false_or]at this;rw[Hu (mK _ _) (by rw[jf (mK _ _)];intro i hi;rw[lF,bR]at hi;exact hi.1),lF,h2]at this;simp at this
def Da (hs:rm us)(h48:us.length<=48)(h0:0<us.length)(h1:1<=us[0]!.cands.length):∀{u},u<=us.length->u<=allow.length->ke us allow (nT us allow u)
 |0,_,_=>wi hs h48 h0 h1 (aB _)
 |u+1,hu,ha=>by
  have ih:=Da hs h48 h0 h1 (show u<=us.length by omega) (show u<=allow.length by omega);rw[nT];split
  .rename_i h;intro x hx;rcases List.mem_append.1 hx with hx|hx
   .exact ih x hx
   .obtain rfl:=bG.1 hx;exact KB hs ae ae h
  .exact ih
def zR (hs:rm us)(h48:us.length<=48)(h0:0<us.length)(h1:1<=us[0]!.cands.length):ke us allow (j6 us allow):=Da hs h48 h0 h1 (Nat.min_le_right _ _) (Nat.min_le_left _ _)
end
end
def G8 (us:List bN)(c:List Int):Prop:=c.length<=us.length/\∀u,u<c.length->-1<=c[u]! /\c[u]! <us[u]!.cands.length
def vb (c:List Int)(u:Nat):Nat:=(c[u]! +1).toNat
def JM {us:List bN}{c:List Int}{u:Nat}(hs:rm us)(hc:G8 us c)(hu:u<c.length):nj us c ((u:Nat):Int)=2^vb c u/\vb c u<=us[u]!.cands.length:=by
 have h1:=hc.2 u hu;have h2:=hc.1;have h3:=hs _ (ak (show u<us.length by omega));unfold nj vb;rw[ai ae,Int.toNat_natCast,ai ae];exact⟨rfl,ae⟩
def Rk (us:List bN)(c:List Int)(l:List bK):Prop:=dM us l=true/\(∀t∈l,t.u<c.length)/\∀u,u<c.length->bt (aI us l ((u:Nat):Int)) (vb c u)=true
def FH {us:List bN}{c:List Int}{r:aj}(hs:rm us)(hc:G8 us c)(hv:dM us r.terms=true)(h:mN us c r=true):Rk us c r.terms:=by
 unfold mN at h;rw[DJ]at h;have ht:∀t∈r.terms,sP us c t=true:=fun t ht=>by
  obtain⟨i,hi,rfl⟩:=List.mem_iff_getElem.1 ht;have:=h i hi;simpa[hi]using this
 obtain⟨h1,h2⟩:=fj.1 hv;have hlt:∀t∈r.terms,t.u<c.length:=fun t h3=>by
  have:=ht t h3;simp only[sP,bR,cj]at this;exact this.1
 refine⟨hv,hlt,fun u hu=>?_⟩;obtain⟨v1,v2⟩:=JM hs hc hu;rcases yH (us:=us) (v:=((u:Nat):Int)) h2 with⟨t,h3,e,e2⟩|⟨_,e2⟩
 .rw[e2];have:=ht t h3;simp only[sP,rJ,bR,cj]at this;rw[e,v1,nW]at this;have h16:=hs _ (ak (show u<us.length by have:=hc.1;omega));cases e3:bt t.m (vb c u)with
  |true=>rfl
  |false=>exact absurd ((oO ae).2 e3) this.2
 .rw[e2,lq (by have:=hc.1;omega) hs];simpa using v2
def fU (w:bz)(allow:List Int)(rows:List aj):Prop:=∀i,i<rows.length->dA ⟨w,allow,rows⟩ ((i:Nat):Int)=true
def q8 {rows:List aj}{n j:Nat}(h:j<n):(rows.take n)[j]! =rows[j]! :=by
 simp[List.getElem!_eq_getElem?_getD,List.getElem?_take,h]
def uU {w:bz}{allow:List Int}{rows:List aj}{n i:Nat}(hi:i<n)(hn:n<=rows.length):dA ⟨w,allow,rows.take n⟩ ((i:Nat):Int)=dA ⟨w,allow,rows⟩ ((i:Nat):Int):=by
 have hg:=q8 (rows:=rows) hi;unfold dA;simp only[Int.toNat_natCast,hg,eg];rw[cr (show((i:Nat):Int)<((min n rows.length:Nat):Int)by omega),cr (show((i:Nat):Int)<(rows.length:Int)by omega)];congr 1;unfold lu;split
 .unfold nV;dsimp only;by_cases ha:0<=rows[i]!.a/\rows[i]!.a<((i:Nat):Int)
  .by_cases hb:0<=rows[i]!.b/\rows[i]!.b<((i:Nat):Int)
   .rw[q8 (show rows[i]!.a.toNat<n by omega),q8 (show rows[i]!.b.toNat<n by omega)]
   .rw[show(decide (0<=rows[i]!.b)&&decide (rows[i]!.b<((i:Nat):Int)))=false by rw[fF,di,di];omega];simp
  .rw[show(decide (0<=rows[i]!.a)&&decide (rows[i]!.a<((i:Nat):Int)))=false by rw[fF,di,di];omega];simp
 .rfl
def Gz {w:bz}{allow:List Int}{rows:List aj}{n:Nat}(h:fU w allow rows)(hn:n<=rows.length):fU w allow (rows.take n):=by
 intro i hi;rw[eg]at hi;rw[uU ae hn];exact h i ae
def AZ {w:bz}{allow:List Int}{rows:List aj}{r:aj}(h:fU w allow rows)(hr:dA ⟨w,allow,rows++[r]⟩ ((rows.length:Nat):Int)=true):fU w allow (rows++[r]):=by
 intro i hi;rw[cI,List.length_singleton]at hi;rcases cV i rows.length with h1|h1
 .rw[<-uU (n:=rows.length) h1 bA,List.take_left];exact h i h1
 .obtain rfl:i=rows.length:=ae;exact hr
def m9 {w:bz}{allow:List Int}{rows:List aj}(h:fU w allow rows){i:Nat}(hi:i<rows.length):dM w.us rows[i]!.terms=true:=by
 have:=h i hi;unfold dA at this;simp only[bR,Int.toNat_natCast]at this;exact this.1.2
def lY {rows:List aj}{r:aj}:(rows++[r])[rows.length]! =r:=by simp[List.getElem!_eq_getElem?_getD]
def tC {rows more:List aj}{i:Nat}(h:i<rows.length):(rows++more)[i]! =rows[i]! :=by
 simp[List.getElem!_eq_getElem?_getD,List.getElem?_append_left h]
def BO {w:bz}{allow:List Int}{rows:List aj}{r:aj}(hr:j5 w.us allow r):dA ⟨w,allow,rows++[r]⟩ ((rows.length:Nat):Int)=true:=by
 obtain⟨h1,⟨h2,h3⟩,h4,h5⟩:=hr;unfold dA;simp only[Int.toNat_natCast,lY,cI,List.length_singleton,bR,cj];refine⟨⟨⟨ae,ae⟩,h1⟩, ?_⟩;unfold lu;have hfn:bW w.us r.unit≠0:=by
  have:=tM (us:=w.us) (u:=r.unit);rw[cr h4.1,cr h4.2]at this;exact of_decide_eq_true this
 rcases h5 with⟨k,h6,h7⟩|⟨k,h6⟩|⟨k,h6,h7⟩
 .rw[ai ae,ay k,h2,h3,h6,h7];rfl
 .rw[ai ae,ai ae,ay k,h2,h3,h6];rfl
 .rw[ai ae,ai ae,ai ae,ay k,h2,h3];unfold uq;simp only[bR,cj,decide_true,ba];exact⟨⟨hfn,h6⟩,h7⟩
def pU {us:List bN}{a b:List bK}{unit:Int}{u:Nat}(hu:u<us.length):(e8 us a b unit us.length)[u]! =kf us a b unit u:=by
 simp[e8,List.getElem!_eq_getElem?_getD,hu]
def Dz {us:List bN}{a b:List bK}{u:Nat}(hs:rm us)(hu:u<us.length)(ha:dM us a=true)(hb:dM us b=true)(hn:∀v,v<us.length->kf us a b ((u:Nat):Int) v≠0):
  dM us (gQ us a b ((u:Nat):Int)).1=true/\∀v,v<us.length->aI us (gQ us a b ((u:Nat):Int)).1 ((v:Nat):Int)=kf us a b ((u:Nat):Int) v:=by
 unfold gQ;rw[ai ae];have hsub:Nu us (e8 us a b ((u:Nat):Int) us.length):=by
  intro v hv;rw[pU hv];have sa:=iX (u:=((v:Nat):Int)) hs ha;have sb:=iX (u:=((v:Nat):Int)) hs hb;unfold kf;split
  .rw[jf (yt _ _)];intro i hi;rw[ux,er]at hi;rcases hi with hi|hi
   .exact(jf sa.1).1 sa.2 i hi
   .exact(jf sb.1).1 sb.2 i hi
  .rw[jf (mK _ _)];intro i hi;rw[lF,bR]at hi;exact(jf sa.1).1 sa.2 i hi.1
 obtain⟨g1,g2,_⟩:=DB (pV us a b _ _) hsub (F1 fun v hv=>by
  rw[pV]at hv;rw[pU hv];exact hn v hv)
 exact⟨g1,fun v hv=>by rw[g2 v hv,pU hv]⟩
def Hz (m:Int):J0 m m=0:=by
 rw[Hy,zd]
 ext i hi;simp
def BL {w:bz}{allow:List Int}{rows:List aj}{u:Nat}{now x:Int}(hs:rm w.us)(hu:u<w.us.length)(hR:fU w allow rows)(h1:0<=now/\now<rows.length)(h2:0<=x/\x<rows.length)
  (hn:∀v,v<w.us.length->kf w.us rows[now.toNat]!.terms rows[x.toNat]!.terms ((u:Nat):Int) v≠0):dA ⟨w,allow,rows++[iv w.us u now x rows]⟩ ((rows.length:Nat):Int)=true:=by
 have va:=m9 hR (show now.toNat<rows.length by omega);have vx:=m9 hR (show x.toNat<rows.length by omega);obtain⟨j1,j2⟩:=Dz hs hu va vx hn;unfold dA;simp only[Int.toNat_natCast,lY,cI,List.length_singleton,bR,cj];refine⟨⟨⟨ae,ae⟩,j1⟩, ?_⟩;unfold lu;rw[ay (show(iv w.us u now x rows).kind=5 from rfl)];unfold nV;simp only[bR,cj];rw[show(iv w.us u now x rows).a=now from rfl,show(iv w.us u now x rows).b=x from rfl,tC (show now.toNat<rows.length by omega),tC (show x.toNat<rows.length by omega)];refine⟨⟨⟨⟨?_,ae⟩,ae⟩,va,vx⟩, ?_⟩
 .have:=tM (us:=w.us) (u:=((u:Nat):Int));rw[cr (show(0:Int)<=((u:Nat):Int)by omega),cr (show((u:Nat):Int)<w.us.length by omega)]at this;exact of_decide_eq_true this
 .rw[de];intro v _ hv;unfold pz;rw[cj,show(iv w.us u now x rows).terms=(gQ w.us rows[now.toNat]!.terms rows[x.toNat]!.terms ((u:Nat):Int)).1 from rfl,j2 v hv];exact Hz _
def zw (us:List bN)(c:List Int)(k:Nat)(l:List bK):Prop:=dM us l=true/\(∀t∈l,t.u<c.length+1)/\(∀u,u<c.length->bt (aI us l ((u:Nat):Int)) (vb c u)=true)/\∀j,j<k->bt (aI us l ((c.length:Nat):Int)) j=true
def yL {us:List bN}{c:List Int}{k:Nat}{l:List bK}(h:zw us c k l)(hm:aI us l ((c.length:Nat):Int)=bW us ((c.length:Nat):Int)):Rk us c l:=by
 obtain⟨h1,h2,h3,_⟩:=h;refine⟨h1,fun t ht=>?_,h3⟩;have:=h2 t ht;have:=Ba h1 hm t ht;omega
def Io {us:List bN}{c:List Int}{l:List bK}(hs:rm us)(hc:c.length<us.length)(h:zw us c (us[c.length]!.cands.length+1) l):Rk us c l:=by
 refine yL h (yr (iX hs h.1).1 (oa hs) fun i=>?_);rw[lq hc hs];have sm:=iX (u:=((c.length:Nat):Int)) hs h.1;by_cases hi:i<=us[c.length]!.cands.length
 .rw[h.2.2.2 i ae,cr hi]
 .rw[cG hi];cases e:bt (aI us l ((c.length:Nat):Int)) i with
  |false=>rfl
  |true=>
   have:=(jf sm.1).1 sm.2 i e;rw[lq hc hs,cj]at this;exact absurd this hi
def OP {c:List Int}{i:Int}{u:Nat}(h:u<c.length):vb (c++[i]) u=vb c u:=by
 unfold vb;rw[List.getElem!_eq_getElem?_getD,List.getElem?_append_left h,<-List.getElem!_eq_getElem?_getD]
def L0 {c:List Int}{i:Int}:vb (c++[i]) c.length=(i+1).toNat:=by
 unfold vb;simp[List.getElem!_eq_getElem?_getD]
def Jz {us:List bN}{c:List Int}{i:Int}{l:List bK}(h:Rk us (c++[i]) l):dM us l=true/\(∀t∈l,t.u<c.length+1)/\(∀u,u<c.length->bt (aI us l ((u:Nat):Int)) (vb c u)=true)/\bt (aI us l ((c.length:Nat):Int)) (i+1).toNat=true:=by
 obtain⟨h1,h2,h3⟩:=h;refine⟨h1,fun t ht=>?_,fun u hu=>?_, ?_⟩
 .have:=h2 t ht;simp only[cI,List.length_singleton]at this;omega
 .have:=h3 u eu;rwa [OP hu]at this
 .have:=h3 c.length bA;rwa [L0]at this
def zr (w:bz)(allow:List Int)(c:List Int)(rows:List aj)(r:Int×List aj):Prop:=fU w allow r.2/\(∃more,r.2=rows++more)/\-1<=r.1/\(0<=r.1->r.1<r.2.length/\Rk w.us c r.2[r.1.toNat]!.terms)
def xq {w:bz}{allow:List Int}{rows:List aj}{c:List Int}{k:Nat}{now x:Int}(hs:rm w.us)(hc:c.length<w.us.length)(hcok:G8 w.us c)(hR:fU w allow rows)(h1:0<=now/\now<rows.length)(h2:0<=x/\x<rows.length)(hk:0<k)
  (ha:zw w.us c k rows[now.toNat]!.terms) (hb:dM w.us rows[x.toNat]!.terms=true/\(∀t∈rows[x.toNat]!.terms,t.u<c.length+1)/\(∀u,u<c.length->bt (aI w.us rows[x.toNat]!.terms ((u:Nat):Int)) (vb c u)=true)/\bt (aI w.us rows[x.toNat]!.terms ((c.length:Nat):Int)) k=true):
  fU w allow (rows++[iv w.us c.length now x rows])/\zw w.us c (k+1) (iv w.us c.length now x rows).terms:=by
 obtain⟨a1,a2,a3,a4⟩:=ha;obtain⟨b1,b2,b3,b4⟩:=hb;have hm:∀v,v<w.us.length->(v<c.length->bt (kf w.us rows[now.toNat]!.terms rows[x.toNat]!.terms ((c.length:Nat):Int) v) (vb c v)=true)/\(v=c.length->∀j,j<k+1->bt (kf w.us rows[now.toNat]!.terms rows[x.toNat]!.terms ((c.length:Nat):Int) v) j=true)/\(c.length<v->kf w.us rows[now.toNat]!.terms rows[x.toNat]!.terms ((c.length:Nat):Int) v=bW w.us ((v:Nat):Int)):=by
  intro v hv;refine⟨fun h=>?_,fun h j hj=>?_,fun h=>?_⟩
  .unfold kf;rw[ai ae,lF,a3 v h,b3 v h];rfl
  .subst h;unfold kf;rw[ay rfl,ux];rcases cV j k with h|h
   .rw[a4 j h];rfl
   .obtain rfl:j=k:=ae;rw[b4,Bool.or_true]
  .unfold kf;rw[ai ae,oX (fun t ht=>by have:=a2 t ht;omega),oX (fun t ht=>by have:=b2 t ht;omega)];exact zI (oa hs)
 have hnz:∀v,v<w.us.length->kf w.us rows[now.toNat]!.terms rows[x.toNat]!.terms ((c.length:Nat):Int) v≠0:=by
  intro v hv e;obtain⟨g1,g2,g3⟩:=hm v hv;rcases Nat.lt_trichotomy v c.length with h|h|h
  .have:=g1 h;rw[e,lr]at this;cases this
  .have:=g2 h 0 ae;rw[e,lr]at this;cases this
  .have:=g3 h;have h0:bt (bW w.us ((v:Nat):Int)) 0=true:=by rw[lq hv hs];simp
   rw[<-this,e,lr]at h0;cases h0
 obtain⟨j1,j2⟩:=Dz hs hc a1 b1 hnz;refine⟨AZ hR (BL hs hc hR h1 h2 hnz),j1,fun t ht=>?_,fun u hu=>?_,fun j hj=>?_⟩
 .have hin:=qn ((fj.1 j1).1 t ht);refine Classical.byContradiction fun hge=>?_
  obtain⟨v,hv⟩:∃v:Nat,t.u=(v:Int):=⟨t.u.toNat,ae⟩
  have e:=j2 v ae;rw[(hm v ae).2.2 ae]at e;exact Ba j1 e t ht hv
 .show bt (aI w.us (gQ w.us _ _ _).1 _) _=true;rw[j2 u ae];exact(hm u ae).1 hu
 .show bt (aI w.us (gQ w.us _ _ _).1 _) _=true;rw[j2 c.length hc];exact(hm c.length hc).2.1 rfl j hj
def zc {w:bz}{allow:List Int}{c:List Int}{rc:List Int->List aj->Int×List aj}(hs:rm w.us)(hc:c.length<w.us.length)(hcok:G8 w.us c)
  (hrc:∀(i:Int) (rows:List aj),-1<=i->i<w.us[c.length]!.cands.length->fU w allow rows->zr w allow (c++[i]) rows (rc (c++[i]) rows)):
  ∀(n k:Nat) (i now:Int) (rows:List aj),n+k=w.us[c.length]!.cands.length+1->i=((k:Nat):Int) -1->fU w allow rows->(k=0/\now=-1\/0<k/\(0<=now/\now<rows.length)/\zw w.us c k rows[now.toNat]!.terms)->zr w allow c rows (nv w.us c.length rc c n i now rows)
 |0,k,i,now,rows,hnk,hi,hR,hN=>by
  rw[nv];refine⟨hR,⟨[],bA⟩, ?_,fun h0=>?_⟩
  .rcases hN with h|h<;>dsimp only<;>omega
  .dsimp only at h0⊢;rcases hN with⟨_,h⟩|⟨_,h1,h2⟩
   .omega
   .obtain rfl:k=w.us[c.length]!.cands.length+1:=ae;exact⟨h1.2,Io hs hc h2⟩
 |n+1,k,i,now,rows,hnk,hi,hR,hN=>by
  have hr:=hrc i rows ae ae hR;rw[nv];generalize rc (c++[i]) rows=r at hr⊢;obtain⟨e1,⟨more,e2⟩,e3,e4⟩:=hr;have hlen:r.2.length=rows.length+more.length:=by rw[e2,cI]
  split
  .exact⟨e1,⟨more,e2⟩,fw,fun h=>by dsimp only at h;omega⟩
  .rename_i h0;obtain⟨e5,e6⟩:=e4 ae;have e7:=Jz e6;have hkk:(i+1).toNat=k:=ae;rw[hkk]at e7;split
   .rename_i hf;refine⟨e1,⟨more,e2⟩,e3,fun _=>⟨e5,yL (k:=0) ⟨e7.1,e7.2.1,e7.2.2.1,fun j hj=>ae⟩ hf⟩⟩
   .split
    .rename_i hn;obtain⟨rfl,_⟩:k=0/\now=-1:=by
      rcases hN with h|h
      .exact h
      .omega
     have hj0:∀j,j<1->bt (aI w.us r.2[r.1.toNat]!.terms ((c.length:Nat):Int)) j=true:=fun j hj=>by
      obtain rfl:j=0:=ae;exact e7.2.2.2
     have:=zc hs hc hcok hrc n 1 (i+1) r.1 r.2 ae ae e1 (.inr ⟨ae,⟨ae,e5⟩,e7.1,e7.2.1,e7.2.2.1,hj0⟩);obtain⟨g1,⟨m2,g2⟩,g3,g4⟩:=this;exact⟨g1,⟨more++m2,by rw[g2,e2,lU]⟩,g3,g4⟩
    .rename_i hn;obtain⟨hk,hnw,hnr⟩:0<k/\(0<=now/\now<rows.length)/\zw w.us c k rows[now.toNat]!.terms:=by
      rcases hN with h|h
      .omega
      .exact h
     have hget:r.2[now.toNat]! =rows[now.toNat]! :=by rw[e2];exact tC ae
     obtain⟨j1,j2⟩:=xq (x:=r.1) (now:=now) hs hc hcok e1 ⟨hnw.1,ae⟩ ⟨ae,e5⟩ hk (by rw[hget];exact hnr) e7;split
     .rename_i hf;refine⟨j1,⟨more++[iv w.us c.length now r.1 r.2],by dsimp only;rw[e2,lU,<-e2]⟩,fw,fun _=>⟨by simp only[cI,List.length_singleton];omega, ?_⟩⟩;dsimp only;rw[Int.toNat_natCast,lY];exact yL j2 hf
     .have:=zc hs hc hcok hrc n (k+1) (i+1) (((r.2.length:Nat):Int)) (r.2++[iv w.us c.length now r.1 r.2]) ae ae j1 (.inr ⟨ae,⟨ae,by simp only[cI,List.length_singleton];omega⟩,by rw[Int.toNat_natCast,lY];exact j2⟩);obtain⟨g1,⟨m2,g2⟩,g3,g4⟩:=this;exact⟨g1,⟨more++([iv w.us c.length now r.1 r.2]++m2),by rw[g2,<-lU rows,<-e2,lU]⟩,g3,g4⟩
def Db {f:Nat->Bool}:∀k i,iq f k i<i+k->f (iq f k i)=false
 |0,i,h=>by rw[iq]at h;omega
 |k+1,i,h=>by
  rw[iq]at h⊢;split at h
  .rename_i h2;rw[ay h2];exact Db k (i+1) ae
  .rename_i h2;rw[ai h2];simpa using h2
def zQ {w:bz}{allow:List Int}{facts:List aj}{c:List Int}{rows:List aj}(hs:rm w.us)(hf:ke w.us allow facts)(hc:G8 w.us c)(hR:fU w allow rows)(h:eJ w.us facts c<facts.length):zr w allow c rows (((rows.length:Nat):Int),rows++[facts[eJ w.us facts c]!]):=by
 have hF:=hf _ (ak h);refine⟨AZ hR (BO hF),⟨_,rfl⟩,fw,fun _=>⟨by simp only[cI,List.length_singleton];omega, ?_⟩⟩;dsimp only;rw[Int.toNat_natCast,lY];refine FH hs hc hF.1 ?_;have:=Db (f:=fun i=>!mN w.us c facts[i]!) facts.length 0 (by unfold eJ at h;omega);unfold eJ;simpa using this
def G8.app {us:List bN}{c:List Int}{i:Int}(h:G8 us c)(hl:c.length<us.length)(h1:-1<=i)(h2:i<us[c.length]!.cands.length):G8 us (c++[i]):=by
 refine⟨eu,fun u hu=>?_⟩;rw[cI,List.length_singleton]at hu;rcases cV u c.length with h3|h3
 .rw[List.getElem!_eq_getElem?_getD,List.getElem?_append_left h3,<-List.getElem!_eq_getElem?_getD];exact h.2 u h3
 .obtain rfl:u=c.length:=ae;simp only[List.getElem!_eq_getElem?_getD,List.getElem?_concat_length,Option.getD_some]at*
  exact⟨h1,h2⟩
def yO {w:bz}{allow:List Int}{facts:List aj}(hs:rm w.us)(hf:ke w.us allow facts):∀f c rows,c.length+f=w.us.length->G8 w.us c->fU w allow rows->zr w allow c rows (kg w.us facts f c rows)
 |0,c,rows,hl,hc,hR=>by
  rw[kg];split
  .rename_i h;exact zQ hs hf hc hR h
  .exact⟨hR,⟨[],bA⟩,fw,fun h=>by dsimp only at h;omega⟩
 |f+1,c,rows,hl,hc,hR=>by
  rw[kg];split
  .rename_i h;exact zQ hs hf hc hR h
  .split
   .exact⟨hR,⟨[],bA⟩,fw,fun h=>by dsimp only at h;omega⟩
   .exact zc hs ae hc (fun i rows h1 h2 hR2=>yO hs hf f (c++[i]) rows eu (hc.app ae h1 h2) hR2) _ 0 (-1) (-1) rows ae ae hR (.inl ⟨rfl,rfl⟩)
def PW (w:bz):Prop:=rm w.us/\w.us.length<=48/\0<w.us.length/\1<=w.us[0]!.cands.length
def Av {w:bz}{allow:List Int}{l:List aj}(hw:PW w)(h:jc w.us allow=some l):fU w allow l/\0<l.length/\l[l.length-1]!.terms=[]:=by
 obtain⟨hs,h48,h0,h1⟩:=hw;have hf:ke w.us allow (j6 w.us allow):=zR hs h48 h0 h1;have hE:=yO hs hf w.us.length [] [] bA ⟨Nat.zero_le _,fun u hu=>by cases hu⟩ (fun i hi=>by cases hi);have hp:kR w.us allow=kg w.us (j6 w.us allow) w.us.length [] []:=rfl;rw[<-hp]at hE;unfold jc at h;split at h
 .cases h
 .rename_i hn;obtain rfl:=bl h;obtain⟨e1,_,_,e4⟩:=hE;obtain⟨e5,e6⟩:=e4 ae;have hlen:((kR w.us allow).2.take ((kR w.us allow).1.toNat+1)).length=(kR w.us allow).1.toNat+1:=by rw[eg];omega
  refine⟨Gz e1 ae,ae, ?_⟩;rw[hlen,Nat.add_sub_cancel,q8 ae];refine List.eq_nil_iff_forall_not_mem.2 fun t ht=>?_
  have h2:=e6.2.1 t ht;have h3:=qn ((fj.1 e6.1).1 t ht);simp at h2;omega
def BM {w:bz}{allow:List Int}{l:List aj}(hok:okW w allow=true)(h:fU w allow l)(h0:0<l.length)(hl:l[l.length-1]!.terms=[]):eD (okW w allow) (fun j=>dA ⟨w,allow,l⟩ ((j:Nat):Int)) l=(((l.length:Nat):Int),true):=by
 unfold eD;have hb:iq (fun j=>dA ⟨w,allow,l⟩ ((j:Nat):Int)) l.length 0=l.length:=by
  have key:∀k i,i+k=l.length->iq (fun j=>dA ⟨w,allow,l⟩ ((j:Nat):Int)) k i=l.length:=by
   intro k;induction k with
   |zero=>intro i hi;rw[iq];omega
   |succ k ih=>intro i hi;rw[iq,ay (h i ae)];exact ih _ ae
  exact key _ _ ae
 rw[ai (by rw[hok];decide),hb,ai ae,hl,cr h0];rfl
def v8 {us:List bN}{u:Nat}{rc:List Int->List aj->Int×List aj}{c:List Int}{B:Nat}(hrc:∀(i:Int)(rows:List aj),(rc (c++[i]) rows).2.length<=max (rows.length+1) B):∀n i now rows,(nv us u rc c n i now rows).2.length<=max rows.length B+2*n
 |0,i,now,rows=>by rw[nv];dsimp only;omega
 |n+1,i,now,rows=>by
  have h1:=hrc i rows;rw[nv];generalize rc (c++[i]) rows=r at h1⊢;have h3:=v8 (us:=us) (u:=u) hrc n (i+1) r.1 r.2;have h4:=v8 (us:=us) (u:=u) hrc n (i+1) (((r.2.length:Nat):Int)) (r.2++[iv us u now r.1 r.2]);have h5:(r.2++[iv us u now r.1 r.2]).length=r.2.length+1:=bA;rw[h5]at h4;split
  .dsimp only;omega
  .split
   .omega
   .split
    .omega
    .split
     .dsimp only;omega
     .omega
def Ak {us:List bN}{facts:List aj}(hs:rm us):∀f c rows,c.length+f=us.length->(kg us facts f c rows).2.length<=max (rows.length+1) (3001+40*f)
 |0,c,rows,hl=>by
  rw[kg];split
  .simp only[cI,List.length_singleton];omega
  .dsimp only;omega
 |f+1,c,rows,hl=>by
  rw[kg];split
  .simp only[cI,List.length_singleton];omega
  .split
   .dsimp only;omega
   .have h1:=v8 (us:=us) (u:=c.length) (rc:=kg us facts f) (c:=c) (B:=3001+40*f) (fun i rows=>Ak hs f (c++[i]) rows eu) (us[c.length]!.cands.length+1) (-1) (-1) rows;have h2:=hs _ (ak (show c.length<us.length by omega));omega
section
def j0:List (List bo):=(List.range 16).map fun m=>bD ((m:Nat):Int) 4
set_option maxRecDepth 10000
def LK:∀vs∈j0,∀m,m<8->nb (tR ((m:Nat):Int) vs vs.length)=true/\nb (wX (tR ((m:Nat):Int) vs vs.length))=true:=by decide+kernel
def zP:∀v∈cM,nb (b7 v)=true/\jn v=true:=by decide+kernel
def NA:nb wO=true:=by decide+kernel
def Lu:∀vs∈j0,∀k,k<4->0<k->k<vs.length->kM vs[k-1]! vs[k]! <0:=by decide+kernel
def JF:∀m,m<16->bD ((m:Nat):Int) 4∈j0:=by decide+kernel
def JE {vs:List bo}(h:vs.Sublist cM):vs∈j0:=by
 have key:j0=[[],[cM[0]!],[cM[1]!],[cM[0]!,cM[1]!],[cM[2]!],[cM[0]!,cM[2]!],[cM[1]!,cM[2]!],[cM[0]!,cM[1]!,cM[2]!],[cM[3]!],[cM[0]!,cM[3]!],[cM[1]!,cM[3]!],[cM[0]!,cM[1]!,cM[3]!],[cM[2]!,cM[3]!],[cM[0]!,cM[2]!,cM[3]!],[cM[1]!,cM[2]!,cM[3]!],[cM[0]!,cM[1]!,cM[2]!,cM[3]!]]:=by decide+kernel
 rw[key];have hv:cM=[cM[0]!,cM[1]!,cM[2]!,cM[3]!]:=rfl;rw[hv]at h;generalize cM[0]! =a at*
 generalize cM[1]! =b at*
 generalize cM[2]! =c at*
 generalize cM[3]! =d at*
 clear hv key;cases h with
 |cons _ h=>cases h with
  |cons _ h=>cases h with
   |cons _ h=>cases h with
    |cons _ h=>cases h;simp
    |cons_cons _ h=>cases h;simp
   |cons_cons _ h=>cases h with
    |cons _ h=>cases h;simp
    |cons_cons _ h=>cases h;simp
  |cons_cons _ h=>cases h with
   |cons _ h=>cases h with
    |cons _ h=>cases h;simp
    |cons_cons _ h=>cases h;simp
   |cons_cons _ h=>cases h with
    |cons _ h=>cases h;simp
    |cons_cons _ h=>cases h;simp
 |cons_cons _ h=>cases h with
  |cons _ h=>cases h with
   |cons _ h=>cases h with
    |cons _ h=>cases h;simp
    |cons_cons _ h=>cases h;simp
   |cons_cons _ h=>cases h with
    |cons _ h=>cases h;simp
    |cons_cons _ h=>cases h;simp
  |cons_cons _ h=>cases h with
   |cons _ h=>cases h with
    |cons _ h=>cases h;simp
    |cons_cons _ h=>cases h;simp
   |cons_cons _ h=>cases h with
    |cons _ h=>cases h;simp
    |cons_cons _ h=>cases h;simp
def xj (vs:List bo):∀r g acc k,k+r=vs.length->acc.Sublist (vs.take k)->((fG vs r g acc).1).Sublist vs
 |0,g,acc,k,hk,h=>by
  rw[fG];rw[show k=vs.length by omega,List.take_length]at h;exact h
 |r+1,g,acc,k,hk,h=>by
  rw[fG];refine xj vs r _ _ (k+1) ae ?_;have hx:vs.take k++[vs[k]!]=vs.take (k+1):=fP ae;rw[show vs.length-(r+1)=k by omega,<-hx];split
  .exact List.Sublist.append h (List.Sublist.refl _)
  .exact h.trans (List.sublist_append_left _ _)
def wb:∀vs∈j0,vs.Sublist cM:=by decide+kernel
def KF {m:Int}(h:0<=m/\m<16):bD m 4∈j0:=by
 obtain⟨k,rfl⟩:∃k:Nat,m=(k:Int):=⟨m.toNat,ae⟩
 exact JF k ae
def KM {vs:List bo}{g:Gs}(h:vs∈j0):(fG vs vs.length g []).1∈j0:=JE ((xj vs vs.length g [] 0 ae bA).trans (wb _ h))
def ym (a b:RU):Bool:=Op.bytesLess a.name b.name ||(decide (a.name=b.name)&&Op.bytesLess a.feat b.feat)
def RU.ok (u:RU):Prop:=u.name≠[]/\∃vs,vs∈j0/\u.cs=vs.map aX
structure UI (i:Nat)(us:List RU):Prop where
 head:us[0]! =⟨[],[],[wE]⟩
 len:if i=0 then us.length=1 else 2<=us.length
 body:∀j,1<=j->j<us.length->us[j]!.ok
 first:∀j,1<=j->j<us.length->us[j]!.feat≠[]->2<=j
 chain:∀j,2<=j->j<us.length->ym us[j-1]! us[j]! =true
 last:i≠0->us[us.length-1]!.name=bS[i-1]!
def ui0:UI 0 tq:=⟨rfl,rfl,fun j h1 h2=>by simp[tq]at h2;omega,fun j h1 h2=>by simp[tq]at h2;omega,fun j h1 h2=>by simp[tq]at h2;omega,fun h=>absurd rfl h⟩
def JK {i k:Nat}{us:List RU}{x:RU}(h:UI i us)(hk:k≠0)(hx:x.ok)(hf:x.feat≠[]->2<=us.length)(ha:2<=us.length->ym us[us.length-1]! x=true)(hn:x.name=bS[k-1]!):UI k (us++[x]):=by
 have hl1:1<=us.length:=by
  have:=h.len;split at this<;>omega
 have hlen:(us++[x]).length=us.length+1:=bA;refine⟨by rw[jT ae];exact h.head,by rw[ai hk,hlen];omega,fun j h1 h2=>?_,fun j h1 h2 hf2=>?_,fun j h1 h2=>?_,fun _=>?_⟩
 .rw[hlen]at h2;rcases cV j us.length with h3|h3
  .rw[jT h3];exact h.body j h1 h3
  .rw[jU ae];exact hx
 .rw[hlen]at h2;rcases cV j us.length with h3|h3
  .rw[jT h3]at hf2;exact h.first j h1 h3 hf2
  .rw[jU ae]at hf2;have:=hf hf2;omega
 .rw[hlen]at h2;rcases cV j us.length with h3|h3
  .rw[jT h3,jT ae];exact h.chain j h1 h3
  .obtain rfl:j=us.length:=ae;rw[jT ae,jU rfl];exact ha h1
 .rw[hlen,Nat.add_sub_cancel,jU rfl];exact hn
def vv:∀i,i<5->bS[i]! ≠[]/\(i≠0->Op.bytesLess bS[i-1]! bS[i]! =true):=by decide+kernel
def JL {i:Nat}{us:List RU}{vs:List bo}(h:UI i us)(hi:i<5)(hv:vs∈j0):UI (i+1) (us++[⟨bS[i]!,[],vs.map aX⟩]):=by
 refine JK h ae ⟨(vv i hi).1,vs,hv,rfl⟩ (fun hf=>absurd rfl hf) (fun h2=>?_) rfl;have h0:i≠0:=by
  rintro rfl;have:=h.len;simp at this;omega
 unfold ym;rw[h.last h0];dsimp only;rw[(vv i hi).2 h0];rfl
def LZ {i:Nat}{us:List RU}{vs vs2:List bo}(h:UI i us)(hi:i<5)(hv:vs∈j0)(hv2:vs2∈j0):UI (i+1) ((us++[⟨bS[i]!,[],vs.map aX⟩])++[⟨bS[i]!,[102],vs2.map aX⟩]):=by
 have h1:=JL h hi hv;have hl:2<=(us++[(⟨bS[i]!,[],vs.map aX⟩:RU)]).length:=by have:=h1.len;rw[ai ae]at this;exact this
 refine JK h1 ae ⟨(vv i hi).1,vs2,hv2,rfl⟩ (fun _=>hl) (fun _=>?_) rfl;have hl2:(us++[(⟨bS[i]!,[],vs.map aX⟩:RU)]).length=us.length+1:=bA;rw[hl2,Nat.add_sub_cancel,jU rfl];unfold ym;dsimp only;rw[cr rfl];have:Op.bytesLess [] [102]=true:=cg;rw[this];simp
def sn (few:Int):∀(r:Nat) (g:Gs) (us:List RU),r<=5->UI (5-r) us->∃i,UI i (ff few r g us).1
 |0,g,us,_,h=>⟨5,by rw[ff];exact h⟩
 |r+1,g,us,hr,h=>by
  have hb:bD (g.bQ.val 16) 4∈j0:=KF ((Gs.x8 g.bQ 16).1 cg);rw[show 5-(r+1)=4-r by omega]at h;rw[ff];split
  .split
   .exact sn few r _ _ ae (by rw[show 5-r=4-r+1 by omega];exact LZ h ae hb (KM hb))
   .exact sn few r _ _ ae (by rw[show 5-r=4-r+1 by omega];exact JL h ae hb)
  .exact⟨_,h⟩
def GC (g:Gs)(few:Int):∃i,UI i (ep g few).1:=sn few 5 g tq ae ui0
def BH (vs:Nat->List bo):Prop:=∀t,1<=t->vs t∈j0
def LG {g:Gs}{vs:List bo}(h:vs∈j0):nb (tp g vs)=true:=by
 have hv:=(Gs.x8 g 8).1 cg;obtain⟨m,hm⟩:∃m:Nat,g.val 8=(m:Int):=⟨(g.val 8).toNat,ae⟩
 have hs:=LK vs h m ae;unfold tp;rw[hm];split
 .exact NA
 .split
  .exact hs.2
  .exact hs.1
def Bg {g:Gs}{n:Nat}{vs:Nat->List bo}(hn:2<=n)(hv:BH vs):kl (n:Int) (cD g n vs)=true:=by
 have h:=(Gs.x8 g ((n:Int) -1)).1 ae;unfold kl cD;dsimp only;rw[cr (show 0<1+g.val ((n:Int) -1)by omega),cr (show 1+g.val ((n:Int) -1)<(n:Int)by omega),LG (hv _ ae)];rfl
def Bh {n:Int}{l:List Want}(h:∀w∈l,kl n w=true):nk n l=true:=by
 unfold nk;rw[de];intro j _ hj;exact h _ (ak hj)
def zA (n:Nat)(l:List kL):Prop:=∀r∈l,kj (n:Int) r=true
def CO {n:Int}{l:List Want}(h:∀w∈l,kl n w=true)(h0:0<l.length)(h2:l.length<=2):kj n l=true:=by
 unfold kj;rw[Bh h,cr h0,cr (show l.length<=24 by omega)];rfl
def vw {n:Nat}{vs:Nat->List bo}(hn:2<=n)(hv:BH vs):∀k g acc,zA n acc->zA n (iY n vs k g acc).1/\(iY n vs k g acc).1.length=acc.length+k
 |0,g,acc,h=>⟨h,rfl⟩
 |k+1,g,acc,h=>by
  rw[iY];have hw:=fun g=>Bg (g:=g) hn hv
  split
  .have:=vw hn hv k g.ez.bQ.ez (acc++[[cD g n vs,cD g.ez.bQ n vs]]) (by
    intro r hr;rcases List.mem_append.1 hr with hr|hr
    .exact h r hr
    .obtain rfl:=bG.1 hr;refine CO (fun w hw2=>?_) bA bA;simp only[dF,ec,or_false]at hw2;rcases hw2 with rfl|rfl<;>exact hw _)
   exact⟨this.1,by rw[this.2,cI,List.length_singleton];omega⟩
  .have:=vw hn hv k g.ez.bQ (acc++[[cD g n vs]]) (by
    intro r hr;rcases List.mem_append.1 hr with hr|hr
    .exact h r hr
    .obtain rfl:=bG.1 hr;exact CO (fun w hw2=>by obtain rfl:=bG.1 hw2;exact hw _) bA bA)
   exact⟨this.1,by rw[this.2,cI,List.length_singleton];omega⟩
def xz {g:Gs}{n:Nat}{vs:Nat->List bo}{most:Int}(hn:2<=n)(hv:BH vs)(hm:0<=most/\most<=3):zA n (az g n vs most).1/\(az g n vs most).1.length<=3:=by
 have h:=(Gs.x8 g (most+1)).1 ae;have:=vw hn hv (g.val (most+1)).toNat g.bQ [] (fun r hr=>by cases hr);unfold az;exact⟨this.1,by rw[this.2];simp only[bw];omega⟩
def tI {n:Nat}{c:dy}(h1:zA n c.needs)(h2:c.needs.length<=4)(h3:∀w∈c.bars,kl (n:Int) w=true)(h4:c.bars.length<=1):jM (n:Int) c=true:=by
 unfold jM;rw[cr (show c.needs.length<=24 by omega),cr (show c.bars.length<=24 by omega),Bh h3,show cO (fun i=>kj (n:Int) c.needs[i]!) 0 c.needs.length=true by rw[de];intro j _ hj;exact h1 _ (ak hj)];rfl
def rk (n:Nat)(c:CW):Prop:=jM (n:Int) c.p=true
def Ja {n:Nat}(v:bo):rk n (aX v):=tI (fun r hr=>by cases hr) (by simp[aX,CW.p,NF.p]) (fun w hw=>by cases hw) (by simp[aX,CW.p,BF.p])
def HC {h:Gs}{n i:Nat}{vs:Nat->List bo}{f:dG}{v:bo}(hn:2<=n)(hv:BH vs)(hi:f≠[]->2<=i)(hin:i<n)(hvv:v∈cM):rk n (gL h n vs i f v).1:=by
 have hg:=xz (g:=h) hn hv (most:=2) cg;have hr:zA n (nu h n vs i f v):=by
  intro r hr;unfold nu at hr;rcases List.mem_append.1 hr with hr|hr
  .split at hr
   .cases hr
   .rename_i hf;obtain rfl:=bG.1 hr;have:=hi hf;refine CO (fun w hw=>?_) bA bA;obtain rfl:=bG.1 hw;unfold kl;dsimp only;rw[cr (show 0<(i:Int) -1 by omega),cr (show(i:Int) -1<(n:Int)by omega),(zP v hvv).1];rfl
  .exact hg.1 r hr
 have hl:(nu h n vs i f v).length<=4:=by
  unfold nu;rw[cI];have:=hg.2;split<;>simp only[bw,List.length_singleton]<;>omega
 unfold gL;split
 .exact tI hr hl (fun w hw=>by obtain rfl:=bG.1 hw;exact Bg hn hv) (by simp[CW.p,BF.p])
 .exact tI hr hl (fun w hw=>by cases hw) (by simp[CW.p,BF.p])
def xn {n i:Nat}{vs:Nat->List bo}{f:dG}(hn:2<=n)(hv:BH vs)(hi:f≠[]->2<=i)(hin:i<n):∀(l:List bo) (h:Gs),(∀v∈l,v∈cM)->∀c∈(dW n vs i f l h).1,rk n c
 |[],h,_,c,hc=>by cases hc
 |v::r,h,hl,c,hc=>by
  simp only[dW]at hc;rcases dF.1 hc with rfl|hc
  .exact HC hn hv hi hin (hl _ (.head _))
  .exact xn hn hv hi hin r _ (fun x hx=>hl x (.tail _ hx)) c hc
def A7 {vs:List bo}(h:vs∈j0):∀v∈vs,v∈cM:=fun v hv=>(wb vs h).subset hv
def xE {n:Nat}{vs:Nat->List bo}{ft:Nat->dG}(hn:2<=n)(hv:BH vs)(hft:∀i,1<=i->i<n->ft i≠[]->2<=i):∀r i h cs,i+r=n->1<=i->(∀t,(cs t).map CW.v=vs t/\∀c∈cs t,rk n c)->∀t,(iZ n vs ft r i h cs t).map CW.v=vs t/\∀c∈iZ n vs ft r i h cs t,rk n c
 |0,i,h,cs,hr,hi,hc=>hc
 |r+1,i,h,cs,hr,hi,hc=>by
  rw[iZ];refine xE hn hv hft r _ _ _ ae ae fun t=>?_
  unfold cn;split
  .rename_i e;subst e;exact⟨(uR n vs t (ft t) (vs t) h).1,xn hn hv (hft t hi ae) ae _ _ (A7 (hv t hi))⟩
  .exact hc t
def yb (ks:List Int)(few:Int):tv (cw ks few)=true/\PW (cw ks few):=by
 obtain⟨us,g1,h⟩:∃us g1,ep ⟨ks,0⟩ few=(us,g1):=⟨_,_,rfl⟩
 obtain⟨h8,h0,hraw,_,hp,_⟩:=oK h;obtain⟨iu,hu⟩:=GC ⟨ks,0⟩ few;rw[h]at hu;dsimp only at hu;have hv:BH fun t=>us[t]!.cs.map CW.v:=by
  intro t ht;rcases cV t us.length with h1|h1
  .obtain⟨_,vs,hvs,e⟩:=hu.body t ht h1;dsimp only;rw[e,List.map_map,show(CW.v∘aX)=id from rfl,List.map_id];exact hvs
  .dsimp only;rw[qI h1];exact JE (List.nil_sublist _)
 have hf:=xE (n:=us.length) (vs:=fun t=>us[t]!.cs.map CW.v) (ft:=fun t=>us[t]!.feat) h8.1 hv hu.first (us.length-1) 1 (az g1 us.length (fun t=>us[t]!.cs.map CW.v) 3).2 (cn (fun t=>us[t]!.cs) 0 [⟨zV,-1,.sl (az g1 us.length (fun t=>us[t]!.cs.map CW.v) 3).1,.nil⟩]) ae ae (by
  intro t;unfold cn;split
  .rename_i e;subst e;refine⟨by rw[h0];rfl,fun c hc=>?_⟩;obtain rfl:=bG.1 hc;have hg:=xz (g:=g1) h8.1 hv (most:=3) cg;exact tI hg.1 (by have:=hg.2;simp only[CW.p,NF.p];omega) (fun w hw=>by cases hw) (by simp[CW.p,BF.p])
  .rename_i e;refine⟨rfl,fun c hc=>?_⟩;replace hc:c∈us[t]!.cs:=hc;rw[hraw t ae]at hc;obtain⟨v,_,rfl⟩:=gr.1 hc;exact Ja v)
 have hus:(cw ks few).us=(List.range us.length).map fun t=>(⟨us[t]!.name,us[t]!.feat,(mR us g1 t).map CW.p⟩:bN):=by
  unfold cw;rw[h]
 have hlen:(cw ks few).us.length=us.length:=by rw[hus];simp
 have hget:∀t,t<us.length->(cw ks few).us[t]! =⟨us[t]!.name,us[t]!.feat,(mR us g1 t).map CW.p⟩:=by
  intro t ht;rw[hus];simp[List.getElem!_eq_getElem?_getD,ht]
 have hfin:∀t,(mR us g1 t).map CW.v=us[t]!.cs.map CW.v/\∀c∈mR us g1 t,rk us.length c:=fun t=>hf t
 have hvm:∀t,((mR us g1 t).map CW.p).map dy.v=us[t]!.cs.map CW.v:=fun t=>by rw[List.map_map,<-(hfin t).1];rfl
 have hcl:∀t,((mR us g1 t).map CW.p).length=us[t]!.cs.length:=fun t=>by
  have:=bV List.length (hvm t);simpa using this
 have hsm:=sv ks few;have hc0:us[0]!.cs.length=1:=by rw[h0];rfl
 refine⟨?_,fun x hx=>(hsm.1 x hx).1,by have:=hsm.2;omega,ae,by rw[hget 0 ae];dsimp only;rw[hcl,hc0];exact aB _⟩;unfold tv sJ;rw[hlen,cr (show 1<=us.length by omega),cr (show us.length<=48 by omega),hget 0 ae,hu.head];dsimp only;rw[hcl,hc0];simp only[decide_true,jh];rw[de];intro t _ ht;unfold lC;rw[hget t ht,hlen];dsimp only;have h16:((mR us g1 t).map CW.p).length<=16:=by
  have:=(hsm.1 _ (ak (show t<(cw ks few).us.length by omega))).1;rw[hget t ht]at this;exact this
 rw[cr h16];have hcand:cO (nt (us.length:Int) ((mR us g1 t).map CW.p)) 0 ((mR us g1 t).map CW.p).length=true:=by
  rw[de];intro k _ hk;have hkv:∀j,j<((mR us g1 t).map CW.p).length->((mR us g1 t).map CW.p)[j]!.v=(us[t]!.cs.map CW.v)[j]! :=by
   intro j hj;rw[<-hvm t,vi hj]
  unfold nt;have hcl2:=hcl t;have hin:((mR us g1 t).map CW.p)[k]! ∈(mR us g1 t).map CW.p:=ak hk;obtain⟨c,hc,e⟩:=gr.1 hin;have hcb:jM (us.length:Int) ((mR us g1 t).map CW.p)[k]! =true:=by rw[<-e];exact(hfin t).2 c hc
  rw[hcb,eL];rcases Nat.eq_zero_or_pos t with rfl|ht0
  .have hk0:k=0:=ae;subst hk0;rw[hkv 0 hk,h0];rfl
  .have hvs:=hv t ht0;dsimp only at hvs;have hkl:k<(us[t]!.cs.map CW.v).length:=by rw[aE];omega
   rw[hkv k hk,(zP _ (A7 hvs _ (ak hkl))).2];by_cases hk0:0<k
   .have h4:(us[t]!.cs.map CW.v).length<=4:=(wb _ hvs).length_le;have:=Lu _ hvs k ae hk0 hkl;rw[hkv (k-1) ae,cG (show ¬0<=kM (us[t]!.cs.map CW.v)[k-1]! (us[t]!.cs.map CW.v)[k]! by omega)];simp
   .rw[cG hk0];rfl
 rw[hcand];rcases Nat.eq_zero_or_pos t with rfl|ht0
 .simp
 .have hnm:=(hu.body t ht0 ht).1;rw[cG hnm,Bool.and_false];by_cases h1:1<t
  .rw[hget (t-1) ae];have:=hu.chain t ae ht;rw[show nR ⟨us[t-1]!.name,us[t-1]!.feat,(mR us g1 (t-1)).map CW.p⟩ ⟨us[t]!.name,us[t]!.feat,(mR us g1 t).map CW.p⟩=true from this];simp
  .rw[cG h1];rfl
def Mh (w:bz):Prop:=(w.sm/\PW w)/\Few w.us
def CZ (ks:List Int)(few:Int):Mh (cw ks few):=by
 obtain⟨h1,h2⟩:=yb ks few;refine⟨⟨(sv ks few).1,h2⟩,fun x hx c hc=>?_⟩;obtain⟨t,ht,rfl⟩:=List.mem_iff_getElem.1 hx;obtain⟨k,hk,rfl⟩:=List.mem_iff_getElem.1 hc;unfold tv at h1;rw[bR,de]at h1;have h3:=h1.2 t ae ht;unfold lC at h3;rw[bR,de]at h3;rw[show(cw ks few).us[t]! =(cw ks few).us[t]by simp[ht]]at h3;have h4:=h3.2 k ae hk;unfold nt at h4;rw[show((cw ks few).us[t]).cands[k]! =((cw ks few).us[t]).cands[k]by simp[hk]]at h4;simp only[bR]at h4;have h5:=h4.1.2;unfold jM at h5;simp only[bR,cj]at h5;refine⟨ae,ae,fun r hr=>?_⟩;obtain⟨q,hq,rfl⟩:=List.mem_iff_getElem.1 hr;have h6:=h5.1.2;rw[de]at h6;have h7:=h6 q ae hq;unfold kj at h7;simp only[hq,getElem!_pos,bR,cj]at h7;omega
def Dr {us:List bN}{allow:List Int}{rows:List aj}(h48:us.length<=48)(h:ke us allow rows):∀x∈rows,x.terms.length<=48:=fun x hx=>ea (Bb (h x hx).1) h48
def wc {α:Type} [Inhabited α]{l:List α}{q:Nat}(h:q<l.length):(l.take (q+1)).drop q=[l[q]!]:=by
 rw[<-fP h,List.drop_append_of_le_length (by rw[eg];omega),nn (by rw[eg];omega)];rfl
def Hh (w:bz)(al c:List Int)(k:Nat)(now:Int)(R:List aj):Prop:=fU w al R/\(k=0/\now=-1\/0<k/\(0<=now/\now<R.length)/\zw w.us c k R[now.toNat]!.terms)/\R.length<=5100+2*k
def sT (w:bz)(al:List Int)(facts:List aj)(c:List Int)(rows:List aj):Prop:=((w.sm/\rm w.us/\w.us.length<=48)/\ke w.us al facts)/\(G8 w.us c/\fU w al rows)/\rows.length<=100000
def rY {w:bz}{al:List Int}{facts:List aj}{c:List Int}{rows:List aj}(h:sT w al facts c rows):(eN w.us facts c rows).2.length<=max (rows.length+1) 4921:=by
 have h1:=Ak (us:=w.us) (facts:=facts) h.1.1.2.1 (w.us.length-c.length) c rows (by have:=h.2.1.1.1;omega);have h2:=h.1.1.2.2;unfold eN;omega
def Aj {w:bz}{al:List Int}{facts:List aj}{c:List Int}{rows:List aj}(h:sT w al facts c rows):zr w al c rows (eN w.us facts c rows):=
 yO h.1.1.2.1 h.1.2 _ c rows (by have:=h.2.1.1.1;omega) h.2.1.1 h.2.1.2
def sT.app {w:bz}{al:List Int}{facts:List aj}{c:List Int}{rows R:List aj}{k:Nat}(h:sT w al facts c rows)(hl:c.length<w.us.length)(hk:k<w.us[c.length]!.cands.length+1){now:Int}(hI:Hh w al c k now R):sT w al facts (c++[((k:Nat):Int) -1]) R:=by
 have h16:=h.1.1.2.1 _ (ak hl);exact⟨h.1,⟨h.2.1.1.app hl ae ae,hI.1⟩,by have:=hI.2.2;omega⟩
def JC {w:bz}{al:List Int}{facts:List aj}{c:List Int}{rows R:List aj}{k:Nat}{now:Int}(h:sT w al facts c rows)(hl:c.length<w.us.length)(hk:k<w.us[c.length]!.cands.length+1)(hI:Hh w al c k now R){r:Int×List aj}(hr:eN w.us facts (c++[((k:Nat):Int) -1]) R=r):
  r.2.length<=5101+2*k/\(0<=r.1->r.1<r.2.length/\(now<r.2.length)/\(now<0->Hh w al c (k+1) r.1 r.2)/\(0<=now->Hh w al c (k+1) ((r.2.length:Nat):Int) (r.2++[iv w.us c.length now r.1 r.2]))):=by
 have hP:=h.app hl hk hI;have hE:=Aj hP;have hL:=rY hP;rw[hr]at hE hL;obtain⟨hs,h48⟩:=h.1.1.2;have h3:=hI.2.2;refine⟨ae,fun h0=>?_⟩;obtain⟨e1,⟨more,e2⟩,e3,e4⟩:=hE;obtain⟨e5,e6⟩:=e4 h0;have e7:=Jz e6;rw[show(((k:Nat):Int) -1+1).toNat=k by omega]at e7;have hlen:r.2.length=R.length+more.length:=by rw[e2,cI]
 refine⟨e5, ?_,fun hn=>?_,fun hn=>?_⟩
 .rcases hI.2.1 with h1|h1<;>omega
 .obtain⟨rfl,_⟩:k=0/\now=-1:=by
   rcases hI.2.1 with h|h
   .exact h
   .omega
  exact⟨e1,.inr ⟨ae,⟨h0,e5⟩,e7.1,e7.2.1,e7.2.2.1,fun j hj=>by obtain rfl:j=0:=ae;exact e7.2.2.2⟩,ae⟩
 .obtain⟨hk0,hnw,hnr⟩:0<k/\(0<=now/\now<R.length)/\zw w.us c k R[now.toNat]!.terms:=by
   rcases hI.2.1 with h|h
   .omega
   .exact h
  have hget:r.2[now.toNat]! =R[now.toNat]! :=by rw[e2];exact tC ae
  obtain⟨j1,j2⟩:=xq (x:=r.1) (now:=now) hs hl h.2.1.1 e1 ⟨hnw.1,ae⟩ ⟨h0,e5⟩ hk0 (by rw[hget];exact hnr) e7;refine⟨j1,.inr ⟨ae,⟨ae,by simp only[cI,List.length_singleton];omega⟩,by rw[Int.toNat_natCast,lY];exact j2⟩, ?_⟩;simp only[cI,List.length_singleton];omega
def Ce {us:List bN}{facts:List aj}{c:List Int}{rows:List aj}(h:eJ us facts c<facts.length):eN us facts c rows=(((rows.length:Nat):Int),rows++[facts[eJ us facts c]!]):=by
 unfold eN;cases us.length-c.length<;>rw[kg,ay h]
def Cg {us:List bN}{facts:List aj}{c:List Int}{rows:List aj}(h:¬eJ us facts c<facts.length)(hs:c.length=us.length\/3000<rows.length):eN us facts c rows=(-1,rows):=by
 unfold eN;rcases hs with hs|hs
 .rw[show us.length-c.length=0 by omega,kg,ai h]
 .cases us.length-c.length<;>rw[kg,ai h];rw[ay hs]
def q6 (us:List bN)(facts:List aj)(c:List Int)(k:Nat)(now:Int)(R:List aj):Int×List aj:=nv us c.length (kg us facts (us.length-(c.length+1))) c (us[c.length]!.cands.length+1-k) (((k:Nat):Int) -1) now R
def Cf {us:List bN}{facts:List aj}{c:List Int}{rows:List aj}(h:¬eJ us facts c<facts.length)(hl:c.length<us.length)(hr:¬3000<rows.length):eN us facts c rows=q6 us facts c 0 (-1) rows:=by
 unfold eN q6;rw[show us.length-c.length=us.length-(c.length+1)+1 by omega,kg,ai h,ai hr];rfl
def GB {us:List bN}{facts:List aj}{c:List Int}{k:Nat}{now:Int}{R:List aj}(h:us[c.length]!.cands.length+1<=k):q6 us facts c k now R=(now,R):=by
 unfold q6;rw[show us[c.length]!.cands.length+1-k=0 by omega,nv]
def JB {us:List bN}{facts:List aj}{c:List Int}{k:Nat}{now:Int}{R:List aj}(h:k<us[c.length]!.cands.length+1){r:Int×List aj}(hr:eN us facts (c++[((k:Nat):Int) -1]) R=r):q6 us facts c k now R=
  if r.1<0 then(-1,r.2)else if aI us r.2[r.1.toNat]!.terms ((c.length:Nat):Int)=bW us ((c.length:Nat):Int)then r else if now<0 then q6 us facts c (k+1) r.1 r.2
  else if aI us (iv us c.length now r.1 r.2).terms ((c.length:Nat):Int)=bW us ((c.length:Nat):Int)then(((r.2.length:Nat):Int),r.2++[iv us c.length now r.1 r.2])else q6 us facts c (k+1) ((r.2.length:Nat):Int) (r.2++[iv us c.length now r.1 r.2]):=by
 have e:kg us facts (us.length-(c.length+1)) (c++[((k:Nat):Int) -1]) R=r:=by
  rw[<-hr];unfold eN;rw[cI,List.length_singleton]
 unfold q6;rw[show us[c.length]!.cands.length+1-k=us[c.length]!.cands.length+1-(k+1)+1 by omega,nv,e,show((k:Nat):Int) -1+1=((k+1:Nat):Int) -1 by omega]
def NU {m:List (Nat×bT)}(x:aj):J5 m [.a,.a,.a,.a,.sl 2 [.a,.a]] (aj.D x):=⟨rfl,rfl,rfl,rfl,rfl,rfl⟩
def Od {m:List (Nat×bT)}{lp ln:Nat}{w:bz}{facts rows:List aj}{c:List Int}{su:List Sh}(h1:look m lp=some (.buf 3 [j4.D ⟨w,facts,.own ln 5 0 rows.length⟩]))(h2:look m ln=some (.buf 5 (rows.map aj.D))):
  jd m [[.pt [.sl 3 su,.sl 5 [.a,.a,.a,.a,.sl 2 [.a,.a]],.sl 5 [.a,.a,.a,.a,.sl 2 [.a,.a]]]],[.sl 1 [.a]]] [.ptr lp 3 0 0,.sl 1 (c.map (D.int .i64))]:=by
 refine⟨⟨by simp[eB,h1], ?_⟩,rfl,trivial⟩;intro e he;simp only[a7,h1,bG]at he;subst he;refine⟨rfl,rfl,⟨by simp[eB,h2], ?_⟩,rfl⟩;simp only[a7,h2,aU,au];intro e he;obtain⟨x,_,rfl⟩:=gr.1 he;exact NU x
def Ro {a b:Int}(h0:0<=a)(h1:a<=131071):0<=eI a b/\eI a b<=131071:=by
 obtain⟨n,rfl⟩:∃n:Nat,a=(n:Int):=⟨a.toNat,ae⟩
 have h:(BitVec.ofInt 64 (n:Int)&&&BitVec.ofInt 64 b).toNat<=n:=by
  rw[BitVec.toNat_and];refine ea Nat.and_le_left ?_;rw[BitVec.toNat_ofInt];omega
 unfold eI;rw[wrap_i64 ae ae];omega
def BE (w:bz)(al:List Int):fU w al []:=fun i hi=>by cases hi
def Kk (us:List bN):G8 us []:=⟨Nat.zero_le _,fun u hu=>by cases hu⟩
def DH {w:bz}{al:List Int}(h:Mh w):sT w al (j6 w.us al) [] []:=by
 obtain⟨⟨h1,h2,h3,h4,h5⟩,_⟩:=h;exact⟨⟨⟨h1,h2,h3⟩,zR h2 h3 h4 h5⟩,⟨Kk _,BE _ _⟩,Nat.zero_le _⟩
def DI:∀o:Option (List aj),sU (pD o) (.sl 5 ((o.getD []).map aj.D))
 |none=>.nil 5
 |some l=>.refl _
def Gb {w:bz}{al:List Int}{l:List aj}(hw:Mh w)(h:jc w.us al=some l):l.length<=5000/\∀r∈l,r.terms.length<=48:=by
 have h1:=Av hw.1.2 h;refine⟨?_,fun r hr=>?_⟩
 .have h2:=rY (DH (al:=al) hw);unfold jc at h;split at h
  .cases h
  .obtain rfl:=bl h;rw[eg];unfold kR;simp only[bw]at h2;omega
 .obtain⟨i,hi,rfl⟩:=List.mem_iff_getElem.1 hr;have:=Bb (m9 h1.1 hi);simp only[hi,getElem!_pos]at this;exact ea this hw.1.2.2.1
def ME (r:aj):aj:=⟨r.kind,r.unit,r.b,r.a,r.terms⟩
def Hi (L R:List aj):Prop:=R.length=L.length/\∀k,k<L.length->R[k]! =L[k]! \/(L[k]!.kind=5/\R[k]! =ME L[k]!)
def A3 {xs:List aj}{i u:Nat}{v:aj}(hu:u<xs.length):(xs.set i v)[u]! =if i=u then v else xs[u]! :=by
 simp only[List.getElem!_eq_getElem?_getD,List.getElem?_set];split
 .rename_i h;subst h;rw[ay hu];rfl
 .rfl
def Hi.step {L R:List aj}{i:Nat}(h:Hi L R)(hi:i<L.length)(hk:R[i]!.kind=5):Hi L (R.set i (ME R[i]!)):=by
 refine⟨by rw[List.length_set];exact h.1,fun k hk2=>?_⟩;rw[A3 (by rw[h.1];exact hk2)];split
 .rename_i e;subst e;rcases h.2 i hi with h1|⟨h1,h2⟩
  .exact .inr ⟨by rw[<-h1];exact hk,by rw[h1]⟩
  .exact .inl (by rw[h2];rfl)
 .exact h.2 k hk2
def Ix (ks:List Int)(few:Int)(Z6:List Int):okW (cw ks few) (fV (cw ks few).us Z6)=true:=by
 unfold okW;rw[(yb ks few).1];unfold fV;split
 .rfl
 .rw[pI];simp
def LA {w:bz}{al:List Int}{l:List aj}(h:fU w al l):RowsIn l:=by
 intro r hr t ht;obtain⟨i,hi,rfl⟩:=List.mem_iff_getElem.1 hr;have hv:=m9 h hi;simp only[hi,getElem!_pos]at hv;exact ze ((fj.1 hv).1 t ht)
def Aw {w:bz}{al:List Int}(hw:Mh w):((jc w.us al).getD []).length<=100000/\∀r∈(jc w.us al).getD [],r.terms.length<=1000:=by
 cases e:jc w.us al with
 |none=>exact⟨Nat.zero_le _,fun r hr=>by cases hr⟩
 |some l=>
  have h:=Gb hw e;exact⟨ea h.1 cg,fun r hr=>ea (h.2 r hr) cg⟩
end
def iPrv (a b:j4):j4.D a=j4.D b↔a=b:=by
 obtain⟨⟨x⟩,y,z⟩:=a;obtain⟨⟨x'⟩,y',z'⟩:=b;simp[j4.D,Dx,BU]
def Rr {A:RT->Prop}(h:A (fun ds d=>A fun ds' d'=>ds'=ds->d=d'):=by
 (repeat' first|apply And.intro|intro _)
 all_goals rename_i e
 all_goals (try simp only[sy,D.str.injEq,D.int.injEq,D.bool.injEq,D.sl.injEq,D.ref.injEq,D.agg.injEq,D.fn.injEq,Ry,NR,iByt,iVer,Rw,Rx,Mo,BV,iSet,Mp,BW,Mq,H7,Rv,Mm,RA,Dx,iWld,Rz,H6,Mn,BU,NQ,iKey,iTag,iGs,iPrv,iU8,C0,NS,bc,ba,reduceCtorEq,br,bp]at e)
 all_goals first|rfl|(simp only[e];done)|simp_all):OQ (uZ A):=HI h
end Go.Abs
