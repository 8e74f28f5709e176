/- A part of the proofs. -/
import Derived.KernelRfl
import Derived.Test.YtaeimnechonnmaaGreatDoorProg
import Derived.Test.YtaeimnechonnmaaGreatDoorP05
set_option linter.all false
set_option maxRecDepth 4000
namespace Go.Abs
variable {Y:Ctx}(hm:(Y.at 0).cb)
def RU.raw (u:RU):Prop:=∃vs:List aU,u.cs=vs.map aL/\vs.length<=4/\∀v∈vs,v.sm
def vx (m:Int)(a b:cV):(⟨a,b,(bc m 4).map aL⟩:RU).raw:=⟨_,rfl,iY m 4,nH m 4 (aW _)⟩
def sW (vs:List aU):∀r g acc,(∀v∈acc,v∈vs)->r<=vs.length->∀v∈(eU vs r g acc).1,v∈vs
 |0,g,acc,h,_=>h
 |r+1,g,acc,h,hr=>by
  rw[eU];refine sW vs r _ _ ?_ ae;intro v hv;split at hv
  .rcases List.mem_append.1 hv with hv|hv
   .exact h v hv
   .obtain rfl:=bK.1 hv;exact ak ae
  .exact h v hv
def CG (m:Int)(g:Gs)(a b:cV):(⟨a,b,(eU (bc m 4) (bc m 4).length g []).1.map aL⟩:RU).raw:=by
 refine⟨_,rfl, ?_,fun v hv=>nH m 4 (aW _) v (sW _ _ _ _ (fun _ h=>by cases h) (aW _) v hv)⟩;have:=sV (bc m 4) (bc m 4).length g [];have:=iY m 4;simp only[cu]at*;omega
def y3 (vs:List aU):∀r g acc,(eU vs r g acc).2.i=g.i+r
 |0,g,acc=>by simp[eU]
 |r+1,g,acc=>by rw[eU,y3 vs r];simp only[Gs.bl];omega
def j7 (few:Int):∀(r:Nat) (g:Gs) (us:List RU),r<=5->∃more,(eJ few r g us).1=us++more/\(∀u∈more,u.raw)/\more.length<=r+(r-3)/\g.i<=(eJ few r g us).2.i/\(eJ few r g us).2.i<=g.i+10*r+1
 |0,g,us,_=>⟨[],by simp[eJ],a8,a8,by simp only[eJ,Gs.bl];omega,by simp only[eJ,Gs.bl];omega⟩
 |r+1,g,us,hr=>by
  rw[eJ];split
  .split
   .rename_i h1 h2;have hf:=y3 (bc (g.bl.val 16) 4) (bc (g.bl.val 16) 4).length g.dP [];have hb:=iY (g.bl.val 16) 4;obtain⟨more,e,hm,hl,hi1,hi2⟩:=j7 few r (eU (bc (g.bl.val 16) 4) (bc (g.bl.val 16) 4).length g.dP []).2 ((us++[⟨bH[4-r]!,[],(bc (g.bl.val 16) 4).map aL⟩])++[⟨bH[4-r]!,[102],(eU (bc (g.bl.val 16) 4) (bc (g.bl.val 16) 4).length g.dP []).1.map aL⟩]) ae;refine⟨_::_::more,by rw[e];simp only[sg,List.singleton_append];rfl, ?_, ?_, ?_, ?_⟩
    .intro u hu;rcases dK.1 hu with rfl|hu
     .exact vx _ _ _
     .rcases dK.1 hu with rfl|hu
      .exact CG _ _ _ _
      .exact hm u hu
    .simp only[bX];omega
    .rw[hf]at hi1;simp only[Gs.dP,Gs.bl]at*;omega
    .rw[hf]at hi2;simp only[Gs.dP,Gs.bl]at*;omega
   .have hg:g.i+2<=(if 4-r<2 then g.dP else g.bl.bl).i/\(if 4-r<2 then g.dP else g.bl.bl).i<=g.i+3:=by
     split<;>simp only[Gs.dP,Gs.bl]<;>omega
    obtain⟨more,e,hm,hl,hi1,hi2⟩:=j7 few r (if 4-r<2 then g.dP else g.bl.bl) (us++[⟨bH[4-r]!,[],(bc (g.bl.val 16) 4).map aL⟩]) ae;refine⟨_::more,by rw[e];simp only[sg,List.singleton_append];rfl, ?_, ?_, ?_, ?_⟩
    .intro u hu;rcases dK.1 hu with rfl|hu
     .exact vx _ _ _
     .exact hm u hu
    .simp only[bX];omega
    .omega
    .omega
  .refine⟨[],a8,a8,a8, ?_, ?_⟩<;>simp only[Gs.bl]<;>omega
def yD {g:Gs}{few:Int}:2<=(dS g few).1.length:=by
 have hv:=g.GL few;have h:(0:Int)<1+g.val few:=ae;unfold dS;rw[show 5=4+1 from rfl,eJ,aw (by simpa using h)];split
 .obtain⟨more,e,_⟩:=j7 few 4 (eU (bc (g.bl.val 16) 4) (bc (g.bl.val 16) 4).length g.dP []).2 ((tI++[⟨bH[4-4]!,[],(bc (g.bl.val 16) 4).map aL⟩])++[⟨bH[4-4]!,[102],(eU (bc (g.bl.val 16) 4) (bc (g.bl.val 16) 4).length g.dP []).1.map aL⟩]) ae;rw[e];simp[tI]
 .obtain⟨more,e,_⟩:=j7 few 4 (if 4-4<2 then g.dP else g.bl.bl) (tI++[⟨bH[4-4]!,[],(bc (g.bl.val 16) 4).map aL⟩]) ae;rw[e];simp[tI]
def tG {g:Gs}{few:Int}:∃more,(dS g few).1=tI++more/\(∀u∈more,u.raw)/\(1<=more.length/\more.length<=7)/\g.i<=(dS g few).2.i/\(dS g few).2.i<=g.i+51:=by
 obtain⟨more,e,hm,hl,h1,h2⟩:=j7 few 5 g tI ae;have h3:=yD (g:=g) (few:=few);unfold dS at*
 rw[e]at h3⊢;refine⟨more,rfl,hm,⟨?_,ae⟩,h1,ae⟩;simp only[tI,dF,List.length_singleton]at h3;omega
def pI (h:Gs)(n:Nat)(vs:Nat->List aU)(i:Nat)(f:cV)(v:aU):List jS:=(if f=[]then []else [[⟨(i:Int) -1,bo v⟩]])++(ar h n vs 2).1
def fN (h:Gs)(n:Nat)(vs:Nat->List aU)(i:Nat)(f:cV)(v:aU):CW×Gs:=
 if(ar h n vs 2).2.val 4=0 then(⟨v,0,.sl (pI h n vs i f v),.sl [cd (ar h n vs 2).2.bl n vs]⟩,(ar h n vs 2).2.bl.dP)
 else(⟨v,0,.sl (pI h n vs i f v),.nil⟩,(ar h n vs 2).2.bl)
def dt (n:Nat)(vs:Nat->List aU)(i:Nat)(f:cV):List aU->Gs->List CW×Gs
 |[],h=>([],h)
 |v::r,h=>((fN h n vs i f v).1::(dt n vs i f r (fN h n vs i f v).2).1,(dt n vs i f r (fN h n vs i f v).2).2)
def bI (cs:Nat->List CW)(i:Nat)(x:List CW)(t:Nat):List CW:=if t=i then x else cs t
def jl (n:Nat)(vs:Nat->List aU)(ft:Nat->cV):Nat->Nat->Gs->(Nat->List CW)->Nat->List CW
 |0,_,_,cs=>cs
 |r+1,i,h,cs=>jl n vs ft r (i+1) (dt n vs i (ft i) (vs i) h).2 (bI cs i (dt n vs i (ft i) (vs i) h).1)
def uB (n:Nat)(vs:Nat->List aU):∀k g acc,g.i<=(iM n vs k g acc).2.i/\(iM n vs k g acc).2.i<=g.i+7*k
 |0,g,acc=>by simp[iM]
 |k+1,g,acc=>by
  rw[iM];split
  .have:=uB n vs k g.dP.bl.dP (acc++[[cd g n vs,cd g.dP.bl n vs]]);simp only[Gs.dP,Gs.bl]at*;omega
  .have:=uB n vs k g.dP.bl (acc++[[cd g n vs]]);simp only[Gs.dP,Gs.bl]at*;omega
def rA {g:Gs}{n:Nat}{vs:Nat->List aU}{most:Int}(h0:0<=most)(h3:most<=3):g.i<=(ar g n vs most).2.i/\(ar g n vs most).2.i<=g.i+22:=by
 have hv:=gL (vc g.l g.i) (most+1) ae;have hv2:g.val (most+1)=eQ (vc g.l g.i) (most+1):=rfl;have:=uB n vs (g.val (most+1)).toNat g.bl [];unfold ar;simp only[Gs.bl]at*;omega
def yV {h:Gs}{n i:Nat}{vs:Nat->List aU}{f:cV}{v:aU}:h.i<=(fN h n vs i f v).2.i/\(fN h n vs i f v).2.i<=h.i+30:=by
 have:=rA (g:=h) (n:=n) (vs:=vs) (most:=2) bV bV;unfold fN;split<;>simp only[Gs.dP,Gs.bl]<;>omega
def yW (h:Gs)(n i:Nat)(vs:Nat->List aU)(f:cV)(v:aU):(fN h n vs i f v).1.v=v/\(fN h n vs i f v).1.pl=true:=by
 unfold fN;split<;>exact⟨rfl,rfl⟩
def vN (n:Nat)(vs:Nat->List aU)(i:Nat)(f:cV):∀(l:List aU) (h:Gs),(dt n vs i f l h).1.map CW.v=l/\(∀c∈(dt n vs i f l h).1,c.pl=true)/\h.i<=(dt n vs i f l h).2.i/\(dt n vs i f l h).2.i<=h.i+30*l.length
 |[],h=>⟨rfl,(fun _ hc=>by cases hc),by simp[dt],by simp[dt]⟩
 |v::r,h=>by
  have ih:=vN n vs i f r (fN h n vs i f v).2;have h1:=yW h n i vs f v;have h2:=yV (h:=h) (n:=n) (i:=i) (vs:=vs) (f:=f) (v:=v);refine⟨by simp only[dt,List.map_cons,h1.1,ih.1], ?_,by simp only[dt];omega,by simp only[dt,bX];omega⟩;intro c hc;simp only[dt]at hc;rcases dK.1 hc with rfl|hc
  .exact h1.2
  .exact ih.2.1 c hc
def jr {cs:Nat->List CW}{i:Nat}{x:List CW}:bI cs i x i=x:=aw rfl
def uV {cs:Nat->List CW}{i t:Nat}{x:List CW}(h:t≠i):bI cs i x t=cs t:=ai h
def IG {cs:Nat->List CW}{i:Nat}:bI cs i (cs i)=cs:=by
 funext t;unfold bI;split
 .rename_i h;rw[h]
 .rfl
def qw {cs:Nat->List CW}{i:Nat}{x y:List CW}:bI (bI cs i x) i y=bI cs i y:=by
 funext t;unfold bI;split<;>rfl
def mA (vs:Nat->List aU)(B:Nat->List CW):Prop:=∀t,(B t).map CW.v=vs t/\∀c∈B t,c.pl=true
def mA.Eu {vs:Nat->List aU}{B:Nat->List CW}(h:mA vs B){i:Nat}{x:List CW}(hv:x.map CW.v=vs i)(hp:∀c∈x,c.pl=true):mA vs (bI B i x):=by
 intro t;unfold bI;split
 .rename_i e;subst e;exact⟨hv,hp⟩
 .exact h t
def mA.len {vs:Nat->List aU}{B:Nat->List CW}(h:mA vs B):(fun j=>(B j).length)=fun j=>(vs j).length:=by
 funext j;rw[<-(h j).1,bt]
def mA.fk {vs:Nat->List aU}{B:Nat->List CW}(h:mA vs B):fk B=vs:=by
 funext j;exact(h j).1
def Cw {α:Type} [Inhabited α]{n l k i o:Nat}{ag:Bool}{q:α->D}{xs:List α}{m:List (Nat×bB)}{v:D}(hl:look m l=some (.buf k (xs.map q)))(hi:i<xs.length)(hv:mF (q xs[i]!) k n o ag=v)(ho:o+n<=k):uv m n (.ptr l k i o)/\su m n ag (.ptr l k i o)=v:=by
 refine⟨?_, ?_⟩
 .simp only[uv,ec,hl,bt];exact⟨⟨trivial,ae⟩,ho⟩
 .simp only[su,aP,hl];rw[getD_map hi];exact hv
def IL (o:Nat)(us:List RU):List D:=(List.range us.length).map fun j=>.agg [.str us[j]!.name,.str us[j]!.feat,.own (o+j) 8 0 us[j]!.cs.length]
def IM (nx:Nat)(us:List RU):List (Nat×bB):=[(nx,.buf 3 (IL (nx+1) us)),(nx+1,.buf 8 (us[0]!.cs.map (CW.D 10))),(nx+2,.buf 8 (us[1]!.cs.map (CW.D 10))),(nx+3,.buf 8 (us[2]!.cs.map (CW.D 10))),(nx+4,.buf 8 (us[3]!.cs.map (CW.D 10))),
 (nx+5,.buf 8 (us[4]!.cs.map (CW.D 10))),(nx+6,.buf 8 (us[5]!.cs.map (CW.D 10))),(nx+7,.buf 8 (us[6]!.cs.map (CW.D 10))),(nx+8,.buf 8 (us[7]!.cs.map (CW.D 10)))]
def Hw {lo o:Nat}{us:List RU}{ln:Nat->Nat}(σ:List (Nat×Nat))(h:∀j,j<us.length->fh lo σ (o+j)=some (2+j))(hl:∀j,us[j]!.cs.length=ln j):gM lo σ (IL o us)=some (UB us.length (fun j=>us[j]!.name) (fun j=>us[j]!.feat) ln):=by
 unfold IL UB;have h2:∀j∈List.range us.length,fh lo σ (o+j)=some (2+j):=fun j hj=>h j (List.mem_range.1 hj)
 revert h2;generalize List.range us.length=r;intro h2;induction r with
 |nil=>rfl
 |cons a r ih=>
  have:=h2 a (.head _);simp only[List.map_cons,gM,UD,kd,ve,this,hl a,ih fun j hj=>h2 j (.tail _ hj)]
def FN {lo v:Nat}{a b:Nat×Nat}{r:List (Nat×Nat)}(h:v<8)(ha:a.1<5)(hb:b.1<5):fh lo (a::b::(5,2)::(6,3)::(7,4)::(8,5)::(9,6)::(10,7)::(11,8)::(12,9)::r) (5+v)=some (2+v):=by
 simp only[fh,eX (show a.1≠5+v by omega),eX (show b.1≠5+v by omega),cond_false]
 match v,h with
 |0,_=>rfl
 |1,_=>rfl
 |2,_=>rfl
 |3,_=>rfl
 |4,_=>rfl
 |5,_=>rfl
 |6,_=>rfl
 |7,_=>rfl
def dW {lo v:Nat}{r:List (Nat×Nat)}(h:v<8):fh lo ((0,0)::(1,1)::(2,2)::(3,3)::(4,4)::(5,5)::(6,6)::(7,7)::(8,8)::(9,9)::r) (2+v)=some (2+v):=by
 simp only[fh,eX (show 0≠2+v by omega),cond_false];exact fE h
def jL {lo k i o l l':Nat}{σ:List (Nat×Nat)}(h:fh lo σ l=some l'):kd lo σ (.ptr l k i o)=some (.ptr l' k i o):=by simp only[kd,ve,h]
def rv {done rest:List CW}{x X:CW}{e e':Nat}{d:D}(hd:∀c∈done,c.pl=true)(hr:∀c∈rest,c.pl=true)(hX:X.D e'=d):((done++x::rest).map (CW.D e)).set done.length d=(done++X::rest).map (CW.D e'):=by
 rw[List.map_append,List.map_cons,qm (e:=e) (e':=e') hd,qm (e:=e) (e':=e') hr,List.set_append_right _ _ a8,bt,Nat.sub_self,List.set_cons_zero,<-hX,List.map_append,List.map_cons]
def o9 {done rest:List CW}{x:CW}:(done++x::rest)[done.length]! =x:=by simp[List.getElem!_eq_getElem?_getD]
def lI {done rest:List CW}{x:CW}{e:Nat}:((done++x::rest).map (CW.D e)).getD done.length .any=x.D e:=by
 rw[getD_map a8,o9]
def uy {l k:Nat}{es:List D}{B:Nat->List CW}{i:Nat}{done rest:List CW}{x X:CW}(hB:∀t,t≠i->∀c∈B t,c.pl=true)(hd:∀c∈done,c.pl=true)(hr:∀c∈rest,c.pl=true)(hX:fG l k es (x.D l)=X.D 10)(t:Nat):
  fY l k es ((bI B i (done++x::rest) t).map (CW.D l))=(bI B i (done++X::rest) t).map (CW.D 10):=by
 have pl:∀xs:List CW,(∀c∈xs,c.pl=true)->fY l k es (xs.map (CW.D l))=xs.map (CW.D 10):=fun xs h=>by rw[gJ _ _ _ _ (bN h),qm h]
 have app:∀a b:List D,fY l k es (a++b)=fY l k es a++fY l k es b:=fun a b=>by
  induction a with
  |nil=>rfl
  |cons x r ih=>simp only[nF,fY,ih]
 unfold bI;split
 .rw[List.map_append,List.map_cons,app,fY,pl _ hd,pl _ hr,hX,List.map_append,List.map_cons]
 .rename_i h;exact pl _ (hB t h)
def cM (m:List (Nat×bB))(L:Nat)(b:bB)(l:Nat):look (cz m L b) l=if l=L then some b else look m l:=by
 induction m with
 |nil=>by_cases h:l=L<;>simp[cz,look,h,eq_comm]<;>omega
 |cons a r ih=>
  obtain⟨k,x⟩:=a;by_cases h1:k=L<;>by_cases h2:l=L<;>by_cases h3:k=l<;>simp_all[cz,look]
def sc {e e0 i:Nat}{a b:bB}{B:Nat->List CW}{Yq:List CW}{r r':List (Nat×bB)}(hi:i<8)(hB:∀t,t≠i->∀c∈B t,c.pl=true)
  (hr:jx (cz ((0,a)::(1,b)::(2,.buf 8 ((B 0).map (CW.D e0)))::(3,.buf 8 ((B 1).map (CW.D e0)))::(4,.buf 8 ((B 2).map (CW.D e0)))::(5,.buf 8 ((B 3).map (CW.D e0)))::(6,.buf 8 ((B 4).map (CW.D e0)))::(7,.buf 8 ((B 5).map (CW.D e0)))::(8,.buf 8 ((B 6).map (CW.D e0)))::(9,.buf 8 ((B 7).map (CW.D e0)))::r) (2+i) (.buf 8 (Yq.map (CW.D e)))) r'):
  jx (cz ((0,a)::(1,b)::(2,.buf 8 ((B 0).map (CW.D e0)))::(3,.buf 8 ((B 1).map (CW.D e0)))::(4,.buf 8 ((B 2).map (CW.D e0)))::(5,.buf 8 ((B 3).map (CW.D e0)))::(6,.buf 8 ((B 4).map (CW.D e0)))::(7,.buf 8 ((B 5).map (CW.D e0)))::(8,.buf 8 ((B 6).map (CW.D e0)))::(9,.buf 8 ((B 7).map (CW.D e0)))::r) (2+i) (.buf 8 (Yq.map (CW.D e))))
   ((0,a)::(1,b)::(2,.buf 8 ((bI B i Yq 0).map (CW.D e)))::(3,.buf 8 ((bI B i Yq 1).map (CW.D e)))::(4,.buf 8 ((bI B i Yq 2).map (CW.D e)))::(5,.buf 8 ((bI B i Yq 3).map (CW.D e)))::(6,.buf 8 ((bI B i Yq 4).map (CW.D e)))::(7,.buf 8 ((bI B i Yq 5).map (CW.D e)))::(8,.buf 8 ((bI B i Yq 6).map (CW.D e)))::(9,.buf 8 ((bI B i Yq 7).map (CW.D e)))::r'):=by
 have ent:∀k,k<8->look (cz ((0,a)::(1,b)::(2,.buf 8 ((B 0).map (CW.D e0)))::(3,.buf 8 ((B 1).map (CW.D e0)))::(4,.buf 8 ((B 2).map (CW.D e0)))::(5,.buf 8 ((B 3).map (CW.D e0)))::(6,.buf 8 ((B 4).map (CW.D e0)))::(7,.buf 8 ((B 5).map (CW.D e0)))::(8,.buf 8 ((B 6).map (CW.D e0)))::(9,.buf 8 ((B 7).map (CW.D e0)))::r) (2+i) (.buf 8 (Yq.map (CW.D e)))) (2+k)=some (.buf 8 ((bI B i Yq k).map (CW.D e))):=by
  intro k hk;rw[cM];split
  .rename_i h;obtain rfl:k=i:=ae;rw[jr]
  .rename_i h;have hne:k≠i:=ae;rw[fD (fun t=>(B t).map (CW.D e0)) hk,uV hne,qm (hB k hne)]
 refine .id ?_ (.id ?_ (.id (ent 0 bV) (.id (ent 1 bV) (.id (ent 2 bV) (.id (ent 3 bV) (.id (ent 4 bV) (.id (ent 5 bV) (.id (ent 6 bV) (.id (ent 7 bV) hr)))))))))
 .rw[cM,ai ae];rfl
 .rw[cM,ai ae];rfl
def NF.p:NF->List jS
 | .sl l=>l
 |_=>[]
def BF.p:BF->List Want
 | .sl l=>l
 |_=>[]
def CW.p (c:CW):dk:=⟨c.v,c.sh,c.n.p,c.b.p⟩
def HJ (us:List RU)(g:Gs):Nat->List CW:=jl us.length (fun t=>us[t]!.cs.map CW.v) (fun t=>us[t]!.feat) (us.length-1) 1 (ar g us.length (fun t=>us[t]!.cs.map CW.v) 3).2 (bI (fun t=>us[t]!.cs) 0 [⟨zV,-1,.sl (ar g us.length (fun t=>us[t]!.cs.map CW.v) 3).1,.nil⟩])
def bZ (ks:List Int)(few:Int):bT:=⟨(List.range (dS ⟨ks,0⟩ few).1.length).map fun t=>⟨(dS ⟨ks,0⟩ few).1[t]!.name,(dS ⟨ks,0⟩ few).1[t]!.feat,(HJ (dS ⟨ks,0⟩ few).1 (dS ⟨ks,0⟩ few).2 t).map CW.p⟩⟩
def oB (vs:Nat->List aU)(B:Nat->List CW):Prop:=∀t,(B t).map CW.v=vs t
def mA.v {vs:Nat->List aU}{B:Nat->List CW}(h:mA vs B):oB vs B:=fun t=>(h t).1
def oB.len {vs:Nat->List aU}{B:Nat->List CW}(h:oB vs B):(fun j=>(B j).length)=fun j=>(vs j).length:=by
 funext j;rw[<-h j,bt]
def oB.fk {vs:Nat->List aU}{B:Nat->List CW}(h:oB vs B):fk B=vs:=by
 funext j;exact h j
def oB.Eu {vs:Nat->List aU}{B:Nat->List CW}(h:oB vs B){i:Nat}{x:List CW}(hv:x.map CW.v=vs i):oB vs (bI B i x):=by
 intro t;unfold bI;split
 .rename_i e;subst e;exact hv
 .exact h t
def tQ (vs:Nat->List aU):Prop:=∀t,(vs t).length<=4/\∀v∈vs t,v.sm
def oB.ok {vs:Nat->List aU}{B:Nat->List CW}{n:Nat}(h:oB vs B)(hn:2<=n/\n<=8)(hv:tQ vs):Cd n B:=by
 refine⟨hn,fun t=>⟨?_,fun c hc=>?_⟩⟩
 .have:=(hv t).1;rw[<-h t,bt]at this;exact this
 .exact(hv t).2 _ (by rw[<-h t];exact List.mem_map_of_mem hc)
def ry {done:List CW}{r:List aU}{v:aU}{l:List aU}{c:CW}(hd:done.map CW.v=l.take done.length)(hr:l.drop done.length=v::r)(hc:c.v=v):(done++c::r.map aL).map CW.v=l:=by
 have h2:(r.map aL).map CW.v=r:=by rw[List.map_map];exact List.map_id _
 rw[List.map_append,List.map_cons,hd,h2,hc,<-hr,List.take_append_drop]
def tg (n:Nat)(vs:Nat->List aU):∀k g acc,(iM n vs k g acc).1.length=acc.length+k
 |0,g,acc=>by simp[iM]
 |k+1,g,acc=>by
  rw[iM];split<;>rw[tg n vs k]<;>simp<;>omega
def rB {g:Gs}{n:Nat}{vs:Nat->List aU}{most:Int}(h0:0<=most)(h3:most<=3):(ar g n vs most).1.length<=3:=by
 have hv:=gL (vc g.l g.i) (most+1) ae;have hv2:g.val (most+1)=eQ (vc g.l g.i) (most+1):=rfl;unfold ar;rw[tg];simp only[cu];omega
def pM {ks:List Int}{few:Int}{us:List RU}{g1:Gs}(h:dS ⟨ks,0⟩ few=(us,g1)):(2<=us.length/\us.length<=8)/\us[0]!.cs=[tN]/\(∀t:Nat,1<=t->us[t]!.cs=(us[t]!.cs.map CW.v).map aL)/\tQ (fun t=>us[t]!.cs.map CW.v)/\(∀t:Nat,∀c∈us[t]!.cs,c.pl=true)/\0<=g1.i/\g1.i<=51:=by
 obtain⟨more,e,hm,hl,h1,h2⟩:=tG (g:=⟨ks,0⟩) (few:=few);rw[h]at e h1 h2;dsimp only at e h1 h2;subst e;have hc:∀t,1<=t->(tI++more)[t]!.cs=[]\/(tI++more)[t]!.raw:=by
  intro t ht;rcases dh t (tI++more).length with h|h
  .right;have h5:(tI++more)[t]! =more[t-1]! :=by
    simp only[tI,dF,List.length_singleton]at h;simp[tI,List.getElem!_eq_getElem?_getD,List.getElem?_cons,show t≠0 by omega]
   rw[h5];exact hm _ (ak (by simp only[tI,dF,List.length_singleton]at h;omega))
  .left;rw[q6 h];rfl
 have h0:(tI++more)[0]!.cs=[tN]:=by simp[tI]
 refine⟨by simp only[tI,dF,List.length_singleton];omega,h0,fun t ht=>?_,fun t=>?_,fun t=>?_,ae,ae⟩
 .rcases hc t ht with e|⟨vs,e,_⟩
  .rw[e];rfl
  .rw[e,List.map_map,List.map_map];congr 1
 .rcases Nat.eq_zero_or_pos t with rfl|ht
  .simp only[h0,List.map_cons,List.map_nil,List.length_singleton];exact⟨ae,fun v hv=>by obtain rfl:=bK.1 hv;exact pN⟩
  .rcases hc t ht with e|⟨vs,e,hl4,hsm⟩
   .simp only[e,List.map_nil,cu];exact⟨ae,fun v hv=>by cases hv⟩
   .have e2:(vs.map aL).map CW.v=vs:=by rw[List.map_map];exact List.map_id _
    simp only[e,e2];exact⟨hl4,hsm⟩
 .rcases Nat.eq_zero_or_pos t with rfl|ht
  .rw[h0];intro c hc';obtain rfl:=bK.1 hc';rfl
  .rcases hc t ht with e|⟨vs,e,_⟩
   .rw[e];intro c hc';cases hc'
   .rw[e];exact ek vs
def uz {done rest:List CW}{c:CW}(hd:∀c∈done,c.pl=true)(hc:c.pl=true)(hr:∀c∈rest,c.pl=true):∀x∈done++c::rest,x.pl=true:=fun x hx=>(List.mem_append.1 hx).elim (hd x) fun h=>(dK.1 h).elim (fun e=>by rw[e];exact hc) (hr x)
def Ea {α:Type}{l:List α}{k:Nat}{v:α}{r:List α}(h:l.drop k=v::r):l.take (k+1)=l.take k++[v]:=by
 have h2:(l.drop k)[0]? =some v:=by rw[h];rfl
 rw[List.getElem?_drop]at h2;rw[List.take_succ,show l[k]? =some v by simpa using h2];rfl
def kv {n i:Nat}{vs:Nat->List aU}{f:cV}{cs B:Nat->List CW}{done:List CW}{v:aU}{r:List aU}{k h g':Gs}{c':CW}{F:List CW×Gs}(hvr:(vs i).drop done.length=v::r)(hB:B=bI cs i (done++((vs i).drop done.length).map aL))
  (hf:(done++(dt n vs i f (v::r) k).1,(dt n vs i f (v::r) k).2)=F) (hdv:done.map CW.v=(vs i).take done.length) (hdp:∀c∈done,c.pl=true) (hk:0<=k.i/\k.i<=h.i+30*(done.length:Nat)) (hce:fN k n vs i f v=(c',g')):
  (done.length+1<=(vs i).length/\(done++[c']).length=done.length+1)/\bI B i (done++c'::r.map aL)=bI cs i ((done++[c'])++((vs i).drop (done.length+1)).map aL)/\
    ((done++[c'])++(dt n vs i f ((vs i).drop (done.length+1)) g').1,(dt n vs i f ((vs i).drop (done.length+1)) g').2)=F/\((done++[c']).map CW.v=(vs i).take (done.length+1)/\∀c∈done++[c'],c.pl=true)/\(0<=g'.i/\g'.i<=h.i+30*((done.length+1:Nat):Int)):=by
 have hr1:(vs i).drop (done.length+1)=r:=by rw[<-List.drop_drop,hvr];rfl
 have h1:=yV (h:=k) (n:=n) (vs:=vs) (i:=i) (f:=f) (v:=v);have h2:=yW k n i vs f v;rw[hce]at h1 h2;dsimp only at h1 h2;have hl:done.length+1<=(vs i).length:=by
  have:=bw List.length hvr;simp only[va,bX]at this;omega
 refine⟨⟨hl,a8⟩, ?_, ?_,⟨?_, ?_⟩,ae⟩
 .rw[hr1,hB,qw,sg];rfl
 .rw[hr1,<-hf];simp only[dt,hce,sg,List.singleton_append]
 .rw[List.map_append,hdv,Ea hvr,List.map_cons,List.map_nil,h2.1]
 .intro c hc;rcases List.mem_append.1 hc with hc|hc
  .exact hdp c hc
  .obtain rfl:=bK.1 hc;exact h2.2
def x9 {n i:Nat}{vs:Nat->List aU}{ft:Nat->cV}{cs B:Nat->List CW}{done:List CW}{k h:Gs}(hi:i<n)(hle:(vs i).length<=done.length)(hB:B=bI cs i (done++((vs i).drop done.length).map aL))
  (hf:(done++(dt n vs i (ft i) ((vs i).drop done.length) k).1,(dt n vs i (ft i) ((vs i).drop done.length) k).2)=dt n vs i (ft i) (vs i) h):jl n vs ft (n-(i+1)) (i+1) k B=jl n vs ft (n-i) i h cs:=by
 obtain⟨r,hr⟩:∃r,n-i=r+1:=⟨n-i-1,ae⟩
 rw[hr,jl,<-hf,hB,lW hle];obtain rfl:r=n-(i+1):=ae;simp only[dt,List.map_nil,En]
def SHW:List Sh:=[.sl 3 [.a,.a,.sl 8 [.a,.a,.a,.a,.a,.a,.sl 1 [.sl 3 [.a,.a]],.sl 3 [.a,.a,.a]]]]
def yX {m:List (Nat×bB)}{c:CW}(h:c.pl=true):(match c.D 10 with
  | .agg ds=>.agg (xL m [.a,.a,.a,.a,.a,.a,.sl 1 [.sl 3 [.a,.a]],.sl 3 [.a,.a,.a]] ds)
  |e=>xH m [.a,.a,.a,.a,.a,.a,.sl 1 [.sl 3 [.a,.a]],.sl 3 [.a,.a,.a]] e)=c.p.D/\(match c.D 10 with
  | .agg ds=>BY m [.a,.a,.a,.a,.a,.a,.sl 1 [.sl 3 [.a,.a]],.sl 3 [.a,.a,.a]] ds
  |e=>GN m [.a,.a,.a,.a,.a,.a,.sl 1 [.sl 3 [.a,.a]],.sl 3 [.a,.a,.a]] e):=by
 obtain⟨v,sh,n,b⟩:=c;cases n<;>cases b<;>first|(simp[CW.pl,NF.pl,BF.pl]at h;done)|exact⟨rfl,rfl,rfl,rfl,rfl,rfl,rfl,rfl,rfl,rfl⟩
def BT {m:List (Nat×bB)}{n:Nat}{nm ft:Nat->cV}{ln:Nat->Nat}{cs:Nat->List CW}(h1:look m 1=some (.buf 3 (UB n nm ft ln)))(hc:∀t,t<8->look m (2+t)=some (.buf 8 ((cs t).map (CW.D 10))))(hl:∀t,ln t=(cs t).length)(hp:∀t,∀c∈cs t,c.pl=true)(hn:n<=8):
  xV m SHW (.agg [.own 1 3 0 n])=bT.D ⟨(List.range n).map fun t=>⟨nm t,ft t,(cs t).map CW.p⟩⟩/\F7 m SHW (.agg [.own 1 3 0 n]):=by
 have hu:(UB n nm ft ln).take n=UB n nm ft ln:=ic (by simp[UB]);have hq:∀t,((cs t).map (CW.D 10)).take (ln t)=(cs t).map (CW.D 10):=fun t=>ic (by simp[hl])
 constructor
 .simp only[SHW,xV,xL,xC,aP,h1,ch,hu];simp only[bT.D,UB,List.map_map];congr 2;congr 1;apply List.map_congr_left;intro j hj;have h2:=hc j (by have:=List.mem_range.1 hj;omega);simp only[Function.comp,UD,xL,xC,aP,h2,ch,hq,cr.D,List.map_map];congr 4;refine bw (D.sl 8) ?_;apply List.map_congr_left;intro c hc2;exact(yX (m:=m) (hp j c hc2)).1
 .simp only[SHW,F7,BY,F6,aP,ec,h1,ch,hu];refine⟨⟨⟨trivial,by simp[UB]⟩, ?_⟩,rfl⟩;intro e he;simp only[UB,gQ,List.mem_range]at he;obtain⟨j,hj,rfl⟩:=he;have h2:=hc j ae;simp only[UD,BY,F6,aP,ec,h2,ch,hq];refine⟨rfl,rfl,⟨⟨trivial,by simp[hl]⟩, ?_⟩,rfl⟩;intro e he;obtain⟨c,hc2,rfl⟩:=gQ.1 he;exact(yX (m:=m) (hp j c hc2)).2
def BU {ks:List Int}{few:Int}{us:List RU}{g1:Gs}{F:Nat->List CW}(h:dS ⟨ks,0⟩ few=(us,g1))(hF:HJ us g1=F):(⟨(List.range us.length).map fun t=>⟨us[t]!.name,us[t]!.feat,(F t).map CW.p⟩⟩:bT)=bZ ks few:=by
 unfold bZ;rw[h,<-hF]
section
section
variable [cP] {P:Program} {ν:List (Nat×Nat)} {bY:List Nat} {t:List (Nat×kL)} {fid n key u k:Nat} {af:aA} {nx:Nat} {m:List (Nat×bB)} {K:D->St->Prop}
def wi {lo kk n n':Nat}{es es' S2:List D}{Q:D->List (Nat×bB)->Prop}(hes:aJ es=true)(hes':aJ es'=true)(has:aJ S2=true)(hmix:P.follows .mixedOrders=true)(hC:BZ P ν bY fid af)(hnp:S2.length+1=af.np)
  (h1:look m lo=some (.buf k es)) (hlo:lo<nx) (hQ:∀d m,Q d m->∃j,d=.own j kk 0 n'/\look m j=some (.buf kk es')) (hK:K (.own nx kk 0 n') ⟨nx+1,(nx,.buf kk es')::cO m lo⟩)
  (hw:bO ((under t key u).at 1) af.body (oA af Q) (gv af (.own 0 k 0 n::S2)) ⟨1,[(0,.buf k es)]⟩):mI P ν bY (under t key u) fid (.own lo k 0 n::S2) ⟨nx,m⟩ K:=by
 have g3:eW 0 1 [(lo,0)]=true:=by simp[eW]
 have g4:∀l i,(l,i)∈[(lo,0)]->look m l≠none:=by
  intro l i h;obtain⟨rfl,rfl⟩:=Prod.mk.inj (bK.1 h);rw[h1];simp
 have g5:∀i b,look [(0,bB.buf k es)] i=some b->∃l b',(l,i)∈[(lo,0)]/\look m l=some b'/\k9 0 [(lo,0)] b' b:=by
  intro i b h;simp only[look]at h;split at h
  .rename_i e;subst e;obtain rfl:=bj h;exact⟨lo,_,.head _,h1,rfl,.inl ⟨rfl,hes⟩⟩
  .cases h
 refine vJ (σi:=[(lo,0)]) (cs:=.own 0 k 0 n::S2) (fun q=>tF t key u q) hmix hC a8 ?_ (by simpa using hnp) g3 g4 g5 hw ?_
 .intro i hi
  match i with
  |0=>exact .inr (.inl (by simp[kd,ve,fh]))
  |i+1=>exact .inl ⟨rfl,bW has i⟩
 .intro d m1 h;obtain⟨j,rfl,hj⟩:=hQ d m1 h;refine⟨[(j,nx)],j+1,_,_,⟨g3, ?_,Nat.le_succ _,g4, ?_,g5, ?_⟩,.inr (.inl (by simp[kd,ve,fh])),hK⟩
  .simp[eW]
  .intro i l h;obtain⟨rfl,rfl⟩:=Prod.mk.inj (bK.1 h);exact .inr (aW _)
  .intro l bb h;simp only[look]at h;split at h
   .rename_i e;subst e;obtain rfl:=bj h;exact .inl ⟨j,_,.head _,hj,rfl,.inl ⟨rfl,hes'⟩⟩
   .rename_i hn;rw[j0]at h;split at h
    .cases h
    .rename_i hl;refine .inr ⟨by simp only[jh,ai hn],fun i hi=>?_,h⟩;exact hl (Prod.mk.inj (bK.1 hi)).1
def uI {lo n:Nat}{es S2:List D}{v:D}{Q:D->List (Nat×bB)->Prop}(hes:aJ es=true)(hv:v.aV=true)(has:aJ S2=true)(hmix:P.follows .mixedOrders=true)(hC:BZ P ν bY fid af)(hnp:S2.length+1=af.np)
  (h1:look m lo=some (.buf k es)) (hlo:lo<nx) (hQ:∀d m,Q d m->d=v) (hK:K v ⟨nx,cO m lo⟩)
  (hw:bO ((under t key u).at 1) af.body (oA af Q) (gv af (.own 0 k 0 n::S2)) ⟨1,[(0,.buf k es)]⟩):mI P ν bY (under t key u) fid (.own lo k 0 n::S2) ⟨nx,m⟩ K:=by
 have g3:eW 0 1 [(lo,0)]=true:=by simp[eW]
 have g4:∀l i,(l,i)∈[(lo,0)]->look m l≠none:=by
  intro l i h;obtain⟨rfl,rfl⟩:=Prod.mk.inj (bK.1 h);rw[h1];simp
 have g5:∀i b,look [(0,bB.buf k es)] i=some b->∃l b',(l,i)∈[(lo,0)]/\look m l=some b'/\k9 0 [(lo,0)] b' b:=by
  intro i b h;simp only[look]at h;split at h
  .rename_i e;subst e;obtain rfl:=bj h;exact⟨lo,_,.head _,h1,rfl,.inl ⟨rfl,hes⟩⟩
  .cases h
 refine vJ (σi:=[(lo,0)]) (cs:=.own 0 k 0 n::S2) (fun q=>tF t key u q) hmix hC a8 ?_ (by simpa using hnp) g3 g4 g5 hw ?_
 .intro i hi
  match i with
  |0=>exact .inr (.inl (by simp[kd,ve,fh]))
  |i+1=>exact .inl ⟨rfl,bW has i⟩
 .intro d m1 h;have hd:=hQ d m1 h;refine⟨[],1,⟨nx,cO m lo⟩,v,⟨g3,rfl,aW _,g4,(fun _ _ h=>by cases h),g5, ?_⟩,.inl ⟨hd.symm,by rw[hd];exact hv⟩,hK⟩;intro l bb h;simp only at h;rw[j0]at h;split at h
  .cases h
  .rename_i hl;refine .inr ⟨rfl,fun i hi=>?_,h⟩;exact hl (Prod.mk.inj (bK.1 hi)).1
def D5 {g g':Gs}{xs:List CW}{kk lc:Nat}{E:List D}{v:D}{Q:D->List (Nat×bB)->Prop}(hv:v.aV=true)(hE:aJ E=true)(hmix:P.follows .mixedOrders=true)(hC:BZ P ν bY fid af)(hnp:2=af.np)
  (hn:lc≠0/\lc≠10/\lc<nx/\11<=nx) (h0:look m 0=some (.buf 2 [g.D])) (h1:look m lc=some (.buf 8 (xs.map (CW.D 10)))) (h10:look m 10=some (.buf kk E)) (hK:K v ⟨nx,cz m 0 (.buf 2 [g'.D])⟩)
  (hQ:∀d m1,Q d m1->d=v/\look m1 0=some (.buf 2 [g'.D])/\look m1 1=some (.buf 8 (xs.map (CW.D 10)))/\look m1 10=some (.buf kk E))
  (hw:bO ((under t key u).at 11) af.body (oA af Q) (gv af [.ptr 0 2 0 0,.own 1 8 0 xs.length]) ⟨11,[(0,.buf 2 [g.D]),(1,.buf 8 (xs.map (CW.D 10))),(10,.buf kk E)]⟩):mI P ν bY (under t key u) fid [.ptr 0 2 0 0,.own lc 8 0 xs.length] ⟨nx,m⟩ K:=by
 have b1:=eX hn.1;have b2:=eX hn.2.1;have b3:=eX (Ne.symm hn.1);have b4:=eX (Ne.symm hn.2.1);have r10:fh 0 [(0,0),(lc,1),(10,10)] 10=some 10:=by simp only[fh,b2,cond_false];rfl
 have o10:fh 0 [(0,0),(1,lc),(10,10)] 10=some 10:=rfl;have g3:eW 0 11 [(0,0),(lc,1),(10,10)]=true:=by simp[eW,b1,b2,b3,b4,Nat.blt];exact⟨⟨rfl,rfl⟩,rfl⟩
 have g4:∀l i,(l,i)∈[(0,0),(lc,1),(10,10)]->look m l≠none:=by
  intro l i h;simp only[dK,dZ,en,or_false]at h;rcases h with⟨rfl,_⟩|⟨rfl,_⟩|⟨rfl,_⟩<;>simp[h0,h1,h10]
 have g5:∀i b,look [(0,bB.buf 2 [g.D]),(1,.buf 8 (xs.map (CW.D 10))),(10,.buf kk E)] i=some b->∃l b',(l,i)∈[(0,0),(lc,1),(10,10)]/\look m l=some b'/\k9 0 [(0,0),(lc,1),(10,10)] b' b:=by
  intro i b h;simp only[look]at h;split at h
  .rename_i e;subst e;obtain rfl:=bj h;exact⟨0,_,.head _,h0,rfl,.inl ⟨rfl,rfl⟩⟩
  .split at h
   .rename_i e;subst e;obtain rfl:=bj h;exact⟨lc,_,.tail _ (.head _),h1,rfl,.inr (.inl (cQ r10 xs))⟩
   .split at h
    .rename_i e;subst e;obtain rfl:=bj h;exact⟨10,_,.tail _ (.tail _ (.head _)),h10,rfl,.inl ⟨rfl,hE⟩⟩
    .cases h
 refine vJ (σi:=[(0,0),(lc,1),(10,10)]) (cs:=[.ptr 0 2 0 0,.own 1 8 0 xs.length]) (fun q=>tF t key u q) hmix hC rfl ?_ hnp g3 g4 g5 hw ?_
 .intro i hi
  match i,hi with
  |0,_=>exact .inr (.inl (by simp[kd,ve,fh]))
  |1,_=>exact .inr (.inl (by simp[kd,ve,fh,b3]))
 .intro d m1 h;obtain⟨hd,q0,q1,q10⟩:=hQ d m1 h;refine⟨[(0,0),(1,lc),(10,10)],11,⟨nx,cz m 0 (.buf 2 [g'.D])⟩,v,⟨g3, ?_,aW _,g4, ?_,g5, ?_⟩,.inl ⟨hd.symm,by rw[hd];exact hv⟩,hK⟩
  .simp only[eW,List.all_cons,List.all_nil,b1,b2,b3,b4,Bool.not_false,eS,pw,Nat.blt,cj,Nat.ble_eq];repeat' first|exact rfl|exact Nat.zero_le _|omega|refine And.intro ?_ ?_
  .intro i l h;simp only[dK,dZ,en,or_false]at h;rcases h with⟨rfl,rfl⟩|⟨rfl,rfl⟩|⟨rfl,rfl⟩
   .exact .inl (.head _)
   .exact .inl (.tail _ (.head _))
   .exact .inl (.tail _ (.tail _ (.head _)))
  .intro l bb h;simp only at h;rw[cM]at h;split at h
   .rename_i e;subst e;obtain rfl:=bj h;exact .inl ⟨0,_,.head _,q0,rfl,.inl ⟨rfl,rfl⟩⟩
   .rename_i e0;by_cases e1:l=lc
    .subst e1;rw[h1]at h;obtain rfl:=bj h;exact .inl ⟨1,_,.tail _ (.head _),q1,rfl,.inr (.inl (cQ o10 xs))⟩
    .by_cases e2:l=10
     .subst e2;rw[h10]at h;obtain rfl:=bj h;exact .inl ⟨10,_,.tail _ (.tail _ (.head _)),q10,rfl,.inl ⟨rfl,hE⟩⟩
     .refine .inr ⟨by simp only[jh,ai (fun e=>e0 (Eq.symm e)),ai (fun e=>e1 (Eq.symm e)),ai (fun e=>e2 (Eq.symm e))],fun i hi=>?_,h⟩;simp only[dK,dZ,en,or_false]at hi;rcases hi with⟨h,_⟩|⟨h,_⟩|⟨h,_⟩
      .exact e0 h
      .exact e1 h
      .exact e2 h
end
end
section
def B0:List (Nat×Nat):=[(0,0),(1,1),(2,2),(3,3),(4,4),(5,5),(6,6),(7,7),(8,8),(9,9),(10,10)]
def ug {l i:Nat}(h:(l,i)∈B0):i=l/\l<=10:=by
 simp only[B0,dK,dZ,en,or_false]at h;omega
def Fg:∀l,l<11->(l,l)∈B0:=bV
def q8 {l:Nat}(h:l<=10):(l,l)∈B0:=Fg l ae
def sb {m:List (Nat×bB)}{g:Gs}{n:Nat}{nm ft:Nat->cV}{cs:Nat->List CW}{kk:Nat}{E:List D}(hn:n<=8)(hE:aJ E=true)(h:EW m g n nm ft cs kk E){l:Nat}(h1:1<=l)(h10:l<=10):∃b,(∀m2 g2,EW m2 g2 n nm ft cs kk E->look m2 l=some b)/\k9 0 B0 b b:=by
 rcases dh l 2 with h2|h2
 .obtain rfl:l=1:=ae;exact⟨_,fun m2 g2 w=>w.2.1,rfl,.inr (.inl (gT _ fun j hj=>dW ae))⟩
 .rcases dh l 10 with h3|h3
  .obtain⟨j,rfl⟩:∃j,l=2+j:=⟨l-2,ae⟩
   exact⟨_,fun m2 g2 w=>w.2.2.1 j ae,rfl,.inr (.inl (cQ rfl _))⟩
  .obtain rfl:l=10:=ae;exact⟨_,fun m2 g2 w=>w.2.2.2,rfl,.inl ⟨rfl,hE⟩⟩
section
variable [cP] {P:Program} {ν:List (Nat×Nat)} {bY:List Nat} {t:List (Nat×kL)} {fid key u k:Nat} {af:aA} {nx:Nat} {m:List (Nat×bB)} {K:D->St->Prop}
def wZ {g g':Gs}{n c:Nat}{nm ft:Nat->cV}{cs:Nat->List CW}{kk:Nat}{E S2:List D}{v:D}{m0:List (Nat×bB)}{Q:D->List (Nat×bB)->Prop}(hv:v.aV=true)(hE:aJ E=true)(has:aJ S2=true)(hn:n<=8)(hmix:P.follows .mixedOrders=true)(hC:BZ P ν bY fid af)(hnp:S2.length+2=af.np)
  (hx:11<=nx) (hw:EW m g n nm ft cs kk E) (h0:EW m0 g n nm ft cs kk E) (hm0:∀i,11<=i->look m0 i=none) (hK:K v ⟨nx,cz m 0 (.buf 2 [g'.D])⟩) (hQ:∀d m1,Q d m1->d=v/\EW m1 g' n nm ft cs kk E)
  (hwp:bO ((under t key u).at 11) af.body (oA af Q) (gv af (.ptr 0 2 0 0::.own 1 3 0 c::S2)) ⟨11,m0⟩):mI P ν bY (under t key u) fid (.ptr 0 2 0 0::.own 1 3 0 c::S2) ⟨nx,m⟩ K:=by
 have g4:∀l i,(l,i)∈B0->look m l≠none:=by
  intro l i h;obtain⟨_,hl⟩:=ug h;rcases Nat.eq_zero_or_pos l with rfl|hp
  .rw[hw.1];simp
  .obtain⟨b,hb,_⟩:=sb hn hE hw hp hl;rw[hb _ _ hw];simp
 have g5:∀i b,look m0 i=some b->∃l b',(l,i)∈B0/\look m l=some b'/\k9 0 B0 b' b:=by
  intro i b h;rcases dh i 11 with hi|hi
  .rcases Nat.eq_zero_or_pos i with rfl|hp
   .rw[h0.1]at h;obtain rfl:=bj h;exact⟨0,_,q8 ae,hw.1,rfl,.inl ⟨rfl,rfl⟩⟩
   .obtain⟨b2,hb,hr⟩:=sb hn hE hw hp ae;rw[hb _ _ h0]at h;obtain rfl:=bj h;exact⟨i,_,q8 ae,hb _ _ hw,hr⟩
  .rw[hm0 i hi]at h;cases h
 refine vJ (σi:=B0) (cs:=.ptr 0 2 0 0::.own 1 3 0 c::S2) (fun q=>tF t key u q) hmix hC rfl ?_ (by simpa using hnp) rfl g4 g5 hwp ?_
 .intro i hi
  match i with
  |0=>exact .inr (.inl rfl)
  |1=>exact .inr (.inl rfl)
  |i+2=>exact .inl ⟨rfl,bW has i⟩
 .intro d m1 h;obtain⟨hd,q⟩:=hQ d m1 h;refine⟨B0,11,⟨nx,cz m 0 (.buf 2 [g'.D])⟩,v,⟨rfl, ?_,aW _,g4, ?_,g5, ?_⟩,.inl ⟨hd.symm,by rw[hd];exact hv⟩,hK⟩
  .simp only[B0,eW,Nat.blt,cj,Nat.ble_eq];repeat' first|exact rfl|exact Nat.zero_le _|omega|refine And.intro ?_ ?_
  .intro i l h;obtain⟨rfl,hl⟩:=ug h;exact .inl (q8 hl)
  .intro l bb h;simp only at h;rw[cM]at h;split at h
   .rename_i e;subst e;obtain rfl:=bj h;exact .inl ⟨0,_,q8 ae,q.1,rfl,.inl ⟨rfl,rfl⟩⟩
   .rename_i e0;rcases dh l 11 with hl|hl
    .obtain⟨b2,hb,hr⟩:=sb hn hE hw (show 1<=l by omega) ae;rw[hb _ _ hw]at h;obtain rfl:=bj h;exact .inl ⟨l,_,q8 ae,hb _ _ q,hr⟩
    .refine .inr ⟨?_,fun i hi=>by have:=(ug hi).2;omega,h⟩;simp only[B0,jh];repeat(rw[ai ae])
end
end
section
def D6 (nx:Nat):List (Nat×Nat):=[(0,0),(1,nx),(2,nx+1),(3,nx+2),(4,nx+3),(5,nx+4),(6,nx+5),(7,nx+6),(8,nx+7),(9,nx+8)]
def FV {nx l i:Nat}(h:(i,l)∈D6 nx):i=0/\l=0\/nx<=l:=by
 simp only[D6,dK,dZ,en,or_false]at h;omega
def Iz {nx j:Nat}(h:j<8):fh 0 (D6 nx) (2+j)=some (nx+1+j):=by
 match j,h with
 |0,_|1,_|2,_|3,_|4,_|5,_|6,_|7,_=>rfl
def Iy {nx j:Nat}(h:j<8):(2+j,nx+1+j)∈D6 nx:=by
 match j,h with
 |0,_|1,_|2,_|3,_|4,_|5,_|6,_|7,_=>simp[D6]
def EU {nx:Nat}{us:List RU}(h:us.length<=8):gM 0 (D6 nx) (sQ us)=some (IL (nx+1) us):=by
 unfold sQ UB IL;have h2:∀j∈List.range us.length,fh 0 (D6 nx) (2+j)=some (nx+1+j):=fun j hj=>Iz (by have:=List.mem_range.1 hj;omega)
 revert h2;generalize List.range us.length=r;intro h2;induction r with
 |nil=>rfl
 |cons a r ih=>
  have:=h2 a (.head _);simp only[List.map_cons,gM,UD,kd,ve,this,ih fun j hj=>h2 j (.tail _ hj)]
def EV {g:Gs}{us:List RU}{j:Nat}(h:j<8):look (UM g us) (2+j)=some (.buf 8 (us[j]!.cs.map (CW.D 10))):=by
 match j,h with
 |0,_|1,_|2,_|3,_|4,_|5,_|6,_|7,_=>rfl
def Ck {nx l:Nat}{us:List RU}{r:List (Nat×bB)}{b:bB}(h:look (IM nx us++r) l=some b):l=nx/\b=.buf 3 (IL (nx+1) us)\/(∃j,j<8/\l=nx+1+j/\b=.buf 8 (us[j]!.cs.map (CW.D 10)))\/(l<nx\/nx+8<l)/\look r l=some b:=by
 simp only[IM,nF,si,look]at h;split at h
 .exact .inl ⟨ae,(bj h).symm⟩
 split at h
 .exact .inr (.inl ⟨0,bV,ae,(bj h).symm⟩)
 split at h
 .exact .inr (.inl ⟨1,bV,ae,(bj h).symm⟩)
 split at h
 .exact .inr (.inl ⟨2,bV,ae,(bj h).symm⟩)
 split at h
 .exact .inr (.inl ⟨3,bV,ae,(bj h).symm⟩)
 split at h
 .exact .inr (.inl ⟨4,bV,ae,(bj h).symm⟩)
 split at h
 .exact .inr (.inl ⟨5,bV,ae,(bj h).symm⟩)
 split at h
 .exact .inr (.inl ⟨6,bV,ae,(bj h).symm⟩)
 split at h
 .exact .inr (.inl ⟨7,bV,ae,(bj h).symm⟩)
 exact .inr (.inr ⟨ae,h⟩)
def r8 (g:Gs)(few:Int):(dS g few).1.length<=8/\∀u∈(dS g few).1,u.pl:=by
 obtain⟨more,e,hm,hl,_,_⟩:=tG (g:=g) (few:=few);rw[e];refine⟨by simp only[tI,dF,List.length_singleton];omega,fun u hu=>?_⟩;rcases List.mem_append.1 hu with h|h
 .obtain rfl:=bK.1 h;intro c hc;obtain rfl:=bK.1 hc;rfl
 .obtain⟨vs,e,_⟩:=hm u h;intro c hc;rw[e]at hc;exact ek vs c hc
def w6 {a b c d e f g h i j k:bB}{l:Nat}(hl:11<=l):look [(0,a),(1,b),(2,c),(3,d),(4,e),(5,f),(6,g),(7,h),(8,i),(9,j),(10,k)] l=none:=by
 simp only[look];repeat rw[ai ae]
section
variable [cP] {P:Program} {ν:List (Nat×Nat)} {bY:List Nat} {t:List (Nat×kL)} {fid key u k:Nat} {af:aA} {nx:Nat} {m:List (Nat×bB)} {K:D->St->Prop}
def yF {g g1:Gs}{us:List RU}{S2:List D}{Q:D->List (Nat×bB)->Prop}(has:aJ S2=true)(hpl:∀u∈us,u.pl)(hl8:us.length<=8)(hmix:P.follows .mixedOrders=true)(hC:BZ P ν bY fid af)(hnp:S2.length+1=af.np)
  (h0:look m 0=some (.buf 2 [g.D])) (hx:0<nx) (hQ:∀d m1,Q d m1->d=.own 1 3 0 us.length/\m1=UM g1 us) (hK:K (.own nx 3 0 us.length) ⟨nx+9,IM nx us++cz m 0 (.buf 2 [g1.D])⟩)
  (hw:bO ((under t key u).at 1) af.body (oA af Q) (gv af (.ptr 0 2 0 0::S2)) ⟨1,[(0,.buf 2 [g.D])]⟩):mI P ν bY (under t key u) fid (.ptr 0 2 0 0::S2) ⟨nx,m⟩ K:=by
 have g3:eW 0 1 [(0,0)]=true:=rfl;have g4:∀l i,(l,i)∈[(0,0)]->look m l≠none:=by
  intro l i h;obtain⟨rfl,rfl⟩:=Prod.mk.inj (bK.1 h);rw[h0];simp
 have g5:∀i b,look [(0,bB.buf 2 [g.D])] i=some b->∃l b',(l,i)∈[(0,0)]/\look m l=some b'/\k9 0 [(0,0)] b' b:=by
  intro i b h;simp only[look]at h;split at h
  .rename_i e;subst e;obtain rfl:=bj h;exact⟨0,_,.head _,h0,rfl,.inl ⟨rfl,rfl⟩⟩
  .cases h
 refine vJ (σi:=[(0,0)]) (cs:=.ptr 0 2 0 0::S2) (fun q=>tF t key u q) hmix hC a8 ?_ (by simpa using hnp) g3 g4 g5 hw ?_
 .intro i hi
  match i with
  |0=>exact .inr (.inl rfl)
  |i+1=>exact .inl ⟨rfl,bW has i⟩
 .intro d m1 h;obtain⟨rfl,rfl⟩:=hQ d m1 h;refine⟨D6 nx,10,⟨nx+9,IM nx us++cz m 0 (.buf 2 [g1.D])⟩,_,⟨g3, ?_,(Nat.le_add_right _ _:nx<=nx+9),g4, ?_,g5, ?_⟩,.inr (.inl rfl),hK⟩
  .have z:∀i,Nat.beq 0 (i+1)=false:=fun i=>rfl
   simp only[D6,eW,List.all_cons,List.all_nil,cj,eB,Nat.blt,Nat.ble_eq];repeat' first|exact trivial|exact rfl|exact Nat.zero_le _|(exact eX ae)|omega|refine And.intro ?_ ?_
  .intro i l h;rcases FV h with⟨rfl,rfl⟩|h
   .exact .inl (.head _)
   .exact .inr h
  .intro l bb h5;rcases Ck h5 with⟨rfl,rfl⟩|⟨j,hj,rfl,rfl⟩|⟨hl,h6⟩
   .exact .inl ⟨1,.buf 3 (sQ us),by simp[D6],rfl,rfl,.inr (.inl (EU hl8))⟩
   .exact .inl ⟨2+j,_,Iy hj,EV hj,rfl,.inl ⟨rfl,gO hpl j⟩⟩
   .clear h5;rw[cM]at h6;split at h6
    .rename_i e;subst e;obtain rfl:=bj h6;exact .inl ⟨0,.buf 2 [g1.D],.head _,rfl,rfl,.inl ⟨rfl,rfl⟩⟩
    .rename_i e0;refine .inr ⟨?_,fun i hi=>?_,h6⟩
     .simp only[D6,jh];repeat(rw[ai ae])
     .obtain⟨e,_⟩:=Prod.mk.inj (bK.1 hi);omega
end
end
end Go.Abs
section
namespace Go.Abs
variable {Y:Ctx}(hm:(Y.at 0).cb)
def ah {p:Prop}(h:p:=by exact rfl):p:=h
def FD {p:Prop}(h:p:=by repeat(first|exact bA.nil|refine bA.un ?_|refine bA.eq ca ?_)):p:=h
def dY {p:Prop}(h:p:=by first|exact rfl|exact cR (fun _=>rfl) _):p:=h
def gA {p:Prop}(h:p:=by repeat(first|exact bA.nil|refine bA.un ?_|refine bA.eq ca ?_|refine bA.nl ca ca ?_)):p:=h
def sK {p:Prop}(h:p:=by repeat' first|exact trivial|exact rfl|refine And.intro ?_ ?_):p:=h
def wm {p:Prop}(h:p:=by repeat' first|exact trivial|exact rfl|exact aW _|refine And.intro ?_ ?_):p:=h
def qqq1 {p:Prop}(h:p:=by repeat(first|exact aD.nil|refine aD.eM ca ca (by first|exact rfl|exact cR (fun _=>rfl) _) ?_|refine aD.dA ca ca ca ?_|refine aD.kN ca ca ca ca ?_)):p:=h
def b0 {p:Prop} [Decidable p]:(decide p=true)=p:=dI
def b1 {p:Prop} [Decidable p]:decide p=false↔¬p:=fo
def b2 (b:Bool):((!b)=true)=(b=false):=eB b
def b3 (b:Bool):((!b)=false)=(b=true):=oy b
def b4 (b:Bool):(¬(b=false))=(b=true):=Bool.not_eq_false b
def b5 (a b:Bool):((a ||b)=true)=(a=true\/b=true):=ib a b
end Go.Abs
namespace Go.Abs
variable {Y:Ctx}(hm:(Y.at 0).cb)
abbrev dj (Y:Ctx)(a:aA)(d:D)(ds:List D):Prop:=bO (Y.at 0) a.body (IK a d) (gv a ds) ⟨0,[]⟩
def cT {a:aA}{d d2:D}{e:Ex}{nx:Nat}{m:List (Nat×bB)}{env:List bz}(h:d2=d)(he:e.home:=by exact trivial)(h1:lP m env a.res:=by exact wm)(h2:xd a env m:=by exact sK)(h3:Eh a env m=d2:=by exact rfl):IK a d e env ⟨nx,m⟩:=DZ he h1 h2 (h3.trans h)
def aY {a:aA}{d d2:Bool}{e:Ex}{nx:Nat}{m:List (Nat×bB)}{env:List bz}(h:d2=d)(he:e.home:=by exact trivial)(h1:lP m env a.res:=by exact wm)(h2:xd a env m:=by exact sK)(h3:Eh a env m=.bool d2:=by exact rfl):IK a (.bool d) e env ⟨nx,m⟩:=cT (bw _ h) he h1 h2 h3
def cI {a:aA}{d d2:Int}{e:Ex}{nx:Nat}{m:List (Nat×bB)}{env:List bz}(h:d2=d)(he:e.home:=by exact trivial)(h1:lP m env a.res:=by exact wm)(h2:xd a env m:=by exact sK)(h3:Eh a env m=.int .i64 d2:=by exact rfl):IK a (.int .i64 d) e env ⟨nx,m⟩:=cT (bw _ h) he h1 h2 h3
def eo {lo c nx nx2:Nat}{env env2:List bz}{m m2:List (Nat×bB)}(σ:List (Nat×Nat))(hc:nx2=c:=by exact ah)(h:eW lo c σ=true:=by exact ah)(he:bA lo σ env env2:=by exact gA)(hm:aD lo c σ m m2:=by exact qqq1):aZ lo env ⟨nx,m⟩ env2 ⟨nx2,m2⟩:=aZ.to σ hc h he hm
end Go.Abs
namespace Go.Abs
variable {Y:Ctx}(hm:(Y.at 0).cb)
def LN {lo c l:Nat}{σ:List (Nat×Nat)}{m r:List (Nat×bB)}{b:bB}(h:aD lo c σ m r)(hh:aD lo c σ m [(l,b)]:=by(first|refine aD.eM ca ca (by first|exact rfl|exact cR (fun _=>rfl) _) ?_|refine aD.dA ca ca ca ?_|refine aD.kN ca ca ca ca ?_)<;>exact aD.nil):aD lo c σ m ((l,b)::r):=⟨hh.1,h⟩
end Go.Abs
namespace Go.Abs
variable {Y:Ctx}(hm:(Y.at 0).cb)
section
variable {Y:Ctx} {Q:Ex->List bz->St->Prop}
def cmN {env rs:List bz}:Cx env rs []=env:=rfl
def cmC {s p:Nat}{r:List (Nat×Nat)}{env rs env1 env':List bz}{f:Bool}{d:D}(e:cn [] rs (.l p)=⟨f,d⟩)(hs:env.set s ⟨f,d⟩=env1)(h:Cx env1 rs r=env'):Cx env rs ((s,p)::r)=env':=by
 simp only[Cx,e,hs,h]
def rrrg {draw:Bool}{cm:List (Nat×Nat)}{b:AC}{nx nx':Nat}{m:List (Nat×bB)}{rs env gv env':List bz}(h:bO Y b Q env' ⟨nx',m⟩)
  (he:Cx env rs cm=env':=by repeat(first|apply cmC ca (by simp only[List.set_cons_zero,List.set_cons_succ];exact rfl)|with_reducible exact cmN)) (hn:nx+rs.length=nx':=by simp only[bX,cu,Nat.reduceAdd];exact rfl):az Y draw [] gv rs nx m (fun vs st'=>bO Y b Q (eG env vs cm) st'):=
 FJ h he hn
def rrrh {draw:Bool}{cm:List (Nat×Nat)}{nx nx':Nat}{m:List (Nat×bB)}{rs env gv env':List bz}(h:Q .normal env' ⟨nx',m⟩)
  (he:Cx env rs cm=env':=by repeat(first|apply cmC ca (by simp only[List.set_cons_zero,List.set_cons_succ];exact rfl)|with_reducible exact cmN)) (hn:nx+rs.length=nx':=by simp only[bX,cu,Nat.reduceAdd];exact rfl):az Y draw [] gv rs nx m (fun vs st'=>Q .normal (eG env vs cm) st'):=
 FK h he hn
end
def Fam (_:Prop):Type:=Unit
def sr {q:Prop}:Fam q:=()
structure Hid (q:Prop)(f:Fam q):Prop where
 val:q
section
variable {Y:Ctx} {draw b1:Bool} {r:List GI} {env rs:List bz} {nx n0 n1:Nat} {m:List (Nat×bB)} {K:List bz->St->Prop} {g:Option (Nat×Bool)} {x0 x1 x2:Src}
def tg0 {Y:Ctx}{a:AC}{Q:Ex->List bz->St->Prop}{env:List bz}{st:St}(h:bO Y a Q env st):bO Y a Q env st:=h
def tg1 (h:az Y draw (⟨.mv x0,g⟩::r) env rs nx m K):az Y draw (⟨.mv x0,g⟩::r) env rs nx m K:=h
def tg2 (h:az Y draw [] env rs nx m K):az Y draw [] env rs nx m K:=h
def tg3 (h:az Y draw (⟨.fa n0 x1,g⟩::r) env rs nx m K):az Y draw (⟨.fa n0 x1,g⟩::r) env rs nx m K:=h
def tg4 (h:az Y draw (⟨.ld n0 b1 x2,g⟩::r) env rs nx m K):az Y draw (⟨.ld n0 b1 x2,g⟩::r) env rs nx m K:=h
def tg5 (h:az Y draw (⟨.bin .lss x0 x1,g⟩::r) env rs nx m K):az Y draw (⟨.bin .lss x0 x1,g⟩::r) env rs nx m K:=h
def tg6 (h:az Y draw (⟨.bin .eql x0 x1,g⟩::r) env rs nx m K):az Y draw (⟨.bin .eql x0 x1,g⟩::r) env rs nx m K:=h
def tg7 (h:az Y draw (⟨.bin .add x0 x1,g⟩::r) env rs nx m K):az Y draw (⟨.bin .add x0 x1,g⟩::r) env rs nx m K:=h
def tg8 (h:az Y draw (⟨.bin .gtr x0 x1,g⟩::r) env rs nx m K):az Y draw (⟨.bin .gtr x0 x1,g⟩::r) env rs nx m K:=h
def tg9 (h:az Y draw (⟨.bin .neq x0 x1,g⟩::r) env rs nx m K):az Y draw (⟨.bin .neq x0 x1,g⟩::r) env rs nx m K:=h
def tg10 (h:az Y draw (⟨.bin .leq x0 x1,g⟩::r) env rs nx m K):az Y draw (⟨.bin .leq x0 x1,g⟩::r) env rs nx m K:=h
def tg11 (h:az Y draw (⟨.bin .geq x0 x1,g⟩::r) env rs nx m K):az Y draw (⟨.bin .geq x0 x1,g⟩::r) env rs nx m K:=h
def tg12 (h:az Y draw (⟨.bin .sub x0 x1,g⟩::r) env rs nx m K):az Y draw (⟨.bin .sub x0 x1,g⟩::r) env rs nx m K:=h
def tg13 (h:az Y draw (⟨.ext x0 n1,g⟩::r) env rs nx m K):az Y draw (⟨.ext x0 n1,g⟩::r) env rs nx m K:=h
def tg14 (h:az Y draw (⟨.pick x0 x1 (.c (.bool false)),g⟩::r) env rs nx m K):az Y draw (⟨.pick x0 x1 (.c (.bool false)),g⟩::r) env rs nx m K:=h
def tg15 (h:az Y draw (⟨.pick x0 (.c (.bool true)) x1,g⟩::r) env rs nx m K):az Y draw (⟨.pick x0 (.c (.bool true)) x1,g⟩::r) env rs nx m K:=h
def tg16 (h:az Y draw (⟨.un .not x0,g⟩::r) env rs nx m K):az Y draw (⟨.un .not x0,g⟩::r) env rs nx m K:=h
def tg17 (h:az Y draw (⟨.nilck x0,g⟩::r) env rs nx m K):az Y draw (⟨.nilck x0,g⟩::r) env rs nx m K:=h
def tg18 (h:az Y draw (⟨.box n0 x1,g⟩::r) env rs nx m K):az Y draw (⟨.box n0 x1,g⟩::r) env rs nx m K:=h
def tg19 (h:az Y draw (⟨.ia n0 x1 x2,g⟩::r) env rs nx m K):az Y draw (⟨.ia n0 x1 x2,g⟩::r) env rs nx m K:=h
def tg20 (h:az Y draw (⟨.ixS x0 x1,g⟩::r) env rs nx m K):az Y draw (⟨.ixS x0 x1,g⟩::r) env rs nx m K:=h
def tg21 (h:az Y draw (⟨.st n0 x1 x2,g⟩::r) env rs nx m K):az Y draw (⟨.st n0 x1 x2,g⟩::r) env rs nx m K:=h
def tg22 (h:az Y draw (⟨.len x0,g⟩::r) env rs nx m K):az Y draw (⟨.len x0,g⟩::r) env rs nx m K:=h
def tg23 (h:az Y draw (⟨.lenS x0,g⟩::r) env rs nx m K):az Y draw (⟨.lenS x0,g⟩::r) env rs nx m K:=h
def tg24 (h:az Y draw (⟨.rng x0,g⟩::r) env rs nx m K):az Y draw (⟨.rng x0,g⟩::r) env rs nx m K:=h
def tg25 (h:az Y draw (⟨.s2b x0,g⟩::r) env rs nx m K):az Y draw (⟨.s2b x0,g⟩::r) env rs nx m K:=h
def tg26 (h:az Y draw (⟨.mkB,g⟩::r) env rs nx m K):az Y draw (⟨.mkB,g⟩::r) env rs nx m K:=h
def tg27 (h:az Y draw (⟨.app n0 x1 x2,g⟩::r) env rs nx m K):az Y draw (⟨.app n0 x1 x2,g⟩::r) env rs nx m K:=h
end
def av {p q:Prop}(k:q)(h:Hid q sr->p:=by
 intro h;first
 |((with_reducible refine tg0 ?_);first|with_reducible exact aj h.1|with_reducible exact Ef h.1|with_reducible exact yH h.1|with_reducible exact IH h.1|with_reducible exact BX h.1|with_reducible exact wp_ret h.1|with_reducible exact wp_skip h.1|with_reducible exact yG h.1|with_reducible exact wp_exit h.1|with_reducible exact xa h.1 hm|with_reducible exact BW h.1 hm)
 |((with_reducible refine tg1 ?_);(refine Lk ?_;exact h.1))
 |((with_reducible refine tg2 ?_);first|(refine rrrh ?_;exact h.1)|(refine rrrg ?_;exact h.1))
 |((with_reducible refine tg3 ?_);first|(refine Lh ?_;exact h.1)|(refine Li ?_;exact h.1))
 |((with_reducible refine tg4 ?_);first|exact au (.int _ _) h.1|exact au (.str _) h.1|(refine a7 (v:=.str _) ?_;exact h.1)|(refine iP (v:=.str _) ?_;exact h.1)|(refine a7 (v:=.int _ _) ?_;exact h.1)|(refine iP (v:=.int _ _) ?_;exact h.1)|exact au (.sl _ _) h.1|exact au (.own _ _ _ _) h.1|exact au (.bool _) h.1|(refine a7 (v:=.sl _ _) ?_;exact h.1)|(refine iP (v:=.sl _ _) ?_;exact h.1)|(refine a7 (v:=.bool _) ?_;exact h.1)|(refine iP (v:=.bool _) ?_;exact h.1)|exact aH h.1|exact au .aC h.1)
 |((with_reducible refine tg5 ?_);first|(refine yc ?_;exact h.1)|(refine Iq ?_;exact h.1))
 |((with_reducible refine tg6 ?_);first|(refine Ic ?_;exact h.1)|(refine Ie ?_;exact h.1))
 |((with_reducible refine tg7 ?_);(refine aI ?_;exact h.1))
 |((with_reducible refine tg8 ?_);first|(refine Ii ?_;exact h.1)|(refine Ij ?_;exact h.1))
 |((with_reducible refine tg9 ?_);first|(refine Ir ?_;exact h.1)|(refine Is ?_;exact h.1))
 |((with_reducible refine tg10 ?_);first|(refine Io ?_;exact h.1)|(refine Ip ?_;exact h.1))
 |((with_reducible refine tg11 ?_);first|(refine Ig ?_;exact h.1)|(refine Ih ?_;exact h.1))
 |((with_reducible refine tg12 ?_);(refine er ?_;exact h.1))
 |((with_reducible refine tg13 ?_);first|exact iO (.int _ _) h.1|exact iO (.str _) h.1|exact iO (.bool _) h.1)
 |((with_reducible refine tg14 ?_);(refine Ld ?_;exact h.1))
 |((with_reducible refine tg15 ?_);(refine r_or ?_;exact h.1))
 |((with_reducible refine tg16 ?_);(refine Ll ?_;exact h.1))
 |((with_reducible refine tg17 ?_);first|(refine It ?_;exact h.1)|(refine Iu ?_;exact h.1))
 |((with_reducible refine tg18 ?_);(refine Lg ?_;exact h.1))
 |((with_reducible refine tg19 ?_);first|exact ba _ h.1|exact Dz h.1|exact kH _ h.1|exact Ik h.1)
 |((with_reducible refine tg20 ?_);first|exact DA _ h.1|exact Il h.1)
 |((with_reducible refine tg21 ?_);exact dq _ h.1)
 |((with_reducible refine tg22 ?_);first|exact DB fun a=>(h.1:_->_) (a rfl rfl)|exact DC fun a=>(h.1:_->_) (a rfl rfl)|(refine Im ?_;exact h.1))
 |((with_reducible refine tg23 ?_);exact DE fun a=>(h.1:_->_) (a rfl rfl))
 |((with_reducible refine tg24 ?_);(refine Ln ?_;exact h.1))
 |((with_reducible refine tg25 ?_);(refine Lo ?_;exact h.1))
 |((with_reducible refine tg26 ?_);(refine Lj ?_;exact h.1))
 |((with_reducible refine tg27 ?_);(refine iH ?_;exact h.1))
 |with_reducible exact BQ.normal h.1|with_reducible exact BQ.ret h.1|with_reducible exact LQ.normal h.1|with_reducible exact LQ.out h.1|with_reducible exact LQ.ret h.1|with_reducible exact BQ.out h.1|with_reducible exact xn.normal h.1|with_reducible exact xn.ret h.1|with_reducible exact xp.normal h.1|with_reducible exact xp.ret h.1|with_reducible exact xn.out h.1|with_reducible exact xp.out h.1|with_reducible exact CQ.normal h.1|with_reducible exact CQ.ret h.1|with_reducible exact CQ.other h.1|((with_reducible refine BQ.other ?_ h.1);exact rfl)|((with_reducible refine LQ.other ?_ h.1);exact rfl)|((with_reducible refine xn.other ?_ h.1);exact rfl)|((with_reducible refine xp.other ?_ h.1);exact rfl)):p:=h ⟨k⟩
def jv {p q:Prop}(k:q)(h:Hid q sr->p:=by intro h;first|exact DB fun _=>h.1|exact DE fun _=>h.1|exact DC fun _=>h.1):p:=h ⟨k⟩
section
variable {Y:Ctx} {Q:Ex->List bz->St->Prop}
end
def tW:(∀{p:Prop} [Decidable p],(decide p=true)=p)/\(∀{p:Prop} [Decidable p],decide p=false↔¬p)/\(∀b:Bool,((!b)=true)=(b=false))/\(∀b:Bool,((!b)=false)=(b=true))/\(∀b:Bool,(¬(b=false))=(b=true))/\(∀a b:Bool,((a ||b)=true)=(a=true\/b=true))/\(∀{a b:Bool},(a ||b)=false↔a=false/\b=false)/\(∀a b:Bool,((a&&b)=true)=(a=true/\b=true))/\(∀{a b:Bool},(a&&b)=false↔a=false\/b=false)/\(∀b:Bool,(¬(b=true))=(b=false))/\(∀b:Bool,(true&&b)=b)/\∀b:Bool,(b&&true)=b:=
 ⟨dI,fo,eB,oy,Bool.not_eq_false,ib,nD,cj,hZ,Bool.not_eq_true,pw,eS⟩
section
variable {Y:Ctx} {Q:Ex->List bz->St->Prop} {env:List bz} {st:St}
def cF {c:Src}{a b r:AC}{t:Bool}{c1 c2:Prop}(h1:c1->bO Y (.seq a r) Q env st)(h2:c2->bO Y (.seq b r) Q env st)(hc:cn env [] c=⟨true,.bool t⟩:=by exact rfl)(e1:t=true->c1:=by intro h;(try simp only[tW]at h);exact h)(e2:t=false->c2:=by intro h;(try simp only[tW]at h);exact h):bO Y (.seq (.cond c a b) r) Q env st:=b8 (fun h=>h1 (e1 h)) (fun h=>h2 (e2 h)) hc
def eE {c:Src}{a b:AC}{t:Bool}{c1 c2:Prop}(h1:c1->bO Y a Q env st)(h2:c2->bO Y b Q env st)(hc:cn env [] c=⟨true,.bool t⟩:=by exact rfl)(e1:t=true->c1:=by intro h;(try simp only[tW]at h);exact h)(e2:t=false->c2:=by intro h;(try simp only[tW]at h);exact h):bO Y (.cond c a b) Q env st:=wp_cond (fun h=>h1 (e1 h)) (fun h=>h2 (e2 h)) hc
end
end Go.Abs
namespace Go.Abs
variable {Y:Ctx}(hm:(Y.at 0).cb)
def ax {p q:Prop}(k:q)(h:Hid q sr->p:=by intro h;(iterate 2 refine av ?_);exact h.1):p:=h ⟨k⟩
def aq {p q:Prop}(k:q)(h:Hid q sr->p:=by intro h;(iterate 3 refine av ?_);exact h.1):p:=h ⟨k⟩
def aE {p q:Prop}(k:q)(h:Hid q sr->p:=by intro h;(iterate 4 refine av ?_);exact h.1):p:=h ⟨k⟩
def aB {p q:Prop}(k:q)(h:Hid q sr->p:=by intro h;(iterate 5 refine av ?_);exact h.1):p:=h ⟨k⟩
def aT {p q:Prop}(k:q)(h:Hid q sr->p:=by intro h;(iterate 6 refine av ?_);exact h.1):p:=h ⟨k⟩
def cC {p q:Prop}(k:q)(h:Hid q sr->p:=by intro h;(iterate 7 refine av ?_);exact h.1):p:=h ⟨k⟩
def gR {p q:Prop}(k:q)(h:Hid q sr->p:=by intro h;(iterate 8 refine av ?_);exact h.1):p:=h ⟨k⟩
def iI {p q:Prop}(k:q)(h:Hid q sr->p:=by intro h;(iterate 9 refine av ?_);exact h.1):p:=h ⟨k⟩
def lX {p q:Prop}(k:q)(h:Hid q sr->p:=by intro h;(iterate 10 refine av ?_);exact h.1):p:=h ⟨k⟩
def xm {p q:Prop}(k:q)(h:Hid q sr->p:=by intro h;(iterate 11 refine av ?_);exact h.1):p:=h ⟨k⟩
def iE {p q:Prop}(k:q)(h:Hid q sr->p:=by intro h;(iterate 12 refine av ?_);exact h.1):p:=h ⟨k⟩
def Eo {p q:Prop}(k:q)(h:Hid q sr->p:=by intro h;(iterate 13 refine av ?_);exact h.1):p:=h ⟨k⟩
def GP {p q:Prop}(k:q)(h:Hid q sr->p:=by intro h;(iterate 14 refine av ?_);exact h.1):p:=h ⟨k⟩
def Ep {p q:Prop}(k:q)(h:Hid q sr->p:=by intro h;(iterate 15 refine av ?_);exact h.1):p:=h ⟨k⟩
def LO {p q:Prop}(k:q)(h:Hid q sr->p:=by intro h;(iterate 16 refine av ?_);exact h.1):p:=h ⟨k⟩
def LP {p q:Prop}(k:q)(h:Hid q sr->p:=by intro h;(iterate 17 refine av ?_);exact h.1):p:=h ⟨k⟩
def LR {p q:Prop}(k:q)(h:Hid q sr->p:=by intro h;(iterate 18 refine av ?_);exact h.1):p:=h ⟨k⟩
def GQ {p q:Prop}(k:q)(h:Hid q sr->p:=by intro h;(iterate 21 refine av ?_);exact h.1):p:=h ⟨k⟩
def LS {p q:Prop}(k:q)(h:Hid q sr->p:=by intro h;(iterate 26 refine av ?_);exact h.1):p:=h ⟨k⟩
def LV {p q:Prop}(k:q)(h:Hid q sr->p:=by intro h;(iterate 28 refine av ?_);exact h.1):p:=h ⟨k⟩
end Go.Abs
namespace Go.Abs
variable {Y:Ctx}(hm:(Y.at 0).cb)
abbrev s0:Src:=.s 0
abbrev s1:Src:=.s 1
abbrev s2:Src:=.s 2
abbrev s3:Src:=.s 3
abbrev s4:Src:=.s 4
abbrev s5:Src:=.s 5
abbrev s6:Src:=.s 6
abbrev s7:Src:=.s 7
abbrev s8:Src:=.s 8
abbrev s9:Src:=.s 9
abbrev gu:Src:=.s 10
abbrev oc:Src:=.s 11
abbrev od:Src:=.s 12
abbrev wP:Src:=.s 13
abbrev zj:Src:=.s 14
abbrev GG:Src:=.s 15
abbrev Iv:Src:=.s 16
abbrev Iw:Src:=.s 17
abbrev s18:Src:=.s 18
abbrev s19:Src:=.s 19
abbrev s20:Src:=.s 20
abbrev s21:Src:=.s 21
abbrev s22:Src:=.s 22
abbrev l0:Src:=.l 0
abbrev l1:Src:=.l 1
abbrev l2:Src:=.l 2
abbrev l3:Src:=.l 3
abbrev l4:Src:=.l 4
abbrev l5:Src:=.l 5
abbrev l6:Src:=.l 6
abbrev l7:Src:=.l 7
abbrev l8:Src:=.l 8
abbrev l9:Src:=.l 9
abbrev l10:Src:=.l 10
abbrev gw:Src:=.l 11
abbrev ik:Src:=.l 12
abbrev iL:Src:=.l 13
abbrev jy:Src:=.l 14
abbrev jZ:Src:=.l 15
abbrev kU:Src:=.l 16
abbrev oz:Src:=.l 17
abbrev qp:Src:=.l 18
abbrev uu:Src:=.l 19
abbrev vQ:Src:=.l 20
abbrev xO:Src:=.l 21
abbrev xP:Src:=.l 22
abbrev B3:Src:=.l 23
abbrev Er:Src:=.l 24
abbrev Fk:Src:=.l 25
abbrev HR:Src:=.l 26
abbrev HS:Src:=.l 27
abbrev HT:Src:=.l 28
abbrev IQ:Src:=.l 29
abbrev l30:Src:=.l 30
abbrev l31:Src:=.l 31
abbrev l32:Src:=.l 32
abbrev l33:Src:=.l 33
abbrev l34:Src:=.l 34
abbrev l35:Src:=.l 35
abbrev l36:Src:=.l 36
abbrev l37:Src:=.l 37
abbrev l38:Src:=.l 38
abbrev l39:Src:=.l 39
abbrev l40:Src:=.l 40
abbrev gm (x:Src):GI:=⟨.mv x,none⟩
abbrev gn (x:ay):GI:=⟨x,none⟩
abbrev i6 (n:Int):Src:=.c (.int .i64 n)
abbrev cs (s:List UInt8):Src:=.c (.str s)
abbrev gd (x:Src):GI:=⟨.ld 1 false x,none⟩
abbrev gk (n:Nat)(b:Bool)(x:Src):GI:=⟨.ld n b x,none⟩
abbrev gf (n:Nat)(x:Src):GI:=⟨.fa n x,none⟩
abbrev gl (x:Src):GI:=⟨.len x,none⟩
abbrev ga (n:Nat)(x y:Src):GI:=⟨.ia n x y,none⟩
abbrev ge (x:Src)(n:Nat):GI:=⟨.ext x n,none⟩
abbrev gb (n:Nat)(x:Src):GI:=⟨.box n x,none⟩
abbrev gc (x:Src):GI:=⟨.nilck x,none⟩
abbrev gt (n:Nat)(x y:Src):GI:=⟨.st n x y,none⟩
abbrev gx (n:Nat)(x:List Src)(y:List (List Sh)):GI:=⟨.call n x y,none⟩
abbrev rg (x:List GI)(y:List (Nat×Nat)):AC:=.reg false x y
abbrev rt (x:List GI)(y:List (Nat×Nat)):AC:=.reg true x y
abbrev iJ (x y:Src):ay:=.bin .lss x y
abbrev dU (x y:Src):ay:=.bin .eql x y
abbrev dN (x y:Src):ay:=.bin .gtr x y
abbrev fL (x y:Src):ay:=.bin .neq x y
abbrev sS (x y:Src):ay:=.bin .leq x y
abbrev fX (x y:Src):ay:=.bin .geq x y
abbrev lj (x y:Src):ay:=.bin .sub x y
abbrev vu (x y:Src):ay:=.bin .and x y
abbrev b_or (x y:Src):ay:=.bin .or x y
abbrev cJ:Src:=.c (.bool false)
abbrev ma:Src:=.c (.bool true)
abbrev cse:Src:=.c (.str [])
abbrev bJ:Src:=.c (.int .i64 0)
abbrev cD:Src:=.c (.int .i64 1)
abbrev um:Src:=.c (.int .i64 2)
abbrev Fh:Src:=.c (.int .i64 3)
abbrev HP:Src:=.c (.int .i64 4)
abbrev ic5:Src:=.c (.int .i64 5)
abbrev ic6:Src:=.c (.int .i64 6)
abbrev ic8:Src:=.c (.int .i64 8)
abbrev ic9:Src:=.c (.int .i64 9)
abbrev gmt (n:Nat)(x:Src):GI:=⟨.mv x,some (n,true)⟩
abbrev gS (n:Nat)(x:Src):GI:=⟨.ld 1 false x,some (n,true)⟩
abbrev ew (n o:Nat)(x:Src):GI:=⟨.fa o x,some (n,true)⟩
abbrev bS (n:Nat)(x:ay):GI:=⟨x,some (n,true)⟩
abbrev eh (n:Nat)(x:Src):GI:=⟨.mv x,some (n,false)⟩
abbrev gV (n:Nat)(x:Src):GI:=⟨.ld 1 false x,some (n,false)⟩
abbrev gB (n o:Nat)(x:Src):GI:=⟨.fa o x,some (n,false)⟩
abbrev cg (n:Nat)(x:ay):GI:=⟨x,some (n,false)⟩
abbrev sq (a b:AC):AC:=.seq a b
abbrev CU (x:Src):AC:=.seq (.reg false [⟨.mv x,none⟩] [(1,0)]) .ret
abbrev vH (c x:Src):AC:=.cond c (.seq (.reg false [⟨.mv x,none⟩] [(1,0)]) .ret) .skip
abbrev cU:List (List Sh):=[[.a]]
abbrev ha2:List (List Sh):=[[.a,.a]]
abbrev lB:List (List Sh):=[[.a,.a,.a,.a,.a]]
abbrev sZ:List (List Sh):=[[.a,.a,.a,.a,.a,.a,.a]]
abbrev j9:List (List Sh):=[[.a],[.a]]
abbrev eg (c x:Src):GI:=⟨.pick c (.c (.bool true)) x,none⟩
abbrev eP (c x:Src):GI:=⟨.pick c x (.c (.bool false)),none⟩
abbrev HL (n:Nat)(c x:Src):GI:=⟨.pick c (.c (.bool true)) x,some (n,true)⟩
abbrev sC (n:Nat)(c x:Src):GI:=⟨.pick c x (.c (.bool false)),some (n,false)⟩
abbrev aN (x y:Src):GI:=⟨.bin .lss x y,none⟩
abbrev bL (x y:Src):GI:=⟨.bin .eql x y,none⟩
abbrev aR (x y:Src):GI:=⟨.bin .add x y,none⟩
abbrev ey (x y:Src):GI:=⟨.bin .gtr x y,none⟩
abbrev dm (x y:Src):GI:=⟨.bin .neq x y,none⟩
abbrev uA (x y:Src):GI:=⟨.bin .leq x y,none⟩
abbrev lJ (x y:Src):GI:=⟨.bin .geq x y,none⟩
abbrev jk (x y:Src):GI:=⟨.bin .sub x y,none⟩
abbrev gY (x y:Src):GI:=⟨.bin .and x y,none⟩
abbrev GA (x y:Src):GI:=⟨.bin .or x y,none⟩
abbrev fH (c:Src)(n:Nat):AC:=.cond c .skip (.exit n)
abbrev i8 (n:Int):Src:=.c (.int .u8 n)
abbrev i3 (n:Int):Src:=.c (.int .i32 n)
abbrev Ff (x:Src):GI:=⟨.lenS x,none⟩
abbrev jD (x:Src):GI:=⟨.un .not x,none⟩
abbrev HK (x y:Src):GI:=⟨.ixS x y,none⟩
abbrev r1 (x:List GI)(a b:Nat):AC:=.reg false x [(a,b)]
abbrev r2 (x:List GI)(a b:Nat):AC:=.reg true x [(a,b)]
abbrev kV:List xq:=[⟨1,none⟩]
end Go.Abs
end
namespace Go.Abs
variable {Y:Ctx}(hm:(Y.at 0).cb)
def qH (T:List D->D->Prop):Prop:=∀(s:cV),T [.str s] (.tup [.int .i64 (p0 s),.bool (iG s)])
def G9 (Y:Ctx):Prop:=qH (bG Y 658)
def qE (T:List D->D->Prop):Prop:=∀(s:cV) (b:Int),(s.length<=1048576)->T [.str s,.int .u8 b] (.sl 1 ((bg s b).map D.str))
def EF (Y:Ctx):Prop:=qE (bG Y 533)
def qI (T:List D->D->Prop):Prop:=∀(t:cV),T [.str t] (.bool (b7 t))
def Ha (Y:Ctx):Prop:=qI (bG Y 659)
def qA (T:List D->D->Prop):Prop:=∀(n:Int),T [.int .i64 n] (.bool (xG n))
def Ja (Y:Ctx):Prop:=qA (bG Y 440)
def zY (T:List D->D->Prop):Prop:=∀(s:cV),(s.length<=1048576)->T [.str s] (.bool (j6 s false))
def G2 (Y:Ctx):Prop:=zY (bG Y 442)
def Av (T:List D->D->Prop):Prop:=∀(x:Int),T [.int .i64 x] (.bool false)
def Jz (Y:Ctx):Prop:=Av (bG Y 714)
def Au (T:List D->D->Prop):Prop:=∀(x:cV),T [.str x] (.bool false)
def Jx (Y:Ctx):Prop:=Au (bG Y 704)
def qD (T:List D->D->Prop):Prop:=∀(a:Int) (b:Int),T [.int .i64 a,.int .i64 b] (.int .i64 (cK a b))
def EE (Y:Ctx):Prop:=qD (bG Y 532)
def qB (T:List D->D->Prop):Prop:=∀(a:cV) (b:cV),T [.str a,.str b] (.int .i64 (jz a b))
def G4 (Y:Ctx):Prop:=qB (bG Y 516)
def z7 (T:List D->D->Prop):Prop:=∀(l:List Int),T [.sl 1 (l.map (D.int .i64))] (.int .i64 (e9 (fun i=>l[i]!) 0 l.length))
def G5 (Y:Ctx):Prop:=z7 (bG Y 531)
def qC (T:List D->D->Prop):Prop:=∀(v:aU),T [aU.D v] (aU.D (ir v))
def Jf (Y:Ctx):Prop:=qC (bG Y 530)
def qF (T:List D->D->Prop):Prop:=∀(a:cV) (b:cV),T [.str a,.str b] (.int .i64 (mH a b))
def Jg (Y:Ctx):Prop:=qF (bG Y 534)
def G3 (Y:Ctx):Prop:=qE (bG Y 470)
def zZ (T:List D->D->Prop):Prop:=∀(c:Int),T [.int .u8 c] (.bool (cH c))
def Jc (Y:Ctx):Prop:=zZ (bG Y 454)
def Hb (Y:Ctx):Prop:=qH (bG Y 667)
def Hc (Y:Ctx):Prop:=qI (bG Y 668)
def At (T:List D->D->Prop):Prop:=∀(t:cV),T [.str t] (.bool (mG t))
def Jw (Y:Ctx):Prop:=At (bG Y 666)
def z6 (T:List D->D->Prop):Prop:=∀(s:cV) (p:Bool),(s.length<=1048576)->T [.str s,.bool p] (.bool (pL s p))
def Je (Y:Ctx):Prop:=z6 (bG Y 456)
def Jd (Y:Ctx):Prop:=qA (bG Y 455)
def qy (T:List D->D->Prop):Prop:=∀(v:aU),(v.sm)->T [aU.D v] (.bool (hY v))
def sw (Y:Ctx):Prop:=qy (bG Y 217)
def B9 (Y:Ctx):Prop:=qD (bG Y 630)
def JQ (Y:Ctx):Prop:=qB (bG Y 927)
def JH (Y:Ctx):Prop:=qF (bG Y 783)
def Am (T:List D->D->Prop):Prop:=∀(a:cV) (b:cV),(a.length<=1048576/\b.length<=1048576)->T [.str a,.str b] (.int .i64 (pd a b))
def Js (Y:Ctx):Prop:=Am (bG Y 631)
def qz (T:List D->D->Prop):Prop:=∀(a:aU) (b:aU),(a.sm/\b.sm)->T [aU.D a,aU.D b] (.int .i64 (jG a b))
def ED (Y:Ctx):Prop:=qz (bG Y 424)
def ow (T:List D->D->Prop):Prop:=∀(c:Cut),(c.v.sm)->T [Cut.D c] (.bool (jA c))
def yM (Y:Ctx):Prop:=ow (bG Y 1086)
def ou (T:List D->D->Prop):Prop:=∀(a:Cut) (b:Cut),(a.v.sm/\b.v.sm)->T [Cut.D a,Cut.D b] (.int .i64 (eL a b))
def sO (Y:Ctx):Prop:=ou (bG Y 1020)
def ov (T:List D->D->Prop):Prop:=∀(c:Cut) (v:aU),(c.v.sm/\v.sm)->T [Cut.D c,aU.D v] (.bool (eY c v))
def F9 (Y:Ctx):Prop:=ov (bG Y 1025)
def ot (T:List D->D->Prop):Prop:=∀(s:Span),(s.sm)->T [Span.D s] (.bool (iD s))
def yL (Y:Ctx):Prop:=ot (bG Y 1019)
def qM (T:List D->D->Prop):Prop:=∀(s:Span) (v:aU),(s.sm/\v.sm)->T [Span.D s,aU.D v] (.bool (jH s v))
def JP (Y:Ctx):Prop:=qM (bG Y 926)
def qL (T:List D->D->Prop):Prop:=∀(l:List Span),(bh l)->T [.sl 14 (l.map Span.D)] (.bool (jM l))
def Cc (Y:Ctx):Prop:=qL (bG Y 916)
def qK (T:List D->D->Prop):Prop:=∀(l:List Span) (v:aU),(bh l/\v.sm)->T [.sl 14 (l.map Span.D),aU.D v] (.bool (kD l v))
def JG (Y:Ctx):Prop:=qK (bG Y 782)
def Ac (T:List D->D->Prop):Prop:=∀(v:aU),T [aU.D v] (.bool (nj v))
def G7 (Y:Ctx):Prop:=Ac (bG Y 600)
def AI (T:List D->D->Prop):Prop:=∀(c:Cut),T [Cut.D c] (.bool (hR c))
def JN (Y:Ctx):Prop:=AI (bG Y 917)
def qJ (T:List D->D->Prop):Prop:=∀(s:bd),(s.sm)->T [bd.D s] (.bool (og s))
def Cb (Y:Ctx):Prop:=qJ (bG Y 770)
def qG (T:List D->D->Prop):Prop:=∀(s:bd) (v:aU),(s.sm/\v.sm)->T [bd.D s,aU.D v] (.bool (mE s v))
def Jr (Y:Ctx):Prop:=qG (bG Y 627)
def Ad (T:List D->D->Prop):Prop:=T [] (Cut.D kq)
def EG (Y:Ctx):Prop:=Ad (bG Y 601)
def Af (T:List D->D->Prop):Prop:=T [] (Cut.D nZ)
def EH (Y:Ctx):Prop:=Af (bG Y 603)
def G6 (Y:Ctx):Prop:=qC (bG Y 599)
def zK (T:List D->D->Prop):Prop:=∀(v:aU),T [aU.D v] (Cut.D (jB v))
def EB (Y:Ctx):Prop:=zK (bG Y 376)
def zL (T:List D->D->Prop):Prop:=∀(v:aU),T [aU.D v] (Cut.D (ql v))
def I2 (Y:Ctx):Prop:=zL (bG Y 377)
def Ay (T:List D->D->Prop):Prop:=∀(v:aU) (p:Int),(v.sm)->T [aU.D v,.int .i64 p] (.tup [aU.D (eD v p).1,.bool (eD v p).2])
def JC (Y:Ctx):Prop:=Ay (bG Y 769)
def Ae (T:List D->D->Prop):Prop:=∀(v:aU),(v.sm)->T [aU.D v] (.tup [aU.D (fZ v).1,.bool (fZ v).2])
def Jk (Y:Ctx):Prop:=Ae (bG Y 602)
def zJ (T:List D->D->Prop):Prop:=T [] (bd.D rE)
def B8 (Y:Ctx):Prop:=zJ (bG Y 375)
def Ab (T:List D->D->Prop):Prop:=T [] (.sl 14 (nC.map Span.D))
def Jj (Y:Ctx):Prop:=Ab (bG Y 598)
def zI (T:List D->D->Prop):Prop:=T [] (bd.D tS)
def GZ (Y:Ctx):Prop:=zI (bG Y 374)
def zM (T:List D->D->Prop):Prop:=∀(v:aU),T [aU.D v] (Cut.D (lg v))
def I3 (Y:Ctx):Prop:=zM (bG Y 378)
def zN (T:List D->D->Prop):Prop:=∀(v:aU),T [aU.D v] (Cut.D (vw v))
def I4 (Y:Ctx):Prop:=zN (bG Y 379)
def zz (T:List D->D->Prop):Prop:=∀(v:aU),(v.sm)->T [aU.D v] (bd.D (bo v))
def GU (Y:Ctx):Prop:=zz (bG Y 156)
def xf (T:List D->D->Prop):Prop:=∀(l:List Cut) (c:Cut),((kX l/\c.sm)/\l.length<=10000)->T [.sl 7 (l.map Cut.D),Cut.D c] (.sl 7 ((pP l c).map Cut.D))
def F8 (Y:Ctx):Prop:=xf (bG Y 1021)
def AJ (T:List D->D->Prop):Prop:=∀(l:List Span),(bh l/\l.length<=2000)->T [.sl 14 (l.map Span.D)] (.sl 7 ((b6 l).map Cut.D))
def Hg (Y:Ctx):Prop:=AJ (bG Y 919)
def AK (T:List D->D->Prop):Prop:=∀(l:List Span) (f:Cut) (t:Cut),(bh l/\f.sm/\t.sm)->T [.sl 14 (l.map Span.D),Cut.D f,Cut.D t] (.bool (m7 l f t))
def Hh (Y:Ctx):Prop:=AK (bG Y 920)
def EI (Y:Ctx):Prop:=∀(out:List Span) (f t:Cut),((bh out/\f.sm/\t.sm)/\out.length<=100000)->∀(nx lo:Nat) (m:List (Nat×bB)) (K:D->St->Prop),look m lo=some (.buf 14 (out.map Span.D))->lo<nx->K (.own nx 14 0 (jg out f t).length) ⟨nx+1,(nx,.buf 14 ((jg out f t).map Span.D))::cO m lo⟩->Y.tr 921 [.own lo 14 0 out.length,Cut.D f,Cut.D t] ⟨nx,m⟩ K
def Hf (Y:Ctx):Prop:=∀(l:List Span),(bh l/\l.length<=2000)->∀(nx lo:Nat) (m:List (Nat×bB)) (K:D->St->Prop),look m lo=some (.buf 14 (l.map Span.D))->lo<nx->K (.tup [.sl 14 ((lH l).1.map Span.D),.bool (lH l).2]) ⟨nx,cO m lo⟩->Y.tr 918 [.own lo 14 0 l.length] ⟨nx,m⟩ K
def AA (T:List D->D->Prop):Prop:=∀(l:List Span),(bh l/\l.length<=2000)->T [.sl 14 (l.map Span.D)] (.sl 14 ((pZ l).map Span.D))
def JE (Y:Ctx):Prop:=AA (bG Y 772)
section
section
variable {Y:Ctx} {draw:Bool} {r:List GI} {env rs:List bz} {nx:Nat} {m:List (Nat×bB)} {K:List bz->St->Prop} {f:Bool} {g:Option (Nat×Bool)}
def rR {n:Nat}{x:Src}{fx:Bool}{d:D}(k:Nat)(h:az Y draw r env (⟨f,.fn k [d]⟩::rs) nx m K)(hk:n+4000000=k:=by exact rfl)(hg:GF rs g f:=by first|exact rfl|exact⟨_,_,rfl,rfl⟩)(hx:cn env rs x=⟨fx,d⟩:=by exact rfl)(kx:f=true->fx=true:=by first|exact fun _=>rfl|exact fun h=>h|(intro h;simp_all)):az Y draw (⟨.mkI n x,g⟩::r) env rs nx m K:=
 bM rfl hg _ (fun hf=>by simp only[ay.dd,hx];exact kx hf) (fun hf=>by simp only[ay.val,hx,hk]) (fun _=>h)
def wq {x:Src}{fx:Bool}{k:Nat}{cs:List D}(b:Bool)(h:az Y draw r env (⟨f,.bool b⟩::rs) nx m K)(hx:cn env rs x=⟨fx,.fn k cs⟩:=by exact rfl)(hk:4000000<=k/\k<=4600000:=by decide)(hb:(k==4600000)=b:=by exact rfl)(hg:GF rs g f:=by first|exact rfl|exact⟨_,_,rfl,rfl⟩)(kx:f=true->fx=true:=by first|exact fun _=>rfl|exact fun h=>h|(intro h;simp_all)):az Y draw (⟨.isI x,g⟩::r) env rs nx m K:=
 bM rfl hg _ (fun hf=>by simp only[ay.dd,hx];exact⟨kx hf,hk⟩) (fun hf=>by simp only[ay.val,hx,hb]) (fun _=>h)
def uM {n:Nat}{z:D}{x:Src}{fx:Bool}{k:Nat}{d:D}(h:az Y draw r env (⟨f,.tup [d,.bool true]⟩::rs) nx m K)(hx:cn env rs x=⟨fx,.fn k [d]⟩:=by exact rfl)(hk:4000000<=k/\k<=4600000:=by decide)(hb:(k==n+4000000)=true:=by exact rfl)(hg:GF rs g f:=by first|exact rfl|exact⟨_,_,rfl,rfl⟩)(kx:f=true->fx=true:=by first|exact fun _=>rfl|exact fun h=>h|(intro h;simp_all)):az Y draw (⟨.tas n z x,g⟩::r) env rs nx m K:=
 bM rfl hg _ (fun hf=>by simp only[ay.dd,hx];exact⟨kx hf,hk⟩) (fun hf=>by simp only[ay.val,hx,hb,cond_true,fK]) (fun _=>h)
def pg {n:Nat}{z:D}{x:Src}{fx:Bool}{k:Nat}{cs:List D}(h:az Y draw r env (⟨f,.tup [z,.bool false]⟩::rs) nx m K)(hx:cn env rs x=⟨fx,.fn k cs⟩:=by exact rfl)(hk:4000000<=k/\k<=4600000:=by decide)(hb:(k==n+4000000)=false:=by exact rfl)(hg:GF rs g f:=by first|exact rfl|exact⟨_,_,rfl,rfl⟩)(kx:f=true->fx=true:=by first|exact fun _=>rfl|exact fun h=>h|(intro h;simp_all)):az Y draw (⟨.tas n z x,g⟩::r) env rs nx m K:=
 bM rfl hg _ (fun hf=>by simp only[ay.dd,hx];exact⟨kx hf,hk⟩) (fun hf=>by simp only[ay.val,hx,hb,cond_false]) (fun _=>h)
def uK {x:Src}{fx:Bool}{k:Nat}{cs S2:List D}{v:D}(n:Nat)(h:az Y draw r env (⟨f,v⟩::rs) nx m K)(hc:Y.pre n S2/\Y.val n S2=v)(hx:cn env rs x=⟨fx,.fn k cs⟩:=by exact rfl)(hk:(4000000<=k/\k<4600000)/\k-4000000=n:=by decide)(ha:hN m [] cs=S2:=by exact rfl)(hn:aJ cs=true:=by exact rfl)(hg:GF rs g f:=by first|exact rfl|exact⟨_,_,rfl,rfl⟩)(kx:f=true->fx=true:=by first|exact fun _=>rfl|exact fun h=>h|(intro h;simp_all)):az Y draw (⟨.invk x,g⟩::r) env rs nx m K:=
 eR rfl hg _ (fun hf=>by simp only[ay.dd,hx,hk.2,(cx _ _ _).1,ha];exact⟨kx hf,hk.1,hn,hc.1⟩) (fun hf=>by simp only[ay.val,hx,hk.2,(cx _ _ _).1,ha,hc.2]) m rfl (fun _=>h)
def FF {x:Src}{j:Nat}{w:Bool}(d:D)(h:az Y draw r env (⟨false,d⟩::rs) nx m K)(hg:GF rs (some (j,w)) false:=by exact⟨_,_,rfl,rfl⟩):az Y draw (⟨.invk x,some (j,w)⟩::r) env rs nx m K:=
 eR rfl hg d (fun hf=>by cases hf) (fun hf=>by cases hf) m rfl (fun _=>h)
def tp (h:az Y draw r env (⟨f,.fn 4700000 []⟩::rs) nx m K)(hg:GF rs g f:=by first|exact rfl|exact⟨_,_,rfl,rfl⟩):az Y draw (⟨.zal,g⟩::r) env rs nx m K:=
 eR rfl hg _ (fun _=>trivial) (fun _=>rfl) m rfl (fun _=>h)
def DJ {p v:Src}{fp fv:Bool}{cs:List D}(h:az Y draw r env (⟨f,.any⟩::rs) nx m K)(hx:cn env rs p=⟨fp,.fn 4700000 cs⟩:=by exact rfl)(hy:cn env rs v=⟨fv,.agg []⟩:=by exact rfl)(hg:GF rs g f:=by first|exact rfl|exact⟨_,_,rfl,rfl⟩)(kx:f=true->fp=true:=by first|exact fun _=>rfl|exact fun h=>h|(intro h;simp_all))(ky:f=true->fv=true:=by first|exact fun _=>rfl|exact fun h=>h|(intro h;simp_all)):az Y draw (⟨.zst p v,g⟩::r) env rs nx m K:=
 bM rfl hg _ (fun hf=>by simp only[ay.dd,hx,hy];exact⟨kx hf,ky hf,trivial⟩) (fun _=>rfl) (fun _=>h)
def uJ {n:Nat}{args:List Src}{chk:List (Nat×Nat×Bool×Src)}{S2:List D}{v:D}{nx':Nat}{m':List (Nat×bB)}(h:az Y draw r env (⟨true,v⟩::rs) nx' m' K)
  (hc:∀K':D->St->Prop,K' v ⟨nx'+rs.length,m'⟩->Y.tr n S2 ⟨nx+rs.length,m⟩ K') (hn:nx<=nx')
  (hk:∀c∈chk,uv m' c.2.1 (Src.ev env (rs.reverse.take c.1) c.2.2.2).d/\su m' c.2.1 c.2.2.1 (Src.ev env (rs.reverse.take c.1) c.2.2.2).d=(rs.reverse.getD c.1 .un).d) (ha:e8 (cn env rs) args=S2:=by exact rfl)
  (ho:pH (cn env rs) args:=by repeat' first|exact trivial|exact rfl|refine And.intro ?_ ?_):az Y draw (⟨.callL n args chk,none⟩::r) env rs nx m K:=by
 unfold az at h⊢;show none=none/\pH (Src.ev env rs.reverse) args/\Y.tr n (e8 (Src.ev env rs.reverse) args) {nx:=nx+rs.reverse.length,m:=m} _;rw[jC,ha,List.length_reverse];refine⟨rfl,ho,hc _ ⟨fun c hcc _=>hk c hcc,by simp only;omega, ?_⟩⟩;simp only[Nat.add_sub_cancel];simpa using h
end
end
def Az (T:List D->D->Prop):Prop:=∀(a:List Span) (b:List Span),(AY a/\AY b)->T [.sl 14 (a.map Span.D),.sl 14 (b.map Span.D)] (.sl 14 ((B4 a b).map Span.D))
def JD (Y:Ctx):Prop:=Az (bG Y 771)
def Ag (T:List D->D->Prop):Prop:=∀(a:bd) (b:bd),(xy a/\xy b)->T [bd.D a,bd.D b] (bd.D (Dj a b))
def Jl (Y:Ctx):Prop:=Ag (bG Y 604)
def Ah (T:List D->D->Prop):Prop:=∀(a:bd),(xy a)->T [bd.D a] (bd.D (uD a))
def Jm (Y:Ctx):Prop:=Ah (bG Y 605)
def zX (T:List D->D->Prop):Prop:=∀(s:cV),(s.length<=1048576)->T [.str s] (.bool (j6 s true))
def Jb (Y:Ctx):Prop:=zX (bG Y 441)
def xr (Y:Ctx):Prop:=qy (bG Y 209)
def Ei (T:List D->D->Prop):Prop:=∀(v:Int) (n:Int),(n<=9223372036854775807)->T [.int .i64 v,.int .i64 n] (.int .i64 (eQ v n))
def C25 (Y:Ctx):Prop:=Ei (bG Y 25)
def zB (T:List D->D->Prop):Prop:=∀(l:List Int) (i:Int),T [.sl 1 (l.map (D.int .i64)),.int .i64 i] (.int .i64 (vc l i))
def GV (Y:Ctx):Prop:=zB (bG Y 159)
def AT (Y:Ctx):Prop:=∀(g:Gs) (n:Int),(n<=9223372036854775807)->(0<=g.i/\g.i<=1000000)->Y.fp 109 (Gs.D g) [.int .i64 n]/\Y.fv 109 (Gs.D g) [.int .i64 n]=.int .i64 (g.val n)/\Y.fs 109 (Gs.D g) [.int .i64 n]=Gs.D g.bl
def zx (T:List D->D->Prop):Prop:=T [] (.sl 5 (iQ.map aU.D))
def IW (Y:Ctx):Prop:=zx (bG Y 112)
def G0 (Y:Ctx):Prop:=∀(g:Gs) (xs:List CW),(((0<=g.i/\g.i<=900000)/\xs.length<=4)/\∀c∈xs,c.v.sm)->∀(kk:Nat) (E:List D),aJ E=true->∀(nx lc:Nat) (m:List (Nat×bB)) (K:D->St->Prop),(lc≠0/\lc≠10/\lc<nx/\11<=nx)->look m 0=some (.buf 2 [Gs.D g])->look m lc=some (.buf 8 (xs.map (CW.D 10)))->look m 10=some (.buf kk E)->K (bd.D (sL g (xs.map CW.v))) ⟨nx,cz m 0 (.buf 2 [Gs.D g.bl.bl])⟩->Y.tr 380 [.ptr 0 2 0 0,.own lc 8 0 xs.length] ⟨nx,m⟩ K
def Ew (Y:Ctx):Prop:=∀(g:Gs) (n:Nat) (nm ft:Nat->cV) (cs:Nat->List CW) (kk:Nat) (E:List D),aJ E=true->((0<=g.i/\g.i<=800000)/\Cd n cs)->∀(nx:Nat) (m:List (Nat×bB)) (K:D->St->Prop),11<=nx->EW m g n nm ft cs kk E->K (Want.D (cd g n (fk cs))) ⟨nx,cz m 0 (.buf 2 [Gs.D g.dP])⟩->Y.tr 157 [.ptr 0 2 0 0,.own 1 3 0 n] ⟨nx,m⟩ K
def GS (Y:Ctx):Prop:=∀(g:Gs) (n:Nat) (nm ft:Nat->cV) (cs:Nat->List CW) (kk:Nat) (E:List D) (most:Int),aJ E=true->((0<=g.i/\g.i<=700000)/\Cd n cs/\(0<=most/\most<=3))->∀(nx:Nat) (m:List (Nat×bB)) (K:D->St->Prop),11<=nx->EW m g n nm ft cs kk E->K (.sl 1 ((ar g n (fk cs) most).1.map c9)) ⟨nx,cz m 0 (.buf 2 [Gs.D (ar g n (fk cs) most).2])⟩->Y.tr 155 [.ptr 0 2 0 0,.own 1 3 0 n,.int .i64 most] ⟨nx,m⟩ K
def GR (Y:Ctx):Prop:=∀(g:Gs) (few:Int),((0<=g.i/\g.i<=600000)/\few<=1000)->∀(nx:Nat) (m:List (Nat×bB)) (K:D->St->Prop),look m 0=some (.buf 2 [Gs.D g])->0<nx->K (.own nx 3 0 (dS g few).1.length) ⟨nx+9,IM nx (dS g few).1++cz m 0 (.buf 2 [Gs.D (dS g few).2])⟩->Y.tr 154 [.ptr 0 2 0 0,.int .i64 few] ⟨nx,m⟩ K
def Ej (T:List D->D->Prop):Prop:=∀(ks:List Int) (few:Int),(few<=1000)->T [.sl 1 (ks.map (D.int .i64)),.int .i64 few] (bT.D (bZ ks few))
def C36 (Y:Ctx):Prop:=Ej (bG Y 36)
def EA (Y:Ctx):Prop:=qz (bG Y 295)
def yN (Y:Ctx):Prop:=ow (bG Y 1087)
def B6 (Y:Ctx):Prop:=ou (bG Y 1024)
def Gc (Y:Ctx):Prop:=ov (bG Y 1055)
def B5 (Y:Ctx):Prop:=ot (bG Y 1023)
def JX (Y:Ctx):Prop:=qM (bG Y 980)
def Hi (Y:Ctx):Prop:=qL (bG Y 925)
def JK (Y:Ctx):Prop:=qK (bG Y 861)
def AL (T:List D->D->Prop):Prop:=∀(c:Cut),T [Cut.D c] (.bool (j4 c))
def JO (Y:Ctx):Prop:=AL (bG Y 924)
def He (Y:Ctx):Prop:=qJ (bG Y 780)
def Jy (Y:Ctx):Prop:=qG (bG Y 712)
def zS (T:List D->D->Prop):Prop:=∀(a:Key) (b:Key),T [Key.D a,Key.D b] (.int .i64 (rL a b))
def I7 (Y:Ctx):Prop:=zS (bG Y 408)
def Al (T:List D->D->Prop):Prop:=∀(l:List Want) (n:Int),(∀x∈l,x.sm)->T [.sl 3 (l.map Want.D),.int .i64 n] (.bool (nB n l))
def Jq (Y:Ctx):Prop:=Al (bG Y 622)
def AD (T:List D->D->Prop):Prop:=∀(w:Want) (n:Int),(w.sm)->T [Want.D w,.int .i64 n] (.bool (mP n w))
def Hd (Y:Ctx):Prop:=AD (bG Y 778)
def AB (T:List D->D->Prop):Prop:=∀(l:List Want) (n:Int),(∀x∈l,x.sm)->T [.sl 3 (l.map Want.D),.int .i64 n] (.bool (lS n l))
def JF (Y:Ctx):Prop:=AB (bG Y 777)
def Ak (T:List D->D->Prop):Prop:=∀(c:dk) (n:Int),(c.sm)->T [dk.D c,.int .i64 n] (.bool (hY c.v&&kG n c))
def Jp (Y:Ctx):Prop:=Ak (bG Y 618)
def zT (T:List D->D->Prop):Prop:=∀(c:dk) (n:Int),(c.sm)->T [dk.D c,.int .i64 n] (.bool (kG n c))
def I8 (Y:Ctx):Prop:=zT (bG Y 409)
def Aj (T:List D->D->Prop):Prop:=∀(a:cr) (b:cr),T [cr.D a,cr.D b] (.bool (mR a b))
def Jo (Y:Ctx):Prop:=Aj (bG Y 617)
def zP (T:List D->D->Prop):Prop:=∀(w:bT) (i:Int),(w.sm/\(0<=i/\i<w.us.length)/\w.us.length<=48)->T [bT.D w,.int .i64 i] (.bool (kI w.us i.toNat))
def I5 (Y:Ctx):Prop:=zP (bG Y 403)
def qx (T:List D->D->Prop):Prop:=∀(w:bT),(w.sm)->T [bT.D w] (.bool (uZ w))
def IY (Y:Ctx):Prop:=qx (bG Y 169)
def IZ (Y:Ctx):Prop:=qx (bG Y 175)
def eZ (a b:Int):Int:=IntKind.i64.wrap ((BitVec.ofInt 64 a&&&BitVec.ofInt 64 b).toNat)
def E1 (a b:Int):Int:=IntKind.i64.wrap ((BitVec.ofInt 64 a&&& ~~~ BitVec.ofInt 64 b).toNat)
def Gq (a b:Int):Int:=IntKind.i64.wrap ((BitVec.ofInt 64 a |||BitVec.ofInt 64 b).toNat)
def dr (us:List cr)(u:Int):Int:=if u<0\/(us.length:Int)<=u then 0 else 2^(us[u.toNat]!.cands.length+1) -1
def iW (cs:List dk)(s:bd):Nat->Int
 |0=>0
 |k+1=>if mE s cs[k]!.v=true then iW cs s k+2^(k+1)else iW cs s k
def jj (us:List cr)(w:Want):Int:=if w.u<0\/(us.length:Int)<=w.u then 0 else iW us[w.u.toNat]!.cands w.s us[w.u.toNat]!.cands.length
def bm (us:List cr):List dM->Int->Int
 |[],u=>dr us u
 |t::r,u=>if t.u=u then t.m else bm us r u
def oq (us:List cr)(t:dM):Bool:=decide (t.m≠0)&&decide (eZ t.m (dr us t.u)=t.m)&&decide (t.m≠dr us t.u)
def ef (us:List cr)(l:List dM):Bool:=cv (fun i=>oq us l[i]! && !(decide (0<i)&&decide (l[i]!.u<=l[i-1]!.u))) 0 l.length
def kE (a b:Int):Int:=if eZ a b=a then 2 else if eZ a b=0 then 0 else 1
def tf {us:List cr}{l:List dM}{u:Int}{i:Nat}(hi:i<l.length)(h:l[i]!.u=u):bm us (l.drop i) u=l[i]!.m:=by
 rw[jt hi,bm,aw (by simpa[hi]using h)];simp[hi]
def rr {us:List cr}{l:List dM}{u:Int}{i:Nat}(hi:i<l.length)(h:¬l[i]!.u=u):bm us (l.drop i) u=bm us (l.drop (i+1)) u:=by
 rw[jt hi,bm,ai (by simpa[hi]using h)]
def te {us:List cr}{l:List dM}{u:Int}{i:Nat}(hi:l.length<=i):bm us (l.drop i) u=dr us u:=by
 rw[lW hi,bm]
def Dn (k:Nat):(2:Int)^k=((2^k:Nat):Int):=by
 induction k with
 |zero=>rfl
 |succ k ih=>rw[Int.pow_succ,ih,Nat.pow_succ];omega
def Ia {k n:Nat}(h:k<=n):(2:Int)^k<=2^n:=by
 rw[Dn,Dn];exact Int.ofNat_le.2 (Nat.pow_le_pow_right bV h)
def ez (k:Nat):(1:Int)<=2^k:=by
 rw[Dn];have:=Nat.one_le_two_pow (n:=k);omega
def mM {k:Nat}(h:k<=40):(2:Int)^k<=1099511627776:=Ia h
def x7 (cs:List dk)(s:bd):∀k,0<=iW cs s k/\iW cs s k<=2^(k+1) -2
 |0=>by simp[iW]
 |k+1=>by
  have ih:=x7 cs s k;have h1:(2:Int)^(k+1+1)=2^(k+1)*2:=Int.pow_succ 2 (k+1);have h2:=ez (k+1);rw[iW];split<;>omega
def r6 (us:List cr)(row:aK)(k:Int)(w:Want):Bool:=if w.u=row.unit then decide (eZ (jj us w) (2^(k+1).toNat)≠0)else decide (E1 (bm us row.terms w.u) (jj us w)=0)
def rm (us:List cr)(row:aK)(k:Int)(w:Want):Bool:=if w.u=row.unit then decide (eZ (jj us w) (2^(k+1).toNat)=0)else decide (eZ (jj us w) (bm us row.terms w.u)=0)
def xo (x:Int):Prop:=-9223372036854775808<=x/\x<=9223372036854775807
def zt (x:BitVec 64):IntKind.i64.wrap (x.toNat:Int)=x.toInt:=by
 have h:=x.isLt;have e:IntKind.i64.wrap (x.toNat:Int)=if decide ((x.toNat:Int)%18446744073709551616≥9223372036854775808)=true then(x.toNat:Int)%18446744073709551616-18446744073709551616 else(x.toNat:Int)%18446744073709551616:=rfl
 rw[e,BitVec.toInt_eq_toNat_cond];simp only[dI];split<;>split<;>omega
def n8 {m:Int}(h:xo m):(BitVec.ofInt 64 m).toInt=m:=by
 obtain⟨h1,h2⟩:=h;rw[BitVec.toInt_ofInt,Int.bmod_def];split<;>omega
def mU (a b:Int):eZ a b=(BitVec.ofInt 64 a&&&BitVec.ofInt 64 b).toInt:=zt _
def HF (a b:Int):E1 a b=(BitVec.ofInt 64 a&&& ~~~ BitVec.ofInt 64 b).toInt:=zt _
def nM (a b:Int):eZ a b=eZ b a:=by rw[mU,mU,BitVec.and_comm]
def zq {x:BitVec 64}:x.toInt=0↔x=0#64:=⟨fun h=>BitVec.eq_of_toInt_eq (by rw[h];rfl),fun h=>by rw[h];rfl⟩
def A1 {x y:BitVec 64}:x&&& ~~~ y=0#64↔x&&&y=x:=by
 constructor<;>intro h<;>ext i hi<;>have:=bw (fun z=>z.getLsbD i) h<;>simp at this<;>simp[hi]<;>grind
def Cu {m f:Int}(h:xo m):E1 m f=0↔eZ m f=m:=by
 rw[HF,mU,zq,A1];constructor
 .intro e;rw[e];exact n8 h
 .intro e;exact BitVec.eq_of_toInt_eq (by rw[e,n8 h])
def E2 {a:Int}{i:Nat}(h0:0<=a)(h1:a<2^i)(hi:i<=40):Gq a (2^i)=a+2^i:=by
 have hp:=mM hi;obtain⟨n,rfl⟩:∃n:Nat,a=(n:Int):=⟨a.toNat,ae⟩
 rw[Dn]at h1 hp⊢;have h2:n<2^i:=ae;have hl:(2:Nat)^i<=1099511627776:=ae;have e:(BitVec.ofInt 64 (n:Int) |||BitVec.ofInt 64 ((2^i:Nat):Int)).toNat=n+2^i:=by
  rw[BitVec.toNat_or,BitVec.toNat_ofInt,BitVec.toNat_ofInt];have h3:((n:Int)%((2^64:Nat):Int)).toNat=n:=ae;have h4:(((2^i:Nat):Int)%((2^64:Nat):Int)).toNat=2^i:=ae;rw[h3,h4,Nat.or_comm];have:=Nat.two_pow_add_eq_or_of_lt h2 1;simp only[Nat.mul_one]at this;omega
 unfold Gq;rw[e,wrap_i64 ae ae];omega
def F0 (us:List cr)(t:dM):Bool:=!(decide (t.m=0) ||!decide (E1 t.m (dr us t.u)=0) ||decide (t.m=dr us t.u))
def F1 {us:List cr}{t:dM}(h:xo t.m):F0 us t=oq us t:=by
 unfold F0 oq;have:=Cu (f:=dr us t.u) h;by_cases h1:t.m=0<;>by_cases h2:eZ t.m (dr us t.u)=t.m<;>by_cases h3:t.m=dr us t.u<;>simp_all
def om {b:Int}{n:Nat}(hb:b=(n:Int))(hn:n<=40):IntKind.i64.wrap (1*2^(min b.toNat IntKind.i64.bits))=2^n:=by
 subst hb;have h:=mM hn;have h2:=ez n;rw[show min (Int.toNat (n:Int)) IntKind.i64.bits=n from Nat.min_eq_left (by simp only[IntKind.bits];omega),Int.one_mul];exact wrap_i64 ae ae
def gK {α:Type}(f:α->Bool):List α->Nat->Int
 |[],_=>-1
 |x::r,i=>if f x=true then(i:Int)else gK f r (i+1)
def nV {α:Type} [Inhabited α]{f:α->Bool}{l:List α}{i:Nat}(hi:i<l.length)(h:f l[i]! =true):gK f (l.drop i) i=i:=by
 rw[jt hi,gK,aw (by simpa[hi]using h)]
def mi {α:Type} [Inhabited α]{f:α->Bool}{l:List α}{i:Nat}(hi:i<l.length)(h:f l[i]! =false):gK f (l.drop i) i=gK f (l.drop (i+1)) (i+1):=by
 rw[jt hi,gK,ai (by simpa[hi]using h)]
def ra {α:Type}{f:α->Bool}{l:List α}{i:Nat}(hi:l.length<=i):gK f (l.drop i) i=-1:=by
 rw[lW hi,gK]
def q9 {α:Type}{f:α->Bool}:∀{l:List α}{i:Nat},decide (0<=gK f l i)=l.any f
 |[],i=>by simp[gK]
 |x::r,i=>by
  rw[gK,List.any_cons];split
  .rename_i h;rw[h];simp
  .rename_i h;rw[q9];simp[h]
def fB (b:Bool)(us:List cr)(row:aK)(k:Int)(w:Want):Bool:=if b=true then r6 us row k w else !rm us row k w
def gN (us:List cr)(row:aK)(k:Int)(r:jS):Bool:=!r.any (fB false us row k)
def oe (us:List cr)(row:aK)(k:Nat)(mild:Bool):Bool:=if mild=true then us[row.unit.toNat]!.cands[k]!.bars.any (fB true us row (k:Int))else us[row.unit.toNat]!.cands[k]!.needs.any (gN us row (k:Int))
def dk.fz (l k:Nat)(es:List Abs.D)(c:dk):fG l k es c.D=c.D:=oN l k es _ (by simp only[dk.D,D.aV,aJ,eS])
def aF.fz (l k:Nat)(es:List Abs.D)(c:aF):fG l k es c.D=c.D:=oN l k es _ (by simp only[aF.D,D.aV,aJ,eS])
def aK.fz (l k:Nat)(es:List Abs.D)(c:aK):fG l k es c.D=c.D:=oN l k es _ (by simp only[aK.D,D.aV,aJ,eS])
def vK (l:List dM)(u:Int):Bool:=l.any fun t=>decide (t.u=u)
def lC (us:List cr)(u:Int):∀(l:List dM) (i:Nat),(gK (fun t=>decide (t.u=u)) l i=-1/\vK l u=false/\bm us l u=dr us u)\/∃j,j<l.length/\gK (fun t=>decide (t.u=u)) l i=((i+j:Nat):Int)/\l[j]!.u=u/\bm us l u=l[j]!.m/\vK l u=true
 |[],i=>.inl ⟨rfl,rfl,rfl⟩
 |t::r,i=>by
  by_cases h:t.u=u
  .refine .inr ⟨0,a8, ?_,by simpa using h, ?_, ?_⟩
   .rw[gK,aw (by simpa using h)];rfl
   .rw[bm,aw h];rfl
   .simp[vK,h]
  .rcases lC us u r (i+1)with⟨h1,h2,h3⟩|⟨j,h1,h2,h3,h4,h5⟩
   .refine .inl ⟨?_, ?_, ?_⟩
    .rw[gK,ai (by simpa using h)];exact h1
    .unfold vK at*;rw[List.any_cons,h2];simp[h]
    .rw[bm,ai h];exact h3
   .refine .inr ⟨j+1,dT, ?_, ?_, ?_, ?_⟩
    .rw[gK,ai (by simpa using h),h2];omega
    .simpa using h3
    .rw[bm,ai h,h4];simp
    .unfold vK at*;rw[List.any_cons,h5];simp
def iS (us:List cr)(row:aK)(mild:Bool):Bool:=vK row.terms row.unit&&decide (eZ (bm us row.terms row.unit) 1=0)&&cv (fun k=>decide (eZ (bm us row.terms row.unit) (2^(k+1))=0) ||oe us row k mild) 0 us[row.unit.toNat]!.cands.length
def yC {us:List cr}{t:dM}(h:oq us t=true):0<=t.u/\t.u<us.length:=by
 simp only[oq,cj,dI]at h;by_cases q:t.u<0\/(us.length:Int)<=t.u
 .exfalso;rw[show dr us t.u=0 from aw q]at h;have h2:eZ t.m 0=0:=by rw[mU];simp
  rw[h2]at h;exact h.1.1 h.1.2.symm
 .omega
def qu {us:List cr}{l:List dM}(h:ef us l=true){i:Nat}(hi:i<l.length):oq us l[i]! =true:=by
 unfold ef at h;rw[ea]at h;have:=h i ae hi;simp only[cj]at this;exact this.1
def tk (k:Int):D:=if k=1 then .fn 4001178 [.agg []]else if k=2\/k=3 then .fn 4001179 [.agg [.bool (decide (k=3))]]else if k=4 then .fn 4001180 [.agg []]else if k=5 then .fn 4001181 [.agg []]else .fn 4600000 []
def nK (us:List cr)(A B:List dM)(row:aK)(u:Nat):Bool:=decide (E1 (bm us row.terms (u:Int)) (if(u:Int)=row.unit then Gq (bm us A (u:Int)) (bm us B (u:Int))else eZ (bm us A (u:Int)) (bm us B (u:Int)))=0)
def nJ (c:aF)(row:aK)(i:Int):Bool:=decide (dr c.w.us row.unit≠0)&&(decide (0<=row.a)&&decide (row.a<i))&&(decide (0<=row.b)&&decide (row.b<i))&&(ef c.w.us c.rows[row.a.toNat]!.terms&&ef c.w.us c.rows[row.b.toNat]!.terms)&&cv (nK c.w.us c.rows[row.a.toNat]!.terms c.rows[row.b.toNat]!.terms row) 0 c.w.us.length
def sy (c:aF)(row:aK):Bool:=decide (dr c.w.us row.unit≠0)&&decide (row.unit<c.allow.length)&&decide (eZ (bm c.w.us row.terms row.unit) c.allow[row.unit.toNat]! =0)
def lF (c:aF)(row:aK)(i:Int):Bool:=if row.kind=5 then nJ c row i else decide (row.a=0)&&decide (row.b=0)&&(if row.kind=1 then decide (row.unit=0)&&decide (bm c.w.us row.terms 0=1)else if row.kind=2\/row.kind=3 then iS c.w.us row (decide (row.kind=3))else if row.kind=4 then sy c row else false)
def dJ (c:aF)(i:Int):Bool:=decide (0<=i)&&decide (i<c.rows.length)&&ef c.w.us c.rows[i.toNat]!.terms&&lF c c.rows[i.toNat]! i
def RowsIn (l:List aK):Prop:=∀r∈l,∀t∈r.terms,xo t.m
def Fe {us:List cr}{u:Int}(h:dr us u≠0):0<=u/\u<us.length:=by
 by_cases q:u<0\/(us.length:Int)<=u
 .exact absurd (aw q) h
 .omega
def xN (k:Int):k=1\/(k=2\/k=3)\/k=4\/k=5\/¬(k=1\/k=2\/k=3\/k=4\/k=5):=ae
def ofK1 {k:Int}(h:k=1):tk k=.fn 4001178 [.agg []]:=aw h
def ofK2 {k:Int}(h:k=2\/k=3):tk k=.fn 4001179 [.agg [.bool (decide (k=3))]]:=by unfold tk;rw[ai ae,aw h]
def ofK4 {k:Int}(h:k=4):tk k=.fn 4001180 [.agg []]:=by unfold tk;rw[ai ae,ai ae,aw h]
def ofK5 {k:Int}(h:k=5):tk k=.fn 4001181 [.agg []]:=by unfold tk;rw[ai ae,ai ae,ai ae,aw h]
def ofK0 {k:Int}(h:¬(k=1\/k=2\/k=3\/k=4\/k=5)):tk k=.fn 4600000 []:=by unfold tk;rw[ai ae,ai ae,ai ae,ai ae]
def mC (f:Nat->Bool):Nat->Nat->Nat
 |0,i=>i
 |k+1,i=>if f i=true then mC f k (i+1)else i
def yT {f:Nat->Bool}{i n:Nat}(hi:i<n)(h:f i=true):mC f (n-i) i=mC f (n-(i+1)) (i+1):=by
 obtain⟨k,hk⟩:∃k,n-i=k+1:=⟨n-i-1,ae⟩
 rw[hk,mC,aw h,show k=n-(i+1)by omega]
def yS {f:Nat->Bool}{i n:Nat}(hi:i<n)(h:f i=false):mC f (n-i) i=i:=by
 obtain⟨k,hk⟩:∃k,n-i=k+1:=⟨n-i-1,ae⟩
 rw[hk,mC,ai (by rw[h];exact Bool.false_ne_true)]
def vv {f:Nat->Bool}{i n:Nat}(hi:n<=i):mC f (n-i) i=i:=by
 rw[show n-i=0 by omega,mC]
def dw (ok:Bool)(f:Nat->Bool)(l:List aK):Int×Bool:=if ok=false then(0,false)else if mC f l.length 0<l.length then((mC f l.length 0:Nat),false)else((l.length:Nat),decide (0<l.length)&&decide (l[l.length-1]!.terms.length=0))
def okW (w:bT)(allow:List Int):Bool:=uZ w&& !(decide (0<allow.length)&&decide (allow.length≠w.us.length))
def gU (m:Int):Nat->List Int
 |0=>[]
 |i+1=>if eZ m (2^i)≠0 then gU m i++[(i:Int) -1]else gU m i
def iu (m:Int):List Int:=gU m 17
def p7 (us:List cr)(row:aK)(bit:Int)(u:Int):Int:=if u=row.unit then bit else bm us row.terms u
def lK (us:List cr)(row:aK)(bit:Int)(l:List Want):Bool:=cv (fun i=>decide (eZ (p7 us row bit l[i]!.u) (jj us l[i]!)=0)) 0 l.length
def iR (us:List cr)(row:aK)(bit:Int)(w:Want):Bool:=decide (kE (p7 us row bit w.u) (jj us w)=2)
def gG (us:List cr)(row:aK)(k:Nat):Bool:=if row.kind=2 then jT (fun i=>lK us row (2^(k+1)) us[row.unit.toNat]!.cands[k]!.needs[i]!) 0 us[row.unit.toNat]!.cands[k]!.needs.length else jT (fun i=>iR us row (2^(k+1)) us[row.unit.toNat]!.cands[k]!.bars[i]!) 0 us[row.unit.toNat]!.cands[k]!.bars.length
def lV (us:List cr)(row:aK):Bool:=decide (0<=row.unit)&&decide (row.unit<us.length)&&decide (eZ (bm us row.terms row.unit) 1≠1)&&cv (fun i=>gG us row (iu (bm us row.terms row.unit))[i]!.toNat) 0 (iu (bm us row.terms row.unit)).length
def mS (us:List cr)(A B:List dM)(row:aK)(u:Nat):Bool:=decide (kE (bm us row.terms (u:Int)) (if(u:Int)=row.unit then Gq (bm us A (u:Int)) (bm us B (u:Int))else eZ (bm us A (u:Int)) (bm us B (u:Int)))=2)
def qP (c:aF)(row:aK)(i:Int):Bool:=(decide (0<=row.a)&&decide (row.a<i))&&(decide (0<=row.b)&&decide (row.b<i))&&(ef c.w.us c.rows[row.a.toNat]!.terms&&ef c.w.us c.rows[row.b.toNat]!.terms)&&cv (mS c.w.us c.rows[row.a.toNat]!.terms c.rows[row.b.toNat]!.terms row) 0 c.w.us.length
def jY (c:aF)(row:aK)(i:Int):Bool:=if row.kind=5 then qP c row i else decide (row.a=0)&&decide (row.b=0)&&(if row.kind=1 then decide (row.unit=0)&&decide (bm c.w.us row.terms row.unit=1)else if row.kind=2\/row.kind=3 then lV c.w.us row else if row.kind=4 then decide (row.unit<c.allow.length)&&decide (eZ (bm c.w.us row.terms row.unit) c.allow[row.unit.toNat]! =0)else false)
def kC (c:aF)(i:Int):Bool:=decide (0<=i)&&decide (i<c.rows.length)&&ef c.w.us c.rows[i.toNat]!.terms&&(decide (0<=c.rows[i.toNat]!.unit)&&decide (c.rows[i.toNat]!.unit<c.w.us.length))&&jY c c.rows[i.toNat]! i
def mf {m x:Int}:∀{n:Nat},x∈gU m n->∃i,i<n/\x=(i:Int) -1/\eZ m (2^i)≠0
 |0,h=>by cases h
 |n+1,h=>by
  rw[gU]at h;split at h
  .rename_i hb;rcases List.mem_append.1 h with h|h
   .obtain⟨i,h1,h2⟩:=mf h;exact⟨i,ae,h2⟩
   .obtain rfl:=bK.1 h;exact⟨n,ae,rfl,hb⟩
  .obtain⟨i,h1,h2⟩:=mf h;exact⟨i,ae,h2⟩
def oJ (m:Int):∀n,(gU m n).length<=n
 |0=>aW _
 |n+1=>by
  have:=oJ m n;rw[gU];split
  .simp only[dF,List.length_singleton];omega
  .omega
def CO:∀n,n<17->∀i,i<17->i<=n\/eZ ((2:Int)^(n+1) -1) (2^i)=0:=by decide+kernel
def E0 {m f b:Int}(h:eZ m f=m)(hm:xo m)(hb:eZ m b≠0):eZ f b≠0:=by
 rw[mU]at*
 intro h2;apply hb;have e:BitVec.ofInt 64 m&&&BitVec.ofInt 64 f=BitVec.ofInt 64 m:=BitVec.eq_of_toInt_eq (by rw[h,n8 hm]);rw[zq]at h2⊢;rw[<-e,BitVec.and_assoc,h2,BitVec.and_zero]
def EZ (a b:Int):xo (eZ a b):=by
 rw[mU];have h1:=BitVec.le_toInt (BitVec.ofInt 64 a&&&BitVec.ofInt 64 b);have h2:=BitVec.toInt_lt (x:=BitVec.ofInt 64 a&&&BitVec.ofInt 64 b);exact⟨by simpa using h1,by have:=h2;simp at this;omega⟩
def F2 {us:List cr}{t:dM}(h:oq us t=true):xo t.m:=by
 simp only[oq,cj,dI]at h;rw[<-h.1.2];exact EZ _ _
def yU (m:Int):eZ m 1=0\/eZ m 1=1:=by
 have h:(BitVec.ofInt 64 m&&&BitVec.ofInt 64 1).toNat<=1:=by
  rw[BitVec.toNat_and];exact eC Nat.and_le_right bV
 unfold eZ;generalize (BitVec.ofInt 64 m&&&BitVec.ofInt 64 1).toNat=x at h;have:x=0\/x=1:=ae;rcases this with rfl|rfl
 .left;rfl
 .right;rfl
def Ct {m:Int}(h:xo m):eZ m m=m:=by
 rw[mU,BitVec.and_self,n8 h]
def vF {us:List cr}{u:Int}(h:∀x∈us,x.cands.length<=16):xo (dr us u):=by
 unfold dr;split
 .exact⟨bV,bV⟩
 .rename_i q;have:=h _ (ak (show u.toNat<us.length by omega));have h1:=mM (k:=us[u.toNat]!.cands.length+1) ae;have h2:=ez (us[u.toNat]!.cands.length+1);constructor<;>omega
def ru {us:List cr}{l:List dM}{u:Int}(hs:∀x∈us,x.cands.length<=16)(h:ef us l=true):xo (bm us l u)/\eZ (bm us l u) (dr us u)=bm us l u:=by
 rcases lC us u l 0 with⟨_,_,e⟩|⟨j,h1,_,h3,e,_⟩
 .rw[e];exact⟨vF hs,Ct (vF hs)⟩
 .have ht:=qu h h1;rw[e];refine⟨F2 ht, ?_⟩;simp only[oq,cj,dI]at ht;rw[<-h3];exact ht.1.2
def y2 {us:List cr}{l:List dM}{u:Int}(hs:∀x∈us,x.cands.length<=16)(h:ef us l=true)(h0:0<=u)(h1:u<us.length)(hb:eZ (bm us l u) 1≠1):∀x∈iu (bm us l u),0<=x/\x<us[u.toNat]!.cands.length:=by
 intro x hx;obtain⟨i,hi,rfl,hm⟩:=mf hx;obtain⟨g1,g2⟩:=ru (u:=u) hs h;have hc:=hs _ (ak (show u.toNat<us.length by omega));have h5:=E0 g2 g1 hm;rw[show dr us u=2^(us[u.toNat]!.cands.length+1) -1 from ai ae]at h5;rcases CO _ (show us[u.toNat]!.cands.length<17 by omega) i hi with h6|h6
 .rcases Nat.eq_zero_or_pos i with rfl|hp
  .exfalso;rcases yU (bm us l u)with h7|h7
   .exact hm h7
   .exact hb h7
  .omega
 .exact absurd h6 h5
def D8 {b:Int}{n:Nat}(hb:b=(n:Int))(hn:n<=39):IntKind.i64.wrap (2*2^(min b.toNat IntKind.i64.bits))=2^(n+1):=by
 subst hb;have h:=mM (k:=n+1) ae;have h2:=ez n;rw[Int.pow_succ]at h;rw[show min (Int.toNat (n:Int)) IntKind.i64.bits=n from Nat.min_eq_left (by simp only[IntKind.bits];omega),Int.pow_succ,Int.mul_comm];exact wrap_i64 ae ae
def mh (l k:Nat)(es:List D)(rs:List aK):fY l k es (rs.map aK.D)=rs.map aK.D:=gJ l k es _ (cR (fun r=>by simp only[aK.D,D.aV,aJ,eS]) _)
def BM {α:Type} [Inhabited α]{l:List α}{i:Nat}(h:i<l.length):l.take i++[l[i]!]=l.take (i+1):=by
 rw[List.take_succ,show l[i]? =some l[i]! by simp[h]];rfl
def kf (us:List cr)(ks:List Int)(i:Nat):Int:=if eQ (vc ks (i:Int)) 300<100/\0<i then eZ (dr us (i:Int)) (eQ (vc ks (i:Int)) 300)else dr us (i:Int)
def lh (us:List cr)(ks:List Int):Nat->List Int
 |0=>[]
 |i+1=>lh us ks i++[kf us ks i]
def gD (us:List cr)(ks:List Int):List Int:=if ks.length=0 then []else lh us ks us.length
def qN (us:List cr)(ks:List Int):∀i,(lh us ks i).length=i
 |0=>rfl
 |i+1=>by rw[lh,dF,qN us ks i];rfl
def fj:bT:=⟨[⟨[],[],[⟨zV,-1,[[⟨1,tS⟩]],[]⟩]⟩,⟨[97,110,116],[],[]⟩]⟩
section
section
variable {Y:Ctx} {draw:Bool} {r:List GI} {env rs:List bz} {nx:Nat} {m:List (Nat×bB)} {K:List bz->St->Prop} {g:Option (Nat×Bool)} {f:Bool}
def r_mn {x y:Src}{fx fy:Bool}{k k2:IntKind}{a b:Int}(v:Int)(h:az Y draw r env (⟨f,.int k v⟩::rs) nx m K)(hg:GF rs g f:=by first|exact rfl|exact⟨_,_,rfl,rfl⟩)(hx:cn env rs x=⟨fx,.int k a⟩:=by exact rfl)(hy:cn env rs y=⟨fy,.int k2 b⟩:=by exact rfl)(kx:f=true->fx=true:=by first|exact fun _=>rfl|exact fun h=>h|(intro h;simp_all))(ky:f=true->fy=true:=by first|exact fun _=>rfl|exact fun h=>h|(intro h;simp_all))(hv:f=true->(if b<a then b else a)=v):az Y draw (⟨.mn x y,g⟩::r) env rs nx m K:=
 bM rfl hg _ (fun hf=>by simp[ay.dd,hx,hy,kx hf,ky hf]) (fun hf=>by simp only[ay.val,hx,hy];rw[hv hf]) (fun _=>h)
end
end
def zO (T:List D->D->Prop):Prop:=∀(n:Int),(0<=n/\n<=40)->T [.int .i64 n] (.int .i64 (2^n.toNat))
def EC (Y:Ctx):Prop:=zO (bG Y 381)
def zA (T:List D->D->Prop):Prop:=∀(w:bT) (u:Int),(w.sm)->T [bT.D w,.int .i64 u] (.int .i64 (dr w.us u))
def Ey (Y:Ctx):Prop:=zA (bG Y 158)
def zU (T:List D->D->Prop):Prop:=∀(w:bT) (x:Want),(w.sm/\x.sm)->T [bT.D w,Want.D x] (.int .i64 (jj w.us x))
def G1 (Y:Ctx):Prop:=zU (bG Y 415)
def zR (T:List D->D->Prop):Prop:=∀(w:bT) (l:List dM) (u:Int),(w.sm)->T [bT.D w,.sl 2 (l.map dM.D),.int .i64 u] (.int .i64 (bm w.us l u))
def AU (Y:Ctx):Prop:=zR (bG Y 406)
def zQ (T:List D->D->Prop):Prop:=∀(w:bT) (t:dM),(w.sm)->T [bT.D w,dM.D t] (.bool (oq w.us t))
def I6 (Y:Ctx):Prop:=zQ (bG Y 405)
def zC (T:List D->D->Prop):Prop:=∀(w:bT) (l:List dM),(w.sm)->T [bT.D w,.sl 2 (l.map dM.D)] (.bool (ef w.us l))
def GW (Y:Ctx):Prop:=zC (bG Y 172)
def zD (T:List D->D->Prop):Prop:=∀(a:Int) (b:Int),T [.int .i64 a,.int .i64 b] (.int .i64 (kE a b))
def GX (Y:Ctx):Prop:=zD (bG Y 182)
def Ar (T:List D->D->Prop):Prop:=∀(c:aF) (u:Int),(c.w.sm)->T [aF.D c,.int .i64 u] (.int .i64 (dr c.w.us u))
def AV (Y:Ctx):Prop:=Ar (bG Y 636)
def Ap (T:List D->D->Prop):Prop:=∀(c:aF) (l:List dM) (u:Int),(c.w.sm)->T [aF.D c,.sl 2 (l.map dM.D),.int .i64 u] (.int .i64 (bm c.w.us l u))
def Ca (Y:Ctx):Prop:=Ap (bG Y 634)
def An (T:List D->D->Prop):Prop:=∀(c:aF) (l:List dM),(c.w.sm/\∀t∈l,xo t.m)->T [aF.D c,.sl 2 (l.map dM.D)] (.bool (ef c.w.us l))
def G8 (Y:Ctx):Prop:=An (bG Y 632)
def xh (T:List D->D->Prop):Prop:=∀(c:aF) (x:Want),(c.w.sm/\x.sm)->T [aF.D c,Want.D x] (.int .i64 (jj c.w.us x))
def B7 (Y:Ctx):Prop:=xh (bG Y 1027)
def AS (T:List D->D->Prop):Prop:=∀(c:aF) (row:aK) (k:Int) (x:Want),((c.w.sm/\x.sm)/\0<=k/\k<=30)->T [aF.D c,aK.D row,.int .i64 k,Want.D x] (.bool (rm c.w.us row k x))
def JW (Y:Ctx):Prop:=AS (bG Y 934)
def AO (T:List D->D->Prop):Prop:=∀(c:aF) (row:aK) (k:Int) (x:Want),((c.w.sm/\x.sm)/\0<=k/\k<=30)->T [aF.D c,aK.D row,.int .i64 k,Want.D x] (.bool (r6 c.w.us row k x))
def JS (Y:Ctx):Prop:=AO (bG Y 930)
def AN (T:List D->D->Prop):Prop:=∀(x:Want) (c:aF) (row:aK) (k:Int),((c.w.sm/\x.sm)/\0<=k/\k<=30)->T [Want.D x,.ref 3 [aF.D c] 0 0,.ref 5 [aK.D row] 0 0,.ref 1 [.int .i64 k] 0 0] (.bool (fB true c.w.us row k x))
def JR (Y:Ctx):Prop:=AN (bG Y 929)
def AR (T:List D->D->Prop):Prop:=∀(x:Want) (c:aF) (row:aK) (k:Int),((c.w.sm/\x.sm)/\0<=k/\k<=30)->T [Want.D x,.ref 3 [aF.D c] 0 0,.ref 5 [aK.D row] 0 0,.ref 1 [.int .i64 k] 0 0] (.bool (fB false c.w.us row k x))
def JV (Y:Ctx):Prop:=AR (bG Y 933)
def xg (T:List D->D->Prop):Prop:=∀(l:List Want) (b:Bool) (c:aF) (row:aK) (k:Int),((c.w.sm/\∀x∈l,x.sm)/\0<=k/\k<=30)->T [.sl 3 (l.map Want.D),.fn (bif b then 929 else 933) [.ref 3 [aF.D c] 0 0,.ref 5 [aK.D row] 0 0,.ref 1 [.int .i64 k] 0 0]] (.int .i64 (gK (fB b c.w.us row k) l 0))
def Ga (Y:Ctx):Prop:=xg (bG Y 1026)
def AM (T:List D->D->Prop):Prop:=∀(l:List Want) (b:Bool) (c:aF) (row:aK) (k:Int),((c.w.sm/\∀x∈l,x.sm)/\0<=k/\k<=30)->T [.sl 3 (l.map Want.D),.fn (bif b then 929 else 933) [.ref 3 [aF.D c] 0 0,.ref 5 [aK.D row] 0 0,.ref 1 [.int .i64 k] 0 0]] (.bool (l.any (fB b c.w.us row k)))
def Hj (Y:Ctx):Prop:=AM (bG Y 928)
def AQ (T:List D->D->Prop):Prop:=∀(x:List Want) (c:aF) (row:aK) (k:Int),((c.w.sm/\∀w∈x,w.sm)/\0<=k/\k<=30)->T [.sl 3 (x.map Want.D),.ref 3 [aF.D c] 0 0,.ref 5 [aK.D row] 0 0,.ref 1 [.int .i64 k] 0 0] (.bool (gN c.w.us row k x))
def JU (Y:Ctx):Prop:=AQ (bG Y 932)
def xi (T:List D->D->Prop):Prop:=∀(l:List jS) (c:aF) (row:aK) (k:Int),((c.w.sm/\∀r∈l,∀x∈r,x.sm)/\0<=k/\k<=30)->T [.sl 1 (l.map c9),.fn 932 [.ref 3 [aF.D c] 0 0,.ref 5 [aK.D row] 0 0,.ref 1 [.int .i64 k] 0 0]] (.int .i64 (gK (gN c.w.us row k) l 0))
def Gb (Y:Ctx):Prop:=xi (bG Y 1028)
def AP (T:List D->D->Prop):Prop:=∀(l:List jS) (c:aF) (row:aK) (k:Int),((c.w.sm/\∀r∈l,∀x∈r,x.sm)/\0<=k/\k<=30)->T [.sl 1 (l.map c9),.fn 932 [.ref 3 [aF.D c] 0 0,.ref 5 [aK.D row] 0 0,.ref 1 [.int .i64 k] 0 0]] (.bool (l.any (gN c.w.us row k)))
def JT (Y:Ctx):Prop:=AP (bG Y 931)
def AF (T:List D->D->Prop):Prop:=∀(c:aF) (row:aK) (k:Int) (mild:Bool),((c.w.sm/\0<=row.unit/\row.unit<c.w.us.length)/\0<=k/\k<c.w.us[row.unit.toNat]!.cands.length)->T [aF.D c,aK.D row,.int .i64 k,.bool mild] (.bool (oe c.w.us row k.toNat mild))
def JJ (Y:Ctx):Prop:=AF (bG Y 785)
def AE (T:List D->D->Prop):Prop:=∀(t:dM) (row:aK),T [dM.D t,.ref 5 [aK.D row] 0 0] (.bool (decide (t.u=row.unit)))
def JI (Y:Ctx):Prop:=AE (bG Y 784)
def Ai (T:List D->D->Prop):Prop:=∀(l:List dM) (row:aK),T [.sl 2 (l.map dM.D),.fn 784 [.ref 5 [aK.D row] 0 0]] (.int .i64 (gK (fun t=>decide (t.u=row.unit)) l 0))
def Jn (Y:Ctx):Prop:=Ai (bG Y 615)
def Aq (T:List D->D->Prop):Prop:=∀(c:aF) (row:aK) (mild:Bool),(c.w.sm/\ef c.w.us row.terms=true)->T [aF.D c,aK.D row,.bool mild] (.bool (iS c.w.us row mild))
def Ju (Y:Ctx):Prop:=Aq (bG Y 635)
def ox (T:List D->D->Prop):Prop:=T [.agg []] (.bool true)
def Gd (Y:Ctx):Prop:=ox (bG Y 1178)
def xj (T:List D->D->Prop):Prop:=∀(b:Bool),T [.agg [.bool b]] (.bool true)
def Ge (Y:Ctx):Prop:=xj (bG Y 1179)
def Gf (Y:Ctx):Prop:=ox (bG Y 1180)
def xk (T:List D->D->Prop):Prop:=T [.agg []] (.bool false)
def Gg (Y:Ctx):Prop:=xk (bG Y 1181)
def Ao (T:List D->D->Prop):Prop:=∀(k:Int),T [.int .i64 k] (tk k)
def Jt (Y:Ctx):Prop:=Ao (bG Y 633)
def As (T:List D->D->Prop):Prop:=∀(c:aF) (row:aK) (i:Int),((c.w.sm/\RowsIn c.rows)/\i<=c.rows.length)->T [aF.D c,aK.D row,.int .i64 i] (.bool (nJ c row i))
def Jv (Y:Ctx):Prop:=As (bG Y 637)
def zW (T:List D->D->Prop):Prop:=∀(c:aF) (i:Int),(c.w.sm/\RowsIn c.rows)->T [aF.D c,.int .i64 i] (.bool (dJ c i))
def I9 (Y:Ctx):Prop:=zW (bG Y 425)
def zF (T:List D->D->Prop):Prop:=∀(w:bT) (allow:List Int) (rows:List aK) (i:Int),(w.sm/\RowsIn rows)->T [bT.D w,.sl 1 (allow.map (D.int .i64)),.sl 5 (rows.map aK.D),.int .i64 i] (.bool (dJ ⟨w,allow,rows⟩ i))
def Ez (Y:Ctx):Prop:=zF (bG Y 198)
def Em (T:List D->D->Prop):Prop:=∀(w:bT) (allow:List Int) (rows:List aK),(w.sm/\RowsIn rows)->T [bT.D w,.sl 1 (allow.map (D.int .i64)),.sl 5 (rows.map aK.D)] (.tup [.int .i64 (dw (okW w allow) (fun j=>dJ ⟨w,allow,rows⟩ ((j:Nat):Int)) rows).1,.bool (dw (okW w allow) (fun j=>dJ ⟨w,allow,rows⟩ ((j:Nat):Int)) rows).2])
def C65 (Y:Ctx):Prop:=Em (bG Y 65)
def Aw (T:List D->D->Prop):Prop:=∀(m:Int),T [.int .i64 m] (.sl 1 ((iu m).map (D.int .i64)))
def JA (Y:Ctx):Prop:=Aw (bG Y 762)
def AG (T:List D->D->Prop):Prop:=∀(w:bT) (l:List Want) (row:aK) (bit:Int),(w.sm/\∀x∈l,x.sm)->T [bT.D w,.sl 3 (l.map Want.D),aK.D row,.int .i64 bit] (.bool (lK w.us row bit l))
def JL (Y:Ctx):Prop:=AG (bG Y 913)
def AH (T:List D->D->Prop):Prop:=∀(w:bT) (x:Want) (row:aK) (bit:Int),(w.sm/\x.sm)->T [bT.D w,Want.D x,aK.D row,.int .i64 bit] (.bool (iR w.us row bit x))
def JM (Y:Ctx):Prop:=AH (bG Y 914)
def Ax (T:List D->D->Prop):Prop:=∀(w:bT) (row:aK) (k:Int),((w.sm/\0<=row.unit/\row.unit<w.us.length)/\0<=k/\k<w.us[row.unit.toNat]!.cands.length)->T [bT.D w,aK.D row,.int .i64 k] (.bool (gG w.us row k.toNat))
def JB (Y:Ctx):Prop:=Ax (bG Y 763)
def Aa (T:List D->D->Prop):Prop:=∀(w:bT) (row:aK),(w.sm/\ef w.us row.terms=true)->T [bT.D w,aK.D row] (.bool (lV w.us row))
def Ji (Y:Ctx):Prop:=Aa (bG Y 591)
def z8 (T:List D->D->Prop):Prop:=∀(w:bT) (rows:List aK) (i:Int),(w.sm/\0<=i/\i<rows.length)->T [bT.D w,.sl 5 (rows.map aK.D),.int .i64 i] (.bool (qP ⟨w,[],rows⟩ rows[i.toNat]! i))
def Jh (Y:Ctx):Prop:=z8 (bG Y 590)
def zH (T:List D->D->Prop):Prop:=∀(w:bT) (allow:List Int) (rows:List aK) (i:Int),(w.sm)->T [bT.D w,.sl 1 (allow.map (D.int .i64)),.sl 5 (rows.map aK.D),.int .i64 i] (.bool (kC (⟨w,allow,rows⟩:aF) i))
def GY (Y:Ctx):Prop:=zH (bG Y 368)
def zy (T:List D->D->Prop):Prop:=∀(w:bT) (allow:List Int) (rows:List aK),(w.sm)->T [bT.D w,.sl 1 (allow.map (D.int .i64)),.sl 5 (rows.map aK.D)] (.tup [.int .i64 (dw (okW w allow) (fun j=>kC ⟨w,allow,rows⟩ ((j:Nat):Int)) rows).1,.bool (dw (okW w allow) (fun j=>kC ⟨w,allow,rows⟩ ((j:Nat):Int)) rows).2])
def IX (Y:Ctx):Prop:=zy (bG Y 150)
def Ek (T:List D->D->Prop):Prop:=∀(w:bT) (ks:List Int),(w.sm/\w.us.length<=1000)->T [bT.D w,.sl 1 (ks.map (D.int .i64))] (.sl 1 ((gD w.us ks).map (D.int .i64)))
def C37 (Y:Ctx):Prop:=Ek (bG Y 37)
def zG (T:List D->D->Prop):Prop:=∀(rows:List aK),(rows.length<=1000/\∀r∈rows,r.terms.length<=1000)->T [.sl 5 (rows.map aK.D)] (.sl 5 (rows.map aK.D))
def I1 (Y:Ctx):Prop:=zG (bG Y 206)
def zE (T:List D->D->Prop):Prop:=T [] (bT.D fj)
def I0 (Y:Ctx):Prop:=zE (bG Y 197)
def Cm {α:Type} [Inhabited α]{f:α->Bool}{l:List α}:l.any f=jT (fun i=>f l[i]!) 0 l.length:=by
 rw[Bool.eq_iff_iff,Cl,List.any_eq_true];constructor
 .rintro⟨x,hx,hf⟩;obtain⟨i,hi,rfl⟩:=List.mem_iff_getElem.1 hx;exact⟨i,ae,hi,by simpa[hi]using hf⟩
 .rintro⟨i,_,hi,hf⟩;exact⟨l[i]!,ak hi,hf⟩
def tE {a b:Int}:decide (kE a b=2)=decide (eZ a b=a):=by
 unfold kE;by_cases h:eZ a b=a
 .simp[h]
 .by_cases h2:eZ a b=0<;>simp[h,h2]<;>(intro e;exact absurd (h2.trans e) h)
def EY {i:Nat}(hi:i<=40)(b:Int):eZ (2^i) b=0\/eZ (2^i) b=2^i:=by
 have hp:=mM hi;rw[Dn]at hp⊢;have hl:(2:Nat)^i<=1099511627776:=ae;unfold eZ;have h6:∀p:Nat,p<=1099511627776->(((p:Nat):Int)%((2^64:Nat):Int)).toNat=p:=fun p hp=>ae
 have h5:=h6 _ hl;have h4:(BitVec.ofInt 64 ((2^i:Nat):Int)).toNat=2^i:=by
  rw[BitVec.toNat_ofInt];exact h5
 rw[BitVec.toNat_and,h4];generalize (BitVec.ofInt 64 b).toNat=n;cases hb:n.testBit i with
 |false=>
  have:2^i&&&n=0:=by
   apply Nat.eq_of_testBit_eq;intro j;rw[Nat.testBit_and,Nat.testBit_two_pow,Nat.zero_testBit];by_cases e:i=j
   .subst e;simp[hb]
   .simp[e]
  left;rw[this];rfl
 |true=>
  have:2^i&&&n=2^i:=by
   apply Nat.eq_of_testBit_eq;intro j;rw[Nat.testBit_and,Nat.testBit_two_pow];by_cases e:i=j
   .subst e;simp[hb]
   .simp[e]
  right;rw[this];exact wrap_i64 ae ae
def Fl (us:List cr)(row:aK)(k:Nat)(w:Want):rm us row (k:Int) w=decide (eZ (p7 us row (2^(k+1)) w.u) (jj us w)=0):=by
 unfold rm p7;split
 .rw[nM];rfl
 .rw[nM]
def C7 (us:List cr)(row:aK)(k:Nat)(r:jS):gN us row (k:Int) r=lK us row (2^(k+1)) r:=by
 unfold gN lK;rw[Cm];unfold jT;rw[Bool.not_not];congr 1;funext i;simp only[fB,fJ,aS,Bool.not_not,Fl]
def FY {us:List cr}{row:aK}{k:Nat}(hk:k<=30)(hs:∀x∈us,x.cands.length<=16)(ht:ef us row.terms=true)(w:Want):r6 us row (k:Int) w=iR us row (2^(k+1)) w:=by
 unfold r6 iR p7;rw[tE];split
 .rcases EY (i:=k+1) ae (jj us w)with h|h
  .rw[h,nM,show((k:Int)+1).toNat=k+1 from rfl,h];have:=ez (k+1);rw[df a8,df ae]
  .rw[h,nM,show((k:Int)+1).toNat=k+1 from rfl,h];have:=ez (k+1);rw[cB ae,cB rfl]
 .rw[Bool.eq_iff_iff,dI,dI];exact Cu (ru hs ht).1
def pK {us:List cr}{row:aK}{k:Nat}(hk:k<=30)(hs:∀x∈us,x.cands.length<=16)(ht:ef us row.terms=true)(h23:row.kind=2\/row.kind=3):oe us row k (decide (row.kind=3))=gG us row k:=by
 unfold oe gG;rcases h23 with h|h
 .rw[ai (by rw[h];decide),aw h,Cm];congr 1;funext i;exact C7 _ _ _ _
 .rw[aw (by rw[h];decide),ai (by rw[h];decide),Cm];congr 1;funext i;simp only[fB,aX];exact FY hk hs ht _
def vD {m:Int}{i:Nat}:∀{n:Nat},i<n->eZ m (2^i)≠0->(i:Int) -1∈gU m n
 |n+1,hi,h=>by
  rw[gU];rcases dh i n with hn|hn
  .have:=vD hn h;split
   .exact List.mem_append_left _ this
   .exact this
  .obtain rfl:i=n:=ae;rw[aw h];exact List.mem_append_right _ (.head _)
def CP:∀n,n<17->eZ ((2:Int)^(n+1) -1) 1=1:=by decide+kernel
def A5 {us:List cr}{row:aK}(hs:∀x∈us,x.cands.length<=16)(ht:ef us row.terms=true)(h23:row.kind=2\/row.kind=3):iS us row (decide (row.kind=3))=((decide (0<=row.unit)&&decide (row.unit<us.length))&&lV us row):=by
 rcases lC us row.unit row.terms 0 with⟨_,e1,e2⟩|⟨j,h1,_,h3,e2,e3⟩
 ·
  have:lV us row=false:=by
   unfold lV;rw[e2];by_cases q:row.unit<0\/(us.length:Int)<=row.unit
   .rcases q with q|q
    .rw[df ae];rfl
    .rw[show decide (row.unit<us.length)=false from df ae];simp
   .rw[show dr us row.unit=2^(us[row.unit.toNat]!.cands.length+1) -1 from ai q,CP _ (by have:=hs _ (ak (show row.unit.toNat<us.length by omega));omega)];simp
  rw[this];unfold iS;rw[e1];simp
 .have hin:=yC (qu ht h1);rw[h3]at hin;have hc:=hs _ (ak (show row.unit.toNat<us.length by omega));unfold iS lV;rw[e3,cB hin.1,cB hin.2];simp only[pw];have hb:=yU (bm us row.terms row.unit);by_cases hz:eZ (bm us row.terms row.unit) 1=0
  .rw[cB hz,cB (show eZ (bm us row.terms row.unit) 1≠1 by omega)];simp only[pw];have hek:=y2 hs ht hin.1 hin.2 ae;rw[Bool.eq_iff_iff,ea,ea];constructor
   .intro g i _ hi;have hx:=ak hi;obtain⟨q,hq,e,hm⟩:=mf hx;have hr:=hek _ hx;have g2:=g (q-1) ae ae;rw[pK ae hs ht h23,show q-1+1=q by omega,df hm,Bool.false_or]at g2;rw[e,show((q:Int) -1).toNat=q-1 by omega];exact g2
   .intro g k _ hk;by_cases hm:eZ (bm us row.terms row.unit) (2^(k+1))=0
    .rw[cB hm];rfl
    .have hx:=vD (show k+1<17 by omega) hm;obtain⟨i,hi,e⟩:=List.mem_iff_getElem.1 hx;have g2:=g i ae hi;rw[pK ae hs ht h23,df hm,Bool.false_or];rw[show(iu (bm us row.terms row.unit))[i]! =(k:Int)by unfold iu;simp[hi,e]]at g2;exact g2
  .rw[df hz,show decide (eZ (bm us row.terms row.unit) 1≠1)=false from df ae];simp only[Bool.false_and]
def y6 {us:List cr}{u:Int}:decide (dr us u≠0)=(decide (0<=u)&&decide (u<us.length)):=by
 unfold dr;by_cases q:u<0\/(us.length:Int)<=u
 .rw[aw q];rcases q with q|q
  .rw[df a8,df ae];rfl
  .rw[df a8,show decide (u<us.length)=false from df ae,Bool.and_false]
 .rw[ai q];have:=ez (us[u.toNat]!.cands.length);rw[Int.pow_succ,cB ae,cB ae,cB ae];rfl
def Cr {us:List cr}{A B:List dM}{row:aK}(hs:∀x∈us,x.cands.length<=16)(ht:ef us row.terms=true):nK us A B row=mS us A B row:=by
 funext u;unfold nK mS;rw[tE,Bool.eq_iff_iff,dI,dI];exact Cu (ru hs ht).1
def nY {c:aF}(hs:∀x∈c.w.us,x.cands.length<=16)(i:Int):dJ c i=kC c i:=by
 unfold dJ kC;by_cases h0:0<=i/\i<c.rows.length/\ef c.w.us c.rows[i.toNat]!.terms=true
 .obtain⟨g1,g2,ht⟩:=h0;rw[cB g1,cB g2,ht];simp only[pw];generalize c.rows[i.toNat]! =row at ht;unfold lF jY;by_cases h5:row.kind=5
  .rw[aw h5,aw h5];unfold nJ qP;rw[y6,Cr hs ht];simp only[Bool.and_assoc]
  .rw[ai h5,ai h5];by_cases h1:row.kind=1
   .rw[aw h1,aw h1];by_cases hu:row.unit=0
    .rw[hu];by_cases hm:bm c.w.us row.terms 0=1
     .have hr:(0:Int)<c.w.us.length:=by
       rcases lC c.w.us 0 row.terms 0 with⟨_,_,e⟩|⟨j,k1,_,k3,_,_⟩
       .rw[hm]at e;by_cases q:(0:Int)<0\/(c.w.us.length:Int)<=0
        .rw[show dr c.w.us 0=0 from aw q]at e;cases e
        .omega
       .have:=yC (qu ht k1);rw[k3]at this;exact this.2
      rw[cB hr];simp
     .simp[hm]
    .simp[hu]
   .rw[ai h1,ai h1];by_cases h23:row.kind=2\/row.kind=3
    .rw[aw h23,aw h23,A5 hs ht h23];cases decide (0<=row.unit)<;>cases decide (row.unit<c.w.us.length)<;>cases decide (row.a=0)<;>cases decide (row.b=0)<;>rfl
    .rw[ai h23,ai h23];by_cases h4:row.kind=4
     .rw[aw h4,aw h4];unfold sy;rw[y6];cases decide (0<=row.unit)<;>cases decide (row.unit<c.w.us.length)<;>cases decide (row.a=0)<;>cases decide (row.b=0)<;>rfl
     .rw[ai h4,ai h4];simp
 .by_cases a1:0<=i
  .by_cases a2:i<c.rows.length
   .have a3:ef c.w.us c.rows[i.toNat]!.terms=false:=by
     cases h:ef c.w.us c.rows[i.toNat]!.terms with
     |false=>rfl
     |true=>exact absurd ⟨a1,a2,h⟩ h0
    rw[a3];simp
   .rw[show decide (i<c.rows.length)=false from df a2];simp
  .rw[df a1];simp
section
def iC:List aK:=[⟨1,0,0,0,[⟨0,1⟩]⟩,⟨2,0,0,0,[⟨0,2⟩]⟩,⟨5,0,0,1,[]⟩]
def KX (l:List aK):Int×Bool:=dw (okW fj []) (fun j=>dJ ⟨fj,[],l⟩ ((j:Nat):Int)) l
set_option maxRecDepth 100000 in
theorem HC:KX iC=(3,true):=by decide+kernel
set_option maxRecDepth 100000 in
theorem HD:KX (iC.drop 1)=(1,false):=by decide+kernel
set_option maxRecDepth 100000 in
theorem HE:dJ ⟨fj,[],iC⟩ 2=true:=by decide+kernel
def jc:fj.sm:=by
 intro u hu;simp only[fj,dK,en,or_false]at hu;rcases hu with rfl|rfl
 .refine⟨bV,fun c hc=>?_⟩;obtain rfl:=bK.1 hc;refine⟨pN,fun r hr x hx=>?_,fun x hx=>by cases hx⟩;obtain rfl:=bK.1 hr;obtain rfl:=bK.1 hx;exact yQ
 .exact⟨bV,fun c hc=>by cases hc⟩
def lT:RowsIn iC:=by
 intro r hr t ht;simp only[iC,dK,en,or_false]at hr;rcases hr with rfl|rfl|rfl
 .obtain rfl:=bK.1 ht;exact⟨bV,bV⟩
 .obtain rfl:=bK.1 ht;exact⟨bV,bV⟩
 .cases ht
def tw:RowsIn (iC.drop 1):=fun r hr=>lT r (List.mem_of_mem_drop hr)
end
def El (T:List D->D->Prop):Prop:=T [] (.bool true)
def C63 (Y:Ctx):Prop:=El (bG Y 63)
def JY (c:CW):Prop:=c.v.sm/\(∀r∈c.n.p,∀w∈r,w.sm)/\∀w∈c.b.p,w.sm
def sa {g:Gs}{n:Nat}{vs:Nat->List aU}(hv:tQ vs):(cd g n vs).sm:=(Ix (hv _).2 (hv _).1).1
def vY {n:Nat}{vs:Nat->List aU}(hv:tQ vs):∀k g acc,(∀r∈acc,∀w∈r,w.sm)->∀r∈(iM n vs k g acc).1,∀w∈r,w.sm
 |0,g,acc,h=>h
 |k+1,g,acc,h=>by
  rw[iM];split<;>refine vY hv k _ _ ?_<;>intro r hr<;>rcases List.mem_append.1 hr with hr|hr
  .exact h r hr
  .obtain rfl:=bK.1 hr;intro w hw;simp only[dK,en,or_false]at hw;rcases hw with rfl|rfl<;>exact sa hv
  .exact h r hr
  .obtain rfl:=bK.1 hr;intro w hw;obtain rfl:=bK.1 hw;exact sa hv
def th {n:Nat}{vs:Nat->List aU}(hv:tQ vs)(g:Gs)(most:Int):∀r∈(ar g n vs most).1,∀w∈r,w.sm:=vY hv _ _ _ (fun _ h=>by cases h)
def wM {h:Gs}{n i:Nat}{vs:Nat->List aU}{f:cV}{v:aU}(hv:tQ vs)(hs:v.sm):∀r∈pI h n vs i f v,∀w∈r,w.sm:=by
 intro r hr;unfold pI at hr;rcases List.mem_append.1 hr with hr|hr
 .split at hr
  .cases hr
  .obtain rfl:=bK.1 hr;intro w hw;obtain rfl:=bK.1 hw;exact sU hs
 .exact th hv _ _ r hr
def Cv {h:Gs}{n i:Nat}{vs:Nat->List aU}{f:cV}{v:aU}(hv:tQ vs)(hs:v.sm):JY (fN h n vs i f v).1:=by
 unfold fN;split
 .exact⟨hs,wM hv hs,fun w hw=>by obtain rfl:=bK.1 hw;exact sa hv⟩
 .exact⟨hs,wM hv hs,fun w hw=>by cases hw⟩
def ta {n i:Nat}{vs:Nat->List aU}{f:cV}(hv:tQ vs):∀(l:List aU) (h:Gs),(∀v∈l,v.sm)->∀c∈(dt n vs i f l h).1,JY c
 |[],h,_,c,hc=>by cases hc
 |v::r,h,hl,c,hc=>by
  simp only[dt]at hc;rcases dK.1 hc with rfl|hc
  .exact Cv hv (hl _ (.head _))
  .exact ta hv r _ (fun x hx=>hl x (.tail _ hx)) c hc
def tl {n:Nat}{vs:Nat->List aU}{ft:Nat->cV}(hv:tQ vs):∀r i h cs,(∀t,((cs t).length<=4)/\∀c∈cs t,JY c)->∀t,((jl n vs ft r i h cs t).length<=4)/\∀c∈jl n vs ft r i h cs t,JY c
 |0,i,h,cs,hc=>hc
 |r+1,i,h,cs,hc=>by
  rw[jl];refine tl hv r _ _ _ fun t=>?_
  unfold bI;split
  .refine⟨?_,ta hv _ _ (hv i).2⟩;have:=bw List.length (vN n vs i (ft i) (vs i) h).1;rw[bt]at this;rw[this];exact(hv i).1
  .exact hc t
def BR (ks:List Int)(few:Int):(bZ ks few).sm/\(bZ ks few).us.length<=8:=by
 obtain⟨us,g1,h⟩:∃us g1,dS ⟨ks,0⟩ few=(us,g1):=⟨_,_,rfl⟩
 obtain⟨h8,h0,hraw,hv,hp,_⟩:=pM h;have hb:∀t:Nat,(us[t]!.cs.length<=4)/\∀c∈us[t]!.cs,JY c:=by
  intro t;have h4:=(hv t).1;rw[bt]at h4;refine⟨h4,fun c hc=>?_⟩;have hvs:c.v.sm:=(hv t).2 _ (List.mem_map_of_mem hc);rcases Nat.eq_zero_or_pos t with rfl|ht
  .rw[h0]at hc;obtain rfl:=bK.1 hc;exact⟨hvs,(fun _ h=>by cases h),(fun _ h=>by cases h)⟩
  .rw[hraw t ht]at hc;obtain⟨v,_,rfl⟩:=gQ.1 hc;exact⟨hvs,(fun _ h=>by cases h),(fun _ h=>by cases h)⟩
 have hf:=tl (n:=us.length) (ft:=fun t=>us[t]!.feat) hv (us.length-1) 1 (ar g1 us.length (fun t=>us[t]!.cs.map CW.v) 3).2 (bI (fun t=>us[t]!.cs) 0 [⟨zV,-1,.sl (ar g1 us.length (fun t=>us[t]!.cs.map CW.v) 3).1,.nil⟩]) (by
  intro t;unfold bI;split
  .refine⟨a8,fun c hc=>?_⟩;obtain rfl:=bK.1 hc;exact⟨pN,th hv _ _,fun _ h=>by cases h⟩
  .exact hb t)
 unfold bZ;rw[h];refine⟨?_,by simp only[bt,List.length_range];exact h8.2⟩;intro u hu;obtain⟨t,_,rfl⟩:=gQ.1 hu;have:=hf t;refine⟨by dsimp only[HJ];rw[List.length_map];exact Nat.le_trans this.1 bV,fun c hc=>?_⟩;obtain⟨x,hx,rfl⟩:=gQ.1 hc;exact this.2 x hx
def xl (T:List D->D->Prop):Prop:=∀(a:List Int) (b:List Int) (rows:List aK) (d:List Int),(RowsIn rows)->T [.sl 1 (a.map (D.int .i64)),.sl 1 (b.map (D.int .i64)),.sl 5 (rows.map aK.D),.sl 1 (d.map (D.int .i64))] (.bool true)
def bF {p:Prop}(h:p:=by((repeat intro _);exact okp KZ (.inl (by assumption)) fun T hT=>(by apply hT<;>assumption))):p:=h
def br {t:List (Nat×kL)}{key u q:Nat}:((under t key u).at q).cb:=tF t key u q
section
def IV (T:FT):Prop:=∀(g:Gs) (n:Int),(n<=9223372036854775807)->(0<=g.i/\g.i<=1000000)->T (Gs.D g) [.int .i64 n] (.int .i64 (g.val n)) (Gs.D g.bl)
def JZ:xu (rj IV):=KY
def J0:J1 (ux xl):=KZ
def bn:List (Nat×kL):=[(25,rP 1 Ei),(36,rP 15 Ej),(37,rP 3 Ek),(63,rP 24 El),(65,rP 23 Em),(109,rF 2 IV),(112,rP 1 zx),(150,rP 16 zy),(154,rG 3 GR),(155,rG 14 GS),(156,rP 8 zz),(157,rG 13 Ew),(158,rP 2 zA),(159,rP 1 zB),(169,rP 14 qx),(172,rP 4 zC),(175,rP 12 qx),(182,rP 1 zD),(197,rP 4 zE),(198,rP 22 zF),(206,rP 1 zG),(209,rP 4 qy),(217,rP 4 qy),(295,rP 5 qz),(368,rP 15 zH),(374,rP 3 zI),(375,rP 1 zJ),(376,rP 2 zK),(377,rP 2 zL),(378,rP 3 zM),(379,rP 7 zN),(380,rG 12 G0),(381,rP 1 zO),(403,rP 13 zP),(405,rP 3 zQ),(406,rP 3 zR),(408,rP 3 zS),(409,rP 11 zT),(415,rP 11 zU),(424,rP 5 qz),(425,rP 21 zW),(440,rP 1 qA),(441,rP 3 zX),(442,rP 2 zY),(454,rP 1 zZ),(455,rP 1 qA),(456,rP 3 z6),(470,rP 1 qE),(516,rP 2 qB),(530,rP 1 qC),(531,rP 1 z7),(532,rP 2 qD),(533,rP 1 qE),(534,rP 3 qF),(590,rP 5 z8),(591,rP 14 Aa),(598,rP 2 Ab),(599,rP 1 qC),(600,rP 1 Ac),(601,rP 1 Ad),(602,rP 6 Ae),(603,rP 1 Af),(604,rP 11 Ag),(605,rP 10 Ah),(615,rP 2 Ai),(617,rP 1 Aj),(618,rP 12 Ak),(622,rP 10 Al),(627,rP 10 qG),(630,rP 1 qD),(631,rP 4 Am),(632,rP 2 An),(633,rP 1 Ao),(634,rP 2 Ap),(635,rP 20 Aq),(636,rP 1 Ar),(637,rP 3 As),(658,rP 1 qH),(659,rP 1 qI),(666,rP 1 At),(667,rP 2 qH),(668,rP 1 qI),(704,rP 1 Au),(712,rP 10 qG),(714,rP 1 Av),(762,rP 2 Aw),(763,rP 13 Ax),(769,rP 5 Ay),(770,rP 9 qJ),(771,rP 10 Az),(772,rP 9 AA),(777,rP 11 AB),(778,rP 10 AD),(780,rP 9 qJ),(782,rP 9 qK),(783,rP 3 qF),(784,rP 1 AE),(785,rP 19 AF),(861,rP 9 qK),(913,rP 12 AG),(914,rP 12 AH),(916,rP 8 qL),(917,rP 2 AI),(918,rG 9 Hf),(919,rP 8 AJ),(920,rP 7 AK),(921,rG 7 EI),(924,rP 1 AL),(925,rP 8 qL),(926,rP 8 qM),(927,rP 1 qB),(928,rP 15 AM),(929,rP 13 AN),(930,rP 12 AO),(931,rP 18 AP),(932,rP 16 AQ),(933,rP 13 AR),(934,rP 12 AS),(980,rP 8 qM),(1019,rP 7 ot),(1020,rP 6 ou),(1021,rP 7 xf),(1023,rP 7 ot),(1024,rP 6 ou),(1025,rP 6 ov),(1026,rP 14 xg),(1027,rP 11 xh),(1028,rP 17 xi),(1055,rP 6 ov),(1086,rP 5 ow),(1087,rP 5 ow),(1178,rP 1 ox),(1179,rP 1 xj),(1180,rP 1 ox),(1181,rP 1 xk),(1210,rP 25 xl)]
variable {k u v:Nat}
def G25 (hk:1<k:=by decide):C25 (under bn k u):=bF
def G36 (hk:15<k:=by decide):C36 (under bn k u):=bF
def G37 (hk:3<k:=by decide):C37 (under bn k u):=bF
def G63 (hk:24<k:=by decide):C63 (under bn k u):=bF
def G65 (hk:23<k:=by decide):C65 (under bn k u):=bF
def Ch (hk:2<k:=by decide):AT (under bn k u):=fun g n hp0 hp1=>okf JZ hk fun T h=>h g n hp0 hp1
def G112 (hk:1<k:=by decide):IW (under bn k u):=bF
def G150 (hk:16<k:=by decide):IX (under bn k u):=bF
def G154 (hk:3<k:=by decide):GR (under bn k u):=fun g few hp0 nx m K h0 hx hK=>IU (.inl hk) fun T _ h=>h g few hp0 nx m K h0 hx hK
def G155 (hk:14<k:=by decide):GS (under bn k u):=fun g n nm ft cs kk E most hE hp0 nx m K hx hW hK=>IU (.inl hk) fun T _ h=>h g n nm ft cs kk E most hE hp0 nx m K hx hW hK
def Kb (hk:8<k:=by decide):GU (under bn k u):=bF
def Kd (hk:13<k:=by decide):Ew (under bn k u):=fun g n nm ft cs kk E hE hp0 nx m K hx hW hK=>IU (.inl hk) fun T _ h=>h g n nm ft cs kk E hE hp0 nx m K hx hW hK
def Hk (hk:2<k:=by decide):Ey (under bn k u):=bF
def Ke (hk:1<k:=by decide):GV (under bn k u):=bF
def G169 (hk:14<k:=by decide):IY (under bn k u):=bF
def Kf (hk:4<k:=by decide):GW (under bn k u):=bF
def G175 (hk:12<k:=by decide):IZ (under bn k u):=bF
def Kg (hk:1<k:=by decide):GX (under bn k u):=bF
def G197 (hk:4<k:=by decide):I0 (under bn k u):=bF
def Hl (hk:22<k:=by decide):Ez (under bn k u):=bF
def G206 (hk:1<k:=by decide):I1 (under bn k u):=bF
def AX (hk:4<k:=by decide):xr (under bn k u):=bF
def tP (hk:4<k:=by decide):sw (under bn k u):=bF
def Hm (hk:5<k:=by decide):EA (under bn k u):=bF
def Kh (hk:15<k:=by decide):GY (under bn k u):=bF
def Ki (hk:3<k:=by decide):GZ (under bn k u):=bF
def EJ (hk:1<k:=by decide):B8 (under bn k u):=bF
def Hn (hk:2<k:=by decide):EB (under bn k u):=bF
def G377 (hk:2<k:=by decide):I2 (under bn k u):=bF
def G378 (hk:3<k:=by decide):I3 (under bn k u):=bF
def G379 (hk:7<k:=by decide):I4 (under bn k u):=bF
def G380 (hk:12<k:=by decide):G0 (under bn k u):=fun g xs hp0 kk E hE nx lc m K hn h0 h1 h10 hK=>IU (.inl hk) fun T _ h=>h g xs hp0 kk E hE nx lc m K hn h0 h1 h10 hK
def Ho (hk:1<k:=by decide):EC (under bn k u):=bF
def G403 (hk:13<k:=by decide):I5 (under bn k u):=bF
def G405 (hk:3<k:=by decide):I6 (under bn k u):=bF
def Ci (hk:3<k:=by decide):AU (under bn k u):=bF
def G408 (hk:3<k:=by decide):I7 (under bn k u):=bF
def G409 (hk:11<k:=by decide):I8 (under bn k u):=bF
def Kj (hk:11<k:=by decide):G1 (under bn k u):=bF
def Hp (hk:5<k:=by decide):ED (under bn k u):=bF
def G425 (hk:21<k:=by decide):I9 (under bn k u):=bF
def G440 (hk:1<k:=by decide):Ja (under bn k u):=bF
def G441 (hk:3<k:=by decide):Jb (under bn k u):=bF
def Kk (hk:2<k:=by decide):G2 (under bn k u):=bF
def G454 (hk:1<k:=by decide):Jc (under bn k u):=bF
def G455 (hk:1<k:=by decide):Jd (under bn k u):=bF
def G456 (hk:3<k:=by decide):Je (under bn k u):=bF
def Kl (hk:1<k:=by decide):G3 (under bn k u):=bF
def Km (hk:2<k:=by decide):G4 (under bn k u):=bF
def G530 (hk:1<k:=by decide):Jf (under bn k u):=bF
def Kn (hk:1<k:=by decide):G5 (under bn k u):=bF
def Hq (hk:2<k:=by decide):EE (under bn k u):=bF
def Hr (hk:1<k:=by decide):EF (under bn k u):=bF
def G534 (hk:3<k:=by decide):Jg (under bn k u):=bF
def G590 (hk:5<k:=by decide):Jh (under bn k u):=bF
def G591 (hk:14<k:=by decide):Ji (under bn k u):=bF
def G598 (hk:2<k:=by decide):Jj (under bn k u):=bF
def Ko (hk:1<k:=by decide):G6 (under bn k u):=bF
def Kq (hk:1<k:=by decide):G7 (under bn k u):=bF
def Hs (hk:1<k:=by decide):EG (under bn k u):=bF
def G602 (hk:6<k:=by decide):Jk (under bn k u):=bF
def Ht (hk:1<k:=by decide):EH (under bn k u):=bF
def G604 (hk:11<k:=by decide):Jl (under bn k u):=bF
def G605 (hk:10<k:=by decide):Jm (under bn k u):=bF
def G615 (hk:2<k:=by decide):Jn (under bn k u):=bF
def G617 (hk:1<k:=by decide):Jo (under bn k u):=bF
def G618 (hk:12<k:=by decide):Jp (under bn k u):=bF
def G622 (hk:10<k:=by decide):Jq (under bn k u):=bF
def G627 (hk:10<k:=by decide):Jr (under bn k u):=bF
def EK (hk:1<k:=by decide):B9 (under bn k u):=bF
def G631 (hk:4<k:=by decide):Js (under bn k u):=bF
def Kr (hk:2<k:=by decide):G8 (under bn k u):=bF
def G633 (hk:1<k:=by decide):Jt (under bn k u):=bF
def EL (hk:2<k:=by decide):Ca (under bn k u):=bF
def G635 (hk:20<k:=by decide):Ju (under bn k u):=bF
def Cj (hk:1<k:=by decide):AV (under bn k u):=bF
def G637 (hk:3<k:=by decide):Jv (under bn k u):=bF
def Ks (hk:1<k:=by decide):G9 (under bn k u):=bF
def Kt (hk:1<k:=by decide):Ha (under bn k u):=bF
def G666 (hk:1<k:=by decide):Jw (under bn k u):=bF
def Ku (hk:2<k:=by decide):Hb (under bn k u):=bF
def Kv (hk:1<k:=by decide):Hc (under bn k u):=bF
def G704 (hk:1<k:=by decide):Jx (under bn k u):=bF
def G712 (hk:10<k:=by decide):Jy (under bn k u):=bF
def G714 (hk:1<k:=by decide):Jz (under bn k u):=bF
def G762 (hk:2<k:=by decide):JA (under bn k u):=bF
def G763 (hk:13<k:=by decide):JB (under bn k u):=bF
def G769 (hk:5<k:=by decide):JC (under bn k u):=bF
def EM (hk:9<k:=by decide):Cb (under bn k u):=bF
def G771 (hk:10<k:=by decide):JD (under bn k u):=bF
def G772 (hk:9<k:=by decide):JE (under bn k u):=bF
def G777 (hk:11<k:=by decide):JF (under bn k u):=bF
def Kw (hk:10<k:=by decide):Hd (under bn k u):=bF
def Kx (hk:9<k:=by decide):He (under bn k u):=bF
def G782 (hk:9<k:=by decide):JG (under bn k u):=bF
def G783 (hk:3<k:=by decide):JH (under bn k u):=bF
def G784 (hk:1<k:=by decide):JI (under bn k u):=bF
def G785 (hk:19<k:=by decide):JJ (under bn k u):=bF
def G861 (hk:9<k:=by decide):JK (under bn k u):=bF
def G913 (hk:12<k:=by decide):JL (under bn k u):=bF
def G914 (hk:12<k:=by decide):JM (under bn k u):=bF
def EN (hk:8<k:=by decide):Cc (under bn k u):=bF
def G917 (hk:2<k:=by decide):JN (under bn k u):=bF
def G918 (hk:9<k:=by decide):Hf (under bn k u):=fun l hp0 nx lo m K h1 h2 hK=>IU (.inl hk) fun T _ h=>h l hp0 nx lo m K h1 h2 hK
def Ky (hk:8<k:=by decide):Hg (under bn k u):=bF
def Kz (hk:7<k:=by decide):Hh (under bn k u):=bF
def KA (hk:7<k:=by decide):EI (under bn k u):=fun out f t hp0 nx lo m K h1 h2 hK=>IU (.inl hk) fun T _ h=>h out f t hp0 nx lo m K h1 h2 hK
def G924 (hk:1<k:=by decide):JO (under bn k u):=bF
def KB (hk:8<k:=by decide):Hi (under bn k u):=bF
def G926 (hk:8<k:=by decide):JP (under bn k u):=bF
def G927 (hk:1<k:=by decide):JQ (under bn k u):=bF
def KC (hk:15<k:=by decide):Hj (under bn k u):=bF
def G929 (hk:13<k:=by decide):JR (under bn k u):=bF
def G930 (hk:12<k:=by decide):JS (under bn k u):=bF
def G931 (hk:18<k:=by decide):JT (under bn k u):=bF
def G932 (hk:16<k:=by decide):JU (under bn k u):=bF
def G933 (hk:13<k:=by decide):JV (under bn k u):=bF
def G934 (hk:12<k:=by decide):JW (under bn k u):=bF
def G980 (hk:8<k:=by decide):JX (under bn k u):=bF
def Ce (hk:7<k:=by decide):yL (under bn k u):=bF
def vi (hk:6<k:=by decide):sO (under bn k u):=bF
def J2 (hk:7<k:=by decide):F8 (under bn k u):=bF
def Gi (hk:7<k:=by decide):B5 (under bn k u):=bF
def Gj (hk:6<k:=by decide):B6 (under bn k u):=bF
def J3 (hk:6<k:=by decide):F9 (under bn k u):=bF
def J4 (hk:14<k:=by decide):Ga (under bn k u):=bF
def Gk (hk:11<k:=by decide):B7 (under bn k u):=bF
def J5 (hk:17<k:=by decide):Gb (under bn k u):=bF
def J6 (hk:6<k:=by decide):Gc (under bn k u):=bF
def Cf (hk:5<k:=by decide):yM (under bn k u):=bF
def Cg (hk:5<k:=by decide):yN (under bn k u):=bF
def J7 (hk:1<k:=by decide):Gd (under bn k u):=bF
def J8 (hk:1<k:=by decide):Ge (under bn k u):=bF
def J9 (hk:1<k:=by decide):Gf (under bn k u):=bF
def Ka (hk:1<k:=by decide):Gg (under bn k u):=bF
end
def H0:List (Nat×Nat):=[(3,1210),(9,63),(10,36),(11,37),(12,206),(13,198),(14,368),(15,65),(16,150),(19,25),(26,197),(27,154),(28,155),(29,156),(30,109),(31,157),(32,158),(33,159),(34,425),(35,172),(36,590),(37,406),(38,591),(39,175),(40,169),(48,374),(49,112),(50,217),(51,375),(52,376),(53,377),(54,378),(55,379),(56,380),(57,381),(58,632),(59,633),(60,634),(61,635),(62,636),(63,637),(64,405),(65,182),(66,762),(67,763),(68,408),(69,209),(70,295),(71,409),(72,403),(79,415),(84,598),(85,455),(86,456),(87,599),(88,600),(89,601),(90,602),(91,603),(92,604),(93,605),(94,615),(95,784),(96,785),(97,913),(98,914),(99,531),(100,516),(101,440),(102,441),(103,442),(104,530),(105,532),(106,533),(107,534),(108,622),(109,617),(110,618),(111,424),(116,627),(120,470),(121,666),(122,667),(123,668),(124,769),(125,770),(126,771),(127,772),(128,928),(129,929),(130,930),(131,931),(132,932),(133,933),(134,934),(135,704),(136,658),(137,659),(138,714),(139,780),(140,777),(141,778),(142,630),(143,631),(144,782),(145,454),(146,916),(147,917),(148,918),(149,919),(150,920),(151,921),(152,1026),(153,1027),(154,1028),(155,924),(156,925),(157,783),(158,926),(159,1019),(160,1020),(161,1021),(162,712),(163,1023),(164,1024),(165,927),(166,1025),(167,1086),(168,861),(169,1087),(170,980),(171,1055),(187,1178),(188,1179),(189,1180),(190,1181),(1000000126,501178),(1000000129,501179),(1000000131,501180),(1000000132,501181)]
def Ba:List Nat:=[219,1091,1354,1894,1896,1616,1320,1618,1898,2062,2066,2282,2068,2252,2194,2064,1904,900,931,937,935,445,978,1328,904,942,944,946,952,448,522,1008,1724,1726,1728,1430,486,500,1842,760,314,310,308,1836,500000000]
def bq:(Go.Proofs.Tryz.prog).follows .mixedOrders=true:=zzbk
abbrev Ow [cP](f n:Nat):Prop:=IJ Go.Proofs.Tryz.prog H0 Ba bn f n
abbrev Cp (f:Nat)(a:aA):Prop:=BZ Go.Proofs.Tryz.prog H0 Ba f a
def ck {f:Nat}{a:aA}(h:((Go.Proofs.Tryz.prog).funcs[f]?).map (fun f=>(compile Go.Proofs.Tryz.prog H0 Ba f,f.name== "runtime.NumGoroutine"))=some (some a,false):=by kernel_rfl):Cp f a:=h
end Go.Abs
