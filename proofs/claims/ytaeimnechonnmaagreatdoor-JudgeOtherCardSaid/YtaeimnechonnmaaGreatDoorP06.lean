/- A part of the proofs. -/
import Derived.Test.YtaeimnechonnmaaGreatDoorP05
set_option linter.all false
set_option maxRecDepth 4000
namespace Go.Abs
def RU.raw (u:RU):Prop:=∃vs:List bd,u.cs=vs.map aY/\vs.length<=4/\∀v∈vs,v.sm
def zF (m:Int)(a b:dy):(⟨a,b,(br m 4).map aY⟩:RU).raw:=⟨_,rfl,kQ m 4,qy m 4 (aE _)⟩
def xe (vs:List bd):∀r g acc,(∀v∈acc,v∈vs)->r<=vs.length->∀v∈(fu vs r g acc).1,v∈vs
 |0,g,acc,h,_=>h
 |r+1,g,acc,h,hr=>by
  rw[fu];refine xe vs r _ _ ?_ ae;intro v hv;split at hv
  .rcases List.mem_append.1 hv with hv|hv
   .exact h v hv
   .obtain rfl:=bo.1 hv;exact aj ae
  .exact h v hv
def H6 (m:Int)(g:Gs)(a b:dy):(⟨a,b,(fu (br m 4) (br m 4).length g []).1.map aY⟩:RU).raw:=by
 refine⟨_,rfl, ?_,fun v hv=>qy m 4 (aE _) v (xe _ _ _ _ (fun _ h=>by cases h) (aE _) v hv)⟩;have:=xd (br m 4) (br m 4).length g [];have:=kQ m 4;simp only[bK]at*;omega
def Dv (vs:List bd):∀r g acc,(fu vs r g acc).2.i=g.i+r
 |0,g,acc=>by simp[fu]
 |r+1,g,acc=>by rw[fu,Dv vs r];simp only[Gs.bH];omega
def mI (few:Int):∀(r:Nat) (g:Gs) (us:List RU),r<=5->∃more,(eY few r g us).1=us++more/\(∀u∈more,u.raw)/\more.length<=r+(r-3)/\g.i<=(eY few r g us).2.i/\(eY few r g us).2.i<=g.i+10*r+1
 |0,g,us,_=>⟨[],by simp[eY],bh,bh,by simp only[eY,Gs.bH];omega,by simp only[eY,Gs.bH];omega⟩
 |r+1,g,us,hr=>by
  rw[eY];split
  .split
   .rename_i h1 h2;have hf:=Dv (br (g.bH.val 16) 4) (br (g.bH.val 16) 4).length g.eu [];have hb:=kQ (g.bH.val 16) 4;obtain⟨more,e,hm,hl,hi1,hi2⟩:=mI few r (fu (br (g.bH.val 16) 4) (br (g.bH.val 16) 4).length g.eu []).2 ((us++[⟨bI[4-r]!,[],(br (g.bH.val 16) 4).map aY⟩])++[⟨bI[4-r]!,[102],(fu (br (g.bH.val 16) 4) (br (g.bH.val 16) 4).length g.eu []).1.map aY⟩]) ae;refine⟨_::_::more,by rw[e];simp only[me,List.singleton_append];rfl, ?_, ?_, ?_, ?_⟩
    .intro u hu;rcases dx.1 hu with rfl|hu
     .exact zF _ _ _
     .rcases dx.1 hu with rfl|hu
      .exact H6 _ _ _ _
      .exact hm u hu
    .simp only[bA];omega
    .rw[hf]at hi1;simp only[Gs.eu,Gs.bH]at*;omega
    .rw[hf]at hi2;simp only[Gs.eu,Gs.bH]at*;omega
   .have hg:g.i+2<=(if 4-r<2 then g.eu else g.bH.bH).i/\(if 4-r<2 then g.eu else g.bH.bH).i<=g.i+3:=by
     split<;>simp only[Gs.eu,Gs.bH]<;>omega
    obtain⟨more,e,hm,hl,hi1,hi2⟩:=mI few r (if 4-r<2 then g.eu else g.bH.bH) (us++[⟨bI[4-r]!,[],(br (g.bH.val 16) 4).map aY⟩]) ae;refine⟨_::more,by rw[e];simp only[me,List.singleton_append];rfl, ?_, ?_, ?_, ?_⟩
    .intro u hu;rcases dx.1 hu with rfl|hu
     .exact zF _ _ _
     .exact hm u hu
    .simp only[bA];omega
    .omega
    .omega
  .refine⟨[],bh,bh,bh, ?_, ?_⟩<;>simp only[Gs.bH]<;>omega
def CZ {g:Gs}{few:Int}:2<=(ek g few).1.length:=by
 have hv:=g.xY few;have h:(0:Int)<1+g.val few:=ae;unfold ek;rw[show 5=4+1 from rfl,eY,aw (by simpa using h)];split
 .obtain⟨more,e,_⟩:=mI few 4 (fu (br (g.bH.val 16) 4) (br (g.bH.val 16) 4).length g.eu []).2 ((tz++[⟨bI[4-4]!,[],(br (g.bH.val 16) 4).map aY⟩])++[⟨bI[4-4]!,[102],(fu (br (g.bH.val 16) 4) (br (g.bH.val 16) 4).length g.eu []).1.map aY⟩]) ae;rw[e];simp[tz]
 .obtain⟨more,e,_⟩:=mI few 4 (if 4-4<2 then g.eu else g.bH.bH) (tz++[⟨bI[4-4]!,[],(br (g.bH.val 16) 4).map aY⟩]) ae;rw[e];simp[tz]
def xW {g:Gs}{few:Int}:∃more,(ek g few).1=tz++more/\(∀u∈more,u.raw)/\(1<=more.length/\more.length<=7)/\g.i<=(ek g few).2.i/\(ek g few).2.i<=g.i+51:=by
 obtain⟨more,e,hm,hl,h1,h2⟩:=mI few 5 g tz ae;have h3:=CZ (g:=g) (few:=few);unfold ek at*
 rw[e]at h3⊢;refine⟨more,rfl,hm,⟨?_,ae⟩,h1,ae⟩;simp only[tz,cK,List.length_singleton]at h3;omega
def nt (h:Gs)(n:Nat)(vs:Nat->List bd)(i:Nat)(f:dy)(v:bd):List ko:=(if f=[]then []else [[⟨(i:Int) -1,bV v⟩]])++(ax h n vs 2).1
def gK (h:Gs)(n:Nat)(vs:Nat->List bd)(i:Nat)(f:dy)(v:bd):CW×Gs:=
 if(ax h n vs 2).2.val 4=0 then(⟨v,0,.sl (nt h n vs i f v),.sl [cG (ax h n vs 2).2.bH n vs]⟩,(ax h n vs 2).2.bH.eu)
 else(⟨v,0,.sl (nt h n vs i f v),.nil⟩,(ax h n vs 2).2.bH)
def dU (n:Nat)(vs:Nat->List bd)(i:Nat)(f:dy):List bd->Gs->List CW×Gs
 |[],h=>([],h)
 |v::r,h=>((gK h n vs i f v).1::(dU n vs i f r (gK h n vs i f v).2).1,(dU n vs i f r (gK h n vs i f v).2).2)
def cj (cs:Nat->List CW)(i:Nat)(x:List CW)(t:Nat):List CW:=if t=i then x else cs t
def jj (n:Nat)(vs:Nat->List bd)(ft:Nat->dy):Nat->Nat->Gs->(Nat->List CW)->Nat->List CW
 |0,_,_,cs=>cs
 |r+1,i,h,cs=>jj n vs ft r (i+1) (dU n vs i (ft i) (vs i) h).2 (cj cs i (dU n vs i (ft i) (vs i) h).1)
def yD (n:Nat)(vs:Nat->List bd):∀k g acc,g.i<=(ji n vs k g acc).2.i/\(ji n vs k g acc).2.i<=g.i+7*k
 |0,g,acc=>by simp[ji]
 |k+1,g,acc=>by
  rw[ji];split
  .have:=yD n vs k g.eu.bH.eu (acc++[[cG g n vs,cG g.eu.bH n vs]]);simp only[Gs.eu,Gs.bH]at*;omega
  .have:=yD n vs k g.eu.bH (acc++[[cG g n vs]]);simp only[Gs.eu,Gs.bH]at*;omega
def vu {g:Gs}{n:Nat}{vs:Nat->List bd}{most:Int}(h0:0<=most)(h3:most<=3):g.i<=(ax g n vs most).2.i/\(ax g n vs most).2.i<=g.i+22:=by
 have hv:=jl (FK g.l g.i) (most+1) ae;have hv2:g.val (most+1)=jk (FK g.l g.i) (most+1):=rfl;have:=yD n vs (g.val (most+1)).toNat g.bH [];unfold ax;simp only[Gs.bH]at*;omega
def Dm {h:Gs}{n i:Nat}{vs:Nat->List bd}{f:dy}{v:bd}:h.i<=(gK h n vs i f v).2.i/\(gK h n vs i f v).2.i<=h.i+30:=by
 have:=vu (g:=h) (n:=n) (vs:=vs) (most:=2) b7 b7;unfold gK;split<;>simp only[Gs.eu,Gs.bH]<;>omega
def Dn (h:Gs)(n i:Nat)(vs:Nat->List bd)(f:dy)(v:bd):(gK h n vs i f v).1.v=v/\(gK h n vs i f v).1.pl=true:=by
 unfold gK;split<;>exact⟨rfl,rfl⟩
def uQ (n:Nat)(vs:Nat->List bd)(i:Nat)(f:dy):∀(l:List bd) (h:Gs),(dU n vs i f l h).1.map CW.v=l/\(∀c∈(dU n vs i f l h).1,c.pl=true)/\h.i<=(dU n vs i f l h).2.i/\(dU n vs i f l h).2.i<=h.i+30*l.length
 |[],h=>⟨rfl,(fun _ hc=>by cases hc),by simp[dU],by simp[dU]⟩
 |v::r,h=>by
  have ih:=uQ n vs i f r (gK h n vs i f v).2;have h1:=Dn h n i vs f v;have h2:=Dm (h:=h) (n:=n) (i:=i) (vs:=vs) (f:=f) (v:=v);refine⟨by simp only[dU,List.map_cons,h1.1,ih.1], ?_,by simp only[dU];omega,by simp only[dU,bA];omega⟩;intro c hc;simp only[dU]at hc;rcases dx.1 hc with rfl|hc
  .exact h1.2
  .exact ih.2.1 c hc
def lC {cs:Nat->List CW}{i:Nat}{x:List CW}:cj cs i x i=x:=aw rfl
def zd {cs:Nat->List CW}{i t:Nat}{x:List CW}(h:t≠i):cj cs i x t=cs t:=ai h
def O4 {cs:Nat->List CW}{i:Nat}:cj cs i (cs i)=cs:=by
 funext t;unfold cj;split
 .rename_i h;rw[h]
 .rfl
def tZ {cs:Nat->List CW}{i:Nat}{x y:List CW}:cj (cj cs i x) i y=cj cs i y:=by
 funext t;unfold cj;split<;>rfl
def pc (vs:Nat->List bd)(B:Nat->List CW):Prop:=∀t,(B t).map CW.v=vs t/\∀c∈B t,c.pl=true
def pc.Kj {vs:Nat->List bd}{B:Nat->List CW}(h:pc vs B){i:Nat}{x:List CW}(hv:x.map CW.v=vs i)(hp:∀c∈x,c.pl=true):pc vs (cj B i x):=by
 intro t;unfold cj;split
 .rename_i e;subst e;exact⟨hv,hp⟩
 .exact h t
def pc.len {vs:Nat->List bd}{B:Nat->List CW}(h:pc vs B):(fun j=>(B j).length)=fun j=>(vs j).length:=by
 funext j;rw[<-(h j).1,aK]
def pc.gS {vs:Nat->List bd}{B:Nat->List CW}(h:pc vs B):gS B=vs:=by
 funext j;exact(h j).1
def HV {α:Type} [Inhabited α]{n l k i o:Nat}{ag:Bool}{q:α->D}{xs:List α}{m:List (Nat×bM)}{v:D}(hl:look m l=some (.buf k (xs.map q)))(hi:i<xs.length)(hv:nA (q xs[i]!) k n o ag=v)(ho:o+n<=k):wO m n (.ptr l k i o)/\tS m n ag (.ptr l k i o)=v:=by
 refine⟨?_, ?_⟩
 .simp only[wO,eg,hl,aK];exact⟨⟨trivial,ae⟩,ho⟩
 .simp only[tS,aW,hl];rw[getD_map hi];exact hv
def Pb (o:Nat)(us:List RU):List D:=(List.range us.length).map fun j=>.agg [.str us[j]!.name,.str us[j]!.feat,.own (o+j) 8 0 us[j]!.cs.length]
def Pc (nx:Nat)(us:List RU):List (Nat×bM):=[(nx,.buf 3 (Pb (nx+1) us)),(nx+1,.buf 8 (us[0]!.cs.map (CW.D 10))),(nx+2,.buf 8 (us[1]!.cs.map (CW.D 10))),(nx+3,.buf 8 (us[2]!.cs.map (CW.D 10))),(nx+4,.buf 8 (us[3]!.cs.map (CW.D 10))),
 (nx+5,.buf 8 (us[4]!.cs.map (CW.D 10))),(nx+6,.buf 8 (us[5]!.cs.map (CW.D 10))),(nx+7,.buf 8 (us[6]!.cs.map (CW.D 10))),(nx+8,.buf 8 (us[7]!.cs.map (CW.D 10)))]
def NO {lo o:Nat}{us:List RU}{ln:Nat->Nat}(σ:List (Nat×Nat))(h:∀j,j<us.length->fH lo σ (o+j)=some (2+j))(hl:∀j,us[j]!.cs.length=ln j):iA lo σ (Pb o us)=some (UB us.length (fun j=>us[j]!.name) (fun j=>us[j]!.feat) ln):=by
 unfold Pb UB;have h2:∀j∈List.range us.length,fH lo σ (o+j)=some (2+j):=fun j hj=>h j (List.mem_range.1 hj)
 revert h2;generalize List.range us.length=r;intro h2;induction r with
 |nil=>rfl
 |cons a r ih=>
  have:=h2 a (.head _);simp only[List.map_cons,iA,UD,kv,rr,this,hl a,ih fun j hj=>h2 j (.tail _ hj)]
def LP {lo v:Nat}{a b:Nat×Nat}{r:List (Nat×Nat)}(h:v<8)(ha:a.1<5)(hb:b.1<5):fH lo (a::b::(5,2)::(6,3)::(7,4)::(8,5)::(9,6)::(10,7)::(11,8)::(12,9)::r) (5+v)=some (2+v):=by
 simp only[fH,eM (show a.1≠5+v by omega),eM (show b.1≠5+v by omega),cond_false]
 match v,h with
 |0,_=>rfl
 |1,_=>rfl
 |2,_=>rfl
 |3,_=>rfl
 |4,_=>rfl
 |5,_=>rfl
 |6,_=>rfl
 |7,_=>rfl
def eR {lo v:Nat}{r:List (Nat×Nat)}(h:v<8):fH lo ((0,0)::(1,1)::(2,2)::(3,3)::(4,4)::(5,5)::(6,6)::(7,7)::(8,8)::(9,9)::r) (2+v)=some (2+v):=by
 simp only[fH,eM (show 0≠2+v by omega),cond_false];exact ic h
def lY {lo k i o l l':Nat}{σ:List (Nat×Nat)}(h:fH lo σ l=some l'):kv lo σ (.ptr l k i o)=some (.ptr l' k i o):=by simp only[kv,rr,h]
def vj {done rest:List CW}{x X:CW}{e e':Nat}{d:D}(hd:∀c∈done,c.pl=true)(hr:∀c∈rest,c.pl=true)(hX:X.D e'=d):((done++x::rest).map (CW.D e)).set done.length d=(done++X::rest).map (CW.D e'):=by
 rw[List.map_append,List.map_cons,tN (e:=e) (e':=e') hd,tN (e:=e) (e':=e') hr,List.set_append_right _ _ bh,aK,Nat.sub_self,List.set_cons_zero,<-hX,List.map_append,List.map_cons]
def r7 {done rest:List CW}{x:CW}:(done++x::rest)[done.length]! =x:=by simp[List.getElem!_eq_getElem?_getD]
def oo {done rest:List CW}{x:CW}{e:Nat}:((done++x::rest).map (CW.D e)).getD done.length .any=x.D e:=by
 rw[getD_map bh,r7]
def yA {l k:Nat}{es:List D}{B:Nat->List CW}{i:Nat}{done rest:List CW}{x X:CW}(hB:∀t,t≠i->∀c∈B t,c.pl=true)(hd:∀c∈done,c.pl=true)(hr:∀c∈rest,c.pl=true)(hX:er l k es (x.D l)=X.D 10)(t:Nat):
  eD l k es ((cj B i (done++x::rest) t).map (CW.D l))=(cj B i (done++X::rest) t).map (CW.D 10):=by
 have pl:∀xs:List CW,(∀c∈xs,c.pl=true)->eD l k es (xs.map (CW.D l))=xs.map (CW.D 10):=fun xs h=>by rw[gw _ _ _ _ (cu h),tN h]
 have app:∀a b:List D,eD l k es (a++b)=eD l k es a++eD l k es b:=fun a b=>by
  induction a with
  |nil=>rfl
  |cons x r ih=>simp only[qq,eD,ih]
 unfold cj;split
 .rw[List.map_append,List.map_cons,app,eD,pl _ hd,pl _ hr,hX,List.map_append,List.map_cons]
 .rename_i h;exact pl _ (hB t h)
def dh (m:List (Nat×bM))(L:Nat)(b:bM)(l:Nat):look (cS m L b) l=if l=L then some b else look m l:=by
 induction m with
 |nil=>by_cases h:l=L<;>simp[cS,look,h,eq_comm]<;>omega
 |cons a r ih=>
  obtain⟨k,x⟩:=a;by_cases h1:k=L<;>by_cases h2:l=L<;>by_cases h3:k=l<;>simp_all[cS,look]
def wi {e e0 i:Nat}{a b:bM}{B:Nat->List CW}{Yq:List CW}{r r':List (Nat×bM)}(hi:i<8)(hB:∀t,t≠i->∀c∈B t,c.pl=true)
  (hr:kl (cS ((0,a)::(1,b)::(2,.buf 8 ((B 0).map (CW.D e0)))::(3,.buf 8 ((B 1).map (CW.D e0)))::(4,.buf 8 ((B 2).map (CW.D e0)))::(5,.buf 8 ((B 3).map (CW.D e0)))::(6,.buf 8 ((B 4).map (CW.D e0)))::(7,.buf 8 ((B 5).map (CW.D e0)))::(8,.buf 8 ((B 6).map (CW.D e0)))::(9,.buf 8 ((B 7).map (CW.D e0)))::r) (2+i) (.buf 8 (Yq.map (CW.D e)))) r'):
  kl (cS ((0,a)::(1,b)::(2,.buf 8 ((B 0).map (CW.D e0)))::(3,.buf 8 ((B 1).map (CW.D e0)))::(4,.buf 8 ((B 2).map (CW.D e0)))::(5,.buf 8 ((B 3).map (CW.D e0)))::(6,.buf 8 ((B 4).map (CW.D e0)))::(7,.buf 8 ((B 5).map (CW.D e0)))::(8,.buf 8 ((B 6).map (CW.D e0)))::(9,.buf 8 ((B 7).map (CW.D e0)))::r) (2+i) (.buf 8 (Yq.map (CW.D e))))
   ((0,a)::(1,b)::(2,.buf 8 ((cj B i Yq 0).map (CW.D e)))::(3,.buf 8 ((cj B i Yq 1).map (CW.D e)))::(4,.buf 8 ((cj B i Yq 2).map (CW.D e)))::(5,.buf 8 ((cj B i Yq 3).map (CW.D e)))::(6,.buf 8 ((cj B i Yq 4).map (CW.D e)))::(7,.buf 8 ((cj B i Yq 5).map (CW.D e)))::(8,.buf 8 ((cj B i Yq 6).map (CW.D e)))::(9,.buf 8 ((cj B i Yq 7).map (CW.D e)))::r'):=by
 have ent:∀k,k<8->look (cS ((0,a)::(1,b)::(2,.buf 8 ((B 0).map (CW.D e0)))::(3,.buf 8 ((B 1).map (CW.D e0)))::(4,.buf 8 ((B 2).map (CW.D e0)))::(5,.buf 8 ((B 3).map (CW.D e0)))::(6,.buf 8 ((B 4).map (CW.D e0)))::(7,.buf 8 ((B 5).map (CW.D e0)))::(8,.buf 8 ((B 6).map (CW.D e0)))::(9,.buf 8 ((B 7).map (CW.D e0)))::r) (2+i) (.buf 8 (Yq.map (CW.D e)))) (2+k)=some (.buf 8 ((cj B i Yq k).map (CW.D e))):=by
  intro k hk;rw[dh];split
  .rename_i h;obtain rfl:k=i:=ae;rw[lC]
  .rename_i h;have hne:k≠i:=ae;rw[ib (fun t=>(B t).map (CW.D e0)) hk,zd hne,tN (hB k hne)]
 refine .id ?_ (.id ?_ (.id (ent 0 b7) (.id (ent 1 b7) (.id (ent 2 b7) (.id (ent 3 b7) (.id (ent 4 b7) (.id (ent 5 b7) (.id (ent 6 b7) (.id (ent 7 b7) hr)))))))))
 .rw[dh,ai ae];rfl
 .rw[dh,ai ae];rfl
def NF.p:NF->List ko
 | .sl l=>l
 |_=>[]
def BF.p:BF->List Want
 | .sl l=>l
 |_=>[]
def CW.p (c:CW):dI:=⟨c.v,c.sh,c.n.p,c.b.p⟩
def mY (us:List RU)(g:Gs):Nat->List CW:=jj us.length (fun t=>us[t]!.cs.map CW.v) (fun t=>us[t]!.feat) (us.length-1) 1 (ax g us.length (fun t=>us[t]!.cs.map CW.v) 3).2 (cj (fun t=>us[t]!.cs) 0 [⟨zV,-1,.sl (ax g us.length (fun t=>us[t]!.cs.map CW.v) 3).1,.nil⟩])
def dS (ks:List Int)(few:Int):bT:=⟨(List.range (ek ⟨ks,0⟩ few).1.length).map fun t=>⟨(ek ⟨ks,0⟩ few).1[t]!.name,(ek ⟨ks,0⟩ few).1[t]!.feat,(mY (ek ⟨ks,0⟩ few).1 (ek ⟨ks,0⟩ few).2 t).map CW.p⟩⟩
def rz (vs:Nat->List bd)(B:Nat->List CW):Prop:=∀t,(B t).map CW.v=vs t
def pc.v {vs:Nat->List bd}{B:Nat->List CW}(h:pc vs B):rz vs B:=fun t=>(h t).1
def rz.len {vs:Nat->List bd}{B:Nat->List CW}(h:rz vs B):(fun j=>(B j).length)=fun j=>(vs j).length:=by
 funext j;rw[<-h j,aK]
def rz.gS {vs:Nat->List bd}{B:Nat->List CW}(h:rz vs B):gS B=vs:=by
 funext j;exact h j
def rz.Kj {vs:Nat->List bd}{B:Nat->List CW}(h:rz vs B){i:Nat}{x:List CW}(hv:x.map CW.v=vs i):rz vs (cj B i x):=by
 intro t;unfold cj;split
 .rename_i e;subst e;exact hv
 .exact h t
def yd (vs:Nat->List bd):Prop:=∀t,(vs t).length<=4/\∀v∈vs t,v.sm
def rz.ok {vs:Nat->List bd}{B:Nat->List CW}{n:Nat}(h:rz vs B)(hn:2<=n/\n<=8)(hv:yd vs):Ho n B:=by
 refine⟨hn,fun t=>⟨?_,fun c hc=>?_⟩⟩
 .have:=(hv t).1;rw[<-h t,aK]at this;exact this
 .exact(hv t).2 _ (by rw[<-h t];exact List.mem_map_of_mem hc)
def vk {done:List CW}{r:List bd}{v:bd}{l:List bd}{c:CW}(hd:done.map CW.v=l.take done.length)(hr:l.drop done.length=v::r)(hc:c.v=v):(done++c::r.map aY).map CW.v=l:=by
 have h2:(r.map aY).map CW.v=r:=by rw[List.map_map];exact List.map_id _
 rw[List.map_append,List.map_cons,hd,h2,hc,<-hr,List.take_append_drop]
def xr (n:Nat)(vs:Nat->List bd):∀k g acc,(ji n vs k g acc).1.length=acc.length+k
 |0,g,acc=>by simp[ji]
 |k+1,g,acc=>by
  rw[ji];split<;>rw[xr n vs k]<;>simp<;>omega
def vv {g:Gs}{n:Nat}{vs:Nat->List bd}{most:Int}(h0:0<=most)(h3:most<=3):(ax g n vs most).1.length<=3:=by
 have hv:=jl (FK g.l g.i) (most+1) ae;have hv2:g.val (most+1)=jk (FK g.l g.i) (most+1):=rfl;unfold ax;rw[xr];simp only[bK];omega
def oG {ks:List Int}{few:Int}{us:List RU}{g1:Gs}(h:ek ⟨ks,0⟩ few=(us,g1)):(2<=us.length/\us.length<=8)/\us[0]!.cs=[wv]/\(∀t:Nat,1<=t->us[t]!.cs=(us[t]!.cs.map CW.v).map aY)/\yd (fun t=>us[t]!.cs.map CW.v)/\(∀t:Nat,∀c∈us[t]!.cs,c.pl=true)/\0<=g1.i/\g1.i<=51:=by
 obtain⟨more,e,hm,hl,h1,h2⟩:=xW (g:=⟨ks,0⟩) (few:=few);rw[h]at e h1 h2;dsimp only at e h1 h2;subst e;have hc:∀t,1<=t->(tz++more)[t]!.cs=[]\/(tz++more)[t]!.raw:=by
  intro t ht;rcases cQ t (tz++more).length with h|h
  .right;have h5:(tz++more)[t]! =more[t-1]! :=by
    simp only[tz,cK,List.length_singleton]at h;simp[tz,List.getElem!_eq_getElem?_getD,List.getElem?_cons,show t≠0 by omega]
   rw[h5];exact hm _ (aj (by simp only[tz,cK,List.length_singleton]at h;omega))
  .left;rw[qN h];rfl
 have h0:(tz++more)[0]!.cs=[wv]:=by simp[tz]
 refine⟨by simp only[tz,cK,List.length_singleton];omega,h0,fun t ht=>?_,fun t=>?_,fun t=>?_,ae,ae⟩
 .rcases hc t ht with e|⟨vs,e,_⟩
  .rw[e];rfl
  .rw[e,List.map_map,List.map_map];congr 1
 .rcases Nat.eq_zero_or_pos t with rfl|ht
  .simp only[h0,List.map_cons,List.map_nil,List.length_singleton];exact⟨ae,fun v hv=>by obtain rfl:=bo.1 hv;exact ta⟩
  .rcases hc t ht with e|⟨vs,e,hl4,hsm⟩
   .simp only[e,List.map_nil,bK];exact⟨ae,fun v hv=>by cases hv⟩
   .have e2:(vs.map aY).map CW.v=vs:=by rw[List.map_map];exact List.map_id _
    simp only[e,e2];exact⟨hl4,hsm⟩
 .rcases Nat.eq_zero_or_pos t with rfl|ht
  .rw[h0];intro c hc';obtain rfl:=bo.1 hc';rfl
  .rcases hc t ht with e|⟨vs,e,_⟩
   .rw[e];intro c hc';cases hc'
   .rw[e];exact fm vs
def yB {done rest:List CW}{c:CW}(hd:∀c∈done,c.pl=true)(hc:c.pl=true)(hr:∀c∈rest,c.pl=true):∀x∈done++c::rest,x.pl=true:=fun x hx=>(List.mem_append.1 hx).elim (hd x) fun h=>(dx.1 h).elim (fun e=>by rw[e];exact hc) (hr x)
def JU {α:Type}{l:List α}{k:Nat}{v:α}{r:List α}(h:l.drop k=v::r):l.take (k+1)=l.take k++[v]:=by
 have h2:(l.drop k)[0]? =some v:=by rw[h];rfl
 rw[List.getElem?_drop]at h2;rw[List.take_succ,show l[k]? =some v by simpa using h2];rfl
def m6 {n i:Nat}{vs:Nat->List bd}{f:dy}{cs B:Nat->List CW}{done:List CW}{v:bd}{r:List bd}{k h g':Gs}{c':CW}{F:List CW×Gs}(hvr:(vs i).drop done.length=v::r)(hB:B=cj cs i (done++((vs i).drop done.length).map aY))
  (hf:(done++(dU n vs i f (v::r) k).1,(dU n vs i f (v::r) k).2)=F) (hdv:done.map CW.v=(vs i).take done.length) (hdp:∀c∈done,c.pl=true) (hk:0<=k.i/\k.i<=h.i+30*(done.length:Nat)) (hce:gK k n vs i f v=(c',g')):
  (done.length+1<=(vs i).length/\(done++[c']).length=done.length+1)/\cj B i (done++c'::r.map aY)=cj cs i ((done++[c'])++((vs i).drop (done.length+1)).map aY)/\
    ((done++[c'])++(dU n vs i f ((vs i).drop (done.length+1)) g').1,(dU n vs i f ((vs i).drop (done.length+1)) g').2)=F/\((done++[c']).map CW.v=(vs i).take (done.length+1)/\∀c∈done++[c'],c.pl=true)/\(0<=g'.i/\g'.i<=h.i+30*((done.length+1:Nat):Int)):=by
 have hr1:(vs i).drop (done.length+1)=r:=by rw[<-List.drop_drop,hvr];rfl
 have h1:=Dm (h:=k) (n:=n) (vs:=vs) (i:=i) (f:=f) (v:=v);have h2:=Dn k n i vs f v;rw[hce]at h1 h2;dsimp only at h1 h2;have hl:done.length+1<=(vs i).length:=by
  have:=bS List.length hvr;simp only[wy,bA]at this;omega
 refine⟨⟨hl,bh⟩, ?_, ?_,⟨?_, ?_⟩,ae⟩
 .rw[hr1,hB,tZ,me];rfl
 .rw[hr1,<-hf];simp only[dU,hce,me,List.singleton_append]
 .rw[List.map_append,hdv,JU hvr,List.map_cons,List.map_nil,h2.1]
 .intro c hc;rcases List.mem_append.1 hc with hc|hc
  .exact hdp c hc
  .obtain rfl:=bo.1 hc;exact h2.2
def Ct {n i:Nat}{vs:Nat->List bd}{ft:Nat->dy}{cs B:Nat->List CW}{done:List CW}{k h:Gs}(hi:i<n)(hle:(vs i).length<=done.length)(hB:B=cj cs i (done++((vs i).drop done.length).map aY))
  (hf:(done++(dU n vs i (ft i) ((vs i).drop done.length) k).1,(dU n vs i (ft i) ((vs i).drop done.length) k).2)=dU n vs i (ft i) (vs i) h):jj n vs ft (n-(i+1)) (i+1) k B=jj n vs ft (n-i) i h cs:=by
 obtain⟨r,hr⟩:∃r,n-i=r+1:=⟨n-i-1,ae⟩
 rw[hr,jj,<-hf,hB,mf hle];obtain rfl:r=n-(i+1):=ae;simp only[dU,List.map_nil,Ke]
def SHW:List Sh:=[.sl 3 [.a,.a,.sl 8 [.a,.a,.a,.a,.a,.a,.sl 1 [.sl 3 [.a,.a]],.sl 3 [.a,.a,.a]]]]
def Dp {m:List (Nat×bM)}{c:CW}(h:c.pl=true):(match c.D 10 with
  | .agg ds=>.agg (xL m [.a,.a,.a,.a,.a,.a,.sl 1 [.sl 3 [.a,.a]],.sl 3 [.a,.a,.a]] ds)
  |e=>xH m [.a,.a,.a,.a,.a,.a,.sl 1 [.sl 3 [.a,.a]],.sl 3 [.a,.a,.a]] e)=c.p.D/\(match c.D 10 with
  | .agg ds=>Ea m [.a,.a,.a,.a,.a,.a,.sl 1 [.sl 3 [.a,.a]],.sl 3 [.a,.a,.a]] ds
  |e=>Mh m [.a,.a,.a,.a,.a,.a,.sl 1 [.sl 3 [.a,.a]],.sl 3 [.a,.a,.a]] e):=by
 obtain⟨v,sh,n,b⟩:=c;cases n<;>cases b<;>first|(simp[CW.pl,NF.pl,BF.pl]at h;done)|exact⟨rfl,rfl,rfl,rfl,rfl,rfl,rfl,rfl,rfl,rfl⟩
def G2 {m:List (Nat×bM)}{n:Nat}{nm ft:Nat->dy}{ln:Nat->Nat}{cs:Nat->List CW}(h1:look m 1=some (.buf 3 (UB n nm ft ln)))(hc:∀t,t<8->look m (2+t)=some (.buf 8 ((cs t).map (CW.D 10))))(hl:∀t,ln t=(cs t).length)(hp:∀t,∀c∈cs t,c.pl=true)(hn:n<=8):
  xV m SHW (.agg [.own 1 3 0 n])=bT.D ⟨(List.range n).map fun t=>⟨nm t,ft t,(cs t).map CW.p⟩⟩/\Hf m SHW (.agg [.own 1 3 0 n]):=by
 have hu:(UB n nm ft ln).take n=UB n nm ft ln:=iq (by simp[UB]);have hq:∀t,((cs t).map (CW.D 10)).take (ln t)=(cs t).map (CW.D 10):=fun t=>iq (by simp[hl])
 constructor
 .simp only[SHW,xV,xL,xC,aW,h1,bl,hu];simp only[bT.D,UB,List.map_map];congr 2;congr 1;apply List.map_congr_left;intro j hj;have h2:=hc j (by have:=List.mem_range.1 hj;omega);simp only[Function.comp,UD,xL,xC,aW,h2,bl,hq,bQ.D,List.map_map];congr 4;refine bS (D.sl 8) ?_;apply List.map_congr_left;intro c hc2;exact(Dp (m:=m) (hp j c hc2)).1
 .simp only[SHW,Hf,Ea,Kk,aW,eg,h1,bl,hu];refine⟨⟨⟨trivial,by simp[UB]⟩, ?_⟩,rfl⟩;intro e he;simp only[UB,ec,List.mem_range]at he;obtain⟨j,hj,rfl⟩:=he;have h2:=hc j ae;simp only[UD,Ea,Kk,aW,eg,h2,bl,hq];refine⟨rfl,rfl,⟨⟨trivial,by simp[hl]⟩, ?_⟩,rfl⟩;intro e he;obtain⟨c,hc2,rfl⟩:=ec.1 he;exact(Dp (m:=m) (hp j c hc2)).2
def G3 {ks:List Int}{few:Int}{us:List RU}{g1:Gs}{F:Nat->List CW}(h:ek ⟨ks,0⟩ few=(us,g1))(hF:mY us g1=F):(⟨(List.range us.length).map fun t=>⟨us[t]!.name,us[t]!.feat,(F t).map CW.p⟩⟩:bT)=dS ks few:=by
 unfold dS;rw[h,<-hF]
def Qx (c:CW):Prop:=c.v.sm/\(∀r∈c.n.p,∀w∈r,w.sm)/\∀w∈c.b.p,w.sm
def wg {g:Gs}{n:Nat}{vs:Nat->List bd}(hv:yd vs):(cG g n vs).sm:=(OT (hv _).2 (hv _).1).1
def Ah {n:Nat}{vs:Nat->List bd}(hv:yd vs):∀k g acc,(∀r∈acc,∀w∈r,w.sm)->∀r∈(ji n vs k g acc).1,∀w∈r,w.sm
 |0,g,acc,h=>h
 |k+1,g,acc,h=>by
  rw[ji];split<;>refine Ah hv k _ _ ?_<;>intro r hr<;>rcases List.mem_append.1 hr with hr|hr
  .exact h r hr
  .obtain rfl:=bo.1 hr;intro w hw;simp only[dx,dX,or_false]at hw;rcases hw with rfl|rfl<;>exact wg hv
  .exact h r hr
  .obtain rfl:=bo.1 hr;intro w hw;obtain rfl:=bo.1 hw;exact wg hv
def xw {n:Nat}{vs:Nat->List bd}(hv:yd vs)(g:Gs)(most:Int):∀r∈(ax g n vs most).1,∀w∈r,w.sm:=Ah hv _ _ _ (fun _ h=>by cases h)
def AS {h:Gs}{n i:Nat}{vs:Nat->List bd}{f:dy}{v:bd}(hv:yd vs)(hs:v.sm):∀r∈nt h n vs i f v,∀w∈r,w.sm:=by
 intro r hr;unfold nt at hr;rcases List.mem_append.1 hr with hr|hr
 .split at hr
  .cases hr
  .obtain rfl:=bo.1 hr;intro w hw;obtain rfl:=bo.1 hw;exact xb hs
 .exact xw hv _ _ r hr
def HT {h:Gs}{n i:Nat}{vs:Nat->List bd}{f:dy}{v:bd}(hv:yd vs)(hs:v.sm):Qx (gK h n vs i f v).1:=by
 unfold gK;split
 .exact⟨hs,AS hv hs,fun w hw=>by obtain rfl:=bo.1 hw;exact wg hv⟩
 .exact⟨hs,AS hv hs,fun w hw=>by cases hw⟩
def xk {n i:Nat}{vs:Nat->List bd}{f:dy}(hv:yd vs):∀(l:List bd) (h:Gs),(∀v∈l,v.sm)->∀c∈(dU n vs i f l h).1,Qx c
 |[],h,_,c,hc=>by cases hc
 |v::r,h,hl,c,hc=>by
  simp only[dU]at hc;rcases dx.1 hc with rfl|hc
  .exact HT hv (hl _ (.head _))
  .exact xk hv r _ (fun x hx=>hl x (.tail _ hx)) c hc
def xB {n:Nat}{vs:Nat->List bd}{ft:Nat->dy}(hv:yd vs):∀r i h cs,(∀t,((cs t).length<=4)/\∀c∈cs t,Qx c)->∀t,((jj n vs ft r i h cs t).length<=4)/\∀c∈jj n vs ft r i h cs t,Qx c
 |0,i,h,cs,hc=>hc
 |r+1,i,h,cs,hc=>by
  rw[jj];refine xB hv r _ _ _ fun t=>?_
  unfold cj;split
  .refine⟨?_,xk hv _ _ (hv i).2⟩;have:=bS List.length (uQ n vs i (ft i) (vs i) h).1;rw[aK]at this;rw[this];exact(hv i).1
  .exact hc t
def o9 (ks:List Int)(few:Int):(dS ks few).sm/\(dS ks few).us.length<=8:=by
 obtain⟨us,g1,h⟩:∃us g1,ek ⟨ks,0⟩ few=(us,g1):=⟨_,_,rfl⟩
 obtain⟨h8,h0,hraw,hv,hp,_⟩:=oG h;have hb:∀t:Nat,(us[t]!.cs.length<=4)/\∀c∈us[t]!.cs,Qx c:=by
  intro t;have h4:=(hv t).1;rw[aK]at h4;refine⟨h4,fun c hc=>?_⟩;have hvs:c.v.sm:=(hv t).2 _ (List.mem_map_of_mem hc);rcases Nat.eq_zero_or_pos t with rfl|ht
  .rw[h0]at hc;obtain rfl:=bo.1 hc;exact⟨hvs,(fun _ h=>by cases h),(fun _ h=>by cases h)⟩
  .rw[hraw t ht]at hc;obtain⟨v,_,rfl⟩:=ec.1 hc;exact⟨hvs,(fun _ h=>by cases h),(fun _ h=>by cases h)⟩
 have hf:=xB (n:=us.length) (ft:=fun t=>us[t]!.feat) hv (us.length-1) 1 (ax g1 us.length (fun t=>us[t]!.cs.map CW.v) 3).2 (cj (fun t=>us[t]!.cs) 0 [⟨zV,-1,.sl (ax g1 us.length (fun t=>us[t]!.cs.map CW.v) 3).1,.nil⟩]) (by
  intro t;unfold cj;split
  .refine⟨bh,fun c hc=>?_⟩;obtain rfl:=bo.1 hc;exact⟨ta,xw hv _ _,fun _ h=>by cases h⟩
  .exact hb t)
 unfold dS;rw[h];refine⟨?_,by simp only[aK,List.length_range];exact h8.2⟩;intro u hu;obtain⟨t,_,rfl⟩:=ec.1 hu;have:=hf t;refine⟨by dsimp only[mY];rw[List.length_map];exact Nat.le_trans this.1 b7,fun c hc=>?_⟩;obtain⟨x,hx,rfl⟩:=ec.1 hc;exact this.2 x hx
def iF (a b:Int):Int:=IntKind.i64.wrap ((BitVec.ofInt 64 a&&&BitVec.ofInt 64 b).toNat)
def FU (a b:Int):Int:=IntKind.i64.wrap ((BitVec.ofInt 64 a&&& ~~~ BitVec.ofInt 64 b).toNat)
def te (a b:Int):Int:=IntKind.i64.wrap ((BitVec.ofInt 64 a |||BitVec.ofInt 64 b).toNat)
def bU (us:List bQ)(u:Int):Int:=if u<0\/(us.length:Int)<=u then 0 else 2^(us[u.toNat]!.cands.length+1) -1
def jF (cs:List dI)(s:bG):Nat->Int
 |0=>0
 |k+1=>if ny s cs[k]!.v=true then jF cs s k+2^(k+1)else jF cs s k
def eQ (us:List bQ)(w:Want):Int:=if w.u<0\/(us.length:Int)<=w.u then 0 else jF us[w.u.toNat]!.cands w.s us[w.u.toNat]!.cands.length
def aQ (us:List bQ):List a8->Int->Int
 |[],u=>bU us u
 |t::r,u=>if t.u=u then t.m else aQ us r u
def oE (us:List bQ)(t:a8):Bool:=decide (t.m≠0)&&decide (iF t.m (bU us t.u)=t.m)&&decide (t.m≠bU us t.u)
def fh (us:List bQ)(l:List a8):Bool:=dj (fun i=>oE us l[i]! && !(decide (0<i)&&decide (l[i]!.u<=l[i-1]!.u))) 0 l.length
def xq {us:List bQ}{l:List a8}{u:Int}{i:Nat}(hi:i<l.length)(h:l[i]!.u=u):aQ us (l.drop i) u=l[i]!.m:=by
 rw[jP hi,aQ,aw (by simpa[hi]using h)];simp[hi]
def ve {us:List bQ}{l:List a8}{u:Int}{i:Nat}(hi:i<l.length)(h:¬l[i]!.u=u):aQ us (l.drop i) u=aQ us (l.drop (i+1)) u:=by
 rw[jP hi,aQ,ai (by simpa[hi]using h)]
def xp {us:List bQ}{l:List a8}{u:Int}{i:Nat}(hi:l.length<=i):aQ us (l.drop i) u=bU us u:=by
 rw[mf hi,aQ]
def Gw (k:Nat):(2:Int)^k=((2^k:Nat):Int):=by
 induction k with
 |zero=>rfl
 |succ k ih=>rw[Int.pow_succ,ih,Nat.pow_succ];omega
def Cu {k n:Nat}(h:k<=n):(2:Int)^k<=2^n:=by
 rw[Gw,Gw];exact Int.ofNat_le.2 (Nat.pow_le_pow_right b7 h)
def fN (k:Nat):(1:Int)<=2^k:=by
 rw[Gw];have:=Nat.one_le_two_pow (n:=k);omega
def pA {k:Nat}(h:k<=40):(2:Int)^k<=1099511627776:=Cu h
def vi (cs:List dI)(s:bG):∀k,0<=jF cs s k/\jF cs s k<=2^(k+1) -2
 |0=>by simp[jF]
 |k+1=>by
  have ih:=vi cs s k;have h1:(2:Int)^(k+1+1)=2^(k+1)*2:=Int.pow_succ 2 (k+1);have h2:=fN (k+1);rw[jF];split<;>omega
def sX (us:List bQ)(row:av)(k:Int)(w:Want):Bool:=if w.u=row.unit then decide (iF (eQ us w) (2^(k+1).toNat)≠0)else decide (FU (aQ us row.terms w.u) (eQ us w)=0)
def sQ (us:List bQ)(row:av)(k:Int)(w:Want):Bool:=if w.u=row.unit then decide (iF (eQ us w) (2^(k+1).toNat)=0)else decide (iF (eQ us w) (aQ us row.terms w.u)=0)
def uv (x:Int):Prop:=-9223372036854775808<=x/\x<=9223372036854775807
def ua (x:BitVec 64):IntKind.i64.wrap (x.toNat:Int)=x.toInt:=by
 have h:=x.isLt;have e:IntKind.i64.wrap (x.toNat:Int)=if decide ((x.toNat:Int)%18446744073709551616≥9223372036854775808)=true then(x.toNat:Int)%18446744073709551616-18446744073709551616 else(x.toNat:Int)%18446744073709551616:=rfl
 rw[e,BitVec.toInt_eq_toNat_cond];simp only[bL];split<;>split<;>omega
def mA {m:Int}(h:uv m):(BitVec.ofInt 64 m).toInt=m:=by
 obtain⟨h1,h2⟩:=h;rw[BitVec.toInt_ofInt,Int.bmod_def];split<;>omega
def nX (a b:Int):iF a b=(BitVec.ofInt 64 a&&&BitVec.ofInt 64 b).toInt:=ua _
def HO (a b:Int):FU a b=(BitVec.ofInt 64 a&&& ~~~ BitVec.ofInt 64 b).toInt:=ua _
def HQ (a b:Int):te a b=(BitVec.ofInt 64 a |||BitVec.ofInt 64 b).toInt:=ua _
def HM (a b:Int):iF a b=iF b a:=by rw[nX,nX,BitVec.and_comm]
def D8 {x:BitVec 64}:x.toInt=0↔x=0#64:=⟨fun h=>BitVec.eq_of_toInt_eq (by rw[h];rfl),fun h=>by rw[h];rfl⟩
def FJ {x y:BitVec 64}:x&&& ~~~ y=0#64↔x&&&y=x:=by
 constructor<;>intro h<;>ext i hi<;>have:=bS (fun z=>z.getLsbD i) h<;>simp at this<;>simp[hi]<;>grind
def MB {m f:Int}(h:uv m):FU m f=0↔iF m f=m:=by
 rw[HO,nX,D8,FJ];constructor
 .intro e;rw[e];exact mA h
 .intro e;exact BitVec.eq_of_toInt_eq (by rw[e,mA h])
def Dl {a:Int}{i:Nat}(h0:0<=a)(h1:a<2^i)(hi:i<=40):te a (2^i)=a+2^i:=by
 have hp:=pA hi;obtain⟨n,rfl⟩:∃n:Nat,a=(n:Int):=⟨a.toNat,ae⟩
 rw[Gw]at h1 hp⊢;have h2:n<2^i:=ae;have hl:(2:Nat)^i<=1099511627776:=ae;have e:(BitVec.ofInt 64 (n:Int) |||BitVec.ofInt 64 ((2^i:Nat):Int)).toNat=n+2^i:=by
  rw[BitVec.toNat_or,BitVec.toNat_ofInt,BitVec.toNat_ofInt];have h3:((n:Int)%((2^64:Nat):Int)).toNat=n:=ae;have h4:(((2^i:Nat):Int)%((2^64:Nat):Int)).toNat=2^i:=ae;rw[h3,h4,Nat.or_comm];have:=Nat.two_pow_add_eq_or_of_lt h2 1;simp only[Nat.mul_one]at this;omega
 unfold te;rw[e,wrap_i64 ae ae];omega
def Mb (us:List bQ)(t:a8):Bool:=!(decide (t.m=0) ||!decide (FU t.m (bU us t.u)=0) ||decide (t.m=bU us t.u))
def Mc {us:List bQ}{t:a8}(h:uv t.m):Mb us t=oE us t:=by
 unfold Mb oE;have:=MB (f:=bU us t.u) h;by_cases h1:t.m=0<;>by_cases h2:iF t.m (bU us t.u)=t.m<;>by_cases h3:t.m=bU us t.u<;>simp_all
def rb {b:Int}{n:Nat}(hb:b=(n:Int))(hn:n<=40):IntKind.i64.wrap (1*2^(min b.toNat IntKind.i64.bits))=2^n:=by
 subst hb;have h:=pA hn;have h2:=fN n;rw[show min (Int.toNat (n:Int)) IntKind.i64.bits=n from Nat.min_eq_left (by simp only[IntKind.bits];omega),Int.one_mul];exact wrap_i64 ae ae
def jf {α:Type}(f:α->Bool):List α->Nat->Int
 |[],_=>-1
 |x::r,i=>if f x=true then(i:Int)else jf f r (i+1)
def qP {α:Type} [Inhabited α]{f:α->Bool}{l:List α}{i:Nat}(hi:i<l.length)(h:f l[i]! =true):jf f (l.drop i) i=i:=by
 rw[jP hi,jf,aw (by simpa[hi]using h)]
def oR {α:Type} [Inhabited α]{f:α->Bool}{l:List α}{i:Nat}(hi:i<l.length)(h:f l[i]! =false):jf f (l.drop i) i=jf f (l.drop (i+1)) (i+1):=by
 rw[jP hi,jf,ai (by simpa[hi]using h)]
def uP {α:Type}{f:α->Bool}{l:List α}{i:Nat}(hi:l.length<=i):jf f (l.drop i) i=-1:=by
 rw[mf hi,jf]
def uO {α:Type}{f:α->Bool}:∀{l:List α}{i:Nat},decide (0<=jf f l i)=l.any f
 |[],i=>by simp[jf]
 |x::r,i=>by
  rw[jf,List.any_cons];split
  .rename_i h;rw[h];simp
  .rename_i h;rw[uO];simp[h]
def fB (b:Bool)(us:List bQ)(row:av)(k:Int)(w:Want):Bool:=if b=true then sX us row k w else !sQ us row k w
def gF (us:List bQ)(row:av)(k:Int)(r:ko):Bool:=!r.any (fB false us row k)
def lq (us:List bQ)(row:av)(k:Nat)(mild:Bool):Bool:=if mild=true then us[row.unit.toNat]!.cands[k]!.bars.any (fB true us row (k:Int))else us[row.unit.toNat]!.cands[k]!.needs.any (gF us row (k:Int))
def dI.fz (l k:Nat)(es:List Abs.D)(c:dI):er l k es c.D=c.D:=pS l k es _ (by simp only[dI.D,D.bc,aV,eZ])
def ba.fz (l k:Nat)(es:List Abs.D)(c:ba):er l k es c.D=c.D:=pS l k es _ (by simp only[ba.D,D.bc,aV,eZ])
def av.fz (l k:Nat)(es:List Abs.D)(c:av):er l k es c.D=c.D:=pS l k es _ (by simp only[av.D,D.bc,aV,eZ])
def uM (l:List a8)(u:Int):Bool:=l.any fun t=>decide (t.u=u)
def n9 (us:List bQ)(u:Int):∀(l:List a8) (i:Nat),(jf (fun t=>decide (t.u=u)) l i=-1/\uM l u=false/\aQ us l u=bU us u)\/∃j,j<l.length/\jf (fun t=>decide (t.u=u)) l i=((i+j:Nat):Int)/\l[j]!.u=u/\aQ us l u=l[j]!.m/\uM l u=true
 |[],i=>.inl ⟨rfl,rfl,rfl⟩
 |t::r,i=>by
  by_cases h:t.u=u
  .refine .inr ⟨0,bh, ?_,by simpa using h, ?_, ?_⟩
   .rw[jf,aw (by simpa using h)];rfl
   .rw[aQ,aw h];rfl
   .simp[uM,h]
  .rcases n9 us u r (i+1)with⟨h1,h2,h3⟩|⟨j,h1,h2,h3,h4,h5⟩
   .refine .inl ⟨?_, ?_, ?_⟩
    .rw[jf,ai (by simpa using h)];exact h1
    .unfold uM at*;rw[List.any_cons,h2];simp[h]
    .rw[aQ,ai h];exact h3
   .refine .inr ⟨j+1,eo, ?_, ?_, ?_, ?_⟩
    .rw[jf,ai (by simpa using h),h2];omega
    .simpa using h3
    .rw[aQ,ai h,h4];simp
    .unfold uM at*;rw[List.any_cons,h5];simp
def iD (us:List bQ)(row:av)(mild:Bool):Bool:=uM row.terms row.unit&&decide (iF (aQ us row.terms row.unit) 1=0)&&dj (fun k=>decide (iF (aQ us row.terms row.unit) (2^(k+1))=0) ||lq us row k mild) 0 us[row.unit.toNat]!.cands.length
def sB {us:List bQ}{t:a8}(h:oE us t=true):0<=t.u/\t.u<us.length:=by
 simp only[oE,bm,bL]at h;by_cases q:t.u<0\/(us.length:Int)<=t.u
 .exfalso;rw[show bU us t.u=0 from aw q]at h;have h2:iF t.m 0=0:=by rw[nX];simp
  rw[h2]at h;exact h.1.1 h.1.2.symm
 .omega
def zc {us:List bQ}{l:List a8}(h:fh us l=true){i:Nat}(hi:i<l.length):oE us l[i]! =true:=by
 unfold fh at h;rw[cA]at h;have:=h i ae hi;simp only[bm]at this;exact this.1
def xz (k:Int):D:=if k=1 then .fn 4001178 [.agg []]else if k=2\/k=3 then .fn 4001179 [.agg [.bool (decide (k=3))]]else if k=4 then .fn 4001180 [.agg []]else if k=5 then .fn 4001181 [.agg []]else .fn 4600000 []
def qA (us:List bQ)(A B:List a8)(row:av)(u:Nat):Bool:=decide (FU (aQ us row.terms (u:Int)) (if(u:Int)=row.unit then te (aQ us A (u:Int)) (aQ us B (u:Int))else iF (aQ us A (u:Int)) (aQ us B (u:Int)))=0)
def nW (c:ba)(row:av)(i:Int):Bool:=decide (bU c.w.us row.unit≠0)&&(decide (0<=row.a)&&decide (row.a<i))&&(decide (0<=row.b)&&decide (row.b<i))&&(fh c.w.us c.rows[row.a.toNat]!.terms&&fh c.w.us c.rows[row.b.toNat]!.terms)&&dj (qA c.w.us c.rows[row.a.toNat]!.terms c.rows[row.b.toNat]!.terms row) 0 c.w.us.length
def ux (c:ba)(row:av):Bool:=decide (bU c.w.us row.unit≠0)&&decide (row.unit<c.allow.length)&&decide (iF (aQ c.w.us row.terms row.unit) c.allow[row.unit.toNat]! =0)
def lK (c:ba)(row:av)(i:Int):Bool:=if row.kind=5 then nW c row i else decide (row.a=0)&&decide (row.b=0)&&(if row.kind=1 then decide (row.unit=0)&&decide (aQ c.w.us row.terms 0=1)else if row.kind=2\/row.kind=3 then iD c.w.us row (decide (row.kind=3))else if row.kind=4 then ux c row else false)
def dE (c:ba)(i:Int):Bool:=decide (0<=i)&&decide (i<c.rows.length)&&fh c.w.us c.rows[i.toNat]!.terms&&lK c c.rows[i.toNat]! i
def RowsIn (l:List av):Prop:=∀r∈l,∀t∈r.terms,uv t.m
def tQ {us:List bQ}{u:Int}(h:bU us u≠0):0<=u/\u<us.length:=by
 by_cases q:u<0\/(us.length:Int)<=u
 .exact absurd (aw q) h
 .omega
def B1 (k:Int):k=1\/(k=2\/k=3)\/k=4\/k=5\/¬(k=1\/k=2\/k=3\/k=4\/k=5):=ae
def ofK1 {k:Int}(h:k=1):xz k=.fn 4001178 [.agg []]:=aw h
def ofK2 {k:Int}(h:k=2\/k=3):xz k=.fn 4001179 [.agg [.bool (decide (k=3))]]:=by unfold xz;rw[ai ae,aw h]
def ofK4 {k:Int}(h:k=4):xz k=.fn 4001180 [.agg []]:=by unfold xz;rw[ai ae,ai ae,aw h]
def ofK5 {k:Int}(h:k=5):xz k=.fn 4001181 [.agg []]:=by unfold xz;rw[ai ae,ai ae,ai ae,aw h]
def ofK0 {k:Int}(h:¬(k=1\/k=2\/k=3\/k=4\/k=5)):xz k=.fn 4600000 []:=by unfold xz;rw[ai ae,ai ae,ai ae,ai ae]
def fw (f:Nat->Bool):Nat->Nat->Nat
 |0,i=>i
 |k+1,i=>if f i=true then fw f k (i+1)else i
def oK {f:Nat->Bool}{i n:Nat}(hi:i<n)(h:f i=true):fw f (n-i) i=fw f (n-(i+1)) (i+1):=by
 obtain⟨k,hk⟩:∃k,n-i=k+1:=⟨n-i-1,ae⟩
 rw[hk,fw,aw h,show k=n-(i+1)by omega]
def qw {f:Nat->Bool}{i n:Nat}(hi:i<n)(h:f i=false):fw f (n-i) i=i:=by
 obtain⟨k,hk⟩:∃k,n-i=k+1:=⟨n-i-1,ae⟩
 rw[hk,fw,ai (by rw[h];exact Bool.false_ne_true)]
def nV {f:Nat->Bool}{i n:Nat}(hi:n<=i):fw f (n-i) i=i:=by
 rw[show n-i=0 by omega,fw]
def ig (ok:Bool)(f:Nat->Bool)(l:List av):Int×Bool:=if ok=false then(0,false)else if fw f l.length 0<l.length then((fw f l.length 0:Nat),false)else((l.length:Nat),decide (0<l.length)&&decide (l[l.length-1]!.terms.length=0))
def okW (w:bT)(allow:List Int):Bool:=nH w&& !(decide (0<allow.length)&&decide (allow.length≠w.us.length))
def mS (a b:Int):uv (iF a b):=by
 rw[nX];have h1:=BitVec.le_toInt (BitVec.ofInt 64 a&&&BitVec.ofInt 64 b);have h2:=BitVec.toInt_lt (x:=BitVec.ofInt 64 a&&&BitVec.ofInt 64 b);exact⟨by simpa using h1,by have:=h2;simp at this;omega⟩
def zb {us:List bQ}{t:a8}(h:oE us t=true):uv t.m:=by
 simp only[oE,bm,bL]at h;rw[<-h.1.2];exact mS _ _
def zG {m:Int}(h:uv m):iF m m=m:=by
 rw[nX,BitVec.and_self,mA h]
def n8 {us:List bQ}{u:Int}(h:∀x∈us,x.cands.length<=16):uv (bU us u):=by
 unfold bU;split
 .exact⟨b7,b7⟩
 .rename_i q;have:=h _ (aj (show u.toNat<us.length by omega));have h1:=pA (k:=us[u.toNat]!.cands.length+1) ae;have h2:=fN (us[u.toNat]!.cands.length+1);constructor<;>omega
def mz {us:List bQ}{l:List a8}{u:Int}(hs:∀x∈us,x.cands.length<=16)(h:fh us l=true):uv (aQ us l u)/\iF (aQ us l u) (bU us u)=aQ us l u:=by
 rcases n9 us u l 0 with⟨_,_,e⟩|⟨j,h1,_,h3,e,_⟩
 .rw[e];exact⟨n8 hs,zG (n8 hs)⟩
 .have ht:=zc h h1;rw[e];refine⟨zb ht, ?_⟩;simp only[oE,bm,bL]at ht;rw[<-h3];exact ht.1.2
def ra {b:Int}{n:Nat}(hb:b=(n:Int))(hn:n<=39):IntKind.i64.wrap (2*2^(min b.toNat IntKind.i64.bits))=2^(n+1):=by
 subst hb;have h:=pA (k:=n+1) ae;have h2:=fN n;rw[Int.pow_succ]at h;rw[show min (Int.toNat (n:Int)) IntKind.i64.bits=n from Nat.min_eq_left (by simp only[IntKind.bits];omega),Int.pow_succ,Int.mul_comm];exact wrap_i64 ae ae
def jD (l k:Nat)(es:List D)(rs:List av):eD l k es (rs.map av.D)=rs.map av.D:=gw l k es _ (bW (fun r=>by simp only[av.D,D.bc,aV,eZ]) _)
def ez {α:Type} [Inhabited α]{l:List α}{i:Nat}(h:i<l.length):l.take i++[l[i]!]=l.take (i+1):=by
 rw[List.take_succ,show l[i]? =some l[i]! by simp[h]];rfl
def jO:bT:=⟨[⟨[],[],[⟨zV,-1,[[⟨1,wE⟩]],[]⟩]⟩,⟨[97,110,116],[],[]⟩]⟩
def bT.fz (l k:Nat)(es:List Abs.D)(w:bT):er l k es w.D=w.D:=pS l k es _ rfl
def a8.eq (a b:a8):ij (a8.D a).cells (a8.D b).cells=decide (a=b):=by
 cases a;cases b
 grind [a8.D,D.cells,ij,tP]
def Iv {α:Type} [Inhabited α]{a b:List α}(h:a.length=b.length)(hk:∀k,k<a.length->a[k]! =b[k]!):a=b:=by
 apply List.ext_getElem h;intro n h1 h2;have:=hk n h1;simpa[h1,h2]using this
def eO (us:List bQ)(i:Nat):List Int:=(List.range i).map fun u=>bU us ((u:Nat):Int)
def lS (us:List bQ):List Int:=eO us us.length
def kZ (us:List bQ)(i:Nat):(eO us i).length=i:=by simp[eO]
def BU (us:List bQ):(lS us).length=us.length:=kZ _ _
def uL (us:List bQ)(i:Nat):eO us i++[bU us ((i:Nat):Int)]=eO us (i+1):=by
 simp[eO,List.range_succ]
def jg (us:List bQ)(ms:List Int):Nat->List a8
 |0=>[]
 |i+1=>if ms[i]! ≠bU us ((i:Nat):Int)then jg us ms i++[⟨((i:Nat):Int),ms[i]!⟩]else jg us ms i
def r5 (us:List bQ)(ms:List Int):∀i,(jg us ms i).length<=i
 |0=>aE _
 |i+1=>by
  have:=r5 us ms i;rw[jg];split
  .simp only[cK,List.length_singleton];omega
  .omega
def Li {us:List bQ}{ms:List Int}{i:Nat}(h:ms[i]! ≠bU us ((i:Nat):Int)):jg us ms i++[⟨((i:Nat):Int),ms[i]!⟩]=jg us ms (i+1):=by rw[jg,aw h]
def Lh {us:List bQ}{ms:List Int}{i:Nat}(h:¬ms[i]! ≠bU us ((i:Nat):Int)):jg us ms i=jg us ms (i+1):=by rw[jg,ai h]
def iQ (us:List bQ)(ms:List Int):List a8×Bool:=if dj (fun i=>decide (ms[i]! ≠0)) 0 ms.length=true then(jg us ms ms.length,true)else([],false)
def Ge (us:List bQ)(ms:List Int):(iQ us ms).1.length<=ms.length:=by
 unfold iQ;split
 .exact r5 _ _ _
 .exact Nat.zero_le _
def D3 {xs:List Int}{i:Nat}(h:i<xs.length)(v:Int):(xs.map (D.int .i64)).set i (vW ((xs.map (D.int .i64)).getD i .any) 1 1 0 (.int .i64 v))=(xs.set i v).map (D.int .i64):=by
 rw[getD_map h,List.map_set];rfl
def Dc (ms:List Int)(t:a8):List Int:=ms.set t.u.toNat (iF ms[t.u.toNat]! t.m)
def nB (us:List bQ)(l:List a8):Nat->List Int
 |0=>lS us
 |i+1=>Dc (nB us l i) l[i]!
def oq (us:List bQ)(l:List a8):∀i,(nB us l i).length=us.length
 |0=>BU us
 |i+1=>by rw[nB,Dc,List.length_set,oq us l i]
def MJ (us:List bQ)(t:a8):Bool:=decide (0<=t.u)&&decide (t.u<us.length)
def vl (us:List bQ)(l:List a8):List a8×Bool:=if dj (fun i=>MJ us l[i]!) 0 l.length=true then iQ us (nB us l l.length)else([],false)
def tT (us:List bQ)(l:List a8):(vl us l).1.length<=us.length:=by
 unfold vl;split
 .have:=Ge us (nB us l l.length);rw[oq]at this;exact this
 .exact Nat.zero_le _
def kB (us:List bQ)(a b:List a8)(unit:Int)(u:Nat):Int:=if((u:Nat):Int)=unit then te (aQ us a ((u:Nat):Int)) (aQ us b ((u:Nat):Int))else iF (aQ us a ((u:Nat):Int)) (aQ us b ((u:Nat):Int))
def eV (us:List bQ)(a b:List a8)(unit:Int)(i:Nat):List Int:=(List.range us.length).map fun u=>if u<i then kB us a b unit u else bU us ((u:Nat):Int)
def pW (us:List bQ)(a b:List a8)(unit:Int)(i:Nat):(eV us a b unit i).length=us.length:=by simp[eV]
def Iq (us:List bQ)(a b:List a8)(unit:Int):lS us=eV us a b unit 0:=by simp[eV,lS,eO]
def uS {us:List bQ}{a b:List a8}{unit:Int}{i:Nat}{v:Int}(hv:v=kB us a b unit i):(eV us a b unit i).set i v=eV us a b unit (i+1):=by
 apply List.ext_getElem
 .simp[eV]
 .intro n h1 h2;simp only[eV,List.length_set,aK,List.length_range]at h1 h2;simp only[eV,List.getElem_set,List.getElem_map,List.getElem_range];by_cases e:i=n
  .subst e;rw[aw rfl,aw ae,hv]
  .rw[ai e];by_cases l:n<i
   .rw[aw l,aw ae]
   .rw[ai l,ai ae]
def gP (us:List bQ)(a b:List a8)(unit:Int):List a8×Bool:=if unit<0\/(us.length:Int)<=unit then([],false)else iQ us (eV us a b unit us.length)
def nd (us:List bQ)(c:List Int)(u:Int):Int:=
 if u<0\/(us.length:Int)<=u\/(c.length:Int)<=u then 0 else if c[u.toNat]! < -1\/min (us[u.toNat]!.cands.length:Int) 16<=c[u.toNat]! then 0 else 2^(c[u.toNat]! +1).toNat
def rN (us:List bQ)(c:List Int)(t:a8):Bool:=decide (iF (nd us c t.u) t.m≠0)
def MN (f:Nat->Bool):Nat->Bool
 |0=>true
 |k+1=>MN f k&&f k
def DR {f:Nat->Bool}:∀{n:Nat},MN f n=true↔∀i,i<n->f i=true
 |0=>⟨fun _ i h=>ae,fun _=>rfl⟩
 |n+1=>by
  rw[MN,bm,DR];constructor
  .rintro⟨h1,h2⟩ i hi;rcases cQ i n with h|h
   .exact h1 i h
   .obtain rfl:i=n:=ae;exact h2
  .exact fun h=>⟨fun i hi=>h i ae,h n ae⟩
def lQ (l:List a8)(u:Int):List a8:=l.filter fun t=>decide (t.u≠u)
def td (l:List a8)(u:Int)(i:Nat):List a8:=lQ (l.take i) u
def N0 {l:List a8}{u:Int}{i:Nat}(hi:i<l.length)(h:l[i]!.u≠u):td l u i++[l[i]!]=td l u (i+1):=by
 unfold td lQ;rw[<-ez hi,List.filter_append,List.filter_cons_of_pos (by simpa using h)];rfl
def NZ {l:List a8}{u:Int}{i:Nat}(hi:i<l.length)(h:¬l[i]!.u≠u):td l u i=td l u (i+1):=by
 unfold td lQ;rw[<-ez hi,List.filter_append,List.filter_cons_of_neg (by simpa using h)];simp
def HL (l:List a8)(u:Int)(i:Nat):(td l u i).length<=i:=by
 have h1:=List.length_filter_le (fun t:a8=>decide (t.u≠u)) (l.take i);have h2:(l.take i).length<=i:=by rw[fo];omega
 exact eK h1 h2
def HK (l:List a8)(u:Int):(lQ l u).length<=l.length:=List.length_filter_le _ _
def KQ (l:List a8)(u:Nat):List a8:=l.filter fun t=>decide (t.u=((u:Nat):Int))
def jA (l:List a8):Nat->List a8
 |0=>[]
 |u+1=>jA l u++KQ l u
def lz (l:List a8)(u i:Nat):List a8:=jA l u++KQ (l.take i) u
def L9 {l:List a8}{u i:Nat}(hi:i<l.length)(h:l[i]!.u=((u:Nat):Int)):lz l u i++[l[i]!]=lz l u (i+1):=by
 unfold lz KQ;rw[<-ez hi,List.filter_append,List.filter_cons_of_pos (by simpa using h),me];rfl
def L7 {l:List a8}{u i:Nat}(hi:i<l.length)(h:¬l[i]!.u=((u:Nat):Int)):lz l u i=lz l u (i+1):=by
 unfold lz KQ;rw[<-ez hi,List.filter_append,List.filter_cons_of_neg (by simpa using h)];simp
def L6 (l:List a8)(u:Nat):jA l u=lz l u 0:=by simp[lz,KQ]
def L8 (l:List a8)(u:Nat):lz l u l.length=jA l (u+1):=by simp[lz,jA]
def xP (l:List a8):∀u,(jA l u).length<=u*l.length
 |0=>by simp[jA]
 |u+1=>by
  have h1:=xP l u;have h2:(KQ l u).length<=l.length:=List.length_filter_le _ _;rw[jA,cK,Nat.succ_mul];omega
def GS (l:List a8)(u i:Nat):(lz l u i).length<=u*l.length+i:=by
 have h1:=xP l u;have h2:(KQ (l.take i) u).length<=(l.take i).length:=List.length_filter_le _ _;have h3:(l.take i).length<=i:=by rw[fo];omega
 rw[lz,cK];omega
def xQ (l:List a8):List a8:=jA l 48
def oe (x r:av):Bool:=decide (x.kind=r.kind)&&decide (x.unit=r.unit)&&decide (lQ x.terms r.unit=lQ r.terms r.unit)
def I6 (rows:List av)(r:av):Nat:=fw (fun i=>!oe rows[i]! r) rows.length 0
def gB (us:List bQ)(x r:av):av:=⟨x.kind,x.unit,x.a,x.b,xQ (⟨r.unit,te (aQ us x.terms r.unit) (aQ us r.terms r.unit)⟩::lQ x.terms r.unit)⟩
def m9 (us:List bQ)(rows:List av)(r:av):List av:=if I6 rows r<rows.length then rows.set (I6 rows r) (gB us rows[I6 rows r]! r)else rows++[r]
def I7 (us:List bQ)(rows:List av)(r:av):(m9 us rows r).length<=rows.length+1:=by
 unfold m9;split
 .rw[List.length_set];omega
 .simp
def stJ4 {xs:List av}{k:Nat}{l:List a8}(h:k<xs.length):(xs.map av.D).set k (vW ((xs.map av.D).getD k .any) 5 1 4 (.sl 2 (l.map a8.D)))=(xs.set k ⟨xs[k]!.kind,xs[k]!.unit,xs[k]!.a,xs[k]!.b,l⟩).map av.D:=by
 rw[getD_map h,List.map_set];rfl
def av.Pe (l k:Nat)(es:List Abs.D)(r:av):er l k es r.D=r.D:=av.fz l k es r
def fA (us:List bQ)(u k:Nat)(l:List Want)(bar:Bool):List a8:=⟨((u:Nat):Int),iF (bU us ((u:Nat):Int)) (2^(k+1))⟩::l.map fun w=>⟨w.u,if bar=true then eQ us w else bU us w.u-eQ us w⟩
def G8 (us:List bQ)(bar:Bool)(w:Want):Int:=if bar=true then eQ us w else bU us w.u-eQ us w
def sI {us:List bQ}{u k:Nat}{l:List Want}{bar:Bool}{i:Nat}(hi:i<l.length):fA us u k (l.take i) bar++[⟨l[i]!.u,G8 us bar l[i]!⟩]=fA us u k (l.take (i+1)) bar:=by
 unfold fA G8;rw[<-ez hi];simp
def Dy {us:List bQ}{u:Int}(h:∀x∈us,x.cands.length<=16):0<=bU us u/\bU us u<=131071:=by
 unfold bU;split
 .omega
 .have hc:=h _ (aj (show u.toNat<us.length by omega));have h1:=Cu (k:=us[u.toNat]!.cands.length+1) (n:=17) ae;have h2:=fN (us[u.toNat]!.cands.length+1);have h3:(2:Int)^17=131072:=rfl;omega
def Cf {us:List bQ}{w:Want}(h:∀x∈us,x.cands.length<=16):0<=eQ us w/\eQ us w<=131071:=by
 unfold eQ;split
 .omega
 .have hc:=h _ (aj (show w.u.toNat<us.length by omega));have h1:=Cu (k:=us[w.u.toNat]!.cands.length+1) (n:=17) ae;have h2:=vi us[w.u.toNat]!.cands w.s us[w.u.toNat]!.cands.length;have h3:(2:Int)^17=131072:=rfl;omega
def ed (us:List bQ)(u k:Nat)(l:List Want)(bar:Bool):List a8×Bool:=vl us (fA us u k l bar)
def wD (us:List bQ)(rows:List av)(kind u:Int)(c:List a8×Bool):List av:=if c.2=true then m9 us rows ⟨kind,u,0,0,c.1⟩else rows
def zy (us:List bQ)(rows:List av)(kind u:Int)(c:List a8×Bool):(wD us rows kind u c).length<=rows.length+1:=by
 unfold wD;split
 .exact I7 _ _ _
 .omega
def dV (us:List bQ)(u i:Nat)(l:List ko)(rows:List av):Nat->List av
 |0=>rows
 |k+1=>wD us (dV us u i l rows k) 2 ((u:Nat):Int) (ed us u i l[k]! false)
def qb (us:List bQ)(u i:Nat)(l:List ko)(rows:List av):∀k,(dV us u i l rows k).length<=rows.length+k
 |0=>aE _
 |k+1=>by
  have h1:=qb us u i l rows k;have h2:=zy us (dV us u i l rows k) 2 ((u:Nat):Int) (ed us u i l[k]! false);rw[dV];omega
def jx (us:List bQ)(u i:Nat)(l:List Want)(rows:List av):Nat->List av
 |0=>rows
 |k+1=>wD us (jx us u i l rows k) 3 ((u:Nat):Int) (ed us u i [l[k]!] true)
def rA (us:List bQ)(u i:Nat)(l:List Want)(rows:List av):∀k,(jx us u i l rows k).length<=rows.length+k
 |0=>aE _
 |k+1=>by
  have h1:=rA us u i l rows k;have h2:=zy us (jx us u i l rows k) 3 ((u:Nat):Int) (ed us u i [l[k]!] true);rw[jx];omega
def HR (us:List bQ)(u i:Nat)(c:dI)(rows:List av):List av:=jx us u i c.bars (dV us u i c.needs rows c.needs.length) c.bars.length
def dJ (us:List bQ)(u:Nat)(cs:List dI)(rows:List av):Nat->List av
 |0=>rows
 |i+1=>HR us u i cs[i]! (dJ us u cs rows i)
def Mt (us:List bQ):Prop:=∀u∈us,∀c∈u.cands,c.needs.length<=1000/\c.bars.length<=1000/\∀r∈c.needs,r.length<=1000
def FV {us:List bQ}{u i:Nat}{c:dI}{rows:List av}(h:c.needs.length<=1000/\c.bars.length<=1000):(HR us u i c rows).length<=rows.length+2000:=by
 have h1:=qb us u i c.needs rows c.needs.length;have h2:=rA us u i c.bars (dV us u i c.needs rows c.needs.length) c.bars.length;unfold HR;omega
def pK {us:List bQ}{u:Nat}{cs:List dI}{rows:List av}(h:∀c∈cs,c.needs.length<=1000/\c.bars.length<=1000):∀{i},i<=cs.length->(dJ us u cs rows i).length<=rows.length+2000*i
 |0,_=>by simp[dJ]
 |i+1,hi=>by
  have h1:=pK (us:=us) (u:=u) (rows:=rows) h (show i<=cs.length by omega);have h2:=FV (us:=us) (u:=u) (i:=i) (rows:=dJ us u cs rows i) (h _ (aj (show i<cs.length by omega)));have h4:(dJ us u cs rows (i+1)).length<=(dJ us u cs rows i).length+2000:=h2;have q:∀a b c:Nat,a<=c+2000*i->b<=a+2000->b<=c+2000*(i+1):=ae
  exact q _ _ _ h1 h4
def Sf:av:=⟨1,0,0,0,[⟨0,1⟩]⟩
def dn (us:List bQ):Nat->List av
 |0=>[Sf]
 |u+1=>dJ us u us[u]!.cands (dn us u) us[u]!.cands.length
def qo {us:List bQ}(hf:Mt us)(hc:∀u∈us,u.cands.length<=16):∀{i},i<=us.length->(dn us i).length<=1+32000*i
 |0,_=>by simp[dn]
 |i+1,hi=>by
  have h1:=qo hf hc (show i<=us.length by omega);have hm:=aj (show i<us.length by omega);have h2:=pK (us:=us) (u:=i) (rows:=dn us i) (cs:=us[i]!.cands) (fun c hc2=>⟨(hf _ hm c hc2).1,(hf _ hm c hc2).2.1⟩) (aE _);have h3:=hc _ hm;have h4:(dn us (i+1)).length<=(dn us i).length+2000*us[i]!.cands.length:=h2;have q:∀a b c:Nat,a<=1+32000*i->b<=a+2000*c->c<=16->b<=1+32000*(i+1):=ae
  exact q _ _ _ h1 h4 h3
def lR (us:List bQ):List av:=dn us us.length
def uy (us:List bQ)(allow:List Int)(u:Nat):List a8×Bool:=vl us [⟨((u:Nat):Int),bU us ((u:Nat):Int) -iF (bU us ((u:Nat):Int)) allow[u]!⟩]
def nU (us:List bQ)(allow:List Int):Nat->List av
 |0=>lR us
 |u+1=>if(uy us allow u).2=true then nU us allow u++[⟨4,((u:Nat):Int),0,0,(uy us allow u).1⟩]else nU us allow u
def zB (us:List bQ)(allow:List Int):∀u,(nU us allow u).length<=(lR us).length+u
 |0=>aE _
 |u+1=>by
  have:=zB us allow u;rw[nU];split
  .simp only[cK,List.length_singleton];omega
  .omega
def kq (us:List bQ)(allow:List Int):List av:=nU us allow (min allow.length us.length)
structure kj where
 w:bT
 facts:List av
 x:D
def kj.D (p:kj):Abs.D:=.agg [.sl 3 (p.w.us.map bQ.D),.sl 5 (p.facts.map av.D),p.x]
def sW (us:List bQ)(c:List Int)(t:a8):Bool:=decide (t.u<c.length)&&rN us c t
def mU (us:List bQ)(c:List Int)(row:av):Bool:=MN (fun k=>sW us c row.terms[k]!) row.terms.length
def eH (us:List bQ)(facts:List av)(c:List Int):Nat:=fw (fun i=>!mU us c facts[i]!) facts.length 0
def kH (us:List bQ)(facts:List av)(c:List Int):Int:=if eH us facts c<facts.length then((eH us facts c:Nat):Int)else-1
def iv (us:List bQ)(u:Nat)(now x:Int)(rows:List av):av:=⟨5,((u:Nat):Int),now,x,(gP us rows[now.toNat]!.terms rows[x.toNat]!.terms ((u:Nat):Int)).1⟩
def nu (us:List bQ)(u:Nat)(rc:List Int->List av->Int×List av)(c:List Int):Nat->Int->Int->List av->Int×List av
 |0,_,now,rows=>(now,rows)
 |n+1,i,now,rows=>
  if(rc (c++[i]) rows).1<0 then(-1,(rc (c++[i]) rows).2)
  else if aQ us (rc (c++[i]) rows).2[(rc (c++[i]) rows).1.toNat]!.terms ((u:Nat):Int)=bU us ((u:Nat):Int)then rc (c++[i]) rows
  else if now<0 then nu us u rc c n (i+1) (rc (c++[i]) rows).1 (rc (c++[i]) rows).2
  else if aQ us (iv us u now (rc (c++[i]) rows).1 (rc (c++[i]) rows).2).terms ((u:Nat):Int)=bU us ((u:Nat):Int)then
   ((((rc (c++[i]) rows).2.length:Nat):Int),(rc (c++[i]) rows).2++[iv us u now (rc (c++[i]) rows).1 (rc (c++[i]) rows).2])
  else nu us u rc c n (i+1) (((rc (c++[i]) rows).2.length:Nat):Int) ((rc (c++[i]) rows).2++[iv us u now (rc (c++[i]) rows).1 (rc (c++[i]) rows).2])
def kC (us:List bQ)(facts:List av):Nat->List Int->List av->Int×List av
 |0,c,rows=>if eH us facts c<facts.length then(((rows.length:Nat):Int),rows++[facts[eH us facts c]!])else(-1,rows)
 |f+1,c,rows=>if eH us facts c<facts.length then(((rows.length:Nat):Int),rows++[facts[eH us facts c]!])
  else if 3000<rows.length then(-1,rows)
  else nu us c.length (kC us facts f) c (us[c.length]!.cands.length+1) (-1) (-1) rows
def eL (us:List bQ)(facts:List av)(c:List Int)(rows:List av):Int×List av:=kC us facts (us.length-c.length) c rows
def lW (us:List bQ)(allow:List Int):Int×List av:=eL us (kq us allow) [] []
def m8 (us:List bQ)(allow:List Int):Option (List av):=
 if(lW us allow).1<0\/0<(lW us allow).2[(lW us allow).1.toNat]!.terms.length then none else some ((lW us allow).2.take ((lW us allow).1.toNat+1))
def IL:Option (List av)->D
 |none=>.aB
 |some l=>.sl 5 (l.map av.D)
def bt (m:Int)(i:Nat):Bool:=(BitVec.ofInt 64 m).getLsbD i
def ofInt_toInt (x:BitVec 64):BitVec.ofInt 64 x.toInt=x:=BitVec.ofInt_toInt
def kX (a b:Int)(i:Nat):bt (iF a b) i=(bt a i&&bt b i):=by
 unfold bt;rw[nX,ofInt_toInt,BitVec.getLsbD_and]
def sG (a b:Int)(i:Nat):bt (te a b) i=(bt a i ||bt b i):=by
 unfold bt;rw[HQ,ofInt_toInt,BitVec.getLsbD_or]
def RG {m:Int}{i:Nat}(h:64<=i):bt m i=false:=BitVec.getLsbD_of_ge _ _ h
def yl {a b:Int}(ha:uv a)(hb:uv b)(h:∀i,bt a i=bt b i):a=b:=by
 have e:BitVec.ofInt 64 a=BitVec.ofInt 64 b:=by
  ext i hi
  have:=h i;unfold bt at this
  rwa [BitVec.getLsbD_eq_getElem hi,BitVec.getLsbD_eq_getElem hi]at this
 rw[<-mA ha,<-mA hb,e]
def ym (a b:Int):uv (te a b):=by
 rw[HQ];have h1:=BitVec.le_toInt (BitVec.ofInt 64 a |||BitVec.ofInt 64 b);have h2:=BitVec.toInt_lt (x:=BitVec.ofInt 64 a |||BitVec.ofInt 64 b);exact⟨by simpa using h1,by have:=h2;simp at this;omega⟩
def Ry:uv 0:=⟨b7,b7⟩
def lJ (i:Nat):bt 0 i=false:=by unfold bt;simp
def jc {a b:Int}:iF a b=0↔∀i,¬(bt a i=true/\bt b i=true):=by
 constructor
 .intro h i hi;have:=kX a b i;rw[h,lJ,hi.1,hi.2]at this;exact absurd this b7
 .intro h;refine yl (mS _ _) Ry fun i=>?_
  rw[kX,lJ];have:=h i;revert this;cases bt a i<;>cases bt b i<;>simp
def HN {a b:Int}:iF a b≠0↔∃i,bt a i=true/\bt b i=true:=by
 rw[Ne,jc];constructor
 .intro h;exact Classical.byContradiction fun g=>h fun i hi=>g ⟨i,hi⟩
 .rintro⟨i,hi⟩ h;exact h i hi
def IK {a:Int}(ha:uv a):a≠0↔∃i,bt a i=true:=by
 constructor
 .intro h;refine Classical.byContradiction fun g=>h (yl ha Ry fun i=>?_)
  rw[lJ];cases e:bt a i with
  |false=>rfl
  |true=>exact absurd ⟨i,e⟩ g
 .rintro⟨i,hi⟩ rfl;rw[lJ]at hi;cases hi
def jn {a b:Int}(ha:uv a):iF a b=a↔∀i,bt a i=true->bt b i=true:=by
 constructor
 .intro h i hi;have:=kX a b i;rw[h,hi]at this;simpa using this.symm
 .intro h;refine yl (mS _ _) ha fun i=>?_
  rw[kX];have:=h i;revert this;cases bt a i<;>simp
def Hu {a:Int}(h0:0<=a)(h1:a<=1099511627776):uv a:=⟨ae,ae⟩
def mR {k:Nat}(hk:k<=40)(i:Nat):bt (2^k) i=decide (i=k):=by
 unfold bt;rw[Gw];have hl:(2:Nat)^k<=1099511627776:=by
  have:=pA hk;rw[Gw]at this;omega
 rw[show BitVec.ofInt 64 ((2^k:Nat):Int)=BitVec.ofNat 64 (2^k)from BitVec.ofInt_natCast ..];rw[BitVec.getLsbD_ofNat,Nat.testBit_two_pow];by_cases e:k=i
 .subst e;simp;omega
 .rw[cE e,Bool.and_false,cE (fun h=>e h.symm)]
def HG:∀n,n<17->∀i,i<64->bt ((2:Int)^(n+1) -1) i=decide (i<=n):=by decide+kernel
def kG {us:List bQ}{u:Nat}(hu:u<us.length)(hs:∀x∈us,x.cands.length<=16)(i:Nat):bt (bU us ((u:Nat):Int)) i=decide (i<=us[u]!.cands.length):=by
 have hc:=hs _ (aj hu);rw[show bU us ((u:Nat):Int)=2^(us[u]!.cands.length+1) -1 from ai ae];rcases cQ i 64 with h|h
 .exact HG _ ae i h
 .rw[RG h,cE ae]
def Di (cs:List dI)(s:bG)(i:Nat):∀k,k<=16->bt (jF cs s k) i=(decide (1<=i)&&decide (i<=k)&&ny s cs[i-1]!.v)
 |0,_=>by
  rw[jF,lJ];by_cases h:1<=i
  .rw[cE (show ¬i<=0 by omega)];simp
  .rw[cE h];rfl
 |k+1,hk=>by
  have ih:=Di cs s i k ae;have hr:=vi cs s k;rw[jF];split
  .rename_i h;rw[<-Dl hr.1 (by have:=fN (k+1);omega) ae,sG,ih,mR ae];by_cases e:i=k+1
   .subst e;rw[show k+1-1=k from rfl,h];simp
   .rw[cE e,Bool.or_false];congr 2;rw[wz];omega
  .rename_i h;rw[ih];by_cases e:i=k+1
   .subst e;simp only[Bool.not_eq_true]at h;rw[show k+1-1=k from rfl,h];simp
   .congr 2;rw[wz];omega
def HH {us:List bQ}{w:Want}{u:Nat}(hw:w.u=((u:Nat):Int))(hu:u<us.length)(hs:∀x∈us,x.cands.length<=16)(i:Nat):bt (eQ us w) i=(decide (1<=i)&&decide (i<=us[u]!.cands.length)&&ny w.s us[u]!.cands[i-1]!.v):=by
 have hc:=hs _ (aj hu);unfold eQ;rw[ai ae,hw];exact Di _ _ _ _ hc
def Lk {us:List bQ}{w:Want}(h:w.u<0\/(us.length:Int)<=w.u):eQ us w=0:=aw h
def Ig {us:List bQ}{u:Int}(h:u<0\/(us.length:Int)<=u):bU us u=0:=aw h
def HI {a b:Int}(ha:uv a)(h:iF a b=a)(i:Nat):bt (b-a) i=(bt b i&& !bt a i):=by
 unfold bt;have e:BitVec.ofInt 64 a&&&BitVec.ofInt 64 b=BitVec.ofInt 64 a:=by
  rw[nX]at h;exact BitVec.eq_of_toInt_eq (by rw[h,mA ha])
 have e2:BitVec.ofInt 64 (b-a)=BitVec.ofInt 64 b-BitVec.ofInt 64 a:=by
  rw[Int.sub_eq_add_neg,BitVec.ofInt_add,BitVec.ofInt_neg,BitVec.sub_eq_add_neg]
 rw[e2];generalize BitVec.ofInt 64 a=x at e;generalize BitVec.ofInt 64 b=y at e;have hz:(y&&& ~~~x)&&&x=0#64:=by
  ext j hj;simp
 have hs:(y&&& ~~~x)+x=y:=by
  rw[BitVec.add_eq_or_of_and_eq_zero _ _ hz]
  ext j hj
  have:=bS (fun z=>z.getLsbD j) e;simp[hj]at this;simp;cases hx:x[j]<;>cases hy:y[j]<;>simp_all
 have:y-x=y&&& ~~~x:=by
  have h2:(y&&& ~~~x)+x-x=y&&& ~~~x:=BitVec.add_sub_cancel _ _
  rwa [hs]at h2
 rw[this,BitVec.getLsbD_and];rcases cQ i 64 with h|h
 .rw[BitVec.getLsbD_not];simp[h]
 .simp[h]
def Iz {us:List bQ}{w:Want}(hs:∀x∈us,x.cands.length<=16):iF (eQ us w) (bU us w.u)=eQ us w:=by
 by_cases q:w.u<0\/(us.length:Int)<=w.u
 .rw[Lk q,Ig q];rfl
 .obtain⟨u,hu⟩:∃u:Nat,w.u=(u:Int):=⟨w.u.toNat,ae⟩
  have hl:u<us.length:=ae;have hb:=Cf (w:=w) hs;rw[jn (Hu hb.1 ae)];intro i hi;rw[HH hu hl hs]at hi;rw[hu,kG hl hs];simp only[bm,bL]at hi⊢;exact hi.1.2
def Dj {us:List bQ}{w:Want}(hs:∀x∈us,x.cands.length<=16)(i:Nat):bt (bU us w.u-eQ us w) i=(bt (bU us w.u) i&& !bt (eQ us w) i):=by
 have hb:=Cf (w:=w) hs;exact HI (Hu hb.1 ae) (Iz hs) i
def Dz {us:List bQ}{u:Int}:decide (bU us u≠0)=(decide (0<=u)&&decide (u<us.length)):=by
 unfold bU;by_cases q:u<0\/(us.length:Int)<=u
 .rw[aw q];rcases q with q|q
  .rw[cE bh,cE ae];rfl
  .rw[cE bh,show decide (u<us.length)=false from cE ae,Bool.and_false]
 .rw[ai q];have:=fN (us[u.toNat]!.cands.length);rw[Int.pow_succ,cv ae,cv ae,cv ae];rfl
abbrev ry (us:List bQ):Prop:=∀x∈us,x.cands.length<=16
abbrev Lt (l:List a8):Prop:=l.Pairwise fun a b=>a.u<b.u
def e9 {us:List bQ}{l:List a8}:fh us l=true↔(∀t∈l,oE us t=true)/\Lt l:=by
 unfold fh;rw[cA];constructor
 .intro h;have h1:∀j,j<l.length->oE us l[j]! =true/\(0<j->l[j-1]!.u<l[j]!.u):=by
   intro j hj;have:=h j ae hj;simp only[bm,eB,gU,dA]at this;exact⟨this.1,fun h0=>ae⟩
  refine⟨fun t ht=>?_, ?_⟩
  .obtain⟨i,hi,rfl⟩:=List.mem_iff_getElem.1 ht;have:=(h1 i hi).1;simpa[hi]using this
  .rw[Lt,List.pairwise_iff_getElem];have key:∀d i,i+d+1<l.length->l[i]!.u<l[i+d+1]!.u:=by
    intro d;induction d with
    |zero=>intro i hi;exact(h1 (i+1) hi).2 ae
    |succ d ih=>
     intro i hi;have a1:=ih i ae;have a2:=(h1 (i+d+1+1) hi).2 ae;rw[show i+d+1+1-1=i+d+1 by omega]at a2;exact Int.lt_trans a1 a2
   intro i j hi hj hij;have:=key (j-i-1) i ae;rw[show i+(j-i-1)+1=j by omega]at this;simpa[hi,hj]using this
 .rintro⟨h1,h2⟩ j _ hj;rw[Lt,List.pairwise_iff_getElem]at h2;simp only[bm,eB,gU,dA];refine⟨h1 _ (aj hj), ?_⟩;by_cases h0:0<j
  .right;have:=h2 (j-1) j ae hj ae;simp only[hj,getElem!_pos,show j-1<l.length by omega];omega
  .left;exact h0
def my {us:List bQ}:∀{l:List a8},Lt l->∀t∈l,aQ us l t.u=t.m
 |a::r,h,t,ht=>by
  rw[Lt,List.pairwise_cons]at h;rw[aQ];rcases dx.1 ht with rfl|ht
  .rw[aw rfl]
  .have:=h.1 t ht;rw[ai ae,my h.2 t ht]
def oU {us:List bQ}{v:Int}:∀{l:List a8},(∀t∈l,t.u≠v)->aQ us l v=bU us v
 |[],_=>rfl
 |a::r,h=>by rw[aQ,ai (h a (.head _)),oU fun t ht=>h t (.tail _ ht)]
def yz {us:List bQ}{v:Int}{l:List a8}(h:Lt l):(∃t∈l,t.u=v/\aQ us l v=t.m)\/((∀t∈l,t.u≠v)/\aQ us l v=bU us v):=by
 by_cases g:∃t∈l,t.u=v
 .obtain⟨t,ht,rfl⟩:=g;exact .inl ⟨t,ht,rfl,my h t ht⟩
 .have g':∀t∈l,t.u≠v:=fun t ht e=>g ⟨t,ht,e⟩
  exact .inr ⟨g',oU g'⟩
def A4 {us:List bQ}{l:List a8}{u:Int}(h:fh us l=true)(hm:aQ us l u=bU us u):∀t∈l,t.u≠u:=by
 obtain⟨h1,h2⟩:=e9.1 h;rintro t ht rfl;rw[my h2 t ht]at hm;have:=h1 t ht;simp only[oE,bm,bL]at this;exact this.2 hm
def kS {us:List bQ}{ms:List Int}{t:a8}:∀{i},t∈jg us ms i↔∃u,u<i/\ms[u]! ≠bU us ((u:Nat):Int)/\t=⟨((u:Nat):Int),ms[u]!⟩
 |0=>⟨fun h=>(by cases h),fun⟨u,h,_⟩=>ae⟩
 |i+1=>by
  rw[jg];split
  .rename_i h;rw[List.mem_append,kS,bo];constructor
   .rintro(⟨u,h1,h2⟩|rfl)
    .exact⟨u,ae,h2⟩
    .exact⟨i,ae,h,rfl⟩
   .rintro⟨u,h1,h2,h3⟩;rcases cQ u i with h4|h4
    .exact .inl ⟨u,h4,h2,h3⟩
    .obtain rfl:u=i:=ae;exact .inr h3
  .rename_i h;rw[kS];constructor
   .rintro⟨u,h1,h2⟩;exact⟨u,ae,h2⟩
   .rintro⟨u,h1,h2,h3⟩;rcases cQ u i with h4|h4
    .exact⟨u,h4,h2,h3⟩
    .obtain rfl:u=i:=ae;exact absurd h2 h
def qW {us:List bQ}{ms:List Int}:∀i,Lt (jg us ms i)
 |0=>List.Pairwise.nil
 |i+1=>by
  rw[jg];split
  .refine List.pairwise_append.2 ⟨qW i,List.pairwise_singleton _ _,fun a ha b hb=>?_⟩;obtain rfl:=bo.1 hb;obtain⟨u,hu,_,rfl⟩:=kS.1 ha;dsimp only;omega
  .exact qW i
def NN (us:List bQ)(ms:List Int):Prop:=∀u,u<us.length->iF ms[u]! (bU us ((u:Nat):Int))=ms[u]!
def DI {us:List bQ}{ms:List Int}(hl:ms.length=us.length)(hs:NN us ms)(h:(iQ us ms).2=true):fh us (iQ us ms).1=true/\(∀u,u<us.length->aQ us (iQ us ms).1 ((u:Nat):Int)=ms[u]!)/\∀u,u<us.length->ms[u]! ≠0:=by
 unfold iQ at h⊢;split at h
 .rename_i ha;rw[aw ha];rw[cA]at ha;have hnz:∀u,u<us.length->ms[u]! ≠0:=fun u hu=>by simpa using ha u ae ae
  refine⟨e9.2 ⟨fun t ht=>?_,qW _⟩,fun u hu=>?_,hnz⟩
  .obtain⟨u,hu,h2,rfl⟩:=kS.1 ht;simp only[oE,bm,bL];exact⟨⟨hnz u ae,hs u ae⟩,h2⟩
  .dsimp only;by_cases e:ms[u]! =bU us ((u:Nat):Int)
   .rw[oU,e];intro t ht;obtain⟨v,hv,h2,rfl⟩:=kS.1 ht;intro e2;obtain rfl:v=u:=by dsimp only at e2;omega
    exact h2 e
   .exact my (qW _) ⟨((u:Nat):Int),ms[u]!⟩ (kS.2 ⟨u,ae,e,rfl⟩)
 .cases h
def Gf {us:List bQ}{ms:List Int}(h:∀u,u<ms.length->ms[u]! ≠0):(iQ us ms).2=true:=by
 unfold iQ;rw[aw (by rw[cA];intro u _ hu;simpa using h u hu)]
def JW {us:List bQ}{l:List a8}(h:fh us l=true):l.length<=us.length:=by
 obtain⟨h1,h2⟩:=e9.1 h;have h3:∀t∈l,0<=t.u/\t.u<us.length:=fun t ht=>sB (h1 t ht)
 rw[Lt,List.pairwise_iff_getElem]at h2;have key:∀i (hi:i<l.length),(i:Int)<=l[i].u:=by
  intro i;induction i with
  |zero=>intro hi;exact(h3 _ (List.getElem_mem hi)).1
  |succ i ih=>
   intro hi;have:=ih ae;have:=h2 i (i+1) ae hi ae;omega
 rcases Nat.eq_zero_or_pos l.length with h0|h0
 .omega
 .have:=key (l.length-1) ae;have:=(h3 _ (List.getElem_mem (show l.length-1<l.length by omega))).2;omega
def F6 {us:List bQ}{u:Nat}(hu:u<us.length):(lS us)[u]! =bU us ((u:Nat):Int):=by
 simp[lS,eO,hu]
def L2 {ms:List Int}{i u:Nat}{v:Int}(hu:u<ms.length):(ms.set i v)[u]! =if i=u then v else ms[u]! :=by
 simp only[List.getElem!_eq_getElem?_getD,List.getElem?_set];split
 .rename_i h;subst h;rw[aw hu];rfl
 .rfl
def IA {us:List bQ}{l:List a8}(hs:ry us)(hin:∀t∈l,0<=t.u/\t.u<us.length):∀{n},n<=l.length->∀u,u<us.length->uv (nB us l n)[u]! /\∀i,bt (nB us l n)[u]! i=(bt (bU us ((u:Nat):Int)) i&&(l.take n).all fun t=>decide (t.u≠((u:Nat):Int)) ||bt t.m i)
 |0,_,u,hu=>by
  rw[nB,F6 hu];exact⟨n8 hs,fun i=>bh⟩
 |n+1,hn,u,hu=>by
  have ih:=IA hs hin (show n<=l.length by omega) u hu;have ht:=hin _ (aj (show n<l.length by omega));rw[nB,Dc,L2 (by rw[oq];exact hu)];rw[<-ez (show n<l.length by omega)];simp only[List.all_append,List.all_cons,List.all_nil,eZ];by_cases e:l[n]!.u.toNat=u
  .rw[aw e,e];refine⟨mS _ _,fun i=>?_⟩;rw[kX,ih.2,cE (show ¬l[n]!.u≠((u:Nat):Int)by omega),Bool.false_or,Bool.and_assoc]
  .rw[ai e,cv (show l[n]!.u≠((u:Nat):Int)by omega)];simpa using ih
def ML {us:List bQ}{l:List a8}(hs:ry us)(h:(vl us l).2=true):fh us (vl us l).1=true/\(∀t∈l,0<=t.u/\t.u<us.length)/\∀u,u<us.length->uv (aQ us (vl us l).1 ((u:Nat):Int))/\aQ us (vl us l).1 ((u:Nat):Int)≠0/\
  ∀i,bt (aQ us (vl us l).1 ((u:Nat):Int)) i=(bt (bU us ((u:Nat):Int)) i&&l.all fun t=>decide (t.u≠((u:Nat):Int)) ||bt t.m i):=by
 unfold vl at h⊢;split at h
 .rename_i ha;rw[aw ha];rw[cA]at ha;have hin:∀t∈l,0<=t.u/\t.u<us.length:=fun t ht=>by
   obtain⟨i,hi,rfl⟩:=List.mem_iff_getElem.1 ht;have:=ha i ae hi;simpa[MJ,hi]using this
  have hg:=IA hs hin (aE l.length);rw[List.take_length]at hg;have hsub:NN us (nB us l l.length):=fun u hu=>by
   rw[jn (hg u hu).1];intro i hi;rw[(hg u hu).2]at hi;simp only[bm]at hi;exact hi.1
  obtain⟨h1,h2,h3⟩:=DI (oq us l _) hsub h;refine⟨h1,hin,fun u hu=>?_⟩;rw[h2 u hu];exact⟨(hg u hu).1,h3 u hu,(hg u hu).2⟩
 .cases h
def tK {l:List a8}{u:Nat}{t:a8}:t∈KQ l u↔t∈l/\t.u=((u:Nat):Int):=by simp[KQ]
def sz {l:List a8}{t:a8}:∀{n},t∈jA l n↔t∈l/\0<=t.u/\t.u<((n:Nat):Int)
 |0=>⟨fun h=>(by cases h),fun⟨_,h1,h2⟩=>ae⟩
 |n+1=>by
  rw[jA,List.mem_append,sz,tK];constructor
  .rintro(⟨h,h1,h2⟩|⟨h,h1⟩)
   .exact⟨h,h1,ae⟩
   .exact⟨h,ae,ae⟩
  .rintro⟨h,h1,h2⟩;by_cases e:t.u=((n:Nat):Int)
   .exact .inr ⟨h,e⟩
   .exact .inl ⟨h,h1,ae⟩
def AZ {l:List a8}(h:l.Pairwise fun a b=>a.u≠b.u):∀n,Lt (jA l n)
 |0=>List.Pairwise.nil
 |n+1=>by
  rw[jA];refine List.pairwise_append.2 ⟨AZ h n, ?_,fun a ha b hb=>?_⟩
  .refine List.Pairwise.imp_of_mem ?_ (h.filter fun t=>decide (t.u=((n:Nat):Int)));intro a b ha hb hab;exact absurd ((tK.1 ha).2.trans (tK.1 hb).2.symm) hab
  .have:=(sz.1 ha).2.2;have:=(tK.1 hb).2;omega
def Dk {l:List a8}{u:Int}{t:a8}:t∈lQ l u↔t∈l/\t.u≠u:=by simp[lQ]
def vg {us:List bQ}{u v:Int}(hv:v≠u):∀l:List a8,aQ us (lQ l u) v=aQ us l v
 |[]=>rfl
 |t::r=>by
  have ih:=vg (us:=us) hv r;unfold lQ at ih⊢;by_cases e:t.u=u
  .rw[List.filter_cons_of_neg (by simpa using e),ih,aQ,ai ae]
  .rw[List.filter_cons_of_pos (by simpa using e),aQ,aQ,ih]
def vT {us:List bQ}{x y:av}(hu:x.unit=y.unit)(h:∀v,v≠x.unit->aQ us x.terms v=aQ us y.terms v)(k:Nat)(mild:Bool):lq us x k mild=lq us y k mild:=by
 have h1:∀b,fB b us x (k:Int)=fB b us y (k:Int):=by
  intro b;funext w;unfold fB sX sQ;rw[<-hu];by_cases e:w.u=x.unit
  .simp only[aw e]
  .simp only[ai e,h _ e]
 have h2:gF us x (k:Int)=gF us y (k:Int):=by
  funext l;unfold gF;rw[h1]
 unfold lq;rw[<-hu,h1,h2]
def one_pow:(1:Int)=2^0:=rfl
def oJ {m:Int}{k:Nat}(hk:k<=40):iF m (2^k)=0↔bt m k=false:=by
 rw[jc];constructor
 .intro h;cases e:bt m k with
  |false=>rfl
  |true=>exact absurd ⟨e,by rw[mR hk];simp⟩ (h k)
 .rintro h i ⟨h1,h2⟩;rw[mR hk,bL]at h2;subst h2;rw[h]at h1;cases h1
def mT {us:List bQ}{r:av}{mild:Bool}(hs:ry us)(hu:0<=r.unit/\r.unit<us.length):iD us r mild=true↔uM r.terms r.unit=true/\bt (aQ us r.terms r.unit) 0=false/\∀k,k<us[r.unit.toNat]!.cands.length->bt (aQ us r.terms r.unit) (k+1)=true->lq us r k mild=true:=by
 have hc:=hs _ (aj (show r.unit.toNat<us.length by omega));unfold iD;rw[bm,bm,bL,one_pow,oJ ae,cA,and_assoc];refine and_congr Iff.rfl (and_congr Iff.rfl ⟨fun h k hk hb=>?_,fun h k _ hk=>?_⟩)
 .have:=h k ae hk;rw[en,bL,oJ ae]at this;rcases this with h1|h1
  .rw[hb]at h1;cases h1
  .exact h1
 .rw[en,bL,oJ ae];cases e:bt (aQ us r.terms r.unit) (k+1)with
  |false=>exact .inl rfl
  |true=>exact .inr (h k hk e)
def kn (us:List bQ)(allow:List Int)(r:av):Prop:=fh us r.terms=true/\(r.a=0/\r.b=0)/\(0<=r.unit/\r.unit<us.length)/\
 (r.kind=1/\r.unit=0/\aQ us r.terms 0=1\/(r.kind=2\/r.kind=3)/\iD us r (decide (r.kind=3))=true\/r.kind=4/\r.unit<allow.length/\iF (aQ us r.terms r.unit) allow[r.unit.toNat]! =0)
def Ik {us:List bQ}{l:List a8}{u:Int}(h:aQ us l u≠bU us u):uM l u=true:=by
 rcases n9 us u l 0 with⟨_,_,e⟩|⟨_,_,_,_,_,e⟩
 .exact absurd e h
 .exact e
def Ag (us:List bQ)(x r:av):∃n,n=48/\(gB us x r).terms=jA (⟨r.unit,te (aQ us x.terms r.unit) (aQ us r.terms r.unit)⟩::lQ x.terms r.unit) n:=⟨48,rfl,by unfold gB xQ;rfl⟩
def Ce (us:List bQ)(x r:av):(gB us x r).kind=x.kind/\(gB us x r).unit=x.unit/\(gB us x r).a=x.a/\(gB us x r).b=x.b:=by
 unfold gB;exact⟨by dsimp only,by dsimp only,by dsimp only,by dsimp only⟩
def Iy {us:List bQ}{allow:List Int}{x r:av}(hs:ry us)(h48:us.length<=48)(hx:kn us allow x)(hr:kn us allow r)(hk:r.kind=2\/r.kind=3)(hl:oe x r=true):kn us allow (gB us x r):=by
 simp only[oe,bm,bL]at hl;obtain⟨⟨e1,e2⟩,e3⟩:=hl;obtain⟨x1,x2,x3,x4⟩:=hx;obtain⟨r1,r2,r3,r4⟩:=hr;have xc:iD us x (decide (r.kind=3))=true:=by
  rw[<-e1];rcases x4 with h|h|h
  .omega
  .exact h.2
  .omega
 have rc:iD us r (decide (r.kind=3))=true:=by
  rcases r4 with h|h|h
  .omega
  .exact h.2
  .omega
 rw[mT hs x3]at xc;rw[mT hs r3]at rc;obtain⟨x5,x6⟩:=e9.1 x1;have hxin:∀t∈x.terms,0<=t.u/\t.u<us.length:=fun t ht=>sB (x5 t ht)
 have hM:(⟨r.unit,te (aQ us x.terms r.unit) (aQ us r.terms r.unit)⟩::lQ x.terms r.unit:List a8).Pairwise fun a b=>a.u≠b.u:=by
  refine List.pairwise_cons.2 ⟨fun t ht=>?_, ?_⟩
  .exact fun e=>(Dk.1 ht).2 e.symm
  .exact(List.Pairwise.filter _ x6).imp fun h=>ae
 obtain⟨k1,k2,k3,k4⟩:=Ce us x r;obtain⟨n48,hn48,hT⟩:∃n,n=48/\(gB us x r).terms=jA (⟨r.unit,te (aQ us x.terms r.unit) (aQ us r.terms r.unit)⟩::lQ x.terms r.unit) n:=Ag us x r
 have hlt:Lt (gB us x r).terms:=by rw[hT];exact AZ hM n48
 have hmem:∀t,t∈(gB us x r).terms↔t=⟨r.unit,te (aQ us x.terms r.unit) (aQ us r.terms r.unit)⟩\/t∈x.terms/\t.u≠r.unit:=by
  intro t;rw[hT,sz,dx,Dk];constructor
  .exact fun h=>h.1
  .intro h;refine⟨h, ?_⟩;rcases h with rfl|h
   .dsimp only;omega
   .have:=hxin t h.1;omega
 have hmu:aQ us (gB us x r).terms r.unit=te (aQ us x.terms r.unit) (aQ us r.terms r.unit):=my hlt ⟨r.unit,_⟩ ((hmem _).2 (.inl rfl));have hmv:∀v,v≠r.unit->aQ us (gB us x r).terms v=aQ us x.terms v:=by
  intro v hv;rcases yz (us:=us) (v:=v) x6 with⟨t,ht,rfl,e⟩|⟨hn,e⟩
  .rw[e];exact my hlt t ((hmem t).2 (.inr ⟨ht,hv⟩))
  .rw[e];refine oU fun t ht=>?_
   rcases(hmem t).1 ht with rfl|h
   .exact fun e=>hv e.symm
   .exact hn t h.1
 have hmr:∀v,v≠r.unit->aQ us (gB us x r).terms v=aQ us r.terms v:=fun v hv=>by
  rw[hmv v hv,<-vg hv x.terms,e3,vg hv]
 have sx:=mz (u:=r.unit) hs x1;have sr:=mz (u:=r.unit) hs r1;have hb0:bt (te (aQ us x.terms r.unit) (aQ us r.terms r.unit)) 0=false:=by
  rw[sG,rc.2.1,<-e2,xc.2.1];rfl
 obtain⟨n,hn⟩:∃n:Nat,r.unit=(n:Int):=⟨r.unit.toNat,ae⟩
 have hnl:n<us.length:=ae;have hfull:bt (bU us r.unit) 0=true:=by rw[hn,kG hnl hs];simp
 have hne:te (aQ us x.terms r.unit) (aQ us r.terms r.unit)≠bU us r.unit:=fun e=>by rw[e,hfull]at hb0;cases hb0
 generalize gB us x r=y at*
 refine⟨e9.2 ⟨fun t ht=>?_,hlt⟩,by rw[k3,k4];exact x2,by rw[k2];exact x3,.inr (.inl ⟨ae, ?_⟩)⟩
 .rcases(hmem t).1 ht with rfl|h
  .simp only[oE,bm,bL];refine⟨⟨?_, ?_⟩,hne⟩
   .rw[IK (ym _ _)];obtain⟨t,ht,e,e5⟩:∃t∈r.terms,t.u=r.unit/\aQ us r.terms r.unit=t.m:=by
     rcases yz (us:=us) (v:=r.unit) (e9.1 r1).2 with h|⟨_,h⟩
     .exact h
     .have:=rc.2.1;rw[h,hfull]at this;cases this
    have h1:=(e9.1 r1).1 t ht;have h2:=zb h1;simp only[oE,bm,bL]at h1;obtain⟨i,hi⟩:=(IK h2).1 h1.1.1;exact⟨i,by rw[sG,e5,hi,Bool.or_true]⟩
   .rw[jn (ym _ _)];intro i hi;rw[sG,en]at hi;rcases hi with hi|hi
    .exact(jn sx.1).1 sx.2 i hi
    .exact(jn sr.1).1 sr.2 i hi
  .exact x5 t h.1
 .rw[k1,e1,mT hs (by rw[k2];exact x3),k2,e2,hmu];refine⟨Ik (by rw[hmu];exact hne),hb0,fun k hk2 hb=>?_⟩;rw[sG,en]at hb;rcases hb with hb|hb
  .rw[<-vT (x:=x) (y:=y) k2.symm (fun v hv=>(hmv v (by rw[<-e2];exact hv)).symm)];exact xc.2.2 k (by rw[e2];exact hk2) (by rw[e2];exact hb)
  .rw[<-vT (x:=r) (y:=y) (by rw[k2,e2]) (fun v hv=>(hmr v hv).symm)];exact rc.2.2 k hk2 hb
def OA {us:List bQ}{allow:List Int}{rows:List av}{r:av}(hs:ry us)(h48:us.length<=48)(hx:∀x∈rows,kn us allow x)(hr:kn us allow r)(hk:r.kind=2\/r.kind=3):∀x∈m9 us rows r,kn us allow x:=by
 unfold m9;split
 .rename_i hi;intro x h;rcases List.mem_or_eq_of_mem_set h with h|rfl
  .exact hx x h
  .refine Iy hs h48 (hx _ (aj hi)) hr hk ?_;have key:∀k i,fw (fun i=>!oe rows[i]! r) k i<i+k->oe rows[fw (fun i=>!oe rows[i]! r) k i]! r=true:=by
    intro k;induction k with
    |zero=>intro i h;rw[fw]at h;omega
    |succ k ih=>
     intro i h;rw[fw]at h⊢;split at h
     .rename_i h2;rw[aw h2];exact ih _ ae
     .rename_i h2;rw[ai h2];simpa using h2
   exact key _ _ (by rw[aO];exact hi)
 .intro x h;rcases List.mem_append.1 h with h|h
  .exact hx x h
  .obtain rfl:=bo.1 h;exact hr
section
def xa {us:List bQ}{allow:List Int}{u k:Nat}{l:List Want}{bar:Bool}(hs:ry us)(hu:u<us.length)(hk:k<us[u]!.cands.length)
  (hl:if bar=true then ∃w∈us[u]!.cands[k]!.bars,l=[w]else l∈us[u]!.cands[k]!.needs) (h:(ed us u k l bar).2=true):kn us allow ⟨if bar=true then 3 else 2,((u:Nat):Int),0,0,(ed us u k l bar).1⟩:=by
 have hc:=hs _ (aj hu);unfold ed at h⊢;obtain⟨g1,g2,g3⟩:=ML hs h;obtain⟨m1,m2,m3⟩:=g3 u hu;have hbit:∀i,bt (aQ us (vl us (fA us u k l bar)).1 ((u:Nat):Int)) i=true->i=k+1:=by
  intro i hi;rw[m3,bm,List.all_eq_true]at hi;have:=hi.2 _ (List.mem_cons_self ..);simp only[ne_eq,not_true_eq_false,decide_false,Bool.false_or,kX,mR (show k+1<=40 by omega),bm,bL]at this;exact this.2
 obtain⟨i,hi⟩:=(IK m1).1 m2;obtain rfl:=hbit i hi;have hall:∀w∈l,w.u=((u:Nat):Int)->bt (if bar=true then eQ us w else bU us w.u-eQ us w) (k+1)=true:=by
  intro w hw e;rw[m3,bm,List.all_eq_true]at hi;have:=hi.2 ⟨w.u,if bar=true then eQ us w else bU us w.u-eQ us w⟩ (List.mem_cons_of_mem _ (ec.2 ⟨w,hw,rfl⟩));simpa[e]using this
 have hoth:∀w∈l,0<=w.u/\w.u<us.length/\uv (aQ us (vl us (fA us u k l bar)).1 w.u)/\∀i,bt (aQ us (vl us (fA us u k l bar)).1 w.u) i=true->bt (if bar=true then eQ us w else bU us w.u-eQ us w) i=true:=by
  intro w hw;have hm:(⟨w.u,if bar=true then eQ us w else bU us w.u-eQ us w⟩:a8)∈fA us u k l bar:=List.mem_cons_of_mem _ (ec.2 ⟨w,hw,rfl⟩);have hin:=g2 _ hm;dsimp only at hin;obtain⟨v,hv⟩:∃v:Nat,w.u=(v:Int):=⟨w.u.toNat,ae⟩
  obtain⟨n1,_,n3⟩:=g3 v ae;refine⟨hin.1,hin.2,by rw[hv];exact n1,fun i hi=>?_⟩;rw[hv,n3,bm,List.all_eq_true]at hi;have:=hi.2 _ hm;simpa[hv]using this
 have hf0:bt (bU us ((u:Nat):Int)) 0=true:=by rw[kG hu hs];simp
 have hb0:bt (aQ us (vl us (fA us u k l bar)).1 ((u:Nat):Int)) 0=false:=by
  cases e:bt (aQ us (vl us (fA us u k l bar)).1 ((u:Nat):Int)) 0 with
  |false=>rfl
  |true=>have:=hbit 0 e;omega
 have hu':(0:Int)<=((u:Nat):Int)/\((u:Nat):Int)<us.length:=ae;refine⟨g1,⟨rfl,rfl⟩,hu',.inr (.inl ⟨by cases bar<;>simp, ?_⟩)⟩;rw[mT hs hu'];dsimp only;refine⟨Ik (fun e=>by rw[e,hf0]at hb0;cases hb0),hb0,fun k2 hk2 hb=>?_⟩;obtain rfl:k2=k:=by have:=hbit _ hb;omega
 unfold lq;dsimp only;rw[Int.toNat_natCast];cases bar with
 |false=>
  simp only[gV,aL]at hl hall hoth⊢;rw[ai b7,List.any_eq_true];refine⟨l,hl, ?_⟩;unfold gF;rw[eB,List.any_eq_false];intro w hw;simp only[fB,gV,aL,eB,Bool.not_eq_false];unfold sQ;dsimp only;split
  .rename_i e;rw[bL,show((k2:Int)+1).toNat=k2+1 from rfl,oJ ae];have:=hall w hw e;rw[Dj hs,bm,eB]at this;exact this.2
  .rename_i e;rw[bL,jc];rintro i ⟨h1,h2⟩;have:=(hoth w hw).2.2.2 i h2;rw[Dj hs,h1]at this;simp at this
 |true=>
  simp only[aN]at hl hall hoth⊢;obtain⟨w,hw,rfl⟩:=hl;rw[aw b7,List.any_eq_true];refine⟨w,hw, ?_⟩;simp only[fB,aN];unfold sX;dsimp only;split
  .rename_i e;rw[bL,show((k2:Int)+1).toNat=k2+1 from rfl,Ne,oJ ae,hall w (.head _) e];exact Bool.noConfusion
  .rename_i e;obtain⟨_,_,n1,n2⟩:=hoth w (.head _);rw[bL,MB n1,jn n1];exact n2
abbrev kA (us:List bQ)(allow:List Int)(rows:List av):Prop:=∀x∈rows,kn us allow x
section
variable {us:List bQ} {allow:List Int}
def HB {rows:List av}{kind u:Int}{c:List a8×Bool}(hs:ry us)(h48:us.length<=48)(hk:kind=2\/kind=3)(hx:kA us allow rows)(hr:c.2=true->kn us allow ⟨kind,u,0,0,c.1⟩):kA us allow (wD us rows kind u c):=by
 unfold wD;split
 .rename_i h;exact OA hs h48 hx (hr h) hk
 .exact hx
def vw (hs:ry us)(h48:us.length<=48){u i:Nat}(hu:u<us.length)(hi:i<us[u]!.cands.length){rows:List av}(hx:kA us allow rows):∀{k},k<=us[u]!.cands[i]!.needs.length->kA us allow (dV us u i us[u]!.cands[i]!.needs rows k)
 |0,_=>hx
 |k+1,hk=>HB hs h48 (.inl rfl) (vw hs h48 hu hi hx ae) fun h=>xa (bar:=false) hs hu hi (by simpa using aj (show k<us[u]!.cands[i]!.needs.length by omega)) h
def yj (hs:ry us)(h48:us.length<=48){u i:Nat}(hu:u<us.length)(hi:i<us[u]!.cands.length){rows:List av}(hx:kA us allow rows):∀{k},k<=us[u]!.cands[i]!.bars.length->kA us allow (jx us u i us[u]!.cands[i]!.bars rows k)
 |0,_=>hx
 |k+1,hk=>HB hs h48 (.inr rfl) (yj hs h48 hu hi hx ae) fun h=>xa (bar:=true) hs hu hi ⟨_,aj (show k<us[u]!.cands[i]!.bars.length by omega),rfl⟩ h
def uC (hs:ry us)(h48:us.length<=48){u:Nat}(hu:u<us.length){rows:List av}(hx:kA us allow rows):∀{i},i<=us[u]!.cands.length->kA us allow (dJ us u us[u]!.cands rows i)
 |0,_=>hx
 |i+1,hi=>yj hs h48 hu ae (vw hs h48 hu ae (uC hs h48 hu hx ae) (aE _)) (aE _)
def LR (hs:ry us)(h0:0<us.length)(h1:1<=us[0]!.cands.length):kn us allow Sf:=by
 have hc:=hs _ (aj h0);have hI:uv 1:=⟨b7,b7⟩;have hb1:∀i,bt 1 i=decide (i=0):=fun i=>by rw[one_pow];exact mR ae i
 refine⟨e9.2 ⟨fun t ht=>?_,List.pairwise_singleton _ _⟩,⟨rfl,rfl⟩,⟨Int.le_refl 0,by show(0:Int)<us.length;omega⟩,.inl ⟨rfl,rfl,rfl⟩⟩;obtain rfl:=bo.1 ht;simp only[oE,bm,bL];have hf:=kG h0 hs;refine⟨⟨b7, ?_⟩,fun e=>?_⟩
 .rw[jn hI];intro i hi;rw[hb1,bL]at hi;subst hi;have:=hf 0;rw[show((0:Nat):Int)=0 from rfl]at this;rw[this];simp
 .have:=hf 1;rw[show((0:Nat):Int)=0 from rfl,<-e,hb1,cE b7]at this;exact absurd h1 (of_decide_eq_false this.symm)
def wc (hs:ry us)(h48:us.length<=48)(h0:0<us.length)(h1:1<=us[0]!.cands.length):∀{u},u<=us.length->kA us allow (dn us u)
 |0,_=>fun x hx=>by obtain rfl:=bo.1 hx;exact LR hs h0 h1
 |u+1,hu=>uC hs h48 ae (wc hs h48 h0 h1 ae) (aE _)
def KP {u:Nat}(hs:ry us)(hu:u<us.length)(ha:u<allow.length)(h:(uy us allow u).2=true):kn us allow ⟨4,((u:Nat):Int),0,0,(uy us allow u).1⟩:=by
 unfold uy at h⊢;obtain⟨g1,g2,g3⟩:=ML hs h;obtain⟨m1,m2,m3⟩:=g3 u hu;refine⟨g1,⟨rfl,rfl⟩,eF,.inr (.inr ⟨rfl,eF, ?_⟩)⟩;dsimp only;rw[Int.toNat_natCast,jc];rintro i ⟨h1,h2⟩;rw[m3,bm,List.all_eq_true]at h1;have:=h1.2 _ (.head _);simp only[ne_eq,not_true_eq_false,decide_false,Bool.false_or]at this;rw[HI (mS _ _) (by rw[jn (mS _ _)];intro i hi;rw[kX,bm]at hi;exact hi.1),kX,h2]at this;simp at this
def De (hs:ry us)(h48:us.length<=48)(h0:0<us.length)(h1:1<=us[0]!.cands.length):∀{u},u<=us.length->u<=allow.length->kA us allow (nU us allow u)
 |0,_,_=>wc hs h48 h0 h1 (aE _)
 |u+1,hu,ha=>by
  have ih:=De hs h48 h0 h1 (show u<=us.length by omega) (show u<=allow.length by omega);rw[nU];split
  .rename_i h;intro x hx;rcases List.mem_append.1 hx with hx|hx
   .exact ih x hx
   .obtain rfl:=bo.1 hx;exact KP hs ae ae h
  .exact ih
def zP (hs:ry us)(h48:us.length<=48)(h0:0<us.length)(h1:1<=us[0]!.cands.length):kA us allow (kq us allow):=De hs h48 h0 h1 (Nat.min_le_right _ _) (Nat.min_le_left _ _)
end
end
def Hn (us:List bQ)(c:List Int):Prop:=c.length<=us.length/\∀u,u<c.length->-1<=c[u]! /\c[u]! <us[u]!.cands.length
def vb (c:List Int)(u:Nat):Nat:=(c[u]! +1).toNat
def J0 {us:List bQ}{c:List Int}{u:Nat}(hs:ry us)(hc:Hn us c)(hu:u<c.length):nd us c ((u:Nat):Int)=2^vb c u/\vb c u<=us[u]!.cands.length:=by
 have h1:=hc.2 u hu;have h2:=hc.1;have h3:=hs _ (aj (show u<us.length by omega));unfold nd vb;rw[ai ae,Int.toNat_natCast,ai ae];exact⟨rfl,ae⟩
def RB (us:List bQ)(c:List Int)(l:List a8):Prop:=fh us l=true/\(∀t∈l,t.u<c.length)/\∀u,u<c.length->bt (aQ us l ((u:Nat):Int)) (vb c u)=true
def FX {us:List bQ}{c:List Int}{r:av}(hs:ry us)(hc:Hn us c)(hv:fh us r.terms=true)(h:mU us c r=true):RB us c r.terms:=by
 unfold mU at h;rw[DR]at h;have ht:∀t∈r.terms,sW us c t=true:=fun t ht=>by
  obtain⟨i,hi,rfl⟩:=List.mem_iff_getElem.1 ht;have:=h i hi;simpa[hi]using this
 obtain⟨h1,h2⟩:=e9.1 hv;have hlt:∀t∈r.terms,t.u<c.length:=fun t h3=>by
  have:=ht t h3;simp only[sW,bm,bL]at this;exact this.1
 refine⟨hv,hlt,fun u hu=>?_⟩;obtain⟨v1,v2⟩:=J0 hs hc hu;rcases yz (us:=us) (v:=((u:Nat):Int)) h2 with⟨t,h3,e,e2⟩|⟨_,e2⟩
 .rw[e2];have:=ht t h3;simp only[sW,rN,bm,bL]at this;rw[e,v1,HM]at this;have h16:=hs _ (aj (show u<us.length by have:=hc.1;omega));cases e3:bt t.m (vb c u)with
  |true=>rfl
  |false=>exact absurd ((oJ ae).2 e3) this.2
 .rw[e2,kG (by have:=hc.1;omega) hs];simpa using v2
def fj (w:bT)(allow:List Int)(rows:List av):Prop:=∀i,i<rows.length->dE ⟨w,allow,rows⟩ ((i:Nat):Int)=true
def ri {rows:List av}{n j:Nat}(h:j<n):(rows.take n)[j]! =rows[j]! :=by
 simp[List.getElem!_eq_getElem?_getD,List.getElem?_take,h]
def uT {w:bT}{allow:List Int}{rows:List av}{n i:Nat}(hi:i<n)(hn:n<=rows.length):dE ⟨w,allow,rows.take n⟩ ((i:Nat):Int)=dE ⟨w,allow,rows⟩ ((i:Nat):Int):=by
 have hg:=ri (rows:=rows) hi;unfold dE;simp only[Int.toNat_natCast,hg,fo];rw[cv (show((i:Nat):Int)<((min n rows.length:Nat):Int)by omega),cv (show((i:Nat):Int)<(rows.length:Int)by omega)];congr 1;unfold lK;split
 .unfold nW;dsimp only;by_cases ha:0<=rows[i]!.a/\rows[i]!.a<((i:Nat):Int)
  .by_cases hb:0<=rows[i]!.b/\rows[i]!.b<((i:Nat):Int)
   .rw[ri (show rows[i]!.a.toNat<n by omega),ri (show rows[i]!.b.toNat<n by omega)]
   .rw[show(decide (0<=rows[i]!.b)&&decide (rows[i]!.b<((i:Nat):Int)))=false by rw[gU,dA,dA];omega];simp
  .rw[show(decide (0<=rows[i]!.a)&&decide (rows[i]!.a<((i:Nat):Int)))=false by rw[gU,dA,dA];omega];simp
 .rfl
def GR {w:bT}{allow:List Int}{rows:List av}{n:Nat}(h:fj w allow rows)(hn:n<=rows.length):fj w allow (rows.take n):=by
 intro i hi;rw[fo]at hi;rw[uT ae hn];exact h i ae
def AT {w:bT}{allow:List Int}{rows:List av}{r:av}(h:fj w allow rows)(hr:dE ⟨w,allow,rows++[r]⟩ ((rows.length:Nat):Int)=true):fj w allow (rows++[r]):=by
 intro i hi;rw[cK,List.length_singleton]at hi;rcases cQ i rows.length with h1|h1
 .rw[<-uT (n:=rows.length) h1 bh,List.take_left];exact h i h1
 .obtain rfl:i=rows.length:=ae;exact hr
def qi {w:bT}{allow:List Int}{rows:List av}(h:fj w allow rows){i:Nat}(hi:i<rows.length):fh w.us rows[i]!.terms=true:=by
 have:=h i hi;unfold dE at this;simp only[bm,Int.toNat_natCast]at this;exact this.1.2
def mj {rows:List av}{r:av}:(rows++[r])[rows.length]! =r:=by simp[List.getElem!_eq_getElem?_getD]
def tI {rows more:List av}{i:Nat}(h:i<rows.length):(rows++more)[i]! =rows[i]! :=by
 simp[List.getElem!_eq_getElem?_getD,List.getElem?_append_left h]
def BO {w:bT}{allow:List Int}{rows:List av}{r:av}(hr:kn w.us allow r):dE ⟨w,allow,rows++[r]⟩ ((rows.length:Nat):Int)=true:=by
 obtain⟨h1,⟨h2,h3⟩,h4,h5⟩:=hr;unfold dE;simp only[Int.toNat_natCast,mj,cK,List.length_singleton,bm,bL];refine⟨⟨⟨ae,ae⟩,h1⟩, ?_⟩;unfold lK;have hfn:bU w.us r.unit≠0:=by
  have:=Dz (us:=w.us) (u:=r.unit);rw[cv h4.1,cv h4.2]at this;exact of_decide_eq_true this
 rcases h5 with⟨k,h6,h7⟩|⟨k,h6⟩|⟨k,h6,h7⟩
 .rw[ai ae,aw k,h2,h3,h6,h7];rfl
 .rw[ai ae,ai ae,aw k,h2,h3,h6];rfl
 .rw[ai ae,ai ae,ai ae,aw k,h2,h3];unfold ux;simp only[bm,bL,decide_true,bC];exact⟨⟨hfn,h6⟩,h7⟩
def pV {us:List bQ}{a b:List a8}{unit:Int}{u:Nat}(hu:u<us.length):(eV us a b unit us.length)[u]! =kB us a b unit u:=by
 simp[eV,List.getElem!_eq_getElem?_getD,hu]
def DG {us:List bQ}{a b:List a8}{u:Nat}(hs:ry us)(hu:u<us.length)(ha:fh us a=true)(hb:fh us b=true)(hn:∀v,v<us.length->kB us a b ((u:Nat):Int) v≠0):
  fh us (gP us a b ((u:Nat):Int)).1=true/\∀v,v<us.length->aQ us (gP us a b ((u:Nat):Int)).1 ((v:Nat):Int)=kB us a b ((u:Nat):Int) v:=by
 unfold gP;rw[ai ae];have hsub:NN us (eV us a b ((u:Nat):Int) us.length):=by
  intro v hv;rw[pV hv];have sa:=mz (u:=((v:Nat):Int)) hs ha;have sb:=mz (u:=((v:Nat):Int)) hs hb;unfold kB;split
  .rw[jn (ym _ _)];intro i hi;rw[sG,en]at hi;rcases hi with hi|hi
   .exact(jn sa.1).1 sa.2 i hi
   .exact(jn sb.1).1 sb.2 i hi
  .rw[jn (mS _ _)];intro i hi;rw[kX,bm]at hi;exact(jn sa.1).1 sa.2 i hi.1
 obtain⟨g1,g2,_⟩:=DI (pW us a b _ _) hsub (Gf fun v hv=>by
  rw[pW]at hv;rw[pV hv];exact hn v hv)
 exact⟨g1,fun v hv=>by rw[g2 v hv,pV hv]⟩
def HP (m:Int):FU m m=0:=by
 rw[HO,D8]
 ext i hi;simp
def BM {w:bT}{allow:List Int}{rows:List av}{u:Nat}{now x:Int}(hs:ry w.us)(hu:u<w.us.length)(hR:fj w allow rows)(h1:0<=now/\now<rows.length)(h2:0<=x/\x<rows.length)
  (hn:∀v,v<w.us.length->kB w.us rows[now.toNat]!.terms rows[x.toNat]!.terms ((u:Nat):Int) v≠0):dE ⟨w,allow,rows++[iv w.us u now x rows]⟩ ((rows.length:Nat):Int)=true:=by
 have va:=qi hR (show now.toNat<rows.length by omega);have vx:=qi hR (show x.toNat<rows.length by omega);obtain⟨j1,j2⟩:=DG hs hu va vx hn;unfold dE;simp only[Int.toNat_natCast,mj,cK,List.length_singleton,bm,bL];refine⟨⟨⟨ae,ae⟩,j1⟩, ?_⟩;unfold lK;rw[aw (show(iv w.us u now x rows).kind=5 from rfl)];unfold nW;simp only[bm,bL];rw[show(iv w.us u now x rows).a=now from rfl,show(iv w.us u now x rows).b=x from rfl,tI (show now.toNat<rows.length by omega),tI (show x.toNat<rows.length by omega)];refine⟨⟨⟨⟨?_,ae⟩,ae⟩,va,vx⟩, ?_⟩
 .have:=Dz (us:=w.us) (u:=((u:Nat):Int));rw[cv (show(0:Int)<=((u:Nat):Int)by omega),cv (show((u:Nat):Int)<w.us.length by omega)]at this;exact of_decide_eq_true this
 .rw[cA];intro v _ hv;unfold qA;rw[bL,show(iv w.us u now x rows).terms=(gP w.us rows[now.toNat]!.terms rows[x.toNat]!.terms ((u:Nat):Int)).1 from rfl,j2 v hv];exact HP _
def zr (us:List bQ)(c:List Int)(k:Nat)(l:List a8):Prop:=fh us l=true/\(∀t∈l,t.u<c.length+1)/\(∀u,u<c.length->bt (aQ us l ((u:Nat):Int)) (vb c u)=true)/\∀j,j<k->bt (aQ us l ((c.length:Nat):Int)) j=true
def yC {us:List bQ}{c:List Int}{k:Nat}{l:List a8}(h:zr us c k l)(hm:aQ us l ((c.length:Nat):Int)=bU us ((c.length:Nat):Int)):RB us c l:=by
 obtain⟨h1,h2,h3,_⟩:=h;refine⟨h1,fun t ht=>?_,h3⟩;have:=h2 t ht;have:=A4 h1 hm t ht;omega
def IC {us:List bQ}{c:List Int}{l:List a8}(hs:ry us)(hc:c.length<us.length)(h:zr us c (us[c.length]!.cands.length+1) l):RB us c l:=by
 refine yC h (yl (mz hs h.1).1 (n8 hs) fun i=>?_);rw[kG hc hs];have sm:=mz (u:=((c.length:Nat):Int)) hs h.1;by_cases hi:i<=us[c.length]!.cands.length
 .rw[h.2.2.2 i ae,cv hi]
 .rw[cE hi];cases e:bt (aQ us l ((c.length:Nat):Int)) i with
  |false=>rfl
  |true=>
   have:=(jn sm.1).1 sm.2 i e;rw[kG hc hs,bL]at this;exact absurd this hi
def O5 {c:List Int}{i:Int}{u:Nat}(h:u<c.length):vb (c++[i]) u=vb c u:=by
 unfold vb;rw[List.getElem!_eq_getElem?_getD,List.getElem?_append_left h,<-List.getElem!_eq_getElem?_getD]
def Mf {c:List Int}{i:Int}:vb (c++[i]) c.length=(i+1).toNat:=by
 unfold vb;simp[List.getElem!_eq_getElem?_getD]
def JO {us:List bQ}{c:List Int}{i:Int}{l:List a8}(h:RB us (c++[i]) l):fh us l=true/\(∀t∈l,t.u<c.length+1)/\(∀u,u<c.length->bt (aQ us l ((u:Nat):Int)) (vb c u)=true)/\bt (aQ us l ((c.length:Nat):Int)) (i+1).toNat=true:=by
 obtain⟨h1,h2,h3⟩:=h;refine⟨h1,fun t ht=>?_,fun u hu=>?_, ?_⟩
 .have:=h2 t ht;simp only[cK,List.length_singleton]at this;omega
 .have:=h3 u eo;rwa [O5 hu]at this
 .have:=h3 c.length bh;rwa [Mf]at this
def zl (w:bT)(allow:List Int)(c:List Int)(rows:List av)(r:Int×List av):Prop:=fj w allow r.2/\(∃more,r.2=rows++more)/\-1<=r.1/\(0<=r.1->r.1<r.2.length/\RB w.us c r.2[r.1.toNat]!.terms)
def xm {w:bT}{allow:List Int}{rows:List av}{c:List Int}{k:Nat}{now x:Int}(hs:ry w.us)(hc:c.length<w.us.length)(hcok:Hn w.us c)(hR:fj w allow rows)(h1:0<=now/\now<rows.length)(h2:0<=x/\x<rows.length)(hk:0<k)
  (ha:zr w.us c k rows[now.toNat]!.terms) (hb:fh w.us rows[x.toNat]!.terms=true/\(∀t∈rows[x.toNat]!.terms,t.u<c.length+1)/\(∀u,u<c.length->bt (aQ w.us rows[x.toNat]!.terms ((u:Nat):Int)) (vb c u)=true)/\bt (aQ w.us rows[x.toNat]!.terms ((c.length:Nat):Int)) k=true):
  fj w allow (rows++[iv w.us c.length now x rows])/\zr w.us c (k+1) (iv w.us c.length now x rows).terms:=by
 obtain⟨a1,a2,a3,a4⟩:=ha;obtain⟨b1,b2,b3,b4⟩:=hb;have hm:∀v,v<w.us.length->(v<c.length->bt (kB w.us rows[now.toNat]!.terms rows[x.toNat]!.terms ((c.length:Nat):Int) v) (vb c v)=true)/\(v=c.length->∀j,j<k+1->bt (kB w.us rows[now.toNat]!.terms rows[x.toNat]!.terms ((c.length:Nat):Int) v) j=true)/\(c.length<v->kB w.us rows[now.toNat]!.terms rows[x.toNat]!.terms ((c.length:Nat):Int) v=bU w.us ((v:Nat):Int)):=by
  intro v hv;refine⟨fun h=>?_,fun h j hj=>?_,fun h=>?_⟩
  .unfold kB;rw[ai ae,kX,a3 v h,b3 v h];rfl
  .subst h;unfold kB;rw[aw rfl,sG];rcases cQ j k with h|h
   .rw[a4 j h];rfl
   .obtain rfl:j=k:=ae;rw[b4,Bool.or_true]
  .unfold kB;rw[ai ae,oU (fun t ht=>by have:=a2 t ht;omega),oU (fun t ht=>by have:=b2 t ht;omega)];exact zG (n8 hs)
 have hnz:∀v,v<w.us.length->kB w.us rows[now.toNat]!.terms rows[x.toNat]!.terms ((c.length:Nat):Int) v≠0:=by
  intro v hv e;obtain⟨g1,g2,g3⟩:=hm v hv;rcases Nat.lt_trichotomy v c.length with h|h|h
  .have:=g1 h;rw[e,lJ]at this;cases this
  .have:=g2 h 0 ae;rw[e,lJ]at this;cases this
  .have:=g3 h;have h0:bt (bU w.us ((v:Nat):Int)) 0=true:=by rw[kG hv hs];simp
   rw[<-this,e,lJ]at h0;cases h0
 obtain⟨j1,j2⟩:=DG hs hc a1 b1 hnz;refine⟨AT hR (BM hs hc hR h1 h2 hnz),j1,fun t ht=>?_,fun u hu=>?_,fun j hj=>?_⟩
 .have hin:=sB ((e9.1 j1).1 t ht);refine Classical.byContradiction fun hge=>?_
  obtain⟨v,hv⟩:∃v:Nat,t.u=(v:Int):=⟨t.u.toNat,ae⟩
  have e:=j2 v ae;rw[(hm v ae).2.2 ae]at e;exact A4 j1 e t ht hv
 .show bt (aQ w.us (gP w.us _ _ _).1 _) _=true;rw[j2 u ae];exact(hm u ae).1 hu
 .show bt (aQ w.us (gP w.us _ _ _).1 _) _=true;rw[j2 c.length hc];exact(hm c.length hc).2.1 rfl j hj
def y9 {w:bT}{allow:List Int}{c:List Int}{rc:List Int->List av->Int×List av}(hs:ry w.us)(hc:c.length<w.us.length)(hcok:Hn w.us c)
  (hrc:∀(i:Int) (rows:List av),-1<=i->i<w.us[c.length]!.cands.length->fj w allow rows->zl w allow (c++[i]) rows (rc (c++[i]) rows)):
  ∀(n k:Nat) (i now:Int) (rows:List av),n+k=w.us[c.length]!.cands.length+1->i=((k:Nat):Int) -1->fj w allow rows->(k=0/\now=-1\/0<k/\(0<=now/\now<rows.length)/\zr w.us c k rows[now.toNat]!.terms)->zl w allow c rows (nu w.us c.length rc c n i now rows)
 |0,k,i,now,rows,hnk,hi,hR,hN=>by
  rw[nu];refine⟨hR,⟨[],bh⟩, ?_,fun h0=>?_⟩
  .rcases hN with h|h<;>dsimp only<;>omega
  .dsimp only at h0⊢;rcases hN with⟨_,h⟩|⟨_,h1,h2⟩
   .omega
   .obtain rfl:k=w.us[c.length]!.cands.length+1:=ae;exact⟨h1.2,IC hs hc h2⟩
 |n+1,k,i,now,rows,hnk,hi,hR,hN=>by
  have hr:=hrc i rows ae ae hR;rw[nu];generalize rc (c++[i]) rows=r at hr⊢;obtain⟨e1,⟨more,e2⟩,e3,e4⟩:=hr;have hlen:r.2.length=rows.length+more.length:=by rw[e2,cK]
  split
  .exact⟨e1,⟨more,e2⟩,eF,fun h=>by dsimp only at h;omega⟩
  .rename_i h0;obtain⟨e5,e6⟩:=e4 ae;have e7:=JO e6;have hkk:(i+1).toNat=k:=ae;rw[hkk]at e7;split
   .rename_i hf;refine⟨e1,⟨more,e2⟩,e3,fun _=>⟨e5,yC (k:=0) ⟨e7.1,e7.2.1,e7.2.2.1,fun j hj=>ae⟩ hf⟩⟩
   .split
    .rename_i hn;obtain⟨rfl,_⟩:k=0/\now=-1:=by
      rcases hN with h|h
      .exact h
      .omega
     have hj0:∀j,j<1->bt (aQ w.us r.2[r.1.toNat]!.terms ((c.length:Nat):Int)) j=true:=fun j hj=>by
      obtain rfl:j=0:=ae;exact e7.2.2.2
     have:=y9 hs hc hcok hrc n 1 (i+1) r.1 r.2 ae ae e1 (.inr ⟨ae,⟨ae,e5⟩,e7.1,e7.2.1,e7.2.2.1,hj0⟩);obtain⟨g1,⟨m2,g2⟩,g3,g4⟩:=this;exact⟨g1,⟨more++m2,by rw[g2,e2,me]⟩,g3,g4⟩
    .rename_i hn;obtain⟨hk,hnw,hnr⟩:0<k/\(0<=now/\now<rows.length)/\zr w.us c k rows[now.toNat]!.terms:=by
      rcases hN with h|h
      .omega
      .exact h
     have hget:r.2[now.toNat]! =rows[now.toNat]! :=by rw[e2];exact tI ae
     obtain⟨j1,j2⟩:=xm (x:=r.1) (now:=now) hs hc hcok e1 ⟨hnw.1,ae⟩ ⟨ae,e5⟩ hk (by rw[hget];exact hnr) e7;split
     .rename_i hf;refine⟨j1,⟨more++[iv w.us c.length now r.1 r.2],by dsimp only;rw[e2,me,<-e2]⟩,eF,fun _=>⟨by simp only[cK,List.length_singleton];omega, ?_⟩⟩;dsimp only;rw[Int.toNat_natCast,mj];exact yC j2 hf
     .have:=y9 hs hc hcok hrc n (k+1) (i+1) (((r.2.length:Nat):Int)) (r.2++[iv w.us c.length now r.1 r.2]) ae ae j1 (.inr ⟨ae,⟨ae,by simp only[cK,List.length_singleton];omega⟩,by rw[Int.toNat_natCast,mj];exact j2⟩);obtain⟨g1,⟨m2,g2⟩,g3,g4⟩:=this;exact⟨g1,⟨more++([iv w.us c.length now r.1 r.2]++m2),by rw[g2,<-me rows,<-e2,me]⟩,g3,g4⟩
def Dg {f:Nat->Bool}:∀k i,fw f k i<i+k->f (fw f k i)=false
 |0,i,h=>by rw[fw]at h;omega
 |k+1,i,h=>by
  rw[fw]at h⊢;split at h
  .rename_i h2;rw[aw h2];exact Dg k (i+1) ae
  .rename_i h2;rw[ai h2];simpa using h2
def zO {w:bT}{allow:List Int}{facts:List av}{c:List Int}{rows:List av}(hs:ry w.us)(hf:kA w.us allow facts)(hc:Hn w.us c)(hR:fj w allow rows)(h:eH w.us facts c<facts.length):zl w allow c rows (((rows.length:Nat):Int),rows++[facts[eH w.us facts c]!]):=by
 have hF:=hf _ (aj h);refine⟨AT hR (BO hF),⟨_,rfl⟩,eF,fun _=>⟨by simp only[cK,List.length_singleton];omega, ?_⟩⟩;dsimp only;rw[Int.toNat_natCast,mj];refine FX hs hc hF.1 ?_;have:=Dg (f:=fun i=>!mU w.us c facts[i]!) facts.length 0 (by unfold eH at h;omega);unfold eH;simpa using this
def Hn.app {us:List bQ}{c:List Int}{i:Int}(h:Hn us c)(hl:c.length<us.length)(h1:-1<=i)(h2:i<us[c.length]!.cands.length):Hn us (c++[i]):=by
 refine⟨eo,fun u hu=>?_⟩;rw[cK,List.length_singleton]at hu;rcases cQ u c.length with h3|h3
 .rw[List.getElem!_eq_getElem?_getD,List.getElem?_append_left h3,<-List.getElem!_eq_getElem?_getD];exact h.2 u h3
 .obtain rfl:u=c.length:=ae;simp only[List.getElem!_eq_getElem?_getD,List.getElem?_concat_length,Option.getD_some]at*
  exact⟨h1,h2⟩
def yF {w:bT}{allow:List Int}{facts:List av}(hs:ry w.us)(hf:kA w.us allow facts):∀f c rows,c.length+f=w.us.length->Hn w.us c->fj w allow rows->zl w allow c rows (kC w.us facts f c rows)
 |0,c,rows,hl,hc,hR=>by
  rw[kC];split
  .rename_i h;exact zO hs hf hc hR h
  .exact⟨hR,⟨[],bh⟩,eF,fun h=>by dsimp only at h;omega⟩
 |f+1,c,rows,hl,hc,hR=>by
  rw[kC];split
  .rename_i h;exact zO hs hf hc hR h
  .split
   .exact⟨hR,⟨[],bh⟩,eF,fun h=>by dsimp only at h;omega⟩
   .exact y9 hs ae hc (fun i rows h1 h2 hR2=>yF hs hf f (c++[i]) rows eo (hc.app ae h1 h2) hR2) _ 0 (-1) (-1) rows ae ae hR (.inl ⟨rfl,rfl⟩)
def PW (w:bT):Prop:=ry w.us/\w.us.length<=48/\0<w.us.length/\1<=w.us[0]!.cands.length
def I0 {w:bT}{allow:List Int}{l:List av}(hw:PW w)(h:m8 w.us allow=some l):fj w allow l/\0<l.length/\l[l.length-1]!.terms=[]:=by
 obtain⟨hs,h48,h0,h1⟩:=hw;have hf:kA w.us allow (kq w.us allow):=zP hs h48 h0 h1;have hE:=yF hs hf w.us.length [] [] bh ⟨Nat.zero_le _,fun u hu=>by cases hu⟩ (fun i hi=>by cases hi);have hp:lW w.us allow=kC w.us (kq w.us allow) w.us.length [] []:=rfl;rw[<-hp]at hE;unfold m8 at h;split at h
 .cases h
 .rename_i hn;obtain rfl:=bg h;obtain⟨e1,_,_,e4⟩:=hE;obtain⟨e5,e6⟩:=e4 ae;have hlen:((lW w.us allow).2.take ((lW w.us allow).1.toNat+1)).length=(lW w.us allow).1.toNat+1:=by rw[fo];omega
  refine⟨GR e1 ae,ae, ?_⟩;rw[hlen,Nat.add_sub_cancel,ri ae];refine List.eq_nil_iff_forall_not_mem.2 fun t ht=>?_
  have h2:=e6.2.1 t ht;have h3:=sB ((e9.1 e6.1).1 t ht);simp at h2;omega
def vX {us:List bQ}{u:Nat}{rc:List Int->List av->Int×List av}{c:List Int}{B:Nat}(hrc:∀(i:Int)(rows:List av),(rc (c++[i]) rows).2.length<=max (rows.length+1) B):∀n i now rows,(nu us u rc c n i now rows).2.length<=max rows.length B+2*n
 |0,i,now,rows=>by rw[nu];dsimp only;omega
 |n+1,i,now,rows=>by
  have h1:=hrc i rows;rw[nu];generalize rc (c++[i]) rows=r at h1⊢;have h3:=vX (us:=us) (u:=u) hrc n (i+1) r.1 r.2;have h4:=vX (us:=us) (u:=u) hrc n (i+1) (((r.2.length:Nat):Int)) (r.2++[iv us u now r.1 r.2]);have h5:(r.2++[iv us u now r.1 r.2]).length=r.2.length+1:=bh;rw[h5]at h4;split
  .dsimp only;omega
  .split
   .omega
   .split
    .omega
    .split
     .dsimp only;omega
     .omega
def Al {us:List bQ}{facts:List av}(hs:ry us):∀f c rows,c.length+f=us.length->(kC us facts f c rows).2.length<=max (rows.length+1) (3001+40*f)
 |0,c,rows,hl=>by
  rw[kC];split
  .simp only[cK,List.length_singleton];omega
  .dsimp only;omega
 |f+1,c,rows,hl=>by
  rw[kC];split
  .simp only[cK,List.length_singleton];omega
  .split
   .dsimp only;omega
   .have h1:=vX (us:=us) (u:=c.length) (rc:=kC us facts f) (c:=c) (B:=3001+40*f) (fun i rows=>Al hs f (c++[i]) rows eo) (us[c.length]!.cands.length+1) (-1) (-1) rows;have h2:=hs _ (aj (show c.length<us.length by omega));omega
section
def kf:List (List bd):=(List.range 16).map fun m=>br ((m:Nat):Int) 4
set_option maxRecDepth 10000
def L3:∀vs∈kf,∀m,m<8->nb (tW ((m:Nat):Int) vs vs.length)=true/\nb (wS (tW ((m:Nat):Int) vs vs.length))=true:=by decide+kernel
def zN:∀v∈cM,nb (bV v)=true/\ki v=true:=by decide+kernel
def NT:nb wE=true:=by decide+kernel
def LO:∀vs∈kf,∀k,k<4->0<k->k<vs.length->kY vs[k-1]! vs[k]! <0:=by decide+kernel
def JT:∀m,m<16->br ((m:Nat):Int) 4∈kf:=by decide+kernel
def JS {vs:List bd}(h:vs.Sublist cM):vs∈kf:=by
 have key:kf=[[],[cM[0]!],[cM[1]!],[cM[0]!,cM[1]!],[cM[2]!],[cM[0]!,cM[2]!],[cM[1]!,cM[2]!],[cM[0]!,cM[1]!,cM[2]!],[cM[3]!],[cM[0]!,cM[3]!],[cM[1]!,cM[3]!],[cM[0]!,cM[1]!,cM[3]!],[cM[2]!,cM[3]!],[cM[0]!,cM[2]!,cM[3]!],[cM[1]!,cM[2]!,cM[3]!],[cM[0]!,cM[1]!,cM[2]!,cM[3]!]]:=by decide+kernel
 rw[key];have hv:cM=[cM[0]!,cM[1]!,cM[2]!,cM[3]!]:=rfl;rw[hv]at h;generalize cM[0]! =a at*
 generalize cM[1]! =b at*
 generalize cM[2]! =c at*
 generalize cM[3]! =d at*
 clear hv key;cases h with
 |cons _ h=>cases h with
  |cons _ h=>cases h with
   |cons _ h=>cases h with
    |cons _ h=>cases h;simp
    |cons_cons _ h=>cases h;simp
   |cons_cons _ h=>cases h with
    |cons _ h=>cases h;simp
    |cons_cons _ h=>cases h;simp
  |cons_cons _ h=>cases h with
   |cons _ h=>cases h with
    |cons _ h=>cases h;simp
    |cons_cons _ h=>cases h;simp
   |cons_cons _ h=>cases h with
    |cons _ h=>cases h;simp
    |cons_cons _ h=>cases h;simp
 |cons_cons _ h=>cases h with
  |cons _ h=>cases h with
   |cons _ h=>cases h with
    |cons _ h=>cases h;simp
    |cons_cons _ h=>cases h;simp
   |cons_cons _ h=>cases h with
    |cons _ h=>cases h;simp
    |cons_cons _ h=>cases h;simp
  |cons_cons _ h=>cases h with
   |cons _ h=>cases h with
    |cons _ h=>cases h;simp
    |cons_cons _ h=>cases h;simp
   |cons_cons _ h=>cases h with
    |cons _ h=>cases h;simp
    |cons_cons _ h=>cases h;simp
def xf (vs:List bd):∀r g acc k,k+r=vs.length->acc.Sublist (vs.take k)->((fu vs r g acc).1).Sublist vs
 |0,g,acc,k,hk,h=>by
  rw[fu];rw[show k=vs.length by omega,List.take_length]at h;exact h
 |r+1,g,acc,k,hk,h=>by
  rw[fu];refine xf vs r _ _ (k+1) ae ?_;have hx:vs.take k++[vs[k]!]=vs.take (k+1):=ez ae;rw[show vs.length-(r+1)=k by omega,<-hx];split
  .exact List.Sublist.append h (List.Sublist.refl _)
  .exact h.trans (List.sublist_append_left _ _)
def vZ:∀vs∈kf,vs.Sublist cM:=by decide+kernel
def KT {m:Int}(h:0<=m/\m<16):br m 4∈kf:=by
 obtain⟨k,rfl⟩:∃k:Nat,m=(k:Int):=⟨m.toNat,ae⟩
 exact JT k ae
def K1 {vs:List bd}{g:Gs}(h:vs∈kf):(fu vs vs.length g []).1∈kf:=JS ((xf vs vs.length g [] 0 ae bh).trans (vZ _ h))
def yf (a b:RU):Bool:=Op.bytesLess a.name b.name ||(decide (a.name=b.name)&&Op.bytesLess a.feat b.feat)
def RU.ok (u:RU):Prop:=u.name≠[]/\∃vs,vs∈kf/\u.cs=vs.map aY
structure UI (i:Nat)(us:List RU):Prop where
 head:us[0]! =⟨[],[],[wv]⟩
 len:if i=0 then us.length=1 else 2<=us.length
 body:∀j,1<=j->j<us.length->us[j]!.ok
 first:∀j,1<=j->j<us.length->us[j]!.feat≠[]->2<=j
 chain:∀j,2<=j->j<us.length->yf us[j-1]! us[j]! =true
 last:i≠0->us[us.length-1]!.name=bI[i-1]!
def ui0:UI 0 tz:=⟨rfl,rfl,fun j h1 h2=>by simp[tz]at h2;omega,fun j h1 h2=>by simp[tz]at h2;omega,fun j h1 h2=>by simp[tz]at h2;omega,fun h=>absurd rfl h⟩
def JY {i k:Nat}{us:List RU}{x:RU}(h:UI i us)(hk:k≠0)(hx:x.ok)(hf:x.feat≠[]->2<=us.length)(ha:2<=us.length->yf us[us.length-1]! x=true)(hn:x.name=bI[k-1]!):UI k (us++[x]):=by
 have hl1:1<=us.length:=by
  have:=h.len;split at this<;>omega
 have hlen:(us++[x]).length=us.length+1:=bh;refine⟨by rw[j3 ae];exact h.head,by rw[ai hk,hlen];omega,fun j h1 h2=>?_,fun j h1 h2 hf2=>?_,fun j h1 h2=>?_,fun _=>?_⟩
 .rw[hlen]at h2;rcases cQ j us.length with h3|h3
  .rw[j3 h3];exact h.body j h1 h3
  .rw[j4 ae];exact hx
 .rw[hlen]at h2;rcases cQ j us.length with h3|h3
  .rw[j3 h3]at hf2;exact h.first j h1 h3 hf2
  .rw[j4 ae]at hf2;have:=hf hf2;omega
 .rw[hlen]at h2;rcases cQ j us.length with h3|h3
  .rw[j3 h3,j3 ae];exact h.chain j h1 h3
  .obtain rfl:j=us.length:=ae;rw[j3 ae,j4 rfl];exact ha h1
 .rw[hlen,Nat.add_sub_cancel,j4 rfl];exact hn
def vo:∀i,i<5->bI[i]! ≠[]/\(i≠0->Op.bytesLess bI[i-1]! bI[i]! =true):=by decide+kernel
def JZ {i:Nat}{us:List RU}{vs:List bd}(h:UI i us)(hi:i<5)(hv:vs∈kf):UI (i+1) (us++[⟨bI[i]!,[],vs.map aY⟩]):=by
 refine JY h ae ⟨(vo i hi).1,vs,hv,rfl⟩ (fun hf=>absurd rfl hf) (fun h2=>?_) rfl;have h0:i≠0:=by
  rintro rfl;have:=h.len;simp at this;omega
 unfold yf;rw[h.last h0];dsimp only;rw[(vo i hi).2 h0];rfl
def Me {i:Nat}{us:List RU}{vs vs2:List bd}(h:UI i us)(hi:i<5)(hv:vs∈kf)(hv2:vs2∈kf):UI (i+1) ((us++[⟨bI[i]!,[],vs.map aY⟩])++[⟨bI[i]!,[102],vs2.map aY⟩]):=by
 have h1:=JZ h hi hv;have hl:2<=(us++[(⟨bI[i]!,[],vs.map aY⟩:RU)]).length:=by have:=h1.len;rw[ai ae]at this;exact this
 refine JY h1 ae ⟨(vo i hi).1,vs2,hv2,rfl⟩ (fun _=>hl) (fun _=>?_) rfl;have hl2:(us++[(⟨bI[i]!,[],vs.map aY⟩:RU)]).length=us.length+1:=bh;rw[hl2,Nat.add_sub_cancel,j4 rfl];unfold yf;dsimp only;rw[cv rfl];have:Op.bytesLess [] [102]=true:=b7;rw[this];simp
def sC (few:Int):∀(r:Nat) (g:Gs) (us:List RU),r<=5->UI (5-r) us->∃i,UI i (eY few r g us).1
 |0,g,us,_,h=>⟨5,by rw[eY];exact h⟩
 |r+1,g,us,hr,h=>by
  have hb:br (g.bH.val 16) 4∈kf:=KT ((Gs.xY g.bH 16).1 b7);rw[show 5-(r+1)=4-r by omega]at h;rw[eY];split
  .split
   .exact sC few r _ _ ae (by rw[show 5-r=4-r+1 by omega];exact Me h ae hb (K1 hb))
   .exact sC few r _ _ ae (by rw[show 5-r=4-r+1 by omega];exact JZ h ae hb)
  .exact⟨_,h⟩
def GV (g:Gs)(few:Int):∃i,UI i (ek g few).1:=sC few 5 g tz ae ui0
def BI (vs:Nat->List bd):Prop:=∀t,1<=t->vs t∈kf
def LZ {g:Gs}{vs:List bd}(h:vs∈kf):nb (tx g vs)=true:=by
 have hv:=(Gs.xY g 8).1 b7;obtain⟨m,hm⟩:∃m:Nat,g.val 8=(m:Int):=⟨(g.val 8).toNat,ae⟩
 have hs:=L3 vs h m ae;unfold tx;rw[hm];split
 .exact NT
 .split
  .exact hs.2
  .exact hs.1
def A9 {g:Gs}{n:Nat}{vs:Nat->List bd}(hn:2<=n)(hv:BI vs):oF (n:Int) (cG g n vs)=true:=by
 have h:=(Gs.xY g ((n:Int) -1)).1 ae;unfold oF cG;dsimp only;rw[cv (show 0<1+g.val ((n:Int) -1)by omega),cv (show 1+g.val ((n:Int) -1)<(n:Int)by omega),LZ (hv _ ae)];rfl
def Bb {n:Int}{l:List Want}(h:∀w∈l,oF n w=true):nj n l=true:=by
 unfold nj;rw[cA];intro j _ hj;exact h _ (aj hj)
def zx (n:Nat)(l:List ko):Prop:=∀r∈l,oB (n:Int) r=true
def CU {n:Int}{l:List Want}(h:∀w∈l,oF n w=true)(h0:0<l.length)(h2:l.length<=2):oB n l=true:=by
 unfold oB;rw[Bb h,cv h0,cv (show l.length<=24 by omega)];rfl
def vt {n:Nat}{vs:Nat->List bd}(hn:2<=n)(hv:BI vs):∀k g acc,zx n acc->zx n (ji n vs k g acc).1/\(ji n vs k g acc).1.length=acc.length+k
 |0,g,acc,h=>⟨h,rfl⟩
 |k+1,g,acc,h=>by
  rw[ji];have hw:=fun g=>A9 (g:=g) hn hv
  split
  .have:=vt hn hv k g.eu.bH.eu (acc++[[cG g n vs,cG g.eu.bH n vs]]) (by
    intro r hr;rcases List.mem_append.1 hr with hr|hr
    .exact h r hr
    .obtain rfl:=bo.1 hr;refine CU (fun w hw2=>?_) bh bh;simp only[dx,dX,or_false]at hw2;rcases hw2 with rfl|rfl<;>exact hw _)
   exact⟨this.1,by rw[this.2,cK,List.length_singleton];omega⟩
  .have:=vt hn hv k g.eu.bH (acc++[[cG g n vs]]) (by
    intro r hr;rcases List.mem_append.1 hr with hr|hr
    .exact h r hr
    .obtain rfl:=bo.1 hr;exact CU (fun w hw2=>by obtain rfl:=bo.1 hw2;exact hw _) bh bh)
   exact⟨this.1,by rw[this.2,cK,List.length_singleton];omega⟩
def xu {g:Gs}{n:Nat}{vs:Nat->List bd}{most:Int}(hn:2<=n)(hv:BI vs)(hm:0<=most/\most<=3):zx n (ax g n vs most).1/\(ax g n vs most).1.length<=3:=by
 have h:=(Gs.xY g (most+1)).1 ae;have:=vt hn hv (g.val (most+1)).toNat g.bH [] (fun r hr=>by cases hr);unfold ax;exact⟨this.1,by rw[this.2];simp only[bK];omega⟩
def tM {n:Nat}{c:dI}(h1:zx n c.needs)(h2:c.needs.length<=4)(h3:∀w∈c.bars,oF (n:Int) w=true)(h4:c.bars.length<=1):nq (n:Int) c=true:=by
 unfold nq;rw[cv (show c.needs.length<=24 by omega),cv (show c.bars.length<=24 by omega),Bb h3,show dj (fun i=>oB (n:Int) c.needs[i]!) 0 c.needs.length=true by rw[cA];intro j _ hj;exact h1 _ (aj hj)];rfl
def ru (n:Nat)(c:CW):Prop:=nq (n:Int) c.p=true
def Js {n:Nat}(v:bd):ru n (aY v):=tM (fun r hr=>by cases hr) (by simp[aY,CW.p,NF.p]) (fun w hw=>by cases hw) (by simp[aY,CW.p,BF.p])
def HS {h:Gs}{n i:Nat}{vs:Nat->List bd}{f:dy}{v:bd}(hn:2<=n)(hv:BI vs)(hi:f≠[]->2<=i)(hin:i<n)(hvv:v∈cM):ru n (gK h n vs i f v).1:=by
 have hg:=xu (g:=h) hn hv (most:=2) b7;have hr:zx n (nt h n vs i f v):=by
  intro r hr;unfold nt at hr;rcases List.mem_append.1 hr with hr|hr
  .split at hr
   .cases hr
   .rename_i hf;obtain rfl:=bo.1 hr;have:=hi hf;refine CU (fun w hw=>?_) bh bh;obtain rfl:=bo.1 hw;unfold oF;dsimp only;rw[cv (show 0<(i:Int) -1 by omega),cv (show(i:Int) -1<(n:Int)by omega),(zN v hvv).1];rfl
  .exact hg.1 r hr
 have hl:(nt h n vs i f v).length<=4:=by
  unfold nt;rw[cK];have:=hg.2;split<;>simp only[bK,List.length_singleton]<;>omega
 unfold gK;split
 .exact tM hr hl (fun w hw=>by obtain rfl:=bo.1 hw;exact A9 hn hv) (by simp[CW.p,BF.p])
 .exact tM hr hl (fun w hw=>by cases hw) (by simp[CW.p,BF.p])
def xj {n i:Nat}{vs:Nat->List bd}{f:dy}(hn:2<=n)(hv:BI vs)(hi:f≠[]->2<=i)(hin:i<n):∀(l:List bd) (h:Gs),(∀v∈l,v∈cM)->∀c∈(dU n vs i f l h).1,ru n c
 |[],h,_,c,hc=>by cases hc
 |v::r,h,hl,c,hc=>by
  simp only[dU]at hc;rcases dx.1 hc with rfl|hc
  .exact HS hn hv hi hin (hl _ (.head _))
  .exact xj hn hv hi hin r _ (fun x hx=>hl x (.tail _ hx)) c hc
def A1 {vs:List bd}(h:vs∈kf):∀v∈vs,v∈cM:=fun v hv=>(vZ vs h).subset hv
def xA {n:Nat}{vs:Nat->List bd}{ft:Nat->dy}(hn:2<=n)(hv:BI vs)(hft:∀i,1<=i->i<n->ft i≠[]->2<=i):∀r i h cs,i+r=n->1<=i->(∀t,(cs t).map CW.v=vs t/\∀c∈cs t,ru n c)->∀t,(jj n vs ft r i h cs t).map CW.v=vs t/\∀c∈jj n vs ft r i h cs t,ru n c
 |0,i,h,cs,hr,hi,hc=>hc
 |r+1,i,h,cs,hr,hi,hc=>by
  rw[jj];refine xA hn hv hft r _ _ _ ae ae fun t=>?_
  unfold cj;split
  .rename_i e;subst e;exact⟨(uQ n vs t (ft t) (vs t) h).1,xj hn hv (hft t hi ae) ae _ _ (A1 (hv t hi))⟩
  .exact hc t
def x8 (ks:List Int)(few:Int):nH (dS ks few)=true/\PW (dS ks few):=by
 obtain⟨us,g1,h⟩:∃us g1,ek ⟨ks,0⟩ few=(us,g1):=⟨_,_,rfl⟩
 obtain⟨h8,h0,hraw,_,hp,_⟩:=oG h;obtain⟨iu,hu⟩:=GV ⟨ks,0⟩ few;rw[h]at hu;dsimp only at hu;have hv:BI fun t=>us[t]!.cs.map CW.v:=by
  intro t ht;rcases cQ t us.length with h1|h1
  .obtain⟨_,vs,hvs,e⟩:=hu.body t ht h1;dsimp only;rw[e,List.map_map,show(CW.v∘aY)=id from rfl,List.map_id];exact hvs
  .dsimp only;rw[qN h1];exact JS (List.nil_sublist _)
 have hf:=xA (n:=us.length) (vs:=fun t=>us[t]!.cs.map CW.v) (ft:=fun t=>us[t]!.feat) h8.1 hv hu.first (us.length-1) 1 (ax g1 us.length (fun t=>us[t]!.cs.map CW.v) 3).2 (cj (fun t=>us[t]!.cs) 0 [⟨zV,-1,.sl (ax g1 us.length (fun t=>us[t]!.cs.map CW.v) 3).1,.nil⟩]) ae ae (by
  intro t;unfold cj;split
  .rename_i e;subst e;refine⟨by rw[h0];rfl,fun c hc=>?_⟩;obtain rfl:=bo.1 hc;have hg:=xu (g:=g1) h8.1 hv (most:=3) b7;exact tM hg.1 (by have:=hg.2;simp only[CW.p,NF.p];omega) (fun w hw=>by cases hw) (by simp[CW.p,BF.p])
  .rename_i e;refine⟨rfl,fun c hc=>?_⟩;replace hc:c∈us[t]!.cs:=hc;rw[hraw t ae]at hc;obtain⟨v,_,rfl⟩:=ec.1 hc;exact Js v)
 have hus:(dS ks few).us=(List.range us.length).map fun t=>(⟨us[t]!.name,us[t]!.feat,(mY us g1 t).map CW.p⟩:bQ):=by
  unfold dS;rw[h]
 have hlen:(dS ks few).us.length=us.length:=by rw[hus];simp
 have hget:∀t,t<us.length->(dS ks few).us[t]! =⟨us[t]!.name,us[t]!.feat,(mY us g1 t).map CW.p⟩:=by
  intro t ht;rw[hus];simp[List.getElem!_eq_getElem?_getD,ht]
 have hfin:∀t,(mY us g1 t).map CW.v=us[t]!.cs.map CW.v/\∀c∈mY us g1 t,ru us.length c:=fun t=>hf t
 have hvm:∀t,((mY us g1 t).map CW.p).map dI.v=us[t]!.cs.map CW.v:=fun t=>by rw[List.map_map,<-(hfin t).1];rfl
 have hcl:∀t,((mY us g1 t).map CW.p).length=us[t]!.cs.length:=fun t=>by
  have:=bS List.length (hvm t);simpa using this
 have hsm:=o9 ks few;have hc0:us[0]!.cs.length=1:=by rw[h0];rfl
 refine⟨?_,fun x hx=>(hsm.1 x hx).1,by have:=hsm.2;omega,ae,by rw[hget 0 ae];dsimp only;rw[hcl,hc0];exact aE _⟩;unfold nH DB;rw[hlen,cv (show 1<=us.length by omega),cv (show us.length<=48 by omega),hget 0 ae,hu.head];dsimp only;rw[hcl,hc0];simp only[decide_true,jQ];rw[cA];intro t _ ht;unfold sZ;rw[hget t ht,hlen];dsimp only;have h16:((mY us g1 t).map CW.p).length<=16:=by
  have:=(hsm.1 _ (aj (show t<(dS ks few).us.length by omega))).1;rw[hget t ht]at this;exact this
 rw[cv h16];have hcand:dj (qG (us.length:Int) ((mY us g1 t).map CW.p)) 0 ((mY us g1 t).map CW.p).length=true:=by
  rw[cA];intro k _ hk;have hkv:∀j,j<((mY us g1 t).map CW.p).length->((mY us g1 t).map CW.p)[j]!.v=(us[t]!.cs.map CW.v)[j]! :=by
   intro j hj;rw[<-hvm t,vc hj]
  unfold qG;have hcl2:=hcl t;have hin:((mY us g1 t).map CW.p)[k]! ∈(mY us g1 t).map CW.p:=aj hk;obtain⟨c,hc,e⟩:=ec.1 hin;have hcb:nq (us.length:Int) ((mY us g1 t).map CW.p)[k]! =true:=by rw[<-e];exact(hfin t).2 c hc
  rw[hcb,eZ];rcases Nat.eq_zero_or_pos t with rfl|ht0
  .have hk0:k=0:=ae;subst hk0;rw[hkv 0 hk,h0];rfl
  .have hvs:=hv t ht0;dsimp only at hvs;have hkl:k<(us[t]!.cs.map CW.v).length:=by rw[aK];omega
   rw[hkv k hk,(zN _ (A1 hvs _ (aj hkl))).2];by_cases hk0:0<k
   .have h4:(us[t]!.cs.map CW.v).length<=4:=(vZ _ hvs).length_le;have:=LO _ hvs k ae hk0 hkl;rw[hkv (k-1) ae,cE (show ¬0<=kY (us[t]!.cs.map CW.v)[k-1]! (us[t]!.cs.map CW.v)[k]! by omega)];simp
   .rw[cE hk0];rfl
 rw[hcand];rcases Nat.eq_zero_or_pos t with rfl|ht0
 .simp
 .have hnm:=(hu.body t ht0 ht).1;rw[cE hnm,Bool.and_false];by_cases h1:1<t
  .rw[hget (t-1) ae];have:=hu.chain t ae ht;rw[show yg ⟨us[t-1]!.name,us[t-1]!.feat,(mY us g1 (t-1)).map CW.p⟩ ⟨us[t]!.name,us[t]!.feat,(mY us g1 t).map CW.p⟩=true from this];simp
  .rw[cE h1];rfl
def O9 (w:bT):Prop:=(w.sm/\PW w)/\Mt w.us
def wj (ks:List Int)(few:Int):O9 (dS ks few):=by
 obtain⟨h1,h2⟩:=x8 ks few;refine⟨⟨(o9 ks few).1,h2⟩,fun x hx c hc=>?_⟩;obtain⟨t,ht,rfl⟩:=List.mem_iff_getElem.1 hx;obtain⟨k,hk,rfl⟩:=List.mem_iff_getElem.1 hc;unfold nH at h1;rw[bm,cA]at h1;have h3:=h1.2 t ae ht;unfold sZ at h3;rw[bm,cA]at h3;rw[show(dS ks few).us[t]! =(dS ks few).us[t]by simp[ht]]at h3;have h4:=h3.2 k ae hk;unfold qG at h4;rw[show((dS ks few).us[t]).cands[k]! =((dS ks few).us[t]).cands[k]by simp[hk]]at h4;simp only[bm]at h4;have h5:=h4.1.2;unfold nq at h5;simp only[bm,bL]at h5;refine⟨ae,ae,fun r hr=>?_⟩;obtain⟨q,hq,rfl⟩:=List.mem_iff_getElem.1 hr;have h6:=h5.1.2;rw[cA]at h6;have h7:=h6 q ae hq;unfold oB at h7;simp only[hq,getElem!_pos,bm,bL]at h7;omega
def Du {us:List bQ}{allow:List Int}{rows:List av}(h48:us.length<=48)(h:kA us allow rows):∀x∈rows,x.terms.length<=48:=fun x hx=>eK (JW (h x hx).1) h48
def v7 {α:Type} [Inhabited α]{l:List α}{q:Nat}(h:q<l.length):(l.take (q+1)).drop q=[l[q]!]:=by
 rw[<-ez h,List.drop_append_of_le_length (by rw[fo];omega),mf (by rw[fo];omega)];rfl
def Hx (w:bT)(al c:List Int)(k:Nat)(now:Int)(R:List av):Prop:=fj w al R/\(k=0/\now=-1\/0<k/\(0<=now/\now<R.length)/\zr w.us c k R[now.toNat]!.terms)/\R.length<=5100+2*k
def tc (w:bT)(al:List Int)(facts:List av)(c:List Int)(rows:List av):Prop:=((w.sm/\ry w.us/\w.us.length<=48)/\kA w.us al facts)/\(Hn w.us c/\fj w al rows)/\rows.length<=100000
def xx {w:bT}{al:List Int}{facts:List av}{c:List Int}{rows:List av}(h:tc w al facts c rows):(eL w.us facts c rows).2.length<=max (rows.length+1) 4921:=by
 have h1:=Al (us:=w.us) (facts:=facts) h.1.1.2.1 (w.us.length-c.length) c rows (by have:=h.2.1.1.1;omega);have h2:=h.1.1.2.2;unfold eL;omega
def Ak {w:bT}{al:List Int}{facts:List av}{c:List Int}{rows:List av}(h:tc w al facts c rows):zl w al c rows (eL w.us facts c rows):=
 yF h.1.1.2.1 h.1.2 _ c rows (by have:=h.2.1.1.1;omega) h.2.1.1 h.2.1.2
def tc.app {w:bT}{al:List Int}{facts:List av}{c:List Int}{rows R:List av}{k:Nat}(h:tc w al facts c rows)(hl:c.length<w.us.length)(hk:k<w.us[c.length]!.cands.length+1){now:Int}(hI:Hx w al c k now R):tc w al facts (c++[((k:Nat):Int) -1]) R:=by
 have h16:=h.1.1.2.1 _ (aj hl);exact⟨h.1,⟨h.2.1.1.app hl ae ae,hI.1⟩,by have:=hI.2.2;omega⟩
def JQ {w:bT}{al:List Int}{facts:List av}{c:List Int}{rows R:List av}{k:Nat}{now:Int}(h:tc w al facts c rows)(hl:c.length<w.us.length)(hk:k<w.us[c.length]!.cands.length+1)(hI:Hx w al c k now R){r:Int×List av}(hr:eL w.us facts (c++[((k:Nat):Int) -1]) R=r):
  r.2.length<=5101+2*k/\(0<=r.1->r.1<r.2.length/\(now<r.2.length)/\(now<0->Hx w al c (k+1) r.1 r.2)/\(0<=now->Hx w al c (k+1) ((r.2.length:Nat):Int) (r.2++[iv w.us c.length now r.1 r.2]))):=by
 have hP:=h.app hl hk hI;have hE:=Ak hP;have hL:=xx hP;rw[hr]at hE hL;obtain⟨hs,h48⟩:=h.1.1.2;have h3:=hI.2.2;refine⟨ae,fun h0=>?_⟩;obtain⟨e1,⟨more,e2⟩,e3,e4⟩:=hE;obtain⟨e5,e6⟩:=e4 h0;have e7:=JO e6;rw[show(((k:Nat):Int) -1+1).toNat=k by omega]at e7;have hlen:r.2.length=R.length+more.length:=by rw[e2,cK]
 refine⟨e5, ?_,fun hn=>?_,fun hn=>?_⟩
 .rcases hI.2.1 with h1|h1<;>omega
 .obtain⟨rfl,_⟩:k=0/\now=-1:=by
   rcases hI.2.1 with h|h
   .exact h
   .omega
  exact⟨e1,.inr ⟨ae,⟨h0,e5⟩,e7.1,e7.2.1,e7.2.2.1,fun j hj=>by obtain rfl:j=0:=ae;exact e7.2.2.2⟩,ae⟩
 .obtain⟨hk0,hnw,hnr⟩:0<k/\(0<=now/\now<R.length)/\zr w.us c k R[now.toNat]!.terms:=by
   rcases hI.2.1 with h|h
   .omega
   .exact h
  have hget:r.2[now.toNat]! =R[now.toNat]! :=by rw[e2];exact tI ae
  obtain⟨j1,j2⟩:=xm (x:=r.1) (now:=now) hs hl h.2.1.1 e1 ⟨hnw.1,ae⟩ ⟨h0,e5⟩ hk0 (by rw[hget];exact hnr) e7;refine⟨j1,.inr ⟨ae,⟨ae,by simp only[cK,List.length_singleton];omega⟩,by rw[Int.toNat_natCast,mj];exact j2⟩, ?_⟩;simp only[cK,List.length_singleton];omega
def Cl {us:List bQ}{facts:List av}{c:List Int}{rows:List av}(h:eH us facts c<facts.length):eL us facts c rows=(((rows.length:Nat):Int),rows++[facts[eH us facts c]!]):=by
 unfold eL;cases us.length-c.length<;>rw[kC,aw h]
def Cn {us:List bQ}{facts:List av}{c:List Int}{rows:List av}(h:¬eH us facts c<facts.length)(hs:c.length=us.length\/3000<rows.length):eL us facts c rows=(-1,rows):=by
 unfold eL;rcases hs with hs|hs
 .rw[show us.length-c.length=0 by omega,kC,ai h]
 .cases us.length-c.length<;>rw[kC,ai h];rw[aw hs]
def rh (us:List bQ)(facts:List av)(c:List Int)(k:Nat)(now:Int)(R:List av):Int×List av:=nu us c.length (kC us facts (us.length-(c.length+1))) c (us[c.length]!.cands.length+1-k) (((k:Nat):Int) -1) now R
def Cm {us:List bQ}{facts:List av}{c:List Int}{rows:List av}(h:¬eH us facts c<facts.length)(hl:c.length<us.length)(hr:¬3000<rows.length):eL us facts c rows=rh us facts c 0 (-1) rows:=by
 unfold eL rh;rw[show us.length-c.length=us.length-(c.length+1)+1 by omega,kC,ai h,ai hr];rfl
def GU {us:List bQ}{facts:List av}{c:List Int}{k:Nat}{now:Int}{R:List av}(h:us[c.length]!.cands.length+1<=k):rh us facts c k now R=(now,R):=by
 unfold rh;rw[show us[c.length]!.cands.length+1-k=0 by omega,nu]
def JP {us:List bQ}{facts:List av}{c:List Int}{k:Nat}{now:Int}{R:List av}(h:k<us[c.length]!.cands.length+1){r:Int×List av}(hr:eL us facts (c++[((k:Nat):Int) -1]) R=r):rh us facts c k now R=
  if r.1<0 then(-1,r.2)else if aQ us r.2[r.1.toNat]!.terms ((c.length:Nat):Int)=bU us ((c.length:Nat):Int)then r else if now<0 then rh us facts c (k+1) r.1 r.2
  else if aQ us (iv us c.length now r.1 r.2).terms ((c.length:Nat):Int)=bU us ((c.length:Nat):Int)then(((r.2.length:Nat):Int),r.2++[iv us c.length now r.1 r.2])else rh us facts c (k+1) ((r.2.length:Nat):Int) (r.2++[iv us c.length now r.1 r.2]):=by
 have e:kC us facts (us.length-(c.length+1)) (c++[((k:Nat):Int) -1]) R=r:=by
  rw[<-hr];unfold eL;rw[cK,List.length_singleton]
 unfold rh;rw[show us[c.length]!.cands.length+1-k=us[c.length]!.cands.length+1-(k+1)+1 by omega,nu,e,show((k:Nat):Int) -1+1=((k+1:Nat):Int) -1 by omega]
def Oa {m:List (Nat×bM)}(x:av):Hf m [.a,.a,.a,.a,.sl 2 [.a,.a]] (av.D x):=⟨rfl,rfl,rfl,rfl,rfl,rfl⟩
def Oz {m:List (Nat×bM)}{lp ln:Nat}{w:bT}{facts rows:List av}{c:List Int}{su:List Sh}(h1:look m lp=some (.buf 3 [kj.D ⟨w,facts,.own ln 5 0 rows.length⟩]))(h2:look m ln=some (.buf 5 (rows.map av.D))):
  jm m [[.pt [.sl 3 su,.sl 5 [.a,.a,.a,.a,.sl 2 [.a,.a]],.sl 5 [.a,.a,.a,.a,.sl 2 [.a,.a]]]],[.sl 1 [.a]]] [.ptr lp 3 0 0,.sl 1 (c.map (D.int .i64))]:=by
 refine⟨⟨by simp[eg,h1], ?_⟩,rfl,trivial⟩;intro e he;simp only[aW,h1,bo]at he;subst he;refine⟨rfl,rfl,⟨by simp[eg,h2], ?_⟩,rfl⟩;simp only[aW,h2,bl,az];intro e he;obtain⟨x,_,rfl⟩:=ec.1 he;exact Oa x
def RH {a b:Int}(h0:0<=a)(h1:a<=131071):0<=iF a b/\iF a b<=131071:=by
 obtain⟨n,rfl⟩:∃n:Nat,a=(n:Int):=⟨a.toNat,ae⟩
 have h:(BitVec.ofInt 64 (n:Int)&&&BitVec.ofInt 64 b).toNat<=n:=by
  rw[BitVec.toNat_and];refine eK Nat.and_le_left ?_;rw[BitVec.toNat_ofInt];omega
 unfold iF;rw[wrap_i64 ae ae];omega
def BG (w:bT)(al:List Int):fj w al []:=fun i hi=>by cases hi
def KA (us:List bQ):Hn us []:=⟨Nat.zero_le _,fun u hu=>by cases hu⟩
def II {w:bT}{al:List Int}(h:O9 w):tc w al (kq w.us al) [] []:=by
 obtain⟨⟨h1,h2,h3,h4,h5⟩,_⟩:=h;exact⟨⟨⟨h1,h2,h3⟩,zP h2 h3 h4 h5⟩,⟨KA _,BG _ _⟩,Nat.zero_le _⟩
def MV (r:av):av:=⟨r.kind,r.unit,r.b,r.a,r.terms⟩
def Hz (L R:List av):Prop:=R.length=L.length/\∀k,k<L.length->R[k]! =L[k]! \/(L[k]!.kind=5/\R[k]! =MV L[k]!)
def AX {xs:List av}{i u:Nat}{v:av}(hu:u<xs.length):(xs.set i v)[u]! =if i=u then v else xs[u]! :=by
 simp only[List.getElem!_eq_getElem?_getD,List.getElem?_set];split
 .rename_i h;subst h;rw[aw hu];rfl
 .rfl
def Hz.step {L R:List av}{i:Nat}(h:Hz L R)(hi:i<L.length)(hk:R[i]!.kind=5):Hz L (R.set i (MV R[i]!)):=by
 refine⟨by rw[List.length_set];exact h.1,fun k hk2=>?_⟩;rw[AX (by rw[h.1];exact hk2)];split
 .rename_i e;subst e;rcases h.2 i hi with h1|⟨h1,h2⟩
  .exact .inr ⟨by rw[<-h1];exact hk,by rw[h1]⟩
  .exact .inl (by rw[h2];rfl)
 .exact h.2 k hk2
def LW {w:bT}{al:List Int}{l:List av}(h:fj w al l):RowsIn l:=by
 intro r hr t ht;obtain⟨i,hi,rfl⟩:=List.mem_iff_getElem.1 hr;have hv:=qi h hi;simp only[hi,getElem!_pos]at hv;exact zb ((e9.1 hv).1 t ht)
end
def iPrv (a b:kj):kj.D a=kj.D b↔a=b:=by
 obtain⟨⟨x⟩,y,z⟩:=a;obtain⟨⟨x'⟩,y',z'⟩:=b;simp[kj.D,DE,BW]
def zH {a b:Int}(h:FU a b=0){i:Nat}(ha:bt a i=true):bt b i=true:=by
 have h2:BitVec.ofInt 64 (FU a b)=BitVec.ofInt 64 0:=by rw[h]
 unfold FU at h2;rw[ua,ofInt_toInt]at h2;have h3:=bS (fun x:BitVec 64=>x.getLsbD i) h2;simp only[BitVec.getLsbD_and,BitVec.getLsbD_not]at h3;unfold bt at*
 by_cases hi:i<64
 .rw[ha]at h3;simp[hi]at h3;exact h3
 .rw[BitVec.getLsbD_of_ge _ _ ae]at ha;cases ha
def Pp (us:List bQ)(κ:Nat->Nat)(l:List a8):Prop:=∀u,u<us.length->bt (aQ us l ((u:Nat):Int)) (κ u)=true
def BD (us:List bQ)(κ:Nat->Nat)(x:Want):Prop:=bt (eQ us x) (κ x.u.toNat)=true
structure Hy (us:List bQ)(κ:Nat->Nat):Prop where
 pos:0<us.length
 root:κ 0≠0
 le:∀u,u<us.length->κ u<=us[u]!.cands.length
 needs:∀u,u<us.length->κ u≠0->∀r∈us[u]!.cands[κ u-1]!.needs,∃x∈r,BD us κ x
 bars:∀u,u<us.length->κ u≠0->∀x∈us[u]!.cands[κ u-1]!.bars,¬BD us κ x
 inU:∀u,u<us.length->κ u≠0->(∀r∈us[u]!.cands[κ u-1]!.needs,∀x∈r,0<=x.u/\x.u<us.length)/\∀x∈us[u]!.cands[κ u-1]!.bars,0<=x.u/\x.u<us.length
def Bz (al:List Int)(κ:Nat->Nat):Prop:=∀u,u<al.length->bt al[u]! (κ u)=true
def NY {i:Nat}(h:bt 1 i=true):i=0:=by
 have:=mR (k:=0) b7 i;rw[show(2:Int)^0=1 from rfl]at this;rw[this]at h;simpa using h
def KU {k i:Nat}(hk:k<=40)(h:i=k):bt (2^k) i=true:=by
 rw[mR hk];simpa using h
def K9 {us:List bQ}{l:List a8}{u:Int}(ht:fh us l=true)(h:uM l u=true):0<=u/\u<us.length:=by
 rcases n9 us u l 0 with⟨_,h2,_⟩|⟨j,h1,_,h3,_,_⟩
 .rw[h2]at h;cases h
 .have:=sB (zc ht h1);rw[h3]at this;exact this
def LX {us:List bQ}{κ:Nat->Nat}{row:av}{u:Nat}{mild:Bool}(hs:∀x∈us,x.cands.length<=16)(hS:Hy us κ)(hu:row.unit=((u:Nat):Int))(hul:u<us.length)(hk:κ u≠0)(hA:Pp us κ row.terms):lq us row (κ u-1) mild=false:=by
 have hle:=hS.le u hul;have h16:=hs _ (aj hul);have hto:row.unit.toNat=u:=by rw[hu];exact Int.toNat_natCast u
 have hpw:(((κ u-1:Nat):Int)+1).toNat=κ u:=ae;cases e:lq us row (κ u-1) mild with
 |false=>rfl
 |true=>
  exfalso;unfold lq at e;rw[hto]at e;cases mild with
  |true=>
   rw[aw rfl,List.any_eq_true]at e;obtain⟨x,hx,he⟩:=e;have hno:=hS.bars u hul hk x hx;have hin:=(hS.inU u hul hk).2 x hx;unfold fB at he;rw[aw rfl]at he;unfold sX at he;split at he
   .rename_i hxu;rw[bL,hpw,HN]at he;obtain⟨i,h1,h2⟩:=he;rw[mR ae]at h2;have:i=κ u:=by simpa using h2
    subst this;refine hno ?_;unfold BD;rw[hxu,hto];exact h1
   .rw[bL]at he;refine hno ?_;unfold BD;refine zH he ?_;have:=hA x.u.toNat ae;rw[Int.toNat_of_nonneg hin.1]at this;exact this
  |false=>
   rw[ai b7,List.any_eq_true]at e;obtain⟨r,hr,he⟩:=e;obtain⟨x,hx,hm⟩:=hS.needs u hul hk r hr;have hin:=(hS.inU u hul hk).1 r hr x hx;unfold gF at he;have hl:fB false us row ((κ u-1:Nat):Int) x=false:=by
    cases e2:fB false us row ((κ u-1:Nat):Int) x with
    |false=>rfl
    |true=>rw[List.any_eq_true.2 ⟨x,hx,e2⟩]at he;cases he
   unfold fB at hl;rw[ai b7,pG]at hl;unfold sQ at hl;unfold BD at hm;split at hl
   .rename_i hxu;rw[bL,hpw,jc]at hl;rw[hxu,hto]at hm;exact hl (κ u) ⟨hm,KU ae rfl⟩
   .rw[bL,jc]at hl;have:=hA x.u.toNat ae;rw[Int.toNat_of_nonneg hin.1]at this;exact hl _ ⟨hm,this⟩
def CV {w:bT}{al:List Int}{rows:List av}{κ:Nat->Nat}(hs:∀x∈w.us,x.cands.length<=16)(h:fj w al rows)(hS:Hy w.us κ)(hL:Bz al κ):∀i,i<rows.length->¬Pp w.us κ rows[i]!.terms:=by
 intro i;induction i using Nat.strongRecOn with
 |ind i ih=>
  intro hi hA;have hv:=h i hi;unfold dE at hv;simp only[Int.toNat_natCast,bm,bL]at hv;obtain⟨⟨_,ht⟩,hk⟩:=hv;unfold lK at hk;by_cases k5:rows[i]!.kind=5
  .rw[aw k5]at hk;unfold nW at hk;simp only[bm,bL]at hk;obtain⟨⟨⟨⟨q1,q2⟩,q3⟩,_⟩,q8⟩:=hk;rw[cA]at q8;obtain⟨un,hun⟩:∃un:Nat,rows[i]!.unit=((un:Nat):Int):=⟨rows[i]!.unit.toNat,by have:=tQ q1;omega⟩
   have hunl:un<w.us.length:=by have:=tQ q1;omega
   have key:∀u,u<w.us.length->bt (if((u:Nat):Int)=rows[i]!.unit then te (aQ w.us rows[rows[i]!.a.toNat]!.terms ((u:Nat):Int)) (aQ w.us rows[rows[i]!.b.toNat]!.terms ((u:Nat):Int))else iF (aQ w.us rows[rows[i]!.a.toNat]!.terms ((u:Nat):Int)) (aQ w.us rows[rows[i]!.b.toNat]!.terms ((u:Nat):Int))) (κ u)=true:=fun u hu=>by
    have h1:=q8 u (Nat.zero_le _) hu;unfold qA at h1;rw[bL]at h1;exact zH h1 (hA u hu)
   have hoth:∀u,u<w.us.length->u≠un->bt (aQ w.us rows[rows[i]!.a.toNat]!.terms ((u:Nat):Int)) (κ u)=true/\bt (aQ w.us rows[rows[i]!.b.toNat]!.terms ((u:Nat):Int)) (κ u)=true:=fun u hu hne=>by
    have h1:=key u hu;rw[ai (by rw[hun];omega),kX,bm]at h1;exact h1
   have h1:=key un hunl;rw[aw hun.symm,sG,en]at h1;rcases h1 with h1|h1
   .refine ih rows[i]!.a.toNat ae ae fun u hu=>?_
    by_cases e:u=un
    .subst e;exact h1
    .exact(hoth u hu e).1
   .refine ih rows[i]!.b.toNat ae ae fun u hu=>?_
    by_cases e:u=un
    .subst e;exact h1
    .exact(hoth u hu e).2
  .rw[ai k5]at hk;simp only[bm]at hk;have hk:=hk.2;by_cases k1:rows[i]!.kind=1
   .rw[aw k1]at hk;simp only[bm,bL]at hk;have h1:=hA 0 hS.pos;rw[show(((0:Nat):Int))=0 from rfl,hk.2]at h1;exact hS.root (NY h1)
   rw[ai k1]at hk;by_cases k2:rows[i]!.kind=2\/rows[i]!.kind=3
   .rw[aw k2]at hk;unfold iD at hk;simp only[bm,bL]at hk;obtain⟨⟨q1,q2⟩,q3⟩:=hk;have hin:=K9 ht q1;obtain⟨un,hun⟩:∃un:Nat,rows[i]!.unit=((un:Nat):Int):=⟨rows[i]!.unit.toNat,ae⟩
    have hunl:un<w.us.length:=ae;have h1:=hA un hunl;rw[hun]at q2 q3;rw[Int.toNat_natCast,cA]at q3;have hk0:κ un≠0:=fun e=>by
     rw[e]at h1;exact(jc.1 q2) 0 ⟨h1,KU (k:=0) b7 rfl⟩
    have hle:=hS.le un hunl;have h16:=hs _ (aj hunl);have h2:=q3 (κ un-1) (Nat.zero_le _) ae;rw[LX hs hS hun hunl hk0 hA,Bool.or_false,bL,jc]at h2;exact h2 (κ un) ⟨h1,KU ae ae⟩
   rw[ai k2]at hk;by_cases k4:rows[i]!.kind=4
   .rw[aw k4]at hk;unfold ux at hk;simp only[bm,bL]at hk;obtain⟨⟨q1,q2⟩,q3⟩:=hk;have hin:=tQ q1;obtain⟨un,hun⟩:∃un:Nat,rows[i]!.unit=((un:Nat):Int):=⟨rows[i]!.unit.toNat,ae⟩
    rw[hun]at q2 q3;rw[Int.toNat_natCast]at q3;exact(jc.1 q3) (κ un) ⟨hA un ae,hL un ae⟩
   .rw[ai k4]at hk;cases hk
def IF {w:bT}{al:List Int}{rows:List av}{κ:Nat->Nat}(hs:∀x∈w.us,x.cands.length<=16)(h:fj w al rows)(hS:Hy w.us κ)(hL:Bz al κ)(h0:0<rows.length):rows[rows.length-1]!.terms≠[]:=fun e=>by
 refine CV hs h hS hL (rows.length-1) ae ?_;rw[e];intro u hu;show bt (bU w.us ((u:Nat):Int)) (κ u)=true;rw[kG hu hs];simpa using hS.le u hu
def qv {f:Nat->Bool}:∀k i,¬fw f k i<i+k->∀j,i<=j->j<i+k->f j=true
 |0,i,_,j,h1,h2=>ae
 |k+1,i,h,j,h1,h2=>by
  rw[fw]at h;split at h
  .rename_i e;by_cases q:j=i
   .subst q;exact e
   .exact qv k (i+1) (by rw[show i+1+k=i+(k+1)by omega];exact h) j ae ae
  .omega
def FW {w:bT}{allow:List Int}{l:List av}(h:(ig (okW w allow) (fun j=>dE ⟨w,allow,l⟩ ((j:Nat):Int)) l).2=true):okW w allow=true/\fj w allow l/\0<l.length/\l[l.length-1]!.terms=[]:=by
 unfold ig at h;split at h
 .cases h
 .rename_i hok;split at h
  .cases h
  .rename_i hb;simp only[bm,bL]at h;refine⟨by simpa using hok,fun i hi=>qv l.length 0 (by rw[aO];exact hb) i (Nat.zero_le _) ae,h.1,iO h.2⟩
def HU {w:bT}{al:List Int}{rows:List av}{κ:Nat->Nat}(hs:∀x∈w.us,x.cands.length<=16)(hS:Hy w.us κ)(hL:Bz al κ):(ig (okW w al) (fun j=>dE ⟨w,al,rows⟩ ((j:Nat):Int)) rows).2=false:=by
 cases e:(ig (okW w al) (fun j=>dE ⟨w,al,rows⟩ ((j:Nat):Int)) rows).2 with
 |false=>rfl
 |true=>
  obtain⟨_,h1,h2,h3⟩:=FW e;exact absurd h3 (IF hs h1 hS hL h2)
end Go.Abs
