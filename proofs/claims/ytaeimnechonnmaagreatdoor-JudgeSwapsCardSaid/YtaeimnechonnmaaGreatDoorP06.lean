/- A part of the proofs. -/
import Derived.Test.YtaeimnechonnmaaGreatDoorP05
set_option linter.all false
set_option maxRecDepth 4000
namespace Go.Abs
def RU.raw (u:RU):Prop:=∃vs:List a7,u.cs=vs.map aM/\vs.length<=4/\∀v∈vs,v.sm
def yr (m:Int)(a b:dk):(⟨a,b,(bg m 4).map aM⟩:RU).raw:=⟨_,rfl,jW m 4,pn m 4 (aJ _)⟩
def vK (vs:List a7):∀r g acc,(∀v∈acc,v∈vs)->r<=vs.length->∀v∈(eM vs r g acc).1,v∈vs
 |0,g,acc,h,_=>h
 |r+1,g,acc,h,hr=>by
  rw[eM];refine vK vs r _ _ ?_ ae;intro v hv;split at hv
  .rcases List.mem_append.1 hv with hv|hv
   .exact h v hv
   .obtain rfl:=bl.1 hv;exact aj ae
  .exact h v hv
def FQ (m:Int)(g:Gs)(a b:dk):(⟨a,b,(eM (bg m 4) (bg m 4).length g []).1.map aM⟩:RU).raw:=by
 refine⟨_,rfl, ?_,fun v hv=>pn m 4 (aJ _) v (vK _ _ _ _ (fun _ h=>by cases h) (aJ _) v hv)⟩;have:=vJ (bg m 4) (bg m 4).length g [];have:=jW m 4;simp only[cd]at*;omega
def BV (vs:List a7):∀r g acc,(eM vs r g acc).2.i=g.i+r
 |0,g,acc=>by simp[eM]
 |r+1,g,acc=>by rw[eM,BV vs r];simp only[Gs.bo];omega
def lH (few:Int):∀(r:Nat) (g:Gs) (us:List RU),r<=5->∃more,(eC few r g us).1=us++more/\(∀u∈more,u.raw)/\more.length<=r+(r-3)/\g.i<=(eC few r g us).2.i/\(eC few r g us).2.i<=g.i+10*r+1
 |0,g,us,_=>⟨[],by simp[eC],bc,bc,by simp only[eC,Gs.bo];omega,by simp only[eC,Gs.bo];omega⟩
 |r+1,g,us,hr=>by
  rw[eC];split
  .split
   .rename_i h1 h2;have hf:=BV (bg (g.bo.val 16) 4) (bg (g.bo.val 16) 4).length g.ed [];have hb:=jW (g.bo.val 16) 4;obtain⟨more,e,hm,hl,hi1,hi2⟩:=lH few r (eM (bg (g.bo.val 16) 4) (bg (g.bo.val 16) 4).length g.ed []).2 ((us++[⟨bq[4-r]!,[],(bg (g.bo.val 16) 4).map aM⟩])++[⟨bq[4-r]!,[102],(eM (bg (g.bo.val 16) 4) (bg (g.bo.val 16) 4).length g.ed []).1.map aM⟩]) ae;refine⟨_::_::more,by rw[e];simp only[kY,List.singleton_append];rfl, ?_, ?_, ?_, ?_⟩
    .intro u hu;rcases dq.1 hu with rfl|hu
     .exact yr _ _ _
     .rcases dq.1 hu with rfl|hu
      .exact FQ _ _ _ _
      .exact hm u hu
    .simp only[bR];omega
    .rw[hf]at hi1;simp only[Gs.ed,Gs.bo]at*;omega
    .rw[hf]at hi2;simp only[Gs.ed,Gs.bo]at*;omega
   .have hg:g.i+2<=(if 4-r<2 then g.ed else g.bo.bo).i/\(if 4-r<2 then g.ed else g.bo.bo).i<=g.i+3:=by
     split<;>simp only[Gs.ed,Gs.bo]<;>omega
    obtain⟨more,e,hm,hl,hi1,hi2⟩:=lH few r (if 4-r<2 then g.ed else g.bo.bo) (us++[⟨bq[4-r]!,[],(bg (g.bo.val 16) 4).map aM⟩]) ae;refine⟨_::more,by rw[e];simp only[kY,List.singleton_append];rfl, ?_, ?_, ?_, ?_⟩
    .intro u hu;rcases dq.1 hu with rfl|hu
     .exact yr _ _ _
     .exact hm u hu
    .simp only[bR];omega
    .omega
    .omega
  .refine⟨[],bc,bc,bc, ?_, ?_⟩<;>simp only[Gs.bo]<;>omega
def Bq {g:Gs}{few:Int}:2<=(dZ g few).1.length:=by
 have hv:=g.wD few;have h:(0:Int)<1+g.val few:=ae;unfold dZ;rw[show 5=4+1 from rfl,eC,aw (by simpa using h)];split
 .obtain⟨more,e,_⟩:=lH few 4 (eM (bg (g.bo.val 16) 4) (bg (g.bo.val 16) 4).length g.ed []).2 ((rY++[⟨bq[4-4]!,[],(bg (g.bo.val 16) 4).map aM⟩])++[⟨bq[4-4]!,[102],(eM (bg (g.bo.val 16) 4) (bg (g.bo.val 16) 4).length g.ed []).1.map aM⟩]) ae;rw[e];simp[rY]
 .obtain⟨more,e,_⟩:=lH few 4 (if 4-4<2 then g.ed else g.bo.bo) (rY++[⟨bq[4-4]!,[],(bg (g.bo.val 16) 4).map aM⟩]) ae;rw[e];simp[rY]
def wB {g:Gs}{few:Int}:∃more,(dZ g few).1=rY++more/\(∀u∈more,u.raw)/\(1<=more.length/\more.length<=7)/\g.i<=(dZ g few).2.i/\(dZ g few).2.i<=g.i+51:=by
 obtain⟨more,e,hm,hl,h1,h2⟩:=lH few 5 g rY ae;have h3:=Bq (g:=g) (few:=few);unfold dZ at*
 rw[e]at h3⊢;refine⟨more,rfl,hm,⟨?_,ae⟩,h1,ae⟩;simp only[rY,cD,List.length_singleton]at h3;omega
def mA (h:Gs)(n:Nat)(vs:Nat->List a7)(i:Nat)(f:dk)(v:a7):List kp:=(if f=[]then []else [[⟨(i:Int) -1,bE v⟩]])++(ax h n vs 2).1
def fO (h:Gs)(n:Nat)(vs:Nat->List a7)(i:Nat)(f:dk)(v:a7):CW×Gs:=
 if(ax h n vs 2).2.val 4=0 then(⟨v,0,.sl (mA h n vs i f v),.sl [cu (ax h n vs 2).2.bo n vs]⟩,(ax h n vs 2).2.bo.ed)
 else(⟨v,0,.sl (mA h n vs i f v),.nil⟩,(ax h n vs 2).2.bo)
def dJ (n:Nat)(vs:Nat->List a7)(i:Nat)(f:dk):List a7->Gs->List CW×Gs
 |[],h=>([],h)
 |v::r,h=>((fO h n vs i f v).1::(dJ n vs i f r (fO h n vs i f v).2).1,(dJ n vs i f r (fO h n vs i f v).2).2)
def bO (cs:Nat->List CW)(i:Nat)(x:List CW)(t:Nat):List CW:=if t=i then x else cs t
def iB (n:Nat)(vs:Nat->List a7)(ft:Nat->dk):Nat->Nat->Gs->(Nat->List CW)->Nat->List CW
 |0,_,_,cs=>cs
 |r+1,i,h,cs=>iB n vs ft r (i+1) (dJ n vs i (ft i) (vs i) h).2 (bO cs i (dJ n vs i (ft i) (vs i) h).1)
def xn (n:Nat)(vs:Nat->List a7):∀k g acc,g.i<=(iA n vs k g acc).2.i/\(iA n vs k g acc).2.i<=g.i+7*k
 |0,g,acc=>by simp[iA]
 |k+1,g,acc=>by
  rw[iA];split
  .have:=xn n vs k g.ed.bo.ed (acc++[[cu g n vs,cu g.ed.bo n vs]]);simp only[Gs.ed,Gs.bo]at*;omega
  .have:=xn n vs k g.ed.bo (acc++[[cu g n vs]]);simp only[Gs.ed,Gs.bo]at*;omega
def tQ {g:Gs}{n:Nat}{vs:Nat->List a7}{most:Int}(h0:0<=most)(h3:most<=3):g.i<=(ax g n vs most).2.i/\(ax g n vs most).2.i<=g.i+22:=by
 have hv:=iC (x8 g.l g.i) (most+1) ae;have hv2:g.val (most+1)=fG (x8 g.l g.i) (most+1):=rfl;have:=xn n vs (g.val (most+1)).toNat g.bo [];unfold ax;simp only[Gs.bo]at*;omega
def BM {h:Gs}{n i:Nat}{vs:Nat->List a7}{f:dk}{v:a7}:h.i<=(fO h n vs i f v).2.i/\(fO h n vs i f v).2.i<=h.i+30:=by
 have:=tQ (g:=h) (n:=n) (vs:=vs) (most:=2) bJ bJ;unfold fO;split<;>simp only[Gs.ed,Gs.bo]<;>omega
def BN (h:Gs)(n i:Nat)(vs:Nat->List a7)(f:dk)(v:a7):(fO h n vs i f v).1.v=v/\(fO h n vs i f v).1.pl=true:=by
 unfold fO;split<;>exact⟨rfl,rfl⟩
def tq (n:Nat)(vs:Nat->List a7)(i:Nat)(f:dk):∀(l:List a7) (h:Gs),(dJ n vs i f l h).1.map CW.v=l/\(∀c∈(dJ n vs i f l h).1,c.pl=true)/\h.i<=(dJ n vs i f l h).2.i/\(dJ n vs i f l h).2.i<=h.i+30*l.length
 |[],h=>⟨rfl,(fun _ hc=>by cases hc),by simp[dJ],by simp[dJ]⟩
 |v::r,h=>by
  have ih:=tq n vs i f r (fO h n vs i f v).2;have h1:=BN h n i vs f v;have h2:=BM (h:=h) (n:=n) (i:=i) (vs:=vs) (f:=f) (v:=v);refine⟨by simp only[dJ,List.map_cons,h1.1,ih.1], ?_,by simp only[dJ];omega,by simp only[dJ,bR];omega⟩;intro c hc;simp only[dJ]at hc;rcases dq.1 hc with rfl|hc
  .exact h1.2
  .exact ih.2.1 c hc
def kj {cs:Nat->List CW}{i:Nat}{x:List CW}:bO cs i x i=x:=aw rfl
def xS {cs:Nat->List CW}{i t:Nat}{x:List CW}(h:t≠i):bO cs i x t=cs t:=ai h
def Mz {cs:Nat->List CW}{i:Nat}:bO cs i (cs i)=cs:=by
 funext t;unfold bO;split
 .rename_i h;rw[h]
 .rfl
def sB {cs:Nat->List CW}{i:Nat}{x y:List CW}:bO (bO cs i x) i y=bO cs i y:=by
 funext t;unfold bO;split<;>rfl
def n7 (vs:Nat->List a7)(B:Nat->List CW):Prop:=∀t,(B t).map CW.v=vs t/\∀c∈B t,c.pl=true
def n7.H4 {vs:Nat->List a7}{B:Nat->List CW}(h:n7 vs B){i:Nat}{x:List CW}(hv:x.map CW.v=vs i)(hp:∀c∈x,c.pl=true):n7 vs (bO B i x):=by
 intro t;unfold bO;split
 .rename_i e;subst e;exact⟨hv,hp⟩
 .exact h t
def n7.len {vs:Nat->List a7}{B:Nat->List CW}(h:n7 vs B):(fun j=>(B j).length)=fun j=>(vs j).length:=by
 funext j;rw[<-(h j).1,aS]
def n7.fX {vs:Nat->List a7}{B:Nat->List CW}(h:n7 vs B):fX B=vs:=by
 funext j;exact(h j).1
def FG {α:Type} [Inhabited α]{n l k i o:Nat}{ag:Bool}{q:α->D}{xs:List α}{m:List (Nat×bz)}{v:D}(hl:look m l=some (.buf k (xs.map q)))(hi:i<xs.length)(hv:oc (q xs[i]!) k n o ag=v)(ho:o+n<=k):xh m n (.ptr l k i o)/\uU m n ag (.ptr l k i o)=v:=by
 refine⟨?_, ?_⟩
 .simp only[xh,er,hl,aS];exact⟨⟨trivial,ae⟩,ho⟩
 .simp only[uU,aX,hl];rw[getD_map hi];exact hv
def MF (o:Nat)(us:List RU):List D:=(List.range us.length).map fun j=>.agg [.str us[j]!.name,.str us[j]!.feat,.own (o+j) 8 0 us[j]!.cs.length]
def MG (nx:Nat)(us:List RU):List (Nat×bz):=[(nx,.buf 3 (MF (nx+1) us)),(nx+1,.buf 8 (us[0]!.cs.map (CW.D 10))),(nx+2,.buf 8 (us[1]!.cs.map (CW.D 10))),(nx+3,.buf 8 (us[2]!.cs.map (CW.D 10))),(nx+4,.buf 8 (us[3]!.cs.map (CW.D 10))),
 (nx+5,.buf 8 (us[4]!.cs.map (CW.D 10))),(nx+6,.buf 8 (us[5]!.cs.map (CW.D 10))),(nx+7,.buf 8 (us[6]!.cs.map (CW.D 10))),(nx+8,.buf 8 (us[7]!.cs.map (CW.D 10)))]
def Lj {lo o:Nat}{us:List RU}{ln:Nat->Nat}(σ:List (Nat×Nat))(h:∀j,j<us.length->eP lo σ (o+j)=some (2+j))(hl:∀j,us[j]!.cs.length=ln j):gS lo σ (MF o us)=some (UB us.length (fun j=>us[j]!.name) (fun j=>us[j]!.feat) ln):=by
 unfold MF UB;have h2:∀j∈List.range us.length,eP lo σ (o+j)=some (2+j):=fun j hj=>h j (List.mem_range.1 hj)
 revert h2;generalize List.range us.length=r;intro h2;induction r with
 |nil=>rfl
 |cons a r ih=>
  have:=h2 a (.head _);simp only[List.map_cons,gS,UD,jE,pT,this,hl a,ih fun j hj=>h2 j (.tail _ hj)]
def Jw {lo v:Nat}{a b:Nat×Nat}{r:List (Nat×Nat)}(h:v<8)(ha:a.1<5)(hb:b.1<5):eP lo (a::b::(5,2)::(6,3)::(7,4)::(8,5)::(9,6)::(10,7)::(11,8)::(12,9)::r) (5+v)=some (2+v):=by
 simp only[eP,eo (show a.1≠5+v by omega),eo (show b.1≠5+v by omega),cond_false]
 match v,h with
 |0,_=>rfl
 |1,_=>rfl
 |2,_=>rfl
 |3,_=>rfl
 |4,_=>rfl
 |5,_=>rfl
 |6,_=>rfl
 |7,_=>rfl
def ew {lo v:Nat}{r:List (Nat×Nat)}(h:v<8):eP lo ((0,0)::(1,1)::(2,2)::(3,3)::(4,4)::(5,5)::(6,6)::(7,7)::(8,8)::(9,9)::r) (2+v)=some (2+v):=by
 simp only[eP,eo (show 0≠2+v by omega),cond_false];exact gB h
def kT {lo k i o l l':Nat}{σ:List (Nat×Nat)}(h:eP lo σ l=some l'):jE lo σ (.ptr l k i o)=some (.ptr l' k i o):=by simp only[jE,pT,h]
def tK {done rest:List CW}{x X:CW}{e e':Nat}{d:D}(hd:∀c∈done,c.pl=true)(hr:∀c∈rest,c.pl=true)(hX:X.D e'=d):((done++x::rest).map (CW.D e)).set done.length d=(done++X::rest).map (CW.D e'):=by
 rw[List.map_append,List.map_cons,sj (e:=e) (e':=e') hd,sj (e:=e) (e':=e') hr,List.set_append_right _ _ bc,aS,Nat.sub_self,List.set_cons_zero,<-hX,List.map_append,List.map_cons]
def qI {done rest:List CW}{x:CW}:(done++x::rest)[done.length]! =x:=by simp[List.getElem!_eq_getElem?_getD]
def nt {done rest:List CW}{x:CW}{e:Nat}:((done++x::rest).map (CW.D e)).getD done.length .any=x.D e:=by
 rw[getD_map bc,qI]
def xk {l k:Nat}{es:List D}{B:Nat->List CW}{i:Nat}{done rest:List CW}{x X:CW}(hB:∀t,t≠i->∀c∈B t,c.pl=true)(hd:∀c∈done,c.pl=true)(hr:∀c∈rest,c.pl=true)(hX:eO l k es (x.D l)=X.D 10)(t:Nat):
  fA l k es ((bO B i (done++x::rest) t).map (CW.D l))=(bO B i (done++X::rest) t).map (CW.D 10):=by
 have pl:∀xs:List CW,(∀c∈xs,c.pl=true)->fA l k es (xs.map (CW.D l))=xs.map (CW.D 10):=fun xs h=>by rw[iv _ _ _ _ (b8 h),sj h]
 have app:∀a b:List D,fA l k es (a++b)=fA l k es a++fA l k es b:=fun a b=>by
  induction a with
  |nil=>rfl
  |cons x r ih=>simp only[pj,fA,ih]
 unfold bO;split
 .rw[List.map_append,List.map_cons,app,fA,pl _ hd,pl _ hr,hX,List.map_append,List.map_cons]
 .rename_i h;exact pl _ (hB t h)
def cT (m:List (Nat×bz))(L:Nat)(b:bz)(l:Nat):look (cH m L b) l=if l=L then some b else look m l:=by
 induction m with
 |nil=>by_cases h:l=L<;>simp[cH,look,h,eq_comm]<;>omega
 |cons a r ih=>
  obtain⟨k,x⟩:=a;by_cases h1:k=L<;>by_cases h2:l=L<;>by_cases h3:k=l<;>simp_all[cH,look]
def uJ {e e0 i:Nat}{a b:bz}{B:Nat->List CW}{Yq:List CW}{r r':List (Nat×bz)}(hi:i<8)(hB:∀t,t≠i->∀c∈B t,c.pl=true)
  (hr:jl (cH ((0,a)::(1,b)::(2,.buf 8 ((B 0).map (CW.D e0)))::(3,.buf 8 ((B 1).map (CW.D e0)))::(4,.buf 8 ((B 2).map (CW.D e0)))::(5,.buf 8 ((B 3).map (CW.D e0)))::(6,.buf 8 ((B 4).map (CW.D e0)))::(7,.buf 8 ((B 5).map (CW.D e0)))::(8,.buf 8 ((B 6).map (CW.D e0)))::(9,.buf 8 ((B 7).map (CW.D e0)))::r) (2+i) (.buf 8 (Yq.map (CW.D e)))) r'):
  jl (cH ((0,a)::(1,b)::(2,.buf 8 ((B 0).map (CW.D e0)))::(3,.buf 8 ((B 1).map (CW.D e0)))::(4,.buf 8 ((B 2).map (CW.D e0)))::(5,.buf 8 ((B 3).map (CW.D e0)))::(6,.buf 8 ((B 4).map (CW.D e0)))::(7,.buf 8 ((B 5).map (CW.D e0)))::(8,.buf 8 ((B 6).map (CW.D e0)))::(9,.buf 8 ((B 7).map (CW.D e0)))::r) (2+i) (.buf 8 (Yq.map (CW.D e))))
   ((0,a)::(1,b)::(2,.buf 8 ((bO B i Yq 0).map (CW.D e)))::(3,.buf 8 ((bO B i Yq 1).map (CW.D e)))::(4,.buf 8 ((bO B i Yq 2).map (CW.D e)))::(5,.buf 8 ((bO B i Yq 3).map (CW.D e)))::(6,.buf 8 ((bO B i Yq 4).map (CW.D e)))::(7,.buf 8 ((bO B i Yq 5).map (CW.D e)))::(8,.buf 8 ((bO B i Yq 6).map (CW.D e)))::(9,.buf 8 ((bO B i Yq 7).map (CW.D e)))::r'):=by
 have ent:∀k,k<8->look (cH ((0,a)::(1,b)::(2,.buf 8 ((B 0).map (CW.D e0)))::(3,.buf 8 ((B 1).map (CW.D e0)))::(4,.buf 8 ((B 2).map (CW.D e0)))::(5,.buf 8 ((B 3).map (CW.D e0)))::(6,.buf 8 ((B 4).map (CW.D e0)))::(7,.buf 8 ((B 5).map (CW.D e0)))::(8,.buf 8 ((B 6).map (CW.D e0)))::(9,.buf 8 ((B 7).map (CW.D e0)))::r) (2+i) (.buf 8 (Yq.map (CW.D e)))) (2+k)=some (.buf 8 ((bO B i Yq k).map (CW.D e))):=by
  intro k hk;rw[cT];split
  .rename_i h;obtain rfl:k=i:=ae;rw[kj]
  .rename_i h;have hne:k≠i:=ae;rw[gy (fun t=>(B t).map (CW.D e0)) hk,xS hne,sj (hB k hne)]
 refine .id ?_ (.id ?_ (.id (ent 0 bJ) (.id (ent 1 bJ) (.id (ent 2 bJ) (.id (ent 3 bJ) (.id (ent 4 bJ) (.id (ent 5 bJ) (.id (ent 6 bJ) (.id (ent 7 bJ) hr)))))))))
 .rw[cT,ai ae];rfl
 .rw[cT,ai ae];rfl
def NF.p:NF->List kp
 | .sl l=>l
 |_=>[]
def BF.p:BF->List Want
 | .sl l=>l
 |_=>[]
def CW.p (c:CW):dI:=⟨c.v,c.sh,c.n.p,c.b.p⟩
def lY (us:List RU)(g:Gs):Nat->List CW:=iB us.length (fun t=>us[t]!.cs.map CW.v) (fun t=>us[t]!.feat) (us.length-1) 1 (ax g us.length (fun t=>us[t]!.cs.map CW.v) 3).2 (bO (fun t=>us[t]!.cs) 0 [⟨zV,-1,.sl (ax g us.length (fun t=>us[t]!.cs.map CW.v) 3).1,.nil⟩])
def cM (ks:List Int)(few:Int):bI:=⟨(List.range (dZ ⟨ks,0⟩ few).1.length).map fun t=>⟨(dZ ⟨ks,0⟩ few).1[t]!.name,(dZ ⟨ks,0⟩ few).1[t]!.feat,(lY (dZ ⟨ks,0⟩ few).1 (dZ ⟨ks,0⟩ few).2 t).map CW.p⟩⟩
def qg (vs:Nat->List a7)(B:Nat->List CW):Prop:=∀t,(B t).map CW.v=vs t
def n7.v {vs:Nat->List a7}{B:Nat->List CW}(h:n7 vs B):qg vs B:=fun t=>(h t).1
def qg.len {vs:Nat->List a7}{B:Nat->List CW}(h:qg vs B):(fun j=>(B j).length)=fun j=>(vs j).length:=by
 funext j;rw[<-h j,aS]
def qg.fX {vs:Nat->List a7}{B:Nat->List CW}(h:qg vs B):fX B=vs:=by
 funext j;exact h j
def qg.H4 {vs:Nat->List a7}{B:Nat->List CW}(h:qg vs B){i:Nat}{x:List CW}(hv:x.map CW.v=vs i):qg vs (bO B i x):=by
 intro t;unfold bO;split
 .rename_i e;subst e;exact hv
 .exact h t
def wL (vs:Nat->List a7):Prop:=∀t,(vs t).length<=4/\∀v∈vs t,v.sm
def qg.ok {vs:Nat->List a7}{B:Nat->List CW}{n:Nat}(h:qg vs B)(hn:2<=n/\n<=8)(hv:wL vs):Fe n B:=by
 refine⟨hn,fun t=>⟨?_,fun c hc=>?_⟩⟩
 .have:=(hv t).1;rw[<-h t,aS]at this;exact this
 .exact(hv t).2 _ (by rw[<-h t];exact List.mem_map_of_mem hc)
def tL {done:List CW}{r:List a7}{v:a7}{l:List a7}{c:CW}(hd:done.map CW.v=l.take done.length)(hr:l.drop done.length=v::r)(hc:c.v=v):(done++c::r.map aM).map CW.v=l:=by
 have h2:(r.map aM).map CW.v=r:=by rw[List.map_map];exact List.map_id _
 rw[List.map_append,List.map_cons,hd,h2,hc,<-hr,List.take_append_drop]
def vV (n:Nat)(vs:Nat->List a7):∀k g acc,(iA n vs k g acc).1.length=acc.length+k
 |0,g,acc=>by simp[iA]
 |k+1,g,acc=>by
  rw[iA];split<;>rw[vV n vs k]<;>simp<;>omega
def tR {g:Gs}{n:Nat}{vs:Nat->List a7}{most:Int}(h0:0<=most)(h3:most<=3):(ax g n vs most).1.length<=3:=by
 have hv:=iC (x8 g.l g.i) (most+1) ae;have hv2:g.val (most+1)=fG (x8 g.l g.i) (most+1):=rfl;unfold ax;rw[vV];simp only[cd];omega
def nI {ks:List Int}{few:Int}{us:List RU}{g1:Gs}(h:dZ ⟨ks,0⟩ few=(us,g1)):(2<=us.length/\us.length<=8)/\us[0]!.cs=[uN]/\(∀t:Nat,1<=t->us[t]!.cs=(us[t]!.cs.map CW.v).map aM)/\wL (fun t=>us[t]!.cs.map CW.v)/\(∀t:Nat,∀c∈us[t]!.cs,c.pl=true)/\0<=g1.i/\g1.i<=51:=by
 obtain⟨more,e,hm,hl,h1,h2⟩:=wB (g:=⟨ks,0⟩) (few:=few);rw[h]at e h1 h2;dsimp only at e h1 h2;subst e;have hc:∀t,1<=t->(rY++more)[t]!.cs=[]\/(rY++more)[t]!.raw:=by
  intro t ht;rcases cJ t (rY++more).length with h|h
  .right;have h5:(rY++more)[t]! =more[t-1]! :=by
    simp only[rY,cD,List.length_singleton]at h;simp[rY,List.getElem!_eq_getElem?_getD,List.getElem?_cons,show t≠0 by omega]
   rw[h5];exact hm _ (aj (by simp only[rY,cD,List.length_singleton]at h;omega))
  .left;rw[pG h];rfl
 have h0:(rY++more)[0]!.cs=[uN]:=by simp[rY]
 refine⟨by simp only[rY,cD,List.length_singleton];omega,h0,fun t ht=>?_,fun t=>?_,fun t=>?_,ae,ae⟩
 .rcases hc t ht with e|⟨vs,e,_⟩
  .rw[e];rfl
  .rw[e,List.map_map,List.map_map];congr 1
 .rcases Nat.eq_zero_or_pos t with rfl|ht
  .simp only[h0,List.map_cons,List.map_nil,List.length_singleton];exact⟨ae,fun v hv=>by obtain rfl:=bl.1 hv;exact rC⟩
  .rcases hc t ht with e|⟨vs,e,hl4,hsm⟩
   .simp only[e,List.map_nil,cd];exact⟨ae,fun v hv=>by cases hv⟩
   .have e2:(vs.map aM).map CW.v=vs:=by rw[List.map_map];exact List.map_id _
    simp only[e,e2];exact⟨hl4,hsm⟩
 .rcases Nat.eq_zero_or_pos t with rfl|ht
  .rw[h0];intro c hc';obtain rfl:=bl.1 hc';rfl
  .rcases hc t ht with e|⟨vs,e,_⟩
   .rw[e];intro c hc';cases hc'
   .rw[e];exact eK vs
def xl {done rest:List CW}{c:CW}(hd:∀c∈done,c.pl=true)(hc:c.pl=true)(hr:∀c∈rest,c.pl=true):∀x∈done++c::rest,x.pl=true:=fun x hx=>(List.mem_append.1 hx).elim (hd x) fun h=>(dq.1 h).elim (fun e=>by rw[e];exact hc) (hr x)
def HG {α:Type}{l:List α}{k:Nat}{v:α}{r:List α}(h:l.drop k=v::r):l.take (k+1)=l.take k++[v]:=by
 have h2:(l.drop k)[0]? =some v:=by rw[h];rfl
 rw[List.getElem?_drop]at h2;rw[List.take_succ,show l[k]? =some v by simpa using h2];rfl
def mc {n i:Nat}{vs:Nat->List a7}{f:dk}{cs B:Nat->List CW}{done:List CW}{v:a7}{r:List a7}{k h g':Gs}{c':CW}{F:List CW×Gs}(hvr:(vs i).drop done.length=v::r)(hB:B=bO cs i (done++((vs i).drop done.length).map aM))
  (hf:(done++(dJ n vs i f (v::r) k).1,(dJ n vs i f (v::r) k).2)=F) (hdv:done.map CW.v=(vs i).take done.length) (hdp:∀c∈done,c.pl=true) (hk:0<=k.i/\k.i<=h.i+30*(done.length:Nat)) (hce:fO k n vs i f v=(c',g')):
  (done.length+1<=(vs i).length/\(done++[c']).length=done.length+1)/\bO B i (done++c'::r.map aM)=bO cs i ((done++[c'])++((vs i).drop (done.length+1)).map aM)/\
    ((done++[c'])++(dJ n vs i f ((vs i).drop (done.length+1)) g').1,(dJ n vs i f ((vs i).drop (done.length+1)) g').2)=F/\((done++[c']).map CW.v=(vs i).take (done.length+1)/\∀c∈done++[c'],c.pl=true)/\(0<=g'.i/\g'.i<=h.i+30*((done.length+1:Nat):Int)):=by
 have hr1:(vs i).drop (done.length+1)=r:=by rw[<-List.drop_drop,hvr];rfl
 have h1:=BM (h:=k) (n:=n) (vs:=vs) (i:=i) (f:=f) (v:=v);have h2:=BN k n i vs f v;rw[hce]at h1 h2;dsimp only at h1 h2;have hl:done.length+1<=(vs i).length:=by
  have:=bM List.length hvr;simp only[uP,bR]at this;omega
 refine⟨⟨hl,bc⟩, ?_, ?_,⟨?_, ?_⟩,ae⟩
 .rw[hr1,hB,sB,kY];rfl
 .rw[hr1,<-hf];simp only[dJ,hce,kY,List.singleton_append]
 .rw[List.map_append,hdv,HG hvr,List.map_cons,List.map_nil,h2.1]
 .intro c hc;rcases List.mem_append.1 hc with hc|hc
  .exact hdp c hc
  .obtain rfl:=bl.1 hc;exact h2.2
def A0 {n i:Nat}{vs:Nat->List a7}{ft:Nat->dk}{cs B:Nat->List CW}{done:List CW}{k h:Gs}(hi:i<n)(hle:(vs i).length<=done.length)(hB:B=bO cs i (done++((vs i).drop done.length).map aM))
  (hf:(done++(dJ n vs i (ft i) ((vs i).drop done.length) k).1,(dJ n vs i (ft i) ((vs i).drop done.length) k).2)=dJ n vs i (ft i) (vs i) h):iB n vs ft (n-(i+1)) (i+1) k B=iB n vs ft (n-i) i h cs:=by
 obtain⟨r,hr⟩:∃r,n-i=r+1:=⟨n-i-1,ae⟩
 rw[hr,iB,<-hf,hB,mr hle];obtain rfl:r=n-(i+1):=ae;simp only[dJ,List.map_nil,HX]
def SHW:List Sh:=[.sl 3 [.a,.a,.sl 8 [.a,.a,.a,.a,.a,.a,.sl 1 [.sl 3 [.a,.a]],.sl 3 [.a,.a,.a]]]]
def BO {m:List (Nat×bz)}{c:CW}(h:c.pl=true):(match c.D 10 with
  | .agg ds=>.agg (xL m [.a,.a,.a,.a,.a,.a,.sl 1 [.sl 3 [.a,.a]],.sl 3 [.a,.a,.a]] ds)
  |e=>xH m [.a,.a,.a,.a,.a,.a,.sl 1 [.sl 3 [.a,.a]],.sl 3 [.a,.a,.a]] e)=c.p.D/\(match c.D 10 with
  | .agg ds=>EX m [.a,.a,.a,.a,.a,.a,.sl 1 [.sl 3 [.a,.a]],.sl 3 [.a,.a,.a]] ds
  |e=>Kx m [.a,.a,.a,.a,.a,.a,.sl 1 [.sl 3 [.a,.a]],.sl 3 [.a,.a,.a]] e):=by
 obtain⟨v,sh,n,b⟩:=c;cases n<;>cases b<;>first|(simp[CW.pl,NF.pl,BF.pl]at h;done)|exact⟨rfl,rfl,rfl,rfl,rfl,rfl,rfl,rfl,rfl,rfl⟩
def ES {m:List (Nat×bz)}{n:Nat}{nm ft:Nat->dk}{ln:Nat->Nat}{cs:Nat->List CW}(h1:look m 1=some (.buf 3 (UB n nm ft ln)))(hc:∀t,t<8->look m (2+t)=some (.buf 8 ((cs t).map (CW.D 10))))(hl:∀t,ln t=(cs t).length)(hp:∀t,∀c∈cs t,c.pl=true)(hn:n<=8):
  xV m SHW (.agg [.own 1 3 0 n])=bI.D ⟨(List.range n).map fun t=>⟨nm t,ft t,(cs t).map CW.p⟩⟩/\H5 m SHW (.agg [.own 1 3 0 n]):=by
 have hu:(UB n nm ft ln).take n=UB n nm ft ln:=gL (by simp[UB]);have hq:∀t,((cs t).map (CW.D 10)).take (ln t)=(cs t).map (CW.D 10):=fun t=>gL (by simp[hl])
 constructor
 .simp only[SHW,xV,xL,xC,aX,h1,bS,hu];simp only[bI.D,UB,List.map_map];congr 2;congr 1;apply List.map_congr_left;intro j hj;have h2:=hc j (by have:=List.mem_range.1 hj;omega);simp only[Function.comp,UD,xL,xC,aX,h2,bS,hq,bN.D,List.map_map];congr 4;refine bM (D.sl 8) ?_;apply List.map_congr_left;intro c hc2;exact(BO (m:=m) (hp j c hc2)).1
 .simp only[SHW,H5,EX,JV,aX,er,h1,bS,hu];refine⟨⟨⟨trivial,by simp[UB]⟩, ?_⟩,rfl⟩;intro e he;simp only[UB,fq,List.mem_range]at he;obtain⟨j,hj,rfl⟩:=he;have h2:=hc j ae;simp only[UD,EX,JV,aX,er,h2,bS,hq];refine⟨rfl,rfl,⟨⟨trivial,by simp[hl]⟩, ?_⟩,rfl⟩;intro e he;obtain⟨c,hc2,rfl⟩:=fq.1 he;exact(BO (m:=m) (hp j c hc2)).2
def ET {ks:List Int}{few:Int}{us:List RU}{g1:Gs}{F:Nat->List CW}(h:dZ ⟨ks,0⟩ few=(us,g1))(hF:lY us g1=F):(⟨(List.range us.length).map fun t=>⟨us[t]!.name,us[t]!.feat,(F t).map CW.p⟩⟩:bI)=cM ks few:=by
 unfold cM;rw[h,<-hF]
def NP (c:CW):Prop:=c.v.sm/\(∀r∈c.n.p,∀w∈r,w.sm)/\∀w∈c.b.p,w.sm
def uH {g:Gs}{n:Nat}{vs:Nat->List a7}(hv:wL vs):(cu g n vs).sm:=(Mp (hv _).2 (hv _).1).1
def yR {n:Nat}{vs:Nat->List a7}(hv:wL vs):∀k g acc,(∀r∈acc,∀w∈r,w.sm)->∀r∈(iA n vs k g acc).1,∀w∈r,w.sm
 |0,g,acc,h=>h
 |k+1,g,acc,h=>by
  rw[iA];split<;>refine yR hv k _ _ ?_<;>intro r hr<;>rcases List.mem_append.1 hr with hr|hr
  .exact h r hr
  .obtain rfl:=bl.1 hr;intro w hw;simp only[dq,dR,or_false]at hw;rcases hw with rfl|rfl<;>exact uH hv
  .exact h r hr
  .obtain rfl:=bl.1 hr;intro w hw;obtain rfl:=bl.1 hw;exact uH hv
def vX {n:Nat}{vs:Nat->List a7}(hv:wL vs)(g:Gs)(most:Int):∀r∈(ax g n vs most).1,∀w∈r,w.sm:=yR hv _ _ _ (fun _ h=>by cases h)
def zo {h:Gs}{n i:Nat}{vs:Nat->List a7}{f:dk}{v:a7}(hv:wL vs)(hs:v.sm):∀r∈mA h n vs i f v,∀w∈r,w.sm:=by
 intro r hr;unfold mA at hr;rcases List.mem_append.1 hr with hr|hr
 .split at hr
  .cases hr
  .obtain rfl:=bl.1 hr;intro w hw;obtain rfl:=bl.1 hw;exact vI hs
 .exact vX hv _ _ r hr
def FF {h:Gs}{n i:Nat}{vs:Nat->List a7}{f:dk}{v:a7}(hv:wL vs)(hs:v.sm):NP (fO h n vs i f v).1:=by
 unfold fO;split
 .exact⟨hs,zo hv hs,fun w hw=>by obtain rfl:=bl.1 hw;exact uH hv⟩
 .exact⟨hs,zo hv hs,fun w hw=>by cases hw⟩
def vQ {n i:Nat}{vs:Nat->List a7}{f:dk}(hv:wL vs):∀(l:List a7) (h:Gs),(∀v∈l,v.sm)->∀c∈(dJ n vs i f l h).1,NP c
 |[],h,_,c,hc=>by cases hc
 |v::r,h,hl,c,hc=>by
  simp only[dJ]at hc;rcases dq.1 hc with rfl|hc
  .exact FF hv (hl _ (.head _))
  .exact vQ hv r _ (fun x hx=>hl x (.tail _ hx)) c hc
def v8 {n:Nat}{vs:Nat->List a7}{ft:Nat->dk}(hv:wL vs):∀r i h cs,(∀t,((cs t).length<=4)/\∀c∈cs t,NP c)->∀t,((iB n vs ft r i h cs t).length<=4)/\∀c∈iB n vs ft r i h cs t,NP c
 |0,i,h,cs,hc=>hc
 |r+1,i,h,cs,hc=>by
  rw[iB];refine v8 hv r _ _ _ fun t=>?_
  unfold bO;split
  .refine⟨?_,vQ hv _ _ (hv i).2⟩;have:=bM List.length (tq n vs i (ft i) (vs i) h).1;rw[aS]at this;rw[this];exact(hv i).1
  .exact hc t
def qZ (ks:List Int)(few:Int):(cM ks few).sm/\(cM ks few).us.length<=8:=by
 obtain⟨us,g1,h⟩:∃us g1,dZ ⟨ks,0⟩ few=(us,g1):=⟨_,_,rfl⟩
 obtain⟨h8,h0,hraw,hv,hp,_⟩:=nI h;have hb:∀t:Nat,(us[t]!.cs.length<=4)/\∀c∈us[t]!.cs,NP c:=by
  intro t;have h4:=(hv t).1;rw[aS]at h4;refine⟨h4,fun c hc=>?_⟩;have hvs:c.v.sm:=(hv t).2 _ (List.mem_map_of_mem hc);rcases Nat.eq_zero_or_pos t with rfl|ht
  .rw[h0]at hc;obtain rfl:=bl.1 hc;exact⟨hvs,(fun _ h=>by cases h),(fun _ h=>by cases h)⟩
  .rw[hraw t ht]at hc;obtain⟨v,_,rfl⟩:=fq.1 hc;exact⟨hvs,(fun _ h=>by cases h),(fun _ h=>by cases h)⟩
 have hf:=v8 (n:=us.length) (ft:=fun t=>us[t]!.feat) hv (us.length-1) 1 (ax g1 us.length (fun t=>us[t]!.cs.map CW.v) 3).2 (bO (fun t=>us[t]!.cs) 0 [⟨zV,-1,.sl (ax g1 us.length (fun t=>us[t]!.cs.map CW.v) 3).1,.nil⟩]) (by
  intro t;unfold bO;split
  .refine⟨bc,fun c hc=>?_⟩;obtain rfl:=bl.1 hc;exact⟨rC,vX hv _ _,fun _ h=>by cases h⟩
  .exact hb t)
 unfold cM;rw[h];refine⟨?_,by simp only[aS,List.length_range];exact h8.2⟩;intro u hu;obtain⟨t,_,rfl⟩:=fq.1 hu;have:=hf t;refine⟨by dsimp only[lY];rw[List.length_map];exact Nat.le_trans this.1 bJ,fun c hc=>?_⟩;obtain⟨x,hx,rfl⟩:=fq.1 hc;exact this.2 x hx
def il (a b:Int):Int:=IntKind.i64.wrap ((BitVec.ofInt 64 a&&&BitVec.ofInt 64 b).toNat)
def HZ (a b:Int):Int:=IntKind.i64.wrap ((BitVec.ofInt 64 a&&& ~~~ BitVec.ofInt 64 b).toNat)
def ra (a b:Int):Int:=IntKind.i64.wrap ((BitVec.ofInt 64 a |||BitVec.ofInt 64 b).toNat)
def bC (us:List bN)(u:Int):Int:=if u<0\/(us.length:Int)<=u then 0 else 2^(us[u.toNat]!.cands.length+1) -1
def iV (cs:List dI)(s:bn):Nat->Int
 |0=>0
 |k+1=>if mG s cs[k]!.v=true then iV cs s k+2^(k+1)else iV cs s k
def e8 (us:List bN)(w:Want):Int:=if w.u<0\/(us.length:Int)<=w.u then 0 else iV us[w.u.toNat]!.cands w.s us[w.u.toNat]!.cands.length
def aK (us:List bN):List bK->Int->Int
 |[],u=>bC us u
 |t::r,u=>if t.u=u then t.m else aK us r u
def nH (us:List bN)(t:bK):Bool:=decide (t.m≠0)&&decide (il t.m (bC us t.u)=t.m)&&decide (t.m≠bC us t.u)
def eN (us:List bN)(l:List bK):Bool:=dh (fun i=>nH us l[i]! && !(decide (0<i)&&decide (l[i]!.u<=l[i-1]!.u))) 0 l.length
def vU {us:List bN}{l:List bK}{u:Int}{i:Nat}(hi:i<l.length)(h:l[i]!.u=u):aK us (l.drop i) u=l[i]!.m:=by
 rw[kl hi,aK,aw (by simpa[hi]using h)];simp[hi]
def tH {us:List bN}{l:List bK}{u:Int}{i:Nat}(hi:i<l.length)(h:¬l[i]!.u=u):aK us (l.drop i) u=aK us (l.drop (i+1)) u:=by
 rw[kl hi,aK,ai (by simpa[hi]using h)]
def vT {us:List bN}{l:List bK}{u:Int}{i:Nat}(hi:l.length<=i):aK us (l.drop i) u=bC us u:=by
 rw[mr hi,aK]
def Es (k:Nat):(2:Int)^k=((2^k:Nat):Int):=by
 induction k with
 |zero=>rfl
 |succ k ih=>rw[Int.pow_succ,ih,Nat.pow_succ];omega
def A1 {k n:Nat}(h:k<=n):(2:Int)^k<=2^n:=by
 rw[Es,Es];exact Int.ofNat_le.2 (Nat.pow_le_pow_right bJ h)
def eY (k:Nat):(1:Int)<=2^k:=by
 rw[Es];have:=Nat.one_le_two_pow (n:=k);omega
def oq {k:Nat}(h:k<=40):(2:Int)^k<=1099511627776:=A1 h
def tJ (cs:List dI)(s:bn):∀k,0<=iV cs s k/\iV cs s k<=2^(k+1) -2
 |0=>by simp[iV]
 |k+1=>by
  have ih:=tJ cs s k;have h1:(2:Int)^(k+1+1)=2^(k+1)*2:=Int.pow_succ 2 (k+1);have h2:=eY (k+1);rw[iV];split<;>omega
def uz (us:List bN)(row:ar)(k:Int)(w:Want):Bool:=if w.u=row.unit then decide (il (e8 us w) (2^(k+1).toNat)≠0)else decide (HZ (aK us row.terms w.u) (e8 us w)=0)
def tD (us:List bN)(row:ar)(k:Int)(w:Want):Bool:=if w.u=row.unit then decide (il (e8 us w) (2^(k+1).toNat)=0)else decide (il (e8 us w) (aK us row.terms w.u)=0)
def sR (x:Int):Prop:=-9223372036854775808<=x/\x<=9223372036854775807
def xY (x:BitVec 64):IntKind.i64.wrap (x.toNat:Int)=x.toInt:=by
 have h:=x.isLt;have e:IntKind.i64.wrap (x.toNat:Int)=if decide ((x.toNat:Int)%18446744073709551616≥9223372036854775808)=true then(x.toNat:Int)%18446744073709551616-18446744073709551616 else(x.toNat:Int)%18446744073709551616:=rfl
 rw[e,BitVec.toInt_eq_toNat_cond];simp only[b9];split<;>split<;>omega
def lv {m:Int}(h:sR m):(BitVec.ofInt 64 m).toInt=m:=by
 obtain⟨h1,h2⟩:=h;rw[BitVec.toInt_ofInt,Int.bmod_def];split<;>omega
def mZ (a b:Int):il a b=(BitVec.ofInt 64 a&&&BitVec.ofInt 64 b).toInt:=xY _
def FA (a b:Int):HZ a b=(BitVec.ofInt 64 a&&& ~~~ BitVec.ofInt 64 b).toInt:=xY _
def wY (a b:Int):ra a b=(BitVec.ofInt 64 a |||BitVec.ofInt 64 b).toInt:=xY _
def yt (a b:Int):il a b=il b a:=by rw[mZ,mZ,BitVec.and_comm]
def Ct {x:BitVec 64}:x.toInt=0↔x=0#64:=⟨fun h=>BitVec.eq_of_toInt_eq (by rw[h];rfl),fun h=>by rw[h];rfl⟩
def DS {x y:BitVec 64}:x&&& ~~~ y=0#64↔x&&&y=x:=by
 constructor<;>intro h<;>ext i hi<;>have:=bM (fun z=>z.getLsbD i) h<;>simp at this<;>simp[hi]<;>grind
def Ke {m f:Int}(h:sR m):HZ m f=0↔il m f=m:=by
 rw[FA,mZ,Ct,DS];constructor
 .intro e;rw[e];exact lv h
 .intro e;exact BitVec.eq_of_toInt_eq (by rw[e,lv h])
def BL {a:Int}{i:Nat}(h0:0<=a)(h1:a<2^i)(hi:i<=40):ra a (2^i)=a+2^i:=by
 have hp:=oq hi;obtain⟨n,rfl⟩:∃n:Nat,a=(n:Int):=⟨a.toNat,ae⟩
 rw[Es]at h1 hp⊢;have h2:n<2^i:=ae;have hl:(2:Nat)^i<=1099511627776:=ae;have e:(BitVec.ofInt 64 (n:Int) |||BitVec.ofInt 64 ((2^i:Nat):Int)).toNat=n+2^i:=by
  rw[BitVec.toNat_or,BitVec.toNat_ofInt,BitVec.toNat_ofInt];have h3:((n:Int)%((2^64:Nat):Int)).toNat=n:=ae;have h4:(((2^i:Nat):Int)%((2^64:Nat):Int)).toNat=2^i:=ae;rw[h3,h4,Nat.or_comm];have:=Nat.two_pow_add_eq_or_of_lt h2 1;simp only[Nat.mul_one]at this;omega
 unfold ra;rw[e,wrap_i64 ae ae];omega
def JP (us:List bN)(t:bK):Bool:=!(decide (t.m=0) ||!decide (HZ t.m (bC us t.u)=0) ||decide (t.m=bC us t.u))
def JQ {us:List bN}{t:bK}(h:sR t.m):JP us t=nH us t:=by
 unfold JP nH;have:=Ke (f:=bC us t.u) h;by_cases h1:t.m=0<;>by_cases h2:il t.m (bC us t.u)=t.m<;>by_cases h3:t.m=bC us t.u<;>simp_all
def pX {b:Int}{n:Nat}(hb:b=(n:Int))(hn:n<=40):IntKind.i64.wrap (1*2^(min b.toNat IntKind.i64.bits))=2^n:=by
 subst hb;have h:=oq hn;have h2:=eY n;rw[show min (Int.toNat (n:Int)) IntKind.i64.bits=n from Nat.min_eq_left (by simp only[IntKind.bits];omega),Int.one_mul];exact wrap_i64 ae ae
def iw {α:Type}(f:α->Bool):List α->Nat->Int
 |[],_=>-1
 |x::r,i=>if f x=true then(i:Int)else iw f r (i+1)
def pI {α:Type} [Inhabited α]{f:α->Bool}{l:List α}{i:Nat}(hi:i<l.length)(h:f l[i]! =true):iw f (l.drop i) i=i:=by
 rw[kl hi,iw,aw (by simpa[hi]using h)]
def nT {α:Type} [Inhabited α]{f:α->Bool}{l:List α}{i:Nat}(hi:i<l.length)(h:f l[i]! =false):iw f (l.drop i) i=iw f (l.drop (i+1)) (i+1):=by
 rw[kl hi,iw,ai (by simpa[hi]using h)]
def tp {α:Type}{f:α->Bool}{l:List α}{i:Nat}(hi:l.length<=i):iw f (l.drop i) i=-1:=by
 rw[mr hi,iw]
def tn {α:Type}{f:α->Bool}:∀{l:List α}{i:Nat},decide (0<=iw f l i)=l.any f
 |[],i=>by simp[iw]
 |x::r,i=>by
  rw[iw,List.any_cons];split
  .rename_i h;rw[h];simp
  .rename_i h;rw[tn];simp[h]
def fB (b:Bool)(us:List bN)(row:ar)(k:Int)(w:Want):Bool:=if b=true then uz us row k w else !tD us row k w
def gC (us:List bN)(row:ar)(k:Int)(r:kp):Bool:=!r.any (fB false us row k)
def mB (us:List bN)(row:ar)(k:Nat)(mild:Bool):Bool:=if mild=true then us[row.unit.toNat]!.cands[k]!.bars.any (fB true us row (k:Int))else us[row.unit.toNat]!.cands[k]!.needs.any (gC us row (k:Int))
def dI.fz (l k:Nat)(es:List Abs.D)(c:dI):eO l k es c.D=c.D:=oI l k es _ (by simp only[dI.D,D.a8,aL,eL])
def aY.fz (l k:Nat)(es:List Abs.D)(c:aY):eO l k es c.D=c.D:=oI l k es _ (by simp only[aY.D,D.a8,aL,eL])
def ar.fz (l k:Nat)(es:List Abs.D)(c:ar):eO l k es c.D=c.D:=oI l k es _ (by simp only[ar.D,D.a8,aL,eL])
def vj (l:List bK)(u:Int):Bool:=l.any fun t=>decide (t.u=u)
def pJ (us:List bN)(u:Int):∀(l:List bK) (i:Nat),(iw (fun t=>decide (t.u=u)) l i=-1/\vj l u=false/\aK us l u=bC us u)\/∃j,j<l.length/\iw (fun t=>decide (t.u=u)) l i=((i+j:Nat):Int)/\l[j]!.u=u/\aK us l u=l[j]!.m/\vj l u=true
 |[],i=>.inl ⟨rfl,rfl,rfl⟩
 |t::r,i=>by
  by_cases h:t.u=u
  .refine .inr ⟨0,bc, ?_,by simpa using h, ?_, ?_⟩
   .rw[iw,aw (by simpa using h)];rfl
   .rw[aK,aw h];rfl
   .simp[vj,h]
  .rcases pJ us u r (i+1)with⟨h1,h2,h3⟩|⟨j,h1,h2,h3,h4,h5⟩
   .refine .inl ⟨?_, ?_, ?_⟩
    .rw[iw,ai (by simpa using h)];exact h1
    .unfold vj at*;rw[List.any_cons,h2];simp[h]
    .rw[aK,ai h];exact h3
   .refine .inr ⟨j+1,ea, ?_, ?_, ?_, ?_⟩
    .rw[iw,ai (by simpa using h),h2];omega
    .simpa using h3
    .rw[aK,ai h,h4];simp
    .unfold vj at*;rw[List.any_cons,h5];simp
def iq (us:List bN)(row:ar)(mild:Bool):Bool:=vj row.terms row.unit&&decide (il (aK us row.terms row.unit) 1=0)&&dh (fun k=>decide (il (aK us row.terms row.unit) (2^(k+1))=0) ||mB us row k mild) 0 us[row.unit.toNat]!.cands.length
def uC {us:List bN}{t:bK}(h:nH us t=true):0<=t.u/\t.u<us.length:=by
 simp only[nH,bp,b9]at h;by_cases q:t.u<0\/(us.length:Int)<=t.u
 .exfalso;rw[show bC us t.u=0 from aw q]at h;have h2:il t.m 0=0:=by rw[mZ];simp
  rw[h2]at h;exact h.1.1 h.1.2.symm
 .omega
def Cu {us:List bN}{l:List bK}(h:eN us l=true){i:Nat}(hi:i<l.length):nH us l[i]! =true:=by
 unfold eN at h;rw[dr]at h;have:=h i ae hi;simp only[bp]at this;exact this.1
def vZ (k:Int):D:=if k=1 then .fn 4001178 [.agg []]else if k=2\/k=3 then .fn 4001179 [.agg [.bool (decide (k=3))]]else if k=4 then .fn 4001180 [.agg []]else if k=5 then .fn 4001181 [.agg []]else .fn 4600000 []
def lh (us:List bN)(A B:List bK)(row:ar)(u:Nat):Bool:=decide (HZ (aK us row.terms (u:Int)) (if(u:Int)=row.unit then ra (aK us A (u:Int)) (aK us B (u:Int))else il (aK us A (u:Int)) (aK us B (u:Int)))=0)
def jL (c:aY)(row:ar)(i:Int):Bool:=decide (bC c.w.us row.unit≠0)&&(decide (0<=row.a)&&decide (row.a<i))&&(decide (0<=row.b)&&decide (row.b<i))&&(eN c.w.us c.rows[row.a.toNat]!.terms&&eN c.w.us c.rows[row.b.toNat]!.terms)&&dh (lh c.w.us c.rows[row.a.toNat]!.terms c.rows[row.b.toNat]!.terms row) 0 c.w.us.length
def uZ (c:aY)(row:ar):Bool:=decide (bC c.w.us row.unit≠0)&&decide (row.unit<c.allow.length)&&decide (il (aK c.w.us row.terms row.unit) c.allow[row.unit.toNat]! =0)
def kF (c:aY)(row:ar)(i:Int):Bool:=if row.kind=5 then jL c row i else decide (row.a=0)&&decide (row.b=0)&&(if row.kind=1 then decide (row.unit=0)&&decide (aK c.w.us row.terms 0=1)else if row.kind=2\/row.kind=3 then iq c.w.us row (decide (row.kind=3))else if row.kind=4 then uZ c row else false)
def dn (c:aY)(i:Int):Bool:=decide (0<=i)&&decide (i<c.rows.length)&&eN c.w.us c.rows[i.toNat]!.terms&&kF c c.rows[i.toNat]! i
def RowsIn (l:List ar):Prop:=∀r∈l,∀t∈r.terms,sR t.m
def IU {us:List bN}{u:Int}(h:bC us u≠0):0<=u/\u<us.length:=by
 by_cases q:u<0\/(us.length:Int)<=u
 .exact absurd (aw q) h
 .omega
def AH (k:Int):k=1\/(k=2\/k=3)\/k=4\/k=5\/¬(k=1\/k=2\/k=3\/k=4\/k=5):=ae
def ofK1 {k:Int}(h:k=1):vZ k=.fn 4001178 [.agg []]:=aw h
def ofK2 {k:Int}(h:k=2\/k=3):vZ k=.fn 4001179 [.agg [.bool (decide (k=3))]]:=by unfold vZ;rw[ai ae,aw h]
def ofK4 {k:Int}(h:k=4):vZ k=.fn 4001180 [.agg []]:=by unfold vZ;rw[ai ae,ai ae,aw h]
def ofK5 {k:Int}(h:k=5):vZ k=.fn 4001181 [.agg []]:=by unfold vZ;rw[ai ae,ai ae,ai ae,aw h]
def ofK0 {k:Int}(h:¬(k=1\/k=2\/k=3\/k=4\/k=5)):vZ k=.fn 4600000 []:=by unfold vZ;rw[ai ae,ai ae,ai ae,ai ae]
def ij (f:Nat->Bool):Nat->Nat->Nat
 |0,i=>i
 |k+1,i=>if f i=true then ij f k (i+1)else i
def wT {f:Nat->Bool}{i n:Nat}(hi:i<n)(h:f i=true):ij f (n-i) i=ij f (n-(i+1)) (i+1):=by
 obtain⟨k,hk⟩:∃k,n-i=k+1:=⟨n-i-1,ae⟩
 rw[hk,ij,aw h,show k=n-(i+1)by omega]
def wS {f:Nat->Bool}{i n:Nat}(hi:i<n)(h:f i=false):ij f (n-i) i=i:=by
 obtain⟨k,hk⟩:∃k,n-i=k+1:=⟨n-i-1,ae⟩
 rw[hk,ij,ai (by rw[h];exact Bool.false_ne_true)]
def sU {f:Nat->Bool}{i n:Nat}(hi:n<=i):ij f (n-i) i=i:=by
 rw[show n-i=0 by omega,ij]
def gG (ok:Bool)(f:Nat->Bool)(l:List ar):Int×Bool:=if ok=false then(0,false)else if ij f l.length 0<l.length then((ij f l.length 0:Nat),false)else((l.length:Nat),decide (0<l.length)&&decide (l[l.length-1]!.terms.length=0))
def okW (w:bI)(allow:List Int):Bool:=xX w&& !(decide (0<allow.length)&&decide (allow.length≠w.us.length))
def lS (a b:Int):sR (il a b):=by
 rw[mZ];have h1:=BitVec.le_toInt (BitVec.ofInt 64 a&&&BitVec.ofInt 64 b);have h2:=BitVec.toInt_lt (x:=BitVec.ofInt 64 a&&&BitVec.ofInt 64 b);exact⟨by simpa using h1,by have:=h2;simp at this;omega⟩
def xR {us:List bN}{t:bK}(h:nH us t=true):sR t.m:=by
 simp only[nH,bp,b9]at h;rw[<-h.1.2];exact lS _ _
def yu {m:Int}(h:sR m):il m m=m:=by
 rw[mZ,BitVec.and_self,lv h]
def nb {us:List bN}{u:Int}(h:∀x∈us,x.cands.length<=16):sR (bC us u):=by
 unfold bC;split
 .exact⟨bJ,bJ⟩
 .rename_i q;have:=h _ (aj (show u.toNat<us.length by omega));have h1:=oq (k:=us[u.toNat]!.cands.length+1) ae;have h2:=eY (us[u.toNat]!.cands.length+1);constructor<;>omega
def lu {us:List bN}{l:List bK}{u:Int}(hs:∀x∈us,x.cands.length<=16)(h:eN us l=true):sR (aK us l u)/\il (aK us l u) (bC us u)=aK us l u:=by
 rcases pJ us u l 0 with⟨_,_,e⟩|⟨j,h1,_,h3,e,_⟩
 .rw[e];exact⟨nb hs,yu (nb hs)⟩
 .have ht:=Cu h h1;rw[e];refine⟨xR ht, ?_⟩;simp only[nH,bp,b9]at ht;rw[<-h3];exact ht.1.2
def Hz {b:Int}{n:Nat}(hb:b=(n:Int))(hn:n<=39):IntKind.i64.wrap (2*2^(min b.toNat IntKind.i64.bits))=2^(n+1):=by
 subst hb;have h:=oq (k:=n+1) ae;have h2:=eY n;rw[Int.pow_succ]at h;rw[show min (Int.toNat (n:Int)) IntKind.i64.bits=n from Nat.min_eq_left (by simp only[IntKind.bits];omega),Int.pow_succ,Int.mul_comm];exact wrap_i64 ae ae
def eV (l k:Nat)(es:List D)(rs:List ar):fA l k es (rs.map ar.D)=rs.map ar.D:=iv l k es _ (bP (fun r=>by simp only[ar.D,D.a8,aL,eL]) _)
def gE {α:Type} [Inhabited α]{l:List α}{i:Nat}(h:i<l.length):l.take i++[l[i]!]=l.take (i+1):=by
 rw[List.take_succ,show l[i]? =some l[i]! by simp[h]];rfl
def lM (us:List bN)(ks:List Int)(i:Nat):Int:=if fG (x8 ks (i:Int)) 300<100/\0<i then il (bC us (i:Int)) (fG (x8 ks (i:Int)) 300)else bC us (i:Int)
def mX (us:List bN)(ks:List Int):Nat->List Int
 |0=>[]
 |i+1=>mX us ks i++[lM us ks i]
def iQ (us:List bN)(ks:List Int):List Int:=if ks.length=0 then []else mX us ks us.length
def oA (us:List bN)(ks:List Int):∀i,(mX us ks i).length=i
 |0=>rfl
 |i+1=>by rw[mX,cD,oA us ks i];rfl
def jf:bI:=⟨[⟨[],[],[⟨zV,-1,[[⟨1,uX⟩]],[]⟩]⟩,⟨[97,110,116],[],[]⟩]⟩
def bI.fz (l k:Nat)(es:List Abs.D)(w:bI):eO l k es w.D=w.D:=oI l k es _ rfl
def bK.eq (a b:bK):gH (bK.D a).cells (bK.D b).cells=decide (a=b):=by
 cases a;cases b
 grind [bK.D,D.cells,gH,sn]
def Gc {α:Type} [Inhabited α]{a b:List α}(h:a.length=b.length)(hk:∀k,k<a.length->a[k]! =b[k]!):a=b:=by
 apply List.ext_getElem h;intro n h1 h2;have:=hk n h1;simpa[h1,h2]using this
def kM (us:List bN)(i:Nat):List Int:=(List.range i).map fun u=>bC us ((u:Nat):Int)
def kL (us:List bN):List Int:=kM us us.length
def ma (us:List bN)(i:Nat):(kM us i).length=i:=by simp[kM]
def Ax (us:List bN):(kL us).length=us.length:=ma _ _
def Ay (us:List bN)(i:Nat):kM us i++[bC us ((i:Nat):Int)]=kM us (i+1):=by
 simp[kM,List.range_succ]
def ix (us:List bN)(ms:List Int):Nat->List bK
 |0=>[]
 |i+1=>if ms[i]! ≠bC us ((i:Nat):Int)then ix us ms i++[⟨((i:Nat):Int),ms[i]!⟩]else ix us ms i
def qG (us:List bN)(ms:List Int):∀i,(ix us ms i).length<=i
 |0=>aJ _
 |i+1=>by
  have:=qG us ms i;rw[ix];split
  .simp only[cD,List.length_singleton];omega
  .omega
def I3 {us:List bN}{ms:List Int}{i:Nat}(h:ms[i]! ≠bC us ((i:Nat):Int)):ix us ms i++[⟨((i:Nat):Int),ms[i]!⟩]=ix us ms (i+1):=by rw[ix,aw h]
def I2 {us:List bN}{ms:List Int}{i:Nat}(h:¬ms[i]! ≠bC us ((i:Nat):Int)):ix us ms i=ix us ms (i+1):=by rw[ix,ai h]
def hH (us:List bN)(ms:List Int):List bK×Bool:=if dh (fun i=>decide (ms[i]! ≠0)) 0 ms.length=true then(ix us ms ms.length,true)else([],false)
def Eg (us:List bN)(ms:List Int):(hH us ms).1.length<=ms.length:=by
 unfold hH;split
 .exact qG _ _ _
 .exact Nat.zero_le _
def HA {xs:List Int}{i:Nat}(h:i<xs.length)(v:Int):(xs.map (D.int .i64)).set i (pY ((xs.map (D.int .i64)).getD i .any) 1 1 0 (.int .i64 v))=(xs.set i v).map (D.int .i64):=by
 rw[getD_map h,List.map_set];rfl
def BD (ms:List Int)(t:bK):List Int:=ms.set t.u.toNat (il ms[t.u.toNat]! t.m)
def mH (us:List bN)(l:List bK):Nat->List Int
 |0=>kL us
 |i+1=>BD (mH us l i) l[i]!
def nu (us:List bN)(l:List bK):∀i,(mH us l i).length=us.length
 |0=>Ax us
 |i+1=>by rw[mH,BD,List.length_set,nu us l i]
def Kl (us:List bN)(t:bK):Bool:=decide (0<=t.u)&&decide (t.u<us.length)
def tM (us:List bN)(l:List bK):List bK×Bool:=if dh (fun i=>Kl us l[i]!) 0 l.length=true then hH us (mH us l l.length)else([],false)
def sw (us:List bN)(l:List bK):(tM us l).1.length<=us.length:=by
 unfold tM;split
 .have:=Eg us (mH us l l.length);rw[nu]at this;exact this
 .exact Nat.zero_le _
def jN (us:List bN)(a b:List bK)(unit:Int)(u:Nat):Int:=if((u:Nat):Int)=unit then ra (aK us a ((u:Nat):Int)) (aK us b ((u:Nat):Int))else il (aK us a ((u:Nat):Int)) (aK us b ((u:Nat):Int))
def eA (us:List bN)(a b:List bK)(unit:Int)(i:Nat):List Int:=(List.range us.length).map fun u=>if u<i then jN us a b unit u else bC us ((u:Nat):Int)
def oL (us:List bN)(a b:List bK)(unit:Int)(i:Nat):(eA us a b unit i).length=us.length:=by simp[eA]
def F7 (us:List bN)(a b:List bK)(unit:Int):kL us=eA us a b unit 0:=by simp[eA,kL,kM]
def tu {us:List bN}{a b:List bK}{unit:Int}{i:Nat}{v:Int}(hv:v=jN us a b unit i):(eA us a b unit i).set i v=eA us a b unit (i+1):=by
 apply List.ext_getElem
 .simp[eA]
 .intro n h1 h2;simp only[eA,List.length_set,aS,List.length_range]at h1 h2;simp only[eA,List.getElem_set,List.getElem_map,List.getElem_range];by_cases e:i=n
  .subst e;rw[aw rfl,aw ae,hv]
  .rw[ai e];by_cases l:n<i
   .rw[aw l,aw ae]
   .rw[ai l,ai ae]
def fT (us:List bN)(a b:List bK)(unit:Int):List bK×Bool:=if unit<0\/(us.length:Int)<=unit then([],false)else hH us (eA us a b unit us.length)
def mq (us:List bN)(c:List Int)(u:Int):Int:=
 if u<0\/(us.length:Int)<=u\/(c.length:Int)<=u then 0 else if c[u.toNat]! < -1\/min (us[u.toNat]!.cands.length:Int) 16<=c[u.toNat]! then 0 else 2^(c[u.toNat]! +1).toNat
def qu (us:List bN)(c:List Int)(t:bK):Bool:=decide (il (mq us c t.u) t.m≠0)
def Kq (f:Nat->Bool):Nat->Bool
 |0=>true
 |k+1=>Kq f k&&f k
def Cd {f:Nat->Bool}:∀{n:Nat},Kq f n=true↔∀i,i<n->f i=true
 |0=>⟨fun _ i h=>ae,fun _=>rfl⟩
 |n+1=>by
  rw[Kq,bp,Cd];constructor
  .rintro⟨h1,h2⟩ i hi;rcases cJ i n with h|h
   .exact h1 i h
   .obtain rfl:i=n:=ae;exact h2
  .exact fun h=>⟨fun i hi=>h i ae,h n ae⟩
def kJ (l:List bK)(u:Int):List bK:=l.filter fun t=>decide (t.u≠u)
def rH (l:List bK)(u:Int)(i:Nat):List bK:=kJ (l.take i) u
def Lw {l:List bK}{u:Int}{i:Nat}(hi:i<l.length)(h:l[i]!.u≠u):rH l u i++[l[i]!]=rH l u (i+1):=by
 unfold rH kJ;rw[<-gE hi,List.filter_append,List.filter_cons_of_pos (by simpa using h)];rfl
def Lv {l:List bK}{u:Int}{i:Nat}(hi:i<l.length)(h:¬l[i]!.u≠u):rH l u i=rH l u (i+1):=by
 unfold rH kJ;rw[<-gE hi,List.filter_append,List.filter_cons_of_neg (by simpa using h)];simp
def Fz (l:List bK)(u:Int)(i:Nat):(rH l u i).length<=i:=by
 have h1:=List.length_filter_le (fun t:bK=>decide (t.u≠u)) (l.take i);have h2:(l.take i).length<=i:=by rw[fZ];omega
 exact dQ h1 h2
def Fy (l:List bK)(u:Int):(kJ l u).length<=l.length:=List.length_filter_le _ _
def ID (l:List bK)(u:Nat):List bK:=l.filter fun t=>decide (t.u=((u:Nat):Int))
def iP (l:List bK):Nat->List bK
 |0=>[]
 |u+1=>iP l u++ID l u
def ki (l:List bK)(u i:Nat):List bK:=iP l u++ID (l.take i) u
def JM {l:List bK}{u i:Nat}(hi:i<l.length)(h:l[i]!.u=((u:Nat):Int)):ki l u i++[l[i]!]=ki l u (i+1):=by
 unfold ki ID;rw[<-gE hi,List.filter_append,List.filter_cons_of_pos (by simpa using h),kY];rfl
def JK {l:List bK}{u i:Nat}(hi:i<l.length)(h:¬l[i]!.u=((u:Nat):Int)):ki l u i=ki l u (i+1):=by
 unfold ki ID;rw[<-gE hi,List.filter_append,List.filter_cons_of_neg (by simpa using h)];simp
def JJ (l:List bK)(u:Nat):iP l u=ki l u 0:=by simp[ki,ID]
def JL (l:List bK)(u:Nat):ki l u l.length=iP l (u+1):=by simp[ki,iP]
def wu (l:List bK):∀u,(iP l u).length<=u*l.length
 |0=>by simp[iP]
 |u+1=>by
  have h1:=wu l u;have h2:(ID l u).length<=l.length:=List.length_filter_le _ _;rw[iP,cD,Nat.succ_mul];omega
def EK (l:List bK)(u i:Nat):(ki l u i).length<=u*l.length+i:=by
 have h1:=wu l u;have h2:(ID (l.take i) u).length<=(l.take i).length:=List.length_filter_le _ _;have h3:(l.take i).length<=i:=by rw[fZ];omega
 rw[ki,cD];omega
def wv (l:List bK):List bK:=iP l 48
def nn (x r:ar):Bool:=decide (x.kind=r.kind)&&decide (x.unit=r.unit)&&decide (kJ x.terms r.unit=kJ r.terms r.unit)
def GO (rows:List ar)(r:ar):Nat:=ij (fun i=>!nn rows[i]! r) rows.length 0
def fF (us:List bN)(x r:ar):ar:=⟨x.kind,x.unit,x.a,x.b,wv (⟨r.unit,ra (aK us x.terms r.unit) (aK us r.terms r.unit)⟩::kJ x.terms r.unit)⟩
def mh (us:List bN)(rows:List ar)(r:ar):List ar:=if GO rows r<rows.length then rows.set (GO rows r) (fF us rows[GO rows r]! r)else rows++[r]
def GP (us:List bN)(rows:List ar)(r:ar):(mh us rows r).length<=rows.length+1:=by
 unfold mh;split
 .rw[List.length_set];omega
 .simp
def stJ4 {xs:List ar}{k:Nat}{l:List bK}(h:k<xs.length):(xs.map ar.D).set k (pY ((xs.map ar.D).getD k .any) 5 1 4 (.sl 2 (l.map bK.D)))=(xs.set k ⟨xs[k]!.kind,xs[k]!.unit,xs[k]!.a,xs[k]!.b,l⟩).map ar.D:=by
 rw[getD_map h,List.map_set];rfl
def ar.MI (l k:Nat)(es:List Abs.D)(r:ar):eO l k es r.D=r.D:=ar.fz l k es r
def eQ (us:List bN)(u k:Nat)(l:List Want)(bar:Bool):List bK:=⟨((u:Nat):Int),il (bC us ((u:Nat):Int)) (2^(k+1))⟩::l.map fun w=>⟨w.u,if bar=true then e8 us w else bC us w.u-e8 us w⟩
def EZ (us:List bN)(bar:Bool)(w:Want):Int:=if bar=true then e8 us w else bC us w.u-e8 us w
def rh {us:List bN}{u k:Nat}{l:List Want}{bar:Bool}{i:Nat}(hi:i<l.length):eQ us u k (l.take i) bar++[⟨l[i]!.u,EZ us bar l[i]!⟩]=eQ us u k (l.take (i+1)) bar:=by
 unfold eQ EZ;rw[<-gE hi];simp
def BY {us:List bN}{u:Int}(h:∀x∈us,x.cands.length<=16):0<=bC us u/\bC us u<=131071:=by
 unfold bC;split
 .omega
 .have hc:=h _ (aj (show u.toNat<us.length by omega));have h1:=A1 (k:=us[u.toNat]!.cands.length+1) (n:=17) ae;have h2:=eY (us[u.toNat]!.cands.length+1);have h3:(2:Int)^17=131072:=rfl;omega
def AU {us:List bN}{w:Want}(h:∀x∈us,x.cands.length<=16):0<=e8 us w/\e8 us w<=131071:=by
 unfold e8;split
 .omega
 .have hc:=h _ (aj (show w.u.toNat<us.length by omega));have h1:=A1 (k:=us[w.u.toNat]!.cands.length+1) (n:=17) ae;have h2:=tJ us[w.u.toNat]!.cands w.s us[w.u.toNat]!.cands.length;have h3:(2:Int)^17=131072:=rfl;omega
def dS (us:List bN)(u k:Nat)(l:List Want)(bar:Bool):List bK×Bool:=tM us (eQ us u k l bar)
def uW (us:List bN)(rows:List ar)(kind u:Int)(c:List bK×Bool):List ar:=if c.2=true then mh us rows ⟨kind,u,0,0,c.1⟩else rows
def yl (us:List bN)(rows:List ar)(kind u:Int)(c:List bK×Bool):(uW us rows kind u c).length<=rows.length+1:=by
 unfold uW;split
 .exact GP _ _ _
 .omega
def dL (us:List bN)(u i:Nat)(l:List kp)(rows:List ar):Nat->List ar
 |0=>rows
 |k+1=>uW us (dL us u i l rows k) 2 ((u:Nat):Int) (dS us u i l[k]! false)
def oV (us:List bN)(u i:Nat)(l:List kp)(rows:List ar):∀k,(dL us u i l rows k).length<=rows.length+k
 |0=>aJ _
 |k+1=>by
  have h1:=oV us u i l rows k;have h2:=yl us (dL us u i l rows k) 2 ((u:Nat):Int) (dS us u i l[k]! false);rw[dL];omega
def iN (us:List bN)(u i:Nat)(l:List Want)(rows:List ar):Nat->List ar
 |0=>rows
 |k+1=>uW us (iN us u i l rows k) 3 ((u:Nat):Int) (dS us u i [l[k]!] true)
def qh (us:List bN)(u i:Nat)(l:List Want)(rows:List ar):∀k,(iN us u i l rows k).length<=rows.length+k
 |0=>aJ _
 |k+1=>by
  have h1:=qh us u i l rows k;have h2:=yl us (iN us u i l rows k) 3 ((u:Nat):Int) (dS us u i [l[k]!] true);rw[iN];omega
def FD (us:List bN)(u i:Nat)(c:dI)(rows:List ar):List ar:=iN us u i c.bars (dL us u i c.needs rows c.needs.length) c.bars.length
def dw (us:List bN)(u:Nat)(cs:List dI)(rows:List ar):Nat->List ar
 |0=>rows
 |i+1=>FD us u i cs[i]! (dw us u cs rows i)
def Few (us:List bN):Prop:=∀u∈us,∀c∈u.cands,c.needs.length<=1000/\c.bars.length<=1000/\∀r∈c.needs,r.length<=1000
def DW {us:List bN}{u i:Nat}{c:dI}{rows:List ar}(h:c.needs.length<=1000/\c.bars.length<=1000):(FD us u i c rows).length<=rows.length+2000:=by
 have h1:=oV us u i c.needs rows c.needs.length;have h2:=qh us u i c.bars (dL us u i c.needs rows c.needs.length) c.bars.length;unfold FD;omega
def oC {us:List bN}{u:Nat}{cs:List dI}{rows:List ar}(h:∀c∈cs,c.needs.length<=1000/\c.bars.length<=1000):∀{i},i<=cs.length->(dw us u cs rows i).length<=rows.length+2000*i
 |0,_=>by simp[dw]
 |i+1,hi=>by
  have h1:=oC (us:=us) (u:=u) (rows:=rows) h (show i<=cs.length by omega);have h2:=DW (us:=us) (u:=u) (i:=i) (rows:=dw us u cs rows i) (h _ (aj (show i<cs.length by omega)));have h4:(dw us u cs rows (i+1)).length<=(dw us u cs rows i).length+2000:=h2;have q:∀a b c:Nat,a<=c+2000*i->b<=a+2000->b<=c+2000*(i+1):=ae
  exact q _ _ _ h1 h4
def Pu:ar:=⟨1,0,0,0,[⟨0,1⟩]⟩
def cY (us:List bN):Nat->List ar
 |0=>[Pu]
 |u+1=>dw us u us[u]!.cands (cY us u) us[u]!.cands.length
def pf {us:List bN}(hf:Few us)(hc:∀u∈us,u.cands.length<=16):∀{i},i<=us.length->(cY us i).length<=1+32000*i
 |0,_=>by simp[cY]
 |i+1,hi=>by
  have h1:=pf hf hc (show i<=us.length by omega);have hm:=aj (show i<us.length by omega);have h2:=oC (us:=us) (u:=i) (rows:=cY us i) (cs:=us[i]!.cands) (fun c hc2=>⟨(hf _ hm c hc2).1,(hf _ hm c hc2).2.1⟩) (aJ _);have h3:=hc _ hm;have h4:(cY us (i+1)).length<=(cY us i).length+2000*us[i]!.cands.length:=h2;have q:∀a b c:Nat,a<=1+32000*i->b<=a+2000*c->c<=16->b<=1+32000*(i+1):=ae
  exact q _ _ _ h1 h4 h3
def kK (us:List bN):List ar:=cY us us.length
def sS (us:List bN)(allow:List Int)(u:Nat):List bK×Bool:=tM us [⟨((u:Nat):Int),bC us ((u:Nat):Int) -il (bC us ((u:Nat):Int)) allow[u]!⟩]
def mY (us:List bN)(allow:List Int):Nat->List ar
 |0=>kK us
 |u+1=>if(sS us allow u).2=true then mY us allow u++[⟨4,((u:Nat):Int),0,0,(sS us allow u).1⟩]else mY us allow u
def yo (us:List bN)(allow:List Int):∀u,(mY us allow u).length<=(kK us).length+u
 |0=>aJ _
 |u+1=>by
  have:=yo us allow u;rw[mY];split
  .simp only[cD,List.length_singleton];omega
  .omega
def jG (us:List bN)(allow:List Int):List ar:=mY us allow (min allow.length us.length)
structure jD where
 w:bI
 facts:List ar
 x:D
def jD.D (p:jD):Abs.D:=.agg [.sl 3 (p.w.us.map bN.D),.sl 5 (p.facts.map ar.D),p.x]
def rA (us:List bN)(c:List Int)(t:bK):Bool:=decide (t.u<c.length)&&qu us c t
def lU (us:List bN)(c:List Int)(row:ar):Bool:=Kq (fun k=>rA us c row.terms[k]!) row.terms.length
def eg (us:List bN)(facts:List ar)(c:List Int):Nat:=ij (fun i=>!lU us c facts[i]!) facts.length 0
def jQ (us:List bN)(facts:List ar)(c:List Int):Int:=if eg us facts c<facts.length then((eg us facts c:Nat):Int)else-1
def gO (us:List bN)(u:Nat)(now x:Int)(rows:List ar):ar:=⟨5,((u:Nat):Int),now,x,(fT us rows[now.toNat]!.terms rows[x.toNat]!.terms ((u:Nat):Int)).1⟩
def mC (us:List bN)(u:Nat)(rc:List Int->List ar->Int×List ar)(c:List Int):Nat->Int->Int->List ar->Int×List ar
 |0,_,now,rows=>(now,rows)
 |n+1,i,now,rows=>
  if(rc (c++[i]) rows).1<0 then(-1,(rc (c++[i]) rows).2)
  else if aK us (rc (c++[i]) rows).2[(rc (c++[i]) rows).1.toNat]!.terms ((u:Nat):Int)=bC us ((u:Nat):Int)then rc (c++[i]) rows
  else if now<0 then mC us u rc c n (i+1) (rc (c++[i]) rows).1 (rc (c++[i]) rows).2
  else if aK us (gO us u now (rc (c++[i]) rows).1 (rc (c++[i]) rows).2).terms ((u:Nat):Int)=bC us ((u:Nat):Int)then
   ((((rc (c++[i]) rows).2.length:Nat):Int),(rc (c++[i]) rows).2++[gO us u now (rc (c++[i]) rows).1 (rc (c++[i]) rows).2])
  else mC us u rc c n (i+1) (((rc (c++[i]) rows).2.length:Nat):Int) ((rc (c++[i]) rows).2++[gO us u now (rc (c++[i]) rows).1 (rc (c++[i]) rows).2])
def jO (us:List bN)(facts:List ar):Nat->List Int->List ar->Int×List ar
 |0,c,rows=>if eg us facts c<facts.length then(((rows.length:Nat):Int),rows++[facts[eg us facts c]!])else(-1,rows)
 |f+1,c,rows=>if eg us facts c<facts.length then(((rows.length:Nat):Int),rows++[facts[eg us facts c]!])
  else if 3000<rows.length then(-1,rows)
  else mC us c.length (jO us facts f) c (us[c.length]!.cands.length+1) (-1) (-1) rows
def en (us:List bN)(facts:List ar)(c:List Int)(rows:List ar):Int×List ar:=jO us facts (us.length-c.length) c rows
def j9 (us:List bN)(allow:List Int):Int×List ar:=en us (jG us allow) [] []
def fj (us:List bN)(allow:List Int):Option (List ar):=
 if(j9 us allow).1<0\/0<(j9 us allow).2[(j9 us allow).1.toNat]!.terms.length then none else some ((j9 us allow).2.take ((j9 us allow).1.toNat+1))
def Gq:Option (List ar)->D
 |none=>.aA
 |some l=>.sl 5 (l.map ar.D)
def bt (m:Int)(i:Nat):Bool:=(BitVec.ofInt 64 m).getLsbD i
def ofInt_toInt (x:BitVec 64):BitVec.ofInt 64 x.toInt=x:=BitVec.ofInt_toInt
def kI (a b:Int)(i:Nat):bt (il a b) i=(bt a i&&bt b i):=by
 unfold bt;rw[mZ,ofInt_toInt,BitVec.getLsbD_and]
def sW (a b:Int)(i:Nat):bt (ra a b) i=(bt a i ||bt b i):=by
 unfold bt;rw[wY,ofInt_toInt,BitVec.getLsbD_or]
def OV {m:Int}{i:Nat}(h:64<=i):bt m i=false:=BitVec.getLsbD_of_ge _ _ h
def wW {a b:Int}(ha:sR a)(hb:sR b)(h:∀i,bt a i=bt b i):a=b:=by
 have e:BitVec.ofInt 64 a=BitVec.ofInt 64 b:=by
  ext i hi
  have:=h i;unfold bt at this
  rwa [BitVec.getLsbD_eq_getElem hi,BitVec.getLsbD_eq_getElem hi]at this
 rw[<-lv ha,<-lv hb,e]
def wX (a b:Int):sR (ra a b):=by
 rw[wY];have h1:=BitVec.le_toInt (BitVec.ofInt 64 a |||BitVec.ofInt 64 b);have h2:=BitVec.toInt_lt (x:=BitVec.ofInt 64 a |||BitVec.ofInt 64 b);exact⟨by simpa using h1,by have:=h2;simp at this;omega⟩
def OP:sR 0:=⟨bJ,bJ⟩
def kC (i:Nat):bt 0 i=false:=by unfold bt;simp
def sZ {a b:Int}:il a b=0↔∀i,¬(bt a i=true/\bt b i=true):=by
 constructor
 .intro h i hi;have:=kI a b i;rw[h,kC,hi.1,hi.2]at this;exact absurd this bJ
 .intro h;refine wW (lS _ _) OP fun i=>?_
  rw[kI,kC];have:=h i;revert this;cases bt a i<;>cases bt b i<;>simp
def Gp {a:Int}(ha:sR a):a≠0↔∃i,bt a i=true:=by
 constructor
 .intro h;refine Classical.byContradiction fun g=>h (wW ha OP fun i=>?_)
  rw[kC];cases e:bt a i with
  |false=>rfl
  |true=>exact absurd ⟨i,e⟩ g
 .rintro⟨i,hi⟩ rfl;rw[kC]at hi;cases hi
def iE {a b:Int}(ha:sR a):il a b=a↔∀i,bt a i=true->bt b i=true:=by
 constructor
 .intro h i hi;have:=kI a b i;rw[h,hi]at this;simpa using this.symm
 .intro h;refine wW (lS _ _) ha fun i=>?_
  rw[kI];have:=h i;revert this;cases bt a i<;>simp
def Fk {a:Int}(h0:0<=a)(h1:a<=1099511627776):sR a:=⟨ae,ae⟩
def sX {k:Nat}(hk:k<=40)(i:Nat):bt (2^k) i=decide (i=k):=by
 unfold bt;rw[Es];have hl:(2:Nat)^k<=1099511627776:=by
  have:=oq hk;rw[Es]at this;omega
 rw[show BitVec.ofInt 64 ((2^k:Nat):Int)=BitVec.ofNat 64 (2^k)from BitVec.ofInt_natCast ..];rw[BitVec.getLsbD_ofNat,Nat.testBit_two_pow];by_cases e:k=i
 .subst e;simp;omega
 .rw[cZ e,Bool.and_false,cZ (fun h=>e h.symm)]
def Fv:∀n,n<17->∀i,i<64->bt ((2:Int)^(n+1) -1) i=decide (i<=n):=by decide+kernel
def kB {us:List bN}{u:Nat}(hu:u<us.length)(hs:∀x∈us,x.cands.length<=16)(i:Nat):bt (bC us ((u:Nat):Int)) i=decide (i<=us[u]!.cands.length):=by
 have hc:=hs _ (aj hu);rw[show bC us ((u:Nat):Int)=2^(us[u]!.cands.length+1) -1 from ai ae];rcases cJ i 64 with h|h
 .exact Fv _ ae i h
 .rw[OV h,cZ ae]
def BI (cs:List dI)(s:bn)(i:Nat):∀k,k<=16->bt (iV cs s k) i=(decide (1<=i)&&decide (i<=k)&&mG s cs[i-1]!.v)
 |0,_=>by
  rw[iV,kC];by_cases h:1<=i
  .rw[cZ (show ¬i<=0 by omega)];simp
  .rw[cZ h];rfl
 |k+1,hk=>by
  have ih:=BI cs s i k ae;have hr:=tJ cs s k;rw[iV];split
  .rename_i h;rw[<-BL hr.1 (by have:=eY (k+1);omega) ae,sW,ih,sX ae];by_cases e:i=k+1
   .subst e;rw[show k+1-1=k from rfl,h];simp
   .rw[cZ e,Bool.or_false];congr 2;rw[uQ];omega
  .rename_i h;rw[ih];by_cases e:i=k+1
   .subst e;simp only[Bool.not_eq_true]at h;rw[show k+1-1=k from rfl,h];simp
   .congr 2;rw[uQ];omega
def Lu {us:List bN}{w:Want}{u:Nat}(hw:w.u=((u:Nat):Int))(hu:u<us.length)(hs:∀x∈us,x.cands.length<=16)(i:Nat):bt (e8 us w) i=(decide (1<=i)&&decide (i<=us[u]!.cands.length)&&mG w.s us[u]!.cands[i-1]!.v):=by
 have hc:=hs _ (aj hu);unfold e8;rw[ai ae,hw];exact BI _ _ _ _ hc
def I5 {us:List bN}{w:Want}(h:w.u<0\/(us.length:Int)<=w.u):e8 us w=0:=aw h
def FZ {us:List bN}{u:Int}(h:u<0\/(us.length:Int)<=u):bC us u=0:=aw h
def Fw {a b:Int}(ha:sR a)(h:il a b=a)(i:Nat):bt (b-a) i=(bt b i&& !bt a i):=by
 unfold bt;have e:BitVec.ofInt 64 a&&&BitVec.ofInt 64 b=BitVec.ofInt 64 a:=by
  rw[mZ]at h;exact BitVec.eq_of_toInt_eq (by rw[h,lv ha])
 have e2:BitVec.ofInt 64 (b-a)=BitVec.ofInt 64 b-BitVec.ofInt 64 a:=by
  rw[Int.sub_eq_add_neg,BitVec.ofInt_add,BitVec.ofInt_neg,BitVec.sub_eq_add_neg]
 rw[e2];generalize BitVec.ofInt 64 a=x at e;generalize BitVec.ofInt 64 b=y at e;have hz:(y&&& ~~~x)&&&x=0#64:=by
  ext j hj;simp
 have hs:(y&&& ~~~x)+x=y:=by
  rw[BitVec.add_eq_or_of_and_eq_zero _ _ hz]
  ext j hj
  have:=bM (fun z=>z.getLsbD j) e;simp[hj]at this;simp;cases hx:x[j]<;>cases hy:y[j]<;>simp_all
 have:y-x=y&&& ~~~x:=by
  have h2:(y&&& ~~~x)+x-x=y&&& ~~~x:=BitVec.add_sub_cancel _ _
  rwa [hs]at h2
 rw[this,BitVec.getLsbD_and];rcases cJ i 64 with h|h
 .rw[BitVec.getLsbD_not];simp[h]
 .simp[h]
def Gf {us:List bN}{w:Want}(hs:∀x∈us,x.cands.length<=16):il (e8 us w) (bC us w.u)=e8 us w:=by
 by_cases q:w.u<0\/(us.length:Int)<=w.u
 .rw[I5 q,FZ q];rfl
 .obtain⟨u,hu⟩:∃u:Nat,w.u=(u:Int):=⟨w.u.toNat,ae⟩
  have hl:u<us.length:=ae;have hb:=AU (w:=w) hs;rw[iE (Fk hb.1 ae)];intro i hi;rw[Lu hu hl hs]at hi;rw[hu,kB hl hs];simp only[bp,b9]at hi⊢;exact hi.1.2
def BJ {us:List bN}{w:Want}(hs:∀x∈us,x.cands.length<=16)(i:Nat):bt (bC us w.u-e8 us w) i=(bt (bC us w.u) i&& !bt (e8 us w) i):=by
 have hb:=AU (w:=w) hs;exact Fw (Fk hb.1 ae) (Gf hs) i
def BZ {us:List bN}{u:Int}:decide (bC us u≠0)=(decide (0<=u)&&decide (u<us.length)):=by
 unfold bC;by_cases q:u<0\/(us.length:Int)<=u
 .rw[aw q];rcases q with q|q
  .rw[cZ bc,cZ ae];rfl
  .rw[cZ bc,show decide (u<us.length)=false from cZ ae,Bool.and_false]
 .rw[ai q];have:=eY (us[u.toNat]!.cands.length);rw[Int.pow_succ,cj ae,cj ae,cj ae];rfl
abbrev qf (us:List bN):Prop:=∀x∈us,x.cands.length<=16
abbrev Lt (l:List bK):Prop:=l.Pairwise fun a b=>a.u<b.u
def eE {us:List bN}{l:List bK}:eN us l=true↔(∀t∈l,nH us t=true)/\Lt l:=by
 unfold eN;rw[dr];constructor
 .intro h;have h1:∀j,j<l.length->nH us l[j]! =true/\(0<j->l[j-1]!.u<l[j]!.u):=by
   intro j hj;have:=h j ae hj;simp only[bp,ey,fI,dG]at this;exact⟨this.1,fun h0=>ae⟩
  refine⟨fun t ht=>?_, ?_⟩
  .obtain⟨i,hi,rfl⟩:=List.mem_iff_getElem.1 ht;have:=(h1 i hi).1;simpa[hi]using this
  .rw[Lt,List.pairwise_iff_getElem];have key:∀d i,i+d+1<l.length->l[i]!.u<l[i+d+1]!.u:=by
    intro d;induction d with
    |zero=>intro i hi;exact(h1 (i+1) hi).2 ae
    |succ d ih=>
     intro i hi;have a1:=ih i ae;have a2:=(h1 (i+d+1+1) hi).2 ae;rw[show i+d+1+1-1=i+d+1 by omega]at a2;exact Int.lt_trans a1 a2
   intro i j hi hj hij;have:=key (j-i-1) i ae;rw[show i+(j-i-1)+1=j by omega]at this;simpa[hi,hj]using this
 .rintro⟨h1,h2⟩ j _ hj;rw[Lt,List.pairwise_iff_getElem]at h2;simp only[bp,ey,fI,dG];refine⟨h1 _ (aj hj), ?_⟩;by_cases h0:0<j
  .right;have:=h2 (j-1) j ae hj ae;simp only[hj,getElem!_pos,show j-1<l.length by omega];omega
  .left;exact h0
def lr {us:List bN}:∀{l:List bK},Lt l->∀t∈l,aK us l t.u=t.m
 |a::r,h,t,ht=>by
  rw[Lt,List.pairwise_cons]at h;rw[aK];rcases dq.1 ht with rfl|ht
  .rw[aw rfl]
  .have:=h.1 t ht;rw[ai ae,lr h.2 t ht]
def nW {us:List bN}{v:Int}:∀{l:List bK},(∀t∈l,t.u≠v)->aK us l v=bC us v
 |[],_=>rfl
 |a::r,h=>by rw[aK,ai (h a (.head _)),nW fun t ht=>h t (.tail _ ht)]
def xj {us:List bN}{v:Int}{l:List bK}(h:Lt l):(∃t∈l,t.u=v/\aK us l v=t.m)\/((∀t∈l,t.u≠v)/\aK us l v=bC us v):=by
 by_cases g:∃t∈l,t.u=v
 .obtain⟨t,ht,rfl⟩:=g;exact .inl ⟨t,ht,rfl,lr h t ht⟩
 .have g':∀t∈l,t.u≠v:=fun t ht e=>g ⟨t,ht,e⟩
  exact .inr ⟨g',nW g'⟩
def zD {us:List bN}{l:List bK}{u:Int}(h:eN us l=true)(hm:aK us l u=bC us u):∀t∈l,t.u≠u:=by
 obtain⟨h1,h2⟩:=eE.1 h;rintro t ht rfl;rw[lr h2 t ht]at hm;have:=h1 t ht;simp only[nH,bp,b9]at this;exact this.2 hm
def jX {us:List bN}{ms:List Int}{t:bK}:∀{i},t∈ix us ms i↔∃u,u<i/\ms[u]! ≠bC us ((u:Nat):Int)/\t=⟨((u:Nat):Int),ms[u]!⟩
 |0=>⟨fun h=>(by cases h),fun⟨u,h,_⟩=>ae⟩
 |i+1=>by
  rw[ix];split
  .rename_i h;rw[List.mem_append,jX,bl];constructor
   .rintro(⟨u,h1,h2⟩|rfl)
    .exact⟨u,ae,h2⟩
    .exact⟨i,ae,h,rfl⟩
   .rintro⟨u,h1,h2,h3⟩;rcases cJ u i with h4|h4
    .exact .inl ⟨u,h4,h2,h3⟩
    .obtain rfl:u=i:=ae;exact .inr h3
  .rename_i h;rw[jX];constructor
   .rintro⟨u,h1,h2⟩;exact⟨u,ae,h2⟩
   .rintro⟨u,h1,h2,h3⟩;rcases cJ u i with h4|h4
    .exact⟨u,h4,h2,h3⟩
    .obtain rfl:u=i:=ae;exact absurd h2 h
def pP {us:List bN}{ms:List Int}:∀i,Lt (ix us ms i)
 |0=>List.Pairwise.nil
 |i+1=>by
  rw[ix];split
  .refine List.pairwise_append.2 ⟨pP i,List.pairwise_singleton _ _,fun a ha b hb=>?_⟩;obtain rfl:=bl.1 hb;obtain⟨u,hu,_,rfl⟩:=jX.1 ha;dsimp only;omega
  .exact pP i
def Li (us:List bN)(ms:List Int):Prop:=∀u,u<us.length->il ms[u]! (bC us ((u:Nat):Int))=ms[u]!
def B7 {us:List bN}{ms:List Int}(hl:ms.length=us.length)(hs:Li us ms)(h:(hH us ms).2=true):eN us (hH us ms).1=true/\(∀u,u<us.length->aK us (hH us ms).1 ((u:Nat):Int)=ms[u]!)/\∀u,u<us.length->ms[u]! ≠0:=by
 unfold hH at h⊢;split at h
 .rename_i ha;rw[aw ha];rw[dr]at ha;have hnz:∀u,u<us.length->ms[u]! ≠0:=fun u hu=>by simpa using ha u ae ae
  refine⟨eE.2 ⟨fun t ht=>?_,pP _⟩,fun u hu=>?_,hnz⟩
  .obtain⟨u,hu,h2,rfl⟩:=jX.1 ht;simp only[nH,bp,b9];exact⟨⟨hnz u ae,hs u ae⟩,h2⟩
  .dsimp only;by_cases e:ms[u]! =bC us ((u:Nat):Int)
   .rw[nW,e];intro t ht;obtain⟨v,hv,h2,rfl⟩:=jX.1 ht;intro e2;obtain rfl:v=u:=by dsimp only at e2;omega
    exact h2 e
   .exact lr (pP _) ⟨((u:Nat):Int),ms[u]!⟩ (jX.2 ⟨u,ae,e,rfl⟩)
 .cases h
def Eh {us:List bN}{ms:List Int}(h:∀u,u<ms.length->ms[u]! ≠0):(hH us ms).2=true:=by
 unfold hH;rw[aw (by rw[dr];intro u _ hu;simpa using h u hu)]
def zE {us:List bN}{l:List bK}(h:eN us l=true):l.length<=us.length:=by
 obtain⟨h1,h2⟩:=eE.1 h;have h3:∀t∈l,0<=t.u/\t.u<us.length:=fun t ht=>uC (h1 t ht)
 rw[Lt,List.pairwise_iff_getElem]at h2;have key:∀i (hi:i<l.length),(i:Int)<=l[i].u:=by
  intro i;induction i with
  |zero=>intro hi;exact(h3 _ (List.getElem_mem hi)).1
  |succ i ih=>
   intro hi;have:=ih ae;have:=h2 i (i+1) ae hi ae;omega
 rcases Nat.eq_zero_or_pos l.length with h0|h0
 .omega
 .have:=key (l.length-1) ae;have:=(h3 _ (List.getElem_mem (show l.length-1<l.length by omega))).2;omega
def D7 {us:List bN}{u:Nat}(hu:u<us.length):(kL us)[u]! =bC us ((u:Nat):Int):=by
 simp[kL,kM,hu]
def JF {ms:List Int}{i u:Nat}{v:Int}(hu:u<ms.length):(ms.set i v)[u]! =if i=u then v else ms[u]! :=by
 simp only[List.getElem!_eq_getElem?_getD,List.getElem?_set];split
 .rename_i h;subst h;rw[aw hu];rfl
 .rfl
def Gg {us:List bN}{l:List bK}(hs:qf us)(hin:∀t∈l,0<=t.u/\t.u<us.length):∀{n},n<=l.length->∀u,u<us.length->sR (mH us l n)[u]! /\∀i,bt (mH us l n)[u]! i=(bt (bC us ((u:Nat):Int)) i&&(l.take n).all fun t=>decide (t.u≠((u:Nat):Int)) ||bt t.m i)
 |0,_,u,hu=>by
  rw[mH,D7 hu];exact⟨nb hs,fun i=>bc⟩
 |n+1,hn,u,hu=>by
  have ih:=Gg hs hin (show n<=l.length by omega) u hu;have ht:=hin _ (aj (show n<l.length by omega));rw[mH,BD,JF (by rw[nu];exact hu)];rw[<-gE (show n<l.length by omega)];simp only[List.all_append,List.all_cons,List.all_nil,eL];by_cases e:l[n]!.u.toNat=u
  .rw[aw e,e];refine⟨lS _ _,fun i=>?_⟩;rw[kI,ih.2,cZ (show ¬l[n]!.u≠((u:Nat):Int)by omega),Bool.false_or,Bool.and_assoc]
  .rw[ai e,cj (show l[n]!.u≠((u:Nat):Int)by omega)];simpa using ih
def Ko {us:List bN}{l:List bK}(hs:qf us)(h:(tM us l).2=true):eN us (tM us l).1=true/\(∀t∈l,0<=t.u/\t.u<us.length)/\∀u,u<us.length->sR (aK us (tM us l).1 ((u:Nat):Int))/\aK us (tM us l).1 ((u:Nat):Int)≠0/\
  ∀i,bt (aK us (tM us l).1 ((u:Nat):Int)) i=(bt (bC us ((u:Nat):Int)) i&&l.all fun t=>decide (t.u≠((u:Nat):Int)) ||bt t.m i):=by
 unfold tM at h⊢;split at h
 .rename_i ha;rw[aw ha];rw[dr]at ha;have hin:∀t∈l,0<=t.u/\t.u<us.length:=fun t ht=>by
   obtain⟨i,hi,rfl⟩:=List.mem_iff_getElem.1 ht;have:=ha i ae hi;simpa[Kl,hi]using this
  have hg:=Gg hs hin (aJ l.length);rw[List.take_length]at hg;have hsub:Li us (mH us l l.length):=fun u hu=>by
   rw[iE (hg u hu).1];intro i hi;rw[(hg u hu).2]at hi;simp only[bp]at hi;exact hi.1
  obtain⟨h1,h2,h3⟩:=B7 (nu us l _) hsub h;refine⟨h1,hin,fun u hu=>?_⟩;rw[h2 u hu];exact⟨(hg u hu).1,h3 u hu,(hg u hu).2⟩
 .cases h
def sf {l:List bK}{u:Nat}{t:bK}:t∈ID l u↔t∈l/\t.u=((u:Nat):Int):=by simp[ID]
def qW {l:List bK}{t:bK}:∀{n},t∈iP l n↔t∈l/\0<=t.u/\t.u<((n:Nat):Int)
 |0=>⟨fun h=>(by cases h),fun⟨_,h1,h2⟩=>ae⟩
 |n+1=>by
  rw[iP,List.mem_append,qW,sf];constructor
  .rintro(⟨h,h1,h2⟩|⟨h,h1⟩)
   .exact⟨h,h1,ae⟩
   .exact⟨h,ae,ae⟩
  .rintro⟨h,h1,h2⟩;by_cases e:t.u=((n:Nat):Int)
   .exact .inr ⟨h,e⟩
   .exact .inl ⟨h,h1,ae⟩
def zz {l:List bK}(h:l.Pairwise fun a b=>a.u≠b.u):∀n,Lt (iP l n)
 |0=>List.Pairwise.nil
 |n+1=>by
  rw[iP];refine List.pairwise_append.2 ⟨zz h n, ?_,fun a ha b hb=>?_⟩
  .refine List.Pairwise.imp_of_mem ?_ (h.filter fun t=>decide (t.u=((n:Nat):Int)));intro a b ha hb hab;exact absurd ((sf.1 ha).2.trans (sf.1 hb).2.symm) hab
  .have:=(qW.1 ha).2.2;have:=(sf.1 hb).2;omega
def BK {l:List bK}{u:Int}{t:bK}:t∈kJ l u↔t∈l/\t.u≠u:=by simp[kJ]
def tI {us:List bN}{u v:Int}(hv:v≠u):∀l:List bK,aK us (kJ l u) v=aK us l v
 |[]=>rfl
 |t::r=>by
  have ih:=tI (us:=us) hv r;unfold kJ at ih⊢;by_cases e:t.u=u
  .rw[List.filter_cons_of_neg (by simpa using e),ih,aK,ai ae]
  .rw[List.filter_cons_of_pos (by simpa using e),aK,aK,ih]
def ur {us:List bN}{x y:ar}(hu:x.unit=y.unit)(h:∀v,v≠x.unit->aK us x.terms v=aK us y.terms v)(k:Nat)(mild:Bool):mB us x k mild=mB us y k mild:=by
 have h1:∀b,fB b us x (k:Int)=fB b us y (k:Int):=by
  intro b;funext w;unfold fB uz tD;rw[<-hu];by_cases e:w.u=x.unit
  .simp only[aw e]
  .simp only[ai e,h _ e]
 have h2:gC us x (k:Int)=gC us y (k:Int):=by
  funext l;unfold gC;rw[h1]
 unfold mB;rw[<-hu,h1,h2]
def one_pow:(1:Int)=2^0:=rfl
def nM {m:Int}{k:Nat}(hk:k<=40):il m (2^k)=0↔bt m k=false:=by
 rw[sZ];constructor
 .intro h;cases e:bt m k with
  |false=>rfl
  |true=>exact absurd ⟨e,by rw[sX hk];simp⟩ (h k)
 .rintro h i ⟨h1,h2⟩;rw[sX hk,b9]at h2;subst h2;rw[h]at h1;cases h1
def lT {us:List bN}{r:ar}{mild:Bool}(hs:qf us)(hu:0<=r.unit/\r.unit<us.length):iq us r mild=true↔vj r.terms r.unit=true/\bt (aK us r.terms r.unit) 0=false/\∀k,k<us[r.unit.toNat]!.cands.length->bt (aK us r.terms r.unit) (k+1)=true->mB us r k mild=true:=by
 have hc:=hs _ (aj (show r.unit.toNat<us.length by omega));unfold iq;rw[bp,bp,b9,one_pow,nM ae,dr,and_assoc];refine and_congr Iff.rfl (and_congr Iff.rfl ⟨fun h k hk hb=>?_,fun h k _ hk=>?_⟩)
 .have:=h k ae hk;rw[ek,b9,nM ae]at this;rcases this with h1|h1
  .rw[hb]at h1;cases h1
  .exact h1
 .rw[ek,b9,nM ae];cases e:bt (aK us r.terms r.unit) (k+1)with
  |false=>exact .inl rfl
  |true=>exact .inr (h k hk e)
def jF (us:List bN)(allow:List Int)(r:ar):Prop:=eN us r.terms=true/\(r.a=0/\r.b=0)/\(0<=r.unit/\r.unit<us.length)/\
 (r.kind=1/\r.unit=0/\aK us r.terms 0=1\/(r.kind=2\/r.kind=3)/\iq us r (decide (r.kind=3))=true\/r.kind=4/\r.unit<allow.length/\il (aK us r.terms r.unit) allow[r.unit.toNat]! =0)
def F3 {us:List bN}{l:List bK}{u:Int}(h:aK us l u≠bC us u):vj l u=true:=by
 rcases pJ us u l 0 with⟨_,_,e⟩|⟨_,_,_,_,_,e⟩
 .exact absurd e h
 .exact e
def yQ (us:List bN)(x r:ar):∃n,n=48/\(fF us x r).terms=iP (⟨r.unit,ra (aK us x.terms r.unit) (aK us r.terms r.unit)⟩::kJ x.terms r.unit) n:=⟨48,rfl,by unfold fF wv;rfl⟩
def AT (us:List bN)(x r:ar):(fF us x r).kind=x.kind/\(fF us x r).unit=x.unit/\(fF us x r).a=x.a/\(fF us x r).b=x.b:=by
 unfold fF;exact⟨by dsimp only,by dsimp only,by dsimp only,by dsimp only⟩
def Ge {us:List bN}{allow:List Int}{x r:ar}(hs:qf us)(h48:us.length<=48)(hx:jF us allow x)(hr:jF us allow r)(hk:r.kind=2\/r.kind=3)(hl:nn x r=true):jF us allow (fF us x r):=by
 simp only[nn,bp,b9]at hl;obtain⟨⟨e1,e2⟩,e3⟩:=hl;obtain⟨x1,x2,x3,x4⟩:=hx;obtain⟨r1,r2,r3,r4⟩:=hr;have xc:iq us x (decide (r.kind=3))=true:=by
  rw[<-e1];rcases x4 with h|h|h
  .omega
  .exact h.2
  .omega
 have rc:iq us r (decide (r.kind=3))=true:=by
  rcases r4 with h|h|h
  .omega
  .exact h.2
  .omega
 rw[lT hs x3]at xc;rw[lT hs r3]at rc;obtain⟨x5,x6⟩:=eE.1 x1;have hxin:∀t∈x.terms,0<=t.u/\t.u<us.length:=fun t ht=>uC (x5 t ht)
 have hM:(⟨r.unit,ra (aK us x.terms r.unit) (aK us r.terms r.unit)⟩::kJ x.terms r.unit:List bK).Pairwise fun a b=>a.u≠b.u:=by
  refine List.pairwise_cons.2 ⟨fun t ht=>?_, ?_⟩
  .exact fun e=>(BK.1 ht).2 e.symm
  .exact(List.Pairwise.filter _ x6).imp fun h=>ae
 obtain⟨k1,k2,k3,k4⟩:=AT us x r;obtain⟨n48,hn48,hT⟩:∃n,n=48/\(fF us x r).terms=iP (⟨r.unit,ra (aK us x.terms r.unit) (aK us r.terms r.unit)⟩::kJ x.terms r.unit) n:=yQ us x r
 have hlt:Lt (fF us x r).terms:=by rw[hT];exact zz hM n48
 have hmem:∀t,t∈(fF us x r).terms↔t=⟨r.unit,ra (aK us x.terms r.unit) (aK us r.terms r.unit)⟩\/t∈x.terms/\t.u≠r.unit:=by
  intro t;rw[hT,qW,dq,BK];constructor
  .exact fun h=>h.1
  .intro h;refine⟨h, ?_⟩;rcases h with rfl|h
   .dsimp only;omega
   .have:=hxin t h.1;omega
 have hmu:aK us (fF us x r).terms r.unit=ra (aK us x.terms r.unit) (aK us r.terms r.unit):=lr hlt ⟨r.unit,_⟩ ((hmem _).2 (.inl rfl));have hmv:∀v,v≠r.unit->aK us (fF us x r).terms v=aK us x.terms v:=by
  intro v hv;rcases xj (us:=us) (v:=v) x6 with⟨t,ht,rfl,e⟩|⟨hn,e⟩
  .rw[e];exact lr hlt t ((hmem t).2 (.inr ⟨ht,hv⟩))
  .rw[e];refine nW fun t ht=>?_
   rcases(hmem t).1 ht with rfl|h
   .exact fun e=>hv e.symm
   .exact hn t h.1
 have hmr:∀v,v≠r.unit->aK us (fF us x r).terms v=aK us r.terms v:=fun v hv=>by
  rw[hmv v hv,<-tI hv x.terms,e3,tI hv]
 have sx:=lu (u:=r.unit) hs x1;have sr:=lu (u:=r.unit) hs r1;have hb0:bt (ra (aK us x.terms r.unit) (aK us r.terms r.unit)) 0=false:=by
  rw[sW,rc.2.1,<-e2,xc.2.1];rfl
 obtain⟨n,hn⟩:∃n:Nat,r.unit=(n:Int):=⟨r.unit.toNat,ae⟩
 have hnl:n<us.length:=ae;have hfull:bt (bC us r.unit) 0=true:=by rw[hn,kB hnl hs];simp
 have hne:ra (aK us x.terms r.unit) (aK us r.terms r.unit)≠bC us r.unit:=fun e=>by rw[e,hfull]at hb0;cases hb0
 generalize fF us x r=y at*
 refine⟨eE.2 ⟨fun t ht=>?_,hlt⟩,by rw[k3,k4];exact x2,by rw[k2];exact x3,.inr (.inl ⟨ae, ?_⟩)⟩
 .rcases(hmem t).1 ht with rfl|h
  .simp only[nH,bp,b9];refine⟨⟨?_, ?_⟩,hne⟩
   .rw[Gp (wX _ _)];obtain⟨t,ht,e,e5⟩:∃t∈r.terms,t.u=r.unit/\aK us r.terms r.unit=t.m:=by
     rcases xj (us:=us) (v:=r.unit) (eE.1 r1).2 with h|⟨_,h⟩
     .exact h
     .have:=rc.2.1;rw[h,hfull]at this;cases this
    have h1:=(eE.1 r1).1 t ht;have h2:=xR h1;simp only[nH,bp,b9]at h1;obtain⟨i,hi⟩:=(Gp h2).1 h1.1.1;exact⟨i,by rw[sW,e5,hi,Bool.or_true]⟩
   .rw[iE (wX _ _)];intro i hi;rw[sW,ek]at hi;rcases hi with hi|hi
    .exact(iE sx.1).1 sx.2 i hi
    .exact(iE sr.1).1 sr.2 i hi
  .exact x5 t h.1
 .rw[k1,e1,lT hs (by rw[k2];exact x3),k2,e2,hmu];refine⟨F3 (by rw[hmu];exact hne),hb0,fun k hk2 hb=>?_⟩;rw[sW,ek]at hb;rcases hb with hb|hb
  .rw[<-ur (x:=x) (y:=y) k2.symm (fun v hv=>(hmv v (by rw[<-e2];exact hv)).symm)];exact xc.2.2 k (by rw[e2];exact hk2) (by rw[e2];exact hb)
  .rw[<-ur (x:=r) (y:=y) (by rw[k2,e2]) (fun v hv=>(hmr v hv).symm)];exact rc.2.2 k hk2 hb
def L4 {us:List bN}{allow:List Int}{rows:List ar}{r:ar}(hs:qf us)(h48:us.length<=48)(hx:∀x∈rows,jF us allow x)(hr:jF us allow r)(hk:r.kind=2\/r.kind=3):∀x∈mh us rows r,jF us allow x:=by
 unfold mh;split
 .rename_i hi;intro x h;rcases List.mem_or_eq_of_mem_set h with h|rfl
  .exact hx x h
  .refine Ge hs h48 (hx _ (aj hi)) hr hk ?_;have key:∀k i,ij (fun i=>!nn rows[i]! r) k i<i+k->nn rows[ij (fun i=>!nn rows[i]! r) k i]! r=true:=by
    intro k;induction k with
    |zero=>intro i h;rw[ij]at h;omega
    |succ k ih=>
     intro i h;rw[ij]at h⊢;split at h
     .rename_i h2;rw[aw h2];exact ih _ ae
     .rename_i h2;rw[ai h2];simpa using h2
   exact key _ _ (by rw[aW];exact hi)
 .intro x h;rcases List.mem_append.1 h with h|h
  .exact hx x h
  .obtain rfl:=bl.1 h;exact hr
section
def vH {us:List bN}{allow:List Int}{u k:Nat}{l:List Want}{bar:Bool}(hs:qf us)(hu:u<us.length)(hk:k<us[u]!.cands.length)
  (hl:if bar=true then ∃w∈us[u]!.cands[k]!.bars,l=[w]else l∈us[u]!.cands[k]!.needs) (h:(dS us u k l bar).2=true):jF us allow ⟨if bar=true then 3 else 2,((u:Nat):Int),0,0,(dS us u k l bar).1⟩:=by
 have hc:=hs _ (aj hu);unfold dS at h⊢;obtain⟨g1,g2,g3⟩:=Ko hs h;obtain⟨m1,m2,m3⟩:=g3 u hu;have hbit:∀i,bt (aK us (tM us (eQ us u k l bar)).1 ((u:Nat):Int)) i=true->i=k+1:=by
  intro i hi;rw[m3,bp,List.all_eq_true]at hi;have:=hi.2 _ (List.mem_cons_self ..);simp only[ne_eq,not_true_eq_false,decide_false,Bool.false_or,kI,sX (show k+1<=40 by omega),bp,b9]at this;exact this.2
 obtain⟨i,hi⟩:=(Gp m1).1 m2;obtain rfl:=hbit i hi;have hall:∀w∈l,w.u=((u:Nat):Int)->bt (if bar=true then e8 us w else bC us w.u-e8 us w) (k+1)=true:=by
  intro w hw e;rw[m3,bp,List.all_eq_true]at hi;have:=hi.2 ⟨w.u,if bar=true then e8 us w else bC us w.u-e8 us w⟩ (List.mem_cons_of_mem _ (fq.2 ⟨w,hw,rfl⟩));simpa[e]using this
 have hoth:∀w∈l,0<=w.u/\w.u<us.length/\sR (aK us (tM us (eQ us u k l bar)).1 w.u)/\∀i,bt (aK us (tM us (eQ us u k l bar)).1 w.u) i=true->bt (if bar=true then e8 us w else bC us w.u-e8 us w) i=true:=by
  intro w hw;have hm:(⟨w.u,if bar=true then e8 us w else bC us w.u-e8 us w⟩:bK)∈eQ us u k l bar:=List.mem_cons_of_mem _ (fq.2 ⟨w,hw,rfl⟩);have hin:=g2 _ hm;dsimp only at hin;obtain⟨v,hv⟩:∃v:Nat,w.u=(v:Int):=⟨w.u.toNat,ae⟩
  obtain⟨n1,_,n3⟩:=g3 v ae;refine⟨hin.1,hin.2,by rw[hv];exact n1,fun i hi=>?_⟩;rw[hv,n3,bp,List.all_eq_true]at hi;have:=hi.2 _ hm;simpa[hv]using this
 have hf0:bt (bC us ((u:Nat):Int)) 0=true:=by rw[kB hu hs];simp
 have hb0:bt (aK us (tM us (eQ us u k l bar)).1 ((u:Nat):Int)) 0=false:=by
  cases e:bt (aK us (tM us (eQ us u k l bar)).1 ((u:Nat):Int)) 0 with
  |false=>rfl
  |true=>have:=hbit 0 e;omega
 have hu':(0:Int)<=((u:Nat):Int)/\((u:Nat):Int)<us.length:=ae;refine⟨g1,⟨rfl,rfl⟩,hu',.inr (.inl ⟨by cases bar<;>simp, ?_⟩)⟩;rw[lT hs hu'];dsimp only;refine⟨F3 (fun e=>by rw[e,hf0]at hb0;cases hb0),hb0,fun k2 hk2 hb=>?_⟩;obtain rfl:k2=k:=by have:=hbit _ hb;omega
 unfold mB;dsimp only;rw[Int.toNat_natCast];cases bar with
 |false=>
  simp only[gh,aN]at hl hall hoth⊢;rw[ai bJ,List.any_eq_true];refine⟨l,hl, ?_⟩;unfold gC;rw[ey,List.any_eq_false];intro w hw;simp only[fB,gh,aN,ey,Bool.not_eq_false];unfold tD;dsimp only;split
  .rename_i e;rw[b9,show((k2:Int)+1).toNat=k2+1 from rfl,nM ae];have:=hall w hw e;rw[BJ hs,bp,ey]at this;exact this.2
  .rename_i e;rw[b9,sZ];rintro i ⟨h1,h2⟩;have:=(hoth w hw).2.2.2 i h2;rw[BJ hs,h1]at this;simp at this
 |true=>
  simp only[aT]at hl hall hoth⊢;obtain⟨w,hw,rfl⟩:=hl;rw[aw bJ,List.any_eq_true];refine⟨w,hw, ?_⟩;simp only[fB,aT];unfold uz;dsimp only;split
  .rename_i e;rw[b9,show((k2:Int)+1).toNat=k2+1 from rfl,Ne,nM ae,hall w (.head _) e];exact Bool.noConfusion
  .rename_i e;obtain⟨_,_,n1,n2⟩:=hoth w (.head _);rw[b9,Ke n1,iE n1];exact n2
abbrev jJ (us:List bN)(allow:List Int)(rows:List ar):Prop:=∀x∈rows,jF us allow x
section
variable {us:List bN} {allow:List Int}
def Fp {rows:List ar}{kind u:Int}{c:List bK×Bool}(hs:qf us)(h48:us.length<=48)(hk:kind=2\/kind=3)(hx:jJ us allow rows)(hr:c.2=true->jF us allow ⟨kind,u,0,0,c.1⟩):jJ us allow (uW us rows kind u c):=by
 unfold uW;split
 .rename_i h;exact L4 hs h48 hx (hr h) hk
 .exact hx
def tS (hs:qf us)(h48:us.length<=48){u i:Nat}(hu:u<us.length)(hi:i<us[u]!.cands.length){rows:List ar}(hx:jJ us allow rows):∀{k},k<=us[u]!.cands[i]!.needs.length->jJ us allow (dL us u i us[u]!.cands[i]!.needs rows k)
 |0,_=>hx
 |k+1,hk=>Fp hs h48 (.inl rfl) (tS hs h48 hu hi hx ae) fun h=>vH (bar:=false) hs hu hi (by simpa using aj (show k<us[u]!.cands[i]!.needs.length by omega)) h
def wU (hs:qf us)(h48:us.length<=48){u i:Nat}(hu:u<us.length)(hi:i<us[u]!.cands.length){rows:List ar}(hx:jJ us allow rows):∀{k},k<=us[u]!.cands[i]!.bars.length->jJ us allow (iN us u i us[u]!.cands[i]!.bars rows k)
 |0,_=>hx
 |k+1,hk=>Fp hs h48 (.inr rfl) (wU hs h48 hu hi hx ae) fun h=>vH (bar:=true) hs hu hi ⟨_,aj (show k<us[u]!.cands[i]!.bars.length by omega),rfl⟩ h
def tc (hs:qf us)(h48:us.length<=48){u:Nat}(hu:u<us.length){rows:List ar}(hx:jJ us allow rows):∀{i},i<=us[u]!.cands.length->jJ us allow (dw us u us[u]!.cands rows i)
 |0,_=>hx
 |i+1,hi=>wU hs h48 hu ae (tS hs h48 hu ae (tc hs h48 hu hx ae) (aJ _)) (aJ _)
def Jx (hs:qf us)(h0:0<us.length)(h1:1<=us[0]!.cands.length):jF us allow Pu:=by
 have hc:=hs _ (aj h0);have hI:sR 1:=⟨bJ,bJ⟩;have hb1:∀i,bt 1 i=decide (i=0):=fun i=>by rw[one_pow];exact sX ae i
 refine⟨eE.2 ⟨fun t ht=>?_,List.pairwise_singleton _ _⟩,⟨rfl,rfl⟩,⟨Int.le_refl 0,by show(0:Int)<us.length;omega⟩,.inl ⟨rfl,rfl,rfl⟩⟩;obtain rfl:=bl.1 ht;simp only[nH,bp,b9];have hf:=kB h0 hs;refine⟨⟨bJ, ?_⟩,fun e=>?_⟩
 .rw[iE hI];intro i hi;rw[hb1,b9]at hi;subst hi;have:=hf 0;rw[show((0:Nat):Int)=0 from rfl]at this;rw[this];simp
 .have:=hf 1;rw[show((0:Nat):Int)=0 from rfl,<-e,hb1,cZ bJ]at this;exact absurd h1 (of_decide_eq_false this.symm)
def uE (hs:qf us)(h48:us.length<=48)(h0:0<us.length)(h1:1<=us[0]!.cands.length):∀{u},u<=us.length->jJ us allow (cY us u)
 |0,_=>fun x hx=>by obtain rfl:=bl.1 hx;exact Jx hs h0 h1
 |u+1,hu=>tc hs h48 ae (uE hs h48 h0 h1 ae) (aJ _)
def IC {u:Nat}(hs:qf us)(hu:u<us.length)(ha:u<allow.length)(h:(sS us allow u).2=true):jF us allow ⟨4,((u:Nat):Int),0,0,(sS us allow u).1⟩:=by
 unfold sS at h⊢;obtain⟨g1,g2,g3⟩:=Ko hs h;obtain⟨m1,m2,m3⟩:=g3 u hu;refine⟨g1,⟨rfl,rfl⟩,ep,.inr (.inr ⟨rfl,ep, ?_⟩)⟩;dsimp only;rw[Int.toNat_natCast,sZ];rintro i ⟨h1,h2⟩;rw[m3,bp,List.all_eq_true]at h1;have:=h1.2 _ (.head _);simp only[ne_eq,not_true_eq_false,decide_false,Bool.false_or]at this;rw[Fw (lS _ _) (by rw[iE (lS _ _)];intro i hi;rw[kI,bp]at hi;exact hi.1),kI,h2]at this;simp at this
def BG (hs:qf us)(h48:us.length<=48)(h0:0<us.length)(h1:1<=us[0]!.cands.length):∀{u},u<=us.length->u<=allow.length->jJ us allow (mY us allow u)
 |0,_,_=>uE hs h48 h0 h1 (aJ _)
 |u+1,hu,ha=>by
  have ih:=BG hs h48 h0 h1 (show u<=us.length by omega) (show u<=allow.length by omega);rw[mY];split
  .rename_i h;intro x hx;rcases List.mem_append.1 hx with hx|hx
   .exact ih x hx
   .obtain rfl:=bl.1 hx;exact IC hs ae ae h
  .exact ih
def yC (hs:qf us)(h48:us.length<=48)(h0:0<us.length)(h1:1<=us[0]!.cands.length):jJ us allow (jG us allow):=BG hs h48 h0 h1 (Nat.min_le_right _ _) (Nat.min_le_left _ _)
end
end
def Fc (us:List bN)(c:List Int):Prop:=c.length<=us.length/\∀u,u<c.length->-1<=c[u]! /\c[u]! <us[u]!.cands.length
def vb (c:List Int)(u:Nat):Nat:=(c[u]! +1).toNat
def HL {us:List bN}{c:List Int}{u:Nat}(hs:qf us)(hc:Fc us c)(hu:u<c.length):mq us c ((u:Nat):Int)=2^vb c u/\vb c u<=us[u]!.cands.length:=by
 have h1:=hc.2 u hu;have h2:=hc.1;have h3:=hs _ (aj (show u<us.length by omega));unfold mq vb;rw[ai ae,Int.toNat_natCast,ai ae];exact⟨rfl,ae⟩
def OS (us:List bN)(c:List Int)(l:List bK):Prop:=eN us l=true/\(∀t∈l,t.u<c.length)/\∀u,u<c.length->bt (aK us l ((u:Nat):Int)) (vb c u)=true
def DY {us:List bN}{c:List Int}{r:ar}(hs:qf us)(hc:Fc us c)(hv:eN us r.terms=true)(h:lU us c r=true):OS us c r.terms:=by
 unfold lU at h;rw[Cd]at h;have ht:∀t∈r.terms,rA us c t=true:=fun t ht=>by
  obtain⟨i,hi,rfl⟩:=List.mem_iff_getElem.1 ht;have:=h i hi;simpa[hi]using this
 obtain⟨h1,h2⟩:=eE.1 hv;have hlt:∀t∈r.terms,t.u<c.length:=fun t h3=>by
  have:=ht t h3;simp only[rA,bp,b9]at this;exact this.1
 refine⟨hv,hlt,fun u hu=>?_⟩;obtain⟨v1,v2⟩:=HL hs hc hu;rcases xj (us:=us) (v:=((u:Nat):Int)) h2 with⟨t,h3,e,e2⟩|⟨_,e2⟩
 .rw[e2];have:=ht t h3;simp only[rA,qu,bp,b9]at this;rw[e,v1,yt]at this;have h16:=hs _ (aj (show u<us.length by have:=hc.1;omega));cases e3:bt t.m (vb c u)with
  |true=>rfl
  |false=>exact absurd ((nM ae).2 e3) this.2
 .rw[e2,kB (by have:=hc.1;omega) hs];simpa using v2
def eI (w:bI)(allow:List Int)(rows:List ar):Prop:=∀i,i<rows.length->dn ⟨w,allow,rows⟩ ((i:Nat):Int)=true
def p0 {rows:List ar}{n j:Nat}(h:j<n):(rows.take n)[j]! =rows[j]! :=by
 simp[List.getElem!_eq_getElem?_getD,List.getElem?_take,h]
def tv {w:bI}{allow:List Int}{rows:List ar}{n i:Nat}(hi:i<n)(hn:n<=rows.length):dn ⟨w,allow,rows.take n⟩ ((i:Nat):Int)=dn ⟨w,allow,rows⟩ ((i:Nat):Int):=by
 have hg:=p0 (rows:=rows) hi;unfold dn;simp only[Int.toNat_natCast,hg,fZ];rw[cj (show((i:Nat):Int)<((min n rows.length:Nat):Int)by omega),cj (show((i:Nat):Int)<(rows.length:Int)by omega)];congr 1;unfold kF;split
 .unfold jL;dsimp only;by_cases ha:0<=rows[i]!.a/\rows[i]!.a<((i:Nat):Int)
  .by_cases hb:0<=rows[i]!.b/\rows[i]!.b<((i:Nat):Int)
   .rw[p0 (show rows[i]!.a.toNat<n by omega),p0 (show rows[i]!.b.toNat<n by omega)]
   .rw[show(decide (0<=rows[i]!.b)&&decide (rows[i]!.b<((i:Nat):Int)))=false by rw[fI,dG,dG];omega];simp
  .rw[show(decide (0<=rows[i]!.a)&&decide (rows[i]!.a<((i:Nat):Int)))=false by rw[fI,dG,dG];omega];simp
 .rfl
def EJ {w:bI}{allow:List Int}{rows:List ar}{n:Nat}(h:eI w allow rows)(hn:n<=rows.length):eI w allow (rows.take n):=by
 intro i hi;rw[fZ]at hi;rw[tv ae hn];exact h i ae
def zq {w:bI}{allow:List Int}{rows:List ar}{r:ar}(h:eI w allow rows)(hr:dn ⟨w,allow,rows++[r]⟩ ((rows.length:Nat):Int)=true):eI w allow (rows++[r]):=by
 intro i hi;rw[cD,List.length_singleton]at hi;rcases cJ i rows.length with h1|h1
 .rw[<-tv (n:=rows.length) h1 bc,List.take_left];exact h i h1
 .obtain rfl:i=rows.length:=ae;exact hr
def mj {w:bI}{allow:List Int}{rows:List ar}(h:eI w allow rows){i:Nat}(hi:i<rows.length):eN w.us rows[i]!.terms=true:=by
 have:=h i hi;unfold dn at this;simp only[bp,Int.toNat_natCast]at this;exact this.1.2
def lf {rows:List ar}{r:ar}:(rows++[r])[rows.length]! =r:=by simp[List.getElem!_eq_getElem?_getD]
def sc {rows more:List ar}{i:Nat}(h:i<rows.length):(rows++more)[i]! =rows[i]! :=by
 simp[List.getElem!_eq_getElem?_getD,List.getElem?_append_left h]
def Au {w:bI}{allow:List Int}{rows:List ar}{r:ar}(hr:jF w.us allow r):dn ⟨w,allow,rows++[r]⟩ ((rows.length:Nat):Int)=true:=by
 obtain⟨h1,⟨h2,h3⟩,h4,h5⟩:=hr;unfold dn;simp only[Int.toNat_natCast,lf,cD,List.length_singleton,bp,b9];refine⟨⟨⟨ae,ae⟩,h1⟩, ?_⟩;unfold kF;have hfn:bC w.us r.unit≠0:=by
  have:=BZ (us:=w.us) (u:=r.unit);rw[cj h4.1,cj h4.2]at this;exact of_decide_eq_true this
 rcases h5 with⟨k,h6,h7⟩|⟨k,h6⟩|⟨k,h6,h7⟩
 .rw[ai ae,aw k,h2,h3,h6,h7];rfl
 .rw[ai ae,ai ae,aw k,h2,h3,h6];rfl
 .rw[ai ae,ai ae,ai ae,aw k,h2,h3];unfold uZ;simp only[bp,b9,decide_true,ca];exact⟨⟨hfn,h6⟩,h7⟩
def oK {us:List bN}{a b:List bK}{unit:Int}{u:Nat}(hu:u<us.length):(eA us a b unit us.length)[u]! =jN us a b unit u:=by
 simp[eA,List.getElem!_eq_getElem?_getD,hu]
def B5 {us:List bN}{a b:List bK}{u:Nat}(hs:qf us)(hu:u<us.length)(ha:eN us a=true)(hb:eN us b=true)(hn:∀v,v<us.length->jN us a b ((u:Nat):Int) v≠0):
  eN us (fT us a b ((u:Nat):Int)).1=true/\∀v,v<us.length->aK us (fT us a b ((u:Nat):Int)).1 ((v:Nat):Int)=jN us a b ((u:Nat):Int) v:=by
 unfold fT;rw[ai ae];have hsub:Li us (eA us a b ((u:Nat):Int) us.length):=by
  intro v hv;rw[oK hv];have sa:=lu (u:=((v:Nat):Int)) hs ha;have sb:=lu (u:=((v:Nat):Int)) hs hb;unfold jN;split
  .rw[iE (wX _ _)];intro i hi;rw[sW,ek]at hi;rcases hi with hi|hi
   .exact(iE sa.1).1 sa.2 i hi
   .exact(iE sb.1).1 sb.2 i hi
  .rw[iE (lS _ _)];intro i hi;rw[kI,bp]at hi;exact(iE sa.1).1 sa.2 i hi.1
 obtain⟨g1,g2,_⟩:=B7 (oL us a b _ _) hsub (Eh fun v hv=>by
  rw[oL]at hv;rw[oK hv];exact hn v hv)
 exact⟨g1,fun v hv=>by rw[g2 v hv,oK hv]⟩
def FB (m:Int):HZ m m=0:=by
 rw[FA,Ct]
 ext i hi;simp
def Ar {w:bI}{allow:List Int}{rows:List ar}{u:Nat}{now x:Int}(hs:qf w.us)(hu:u<w.us.length)(hR:eI w allow rows)(h1:0<=now/\now<rows.length)(h2:0<=x/\x<rows.length)
  (hn:∀v,v<w.us.length->jN w.us rows[now.toNat]!.terms rows[x.toNat]!.terms ((u:Nat):Int) v≠0):dn ⟨w,allow,rows++[gO w.us u now x rows]⟩ ((rows.length:Nat):Int)=true:=by
 have va:=mj hR (show now.toNat<rows.length by omega);have vx:=mj hR (show x.toNat<rows.length by omega);obtain⟨j1,j2⟩:=B5 hs hu va vx hn;unfold dn;simp only[Int.toNat_natCast,lf,cD,List.length_singleton,bp,b9];refine⟨⟨⟨ae,ae⟩,j1⟩, ?_⟩;unfold kF;rw[aw (show(gO w.us u now x rows).kind=5 from rfl)];unfold jL;simp only[bp,b9];rw[show(gO w.us u now x rows).a=now from rfl,show(gO w.us u now x rows).b=x from rfl,sc (show now.toNat<rows.length by omega),sc (show x.toNat<rows.length by omega)];refine⟨⟨⟨⟨?_,ae⟩,ae⟩,va,vx⟩, ?_⟩
 .have:=BZ (us:=w.us) (u:=((u:Nat):Int));rw[cj (show(0:Int)<=((u:Nat):Int)by omega),cj (show((u:Nat):Int)<w.us.length by omega)]at this;exact of_decide_eq_true this
 .rw[dr];intro v _ hv;unfold lh;rw[b9,show(gO w.us u now x rows).terms=(fT w.us rows[now.toNat]!.terms rows[x.toNat]!.terms ((u:Nat):Int)).1 from rfl,j2 v hv];exact FB _
def yg (us:List bN)(c:List Int)(k:Nat)(l:List bK):Prop:=eN us l=true/\(∀t∈l,t.u<c.length+1)/\(∀u,u<c.length->bt (aK us l ((u:Nat):Int)) (vb c u)=true)/\∀j,j<k->bt (aK us l ((c.length:Nat):Int)) j=true
def xm {us:List bN}{c:List Int}{k:Nat}{l:List bK}(h:yg us c k l)(hm:aK us l ((c.length:Nat):Int)=bC us ((c.length:Nat):Int)):OS us c l:=by
 obtain⟨h1,h2,h3,_⟩:=h;refine⟨h1,fun t ht=>?_,h3⟩;have:=h2 t ht;have:=zD h1 hm t ht;omega
def Gj {us:List bN}{c:List Int}{l:List bK}(hs:qf us)(hc:c.length<us.length)(h:yg us c (us[c.length]!.cands.length+1) l):OS us c l:=by
 refine xm h (wW (lu hs h.1).1 (nb hs) fun i=>?_);rw[kB hc hs];have sm:=lu (u:=((c.length:Nat):Int)) hs h.1;by_cases hi:i<=us[c.length]!.cands.length
 .rw[h.2.2.2 i ae,cj hi]
 .rw[cZ hi];cases e:bt (aK us l ((c.length:Nat):Int)) i with
  |false=>rfl
  |true=>
   have:=(iE sm.1).1 sm.2 i e;rw[kB hc hs,b9]at this;exact absurd this hi
def MA {c:List Int}{i:Int}{u:Nat}(h:u<c.length):vb (c++[i]) u=vb c u:=by
 unfold vb;rw[List.getElem!_eq_getElem?_getD,List.getElem?_append_left h,<-List.getElem!_eq_getElem?_getD]
def JT {c:List Int}{i:Int}:vb (c++[i]) c.length=(i+1).toNat:=by
 unfold vb;simp[List.getElem!_eq_getElem?_getD]
def Hy {us:List bN}{c:List Int}{i:Int}{l:List bK}(h:OS us (c++[i]) l):eN us l=true/\(∀t∈l,t.u<c.length+1)/\(∀u,u<c.length->bt (aK us l ((u:Nat):Int)) (vb c u)=true)/\bt (aK us l ((c.length:Nat):Int)) (i+1).toNat=true:=by
 obtain⟨h1,h2,h3⟩:=h;refine⟨h1,fun t ht=>?_,fun u hu=>?_, ?_⟩
 .have:=h2 t ht;simp only[cD,List.length_singleton]at this;omega
 .have:=h3 u ea;rwa [MA hu]at this
 .have:=h3 c.length bc;rwa [JT]at this
def yb (w:bI)(allow:List Int)(c:List Int)(rows:List ar)(r:Int×List ar):Prop:=eI w allow r.2/\(∃more,r.2=rows++more)/\-1<=r.1/\(0<=r.1->r.1<r.2.length/\OS w.us c r.2[r.1.toNat]!.terms)
def vS {w:bI}{allow:List Int}{rows:List ar}{c:List Int}{k:Nat}{now x:Int}(hs:qf w.us)(hc:c.length<w.us.length)(hcok:Fc w.us c)(hR:eI w allow rows)(h1:0<=now/\now<rows.length)(h2:0<=x/\x<rows.length)(hk:0<k)
  (ha:yg w.us c k rows[now.toNat]!.terms) (hb:eN w.us rows[x.toNat]!.terms=true/\(∀t∈rows[x.toNat]!.terms,t.u<c.length+1)/\(∀u,u<c.length->bt (aK w.us rows[x.toNat]!.terms ((u:Nat):Int)) (vb c u)=true)/\bt (aK w.us rows[x.toNat]!.terms ((c.length:Nat):Int)) k=true):
  eI w allow (rows++[gO w.us c.length now x rows])/\yg w.us c (k+1) (gO w.us c.length now x rows).terms:=by
 obtain⟨a1,a2,a3,a4⟩:=ha;obtain⟨b1,b2,b3,b4⟩:=hb;have hm:∀v,v<w.us.length->(v<c.length->bt (jN w.us rows[now.toNat]!.terms rows[x.toNat]!.terms ((c.length:Nat):Int) v) (vb c v)=true)/\(v=c.length->∀j,j<k+1->bt (jN w.us rows[now.toNat]!.terms rows[x.toNat]!.terms ((c.length:Nat):Int) v) j=true)/\(c.length<v->jN w.us rows[now.toNat]!.terms rows[x.toNat]!.terms ((c.length:Nat):Int) v=bC w.us ((v:Nat):Int)):=by
  intro v hv;refine⟨fun h=>?_,fun h j hj=>?_,fun h=>?_⟩
  .unfold jN;rw[ai ae,kI,a3 v h,b3 v h];rfl
  .subst h;unfold jN;rw[aw rfl,sW];rcases cJ j k with h|h
   .rw[a4 j h];rfl
   .obtain rfl:j=k:=ae;rw[b4,Bool.or_true]
  .unfold jN;rw[ai ae,nW (fun t ht=>by have:=a2 t ht;omega),nW (fun t ht=>by have:=b2 t ht;omega)];exact yu (nb hs)
 have hnz:∀v,v<w.us.length->jN w.us rows[now.toNat]!.terms rows[x.toNat]!.terms ((c.length:Nat):Int) v≠0:=by
  intro v hv e;obtain⟨g1,g2,g3⟩:=hm v hv;rcases Nat.lt_trichotomy v c.length with h|h|h
  .have:=g1 h;rw[e,kC]at this;cases this
  .have:=g2 h 0 ae;rw[e,kC]at this;cases this
  .have:=g3 h;have h0:bt (bC w.us ((v:Nat):Int)) 0=true:=by rw[kB hv hs];simp
   rw[<-this,e,kC]at h0;cases h0
 obtain⟨j1,j2⟩:=B5 hs hc a1 b1 hnz;refine⟨zq hR (Ar hs hc hR h1 h2 hnz),j1,fun t ht=>?_,fun u hu=>?_,fun j hj=>?_⟩
 .have hin:=uC ((eE.1 j1).1 t ht);refine Classical.byContradiction fun hge=>?_
  obtain⟨v,hv⟩:∃v:Nat,t.u=(v:Int):=⟨t.u.toNat,ae⟩
  have e:=j2 v ae;rw[(hm v ae).2.2 ae]at e;exact zD j1 e t ht hv
 .show bt (aK w.us (fT w.us _ _ _).1 _) _=true;rw[j2 u ae];exact(hm u ae).1 hu
 .show bt (aK w.us (fT w.us _ _ _).1 _) _=true;rw[j2 c.length hc];exact(hm c.length hc).2.1 rfl j hj
def xQ {w:bI}{allow:List Int}{c:List Int}{rc:List Int->List ar->Int×List ar}(hs:qf w.us)(hc:c.length<w.us.length)(hcok:Fc w.us c)
  (hrc:∀(i:Int) (rows:List ar),-1<=i->i<w.us[c.length]!.cands.length->eI w allow rows->yb w allow (c++[i]) rows (rc (c++[i]) rows)):
  ∀(n k:Nat) (i now:Int) (rows:List ar),n+k=w.us[c.length]!.cands.length+1->i=((k:Nat):Int) -1->eI w allow rows->(k=0/\now=-1\/0<k/\(0<=now/\now<rows.length)/\yg w.us c k rows[now.toNat]!.terms)->yb w allow c rows (mC w.us c.length rc c n i now rows)
 |0,k,i,now,rows,hnk,hi,hR,hN=>by
  rw[mC];refine⟨hR,⟨[],bc⟩, ?_,fun h0=>?_⟩
  .rcases hN with h|h<;>dsimp only<;>omega
  .dsimp only at h0⊢;rcases hN with⟨_,h⟩|⟨_,h1,h2⟩
   .omega
   .obtain rfl:k=w.us[c.length]!.cands.length+1:=ae;exact⟨h1.2,Gj hs hc h2⟩
 |n+1,k,i,now,rows,hnk,hi,hR,hN=>by
  have hr:=hrc i rows ae ae hR;rw[mC];generalize rc (c++[i]) rows=r at hr⊢;obtain⟨e1,⟨more,e2⟩,e3,e4⟩:=hr;have hlen:r.2.length=rows.length+more.length:=by rw[e2,cD]
  split
  .exact⟨e1,⟨more,e2⟩,ep,fun h=>by dsimp only at h;omega⟩
  .rename_i h0;obtain⟨e5,e6⟩:=e4 ae;have e7:=Hy e6;have hkk:(i+1).toNat=k:=ae;rw[hkk]at e7;split
   .rename_i hf;refine⟨e1,⟨more,e2⟩,e3,fun _=>⟨e5,xm (k:=0) ⟨e7.1,e7.2.1,e7.2.2.1,fun j hj=>ae⟩ hf⟩⟩
   .split
    .rename_i hn;obtain⟨rfl,_⟩:k=0/\now=-1:=by
      rcases hN with h|h
      .exact h
      .omega
     have hj0:∀j,j<1->bt (aK w.us r.2[r.1.toNat]!.terms ((c.length:Nat):Int)) j=true:=fun j hj=>by
      obtain rfl:j=0:=ae;exact e7.2.2.2
     have:=xQ hs hc hcok hrc n 1 (i+1) r.1 r.2 ae ae e1 (.inr ⟨ae,⟨ae,e5⟩,e7.1,e7.2.1,e7.2.2.1,hj0⟩);obtain⟨g1,⟨m2,g2⟩,g3,g4⟩:=this;exact⟨g1,⟨more++m2,by rw[g2,e2,kY]⟩,g3,g4⟩
    .rename_i hn;obtain⟨hk,hnw,hnr⟩:0<k/\(0<=now/\now<rows.length)/\yg w.us c k rows[now.toNat]!.terms:=by
      rcases hN with h|h
      .omega
      .exact h
     have hget:r.2[now.toNat]! =rows[now.toNat]! :=by rw[e2];exact sc ae
     obtain⟨j1,j2⟩:=vS (x:=r.1) (now:=now) hs hc hcok e1 ⟨hnw.1,ae⟩ ⟨ae,e5⟩ hk (by rw[hget];exact hnr) e7;split
     .rename_i hf;refine⟨j1,⟨more++[gO w.us c.length now r.1 r.2],by dsimp only;rw[e2,kY,<-e2]⟩,ep,fun _=>⟨by simp only[cD,List.length_singleton];omega, ?_⟩⟩;dsimp only;rw[Int.toNat_natCast,lf];exact xm j2 hf
     .have:=xQ hs hc hcok hrc n (k+1) (i+1) (((r.2.length:Nat):Int)) (r.2++[gO w.us c.length now r.1 r.2]) ae ae j1 (.inr ⟨ae,⟨ae,by simp only[cD,List.length_singleton];omega⟩,by rw[Int.toNat_natCast,lf];exact j2⟩);obtain⟨g1,⟨m2,g2⟩,g3,g4⟩:=this;exact⟨g1,⟨more++([gO w.us c.length now r.1 r.2]++m2),by rw[g2,<-kY rows,<-e2,kY]⟩,g3,g4⟩
def BH {f:Nat->Bool}:∀k i,ij f k i<i+k->f (ij f k i)=false
 |0,i,h=>by rw[ij]at h;omega
 |k+1,i,h=>by
  rw[ij]at h⊢;split at h
  .rename_i h2;rw[aw h2];exact BH k (i+1) ae
  .rename_i h2;rw[ai h2];simpa using h2
def yB {w:bI}{allow:List Int}{facts:List ar}{c:List Int}{rows:List ar}(hs:qf w.us)(hf:jJ w.us allow facts)(hc:Fc w.us c)(hR:eI w allow rows)(h:eg w.us facts c<facts.length):yb w allow c rows (((rows.length:Nat):Int),rows++[facts[eg w.us facts c]!]):=by
 have hF:=hf _ (aj h);refine⟨zq hR (Au hF),⟨_,rfl⟩,ep,fun _=>⟨by simp only[cD,List.length_singleton];omega, ?_⟩⟩;dsimp only;rw[Int.toNat_natCast,lf];refine DY hs hc hF.1 ?_;have:=BH (f:=fun i=>!lU w.us c facts[i]!) facts.length 0 (by unfold eg at h;omega);unfold eg;simpa using this
def Fc.app {us:List bN}{c:List Int}{i:Int}(h:Fc us c)(hl:c.length<us.length)(h1:-1<=i)(h2:i<us[c.length]!.cands.length):Fc us (c++[i]):=by
 refine⟨ea,fun u hu=>?_⟩;rw[cD,List.length_singleton]at hu;rcases cJ u c.length with h3|h3
 .rw[List.getElem!_eq_getElem?_getD,List.getElem?_append_left h3,<-List.getElem!_eq_getElem?_getD];exact h.2 u h3
 .obtain rfl:u=c.length:=ae;simp only[List.getElem!_eq_getElem?_getD,List.getElem?_concat_length,Option.getD_some]at*
  exact⟨h1,h2⟩
def xp {w:bI}{allow:List Int}{facts:List ar}(hs:qf w.us)(hf:jJ w.us allow facts):∀f c rows,c.length+f=w.us.length->Fc w.us c->eI w allow rows->yb w allow c rows (jO w.us facts f c rows)
 |0,c,rows,hl,hc,hR=>by
  rw[jO];split
  .rename_i h;exact yB hs hf hc hR h
  .exact⟨hR,⟨[],bc⟩,ep,fun h=>by dsimp only at h;omega⟩
 |f+1,c,rows,hl,hc,hR=>by
  rw[jO];split
  .rename_i h;exact yB hs hf hc hR h
  .split
   .exact⟨hR,⟨[],bc⟩,ep,fun h=>by dsimp only at h;omega⟩
   .exact xQ hs ae hc (fun i rows h1 h2 hR2=>xp hs hf f (c++[i]) rows ea (hc.app ae h1 h2) hR2) _ 0 (-1) (-1) rows ae ae hR (.inl ⟨rfl,rfl⟩)
def PW (w:bI):Prop:=qf w.us/\w.us.length<=48/\0<w.us.length/\1<=w.us[0]!.cands.length
def y5 {w:bI}{allow:List Int}{l:List ar}(hw:PW w)(h:fj w.us allow=some l):eI w allow l/\0<l.length/\l[l.length-1]!.terms=[]:=by
 obtain⟨hs,h48,h0,h1⟩:=hw;have hf:jJ w.us allow (jG w.us allow):=yC hs h48 h0 h1;have hE:=xp hs hf w.us.length [] [] bc ⟨Nat.zero_le _,fun u hu=>by cases hu⟩ (fun i hi=>by cases hi);have hp:j9 w.us allow=jO w.us (jG w.us allow) w.us.length [] []:=rfl;rw[<-hp]at hE;unfold fj at h;split at h
 .cases h
 .rename_i hn;obtain rfl:=ba h;obtain⟨e1,_,_,e4⟩:=hE;obtain⟨e5,e6⟩:=e4 ae;have hlen:((j9 w.us allow).2.take ((j9 w.us allow).1.toNat+1)).length=(j9 w.us allow).1.toNat+1:=by rw[fZ];omega
  refine⟨EJ e1 ae,ae, ?_⟩;rw[hlen,Nat.add_sub_cancel,p0 ae];refine List.eq_nil_iff_forall_not_mem.2 fun t ht=>?_
  have h2:=e6.2.1 t ht;have h3:=uC ((eE.1 e6.1).1 t ht);simp at h2;omega
def As {w:bI}{allow:List Int}{l:List ar}(hok:okW w allow=true)(h:eI w allow l)(h0:0<l.length)(hl:l[l.length-1]!.terms=[]):gG (okW w allow) (fun j=>dn ⟨w,allow,l⟩ ((j:Nat):Int)) l=(((l.length:Nat):Int),true):=by
 unfold gG;have hb:ij (fun j=>dn ⟨w,allow,l⟩ ((j:Nat):Int)) l.length 0=l.length:=by
  have key:∀k i,i+k=l.length->ij (fun j=>dn ⟨w,allow,l⟩ ((j:Nat):Int)) k i=l.length:=by
   intro k;induction k with
   |zero=>intro i hi;rw[ij];omega
   |succ k ih=>intro i hi;rw[ij,aw (h i ae)];exact ih _ ae
  exact key _ _ ae
 rw[ai (by rw[hok];decide),hb,ai ae,hl,cj h0];rfl
def uw {us:List bN}{u:Nat}{rc:List Int->List ar->Int×List ar}{c:List Int}{B:Nat}(hrc:∀(i:Int)(rows:List ar),(rc (c++[i]) rows).2.length<=max (rows.length+1) B):∀n i now rows,(mC us u rc c n i now rows).2.length<=max rows.length B+2*n
 |0,i,now,rows=>by rw[mC];dsimp only;omega
 |n+1,i,now,rows=>by
  have h1:=hrc i rows;rw[mC];generalize rc (c++[i]) rows=r at h1⊢;have h3:=uw (us:=us) (u:=u) hrc n (i+1) r.1 r.2;have h4:=uw (us:=us) (u:=u) hrc n (i+1) (((r.2.length:Nat):Int)) (r.2++[gO us u now r.1 r.2]);have h5:(r.2++[gO us u now r.1 r.2]).length=r.2.length+1:=bc;rw[h5]at h4;split
  .dsimp only;omega
  .split
   .omega
   .split
    .omega
    .split
     .dsimp only;omega
     .omega
def yU {us:List bN}{facts:List ar}(hs:qf us):∀f c rows,c.length+f=us.length->(jO us facts f c rows).2.length<=max (rows.length+1) (3001+40*f)
 |0,c,rows,hl=>by
  rw[jO];split
  .simp only[cD,List.length_singleton];omega
  .dsimp only;omega
 |f+1,c,rows,hl=>by
  rw[jO];split
  .simp only[cD,List.length_singleton];omega
  .split
   .dsimp only;omega
   .have h1:=uw (us:=us) (u:=c.length) (rc:=jO us facts f) (c:=c) (B:=3001+40*f) (fun i rows=>yU hs f (c++[i]) rows ea) (us[c.length]!.cands.length+1) (-1) (-1) rows;have h2:=hs _ (aj (show c.length<us.length by omega));omega
section
def jB:List (List a7):=(List.range 16).map fun m=>bg ((m:Nat):Int) 4
set_option maxRecDepth 10000
def JG:∀vs∈jB,∀m,m<8->ml (sy ((m:Nat):Int) vs vs.length)=true/\ml (vw (sy ((m:Nat):Int) vs vs.length))=true:=by decide+kernel
def yA:∀v∈cC,ml (bE v)=true/\jC v=true:=by decide+kernel
def Lo:ml uX=true:=by decide+kernel
def Jv:∀vs∈jB,∀k,k<4->0<k->k<vs.length->j4 vs[k-1]! vs[k]! <0:=by decide+kernel
def HF:∀m,m<16->bg ((m:Nat):Int) 4∈jB:=by decide+kernel
def HE {vs:List a7}(h:vs.Sublist cC):vs∈jB:=by
 have key:jB=[[],[cC[0]!],[cC[1]!],[cC[0]!,cC[1]!],[cC[2]!],[cC[0]!,cC[2]!],[cC[1]!,cC[2]!],[cC[0]!,cC[1]!,cC[2]!],[cC[3]!],[cC[0]!,cC[3]!],[cC[1]!,cC[3]!],[cC[0]!,cC[1]!,cC[3]!],[cC[2]!,cC[3]!],[cC[0]!,cC[2]!,cC[3]!],[cC[1]!,cC[2]!,cC[3]!],[cC[0]!,cC[1]!,cC[2]!,cC[3]!]]:=by decide+kernel
 rw[key];have hv:cC=[cC[0]!,cC[1]!,cC[2]!,cC[3]!]:=rfl;rw[hv]at h;generalize cC[0]! =a at*
 generalize cC[1]! =b at*
 generalize cC[2]! =c at*
 generalize cC[3]! =d at*
 clear hv key;cases h with
 |cons _ h=>cases h with
  |cons _ h=>cases h with
   |cons _ h=>cases h with
    |cons _ h=>cases h;simp
    |cons_cons _ h=>cases h;simp
   |cons_cons _ h=>cases h with
    |cons _ h=>cases h;simp
    |cons_cons _ h=>cases h;simp
  |cons_cons _ h=>cases h with
   |cons _ h=>cases h with
    |cons _ h=>cases h;simp
    |cons_cons _ h=>cases h;simp
   |cons_cons _ h=>cases h with
    |cons _ h=>cases h;simp
    |cons_cons _ h=>cases h;simp
 |cons_cons _ h=>cases h with
  |cons _ h=>cases h with
   |cons _ h=>cases h with
    |cons _ h=>cases h;simp
    |cons_cons _ h=>cases h;simp
   |cons_cons _ h=>cases h with
    |cons _ h=>cases h;simp
    |cons_cons _ h=>cases h;simp
  |cons_cons _ h=>cases h with
   |cons _ h=>cases h with
    |cons _ h=>cases h;simp
    |cons_cons _ h=>cases h;simp
   |cons_cons _ h=>cases h with
    |cons _ h=>cases h;simp
    |cons_cons _ h=>cases h;simp
def vL (vs:List a7):∀r g acc k,k+r=vs.length->acc.Sublist (vs.take k)->((eM vs r g acc).1).Sublist vs
 |0,g,acc,k,hk,h=>by
  rw[eM];rw[show k=vs.length by omega,List.take_length]at h;exact h
 |r+1,g,acc,k,hk,h=>by
  rw[eM];refine vL vs r _ _ (k+1) ae ?_;have hx:vs.take k++[vs[k]!]=vs.take (k+1):=gE ae;rw[show vs.length-(r+1)=k by omega,<-hx];split
  .exact List.Sublist.append h (List.Sublist.refl _)
  .exact h.trans (List.sublist_append_left _ _)
def uy:∀vs∈jB,vs.Sublist cC:=by decide+kernel
def IF {m:Int}(h:0<=m/\m<16):bg m 4∈jB:=by
 obtain⟨k,rfl⟩:∃k:Nat,m=(k:Int):=⟨m.toNat,ae⟩
 exact HF k ae
def IM {vs:List a7}{g:Gs}(h:vs∈jB):(eM vs vs.length g []).1∈jB:=HE ((vL vs vs.length g [] 0 ae bc).trans (uy _ h))
def wN (a b:RU):Bool:=Op.bytesLess a.name b.name ||(decide (a.name=b.name)&&Op.bytesLess a.feat b.feat)
def RU.ok (u:RU):Prop:=u.name≠[]/\∃vs,vs∈jB/\u.cs=vs.map aM
structure UI (i:Nat)(us:List RU):Prop where
 head:us[0]! =⟨[],[],[uN]⟩
 len:if i=0 then us.length=1 else 2<=us.length
 body:∀j,1<=j->j<us.length->us[j]!.ok
 first:∀j,1<=j->j<us.length->us[j]!.feat≠[]->2<=j
 chain:∀j,2<=j->j<us.length->wN us[j-1]! us[j]! =true
 last:i≠0->us[us.length-1]!.name=bq[i-1]!
def ui0:UI 0 rY:=⟨rfl,rfl,fun j h1 h2=>by simp[rY]at h2;omega,fun j h1 h2=>by simp[rY]at h2;omega,fun j h1 h2=>by simp[rY]at h2;omega,fun h=>absurd rfl h⟩
def HJ {i k:Nat}{us:List RU}{x:RU}(h:UI i us)(hk:k≠0)(hx:x.ok)(hf:x.feat≠[]->2<=us.length)(ha:2<=us.length->wN us[us.length-1]! x=true)(hn:x.name=bq[k-1]!):UI k (us++[x]):=by
 have hl1:1<=us.length:=by
  have:=h.len;split at this<;>omega
 have hlen:(us++[x]).length=us.length+1:=bc;refine⟨by rw[js ae];exact h.head,by rw[ai hk,hlen];omega,fun j h1 h2=>?_,fun j h1 h2 hf2=>?_,fun j h1 h2=>?_,fun _=>?_⟩
 .rw[hlen]at h2;rcases cJ j us.length with h3|h3
  .rw[js h3];exact h.body j h1 h3
  .rw[jt ae];exact hx
 .rw[hlen]at h2;rcases cJ j us.length with h3|h3
  .rw[js h3]at hf2;exact h.first j h1 h3 hf2
  .rw[jt ae]at hf2;have:=hf hf2;omega
 .rw[hlen]at h2;rcases cJ j us.length with h3|h3
  .rw[js h3,js ae];exact h.chain j h1 h3
  .obtain rfl:j=us.length:=ae;rw[js ae,jt rfl];exact ha h1
 .rw[hlen,Nat.add_sub_cancel,jt rfl];exact hn
def tO:∀i,i<5->bq[i]! ≠[]/\(i≠0->Op.bytesLess bq[i-1]! bq[i]! =true):=by decide+kernel
def HK {i:Nat}{us:List RU}{vs:List a7}(h:UI i us)(hi:i<5)(hv:vs∈jB):UI (i+1) (us++[⟨bq[i]!,[],vs.map aM⟩]):=by
 refine HJ h ae ⟨(tO i hi).1,vs,hv,rfl⟩ (fun hf=>absurd rfl hf) (fun h2=>?_) rfl;have h0:i≠0:=by
  rintro rfl;have:=h.len;simp at this;omega
 unfold wN;rw[h.last h0];dsimp only;rw[(tO i hi).2 h0];rfl
def JS {i:Nat}{us:List RU}{vs vs2:List a7}(h:UI i us)(hi:i<5)(hv:vs∈jB)(hv2:vs2∈jB):UI (i+1) ((us++[⟨bq[i]!,[],vs.map aM⟩])++[⟨bq[i]!,[102],vs2.map aM⟩]):=by
 have h1:=HK h hi hv;have hl:2<=(us++[(⟨bq[i]!,[],vs.map aM⟩:RU)]).length:=by have:=h1.len;rw[ai ae]at this;exact this
 refine HJ h1 ae ⟨(tO i hi).1,vs2,hv2,rfl⟩ (fun _=>hl) (fun _=>?_) rfl;have hl2:(us++[(⟨bq[i]!,[],vs.map aM⟩:RU)]).length=us.length+1:=bc;rw[hl2,Nat.add_sub_cancel,jt rfl];unfold wN;dsimp only;rw[cj rfl];have:Op.bytesLess [] [102]=true:=bJ;rw[this];simp
def qY (few:Int):∀(r:Nat) (g:Gs) (us:List RU),r<=5->UI (5-r) us->∃i,UI i (eC few r g us).1
 |0,g,us,_,h=>⟨5,by rw[eC];exact h⟩
 |r+1,g,us,hr,h=>by
  have hb:bg (g.bo.val 16) 4∈jB:=IF ((Gs.wD g.bo 16).1 bJ);rw[show 5-(r+1)=4-r by omega]at h;rw[eC];split
  .split
   .exact qY few r _ _ ae (by rw[show 5-r=4-r+1 by omega];exact JS h ae hb (IM hb))
   .exact qY few r _ _ ae (by rw[show 5-r=4-r+1 by omega];exact HK h ae hb)
  .exact⟨_,h⟩
def EM (g:Gs)(few:Int):∃i,UI i (dZ g few).1:=qY few 5 g rY ae ui0
def Am (vs:Nat->List a7):Prop:=∀t,1<=t->vs t∈jB
def JC {g:Gs}{vs:List a7}(h:vs∈jB):ml (rX g vs)=true:=by
 have hv:=(Gs.wD g 8).1 bJ;obtain⟨m,hm⟩:∃m:Nat,g.val 8=(m:Int):=⟨(g.val 8).toNat,ae⟩
 have hs:=JG vs h m ae;unfold rX;rw[hm];split
 .exact Lo
 .split
  .exact hs.2
  .exact hs.1
def zJ {g:Gs}{n:Nat}{vs:Nat->List a7}(hn:2<=n)(hv:Am vs):oy (n:Int) (cu g n vs)=true:=by
 have h:=(Gs.wD g ((n:Int) -1)).1 ae;unfold oy cu;dsimp only;rw[cj (show 0<1+g.val ((n:Int) -1)by omega),cj (show 1+g.val ((n:Int) -1)<(n:Int)by omega),JC (hv _ ae)];rfl
def zK {n:Int}{l:List Want}(h:∀w∈l,oy n w=true):pg n l=true:=by
 unfold pg;rw[dr];intro j _ hj;exact h _ (aj hj)
def yk (n:Nat)(l:List kp):Prop:=∀r∈l,ot (n:Int) r=true
def Bm {n:Int}{l:List Want}(h:∀w∈l,oy n w=true)(h0:0<l.length)(h2:l.length<=2):ot n l=true:=by
 unfold ot;rw[zK h,cj h0,cj (show l.length<=24 by omega)];rfl
def tP {n:Nat}{vs:Nat->List a7}(hn:2<=n)(hv:Am vs):∀k g acc,yk n acc->yk n (iA n vs k g acc).1/\(iA n vs k g acc).1.length=acc.length+k
 |0,g,acc,h=>⟨h,rfl⟩
 |k+1,g,acc,h=>by
  rw[iA];have hw:=fun g=>zJ (g:=g) hn hv
  split
  .have:=tP hn hv k g.ed.bo.ed (acc++[[cu g n vs,cu g.ed.bo n vs]]) (by
    intro r hr;rcases List.mem_append.1 hr with hr|hr
    .exact h r hr
    .obtain rfl:=bl.1 hr;refine Bm (fun w hw2=>?_) bc bc;simp only[dq,dR,or_false]at hw2;rcases hw2 with rfl|rfl<;>exact hw _)
   exact⟨this.1,by rw[this.2,cD,List.length_singleton];omega⟩
  .have:=tP hn hv k g.ed.bo (acc++[[cu g n vs]]) (by
    intro r hr;rcases List.mem_append.1 hr with hr|hr
    .exact h r hr
    .obtain rfl:=bl.1 hr;exact Bm (fun w hw2=>by obtain rfl:=bl.1 hw2;exact hw _) bc bc)
   exact⟨this.1,by rw[this.2,cD,List.length_singleton];omega⟩
def vW {g:Gs}{n:Nat}{vs:Nat->List a7}{most:Int}(hn:2<=n)(hv:Am vs)(hm:0<=most/\most<=3):yk n (ax g n vs most).1/\(ax g n vs most).1.length<=3:=by
 have h:=(Gs.wD g (most+1)).1 ae;have:=tP hn hv (g.val (most+1)).toNat g.bo [] (fun r hr=>by cases hr);unfold ax;exact⟨this.1,by rw[this.2];simp only[cd];omega⟩
def si {n:Nat}{c:dI}(h1:yk n c.needs)(h2:c.needs.length<=4)(h3:∀w∈c.bars,oy (n:Int) w=true)(h4:c.bars.length<=1):m5 (n:Int) c=true:=by
 unfold m5;rw[cj (show c.needs.length<=24 by omega),cj (show c.bars.length<=24 by omega),zK h3,show dh (fun i=>ot (n:Int) c.needs[i]!) 0 c.needs.length=true by rw[dr];intro j _ hj;exact h1 _ (aj hj)];rfl
def qe (n:Nat)(c:CW):Prop:=m5 (n:Int) c.p=true
def Hb {n:Nat}(v:a7):qe n (aM v):=si (fun r hr=>by cases hr) (by simp[aM,CW.p,NF.p]) (fun w hw=>by cases hw) (by simp[aM,CW.p,BF.p])
def FE {h:Gs}{n i:Nat}{vs:Nat->List a7}{f:dk}{v:a7}(hn:2<=n)(hv:Am vs)(hi:f≠[]->2<=i)(hin:i<n)(hvv:v∈cC):qe n (fO h n vs i f v).1:=by
 have hg:=vW (g:=h) hn hv (most:=2) bJ;have hr:yk n (mA h n vs i f v):=by
  intro r hr;unfold mA at hr;rcases List.mem_append.1 hr with hr|hr
  .split at hr
   .cases hr
   .rename_i hf;obtain rfl:=bl.1 hr;have:=hi hf;refine Bm (fun w hw=>?_) bc bc;obtain rfl:=bl.1 hw;unfold oy;dsimp only;rw[cj (show 0<(i:Int) -1 by omega),cj (show(i:Int) -1<(n:Int)by omega),(yA v hvv).1];rfl
  .exact hg.1 r hr
 have hl:(mA h n vs i f v).length<=4:=by
  unfold mA;rw[cD];have:=hg.2;split<;>simp only[cd,List.length_singleton]<;>omega
 unfold fO;split
 .exact si hr hl (fun w hw=>by obtain rfl:=bl.1 hw;exact zJ hn hv) (by simp[CW.p,BF.p])
 .exact si hr hl (fun w hw=>by cases hw) (by simp[CW.p,BF.p])
def vP {n i:Nat}{vs:Nat->List a7}{f:dk}(hn:2<=n)(hv:Am vs)(hi:f≠[]->2<=i)(hin:i<n):∀(l:List a7) (h:Gs),(∀v∈l,v∈cC)->∀c∈(dJ n vs i f l h).1,qe n c
 |[],h,_,c,hc=>by cases hc
 |v::r,h,hl,c,hc=>by
  simp only[dJ]at hc;rcases dq.1 hc with rfl|hc
  .exact FE hn hv hi hin (hl _ (.head _))
  .exact vP hn hv hi hin r _ (fun x hx=>hl x (.tail _ hx)) c hc
def zA {vs:List a7}(h:vs∈jB):∀v∈vs,v∈cC:=fun v hv=>(uy vs h).subset hv
def v7 {n:Nat}{vs:Nat->List a7}{ft:Nat->dk}(hn:2<=n)(hv:Am vs)(hft:∀i,1<=i->i<n->ft i≠[]->2<=i):∀r i h cs,i+r=n->1<=i->(∀t,(cs t).map CW.v=vs t/\∀c∈cs t,qe n c)->∀t,(iB n vs ft r i h cs t).map CW.v=vs t/\∀c∈iB n vs ft r i h cs t,qe n c
 |0,i,h,cs,hr,hi,hc=>hc
 |r+1,i,h,cs,hr,hi,hc=>by
  rw[iB];refine v7 hn hv hft r _ _ _ ae ae fun t=>?_
  unfold bO;split
  .rename_i e;subst e;exact⟨(tq n vs t (ft t) (vs t) h).1,vP hn hv (hft t hi ae) ae _ _ (zA (hv t hi))⟩
  .exact hc t
def wG (ks:List Int)(few:Int):xX (cM ks few)=true/\PW (cM ks few):=by
 obtain⟨us,g1,h⟩:∃us g1,dZ ⟨ks,0⟩ few=(us,g1):=⟨_,_,rfl⟩
 obtain⟨h8,h0,hraw,_,hp,_⟩:=nI h;obtain⟨iu,hu⟩:=EM ⟨ks,0⟩ few;rw[h]at hu;dsimp only at hu;have hv:Am fun t=>us[t]!.cs.map CW.v:=by
  intro t ht;rcases cJ t us.length with h1|h1
  .obtain⟨_,vs,hvs,e⟩:=hu.body t ht h1;dsimp only;rw[e,List.map_map,show(CW.v∘aM)=id from rfl,List.map_id];exact hvs
  .dsimp only;rw[pG h1];exact HE (List.nil_sublist _)
 have hf:=v7 (n:=us.length) (vs:=fun t=>us[t]!.cs.map CW.v) (ft:=fun t=>us[t]!.feat) h8.1 hv hu.first (us.length-1) 1 (ax g1 us.length (fun t=>us[t]!.cs.map CW.v) 3).2 (bO (fun t=>us[t]!.cs) 0 [⟨zV,-1,.sl (ax g1 us.length (fun t=>us[t]!.cs.map CW.v) 3).1,.nil⟩]) ae ae (by
  intro t;unfold bO;split
  .rename_i e;subst e;refine⟨by rw[h0];rfl,fun c hc=>?_⟩;obtain rfl:=bl.1 hc;have hg:=vW (g:=g1) h8.1 hv (most:=3) bJ;exact si hg.1 (by have:=hg.2;simp only[CW.p,NF.p];omega) (fun w hw=>by cases hw) (by simp[CW.p,BF.p])
  .rename_i e;refine⟨rfl,fun c hc=>?_⟩;replace hc:c∈us[t]!.cs:=hc;rw[hraw t ae]at hc;obtain⟨v,_,rfl⟩:=fq.1 hc;exact Hb v)
 have hus:(cM ks few).us=(List.range us.length).map fun t=>(⟨us[t]!.name,us[t]!.feat,(lY us g1 t).map CW.p⟩:bN):=by
  unfold cM;rw[h]
 have hlen:(cM ks few).us.length=us.length:=by rw[hus];simp
 have hget:∀t,t<us.length->(cM ks few).us[t]! =⟨us[t]!.name,us[t]!.feat,(lY us g1 t).map CW.p⟩:=by
  intro t ht;rw[hus];simp[List.getElem!_eq_getElem?_getD,ht]
 have hfin:∀t,(lY us g1 t).map CW.v=us[t]!.cs.map CW.v/\∀c∈lY us g1 t,qe us.length c:=fun t=>hf t
 have hvm:∀t,((lY us g1 t).map CW.p).map dI.v=us[t]!.cs.map CW.v:=fun t=>by rw[List.map_map,<-(hfin t).1];rfl
 have hcl:∀t,((lY us g1 t).map CW.p).length=us[t]!.cs.length:=fun t=>by
  have:=bM List.length (hvm t);simpa using this
 have hsm:=qZ ks few;have hc0:us[0]!.cs.length=1:=by rw[h0];rfl
 refine⟨?_,fun x hx=>(hsm.1 x hx).1,by have:=hsm.2;omega,ae,by rw[hget 0 ae];dsimp only;rw[hcl,hc0];exact aJ _⟩;unfold xX B1;rw[hlen,cj (show 1<=us.length by omega),cj (show us.length<=48 by omega),hget 0 ae,hu.head];dsimp only;rw[hcl,hc0];simp only[decide_true,nJ];rw[dr];intro t _ ht;unfold uF;rw[hget t ht,hlen];dsimp only;have h16:((lY us g1 t).map CW.p).length<=16:=by
  have:=(hsm.1 _ (aj (show t<(cM ks few).us.length by omega))).1;rw[hget t ht]at this;exact this
 rw[cj h16];have hcand:dh (ri (us.length:Int) ((lY us g1 t).map CW.p)) 0 ((lY us g1 t).map CW.p).length=true:=by
  rw[dr];intro k _ hk;have hkv:∀j,j<((lY us g1 t).map CW.p).length->((lY us g1 t).map CW.p)[j]!.v=(us[t]!.cs.map CW.v)[j]! :=by
   intro j hj;rw[<-hvm t,tG hj]
  unfold ri;have hcl2:=hcl t;have hin:((lY us g1 t).map CW.p)[k]! ∈(lY us g1 t).map CW.p:=aj hk;obtain⟨c,hc,e⟩:=fq.1 hin;have hcb:m5 (us.length:Int) ((lY us g1 t).map CW.p)[k]! =true:=by rw[<-e];exact(hfin t).2 c hc
  rw[hcb,eL];rcases Nat.eq_zero_or_pos t with rfl|ht0
  .have hk0:k=0:=ae;subst hk0;rw[hkv 0 hk,h0];rfl
  .have hvs:=hv t ht0;dsimp only at hvs;have hkl:k<(us[t]!.cs.map CW.v).length:=by rw[aS];omega
   rw[hkv k hk,(yA _ (zA hvs _ (aj hkl))).2];by_cases hk0:0<k
   .have h4:(us[t]!.cs.map CW.v).length<=4:=(uy _ hvs).length_le;have:=Jv _ hvs k ae hk0 hkl;rw[hkv (k-1) ae,cZ (show ¬0<=j4 (us[t]!.cs.map CW.v)[k-1]! (us[t]!.cs.map CW.v)[k]! by omega)];simp
   .rw[cZ hk0];rfl
 rw[hcand];rcases Nat.eq_zero_or_pos t with rfl|ht0
 .simp
 .have hnm:=(hu.body t ht0 ht).1;rw[cZ hnm,Bool.and_false];by_cases h1:1<t
  .rw[hget (t-1) ae];have:=hu.chain t ae ht;rw[show wO ⟨us[t-1]!.name,us[t-1]!.feat,(lY us g1 (t-1)).map CW.p⟩ ⟨us[t]!.name,us[t]!.feat,(lY us g1 t).map CW.p⟩=true from this];simp
  .rw[cZ h1];rfl
def Iw (w:bI):Prop:=(w.sm/\PW w)/\Few w.us
def Bt (ks:List Int)(few:Int):Iw (cM ks few):=by
 obtain⟨h1,h2⟩:=wG ks few;refine⟨⟨(qZ ks few).1,h2⟩,fun x hx c hc=>?_⟩;obtain⟨t,ht,rfl⟩:=List.mem_iff_getElem.1 hx;obtain⟨k,hk,rfl⟩:=List.mem_iff_getElem.1 hc;unfold xX at h1;rw[bp,dr]at h1;have h3:=h1.2 t ae ht;unfold uF at h3;rw[bp,dr]at h3;rw[show(cM ks few).us[t]! =(cM ks few).us[t]by simp[ht]]at h3;have h4:=h3.2 k ae hk;unfold ri at h4;rw[show((cM ks few).us[t]).cands[k]! =((cM ks few).us[t]).cands[k]by simp[hk]]at h4;simp only[bp]at h4;have h5:=h4.1.2;unfold m5 at h5;simp only[bp,b9]at h5;refine⟨ae,ae,fun r hr=>?_⟩;obtain⟨q,hq,rfl⟩:=List.mem_iff_getElem.1 hr;have h6:=h5.1.2;rw[dr]at h6;have h7:=h6 q ae hq;unfold ot at h7;simp only[hq,getElem!_pos,bp,b9]at h7;omega
def BU {us:List bN}{allow:List Int}{rows:List ar}(h48:us.length<=48)(h:jJ us allow rows):∀x∈rows,x.terms.length<=48:=fun x hx=>dQ (zE (h x hx).1) h48
def uA {α:Type} [Inhabited α]{l:List α}{q:Nat}(h:q<l.length):(l.take (q+1)).drop q=[l[q]!]:=by
 rw[<-gE h,List.drop_append_of_le_length (by rw[fZ];omega),mr (by rw[fZ];omega)];rfl
def Fm (w:bI)(al c:List Int)(k:Nat)(now:Int)(R:List ar):Prop:=eI w al R/\(k=0/\now=-1\/0<k/\(0<=now/\now<R.length)/\yg w.us c k R[now.toNat]!.terms)/\R.length<=5100+2*k
def rD (w:bI)(al:List Int)(facts:List ar)(c:List Int)(rows:List ar):Prop:=((w.sm/\qf w.us/\w.us.length<=48)/\jJ w.us al facts)/\(Fc w.us c/\eI w al rows)/\rows.length<=100000
def qJ {w:bI}{al:List Int}{facts:List ar}{c:List Int}{rows:List ar}(h:rD w al facts c rows):(en w.us facts c rows).2.length<=max (rows.length+1) 4921:=by
 have h1:=yU (us:=w.us) (facts:=facts) h.1.1.2.1 (w.us.length-c.length) c rows (by have:=h.2.1.1.1;omega);have h2:=h.1.1.2.2;unfold en;omega
def yT {w:bI}{al:List Int}{facts:List ar}{c:List Int}{rows:List ar}(h:rD w al facts c rows):yb w al c rows (en w.us facts c rows):=
 xp h.1.1.2.1 h.1.2 _ c rows (by have:=h.2.1.1.1;omega) h.2.1.1 h.2.1.2
def rD.app {w:bI}{al:List Int}{facts:List ar}{c:List Int}{rows R:List ar}{k:Nat}(h:rD w al facts c rows)(hl:c.length<w.us.length)(hk:k<w.us[c.length]!.cands.length+1){now:Int}(hI:Fm w al c k now R):rD w al facts (c++[((k:Nat):Int) -1]) R:=by
 have h16:=h.1.1.2.1 _ (aj hl);exact⟨h.1,⟨h.2.1.1.app hl ae ae,hI.1⟩,by have:=hI.2.2;omega⟩
def HC {w:bI}{al:List Int}{facts:List ar}{c:List Int}{rows R:List ar}{k:Nat}{now:Int}(h:rD w al facts c rows)(hl:c.length<w.us.length)(hk:k<w.us[c.length]!.cands.length+1)(hI:Fm w al c k now R){r:Int×List ar}(hr:en w.us facts (c++[((k:Nat):Int) -1]) R=r):
  r.2.length<=5101+2*k/\(0<=r.1->r.1<r.2.length/\(now<r.2.length)/\(now<0->Fm w al c (k+1) r.1 r.2)/\(0<=now->Fm w al c (k+1) ((r.2.length:Nat):Int) (r.2++[gO w.us c.length now r.1 r.2]))):=by
 have hP:=h.app hl hk hI;have hE:=yT hP;have hL:=qJ hP;rw[hr]at hE hL;obtain⟨hs,h48⟩:=h.1.1.2;have h3:=hI.2.2;refine⟨ae,fun h0=>?_⟩;obtain⟨e1,⟨more,e2⟩,e3,e4⟩:=hE;obtain⟨e5,e6⟩:=e4 h0;have e7:=Hy e6;rw[show(((k:Nat):Int) -1+1).toNat=k by omega]at e7;have hlen:r.2.length=R.length+more.length:=by rw[e2,cD]
 refine⟨e5, ?_,fun hn=>?_,fun hn=>?_⟩
 .rcases hI.2.1 with h1|h1<;>omega
 .obtain⟨rfl,_⟩:k=0/\now=-1:=by
   rcases hI.2.1 with h|h
   .exact h
   .omega
  exact⟨e1,.inr ⟨ae,⟨h0,e5⟩,e7.1,e7.2.1,e7.2.2.1,fun j hj=>by obtain rfl:j=0:=ae;exact e7.2.2.2⟩,ae⟩
 .obtain⟨hk0,hnw,hnr⟩:0<k/\(0<=now/\now<R.length)/\yg w.us c k R[now.toNat]!.terms:=by
   rcases hI.2.1 with h|h
   .omega
   .exact h
  have hget:r.2[now.toNat]! =R[now.toNat]! :=by rw[e2];exact sc ae
  obtain⟨j1,j2⟩:=vS (x:=r.1) (now:=now) hs hl h.2.1.1 e1 ⟨hnw.1,ae⟩ ⟨h0,e5⟩ hk0 (by rw[hget];exact hnr) e7;refine⟨j1,.inr ⟨ae,⟨ae,by simp only[cD,List.length_singleton];omega⟩,by rw[Int.toNat_natCast,lf];exact j2⟩, ?_⟩;simp only[cD,List.length_singleton];omega
def AW {us:List bN}{facts:List ar}{c:List Int}{rows:List ar}(h:eg us facts c<facts.length):en us facts c rows=(((rows.length:Nat):Int),rows++[facts[eg us facts c]!]):=by
 unfold en;cases us.length-c.length<;>rw[jO,aw h]
def AY {us:List bN}{facts:List ar}{c:List Int}{rows:List ar}(h:¬eg us facts c<facts.length)(hs:c.length=us.length\/3000<rows.length):en us facts c rows=(-1,rows):=by
 unfold en;rcases hs with hs|hs
 .rw[show us.length-c.length=0 by omega,jO,ai h]
 .cases us.length-c.length<;>rw[jO,ai h];rw[aw hs]
def pZ (us:List bN)(facts:List ar)(c:List Int)(k:Nat)(now:Int)(R:List ar):Int×List ar:=mC us c.length (jO us facts (us.length-(c.length+1))) c (us[c.length]!.cands.length+1-k) (((k:Nat):Int) -1) now R
def AX {us:List bN}{facts:List ar}{c:List Int}{rows:List ar}(h:¬eg us facts c<facts.length)(hl:c.length<us.length)(hr:¬3000<rows.length):en us facts c rows=pZ us facts c 0 (-1) rows:=by
 unfold en pZ;rw[show us.length-c.length=us.length-(c.length+1)+1 by omega,jO,ai h,ai hr];rfl
def EL {us:List bN}{facts:List ar}{c:List Int}{k:Nat}{now:Int}{R:List ar}(h:us[c.length]!.cands.length+1<=k):pZ us facts c k now R=(now,R):=by
 unfold pZ;rw[show us[c.length]!.cands.length+1-k=0 by omega,mC]
def HB {us:List bN}{facts:List ar}{c:List Int}{k:Nat}{now:Int}{R:List ar}(h:k<us[c.length]!.cands.length+1){r:Int×List ar}(hr:en us facts (c++[((k:Nat):Int) -1]) R=r):pZ us facts c k now R=
  if r.1<0 then(-1,r.2)else if aK us r.2[r.1.toNat]!.terms ((c.length:Nat):Int)=bC us ((c.length:Nat):Int)then r else if now<0 then pZ us facts c (k+1) r.1 r.2
  else if aK us (gO us c.length now r.1 r.2).terms ((c.length:Nat):Int)=bC us ((c.length:Nat):Int)then(((r.2.length:Nat):Int),r.2++[gO us c.length now r.1 r.2])else pZ us facts c (k+1) ((r.2.length:Nat):Int) (r.2++[gO us c.length now r.1 r.2]):=by
 have e:jO us facts (us.length-(c.length+1)) (c++[((k:Nat):Int) -1]) R=r:=by
  rw[<-hr];unfold en;rw[cD,List.length_singleton]
 unfold pZ;rw[show us[c.length]!.cands.length+1-k=us[c.length]!.cands.length+1-(k+1)+1 by omega,mC,e,show((k:Nat):Int) -1+1=((k+1:Nat):Int) -1 by omega]
def LI {m:List (Nat×bz)}(x:ar):H5 m [.a,.a,.a,.a,.sl 2 [.a,.a]] (ar.D x):=⟨rfl,rfl,rfl,rfl,rfl,rfl⟩
def L3 {m:List (Nat×bz)}{lp ln:Nat}{w:bI}{facts rows:List ar}{c:List Int}{su:List Sh}(h1:look m lp=some (.buf 3 [jD.D ⟨w,facts,.own ln 5 0 rows.length⟩]))(h2:look m ln=some (.buf 5 (rows.map ar.D))):
  iD m [[.pt [.sl 3 su,.sl 5 [.a,.a,.a,.a,.sl 2 [.a,.a]],.sl 5 [.a,.a,.a,.a,.sl 2 [.a,.a]]]],[.sl 1 [.a]]] [.ptr lp 3 0 0,.sl 1 (c.map (D.int .i64))]:=by
 refine⟨⟨by simp[er,h1], ?_⟩,rfl,trivial⟩;intro e he;simp only[aX,h1,bl]at he;subst he;refine⟨rfl,rfl,⟨by simp[er,h2], ?_⟩,rfl⟩;simp only[aX,h2,bS,aD];intro e he;obtain⟨x,_,rfl⟩:=fq.1 he;exact LI x
def OW {a b:Int}(h0:0<=a)(h1:a<=131071):0<=il a b/\il a b<=131071:=by
 obtain⟨n,rfl⟩:∃n:Nat,a=(n:Int):=⟨a.toNat,ae⟩
 have h:(BitVec.ofInt 64 (n:Int)&&&BitVec.ofInt 64 b).toNat<=n:=by
  rw[BitVec.toNat_and];refine dQ Nat.and_le_left ?_;rw[BitVec.toNat_ofInt];omega
 unfold il;rw[wrap_i64 ae ae];omega
def Ak (w:bI)(al:List Int):eI w al []:=fun i hi=>by cases hi
def Il (us:List bN):Fc us []:=⟨Nat.zero_le _,fun u hu=>by cases hu⟩
def Cc {w:bI}{al:List Int}(h:Iw w):rD w al (jG w.us al) [] []:=by
 obtain⟨⟨h1,h2,h3,h4,h5⟩,_⟩:=h;exact⟨⟨⟨h1,h2,h3⟩,yC h2 h3 h4 h5⟩,⟨Il _,Ak _ _⟩,Nat.zero_le _⟩
def Ja:∀o:Option (List ar),rE (Gq o) (.sl 5 ((o.getD []).map ar.D))
 |none=>.nil 5
 |some l=>.refl _
def Et {w:bI}{al:List Int}{l:List ar}(hw:Iw w)(h:fj w.us al=some l):l.length<=5000/\∀r∈l,r.terms.length<=48:=by
 have h1:=y5 hw.1.2 h;refine⟨?_,fun r hr=>?_⟩
 .have h2:=qJ (Cc (al:=al) hw);unfold fj at h;split at h
  .cases h
  .obtain rfl:=ba h;rw[fZ];unfold j9;simp only[cd]at h2;omega
 .obtain⟨i,hi,rfl⟩:=List.mem_iff_getElem.1 hr;have:=zE (mj h1.1 hi);simp only[hi,getElem!_pos]at this;exact dQ this hw.1.2.2.1
def ou (r:ar):ar:=⟨r.kind,r.unit,r.b,r.a,r.terms⟩
def vD (L R:List ar):Prop:=R.length=L.length/\∀k,k<L.length->R[k]! =L[k]! \/(L[k]!.kind=5/\R[k]! =ou L[k]!)
def stJa {xs:List ar}{k:Nat}{v:Int}(h:k<xs.length):(xs.map ar.D).set k (pY ((xs.map ar.D).getD k .any) 5 1 2 (.int .i64 v))=(xs.set k ⟨xs[k]!.kind,xs[k]!.unit,v,xs[k]!.b,xs[k]!.terms⟩).map ar.D:=by
 rw[getD_map h,List.map_set];rfl
def stJb {xs:List ar}{k:Nat}{v:Int}(h:k<xs.length):(xs.map ar.D).set k (pY ((xs.map ar.D).getD k .any) 5 1 3 (.int .i64 v))=(xs.set k ⟨xs[k]!.kind,xs[k]!.unit,xs[k]!.a,v,xs[k]!.terms⟩).map ar.D:=by
 rw[getD_map h,List.map_set];rfl
def zw {xs:List ar}{i u:Nat}{v:ar}(hu:u<xs.length):(xs.set i v)[u]! =if i=u then v else xs[u]! :=by
 simp only[List.getElem!_eq_getElem?_getD,List.getElem?_set];split
 .rename_i h;subst h;rw[aw hu];rfl
 .rfl
def stJ2 {xs:List ar}{k:Nat}(h:k<xs.length):((xs.set k ⟨xs[k]!.kind,xs[k]!.unit,xs[k]!.b,xs[k]!.b,xs[k]!.terms⟩).map ar.D).set k (pY (((xs.set k ⟨xs[k]!.kind,xs[k]!.unit,xs[k]!.b,xs[k]!.b,xs[k]!.terms⟩).map ar.D).getD k .any) 5 1 3 (.int .i64 xs[k]!.a))=(xs.set k (ou xs[k]!)).map ar.D:=by
 rw[stJb (by rw[List.length_set];exact h),zw h,aw rfl,List.set_set];rfl
def vD.step {L R:List ar}{i:Nat}(h:vD L R)(hi:i<L.length)(hk:R[i]!.kind=5):vD L (R.set i (ou R[i]!)):=by
 refine⟨by rw[List.length_set];exact h.1,fun k hk2=>?_⟩;rw[zw (by rw[h.1];exact hk2)];split
 .rename_i e;subst e;rcases h.2 i hi with h1|⟨h1,h2⟩
  .exact .inr ⟨by rw[<-h1];exact hk,by rw[h1]⟩
  .exact .inl (by rw[h2];rfl)
 .exact h.2 k hk2
def FC (a b:Int):ra a b=ra b a:=by rw[wY,wY,BitVec.or_comm]
def Aq (us:List bN)(A B:List bK)(row:ar):lh us A B row=lh us B A row:=by
 funext u;unfold lh;rw[FC,yt]
def JO {w:bI}{al:List Int}{L R:List ar}(h:vD L R)(hL:eI w al L):eI w al R:=by
 intro i hi;have hiL:i<L.length:=by rw[<-h.1];exact hi
 have ht:∀k,k<L.length->R[k]!.terms=L[k]!.terms:=fun k hk=>by
  rcases h.2 k hk with e|⟨_,e⟩<;>rw[e];rfl
 have hj:=hL i hiL;unfold dn at hj⊢;simp only[Int.toNat_natCast,bp,b9]at hj⊢;refine⟨⟨⟨hj.1.1.1,by rw[h.1];exact hj.1.1.2⟩,by rw[ht i hiL];exact hj.1.2⟩, ?_⟩;have hk:=hj.2;unfold kF at hk⊢;have hb:∀row:ar,(0<=row.a/\row.a<((i:Nat):Int))->(0<=row.b/\row.b<((i:Nat):Int))->jL ⟨w,al,R⟩ row ((i:Nat):Int)=jL ⟨w,al,L⟩ row ((i:Nat):Int):=fun row h1 h2=>by
  unfold jL;dsimp only;rw[ht row.a.toNat ae,ht row.b.toNat ae]
 rcases h.2 i hiL with e|⟨k5,e⟩
 .rw[e];by_cases k5:L[i]!.kind=5
  .rw[aw k5]at hk⊢;have hk2:=hk;unfold jL at hk2;simp only[bp,b9]at hk2;rw[hb _ hk2.1.1.1.2 hk2.1.1.2];exact hk
  .rw[ai k5]at hk⊢;exact hk
 .rw[aw k5]at hk;rw[e,aw (show(ou L[i]!).kind=5 from k5)];have hk2:=hk;unfold jL at hk2;simp only[bp,b9]at hk2;obtain⟨⟨⟨⟨q1,q2⟩,q3⟩,q4,q5⟩,q6⟩:=hk2;rw[hb _ q3 q2];unfold jL;simp only[bp,b9];exact⟨⟨⟨⟨q1,q3⟩,q2⟩,q5,q4⟩,by rw[show lh w.us L[(ou L[i]!).a.toNat]!.terms L[(ou L[i]!).b.toNat]!.terms (ou L[i]!)=lh w.us L[L[i]!.a.toNat]!.terms L[L[i]!.b.toNat]!.terms L[i]! from Aq ..];exact q6⟩
def Gt (ks:List Int)(few:Int)(WW:List Int):okW (cM ks few) (iQ (cM ks few).us WW)=true:=by
 unfold okW;rw[(wG ks few).1];unfold iQ;split
 .rfl
 .rw[oA];simp
def JA {w:bI}{al:List Int}{l:List ar}(h:eI w al l):RowsIn l:=by
 intro r hr t ht;obtain⟨i,hi,rfl⟩:=List.mem_iff_getElem.1 hr;have hv:=mj h hi;simp only[hi,getElem!_pos]at hv;exact xR ((eE.1 hv).1 t ht)
def DX {ok:Bool}{f:Nat->Bool}:(gG ok f []).2=false:=by
 unfold gG;split
 .rfl
 .split<;>rfl
def Bp {w:bI}{al:List Int}{R:List ar}(hw:Iw w)(hok:okW w al=true)(h:vD ((fj w.us al).getD []) R):RowsIn R/\(gG (okW w al) (fun j=>dn ⟨w,al,R⟩ ((j:Nat):Int)) R).2=decide (0<R.length):=by
 cases e:fj w.us al with
 |none=>
  rw[e]at h;have hR:R=[]:=iH h.1;subst hR;exact⟨fun r hr=>(by cases hr),DX⟩
 |some l=>
  rw[e]at h;obtain⟨p1,p2,p3⟩:=y5 hw.1.2 e;have hl:R.length=l.length:=h.1;have hR:=JO h p1;refine⟨JA hR, ?_⟩;have ht:R[R.length-1]!.terms=[]:=by
   rcases h.2 (l.length-1) (by show l.length-1<l.length;omega)with e2|⟨_,e2⟩
   .rw[hl,e2];exact p3
   .rw[hl,e2];exact p3
  rw[As hok hR ae ht,cj ae]
def y6 {w:bI}{al:List Int}(hw:Iw w):((fj w.us al).getD []).length<=100000/\∀r∈(fj w.us al).getD [],r.terms.length<=1000:=by
 cases e:fj w.us al with
 |none=>exact⟨Nat.zero_le _,fun r hr=>by cases hr⟩
 |some l=>
  have h:=Et hw e;exact⟨dQ h.1 bJ,fun r hr=>dQ (h.2 r hr) bJ⟩
end
def iPrv (a b:jD):jD.D a=jD.D b↔a=b:=by
 obtain⟨⟨x⟩,y,z⟩:=a;obtain⟨⟨x'⟩,y',z'⟩:=b;simp[jD.D,B2,AB]
def OZ {A:RT->Prop}(h:A (fun ds d=>A fun ds' d'=>ds'=ds->d=d'):=by
 (repeat' first|apply And.intro|intro _)
 all_goals rename_i e
 all_goals (try simp only[q8,D.str.injEq,D.int.injEq,D.bool.injEq,D.sl.injEq,D.ref.injEq,D.agg.injEq,D.fn.injEq,O7,LD,iByt,iVer,O5,O6,Ki,AD,iSet,Kj,AE,Kk,F5,O4,Kg,O9,B2,iWld,O8,F4,Kh,AB,LB,iKey,iTag,iGs,iPrv,iU8,Bw,LF,b7,ca,reduceCtorEq,cy,cx]at e)
 all_goals first|rfl|(simp only[e];done)|simp_all):MC (tz A):=FK h
section
section
variable [dc] {P:Program} {ν:List (Nat×Nat)} {cn:List Nat} {t:List (Nat×k9)} {fid n key u k:Nat} {af:aE} {nx:Nat} {m:List (Nat×bz)} {K:D->St->Prop}
def tY {a:D}{dv:Nat->D}{kk:Nat}{es:List D}{Q:D->List (Nat×bz)->Prop}(hmix:P.follows .mixedOrders=true)(hC:Ab P ν cn fid af)(hnp:1=af.np)(ha:a.a8=true)(hes:aL es=true)
  (hd:∀j,jE 0 [(j,nx)] (dv j)=some (dv nx)) (hQ:∀d m,Q d m->∃j,d=dv j/\look m j=some (.buf kk es)) (hK:K (dv nx) ⟨nx+1,(nx,.buf kk es)::m⟩)
  (hw:bX ((under t key u).at 0) af.body (ko af Q) (fh af [a]) ⟨0,[]⟩):kv P ν cn (under t key u) fid [a] ⟨nx,m⟩ K:=by
 refine pH (σi:=[]) (m0:=[]) (cs:=[a]) (fun q=>ox t key u q) hmix hC rfl ?_ hnp rfl (fun _ _ h=>by cases h) (fun _ _ h=>by cases h) hw ?_
 .intro i hi
  match i,hi with
  |0,_=>exact .inl ⟨rfl,ha⟩
 .intro d m1 h;obtain⟨j,rfl,hj⟩:=hQ d m1 h;refine⟨[(j,nx)],j+1,_,_,⟨rfl, ?_,Nat.le_succ _,(fun _ _ h=>by cases h), ?_,(fun _ _ h=>by cases h), ?_⟩,.inr (.inl (hd j)),hK⟩
  .simp[ez]
  .intro i l h;obtain⟨rfl,rfl⟩:=Prod.mk.inj (bl.1 h);exact .inr (aJ _)
  .intro l bb h;simp only[look]at h;split at h
   .rename_i e;subst e;obtain rfl:=ba h;exact .inl ⟨j,_,.head _,hj,rfl,.inl ⟨rfl,hes⟩⟩
   .rename_i hn;exact .inr ⟨by simp only[ju,ai hn],(fun _ h=>by cases h),h⟩
end
end
end Go.Abs
