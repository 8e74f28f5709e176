/- A part of the proofs. -/
import Derived.Test.YtaeimnechonnmaaGreatDoorP05
set_option linter.all false
set_option maxRecDepth 4000
namespace Go.Abs
def RU.raw (u:RU):Prop:=∃vs:List a8,u.cs=vs.map aM/\vs.length<=4/\∀v∈vs,v.sm
def yG (m:Int)(a b:dn):(⟨a,b,(bg m 4).map aM⟩:RU).raw:=⟨_,rfl,jY m 4,pG m 4 (aI _)⟩
def v8 (vs:List a8):∀r g acc,(∀v∈acc,v∈vs)->r<=vs.length->∀v∈(eP vs r g acc).1,v∈vs
 |0,g,acc,h,_=>h
 |r+1,g,acc,h,hr=>by
  rw[eP];refine v8 vs r _ _ ?_ ae;intro v hv;split at hv
  .rcases List.mem_append.1 hv with hv|hv
   .exact h v hv
   .obtain rfl:=bl.1 hv;exact aj ae
  .exact h v hv
def F6 (m:Int)(g:Gs)(a b:dn):(⟨a,b,(eP (bg m 4) (bg m 4).length g []).1.map aM⟩:RU).raw:=by
 refine⟨_,rfl, ?_,fun v hv=>pG m 4 (aI _) v (v8 _ _ _ _ (fun _ h=>by cases h) (aI _) v hv)⟩;have:=v7 (bg m 4) (bg m 4).length g [];have:=jY m 4;simp only[cb]at*;omega
def B6 (vs:List a8):∀r g acc,(eP vs r g acc).2.i=g.i+r
 |0,g,acc=>by simp[eP]
 |r+1,g,acc=>by rw[eP,B6 vs r];simp only[Gs.br];omega
def lM (few:Int):∀(r:Nat) (g:Gs) (us:List RU),r<=5->∃more,(eH few r g us).1=us++more/\(∀u∈more,u.raw)/\more.length<=r+(r-3)/\g.i<=(eH few r g us).2.i/\(eH few r g us).2.i<=g.i+10*r+1
 |0,g,us,_=>⟨[],by simp[eH],bc,bc,by simp only[eH,Gs.br];omega,by simp only[eH,Gs.br];omega⟩
 |r+1,g,us,hr=>by
  rw[eH];split
  .split
   .rename_i h1 h2;have hf:=B6 (bg (g.br.val 16) 4) (bg (g.br.val 16) 4).length g.ef [];have hb:=jY (g.br.val 16) 4;obtain⟨more,e,hm,hl,hi1,hi2⟩:=lM few r (eP (bg (g.br.val 16) 4) (bg (g.br.val 16) 4).length g.ef []).2 ((us++[⟨bw[4-r]!,[],(bg (g.br.val 16) 4).map aM⟩])++[⟨bw[4-r]!,[102],(eP (bg (g.br.val 16) 4) (bg (g.br.val 16) 4).length g.ef []).1.map aM⟩]) ae;refine⟨_::_::more,by rw[e];simp only[lh,List.singleton_append];rfl, ?_, ?_, ?_, ?_⟩
    .intro u hu;rcases dr.1 hu with rfl|hu
     .exact yG _ _ _
     .rcases dr.1 hu with rfl|hu
      .exact F6 _ _ _ _
      .exact hm u hu
    .simp only[bR];omega
    .rw[hf]at hi1;simp only[Gs.ef,Gs.br]at*;omega
    .rw[hf]at hi2;simp only[Gs.ef,Gs.br]at*;omega
   .have hg:g.i+2<=(if 4-r<2 then g.ef else g.br.br).i/\(if 4-r<2 then g.ef else g.br.br).i<=g.i+3:=by
     split<;>simp only[Gs.ef,Gs.br]<;>omega
    obtain⟨more,e,hm,hl,hi1,hi2⟩:=lM few r (if 4-r<2 then g.ef else g.br.br) (us++[⟨bw[4-r]!,[],(bg (g.br.val 16) 4).map aM⟩]) ae;refine⟨_::more,by rw[e];simp only[lh,List.singleton_append];rfl, ?_, ?_, ?_, ?_⟩
    .intro u hu;rcases dr.1 hu with rfl|hu
     .exact yG _ _ _
     .exact hm u hu
    .simp only[bR];omega
    .omega
    .omega
  .refine⟨[],bc,bc,bc, ?_, ?_⟩<;>simp only[Gs.br]<;>omega
def BA {g:Gs}{few:Int}:2<=(ec g few).1.length:=by
 have hv:=g.wS few;have h:(0:Int)<1+g.val few:=ae;unfold ec;rw[show 5=4+1 from rfl,eH,au (by simpa using h)];split
 .obtain⟨more,e,_⟩:=lM few 4 (eP (bg (g.br.val 16) 4) (bg (g.br.val 16) 4).length g.ef []).2 ((sn++[⟨bw[4-4]!,[],(bg (g.br.val 16) 4).map aM⟩])++[⟨bw[4-4]!,[102],(eP (bg (g.br.val 16) 4) (bg (g.br.val 16) 4).length g.ef []).1.map aM⟩]) ae;rw[e];simp[sn]
 .obtain⟨more,e,_⟩:=lM few 4 (if 4-4<2 then g.ef else g.br.br) (sn++[⟨bw[4-4]!,[],(bg (g.br.val 16) 4).map aM⟩]) ae;rw[e];simp[sn]
def wQ {g:Gs}{few:Int}:∃more,(ec g few).1=sn++more/\(∀u∈more,u.raw)/\(1<=more.length/\more.length<=7)/\g.i<=(ec g few).2.i/\(ec g few).2.i<=g.i+51:=by
 obtain⟨more,e,hm,hl,h1,h2⟩:=lM few 5 g sn ae;have h3:=BA (g:=g) (few:=few);unfold ec at*
 rw[e]at h3⊢;refine⟨more,rfl,hm,⟨?_,ae⟩,h1,ae⟩;simp only[sn,cj,List.length_singleton]at h3;omega
def mH (h:Gs)(n:Nat)(vs:Nat->List a8)(i:Nat)(f:dn)(v:a8):List kA:=(if f=[]then []else [[⟨(i:Int) -1,bF v⟩]])++(ax h n vs 2).1
def fT (h:Gs)(n:Nat)(vs:Nat->List a8)(i:Nat)(f:dn)(v:a8):CW×Gs:=
 if(ax h n vs 2).2.val 4=0 then(⟨v,0,.sl (mH h n vs i f v),.sl [cw (ax h n vs 2).2.br n vs]⟩,(ax h n vs 2).2.br.ef)
 else(⟨v,0,.sl (mH h n vs i f v),.nil⟩,(ax h n vs 2).2.br)
def dL (n:Nat)(vs:Nat->List a8)(i:Nat)(f:dn):List a8->Gs->List CW×Gs
 |[],h=>([],h)
 |v::r,h=>((fT h n vs i f v).1::(dL n vs i f r (fT h n vs i f v).2).1,(dL n vs i f r (fT h n vs i f v).2).2)
def bO (cs:Nat->List CW)(i:Nat)(x:List CW)(t:Nat):List CW:=if t=i then x else cs t
def iE (n:Nat)(vs:Nat->List a8)(ft:Nat->dn):Nat->Nat->Gs->(Nat->List CW)->Nat->List CW
 |0,_,_,cs=>cs
 |r+1,i,h,cs=>iE n vs ft r (i+1) (dL n vs i (ft i) (vs i) h).2 (bO cs i (dL n vs i (ft i) (vs i) h).1)
def xG (n:Nat)(vs:Nat->List a8):∀k g acc,g.i<=(iD n vs k g acc).2.i/\(iD n vs k g acc).2.i<=g.i+7*k
 |0,g,acc=>by simp[iD]
 |k+1,g,acc=>by
  rw[iD];split
  .have:=xG n vs k g.ef.br.ef (acc++[[cw g n vs,cw g.ef.br n vs]]);simp only[Gs.ef,Gs.br]at*;omega
  .have:=xG n vs k g.ef.br (acc++[[cw g n vs]]);simp only[Gs.ef,Gs.br]at*;omega
def uo {g:Gs}{n:Nat}{vs:Nat->List a8}{most:Int}(h0:0<=most)(h3:most<=3):g.i<=(ax g n vs most).2.i/\(ax g n vs most).2.i<=g.i+22:=by
 have hv:=gF (ym g.l g.i) (most+1) ae;have hv2:g.val (most+1)=ff (ym g.l g.i) (most+1):=rfl;have:=xG n vs (g.val (most+1)).toNat g.br [];unfold ax;simp only[Gs.br]at*;omega
def BY {h:Gs}{n i:Nat}{vs:Nat->List a8}{f:dn}{v:a8}:h.i<=(fT h n vs i f v).2.i/\(fT h n vs i f v).2.i<=h.i+30:=by
 have:=uo (g:=h) (n:=n) (vs:=vs) (most:=2) bL bL;unfold fT;split<;>simp only[Gs.ef,Gs.br]<;>omega
def BZ (h:Gs)(n i:Nat)(vs:Nat->List a8)(f:dn)(v:a8):(fT h n vs i f v).1.v=v/\(fT h n vs i f v).1.pl=true:=by
 unfold fT;split<;>exact⟨rfl,rfl⟩
def tP (n:Nat)(vs:Nat->List a8)(i:Nat)(f:dn):∀(l:List a8) (h:Gs),(dL n vs i f l h).1.map CW.v=l/\(∀c∈(dL n vs i f l h).1,c.pl=true)/\h.i<=(dL n vs i f l h).2.i/\(dL n vs i f l h).2.i<=h.i+30*l.length
 |[],h=>⟨rfl,(fun _ hc=>by cases hc),by simp[dL],by simp[dL]⟩
 |v::r,h=>by
  have ih:=tP n vs i f r (fT h n vs i f v).2;have h1:=BZ h n i vs f v;have h2:=BY (h:=h) (n:=n) (i:=i) (vs:=vs) (f:=f) (v:=v);refine⟨by simp only[dL,List.map_cons,h1.1,ih.1], ?_,by simp only[dL];omega,by simp only[dL,bR];omega⟩;intro c hc;simp only[dL]at hc;rcases dr.1 hc with rfl|hc
  .exact h1.2
  .exact ih.2.1 c hc
def kr {cs:Nat->List CW}{i:Nat}{x:List CW}:bO cs i x i=x:=au rfl
def ye {cs:Nat->List CW}{i t:Nat}{x:List CW}(h:t≠i):bO cs i x t=cs t:=ai h
def MQ {cs:Nat->List CW}{i:Nat}:bO cs i (cs i)=cs:=by
 funext t;unfold bO;split
 .rename_i h;rw[h]
 .rfl
def sR {cs:Nat->List CW}{i:Nat}{x y:List CW}:bO (bO cs i x) i y=bO cs i y:=by
 funext t;unfold bO;split<;>rfl
def oo (vs:Nat->List a8)(B:Nat->List CW):Prop:=∀t,(B t).map CW.v=vs t/\∀c∈B t,c.pl=true
def oo.Ih {vs:Nat->List a8}{B:Nat->List CW}(h:oo vs B){i:Nat}{x:List CW}(hv:x.map CW.v=vs i)(hp:∀c∈x,c.pl=true):oo vs (bO B i x):=by
 intro t;unfold bO;split
 .rename_i e;subst e;exact⟨hv,hp⟩
 .exact h t
def oo.len {vs:Nat->List a8}{B:Nat->List CW}(h:oo vs B):(fun j=>(B j).length)=fun j=>(vs j).length:=by
 funext j;rw[<-(h j).1,aS]
def oo.gr {vs:Nat->List a8}{B:Nat->List CW}(h:oo vs B):gr B=vs:=by
 funext j;exact(h j).1
def FW {α:Type} [Inhabited α]{n l k i o:Nat}{ag:Bool}{q:α->D}{xs:List α}{m:List (Nat×bA)}{v:D}(hl:look m l=some (.buf k (xs.map q)))(hi:i<xs.length)(hv:ou (q xs[i]!) k n o ag=v)(ho:o+n<=k):xy m n (.ptr l k i o)/\vB m n ag (.ptr l k i o)=v:=by
 refine⟨?_, ?_⟩
 .simp only[xy,eh,hl,aS];exact⟨⟨trivial,ae⟩,ho⟩
 .simp only[vB,aQ,hl];rw[getD_map hi];exact hv
def MW (o:Nat)(us:List RU):List D:=(List.range us.length).map fun j=>.agg [.str us[j]!.name,.str us[j]!.feat,.own (o+j) 8 0 us[j]!.cs.length]
def MX (nx:Nat)(us:List RU):List (Nat×bA):=[(nx,.buf 3 (MW (nx+1) us)),(nx+1,.buf 8 (us[0]!.cs.map (CW.D 10))),(nx+2,.buf 8 (us[1]!.cs.map (CW.D 10))),(nx+3,.buf 8 (us[2]!.cs.map (CW.D 10))),(nx+4,.buf 8 (us[3]!.cs.map (CW.D 10))),
 (nx+5,.buf 8 (us[4]!.cs.map (CW.D 10))),(nx+6,.buf 8 (us[5]!.cs.map (CW.D 10))),(nx+7,.buf 8 (us[6]!.cs.map (CW.D 10))),(nx+8,.buf 8 (us[7]!.cs.map (CW.D 10)))]
def Ly {lo o:Nat}{us:List RU}{ln:Nat->Nat}(σ:List (Nat×Nat))(h:∀j,j<us.length->eS lo σ (o+j)=some (2+j))(hl:∀j,us[j]!.cs.length=ln j):gU lo σ (MW o us)=some (UB us.length (fun j=>us[j]!.name) (fun j=>us[j]!.feat) ln):=by
 unfold MW UB;have h2:∀j∈List.range us.length,eS lo σ (o+j)=some (2+j):=fun j hj=>h j (List.mem_range.1 hj)
 revert h2;generalize List.range us.length=r;intro h2;induction r with
 |nil=>rfl
 |cons a r ih=>
  have:=h2 a (.head _);simp only[List.map_cons,gU,UD,jF,qe,this,hl a,ih fun j hj=>h2 j (.tail _ hj)]
def JG {lo v:Nat}{a b:Nat×Nat}{r:List (Nat×Nat)}(h:v<8)(ha:a.1<5)(hb:b.1<5):eS lo (a::b::(5,2)::(6,3)::(7,4)::(8,5)::(9,6)::(10,7)::(11,8)::(12,9)::r) (5+v)=some (2+v):=by
 simp only[eS,ez (show a.1≠5+v by omega),ez (show b.1≠5+v by omega),cond_false]
 match v,h with
 |0,_=>rfl
 |1,_=>rfl
 |2,_=>rfl
 |3,_=>rfl
 |4,_=>rfl
 |5,_=>rfl
 |6,_=>rfl
 |7,_=>rfl
def eB {lo v:Nat}{r:List (Nat×Nat)}(h:v<8):eS lo ((0,0)::(1,1)::(2,2)::(3,3)::(4,4)::(5,5)::(6,6)::(7,7)::(8,8)::(9,9)::r) (2+v)=some (2+v):=by
 simp only[eS,ez (show 0≠2+v by omega),cond_false];exact gG h
def kZ {lo k i o l l':Nat}{σ:List (Nat×Nat)}(h:eS lo σ l=some l'):jF lo σ (.ptr l k i o)=some (.ptr l' k i o):=by simp only[jF,qe,h]
def ug {done rest:List CW}{x X:CW}{e e':Nat}{d:D}(hd:∀c∈done,c.pl=true)(hr:∀c∈rest,c.pl=true)(hX:X.D e'=d):((done++x::rest).map (CW.D e)).set done.length d=(done++X::rest).map (CW.D e'):=by
 rw[List.map_append,List.map_cons,sI (e:=e) (e':=e') hd,sI (e:=e) (e':=e') hr,List.set_append_right _ _ bc,aS,Nat.sub_self,List.set_cons_zero,<-hX,List.map_append,List.map_cons]
def qU {done rest:List CW}{x:CW}:(done++x::rest)[done.length]! =x:=by simp[List.getElem!_eq_getElem?_getD]
def nD {done rest:List CW}{x:CW}{e:Nat}:((done++x::rest).map (CW.D e)).getD done.length .any=x.D e:=by
 rw[getD_map bc,qU]
def xD {l k:Nat}{es:List D}{B:Nat->List CW}{i:Nat}{done rest:List CW}{x X:CW}(hB:∀t,t≠i->∀c∈B t,c.pl=true)(hd:∀c∈done,c.pl=true)(hr:∀c∈rest,c.pl=true)(hX:eR l k es (x.D l)=X.D 10)(t:Nat):
  fG l k es ((bO B i (done++x::rest) t).map (CW.D l))=(bO B i (done++X::rest) t).map (CW.D 10):=by
 have pl:∀xs:List CW,(∀c∈xs,c.pl=true)->fG l k es (xs.map (CW.D l))=xs.map (CW.D 10):=fun xs h=>by rw[iz _ _ _ _ (ca h),sI h]
 have app:∀a b:List D,fG l k es (a++b)=fG l k es a++fG l k es b:=fun a b=>by
  induction a with
  |nil=>rfl
  |cons x r ih=>simp only[pF,fG,ih]
 unfold bO;split
 .rw[List.map_append,List.map_cons,app,fG,pl _ hd,pl _ hr,hX,List.map_append,List.map_cons]
 .rename_i h;exact pl _ (hB t h)
def cU (m:List (Nat×bA))(L:Nat)(b:bA)(l:Nat):look (cH m L b) l=if l=L then some b else look m l:=by
 induction m with
 |nil=>by_cases h:l=L<;>simp[cH,look,h,eq_comm]<;>omega
 |cons a r ih=>
  obtain⟨k,x⟩:=a;by_cases h1:k=L<;>by_cases h2:l=L<;>by_cases h3:k=l<;>simp_all[cH,look]
def vk {e e0 i:Nat}{a b:bA}{B:Nat->List CW}{Yq:List CW}{r r':List (Nat×bA)}(hi:i<8)(hB:∀t,t≠i->∀c∈B t,c.pl=true)
  (hr:iS (cH ((0,a)::(1,b)::(2,.buf 8 ((B 0).map (CW.D e0)))::(3,.buf 8 ((B 1).map (CW.D e0)))::(4,.buf 8 ((B 2).map (CW.D e0)))::(5,.buf 8 ((B 3).map (CW.D e0)))::(6,.buf 8 ((B 4).map (CW.D e0)))::(7,.buf 8 ((B 5).map (CW.D e0)))::(8,.buf 8 ((B 6).map (CW.D e0)))::(9,.buf 8 ((B 7).map (CW.D e0)))::r) (2+i) (.buf 8 (Yq.map (CW.D e)))) r'):
  iS (cH ((0,a)::(1,b)::(2,.buf 8 ((B 0).map (CW.D e0)))::(3,.buf 8 ((B 1).map (CW.D e0)))::(4,.buf 8 ((B 2).map (CW.D e0)))::(5,.buf 8 ((B 3).map (CW.D e0)))::(6,.buf 8 ((B 4).map (CW.D e0)))::(7,.buf 8 ((B 5).map (CW.D e0)))::(8,.buf 8 ((B 6).map (CW.D e0)))::(9,.buf 8 ((B 7).map (CW.D e0)))::r) (2+i) (.buf 8 (Yq.map (CW.D e))))
   ((0,a)::(1,b)::(2,.buf 8 ((bO B i Yq 0).map (CW.D e)))::(3,.buf 8 ((bO B i Yq 1).map (CW.D e)))::(4,.buf 8 ((bO B i Yq 2).map (CW.D e)))::(5,.buf 8 ((bO B i Yq 3).map (CW.D e)))::(6,.buf 8 ((bO B i Yq 4).map (CW.D e)))::(7,.buf 8 ((bO B i Yq 5).map (CW.D e)))::(8,.buf 8 ((bO B i Yq 6).map (CW.D e)))::(9,.buf 8 ((bO B i Yq 7).map (CW.D e)))::r'):=by
 have ent:∀k,k<8->look (cH ((0,a)::(1,b)::(2,.buf 8 ((B 0).map (CW.D e0)))::(3,.buf 8 ((B 1).map (CW.D e0)))::(4,.buf 8 ((B 2).map (CW.D e0)))::(5,.buf 8 ((B 3).map (CW.D e0)))::(6,.buf 8 ((B 4).map (CW.D e0)))::(7,.buf 8 ((B 5).map (CW.D e0)))::(8,.buf 8 ((B 6).map (CW.D e0)))::(9,.buf 8 ((B 7).map (CW.D e0)))::r) (2+i) (.buf 8 (Yq.map (CW.D e)))) (2+k)=some (.buf 8 ((bO B i Yq k).map (CW.D e))):=by
  intro k hk;rw[cU];split
  .rename_i h;obtain rfl:k=i:=ae;rw[kr]
  .rename_i h;have hne:k≠i:=ae;rw[gD (fun t=>(B t).map (CW.D e0)) hk,ye hne,sI (hB k hne)]
 refine .id ?_ (.id ?_ (.id (ent 0 bL) (.id (ent 1 bL) (.id (ent 2 bL) (.id (ent 3 bL) (.id (ent 4 bL) (.id (ent 5 bL) (.id (ent 6 bL) (.id (ent 7 bL) hr)))))))))
 .rw[cU,ai ae];rfl
 .rw[cU,ai ae];rfl
def NF.p:NF->List kA
 | .sl l=>l
 |_=>[]
def BF.p:BF->List Want
 | .sl l=>l
 |_=>[]
def CW.p (c:CW):dJ:=⟨c.v,c.sh,c.n.p,c.b.p⟩
def mf (us:List RU)(g:Gs):Nat->List CW:=iE us.length (fun t=>us[t]!.cs.map CW.v) (fun t=>us[t]!.feat) (us.length-1) 1 (ax g us.length (fun t=>us[t]!.cs.map CW.v) 3).2 (bO (fun t=>us[t]!.cs) 0 [⟨zV,-1,.sl (ax g us.length (fun t=>us[t]!.cs.map CW.v) 3).1,.nil⟩])
def cM (ks:List Int)(few:Int):bG:=⟨(List.range (ec ⟨ks,0⟩ few).1.length).map fun t=>⟨(ec ⟨ks,0⟩ few).1[t]!.name,(ec ⟨ks,0⟩ few).1[t]!.feat,(mf (ec ⟨ks,0⟩ few).1 (ec ⟨ks,0⟩ few).2 t).map CW.p⟩⟩
def qv (vs:Nat->List a8)(B:Nat->List CW):Prop:=∀t,(B t).map CW.v=vs t
def oo.v {vs:Nat->List a8}{B:Nat->List CW}(h:oo vs B):qv vs B:=fun t=>(h t).1
def qv.len {vs:Nat->List a8}{B:Nat->List CW}(h:qv vs B):(fun j=>(B j).length)=fun j=>(vs j).length:=by
 funext j;rw[<-h j,aS]
def qv.gr {vs:Nat->List a8}{B:Nat->List CW}(h:qv vs B):gr B=vs:=by
 funext j;exact h j
def qv.Ih {vs:Nat->List a8}{B:Nat->List CW}(h:qv vs B){i:Nat}{x:List CW}(hv:x.map CW.v=vs i):qv vs (bO B i x):=by
 intro t;unfold bO;split
 .rename_i e;subst e;exact hv
 .exact h t
def w6 (vs:Nat->List a8):Prop:=∀t,(vs t).length<=4/\∀v∈vs t,v.sm
def qv.ok {vs:Nat->List a8}{B:Nat->List CW}{n:Nat}(h:qv vs B)(hn:2<=n/\n<=8)(hv:w6 vs):Ft n B:=by
 refine⟨hn,fun t=>⟨?_,fun c hc=>?_⟩⟩
 .have:=(hv t).1;rw[<-h t,aS]at this;exact this
 .exact(hv t).2 _ (by rw[<-h t];exact List.mem_map_of_mem hc)
def uh {done:List CW}{r:List a8}{v:a8}{l:List a8}{c:CW}(hd:done.map CW.v=l.take done.length)(hr:l.drop done.length=v::r)(hc:c.v=v):(done++c::r.map aM).map CW.v=l:=by
 have h2:(r.map aM).map CW.v=r:=by rw[List.map_map];exact List.map_id _
 rw[List.map_append,List.map_cons,hd,h2,hc,<-hr,List.take_append_drop]
def wq (n:Nat)(vs:Nat->List a8):∀k g acc,(iD n vs k g acc).1.length=acc.length+k
 |0,g,acc=>by simp[iD]
 |k+1,g,acc=>by
  rw[iD];split<;>rw[wq n vs k]<;>simp<;>omega
def uq {g:Gs}{n:Nat}{vs:Nat->List a8}{most:Int}(h0:0<=most)(h3:most<=3):(ax g n vs most).1.length<=3:=by
 have hv:=gF (ym g.l g.i) (most+1) ae;have hv2:g.val (most+1)=ff (ym g.l g.i) (most+1):=rfl;unfold ax;rw[wq];simp only[cb];omega
def nP {ks:List Int}{few:Int}{us:List RU}{g1:Gs}(h:ec ⟨ks,0⟩ few=(us,g1)):(2<=us.length/\us.length<=8)/\us[0]!.cs=[vu]/\(∀t:Nat,1<=t->us[t]!.cs=(us[t]!.cs.map CW.v).map aM)/\w6 (fun t=>us[t]!.cs.map CW.v)/\(∀t:Nat,∀c∈us[t]!.cs,c.pl=true)/\0<=g1.i/\g1.i<=51:=by
 obtain⟨more,e,hm,hl,h1,h2⟩:=wQ (g:=⟨ks,0⟩) (few:=few);rw[h]at e h1 h2;dsimp only at e h1 h2;subst e;have hc:∀t,1<=t->(sn++more)[t]!.cs=[]\/(sn++more)[t]!.raw:=by
  intro t ht;rcases cK t (sn++more).length with h|h
  .right;have h5:(sn++more)[t]! =more[t-1]! :=by
    simp only[sn,cj,List.length_singleton]at h;simp[sn,List.getElem!_eq_getElem?_getD,List.getElem?_cons,show t≠0 by omega]
   rw[h5];exact hm _ (aj (by simp only[sn,cj,List.length_singleton]at h;omega))
  .left;rw[pS h];rfl
 have h0:(sn++more)[0]!.cs=[vu]:=by simp[sn]
 refine⟨by simp only[sn,cj,List.length_singleton];omega,h0,fun t ht=>?_,fun t=>?_,fun t=>?_,ae,ae⟩
 .rcases hc t ht with e|⟨vs,e,_⟩
  .rw[e];rfl
  .rw[e,List.map_map,List.map_map];congr 1
 .rcases Nat.eq_zero_or_pos t with rfl|ht
  .simp only[h0,List.map_cons,List.map_nil,List.length_singleton];exact⟨ae,fun v hv=>by obtain rfl:=bl.1 hv;exact rT⟩
  .rcases hc t ht with e|⟨vs,e,hl4,hsm⟩
   .simp only[e,List.map_nil,cb];exact⟨ae,fun v hv=>by cases hv⟩
   .have e2:(vs.map aM).map CW.v=vs:=by rw[List.map_map];exact List.map_id _
    simp only[e,e2];exact⟨hl4,hsm⟩
 .rcases Nat.eq_zero_or_pos t with rfl|ht
  .rw[h0];intro c hc';obtain rfl:=bl.1 hc';rfl
  .rcases hc t ht with e|⟨vs,e,_⟩
   .rw[e];intro c hc';cases hc'
   .rw[e];exact eN vs
def xE {done rest:List CW}{c:CW}(hd:∀c∈done,c.pl=true)(hc:c.pl=true)(hr:∀c∈rest,c.pl=true):∀x∈done++c::rest,x.pl=true:=fun x hx=>(List.mem_append.1 hx).elim (hd x) fun h=>(dr.1 h).elim (fun e=>by rw[e];exact hc) (hr x)
def HR {α:Type}{l:List α}{k:Nat}{v:α}{r:List α}(h:l.drop k=v::r):l.take (k+1)=l.take k++[v]:=by
 have h2:(l.drop k)[0]? =some v:=by rw[h];rfl
 rw[List.getElem?_drop]at h2;rw[List.take_succ,show l[k]? =some v by simpa using h2];rfl
def mj {n i:Nat}{vs:Nat->List a8}{f:dn}{cs B:Nat->List CW}{done:List CW}{v:a8}{r:List a8}{k h g':Gs}{c':CW}{F:List CW×Gs}(hvr:(vs i).drop done.length=v::r)(hB:B=bO cs i (done++((vs i).drop done.length).map aM))
  (hf:(done++(dL n vs i f (v::r) k).1,(dL n vs i f (v::r) k).2)=F) (hdv:done.map CW.v=(vs i).take done.length) (hdp:∀c∈done,c.pl=true) (hk:0<=k.i/\k.i<=h.i+30*(done.length:Nat)) (hce:fT k n vs i f v=(c',g')):
  (done.length+1<=(vs i).length/\(done++[c']).length=done.length+1)/\bO B i (done++c'::r.map aM)=bO cs i ((done++[c'])++((vs i).drop (done.length+1)).map aM)/\
    ((done++[c'])++(dL n vs i f ((vs i).drop (done.length+1)) g').1,(dL n vs i f ((vs i).drop (done.length+1)) g').2)=F/\((done++[c']).map CW.v=(vs i).take (done.length+1)/\∀c∈done++[c'],c.pl=true)/\(0<=g'.i/\g'.i<=h.i+30*((done.length+1:Nat):Int)):=by
 have hr1:(vs i).drop (done.length+1)=r:=by rw[<-List.drop_drop,hvr];rfl
 have h1:=BY (h:=k) (n:=n) (vs:=vs) (i:=i) (f:=f) (v:=v);have h2:=BZ k n i vs f v;rw[hce]at h1 h2;dsimp only at h1 h2;have hl:done.length+1<=(vs i).length:=by
  have:=bK List.length hvr;simp only[vw,bR]at this;omega
 refine⟨⟨hl,bc⟩, ?_, ?_,⟨?_, ?_⟩,ae⟩
 .rw[hr1,hB,sR,lh];rfl
 .rw[hr1,<-hf];simp only[dL,hce,lh,List.singleton_append]
 .rw[List.map_append,hdv,HR hvr,List.map_cons,List.map_nil,h2.1]
 .intro c hc;rcases List.mem_append.1 hc with hc|hc
  .exact hdp c hc
  .obtain rfl:=bl.1 hc;exact h2.2
def Bb {n i:Nat}{vs:Nat->List a8}{ft:Nat->dn}{cs B:Nat->List CW}{done:List CW}{k h:Gs}(hi:i<n)(hle:(vs i).length<=done.length)(hB:B=bO cs i (done++((vs i).drop done.length).map aM))
  (hf:(done++(dL n vs i (ft i) ((vs i).drop done.length) k).1,(dL n vs i (ft i) ((vs i).drop done.length) k).2)=dL n vs i (ft i) (vs i) h):iE n vs ft (n-(i+1)) (i+1) k B=iE n vs ft (n-i) i h cs:=by
 obtain⟨r,hr⟩:∃r,n-i=r+1:=⟨n-i-1,ae⟩
 rw[hr,iE,<-hf,hB,mC hle];obtain rfl:r=n-(i+1):=ae;simp only[dL,List.map_nil,H9]
def SHW:List Sh:=[.sl 3 [.a,.a,.sl 8 [.a,.a,.a,.a,.a,.a,.sl 1 [.sl 3 [.a,.a]],.sl 3 [.a,.a,.a]]]]
def B0 {m:List (Nat×bA)}{c:CW}(h:c.pl=true):(match c.D 10 with
  | .agg ds=>.agg (xL m [.a,.a,.a,.a,.a,.a,.sl 1 [.sl 3 [.a,.a]],.sl 3 [.a,.a,.a]] ds)
  |e=>xH m [.a,.a,.a,.a,.a,.a,.sl 1 [.sl 3 [.a,.a]],.sl 3 [.a,.a,.a]] e)=c.p.D/\(match c.D 10 with
  | .agg ds=>CL m [.a,.a,.a,.a,.a,.a,.sl 1 [.sl 3 [.a,.a]],.sl 3 [.a,.a,.a]] ds
  |e=>J5 m [.a,.a,.a,.a,.a,.a,.sl 1 [.sl 3 [.a,.a]],.sl 3 [.a,.a,.a]] e):=by
 obtain⟨v,sh,n,b⟩:=c;cases n<;>cases b<;>first|(simp[CW.pl,NF.pl,BF.pl]at h;done)|exact⟨rfl,rfl,rfl,rfl,rfl,rfl,rfl,rfl,rfl,rfl⟩
def E7 {m:List (Nat×bA)}{n:Nat}{nm ft:Nat->dn}{ln:Nat->Nat}{cs:Nat->List CW}(h1:look m 1=some (.buf 3 (UB n nm ft ln)))(hc:∀t,t<8->look m (2+t)=some (.buf 8 ((cs t).map (CW.D 10))))(hl:∀t,ln t=(cs t).length)(hp:∀t,∀c∈cs t,c.pl=true)(hn:n<=8):
  xV m SHW (.agg [.own 1 3 0 n])=bG.D ⟨(List.range n).map fun t=>⟨nm t,ft t,(cs t).map CW.p⟩⟩/\Ij m SHW (.agg [.own 1 3 0 n]):=by
 have hu:(UB n nm ft ln).take n=UB n nm ft ln:=gN (by simp[UB]);have hq:∀t,((cs t).map (CW.D 10)).take (ln t)=(cs t).map (CW.D 10):=fun t=>gN (by simp[hl])
 constructor
 .simp only[SHW,xV,xL,xC,aQ,h1,bS,hu];simp only[bG.D,UB,List.map_map];congr 2;congr 1;apply List.map_congr_left;intro j hj;have h2:=hc j (by have:=List.mem_range.1 hj;omega);simp only[Function.comp,UD,xL,xC,aQ,h2,bS,hq,bP.D,List.map_map];congr 4;refine bK (D.sl 8) ?_;apply List.map_congr_left;intro c hc2;exact(B0 (m:=m) (hp j c hc2)).1
 .simp only[SHW,Ij,CL,Ii,aQ,eh,h1,bS,hu];refine⟨⟨⟨trivial,by simp[UB]⟩, ?_⟩,rfl⟩;intro e he;simp only[UB,fD,List.mem_range]at he;obtain⟨j,hj,rfl⟩:=he;have h2:=hc j ae;simp only[UD,CL,Ii,aQ,eh,h2,bS,hq];refine⟨rfl,rfl,⟨⟨trivial,by simp[hl]⟩, ?_⟩,rfl⟩;intro e he;obtain⟨c,hc2,rfl⟩:=fD.1 he;exact(B0 (m:=m) (hp j c hc2)).2
def E8 {ks:List Int}{few:Int}{us:List RU}{g1:Gs}{F:Nat->List CW}(h:ec ⟨ks,0⟩ few=(us,g1))(hF:mf us g1=F):(⟨(List.range us.length).map fun t=>⟨us[t]!.name,us[t]!.feat,(F t).map CW.p⟩⟩:bG)=cM ks few:=by
 unfold cM;rw[h,<-hF]
def N8 (c:CW):Prop:=c.v.sm/\(∀r∈c.n.p,∀w∈r,w.sm)/\∀w∈c.b.p,w.sm
def vi {g:Gs}{n:Nat}{vs:Nat->List a8}(hv:w6 vs):(cw g n vs).sm:=(MF (hv _).2 (hv _).1).1
def y6 {n:Nat}{vs:Nat->List a8}(hv:w6 vs):∀k g acc,(∀r∈acc,∀w∈r,w.sm)->∀r∈(iD n vs k g acc).1,∀w∈r,w.sm
 |0,g,acc,h=>h
 |k+1,g,acc,h=>by
  rw[iD];split<;>refine y6 hv k _ _ ?_<;>intro r hr<;>rcases List.mem_append.1 hr with hr|hr
  .exact h r hr
  .obtain rfl:=bl.1 hr;intro w hw;simp only[dr,dS,or_false]at hw;rcases hw with rfl|rfl<;>exact vi hv
  .exact h r hr
  .obtain rfl:=bl.1 hr;intro w hw;obtain rfl:=bl.1 hw;exact vi hv
def wv {n:Nat}{vs:Nat->List a8}(hv:w6 vs)(g:Gs)(most:Int):∀r∈(ax g n vs most).1,∀w∈r,w.sm:=y6 hv _ _ _ (fun _ h=>by cases h)
def zG {h:Gs}{n i:Nat}{vs:Nat->List a8}{f:dn}{v:a8}(hv:w6 vs)(hs:v.sm):∀r∈mH h n vs i f v,∀w∈r,w.sm:=by
 intro r hr;unfold mH at hr;rcases List.mem_append.1 hr with hr|hr
 .split at hr
  .cases hr
  .obtain rfl:=bl.1 hr;intro w hw;obtain rfl:=bl.1 hw;exact vZ hs
 .exact wv hv _ _ r hr
def FV {h:Gs}{n i:Nat}{vs:Nat->List a8}{f:dn}{v:a8}(hv:w6 vs)(hs:v.sm):N8 (fT h n vs i f v).1:=by
 unfold fT;split
 .exact⟨hs,zG hv hs,fun w hw=>by obtain rfl:=bl.1 hw;exact vi hv⟩
 .exact⟨hs,zG hv hs,fun w hw=>by cases hw⟩
def wh {n i:Nat}{vs:Nat->List a8}{f:dn}(hv:w6 vs):∀(l:List a8) (h:Gs),(∀v∈l,v.sm)->∀c∈(dL n vs i f l h).1,N8 c
 |[],h,_,c,hc=>by cases hc
 |v::r,h,hl,c,hc=>by
  simp only[dL]at hc;rcases dr.1 hc with rfl|hc
  .exact FV hv (hl _ (.head _))
  .exact wh hv r _ (fun x hx=>hl x (.tail _ hx)) c hc
def wA {n:Nat}{vs:Nat->List a8}{ft:Nat->dn}(hv:w6 vs):∀r i h cs,(∀t,((cs t).length<=4)/\∀c∈cs t,N8 c)->∀t,((iE n vs ft r i h cs t).length<=4)/\∀c∈iE n vs ft r i h cs t,N8 c
 |0,i,h,cs,hc=>hc
 |r+1,i,h,cs,hc=>by
  rw[iE];refine wA hv r _ _ _ fun t=>?_
  unfold bO;split
  .refine⟨?_,wh hv _ _ (hv i).2⟩;have:=bK List.length (tP n vs i (ft i) (vs i) h).1;rw[aS]at this;rw[this];exact(hv i).1
  .exact hc t
def rq (ks:List Int)(few:Int):(cM ks few).sm/\(cM ks few).us.length<=8:=by
 obtain⟨us,g1,h⟩:∃us g1,ec ⟨ks,0⟩ few=(us,g1):=⟨_,_,rfl⟩
 obtain⟨h8,h0,hraw,hv,hp,_⟩:=nP h;have hb:∀t:Nat,(us[t]!.cs.length<=4)/\∀c∈us[t]!.cs,N8 c:=by
  intro t;have h4:=(hv t).1;rw[aS]at h4;refine⟨h4,fun c hc=>?_⟩;have hvs:c.v.sm:=(hv t).2 _ (List.mem_map_of_mem hc);rcases Nat.eq_zero_or_pos t with rfl|ht
  .rw[h0]at hc;obtain rfl:=bl.1 hc;exact⟨hvs,(fun _ h=>by cases h),(fun _ h=>by cases h)⟩
  .rw[hraw t ht]at hc;obtain⟨v,_,rfl⟩:=fD.1 hc;exact⟨hvs,(fun _ h=>by cases h),(fun _ h=>by cases h)⟩
 have hf:=wA (n:=us.length) (ft:=fun t=>us[t]!.feat) hv (us.length-1) 1 (ax g1 us.length (fun t=>us[t]!.cs.map CW.v) 3).2 (bO (fun t=>us[t]!.cs) 0 [⟨zV,-1,.sl (ax g1 us.length (fun t=>us[t]!.cs.map CW.v) 3).1,.nil⟩]) (by
  intro t;unfold bO;split
  .refine⟨bc,fun c hc=>?_⟩;obtain rfl:=bl.1 hc;exact⟨rT,wv hv _ _,fun _ h=>by cases h⟩
  .exact hb t)
 unfold cM;rw[h];refine⟨?_,by simp only[aS,List.length_range];exact h8.2⟩;intro u hu;obtain⟨t,_,rfl⟩:=fD.1 hu;have:=hf t;refine⟨by dsimp only[mf];rw[List.length_map];exact Nat.le_trans this.1 bL,fun c hc=>?_⟩;obtain⟨x,hx,rfl⟩:=fD.1 hc;exact this.2 x hx
def ir (a b:Int):Int:=IntKind.i64.wrap ((BitVec.ofInt 64 a&&&BitVec.ofInt 64 b).toNat)
def Ia (a b:Int):Int:=IntKind.i64.wrap ((BitVec.ofInt 64 a&&& ~~~ BitVec.ofInt 64 b).toNat)
def sG (a b:Int):Int:=IntKind.i64.wrap ((BitVec.ofInt 64 a |||BitVec.ofInt 64 b).toNat)
def bD (us:List bP)(u:Int):Int:=if u<0\/(us.length:Int)<=u then 0 else 2^(us[u.toNat]!.cands.length+1) -1
def iW (cs:List dJ)(s:bp):Nat->Int
 |0=>0
 |k+1=>if mM s cs[k]!.v=true then iW cs s k+2^(k+1)else iW cs s k
def fj (us:List bP)(w:Want):Int:=if w.u<0\/(us.length:Int)<=w.u then 0 else iW us[w.u.toNat]!.cands w.s us[w.u.toNat]!.cands.length
def aK (us:List bP):List bM->Int->Int
 |[],u=>bD us u
 |t::r,u=>if t.u=u then t.m else aK us r u
def nO (us:List bP)(t:bM):Bool:=decide (t.m≠0)&&decide (ir t.m (bD us t.u)=t.m)&&decide (t.m≠bD us t.u)
def eQ (us:List bP)(l:List bM):Bool:=dj (fun i=>nO us l[i]! && !(decide (0<i)&&decide (l[i]!.u<=l[i-1]!.u))) 0 l.length
def wo {us:List bP}{l:List bM}{u:Int}{i:Nat}(hi:i<l.length)(h:l[i]!.u=u):aK us (l.drop i) u=l[i]!.m:=by
 rw[ku hi,aK,au (by simpa[hi]using h)];simp[hi]
def ud {us:List bP}{l:List bM}{u:Int}{i:Nat}(hi:i<l.length)(h:¬l[i]!.u=u):aK us (l.drop i) u=aK us (l.drop (i+1)) u:=by
 rw[ku hi,aK,ai (by simpa[hi]using h)]
def wm {us:List bP}{l:List bM}{u:Int}{i:Nat}(hi:l.length<=i):aK us (l.drop i) u=bD us u:=by
 rw[mC hi,aK]
def EI (k:Nat):(2:Int)^k=((2^k:Nat):Int):=by
 induction k with
 |zero=>rfl
 |succ k ih=>rw[Int.pow_succ,ih,Nat.pow_succ];omega
def Bc {k n:Nat}(h:k<=n):(2:Int)^k<=2^n:=by
 rw[EI,EI];exact Int.ofNat_le.2 (Nat.pow_le_pow_right bL h)
def fg (k:Nat):(1:Int)<=2^k:=by
 rw[EI];have:=Nat.one_le_two_pow (n:=k);omega
def oB {k:Nat}(h:k<=40):(2:Int)^k<=1099511627776:=Bc h
def uf (cs:List dJ)(s:bp):∀k,0<=iW cs s k/\iW cs s k<=2^(k+1) -2
 |0=>by simp[iW]
 |k+1=>by
  have ih:=uf cs s k;have h1:(2:Int)^(k+1+1)=2^(k+1)*2:=Int.pow_succ 2 (k+1);have h2:=fg (k+1);rw[iW];split<;>omega
def uW (us:List bP)(row:aq)(k:Int)(w:Want):Bool:=if w.u=row.unit then decide (ir (fj us w) (2^(k+1).toNat)≠0)else decide (Ia (aK us row.terms w.u) (fj us w)=0)
def tZ (us:List bP)(row:aq)(k:Int)(w:Want):Bool:=if w.u=row.unit then decide (ir (fj us w) (2^(k+1).toNat)=0)else decide (ir (fj us w) (aK us row.terms w.u)=0)
def tj (x:Int):Prop:=-9223372036854775808<=x/\x<=9223372036854775807
def yj (x:BitVec 64):IntKind.i64.wrap (x.toNat:Int)=x.toInt:=by
 have h:=x.isLt;have e:IntKind.i64.wrap (x.toNat:Int)=if decide ((x.toNat:Int)%18446744073709551616≥9223372036854775808)=true then(x.toNat:Int)%18446744073709551616-18446744073709551616 else(x.toNat:Int)%18446744073709551616:=rfl
 rw[e,BitVec.toInt_eq_toNat_cond];simp only[bX];split<;>split<;>omega
def lE {m:Int}(h:tj m):(BitVec.ofInt 64 m).toInt=m:=by
 obtain⟨h1,h2⟩:=h;rw[BitVec.toInt_ofInt,Int.bmod_def];split<;>omega
def na (a b:Int):ir a b=(BitVec.ofInt 64 a&&&BitVec.ofInt 64 b).toInt:=yj _
def FO (a b:Int):Ia a b=(BitVec.ofInt 64 a&&& ~~~ BitVec.ofInt 64 b).toInt:=yj _
def FQ (a b:Int):sG a b=(BitVec.ofInt 64 a |||BitVec.ofInt 64 b).toInt:=yj _
def FN (a b:Int):ir a b=ir b a:=by rw[na,na,BitVec.and_comm]
def CH {x:BitVec 64}:x.toInt=0↔x=0#64:=⟨fun h=>BitVec.eq_of_toInt_eq (by rw[h];rfl),fun h=>by rw[h];rfl⟩
def D6 {x y:BitVec 64}:x&&& ~~~ y=0#64↔x&&&y=x:=by
 constructor<;>intro h<;>ext i hi<;>have:=bK (fun z=>z.getLsbD i) h<;>simp at this<;>simp[hi]<;>grind
def Kq {m f:Int}(h:tj m):Ia m f=0↔ir m f=m:=by
 rw[FO,na,CH,D6];constructor
 .intro e;rw[e];exact lE h
 .intro e;exact BitVec.eq_of_toInt_eq (by rw[e,lE h])
def BX {a:Int}{i:Nat}(h0:0<=a)(h1:a<2^i)(hi:i<=40):sG a (2^i)=a+2^i:=by
 have hp:=oB hi;obtain⟨n,rfl⟩:∃n:Nat,a=(n:Int):=⟨a.toNat,ae⟩
 rw[EI]at h1 hp⊢;have h2:n<2^i:=ae;have hl:(2:Nat)^i<=1099511627776:=ae;have e:(BitVec.ofInt 64 (n:Int) |||BitVec.ofInt 64 ((2^i:Nat):Int)).toNat=n+2^i:=by
  rw[BitVec.toNat_or,BitVec.toNat_ofInt,BitVec.toNat_ofInt];have h3:((n:Int)%((2^64:Nat):Int)).toNat=n:=ae;have h4:(((2^i:Nat):Int)%((2^64:Nat):Int)).toNat=2^i:=ae;rw[h3,h4,Nat.or_comm];have:=Nat.two_pow_add_eq_or_of_lt h2 1;simp only[Nat.mul_one]at this;omega
 unfold sG;rw[e,wrap_i64 ae ae];omega
def JZ (us:List bP)(t:bM):Bool:=!(decide (t.m=0) ||!decide (Ia t.m (bD us t.u)=0) ||decide (t.m=bD us t.u))
def J0 {us:List bP}{t:bM}(h:tj t.m):JZ us t=nO us t:=by
 unfold JZ nO;have:=Kq (f:=bD us t.u) h;by_cases h1:t.m=0<;>by_cases h2:ir t.m (bD us t.u)=t.m<;>by_cases h3:t.m=bD us t.u<;>simp_all
def qg {b:Int}{n:Nat}(hb:b=(n:Int))(hn:n<=40):IntKind.i64.wrap (1*2^(min b.toNat IntKind.i64.bits))=2^n:=by
 subst hb;have h:=oB hn;have h2:=fg n;rw[show min (Int.toNat (n:Int)) IntKind.i64.bits=n from Nat.min_eq_left (by simp only[IntKind.bits];omega),Int.one_mul];exact wrap_i64 ae ae
def iA {α:Type}(f:α->Bool):List α->Nat->Int
 |[],_=>-1
 |x::r,i=>if f x=true then(i:Int)else iA f r (i+1)
def pU {α:Type} [Inhabited α]{f:α->Bool}{l:List α}{i:Nat}(hi:i<l.length)(h:f l[i]! =true):iA f (l.drop i) i=i:=by
 rw[ku hi,iA,au (by simpa[hi]using h)]
def n5 {α:Type} [Inhabited α]{f:α->Bool}{l:List α}{i:Nat}(hi:i<l.length)(h:f l[i]! =false):iA f (l.drop i) i=iA f (l.drop (i+1)) (i+1):=by
 rw[ku hi,iA,ai (by simpa[hi]using h)]
def tO {α:Type}{f:α->Bool}{l:List α}{i:Nat}(hi:l.length<=i):iA f (l.drop i) i=-1:=by
 rw[mC hi,iA]
def tN {α:Type}{f:α->Bool}:∀{l:List α}{i:Nat},decide (0<=iA f l i)=l.any f
 |[],i=>by simp[iA]
 |x::r,i=>by
  rw[iA,List.any_cons];split
  .rename_i h;rw[h];simp
  .rename_i h;rw[tN];simp[h]
def fB (b:Bool)(us:List bP)(row:aq)(k:Int)(w:Want):Bool:=if b=true then uW us row k w else !tZ us row k w
def gH (us:List bP)(row:aq)(k:Int)(r:kA):Bool:=!r.any (fB false us row k)
def mI (us:List bP)(row:aq)(k:Nat)(mild:Bool):Bool:=if mild=true then us[row.unit.toNat]!.cands[k]!.bars.any (fB true us row (k:Int))else us[row.unit.toNat]!.cands[k]!.needs.any (gH us row (k:Int))
def dJ.fz (l k:Nat)(es:List Abs.D)(c:dJ):eR l k es c.D=c.D:=oT l k es _ (by simp only[dJ.D,D.a7,aL,eO])
def aY.fz (l k:Nat)(es:List Abs.D)(c:aY):eR l k es c.D=c.D:=oT l k es _ (by simp only[aY.D,D.a7,aL,eO])
def aq.fz (l k:Nat)(es:List Abs.D)(c:aq):eR l k es c.D=c.D:=oT l k es _ (by simp only[aq.D,D.a7,aL,eO])
def vL (l:List bM)(u:Int):Bool:=l.any fun t=>decide (t.u=u)
def pV (us:List bP)(u:Int):∀(l:List bM) (i:Nat),(iA (fun t=>decide (t.u=u)) l i=-1/\vL l u=false/\aK us l u=bD us u)\/∃j,j<l.length/\iA (fun t=>decide (t.u=u)) l i=((i+j:Nat):Int)/\l[j]!.u=u/\aK us l u=l[j]!.m/\vL l u=true
 |[],i=>.inl ⟨rfl,rfl,rfl⟩
 |t::r,i=>by
  by_cases h:t.u=u
  .refine .inr ⟨0,bc, ?_,by simpa using h, ?_, ?_⟩
   .rw[iA,au (by simpa using h)];rfl
   .rw[aK,au h];rfl
   .simp[vL,h]
  .rcases pV us u r (i+1)with⟨h1,h2,h3⟩|⟨j,h1,h2,h3,h4,h5⟩
   .refine .inl ⟨?_, ?_, ?_⟩
    .rw[iA,ai (by simpa using h)];exact h1
    .unfold vL at*;rw[List.any_cons,h2];simp[h]
    .rw[aK,ai h];exact h3
   .refine .inr ⟨j+1,ed, ?_, ?_, ?_, ?_⟩
    .rw[iA,ai (by simpa using h),h2];omega
    .simpa using h3
    .rw[aK,ai h,h4];simp
    .unfold vL at*;rw[List.any_cons,h5];simp
def ix (us:List bP)(row:aq)(mild:Bool):Bool:=vL row.terms row.unit&&decide (ir (aK us row.terms row.unit) 1=0)&&dj (fun k=>decide (ir (aK us row.terms row.unit) (2^(k+1))=0) ||mI us row k mild) 0 us[row.unit.toNat]!.cands.length
def uZ {us:List bP}{t:bM}(h:nO us t=true):0<=t.u/\t.u<us.length:=by
 simp only[nO,bo,bX]at h;by_cases q:t.u<0\/(us.length:Int)<=t.u
 .exfalso;rw[show bD us t.u=0 from au q]at h;have h2:ir t.m 0=0:=by rw[na];simp
  rw[h2]at h;exact h.1.1 h.1.2.symm
 .omega
def CI {us:List bP}{l:List bM}(h:eQ us l=true){i:Nat}(hi:i<l.length):nO us l[i]! =true:=by
 unfold eQ at h;rw[dt]at h;have:=h i ae hi;simp only[bo]at this;exact this.1
def wy (k:Int):D:=if k=1 then .fn 4001178 [.agg []]else if k=2\/k=3 then .fn 4001179 [.agg [.bool (decide (k=3))]]else if k=4 then .fn 4001180 [.agg []]else if k=5 then .fn 4001181 [.agg []]else .fn 4600000 []
def ry (us:List bP)(A B:List bM)(row:aq)(u:Nat):Bool:=decide (Ia (aK us row.terms (u:Int)) (if(u:Int)=row.unit then sG (aK us A (u:Int)) (aK us B (u:Int))else ir (aK us A (u:Int)) (aK us B (u:Int)))=0)
def mF (c:aY)(row:aq)(i:Int):Bool:=decide (bD c.w.us row.unit≠0)&&(decide (0<=row.a)&&decide (row.a<i))&&(decide (0<=row.b)&&decide (row.b<i))&&(eQ c.w.us c.rows[row.a.toNat]!.terms&&eQ c.w.us c.rows[row.b.toNat]!.terms)&&dj (ry c.w.us c.rows[row.a.toNat]!.terms c.rows[row.b.toNat]!.terms row) 0 c.w.us.length
def tk (c:aY)(row:aq):Bool:=decide (bD c.w.us row.unit≠0)&&decide (row.unit<c.allow.length)&&decide (ir (aK c.w.us row.terms row.unit) c.allow[row.unit.toNat]! =0)
def jO (c:aY)(row:aq)(i:Int):Bool:=if row.kind=5 then mF c row i else decide (row.a=0)&&decide (row.b=0)&&(if row.kind=1 then decide (row.unit=0)&&decide (aK c.w.us row.terms 0=1)else if row.kind=2\/row.kind=3 then ix c.w.us row (decide (row.kind=3))else if row.kind=4 then tk c row else false)
def cZ (c:aY)(i:Int):Bool:=decide (0<=i)&&decide (i<c.rows.length)&&eQ c.w.us c.rows[i.toNat]!.terms&&jO c c.rows[i.toNat]! i
def RowsIn (l:List aq):Prop:=∀r∈l,∀t∈r.terms,tj t.m
def Ca {us:List bP}{u:Int}(h:bD us u≠0):0<=u/\u<us.length:=by
 by_cases q:u<0\/(us.length:Int)<=u
 .exact absurd (au q) h
 .omega
def AS (k:Int):k=1\/(k=2\/k=3)\/k=4\/k=5\/¬(k=1\/k=2\/k=3\/k=4\/k=5):=ae
def ofK1 {k:Int}(h:k=1):wy k=.fn 4001178 [.agg []]:=au h
def ofK2 {k:Int}(h:k=2\/k=3):wy k=.fn 4001179 [.agg [.bool (decide (k=3))]]:=by unfold wy;rw[ai ae,au h]
def ofK4 {k:Int}(h:k=4):wy k=.fn 4001180 [.agg []]:=by unfold wy;rw[ai ae,ai ae,au h]
def ofK5 {k:Int}(h:k=5):wy k=.fn 4001181 [.agg []]:=by unfold wy;rw[ai ae,ai ae,ai ae,au h]
def ofK0 {k:Int}(h:¬(k=1\/k=2\/k=3\/k=4\/k=5)):wy k=.fn 4600000 []:=by unfold wy;rw[ai ae,ai ae,ai ae,ai ae]
def im (f:Nat->Bool):Nat->Nat->Nat
 |0,i=>i
 |k+1,i=>if f i=true then im f k (i+1)else i
def xf {f:Nat->Bool}{i n:Nat}(hi:i<n)(h:f i=true):im f (n-i) i=im f (n-(i+1)) (i+1):=by
 obtain⟨k,hk⟩:∃k,n-i=k+1:=⟨n-i-1,ae⟩
 rw[hk,im,au h,show k=n-(i+1)by omega]
def xe {f:Nat->Bool}{i n:Nat}(hi:i<n)(h:f i=false):im f (n-i) i=i:=by
 obtain⟨k,hk⟩:∃k,n-i=k+1:=⟨n-i-1,ae⟩
 rw[hk,im,ai (by rw[h];exact Bool.false_ne_true)]
def tn {f:Nat->Bool}{i n:Nat}(hi:n<=i):im f (n-i) i=i:=by
 rw[show n-i=0 by omega,im]
def iw (ok:Bool)(f:Nat->Bool)(l:List aq):Int×Bool:=if ok=false then(0,false)else if im f l.length 0<l.length then((im f l.length 0:Nat),false)else((l.length:Nat),decide (0<l.length)&&decide (l[l.length-1]!.terms.length=0))
def okW (w:bG)(allow:List Int):Bool:=yi w&& !(decide (0<allow.length)&&decide (allow.length≠w.us.length))
def lY (a b:Int):tj (ir a b):=by
 rw[na];have h1:=BitVec.le_toInt (BitVec.ofInt 64 a&&&BitVec.ofInt 64 b);have h2:=BitVec.toInt_lt (x:=BitVec.ofInt 64 a&&&BitVec.ofInt 64 b);exact⟨by simpa using h1,by have:=h2;simp at this;omega⟩
def yd {us:List bP}{t:bM}(h:nO us t=true):tj t.m:=by
 simp only[nO,bo,bX]at h;rw[<-h.1.2];exact lY _ _
def yH {m:Int}(h:tj m):ir m m=m:=by
 rw[na,BitVec.and_self,lE h]
def nt {us:List bP}{u:Int}(h:∀x∈us,x.cands.length<=16):tj (bD us u):=by
 unfold bD;split
 .exact⟨bL,bL⟩
 .rename_i q;have:=h _ (aj (show u.toNat<us.length by omega));have h1:=oB (k:=us[u.toNat]!.cands.length+1) ae;have h2:=fg (us[u.toNat]!.cands.length+1);constructor<;>omega
def lD {us:List bP}{l:List bM}{u:Int}(hs:∀x∈us,x.cands.length<=16)(h:eQ us l=true):tj (aK us l u)/\ir (aK us l u) (bD us u)=aK us l u:=by
 rcases pV us u l 0 with⟨_,_,e⟩|⟨j,h1,_,h3,e,_⟩
 .rw[e];exact⟨nt hs,yH (nt hs)⟩
 .have ht:=CI h h1;rw[e];refine⟨yd ht, ?_⟩;simp only[nO,bo,bX]at ht;rw[<-h3];exact ht.1.2
def HK {b:Int}{n:Nat}(hb:b=(n:Int))(hn:n<=39):IntKind.i64.wrap (2*2^(min b.toNat IntKind.i64.bits))=2^(n+1):=by
 subst hb;have h:=oB (k:=n+1) ae;have h2:=fg n;rw[Int.pow_succ]at h;rw[show min (Int.toNat (n:Int)) IntKind.i64.bits=n from Nat.min_eq_left (by simp only[IntKind.bits];omega),Int.pow_succ,Int.mul_comm];exact wrap_i64 ae ae
def eZ (l k:Nat)(es:List D)(rs:List aq):fG l k es (rs.map aq.D)=rs.map aq.D:=iz l k es _ (bQ (fun r=>by simp only[aq.D,D.a7,aL,eO]) _)
def gJ {α:Type} [Inhabited α]{l:List α}{i:Nat}(h:i<l.length):l.take i++[l[i]!]=l.take (i+1):=by
 rw[List.take_succ,show l[i]? =some l[i]! by simp[h]];rfl
def lS (us:List bP)(ks:List Int)(i:Nat):Int:=if ff (ym ks (i:Int)) 300<100/\0<i then ir (bD us (i:Int)) (ff (ym ks (i:Int)) 300)else bD us (i:Int)
def m8 (us:List bP)(ks:List Int):Nat->List Int
 |0=>[]
 |i+1=>m8 us ks i++[lS us ks i]
def j7 (us:List bP)(ks:List Int):List Int:=if ks.length=0 then []else m8 us ks us.length
def oK (us:List bP)(ks:List Int):∀i,(m8 us ks i).length=i
 |0=>rfl
 |i+1=>by rw[m8,cj,oK us ks i];rfl
def ji:bG:=⟨[⟨[],[],[⟨zV,-1,[[⟨1,vF⟩]],[]⟩]⟩,⟨[97,110,116],[],[]⟩]⟩
def bG.fz (l k:Nat)(es:List Abs.D)(w:bG):eR l k es w.D=w.D:=oT l k es _ rfl
def bM.eq (a b:bM):gL (bM.D a).cells (bM.D b).cells=decide (a=b):=by
 cases a;cases b
 grind [bM.D,D.cells,gL,sK]
def y1 {α:Type} [Inhabited α]{a b:List α}(h:a.length=b.length)(hk:∀k,k<a.length->a[k]! =b[k]!):a=b:=by
 apply List.ext_getElem h;intro n h1 h2;have:=hk n h1;simpa[h1,h2]using this
def kT (us:List bP)(i:Nat):List Int:=(List.range i).map fun u=>bD us ((u:Nat):Int)
def kS (us:List bP):List Int:=kT us us.length
def mh (us:List bP)(i:Nat):(kT us i).length=i:=by simp[kT]
def AJ (us:List bP):(kS us).length=us.length:=mh _ _
def AK (us:List bP)(i:Nat):kT us i++[bD us ((i:Nat):Int)]=kT us (i+1):=by
 simp[kT,List.range_succ]
def iB (us:List bP)(ms:List Int):Nat->List bM
 |0=>[]
 |i+1=>if ms[i]! ≠bD us ((i:Nat):Int)then iB us ms i++[⟨((i:Nat):Int),ms[i]!⟩]else iB us ms i
def qS (us:List bP)(ms:List Int):∀i,(iB us ms i).length<=i
 |0=>aI _
 |i+1=>by
  have:=qS us ms i;rw[iB];split
  .simp only[cj,List.length_singleton];omega
  .omega
def Jd {us:List bP}{ms:List Int}{i:Nat}(h:ms[i]! ≠bD us ((i:Nat):Int)):iB us ms i++[⟨((i:Nat):Int),ms[i]!⟩]=iB us ms (i+1):=by rw[iB,au h]
def Jc {us:List bP}{ms:List Int}{i:Nat}(h:¬ms[i]! ≠bD us ((i:Nat):Int)):iB us ms i=iB us ms (i+1):=by rw[iB,ai h]
def hY (us:List bP)(ms:List Int):List bM×Bool:=if dj (fun i=>decide (ms[i]! ≠0)) 0 ms.length=true then(iB us ms ms.length,true)else([],false)
def Ew (us:List bP)(ms:List Int):(hY us ms).1.length<=ms.length:=by
 unfold hY;split
 .exact qS _ _ _
 .exact Nat.zero_le _
def HL {xs:List Int}{i:Nat}(h:i<xs.length)(v:Int):(xs.map (D.int .i64)).set i (qh ((xs.map (D.int .i64)).getD i .any) 1 1 0 (.int .i64 v))=(xs.set i v).map (D.int .i64):=by
 rw[getD_map h,List.map_set];rfl
def BP (ms:List Int)(t:bM):List Int:=ms.set t.u.toNat (ir ms[t.u.toNat]! t.m)
def mO (us:List bP)(l:List bM):Nat->List Int
 |0=>kS us
 |i+1=>BP (mO us l i) l[i]!
def nE (us:List bP)(l:List bM):∀i,(mO us l i).length=us.length
 |0=>AJ us
 |i+1=>by rw[mO,BP,List.length_set,nE us l i]
def Kx (us:List bP)(t:bM):Bool:=decide (0<=t.u)&&decide (t.u<us.length)
def ui (us:List bP)(l:List bM):List bM×Bool:=if dj (fun i=>Kx us l[i]!) 0 l.length=true then hY us (mO us l l.length)else([],false)
def sM (us:List bP)(l:List bM):(ui us l).1.length<=us.length:=by
 unfold ui;split
 .have:=Ew us (mO us l l.length);rw[nE]at this;exact this
 .exact Nat.zero_le _
def jN (us:List bP)(a b:List bM)(unit:Int)(u:Nat):Int:=if((u:Nat):Int)=unit then sG (aK us a ((u:Nat):Int)) (aK us b ((u:Nat):Int))else ir (aK us a ((u:Nat):Int)) (aK us b ((u:Nat):Int))
def eF (us:List bP)(a b:List bM)(unit:Int)(i:Nat):List Int:=(List.range us.length).map fun u=>if u<i then jN us a b unit u else bD us ((u:Nat):Int)
def oW (us:List bP)(a b:List bM)(unit:Int)(i:Nat):(eF us a b unit i).length=us.length:=by simp[eF]
def Gm (us:List bP)(a b:List bM)(unit:Int):kS us=eF us a b unit 0:=by simp[eF,kS,kT]
def tS {us:List bP}{a b:List bM}{unit:Int}{i:Nat}{v:Int}(hv:v=jN us a b unit i):(eF us a b unit i).set i v=eF us a b unit (i+1):=by
 apply List.ext_getElem
 .simp[eF]
 .intro n h1 h2;simp only[eF,List.length_set,aS,List.length_range]at h1 h2;simp only[eF,List.getElem_set,List.getElem_map,List.getElem_range];by_cases e:i=n
  .subst e;rw[au rfl,au ae,hv]
  .rw[ai e];by_cases l:n<i
   .rw[au l,au ae]
   .rw[ai l,ai ae]
def fZ (us:List bP)(a b:List bM)(unit:Int):List bM×Bool:=if unit<0\/(us.length:Int)<=unit then([],false)else hY us (eF us a b unit us.length)
def mB (us:List bP)(c:List Int)(u:Int):Int:=
 if u<0\/(us.length:Int)<=u\/(c.length:Int)<=u then 0 else if c[u.toNat]! < -1\/min (us[u.toNat]!.cands.length:Int) 16<=c[u.toNat]! then 0 else 2^(c[u.toNat]! +1).toNat
def qH (us:List bP)(c:List Int)(t:bM):Bool:=decide (ir (mB us c t.u) t.m≠0)
def KB (f:Nat->Bool):Nat->Bool
 |0=>true
 |k+1=>KB f k&&f k
def Cs {f:Nat->Bool}:∀{n:Nat},KB f n=true↔∀i,i<n->f i=true
 |0=>⟨fun _ i h=>ae,fun _=>rfl⟩
 |n+1=>by
  rw[KB,bo,Cs];constructor
  .rintro⟨h1,h2⟩ i hi;rcases cK i n with h|h
   .exact h1 i h
   .obtain rfl:i=n:=ae;exact h2
  .exact fun h=>⟨fun i hi=>h i ae,h n ae⟩
def kQ (l:List bM)(u:Int):List bM:=l.filter fun t=>decide (t.u≠u)
def rX (l:List bM)(u:Int)(i:Nat):List bM:=kQ (l.take i) u
def LN {l:List bM}{u:Int}{i:Nat}(hi:i<l.length)(h:l[i]!.u≠u):rX l u i++[l[i]!]=rX l u (i+1):=by
 unfold rX kQ;rw[<-gJ hi,List.filter_append,List.filter_cons_of_pos (by simpa using h)];rfl
def LM {l:List bM}{u:Int}{i:Nat}(hi:i<l.length)(h:¬l[i]!.u≠u):rX l u i=rX l u (i+1):=by
 unfold rX kQ;rw[<-gJ hi,List.filter_append,List.filter_cons_of_neg (by simpa using h)];simp
def FM (l:List bM)(u:Int)(i:Nat):(rX l u i).length<=i:=by
 have h1:=List.length_filter_le (fun t:bM=>decide (t.u≠u)) (l.take i);have h2:(l.take i).length<=i:=by rw[ew];omega
 exact dQ h1 h2
def FL (l:List bM)(u:Int):(kQ l u).length<=l.length:=List.length_filter_le _ _
def IQ (l:List bM)(u:Nat):List bM:=l.filter fun t=>decide (t.u=((u:Nat):Int))
def iR (l:List bM):Nat->List bM
 |0=>[]
 |u+1=>iR l u++IQ l u
def ko (l:List bM)(u i:Nat):List bM:=iR l u++IQ (l.take i) u
def JX {l:List bM}{u i:Nat}(hi:i<l.length)(h:l[i]!.u=((u:Nat):Int)):ko l u i++[l[i]!]=ko l u (i+1):=by
 unfold ko IQ;rw[<-gJ hi,List.filter_append,List.filter_cons_of_pos (by simpa using h),lh];rfl
def JV {l:List bM}{u i:Nat}(hi:i<l.length)(h:¬l[i]!.u=((u:Nat):Int)):ko l u i=ko l u (i+1):=by
 unfold ko IQ;rw[<-gJ hi,List.filter_append,List.filter_cons_of_neg (by simpa using h)];simp
def JU (l:List bM)(u:Nat):iR l u=ko l u 0:=by simp[ko,IQ]
def JW (l:List bM)(u:Nat):ko l u l.length=iR l (u+1):=by simp[ko,iR]
def wK (l:List bM):∀u,(iR l u).length<=u*l.length
 |0=>by simp[iR]
 |u+1=>by
  have h1:=wK l u;have h2:(IQ l u).length<=l.length:=List.length_filter_le _ _;rw[iR,cj,Nat.succ_mul];omega
def E0 (l:List bM)(u i:Nat):(ko l u i).length<=u*l.length+i:=by
 have h1:=wK l u;have h2:(IQ (l.take i) u).length<=(l.take i).length:=List.length_filter_le _ _;have h3:(l.take i).length<=i:=by rw[ew];omega
 rw[ko,cj];omega
def wL (l:List bM):List bM:=iR l 48
def nA (x r:aq):Bool:=decide (x.kind=r.kind)&&decide (x.unit=r.unit)&&decide (kQ x.terms r.unit=kQ r.terms r.unit)
def G3 (rows:List aq)(r:aq):Nat:=im (fun i=>!nA rows[i]! r) rows.length 0
def fK (us:List bP)(x r:aq):aq:=⟨x.kind,x.unit,x.a,x.b,wL (⟨r.unit,sG (aK us x.terms r.unit) (aK us r.terms r.unit)⟩::kQ x.terms r.unit)⟩
def mw (us:List bP)(rows:List aq)(r:aq):List aq:=if G3 rows r<rows.length then rows.set (G3 rows r) (fK us rows[G3 rows r]! r)else rows++[r]
def G4 (us:List bP)(rows:List aq)(r:aq):(mw us rows r).length<=rows.length+1:=by
 unfold mw;split
 .rw[List.length_set];omega
 .simp
def stJ4 {xs:List aq}{k:Nat}{l:List bM}(h:k<xs.length):(xs.map aq.D).set k (qh ((xs.map aq.D).getD k .any) 5 1 4 (.sl 2 (l.map bM.D)))=(xs.set k ⟨xs[k]!.kind,xs[k]!.unit,xs[k]!.a,xs[k]!.b,l⟩).map aq.D:=by
 rw[getD_map h,List.map_set];rfl
def aq.MZ (l k:Nat)(es:List Abs.D)(r:aq):eR l k es r.D=r.D:=aq.fz l k es r
def eU (us:List bP)(u k:Nat)(l:List Want)(bar:Bool):List bM:=⟨((u:Nat):Int),ir (bD us ((u:Nat):Int)) (2^(k+1))⟩::l.map fun w=>⟨w.u,if bar=true then fj us w else bD us w.u-fj us w⟩
def Fe (us:List bP)(bar:Bool)(w:Want):Int:=if bar=true then fj us w else bD us w.u-fj us w
def rA {us:List bP}{u k:Nat}{l:List Want}{bar:Bool}{i:Nat}(hi:i<l.length):eU us u k (l.take i) bar++[⟨l[i]!.u,Fe us bar l[i]!⟩]=eU us u k (l.take (i+1)) bar:=by
 unfold eU Fe;rw[<-gJ hi];simp
def B9 {us:List bP}{u:Int}(h:∀x∈us,x.cands.length<=16):0<=bD us u/\bD us u<=131071:=by
 unfold bD;split
 .omega
 .have hc:=h _ (aj (show u.toNat<us.length by omega));have h1:=Bc (k:=us[u.toNat]!.cands.length+1) (n:=17) ae;have h2:=fg (us[u.toNat]!.cands.length+1);have h3:(2:Int)^17=131072:=rfl;omega
def A5 {us:List bP}{w:Want}(h:∀x∈us,x.cands.length<=16):0<=fj us w/\fj us w<=131071:=by
 unfold fj;split
 .omega
 .have hc:=h _ (aj (show w.u.toNat<us.length by omega));have h1:=Bc (k:=us[w.u.toNat]!.cands.length+1) (n:=17) ae;have h2:=uf us[w.u.toNat]!.cands w.s us[w.u.toNat]!.cands.length;have h3:(2:Int)^17=131072:=rfl;omega
def dT (us:List bP)(u k:Nat)(l:List Want)(bar:Bool):List bM×Bool:=ui us (eU us u k l bar)
def vE (us:List bP)(rows:List aq)(kind u:Int)(c:List bM×Bool):List aq:=if c.2=true then mw us rows ⟨kind,u,0,0,c.1⟩else rows
def yA (us:List bP)(rows:List aq)(kind u:Int)(c:List bM×Bool):(vE us rows kind u c).length<=rows.length+1:=by
 unfold vE;split
 .exact G4 _ _ _
 .omega
def dN (us:List bP)(u i:Nat)(l:List kA)(rows:List aq):Nat->List aq
 |0=>rows
 |k+1=>vE us (dN us u i l rows k) 2 ((u:Nat):Int) (dT us u i l[k]! false)
def pg (us:List bP)(u i:Nat)(l:List kA)(rows:List aq):∀k,(dN us u i l rows k).length<=rows.length+k
 |0=>aI _
 |k+1=>by
  have h1:=pg us u i l rows k;have h2:=yA us (dN us u i l rows k) 2 ((u:Nat):Int) (dT us u i l[k]! false);rw[dN];omega
def iP (us:List bP)(u i:Nat)(l:List Want)(rows:List aq):Nat->List aq
 |0=>rows
 |k+1=>vE us (iP us u i l rows k) 3 ((u:Nat):Int) (dT us u i [l[k]!] true)
def qw (us:List bP)(u i:Nat)(l:List Want)(rows:List aq):∀k,(iP us u i l rows k).length<=rows.length+k
 |0=>aI _
 |k+1=>by
  have h1:=qw us u i l rows k;have h2:=yA us (iP us u i l rows k) 3 ((u:Nat):Int) (dT us u i [l[k]!] true);rw[iP];omega
def FR (us:List bP)(u i:Nat)(c:dJ)(rows:List aq):List aq:=iP us u i c.bars (dN us u i c.needs rows c.needs.length) c.bars.length
def dx (us:List bP)(u:Nat)(cs:List dJ)(rows:List aq):Nat->List aq
 |0=>rows
 |i+1=>FR us u i cs[i]! (dx us u cs rows i)
def Few (us:List bP):Prop:=∀u∈us,∀c∈u.cands,c.needs.length<=1000/\c.bars.length<=1000/\∀r∈c.needs,r.length<=1000
def Ea {us:List bP}{u i:Nat}{c:dJ}{rows:List aq}(h:c.needs.length<=1000/\c.bars.length<=1000):(FR us u i c rows).length<=rows.length+2000:=by
 have h1:=pg us u i c.needs rows c.needs.length;have h2:=qw us u i c.bars (dN us u i c.needs rows c.needs.length) c.bars.length;unfold FR;omega
def oM {us:List bP}{u:Nat}{cs:List dJ}{rows:List aq}(h:∀c∈cs,c.needs.length<=1000/\c.bars.length<=1000):∀{i},i<=cs.length->(dx us u cs rows i).length<=rows.length+2000*i
 |0,_=>by simp[dx]
 |i+1,hi=>by
  have h1:=oM (us:=us) (u:=u) (rows:=rows) h (show i<=cs.length by omega);have h2:=Ea (us:=us) (u:=u) (i:=i) (rows:=dx us u cs rows i) (h _ (aj (show i<cs.length by omega)));have h4:(dx us u cs rows (i+1)).length<=(dx us u cs rows i).length+2000:=h2;have q:∀a b c:Nat,a<=c+2000*i->b<=a+2000->b<=c+2000*(i+1):=ae
  exact q _ _ _ h1 h4
def PO:aq:=⟨1,0,0,0,[⟨0,1⟩]⟩
def c9 (us:List bP):Nat->List aq
 |0=>[PO]
 |u+1=>dx us u us[u]!.cands (c9 us u) us[u]!.cands.length
def pC {us:List bP}(hf:Few us)(hc:∀u∈us,u.cands.length<=16):∀{i},i<=us.length->(c9 us i).length<=1+32000*i
 |0,_=>by simp[c9]
 |i+1,hi=>by
  have h1:=pC hf hc (show i<=us.length by omega);have hm:=aj (show i<us.length by omega);have h2:=oM (us:=us) (u:=i) (rows:=c9 us i) (cs:=us[i]!.cands) (fun c hc2=>⟨(hf _ hm c hc2).1,(hf _ hm c hc2).2.1⟩) (aI _);have h3:=hc _ hm;have h4:(c9 us (i+1)).length<=(c9 us i).length+2000*us[i]!.cands.length:=h2;have q:∀a b c:Nat,a<=1+32000*i->b<=a+2000*c->c<=16->b<=1+32000*(i+1):=ae
  exact q _ _ _ h1 h4 h3
def kR (us:List bP):List aq:=c9 us us.length
def tl (us:List bP)(allow:List Int)(u:Nat):List bM×Bool:=ui us [⟨((u:Nat):Int),bD us ((u:Nat):Int) -ir (bD us ((u:Nat):Int)) allow[u]!⟩]
def m9 (us:List bP)(allow:List Int):Nat->List aq
 |0=>kR us
 |u+1=>if(tl us allow u).2=true then m9 us allow u++[⟨4,((u:Nat):Int),0,0,(tl us allow u).1⟩]else m9 us allow u
def yD (us:List bP)(allow:List Int):∀u,(m9 us allow u).length<=(kR us).length+u
 |0=>aI _
 |u+1=>by
  have:=yD us allow u;rw[m9];split
  .simp only[cj,List.length_singleton];omega
  .omega
def jH (us:List bP)(allow:List Int):List aq:=m9 us allow (min allow.length us.length)
structure jE where
 w:bG
 facts:List aq
 x:D
def jE.D (p:jE):Abs.D:=.agg [.sl 3 (p.w.us.map bP.D),.sl 5 (p.facts.map aq.D),p.x]
def rR (us:List bP)(c:List Int)(t:bM):Bool:=decide (t.u<c.length)&&qH us c t
def ma (us:List bP)(c:List Int)(row:aq):Bool:=KB (fun k=>rR us c row.terms[k]!) row.terms.length
def eo (us:List bP)(facts:List aq)(c:List Int):Nat:=im (fun i=>!ma us c facts[i]!) facts.length 0
def jR (us:List bP)(facts:List aq)(c:List Int):Int:=if eo us facts c<facts.length then((eo us facts c:Nat):Int)else-1
def gQ (us:List bP)(u:Nat)(now x:Int)(rows:List aq):aq:=⟨5,((u:Nat):Int),now,x,(fZ us rows[now.toNat]!.terms rows[x.toNat]!.terms ((u:Nat):Int)).1⟩
def mJ (us:List bP)(u:Nat)(rc:List Int->List aq->Int×List aq)(c:List Int):Nat->Int->Int->List aq->Int×List aq
 |0,_,now,rows=>(now,rows)
 |n+1,i,now,rows=>
  if(rc (c++[i]) rows).1<0 then(-1,(rc (c++[i]) rows).2)
  else if aK us (rc (c++[i]) rows).2[(rc (c++[i]) rows).1.toNat]!.terms ((u:Nat):Int)=bD us ((u:Nat):Int)then rc (c++[i]) rows
  else if now<0 then mJ us u rc c n (i+1) (rc (c++[i]) rows).1 (rc (c++[i]) rows).2
  else if aK us (gQ us u now (rc (c++[i]) rows).1 (rc (c++[i]) rows).2).terms ((u:Nat):Int)=bD us ((u:Nat):Int)then
   ((((rc (c++[i]) rows).2.length:Nat):Int),(rc (c++[i]) rows).2++[gQ us u now (rc (c++[i]) rows).1 (rc (c++[i]) rows).2])
  else mJ us u rc c n (i+1) (((rc (c++[i]) rows).2.length:Nat):Int) ((rc (c++[i]) rows).2++[gQ us u now (rc (c++[i]) rows).1 (rc (c++[i]) rows).2])
def jP (us:List bP)(facts:List aq):Nat->List Int->List aq->Int×List aq
 |0,c,rows=>if eo us facts c<facts.length then(((rows.length:Nat):Int),rows++[facts[eo us facts c]!])else(-1,rows)
 |f+1,c,rows=>if eo us facts c<facts.length then(((rows.length:Nat):Int),rows++[facts[eo us facts c]!])
  else if 3000<rows.length then(-1,rows)
  else mJ us c.length (jP us facts f) c (us[c.length]!.cands.length+1) (-1) (-1) rows
def ey (us:List bP)(facts:List aq)(c:List Int)(rows:List aq):Int×List aq:=jP us facts (us.length-c.length) c rows
def kf (us:List bP)(allow:List Int):Int×List aq:=ey us (jH us allow) [] []
def fu (us:List bP)(allow:List Int):Option (List aq):=
 if(kf us allow).1<0\/0<(kf us allow).2[(kf us allow).1.toNat]!.terms.length then none else some ((kf us allow).2.take ((kf us allow).1.toNat+1))
def uy:Option (List aq)->D
 |none=>.aA
 |some l=>.sl 5 (l.map aq.D)
def bt (m:Int)(i:Nat):Bool:=(BitVec.ofInt 64 m).getLsbD i
def ofInt_toInt (x:BitVec 64):BitVec.ofInt 64 x.toInt=x:=BitVec.ofInt_toInt
def kO (a b:Int)(i:Nat):bt (ir a b) i=(bt a i&&bt b i):=by
 unfold bt;rw[na,ofInt_toInt,BitVec.getLsbD_and]
def tt (a b:Int)(i:Nat):bt (sG a b) i=(bt a i ||bt b i):=by
 unfold bt;rw[FQ,ofInt_toInt,BitVec.getLsbD_or]
def Pe {m:Int}{i:Nat}(h:64<=i):bt m i=false:=BitVec.getLsbD_of_ge _ _ h
def xi {a b:Int}(ha:tj a)(hb:tj b)(h:∀i,bt a i=bt b i):a=b:=by
 have e:BitVec.ofInt 64 a=BitVec.ofInt 64 b:=by
  ext i hi
  have:=h i;unfold bt at this
  rwa [BitVec.getLsbD_eq_getElem hi,BitVec.getLsbD_eq_getElem hi]at this
 rw[<-lE ha,<-lE hb,e]
def xj (a b:Int):tj (sG a b):=by
 rw[FQ];have h1:=BitVec.le_toInt (BitVec.ofInt 64 a |||BitVec.ofInt 64 b);have h2:=BitVec.toInt_lt (x:=BitVec.ofInt 64 a |||BitVec.ofInt 64 b);exact⟨by simpa using h1,by have:=h2;simp at this;omega⟩
def O8:tj 0:=⟨bL,bL⟩
def kI (i:Nat):bt 0 i=false:=by unfold bt;simp
def tv {a b:Int}:ir a b=0↔∀i,¬(bt a i=true/\bt b i=true):=by
 constructor
 .intro h i hi;have:=kO a b i;rw[h,kI,hi.1,hi.2]at this;exact absurd this bL
 .intro h;refine xi (lY _ _) O8 fun i=>?_
  rw[kO,kI];have:=h i;revert this;cases bt a i<;>cases bt b i<;>simp
def GG {a:Int}(ha:tj a):a≠0↔∃i,bt a i=true:=by
 constructor
 .intro h;refine Classical.byContradiction fun g=>h (xi ha O8 fun i=>?_)
  rw[kI];cases e:bt a i with
  |false=>rfl
  |true=>exact absurd ⟨i,e⟩ g
 .rintro⟨i,hi⟩ rfl;rw[kI]at hi;cases hi
def iG {a b:Int}(ha:tj a):ir a b=a↔∀i,bt a i=true->bt b i=true:=by
 constructor
 .intro h i hi;have:=kO a b i;rw[h,hi]at this;simpa using this.symm
 .intro h;refine xi (lY _ _) ha fun i=>?_
  rw[kO];have:=h i;revert this;cases bt a i<;>simp
def Fz {a:Int}(h0:0<=a)(h1:a<=1099511627776):tj a:=⟨ae,ae⟩
def tu {k:Nat}(hk:k<=40)(i:Nat):bt (2^k) i=decide (i=k):=by
 unfold bt;rw[EI];have hl:(2:Nat)^k<=1099511627776:=by
  have:=oB hk;rw[EI]at this;omega
 rw[show BitVec.ofInt 64 ((2^k:Nat):Int)=BitVec.ofNat 64 (2^k)from BitVec.ofInt_natCast ..];rw[BitVec.getLsbD_ofNat,Nat.testBit_two_pow];by_cases e:k=i
 .subst e;simp;omega
 .rw[dc e,Bool.and_false,dc (fun h=>e h.symm)]
def FI:∀n,n<17->∀i,i<64->bt ((2:Int)^(n+1) -1) i=decide (i<=n):=by decide+kernel
def kH {us:List bP}{u:Nat}(hu:u<us.length)(hs:∀x∈us,x.cands.length<=16)(i:Nat):bt (bD us ((u:Nat):Int)) i=decide (i<=us[u]!.cands.length):=by
 have hc:=hs _ (aj hu);rw[show bD us ((u:Nat):Int)=2^(us[u]!.cands.length+1) -1 from ai ae];rcases cK i 64 with h|h
 .exact FI _ ae i h
 .rw[Pe h,dc ae]
def BU (cs:List dJ)(s:bp)(i:Nat):∀k,k<=16->bt (iW cs s k) i=(decide (1<=i)&&decide (i<=k)&&mM s cs[i-1]!.v)
 |0,_=>by
  rw[iW,kI];by_cases h:1<=i
  .rw[dc (show ¬i<=0 by omega)];simp
  .rw[dc h];rfl
 |k+1,hk=>by
  have ih:=BU cs s i k ae;have hr:=uf cs s k;rw[iW];split
  .rename_i h;rw[<-BX hr.1 (by have:=fg (k+1);omega) ae,tt,ih,tu ae];by_cases e:i=k+1
   .subst e;rw[show k+1-1=k from rfl,h];simp
   .rw[dc e,Bool.or_false];congr 2;rw[vy];omega
  .rename_i h;rw[ih];by_cases e:i=k+1
   .subst e;simp only[Bool.not_eq_true]at h;rw[show k+1-1=k from rfl,h];simp
   .congr 2;rw[vy];omega
def LL {us:List bP}{w:Want}{u:Nat}(hw:w.u=((u:Nat):Int))(hu:u<us.length)(hs:∀x∈us,x.cands.length<=16)(i:Nat):bt (fj us w) i=(decide (1<=i)&&decide (i<=us[u]!.cands.length)&&mM w.s us[u]!.cands[i-1]!.v):=by
 have hc:=hs _ (aj hu);unfold fj;rw[ai ae,hw];exact BU _ _ _ _ hc
def Jf {us:List bP}{w:Want}(h:w.u<0\/(us.length:Int)<=w.u):fj us w=0:=au h
def Gd {us:List bP}{u:Int}(h:u<0\/(us.length:Int)<=u):bD us u=0:=au h
def FJ {a b:Int}(ha:tj a)(h:ir a b=a)(i:Nat):bt (b-a) i=(bt b i&& !bt a i):=by
 unfold bt;have e:BitVec.ofInt 64 a&&&BitVec.ofInt 64 b=BitVec.ofInt 64 a:=by
  rw[na]at h;exact BitVec.eq_of_toInt_eq (by rw[h,lE ha])
 have e2:BitVec.ofInt 64 (b-a)=BitVec.ofInt 64 b-BitVec.ofInt 64 a:=by
  rw[Int.sub_eq_add_neg,BitVec.ofInt_add,BitVec.ofInt_neg,BitVec.sub_eq_add_neg]
 rw[e2];generalize BitVec.ofInt 64 a=x at e;generalize BitVec.ofInt 64 b=y at e;have hz:(y&&& ~~~x)&&&x=0#64:=by
  ext j hj;simp
 have hs:(y&&& ~~~x)+x=y:=by
  rw[BitVec.add_eq_or_of_and_eq_zero _ _ hz]
  ext j hj
  have:=bK (fun z=>z.getLsbD j) e;simp[hj]at this;simp;cases hx:x[j]<;>cases hy:y[j]<;>simp_all
 have:y-x=y&&& ~~~x:=by
  have h2:(y&&& ~~~x)+x-x=y&&& ~~~x:=BitVec.add_sub_cancel _ _
  rwa [hs]at h2
 rw[this,BitVec.getLsbD_and];rcases cK i 64 with h|h
 .rw[BitVec.getLsbD_not];simp[h]
 .simp[h]
def Gv {us:List bP}{w:Want}(hs:∀x∈us,x.cands.length<=16):ir (fj us w) (bD us w.u)=fj us w:=by
 by_cases q:w.u<0\/(us.length:Int)<=w.u
 .rw[Jf q,Gd q];rfl
 .obtain⟨u,hu⟩:∃u:Nat,w.u=(u:Int):=⟨w.u.toNat,ae⟩
  have hl:u<us.length:=ae;have hb:=A5 (w:=w) hs;rw[iG (Fz hb.1 ae)];intro i hi;rw[LL hu hl hs]at hi;rw[hu,kH hl hs];simp only[bo,bX]at hi⊢;exact hi.1.2
def BV {us:List bP}{w:Want}(hs:∀x∈us,x.cands.length<=16)(i:Nat):bt (bD us w.u-fj us w) i=(bt (bD us w.u) i&& !bt (fj us w) i):=by
 have hb:=A5 (w:=w) hs;exact FJ (Fz hb.1 ae) (Gv hs) i
def Cb {us:List bP}{u:Int}:decide (bD us u≠0)=(decide (0<=u)&&decide (u<us.length)):=by
 unfold bD;by_cases q:u<0\/(us.length:Int)<=u
 .rw[au q];rcases q with q|q
  .rw[dc bc,dc ae];rfl
  .rw[dc bc,show decide (u<us.length)=false from dc ae,Bool.and_false]
 .rw[ai q];have:=fg (us[u.toNat]!.cands.length);rw[Int.pow_succ,cu ae,cu ae,cu ae];rfl
abbrev qu (us:List bP):Prop:=∀x∈us,x.cands.length<=16
abbrev Lt (l:List bM):Prop:=l.Pairwise fun a b=>a.u<b.u
def eJ {us:List bP}{l:List bM}:eQ us l=true↔(∀t∈l,nO us t=true)/\Lt l:=by
 unfold eQ;rw[dt];constructor
 .intro h;have h1:∀j,j<l.length->nO us l[j]! =true/\(0<j->l[j-1]!.u<l[j]!.u):=by
   intro j hj;have:=h j ae hj;simp only[bo,eC,fM,dE]at this;exact⟨this.1,fun h0=>ae⟩
  refine⟨fun t ht=>?_, ?_⟩
  .obtain⟨i,hi,rfl⟩:=List.mem_iff_getElem.1 ht;have:=(h1 i hi).1;simpa[hi]using this
  .rw[Lt,List.pairwise_iff_getElem];have key:∀d i,i+d+1<l.length->l[i]!.u<l[i+d+1]!.u:=by
    intro d;induction d with
    |zero=>intro i hi;exact(h1 (i+1) hi).2 ae
    |succ d ih=>
     intro i hi;have a1:=ih i ae;have a2:=(h1 (i+d+1+1) hi).2 ae;rw[show i+d+1+1-1=i+d+1 by omega]at a2;exact Int.lt_trans a1 a2
   intro i j hi hj hij;have:=key (j-i-1) i ae;rw[show i+(j-i-1)+1=j by omega]at this;simpa[hi,hj]using this
 .rintro⟨h1,h2⟩ j _ hj;rw[Lt,List.pairwise_iff_getElem]at h2;simp only[bo,eC,fM,dE];refine⟨h1 _ (aj hj), ?_⟩;by_cases h0:0<j
  .right;have:=h2 (j-1) j ae hj ae;simp only[hj,getElem!_pos,show j-1<l.length by omega];omega
  .left;exact h0
def lC {us:List bP}:∀{l:List bM},Lt l->∀t∈l,aK us l t.u=t.m
 |a::r,h,t,ht=>by
  rw[Lt,List.pairwise_cons]at h;rw[aK];rcases dr.1 ht with rfl|ht
  .rw[au rfl]
  .have:=h.1 t ht;rw[ai ae,lC h.2 t ht]
def n8 {us:List bP}{v:Int}:∀{l:List bM},(∀t∈l,t.u≠v)->aK us l v=bD us v
 |[],_=>rfl
 |a::r,h=>by rw[aK,ai (h a (.head _)),n8 fun t ht=>h t (.tail _ ht)]
def xB {us:List bP}{v:Int}{l:List bM}(h:Lt l):(∃t∈l,t.u=v/\aK us l v=t.m)\/((∀t∈l,t.u≠v)/\aK us l v=bD us v):=by
 by_cases g:∃t∈l,t.u=v
 .obtain⟨t,ht,rfl⟩:=g;exact .inl ⟨t,ht,rfl,lC h t ht⟩
 .have g':∀t∈l,t.u≠v:=fun t ht e=>g ⟨t,ht,e⟩
  exact .inr ⟨g',n8 g'⟩
def zR {us:List bP}{l:List bM}{u:Int}(h:eQ us l=true)(hm:aK us l u=bD us u):∀t∈l,t.u≠u:=by
 obtain⟨h1,h2⟩:=eJ.1 h;rintro t ht rfl;rw[lC h2 t ht]at hm;have:=h1 t ht;simp only[nO,bo,bX]at this;exact this.2 hm
def j0 {us:List bP}{ms:List Int}{t:bM}:∀{i},t∈iB us ms i↔∃u,u<i/\ms[u]! ≠bD us ((u:Nat):Int)/\t=⟨((u:Nat):Int),ms[u]!⟩
 |0=>⟨fun h=>(by cases h),fun⟨u,h,_⟩=>ae⟩
 |i+1=>by
  rw[iB];split
  .rename_i h;rw[List.mem_append,j0,bl];constructor
   .rintro(⟨u,h1,h2⟩|rfl)
    .exact⟨u,ae,h2⟩
    .exact⟨i,ae,h,rfl⟩
   .rintro⟨u,h1,h2,h3⟩;rcases cK u i with h4|h4
    .exact .inl ⟨u,h4,h2,h3⟩
    .obtain rfl:u=i:=ae;exact .inr h3
  .rename_i h;rw[j0];constructor
   .rintro⟨u,h1,h2⟩;exact⟨u,ae,h2⟩
   .rintro⟨u,h1,h2,h3⟩;rcases cK u i with h4|h4
    .exact⟨u,h4,h2,h3⟩
    .obtain rfl:u=i:=ae;exact absurd h2 h
def p7 {us:List bP}{ms:List Int}:∀i,Lt (iB us ms i)
 |0=>List.Pairwise.nil
 |i+1=>by
  rw[iB];split
  .refine List.pairwise_append.2 ⟨p7 i,List.pairwise_singleton _ _,fun a ha b hb=>?_⟩;obtain rfl:=bl.1 hb;obtain⟨u,hu,_,rfl⟩:=j0.1 ha;dsimp only;omega
  .exact p7 i
def Lx (us:List bP)(ms:List Int):Prop:=∀u,u<us.length->ir ms[u]! (bD us ((u:Nat):Int))=ms[u]!
def Ck {us:List bP}{ms:List Int}(hl:ms.length=us.length)(hs:Lx us ms)(h:(hY us ms).2=true):eQ us (hY us ms).1=true/\(∀u,u<us.length->aK us (hY us ms).1 ((u:Nat):Int)=ms[u]!)/\∀u,u<us.length->ms[u]! ≠0:=by
 unfold hY at h⊢;split at h
 .rename_i ha;rw[au ha];rw[dt]at ha;have hnz:∀u,u<us.length->ms[u]! ≠0:=fun u hu=>by simpa using ha u ae ae
  refine⟨eJ.2 ⟨fun t ht=>?_,p7 _⟩,fun u hu=>?_,hnz⟩
  .obtain⟨u,hu,h2,rfl⟩:=j0.1 ht;simp only[nO,bo,bX];exact⟨⟨hnz u ae,hs u ae⟩,h2⟩
  .dsimp only;by_cases e:ms[u]! =bD us ((u:Nat):Int)
   .rw[n8,e];intro t ht;obtain⟨v,hv,h2,rfl⟩:=j0.1 ht;intro e2;obtain rfl:v=u:=by dsimp only at e2;omega
    exact h2 e
   .exact lC (p7 _) ⟨((u:Nat):Int),ms[u]!⟩ (j0.2 ⟨u,ae,e,rfl⟩)
 .cases h
def Ey {us:List bP}{ms:List Int}(h:∀u,u<ms.length->ms[u]! ≠0):(hY us ms).2=true:=by
 unfold hY;rw[au (by rw[dt];intro u _ hu;simpa using h u hu)]
def zS {us:List bP}{l:List bM}(h:eQ us l=true):l.length<=us.length:=by
 obtain⟨h1,h2⟩:=eJ.1 h;have h3:∀t∈l,0<=t.u/\t.u<us.length:=fun t ht=>uZ (h1 t ht)
 rw[Lt,List.pairwise_iff_getElem]at h2;have key:∀i (hi:i<l.length),(i:Int)<=l[i].u:=by
  intro i;induction i with
  |zero=>intro hi;exact(h3 _ (List.getElem_mem hi)).1
  |succ i ih=>
   intro hi;have:=ih ae;have:=h2 i (i+1) ae hi ae;omega
 rcases Nat.eq_zero_or_pos l.length with h0|h0
 .omega
 .have:=key (l.length-1) ae;have:=(h3 _ (List.getElem_mem (show l.length-1<l.length by omega))).2;omega
def Ek {us:List bP}{u:Nat}(hu:u<us.length):(kS us)[u]! =bD us ((u:Nat):Int):=by
 simp[kS,kT,hu]
def JQ {ms:List Int}{i u:Nat}{v:Int}(hu:u<ms.length):(ms.set i v)[u]! =if i=u then v else ms[u]! :=by
 simp only[List.getElem!_eq_getElem?_getD,List.getElem?_set];split
 .rename_i h;subst h;rw[au hu];rfl
 .rfl
def Gw {us:List bP}{l:List bM}(hs:qu us)(hin:∀t∈l,0<=t.u/\t.u<us.length):∀{n},n<=l.length->∀u,u<us.length->tj (mO us l n)[u]! /\∀i,bt (mO us l n)[u]! i=(bt (bD us ((u:Nat):Int)) i&&(l.take n).all fun t=>decide (t.u≠((u:Nat):Int)) ||bt t.m i)
 |0,_,u,hu=>by
  rw[mO,Ek hu];exact⟨nt hs,fun i=>bc⟩
 |n+1,hn,u,hu=>by
  have ih:=Gw hs hin (show n<=l.length by omega) u hu;have ht:=hin _ (aj (show n<l.length by omega));rw[mO,BP,JQ (by rw[nE];exact hu)];rw[<-gJ (show n<l.length by omega)];simp only[List.all_append,List.all_cons,List.all_nil,eO];by_cases e:l[n]!.u.toNat=u
  .rw[au e,e];refine⟨lY _ _,fun i=>?_⟩;rw[kO,ih.2,dc (show ¬l[n]!.u≠((u:Nat):Int)by omega),Bool.false_or,Bool.and_assoc]
  .rw[ai e,cu (show l[n]!.u≠((u:Nat):Int)by omega)];simpa using ih
def KA {us:List bP}{l:List bM}(hs:qu us)(h:(ui us l).2=true):eQ us (ui us l).1=true/\(∀t∈l,0<=t.u/\t.u<us.length)/\∀u,u<us.length->tj (aK us (ui us l).1 ((u:Nat):Int))/\aK us (ui us l).1 ((u:Nat):Int)≠0/\
  ∀i,bt (aK us (ui us l).1 ((u:Nat):Int)) i=(bt (bD us ((u:Nat):Int)) i&&l.all fun t=>decide (t.u≠((u:Nat):Int)) ||bt t.m i):=by
 unfold ui at h⊢;split at h
 .rename_i ha;rw[au ha];rw[dt]at ha;have hin:∀t∈l,0<=t.u/\t.u<us.length:=fun t ht=>by
   obtain⟨i,hi,rfl⟩:=List.mem_iff_getElem.1 ht;have:=ha i ae hi;simpa[Kx,hi]using this
  have hg:=Gw hs hin (aI l.length);rw[List.take_length]at hg;have hsub:Lx us (mO us l l.length):=fun u hu=>by
   rw[iG (hg u hu).1];intro i hi;rw[(hg u hu).2]at hi;simp only[bo]at hi;exact hi.1
  obtain⟨h1,h2,h3⟩:=Ck (nE us l _) hsub h;refine⟨h1,hin,fun u hu=>?_⟩;rw[h2 u hu];exact⟨(hg u hu).1,h3 u hu,(hg u hu).2⟩
 .cases h
def sE {l:List bM}{u:Nat}{t:bM}:t∈IQ l u↔t∈l/\t.u=((u:Nat):Int):=by simp[IQ]
def rl {l:List bM}{t:bM}:∀{n},t∈iR l n↔t∈l/\0<=t.u/\t.u<((n:Nat):Int)
 |0=>⟨fun h=>(by cases h),fun⟨_,h1,h2⟩=>ae⟩
 |n+1=>by
  rw[iR,List.mem_append,rl,sE];constructor
  .rintro(⟨h,h1,h2⟩|⟨h,h1⟩)
   .exact⟨h,h1,ae⟩
   .exact⟨h,ae,ae⟩
  .rintro⟨h,h1,h2⟩;by_cases e:t.u=((n:Nat):Int)
   .exact .inr ⟨h,e⟩
   .exact .inl ⟨h,h1,ae⟩
def zN {l:List bM}(h:l.Pairwise fun a b=>a.u≠b.u):∀n,Lt (iR l n)
 |0=>List.Pairwise.nil
 |n+1=>by
  rw[iR];refine List.pairwise_append.2 ⟨zN h n, ?_,fun a ha b hb=>?_⟩
  .refine List.Pairwise.imp_of_mem ?_ (h.filter fun t=>decide (t.u=((n:Nat):Int)));intro a b ha hb hab;exact absurd ((sE.1 ha).2.trans (sE.1 hb).2.symm) hab
  .have:=(rl.1 ha).2.2;have:=(sE.1 hb).2;omega
def BW {l:List bM}{u:Int}{t:bM}:t∈kQ l u↔t∈l/\t.u≠u:=by simp[kQ]
def ue {us:List bP}{u v:Int}(hv:v≠u):∀l:List bM,aK us (kQ l u) v=aK us l v
 |[]=>rfl
 |t::r=>by
  have ih:=ue (us:=us) hv r;unfold kQ at ih⊢;by_cases e:t.u=u
  .rw[List.filter_cons_of_neg (by simpa using e),ih,aK,ai ae]
  .rw[List.filter_cons_of_pos (by simpa using e),aK,aK,ih]
def uP {us:List bP}{x y:aq}(hu:x.unit=y.unit)(h:∀v,v≠x.unit->aK us x.terms v=aK us y.terms v)(k:Nat)(mild:Bool):mI us x k mild=mI us y k mild:=by
 have h1:∀b,fB b us x (k:Int)=fB b us y (k:Int):=by
  intro b;funext w;unfold fB uW tZ;rw[<-hu];by_cases e:w.u=x.unit
  .simp only[au e]
  .simp only[ai e,h _ e]
 have h2:gH us x (k:Int)=gH us y (k:Int):=by
  funext l;unfold gH;rw[h1]
 unfold mI;rw[<-hu,h1,h2]
def one_pow:(1:Int)=2^0:=rfl
def nT {m:Int}{k:Nat}(hk:k<=40):ir m (2^k)=0↔bt m k=false:=by
 rw[tv];constructor
 .intro h;cases e:bt m k with
  |false=>rfl
  |true=>exact absurd ⟨e,by rw[tu hk];simp⟩ (h k)
 .rintro h i ⟨h1,h2⟩;rw[tu hk,bX]at h2;subst h2;rw[h]at h1;cases h1
def lZ {us:List bP}{r:aq}{mild:Bool}(hs:qu us)(hu:0<=r.unit/\r.unit<us.length):ix us r mild=true↔vL r.terms r.unit=true/\bt (aK us r.terms r.unit) 0=false/\∀k,k<us[r.unit.toNat]!.cands.length->bt (aK us r.terms r.unit) (k+1)=true->mI us r k mild=true:=by
 have hc:=hs _ (aj (show r.unit.toNat<us.length by omega));unfold ix;rw[bo,bo,bX,one_pow,nT ae,dt,and_assoc];refine and_congr Iff.rfl (and_congr Iff.rfl ⟨fun h k hk hb=>?_,fun h k _ hk=>?_⟩)
 .have:=h k ae hk;rw[eu,bX,nT ae]at this;rcases this with h1|h1
  .rw[hb]at h1;cases h1
  .exact h1
 .rw[eu,bX,nT ae];cases e:bt (aK us r.terms r.unit) (k+1)with
  |false=>exact .inl rfl
  |true=>exact .inr (h k hk e)
def jG (us:List bP)(allow:List Int)(r:aq):Prop:=eQ us r.terms=true/\(r.a=0/\r.b=0)/\(0<=r.unit/\r.unit<us.length)/\
 (r.kind=1/\r.unit=0/\aK us r.terms 0=1\/(r.kind=2\/r.kind=3)/\ix us r (decide (r.kind=3))=true\/r.kind=4/\r.unit<allow.length/\ir (aK us r.terms r.unit) allow[r.unit.toNat]! =0)
def Gi {us:List bP}{l:List bM}{u:Int}(h:aK us l u≠bD us u):vL l u=true:=by
 rcases pV us u l 0 with⟨_,_,e⟩|⟨_,_,_,_,_,e⟩
 .exact absurd e h
 .exact e
def y5 (us:List bP)(x r:aq):∃n,n=48/\(fK us x r).terms=iR (⟨r.unit,sG (aK us x.terms r.unit) (aK us r.terms r.unit)⟩::kQ x.terms r.unit) n:=⟨48,rfl,by unfold fK wL;rfl⟩
def A4 (us:List bP)(x r:aq):(fK us x r).kind=x.kind/\(fK us x r).unit=x.unit/\(fK us x r).a=x.a/\(fK us x r).b=x.b:=by
 unfold fK;exact⟨by dsimp only,by dsimp only,by dsimp only,by dsimp only⟩
def Gu {us:List bP}{allow:List Int}{x r:aq}(hs:qu us)(h48:us.length<=48)(hx:jG us allow x)(hr:jG us allow r)(hk:r.kind=2\/r.kind=3)(hl:nA x r=true):jG us allow (fK us x r):=by
 simp only[nA,bo,bX]at hl;obtain⟨⟨e1,e2⟩,e3⟩:=hl;obtain⟨x1,x2,x3,x4⟩:=hx;obtain⟨r1,r2,r3,r4⟩:=hr;have xc:ix us x (decide (r.kind=3))=true:=by
  rw[<-e1];rcases x4 with h|h|h
  .omega
  .exact h.2
  .omega
 have rc:ix us r (decide (r.kind=3))=true:=by
  rcases r4 with h|h|h
  .omega
  .exact h.2
  .omega
 rw[lZ hs x3]at xc;rw[lZ hs r3]at rc;obtain⟨x5,x6⟩:=eJ.1 x1;have hxin:∀t∈x.terms,0<=t.u/\t.u<us.length:=fun t ht=>uZ (x5 t ht)
 have hM:(⟨r.unit,sG (aK us x.terms r.unit) (aK us r.terms r.unit)⟩::kQ x.terms r.unit:List bM).Pairwise fun a b=>a.u≠b.u:=by
  refine List.pairwise_cons.2 ⟨fun t ht=>?_, ?_⟩
  .exact fun e=>(BW.1 ht).2 e.symm
  .exact(List.Pairwise.filter _ x6).imp fun h=>ae
 obtain⟨k1,k2,k3,k4⟩:=A4 us x r;obtain⟨n48,hn48,hT⟩:∃n,n=48/\(fK us x r).terms=iR (⟨r.unit,sG (aK us x.terms r.unit) (aK us r.terms r.unit)⟩::kQ x.terms r.unit) n:=y5 us x r
 have hlt:Lt (fK us x r).terms:=by rw[hT];exact zN hM n48
 have hmem:∀t,t∈(fK us x r).terms↔t=⟨r.unit,sG (aK us x.terms r.unit) (aK us r.terms r.unit)⟩\/t∈x.terms/\t.u≠r.unit:=by
  intro t;rw[hT,rl,dr,BW];constructor
  .exact fun h=>h.1
  .intro h;refine⟨h, ?_⟩;rcases h with rfl|h
   .dsimp only;omega
   .have:=hxin t h.1;omega
 have hmu:aK us (fK us x r).terms r.unit=sG (aK us x.terms r.unit) (aK us r.terms r.unit):=lC hlt ⟨r.unit,_⟩ ((hmem _).2 (.inl rfl));have hmv:∀v,v≠r.unit->aK us (fK us x r).terms v=aK us x.terms v:=by
  intro v hv;rcases xB (us:=us) (v:=v) x6 with⟨t,ht,rfl,e⟩|⟨hn,e⟩
  .rw[e];exact lC hlt t ((hmem t).2 (.inr ⟨ht,hv⟩))
  .rw[e];refine n8 fun t ht=>?_
   rcases(hmem t).1 ht with rfl|h
   .exact fun e=>hv e.symm
   .exact hn t h.1
 have hmr:∀v,v≠r.unit->aK us (fK us x r).terms v=aK us r.terms v:=fun v hv=>by
  rw[hmv v hv,<-ue hv x.terms,e3,ue hv]
 have sx:=lD (u:=r.unit) hs x1;have sr:=lD (u:=r.unit) hs r1;have hb0:bt (sG (aK us x.terms r.unit) (aK us r.terms r.unit)) 0=false:=by
  rw[tt,rc.2.1,<-e2,xc.2.1];rfl
 obtain⟨n,hn⟩:∃n:Nat,r.unit=(n:Int):=⟨r.unit.toNat,ae⟩
 have hnl:n<us.length:=ae;have hfull:bt (bD us r.unit) 0=true:=by rw[hn,kH hnl hs];simp
 have hne:sG (aK us x.terms r.unit) (aK us r.terms r.unit)≠bD us r.unit:=fun e=>by rw[e,hfull]at hb0;cases hb0
 generalize fK us x r=y at*
 refine⟨eJ.2 ⟨fun t ht=>?_,hlt⟩,by rw[k3,k4];exact x2,by rw[k2];exact x3,.inr (.inl ⟨ae, ?_⟩)⟩
 .rcases(hmem t).1 ht with rfl|h
  .simp only[nO,bo,bX];refine⟨⟨?_, ?_⟩,hne⟩
   .rw[GG (xj _ _)];obtain⟨t,ht,e,e5⟩:∃t∈r.terms,t.u=r.unit/\aK us r.terms r.unit=t.m:=by
     rcases xB (us:=us) (v:=r.unit) (eJ.1 r1).2 with h|⟨_,h⟩
     .exact h
     .have:=rc.2.1;rw[h,hfull]at this;cases this
    have h1:=(eJ.1 r1).1 t ht;have h2:=yd h1;simp only[nO,bo,bX]at h1;obtain⟨i,hi⟩:=(GG h2).1 h1.1.1;exact⟨i,by rw[tt,e5,hi,Bool.or_true]⟩
   .rw[iG (xj _ _)];intro i hi;rw[tt,eu]at hi;rcases hi with hi|hi
    .exact(iG sx.1).1 sx.2 i hi
    .exact(iG sr.1).1 sr.2 i hi
  .exact x5 t h.1
 .rw[k1,e1,lZ hs (by rw[k2];exact x3),k2,e2,hmu];refine⟨Gi (by rw[hmu];exact hne),hb0,fun k hk2 hb=>?_⟩;rw[tt,eu]at hb;rcases hb with hb|hb
  .rw[<-uP (x:=x) (y:=y) k2.symm (fun v hv=>(hmv v (by rw[<-e2];exact hv)).symm)];exact xc.2.2 k (by rw[e2];exact hk2) (by rw[e2];exact hb)
  .rw[<-uP (x:=r) (y:=y) (by rw[k2,e2]) (fun v hv=>(hmr v hv).symm)];exact rc.2.2 k hk2 hb
def Ml {us:List bP}{allow:List Int}{rows:List aq}{r:aq}(hs:qu us)(h48:us.length<=48)(hx:∀x∈rows,jG us allow x)(hr:jG us allow r)(hk:r.kind=2\/r.kind=3):∀x∈mw us rows r,jG us allow x:=by
 unfold mw;split
 .rename_i hi;intro x h;rcases List.mem_or_eq_of_mem_set h with h|rfl
  .exact hx x h
  .refine Gu hs h48 (hx _ (aj hi)) hr hk ?_;have key:∀k i,im (fun i=>!nA rows[i]! r) k i<i+k->nA rows[im (fun i=>!nA rows[i]! r) k i]! r=true:=by
    intro k;induction k with
    |zero=>intro i h;rw[im]at h;omega
    |succ k ih=>
     intro i h;rw[im]at h⊢;split at h
     .rename_i h2;rw[au h2];exact ih _ ae
     .rename_i h2;rw[ai h2];simpa using h2
   exact key _ _ (by rw[aX];exact hi)
 .intro x h;rcases List.mem_append.1 h with h|h
  .exact hx x h
  .obtain rfl:=bl.1 h;exact hr
section
def vY {us:List bP}{allow:List Int}{u k:Nat}{l:List Want}{bar:Bool}(hs:qu us)(hu:u<us.length)(hk:k<us[u]!.cands.length)
  (hl:if bar=true then ∃w∈us[u]!.cands[k]!.bars,l=[w]else l∈us[u]!.cands[k]!.needs) (h:(dT us u k l bar).2=true):jG us allow ⟨if bar=true then 3 else 2,((u:Nat):Int),0,0,(dT us u k l bar).1⟩:=by
 have hc:=hs _ (aj hu);unfold dT at h⊢;obtain⟨g1,g2,g3⟩:=KA hs h;obtain⟨m1,m2,m3⟩:=g3 u hu;have hbit:∀i,bt (aK us (ui us (eU us u k l bar)).1 ((u:Nat):Int)) i=true->i=k+1:=by
  intro i hi;rw[m3,bo,List.all_eq_true]at hi;have:=hi.2 _ (List.mem_cons_self ..);simp only[ne_eq,not_true_eq_false,decide_false,Bool.false_or,kO,tu (show k+1<=40 by omega),bo,bX]at this;exact this.2
 obtain⟨i,hi⟩:=(GG m1).1 m2;obtain rfl:=hbit i hi;have hall:∀w∈l,w.u=((u:Nat):Int)->bt (if bar=true then fj us w else bD us w.u-fj us w) (k+1)=true:=by
  intro w hw e;rw[m3,bo,List.all_eq_true]at hi;have:=hi.2 ⟨w.u,if bar=true then fj us w else bD us w.u-fj us w⟩ (List.mem_cons_of_mem _ (fD.2 ⟨w,hw,rfl⟩));simpa[e]using this
 have hoth:∀w∈l,0<=w.u/\w.u<us.length/\tj (aK us (ui us (eU us u k l bar)).1 w.u)/\∀i,bt (aK us (ui us (eU us u k l bar)).1 w.u) i=true->bt (if bar=true then fj us w else bD us w.u-fj us w) i=true:=by
  intro w hw;have hm:(⟨w.u,if bar=true then fj us w else bD us w.u-fj us w⟩:bM)∈eU us u k l bar:=List.mem_cons_of_mem _ (fD.2 ⟨w,hw,rfl⟩);have hin:=g2 _ hm;dsimp only at hin;obtain⟨v,hv⟩:∃v:Nat,w.u=(v:Int):=⟨w.u.toNat,ae⟩
  obtain⟨n1,_,n3⟩:=g3 v ae;refine⟨hin.1,hin.2,by rw[hv];exact n1,fun i hi=>?_⟩;rw[hv,n3,bo,List.all_eq_true]at hi;have:=hi.2 _ hm;simpa[hv]using this
 have hf0:bt (bD us ((u:Nat):Int)) 0=true:=by rw[kH hu hs];simp
 have hb0:bt (aK us (ui us (eU us u k l bar)).1 ((u:Nat):Int)) 0=false:=by
  cases e:bt (aK us (ui us (eU us u k l bar)).1 ((u:Nat):Int)) 0 with
  |false=>rfl
  |true=>have:=hbit 0 e;omega
 have hu':(0:Int)<=((u:Nat):Int)/\((u:Nat):Int)<us.length:=ae;refine⟨g1,⟨rfl,rfl⟩,hu',.inr (.inl ⟨by cases bar<;>simp, ?_⟩)⟩;rw[lZ hs hu'];dsimp only;refine⟨Gi (fun e=>by rw[e,hf0]at hb0;cases hb0),hb0,fun k2 hk2 hb=>?_⟩;obtain rfl:k2=k:=by have:=hbit _ hb;omega
 unfold mI;dsimp only;rw[Int.toNat_natCast];cases bar with
 |false=>
  simp only[gv,aN]at hl hall hoth⊢;rw[ai bL,List.any_eq_true];refine⟨l,hl, ?_⟩;unfold gH;rw[eC,List.any_eq_false];intro w hw;simp only[fB,gv,aN,eC,Bool.not_eq_false];unfold tZ;dsimp only;split
  .rename_i e;rw[bX,show((k2:Int)+1).toNat=k2+1 from rfl,nT ae];have:=hall w hw e;rw[BV hs,bo,eC]at this;exact this.2
  .rename_i e;rw[bX,tv];rintro i ⟨h1,h2⟩;have:=(hoth w hw).2.2.2 i h2;rw[BV hs,h1]at this;simp at this
 |true=>
  simp only[aV]at hl hall hoth⊢;obtain⟨w,hw,rfl⟩:=hl;rw[au bL,List.any_eq_true];refine⟨w,hw, ?_⟩;simp only[fB,aV];unfold uW;dsimp only;split
  .rename_i e;rw[bX,show((k2:Int)+1).toNat=k2+1 from rfl,Ne,nT ae,hall w (.head _) e];exact Bool.noConfusion
  .rename_i e;obtain⟨_,_,n1,n2⟩:=hoth w (.head _);rw[bX,Kq n1,iG n1];exact n2
abbrev jK (us:List bP)(allow:List Int)(rows:List aq):Prop:=∀x∈rows,jG us allow x
section
variable {us:List bP} {allow:List Int}
def FE {rows:List aq}{kind u:Int}{c:List bM×Bool}(hs:qu us)(h48:us.length<=48)(hk:kind=2\/kind=3)(hx:jK us allow rows)(hr:c.2=true->jG us allow ⟨kind,u,0,0,c.1⟩):jK us allow (vE us rows kind u c):=by
 unfold vE;split
 .rename_i h;exact Ml hs h48 hx (hr h) hk
 .exact hx
def ur (hs:qu us)(h48:us.length<=48){u i:Nat}(hu:u<us.length)(hi:i<us[u]!.cands.length){rows:List aq}(hx:jK us allow rows):∀{k},k<=us[u]!.cands[i]!.needs.length->jK us allow (dN us u i us[u]!.cands[i]!.needs rows k)
 |0,_=>hx
 |k+1,hk=>FE hs h48 (.inl rfl) (ur hs h48 hu hi hx ae) fun h=>vY (bar:=false) hs hu hi (by simpa using aj (show k<us[u]!.cands[i]!.needs.length by omega)) h
def xg (hs:qu us)(h48:us.length<=48){u i:Nat}(hu:u<us.length)(hi:i<us[u]!.cands.length){rows:List aq}(hx:jK us allow rows):∀{k},k<=us[u]!.cands[i]!.bars.length->jK us allow (iP us u i us[u]!.cands[i]!.bars rows k)
 |0,_=>hx
 |k+1,hk=>FE hs h48 (.inr rfl) (xg hs h48 hu hi hx ae) fun h=>vY (bar:=true) hs hu hi ⟨_,aj (show k<us[u]!.cands[i]!.bars.length by omega),rfl⟩ h
def tx (hs:qu us)(h48:us.length<=48){u:Nat}(hu:u<us.length){rows:List aq}(hx:jK us allow rows):∀{i},i<=us[u]!.cands.length->jK us allow (dx us u us[u]!.cands rows i)
 |0,_=>hx
 |i+1,hi=>xg hs h48 hu ae (ur hs h48 hu ae (tx hs h48 hu hx ae) (aI _)) (aI _)
def JH (hs:qu us)(h0:0<us.length)(h1:1<=us[0]!.cands.length):jG us allow PO:=by
 have hc:=hs _ (aj h0);have hI:tj 1:=⟨bL,bL⟩;have hb1:∀i,bt 1 i=decide (i=0):=fun i=>by rw[one_pow];exact tu ae i
 refine⟨eJ.2 ⟨fun t ht=>?_,List.pairwise_singleton _ _⟩,⟨rfl,rfl⟩,⟨Int.le_refl 0,by show(0:Int)<us.length;omega⟩,.inl ⟨rfl,rfl,rfl⟩⟩;obtain rfl:=bl.1 ht;simp only[nO,bo,bX];have hf:=kH h0 hs;refine⟨⟨bL, ?_⟩,fun e=>?_⟩
 .rw[iG hI];intro i hi;rw[hb1,bX]at hi;subst hi;have:=hf 0;rw[show((0:Nat):Int)=0 from rfl]at this;rw[this];simp
 .have:=hf 1;rw[show((0:Nat):Int)=0 from rfl,<-e,hb1,dc bL]at this;exact absurd h1 (of_decide_eq_false this.symm)
def vc (hs:qu us)(h48:us.length<=48)(h0:0<us.length)(h1:1<=us[0]!.cands.length):∀{u},u<=us.length->jK us allow (c9 us u)
 |0,_=>fun x hx=>by obtain rfl:=bl.1 hx;exact JH hs h0 h1
 |u+1,hu=>tx hs h48 ae (vc hs h48 h0 h1 ae) (aI _)
def IP {u:Nat}(hs:qu us)(hu:u<us.length)(ha:u<allow.length)(h:(tl us allow u).2=true):jG us allow ⟨4,((u:Nat):Int),0,0,(tl us allow u).1⟩:=by
 unfold tl at h⊢;obtain⟨g1,g2,g3⟩:=KA hs h;obtain⟨m1,m2,m3⟩:=g3 u hu;refine⟨g1,⟨rfl,rfl⟩,ei,.inr (.inr ⟨rfl,ei, ?_⟩)⟩;dsimp only;rw[Int.toNat_natCast,tv];rintro i ⟨h1,h2⟩;rw[m3,bo,List.all_eq_true]at h1;have:=h1.2 _ (.head _);simp only[ne_eq,not_true_eq_false,decide_false,Bool.false_or]at this;rw[FJ (lY _ _) (by rw[iG (lY _ _)];intro i hi;rw[kO,bo]at hi;exact hi.1),kO,h2]at this;simp at this
def BS (hs:qu us)(h48:us.length<=48)(h0:0<us.length)(h1:1<=us[0]!.cands.length):∀{u},u<=us.length->u<=allow.length->jK us allow (m9 us allow u)
 |0,_,_=>vc hs h48 h0 h1 (aI _)
 |u+1,hu,ha=>by
  have ih:=BS hs h48 h0 h1 (show u<=us.length by omega) (show u<=allow.length by omega);rw[m9];split
  .rename_i h;intro x hx;rcases List.mem_append.1 hx with hx|hx
   .exact ih x hx
   .obtain rfl:=bl.1 hx;exact IP hs ae ae h
  .exact ih
def yP (hs:qu us)(h48:us.length<=48)(h0:0<us.length)(h1:1<=us[0]!.cands.length):jK us allow (jH us allow):=BS hs h48 h0 h1 (Nat.min_le_right _ _) (Nat.min_le_left _ _)
end
end
def Fs (us:List bP)(c:List Int):Prop:=c.length<=us.length/\∀u,u<c.length->-1<=c[u]! /\c[u]! <us[u]!.cands.length
def vb (c:List Int)(u:Nat):Nat:=(c[u]! +1).toNat
def HW {us:List bP}{c:List Int}{u:Nat}(hs:qu us)(hc:Fs us c)(hu:u<c.length):mB us c ((u:Nat):Int)=2^vb c u/\vb c u<=us[u]!.cands.length:=by
 have h1:=hc.2 u hu;have h2:=hc.1;have h3:=hs _ (aj (show u<us.length by omega));unfold mB vb;rw[ai ae,Int.toNat_natCast,ai ae];exact⟨rfl,ae⟩
def Pb (us:List bP)(c:List Int)(l:List bM):Prop:=eQ us l=true/\(∀t∈l,t.u<c.length)/\∀u,u<c.length->bt (aK us l ((u:Nat):Int)) (vb c u)=true
def Eb {us:List bP}{c:List Int}{r:aq}(hs:qu us)(hc:Fs us c)(hv:eQ us r.terms=true)(h:ma us c r=true):Pb us c r.terms:=by
 unfold ma at h;rw[Cs]at h;have ht:∀t∈r.terms,rR us c t=true:=fun t ht=>by
  obtain⟨i,hi,rfl⟩:=List.mem_iff_getElem.1 ht;have:=h i hi;simpa[hi]using this
 obtain⟨h1,h2⟩:=eJ.1 hv;have hlt:∀t∈r.terms,t.u<c.length:=fun t h3=>by
  have:=ht t h3;simp only[rR,bo,bX]at this;exact this.1
 refine⟨hv,hlt,fun u hu=>?_⟩;obtain⟨v1,v2⟩:=HW hs hc hu;rcases xB (us:=us) (v:=((u:Nat):Int)) h2 with⟨t,h3,e,e2⟩|⟨_,e2⟩
 .rw[e2];have:=ht t h3;simp only[rR,qH,bo,bX]at this;rw[e,v1,FN]at this;have h16:=hs _ (aj (show u<us.length by have:=hc.1;omega));cases e3:bt t.m (vb c u)with
  |true=>rfl
  |false=>exact absurd ((nT ae).2 e3) this.2
 .rw[e2,kH (by have:=hc.1;omega) hs];simpa using v2
def en (w:bG)(allow:List Int)(rows:List aq):Prop:=∀i,i<rows.length->cZ ⟨w,allow,rows⟩ ((i:Nat):Int)=true
def kq {rows:List aq}{n j:Nat}(h:j<n):(rows.take n)[j]! =rows[j]! :=by
 simp[List.getElem!_eq_getElem?_getD,List.getElem?_take,h]
def ml {w:bG}{allow:List Int}{rows:List aq}{n i:Nat}(hi:i<n)(hn:n<=rows.length):cZ ⟨w,allow,rows.take n⟩ ((i:Nat):Int)=cZ ⟨w,allow,rows⟩ ((i:Nat):Int):=by
 have hg:=kq (rows:=rows) hi;unfold cZ;simp only[Int.toNat_natCast,hg,ew];rw[cu (show((i:Nat):Int)<((min n rows.length:Nat):Int)by omega),cu (show((i:Nat):Int)<(rows.length:Int)by omega)];congr 1;unfold jO;split
 .unfold mF;dsimp only;by_cases ha:0<=rows[i]!.a/\rows[i]!.a<((i:Nat):Int)
  .by_cases hb:0<=rows[i]!.b/\rows[i]!.b<((i:Nat):Int)
   .rw[kq (show rows[i]!.a.toNat<n by omega),kq (show rows[i]!.b.toNat<n by omega)]
   .rw[show(decide (0<=rows[i]!.b)&&decide (rows[i]!.b<((i:Nat):Int)))=false by rw[fM,dE,dE];omega];simp
  .rw[show(decide (0<=rows[i]!.a)&&decide (rows[i]!.a<((i:Nat):Int)))=false by rw[fM,dE,dE];omega];simp
 .rfl
def EZ {w:bG}{allow:List Int}{rows:List aq}{n:Nat}(h:en w allow rows)(hn:n<=rows.length):en w allow (rows.take n):=by
 intro i hi;rw[ew]at hi;rw[ml ae hn];exact h i ae
def zH {w:bG}{allow:List Int}{rows:List aq}{r:aq}(h:en w allow rows)(hr:cZ ⟨w,allow,rows++[r]⟩ ((rows.length:Nat):Int)=true):en w allow (rows++[r]):=by
 intro i hi;rw[cj,List.length_singleton]at hi;rcases cK i rows.length with h1|h1
 .rw[<-ml (n:=rows.length) h1 bc,List.take_left];exact h i h1
 .obtain rfl:i=rows.length:=ae;exact hr
def mz {w:bG}{allow:List Int}{rows:List aq}(h:en w allow rows){i:Nat}(hi:i<rows.length):eQ w.us rows[i]!.terms=true:=by
 have:=h i hi;unfold cZ at this;simp only[bo,Int.toNat_natCast]at this;exact this.1.2
def lu {rows:List aq}{r:aq}:(rows++[r])[rows.length]! =r:=by simp[List.getElem!_eq_getElem?_getD]
def sC {rows more:List aq}{i:Nat}(h:i<rows.length):(rows++more)[i]! =rows[i]! :=by
 simp[List.getElem!_eq_getElem?_getD,List.getElem?_append_left h]
def AG {w:bG}{allow:List Int}{rows:List aq}{r:aq}(hr:jG w.us allow r):cZ ⟨w,allow,rows++[r]⟩ ((rows.length:Nat):Int)=true:=by
 obtain⟨h1,⟨h2,h3⟩,h4,h5⟩:=hr;unfold cZ;simp only[Int.toNat_natCast,lu,cj,List.length_singleton,bo,bX];refine⟨⟨⟨ae,ae⟩,h1⟩, ?_⟩;unfold jO;have hfn:bD w.us r.unit≠0:=by
  have:=Cb (us:=w.us) (u:=r.unit);rw[cu h4.1,cu h4.2]at this;exact of_decide_eq_true this
 rcases h5 with⟨k,h6,h7⟩|⟨k,h6⟩|⟨k,h6,h7⟩
 .rw[ai ae,au k,h2,h3,h6,h7];rfl
 .rw[ai ae,ai ae,au k,h2,h3,h6];rfl
 .rw[ai ae,ai ae,ai ae,au k,h2,h3];unfold tk;simp only[bo,bX,decide_true,cd];exact⟨⟨hfn,h6⟩,h7⟩
def oV {us:List bP}{a b:List bM}{unit:Int}{u:Nat}(hu:u<us.length):(eF us a b unit us.length)[u]! =jN us a b unit u:=by
 simp[eF,List.getElem!_eq_getElem?_getD,hu]
def Ch {us:List bP}{a b:List bM}{u:Nat}(hs:qu us)(hu:u<us.length)(ha:eQ us a=true)(hb:eQ us b=true)(hn:∀v,v<us.length->jN us a b ((u:Nat):Int) v≠0):
  eQ us (fZ us a b ((u:Nat):Int)).1=true/\∀v,v<us.length->aK us (fZ us a b ((u:Nat):Int)).1 ((v:Nat):Int)=jN us a b ((u:Nat):Int) v:=by
 unfold fZ;rw[ai ae];have hsub:Lx us (eF us a b ((u:Nat):Int) us.length):=by
  intro v hv;rw[oV hv];have sa:=lD (u:=((v:Nat):Int)) hs ha;have sb:=lD (u:=((v:Nat):Int)) hs hb;unfold jN;split
  .rw[iG (xj _ _)];intro i hi;rw[tt,eu]at hi;rcases hi with hi|hi
   .exact(iG sa.1).1 sa.2 i hi
   .exact(iG sb.1).1 sb.2 i hi
  .rw[iG (lY _ _)];intro i hi;rw[kO,bo]at hi;exact(iG sa.1).1 sa.2 i hi.1
 obtain⟨g1,g2,_⟩:=Ck (oW us a b _ _) hsub (Ey fun v hv=>by
  rw[oW]at hv;rw[oV hv];exact hn v hv)
 exact⟨g1,fun v hv=>by rw[g2 v hv,oV hv]⟩
def FP (m:Int):Ia m m=0:=by
 rw[FO,CH]
 ext i hi;simp
def AD {w:bG}{allow:List Int}{rows:List aq}{u:Nat}{now x:Int}(hs:qu w.us)(hu:u<w.us.length)(hR:en w allow rows)(h1:0<=now/\now<rows.length)(h2:0<=x/\x<rows.length)
  (hn:∀v,v<w.us.length->jN w.us rows[now.toNat]!.terms rows[x.toNat]!.terms ((u:Nat):Int) v≠0):cZ ⟨w,allow,rows++[gQ w.us u now x rows]⟩ ((rows.length:Nat):Int)=true:=by
 have va:=mz hR (show now.toNat<rows.length by omega);have vx:=mz hR (show x.toNat<rows.length by omega);obtain⟨j1,j2⟩:=Ch hs hu va vx hn;unfold cZ;simp only[Int.toNat_natCast,lu,cj,List.length_singleton,bo,bX];refine⟨⟨⟨ae,ae⟩,j1⟩, ?_⟩;unfold jO;rw[au (show(gQ w.us u now x rows).kind=5 from rfl)];unfold mF;simp only[bo,bX];rw[show(gQ w.us u now x rows).a=now from rfl,show(gQ w.us u now x rows).b=x from rfl,sC (show now.toNat<rows.length by omega),sC (show x.toNat<rows.length by omega)];refine⟨⟨⟨⟨?_,ae⟩,ae⟩,va,vx⟩, ?_⟩
 .have:=Cb (us:=w.us) (u:=((u:Nat):Int));rw[cu (show(0:Int)<=((u:Nat):Int)by omega),cu (show((u:Nat):Int)<w.us.length by omega)]at this;exact of_decide_eq_true this
 .rw[dt];intro v _ hv;unfold ry;rw[bX,show(gQ w.us u now x rows).terms=(fZ w.us rows[now.toNat]!.terms rows[x.toNat]!.terms ((u:Nat):Int)).1 from rfl,j2 v hv];exact FP _
def yv (us:List bP)(c:List Int)(k:Nat)(l:List bM):Prop:=eQ us l=true/\(∀t∈l,t.u<c.length+1)/\(∀u,u<c.length->bt (aK us l ((u:Nat):Int)) (vb c u)=true)/\∀j,j<k->bt (aK us l ((c.length:Nat):Int)) j=true
def xF {us:List bP}{c:List Int}{k:Nat}{l:List bM}(h:yv us c k l)(hm:aK us l ((c.length:Nat):Int)=bD us ((c.length:Nat):Int)):Pb us c l:=by
 obtain⟨h1,h2,h3,_⟩:=h;refine⟨h1,fun t ht=>?_,h3⟩;have:=h2 t ht;have:=zR h1 hm t ht;omega
def Gz {us:List bP}{c:List Int}{l:List bM}(hs:qu us)(hc:c.length<us.length)(h:yv us c (us[c.length]!.cands.length+1) l):Pb us c l:=by
 refine xF h (xi (lD hs h.1).1 (nt hs) fun i=>?_);rw[kH hc hs];have sm:=lD (u:=((c.length:Nat):Int)) hs h.1;by_cases hi:i<=us[c.length]!.cands.length
 .rw[h.2.2.2 i ae,cu hi]
 .rw[dc hi];cases e:bt (aK us l ((c.length:Nat):Int)) i with
  |false=>rfl
  |true=>
   have:=(iG sm.1).1 sm.2 i e;rw[kH hc hs,bX]at this;exact absurd this hi
def MR {c:List Int}{i:Int}{u:Nat}(h:u<c.length):vb (c++[i]) u=vb c u:=by
 unfold vb;rw[List.getElem!_eq_getElem?_getD,List.getElem?_append_left h,<-List.getElem!_eq_getElem?_getD]
def J3 {c:List Int}{i:Int}:vb (c++[i]) c.length=(i+1).toNat:=by
 unfold vb;simp[List.getElem!_eq_getElem?_getD]
def HJ {us:List bP}{c:List Int}{i:Int}{l:List bM}(h:Pb us (c++[i]) l):eQ us l=true/\(∀t∈l,t.u<c.length+1)/\(∀u,u<c.length->bt (aK us l ((u:Nat):Int)) (vb c u)=true)/\bt (aK us l ((c.length:Nat):Int)) (i+1).toNat=true:=by
 obtain⟨h1,h2,h3⟩:=h;refine⟨h1,fun t ht=>?_,fun u hu=>?_, ?_⟩
 .have:=h2 t ht;simp only[cj,List.length_singleton]at this;omega
 .have:=h3 u ed;rwa [MR hu]at this
 .have:=h3 c.length bc;rwa [J3]at this
def yp (w:bG)(allow:List Int)(c:List Int)(rows:List aq)(r:Int×List aq):Prop:=en w allow r.2/\(∃more,r.2=rows++more)/\-1<=r.1/\(0<=r.1->r.1<r.2.length/\Pb w.us c r.2[r.1.toNat]!.terms)
def wj {w:bG}{allow:List Int}{rows:List aq}{c:List Int}{k:Nat}{now x:Int}(hs:qu w.us)(hc:c.length<w.us.length)(hcok:Fs w.us c)(hR:en w allow rows)(h1:0<=now/\now<rows.length)(h2:0<=x/\x<rows.length)(hk:0<k)
  (ha:yv w.us c k rows[now.toNat]!.terms) (hb:eQ w.us rows[x.toNat]!.terms=true/\(∀t∈rows[x.toNat]!.terms,t.u<c.length+1)/\(∀u,u<c.length->bt (aK w.us rows[x.toNat]!.terms ((u:Nat):Int)) (vb c u)=true)/\bt (aK w.us rows[x.toNat]!.terms ((c.length:Nat):Int)) k=true):
  en w allow (rows++[gQ w.us c.length now x rows])/\yv w.us c (k+1) (gQ w.us c.length now x rows).terms:=by
 obtain⟨a1,a2,a3,a4⟩:=ha;obtain⟨b1,b2,b3,b4⟩:=hb;have hm:∀v,v<w.us.length->(v<c.length->bt (jN w.us rows[now.toNat]!.terms rows[x.toNat]!.terms ((c.length:Nat):Int) v) (vb c v)=true)/\(v=c.length->∀j,j<k+1->bt (jN w.us rows[now.toNat]!.terms rows[x.toNat]!.terms ((c.length:Nat):Int) v) j=true)/\(c.length<v->jN w.us rows[now.toNat]!.terms rows[x.toNat]!.terms ((c.length:Nat):Int) v=bD w.us ((v:Nat):Int)):=by
  intro v hv;refine⟨fun h=>?_,fun h j hj=>?_,fun h=>?_⟩
  .unfold jN;rw[ai ae,kO,a3 v h,b3 v h];rfl
  .subst h;unfold jN;rw[au rfl,tt];rcases cK j k with h|h
   .rw[a4 j h];rfl
   .obtain rfl:j=k:=ae;rw[b4,Bool.or_true]
  .unfold jN;rw[ai ae,n8 (fun t ht=>by have:=a2 t ht;omega),n8 (fun t ht=>by have:=b2 t ht;omega)];exact yH (nt hs)
 have hnz:∀v,v<w.us.length->jN w.us rows[now.toNat]!.terms rows[x.toNat]!.terms ((c.length:Nat):Int) v≠0:=by
  intro v hv e;obtain⟨g1,g2,g3⟩:=hm v hv;rcases Nat.lt_trichotomy v c.length with h|h|h
  .have:=g1 h;rw[e,kI]at this;cases this
  .have:=g2 h 0 ae;rw[e,kI]at this;cases this
  .have:=g3 h;have h0:bt (bD w.us ((v:Nat):Int)) 0=true:=by rw[kH hv hs];simp
   rw[<-this,e,kI]at h0;cases h0
 obtain⟨j1,j2⟩:=Ch hs hc a1 b1 hnz;refine⟨zH hR (AD hs hc hR h1 h2 hnz),j1,fun t ht=>?_,fun u hu=>?_,fun j hj=>?_⟩
 .have hin:=uZ ((eJ.1 j1).1 t ht);refine Classical.byContradiction fun hge=>?_
  obtain⟨v,hv⟩:∃v:Nat,t.u=(v:Int):=⟨t.u.toNat,ae⟩
  have e:=j2 v ae;rw[(hm v ae).2.2 ae]at e;exact zR j1 e t ht hv
 .show bt (aK w.us (fZ w.us _ _ _).1 _) _=true;rw[j2 u ae];exact(hm u ae).1 hu
 .show bt (aK w.us (fZ w.us _ _ _).1 _) _=true;rw[j2 c.length hc];exact(hm c.length hc).2.1 rfl j hj
def yc {w:bG}{allow:List Int}{c:List Int}{rc:List Int->List aq->Int×List aq}(hs:qu w.us)(hc:c.length<w.us.length)(hcok:Fs w.us c)
  (hrc:∀(i:Int) (rows:List aq),-1<=i->i<w.us[c.length]!.cands.length->en w allow rows->yp w allow (c++[i]) rows (rc (c++[i]) rows)):
  ∀(n k:Nat) (i now:Int) (rows:List aq),n+k=w.us[c.length]!.cands.length+1->i=((k:Nat):Int) -1->en w allow rows->(k=0/\now=-1\/0<k/\(0<=now/\now<rows.length)/\yv w.us c k rows[now.toNat]!.terms)->yp w allow c rows (mJ w.us c.length rc c n i now rows)
 |0,k,i,now,rows,hnk,hi,hR,hN=>by
  rw[mJ];refine⟨hR,⟨[],bc⟩, ?_,fun h0=>?_⟩
  .rcases hN with h|h<;>dsimp only<;>omega
  .dsimp only at h0⊢;rcases hN with⟨_,h⟩|⟨_,h1,h2⟩
   .omega
   .obtain rfl:k=w.us[c.length]!.cands.length+1:=ae;exact⟨h1.2,Gz hs hc h2⟩
 |n+1,k,i,now,rows,hnk,hi,hR,hN=>by
  have hr:=hrc i rows ae ae hR;rw[mJ];generalize rc (c++[i]) rows=r at hr⊢;obtain⟨e1,⟨more,e2⟩,e3,e4⟩:=hr;have hlen:r.2.length=rows.length+more.length:=by rw[e2,cj]
  split
  .exact⟨e1,⟨more,e2⟩,ei,fun h=>by dsimp only at h;omega⟩
  .rename_i h0;obtain⟨e5,e6⟩:=e4 ae;have e7:=HJ e6;have hkk:(i+1).toNat=k:=ae;rw[hkk]at e7;split
   .rename_i hf;refine⟨e1,⟨more,e2⟩,e3,fun _=>⟨e5,xF (k:=0) ⟨e7.1,e7.2.1,e7.2.2.1,fun j hj=>ae⟩ hf⟩⟩
   .split
    .rename_i hn;obtain⟨rfl,_⟩:k=0/\now=-1:=by
      rcases hN with h|h
      .exact h
      .omega
     have hj0:∀j,j<1->bt (aK w.us r.2[r.1.toNat]!.terms ((c.length:Nat):Int)) j=true:=fun j hj=>by
      obtain rfl:j=0:=ae;exact e7.2.2.2
     have:=yc hs hc hcok hrc n 1 (i+1) r.1 r.2 ae ae e1 (.inr ⟨ae,⟨ae,e5⟩,e7.1,e7.2.1,e7.2.2.1,hj0⟩);obtain⟨g1,⟨m2,g2⟩,g3,g4⟩:=this;exact⟨g1,⟨more++m2,by rw[g2,e2,lh]⟩,g3,g4⟩
    .rename_i hn;obtain⟨hk,hnw,hnr⟩:0<k/\(0<=now/\now<rows.length)/\yv w.us c k rows[now.toNat]!.terms:=by
      rcases hN with h|h
      .omega
      .exact h
     have hget:r.2[now.toNat]! =rows[now.toNat]! :=by rw[e2];exact sC ae
     obtain⟨j1,j2⟩:=wj (x:=r.1) (now:=now) hs hc hcok e1 ⟨hnw.1,ae⟩ ⟨ae,e5⟩ hk (by rw[hget];exact hnr) e7;split
     .rename_i hf;refine⟨j1,⟨more++[gQ w.us c.length now r.1 r.2],by dsimp only;rw[e2,lh,<-e2]⟩,ei,fun _=>⟨by simp only[cj,List.length_singleton];omega, ?_⟩⟩;dsimp only;rw[Int.toNat_natCast,lu];exact xF j2 hf
     .have:=yc hs hc hcok hrc n (k+1) (i+1) (((r.2.length:Nat):Int)) (r.2++[gQ w.us c.length now r.1 r.2]) ae ae j1 (.inr ⟨ae,⟨ae,by simp only[cj,List.length_singleton];omega⟩,by rw[Int.toNat_natCast,lu];exact j2⟩);obtain⟨g1,⟨m2,g2⟩,g3,g4⟩:=this;exact⟨g1,⟨more++([gQ w.us c.length now r.1 r.2]++m2),by rw[g2,<-lh rows,<-e2,lh]⟩,g3,g4⟩
def BT {f:Nat->Bool}:∀k i,im f k i<i+k->f (im f k i)=false
 |0,i,h=>by rw[im]at h;omega
 |k+1,i,h=>by
  rw[im]at h⊢;split at h
  .rename_i h2;rw[au h2];exact BT k (i+1) ae
  .rename_i h2;rw[ai h2];simpa using h2
def yO {w:bG}{allow:List Int}{facts:List aq}{c:List Int}{rows:List aq}(hs:qu w.us)(hf:jK w.us allow facts)(hc:Fs w.us c)(hR:en w allow rows)(h:eo w.us facts c<facts.length):yp w allow c rows (((rows.length:Nat):Int),rows++[facts[eo w.us facts c]!]):=by
 have hF:=hf _ (aj h);refine⟨zH hR (AG hF),⟨_,rfl⟩,ei,fun _=>⟨by simp only[cj,List.length_singleton];omega, ?_⟩⟩;dsimp only;rw[Int.toNat_natCast,lu];refine Eb hs hc hF.1 ?_;have:=BT (f:=fun i=>!ma w.us c facts[i]!) facts.length 0 (by unfold eo at h;omega);unfold eo;simpa using this
def Fs.app {us:List bP}{c:List Int}{i:Int}(h:Fs us c)(hl:c.length<us.length)(h1:-1<=i)(h2:i<us[c.length]!.cands.length):Fs us (c++[i]):=by
 refine⟨ed,fun u hu=>?_⟩;rw[cj,List.length_singleton]at hu;rcases cK u c.length with h3|h3
 .rw[List.getElem!_eq_getElem?_getD,List.getElem?_append_left h3,<-List.getElem!_eq_getElem?_getD];exact h.2 u h3
 .obtain rfl:u=c.length:=ae;simp only[List.getElem!_eq_getElem?_getD,List.getElem?_concat_length,Option.getD_some]at*
  exact⟨h1,h2⟩
def xJ {w:bG}{allow:List Int}{facts:List aq}(hs:qu w.us)(hf:jK w.us allow facts):∀f c rows,c.length+f=w.us.length->Fs w.us c->en w allow rows->yp w allow c rows (jP w.us facts f c rows)
 |0,c,rows,hl,hc,hR=>by
  rw[jP];split
  .rename_i h;exact yO hs hf hc hR h
  .exact⟨hR,⟨[],bc⟩,ei,fun h=>by dsimp only at h;omega⟩
 |f+1,c,rows,hl,hc,hR=>by
  rw[jP];split
  .rename_i h;exact yO hs hf hc hR h
  .split
   .exact⟨hR,⟨[],bc⟩,ei,fun h=>by dsimp only at h;omega⟩
   .exact yc hs ae hc (fun i rows h1 h2 hR2=>xJ hs hf f (c++[i]) rows ed (hc.app ae h1 h2) hR2) _ 0 (-1) (-1) rows ae ae hR (.inl ⟨rfl,rfl⟩)
def PW (w:bG):Prop:=qu w.us/\w.us.length<=48/\0<w.us.length/\1<=w.us[0]!.cands.length
def qb {w:bG}{allow:List Int}{l:List aq}(hw:PW w)(h:fu w.us allow=some l):en w allow l/\0<l.length/\l[l.length-1]!.terms=[]:=by
 obtain⟨hs,h48,h0,h1⟩:=hw;have hf:jK w.us allow (jH w.us allow):=yP hs h48 h0 h1;have hE:=xJ hs hf w.us.length [] [] bc ⟨Nat.zero_le _,fun u hu=>by cases hu⟩ (fun i hi=>by cases hi);have hp:kf w.us allow=jP w.us (jH w.us allow) w.us.length [] []:=rfl;rw[<-hp]at hE;unfold fu at h;split at h
 .cases h
 .rename_i hn;obtain rfl:=ba h;obtain⟨e1,_,_,e4⟩:=hE;obtain⟨e5,e6⟩:=e4 ae;have hlen:((kf w.us allow).2.take ((kf w.us allow).1.toNat+1)).length=(kf w.us allow).1.toNat+1:=by rw[ew];omega
  refine⟨EZ e1 ae,ae, ?_⟩;rw[hlen,Nat.add_sub_cancel,kq ae];refine List.eq_nil_iff_forall_not_mem.2 fun t ht=>?_
  have h2:=e6.2.1 t ht;have h3:=uZ ((eJ.1 e6.1).1 t ht);simp at h2;omega
def AE {w:bG}{allow:List Int}{l:List aq}(hok:okW w allow=true)(h:en w allow l)(h0:0<l.length)(hl:l[l.length-1]!.terms=[]):iw (okW w allow) (fun j=>cZ ⟨w,allow,l⟩ ((j:Nat):Int)) l=(((l.length:Nat):Int),true):=by
 unfold iw;have hb:im (fun j=>cZ ⟨w,allow,l⟩ ((j:Nat):Int)) l.length 0=l.length:=by
  have key:∀k i,i+k=l.length->im (fun j=>cZ ⟨w,allow,l⟩ ((j:Nat):Int)) k i=l.length:=by
   intro k;induction k with
   |zero=>intro i hi;rw[im];omega
   |succ k ih=>intro i hi;rw[im,au (h i ae)];exact ih _ ae
  exact key _ _ ae
 rw[ai (by rw[hok];decide),hb,ai ae,hl,cu h0];rfl
def uT {us:List bP}{u:Nat}{rc:List Int->List aq->Int×List aq}{c:List Int}{B:Nat}(hrc:∀(i:Int)(rows:List aq),(rc (c++[i]) rows).2.length<=max (rows.length+1) B):∀n i now rows,(mJ us u rc c n i now rows).2.length<=max rows.length B+2*n
 |0,i,now,rows=>by rw[mJ];dsimp only;omega
 |n+1,i,now,rows=>by
  have h1:=hrc i rows;rw[mJ];generalize rc (c++[i]) rows=r at h1⊢;have h3:=uT (us:=us) (u:=u) hrc n (i+1) r.1 r.2;have h4:=uT (us:=us) (u:=u) hrc n (i+1) (((r.2.length:Nat):Int)) (r.2++[gQ us u now r.1 r.2]);have h5:(r.2++[gQ us u now r.1 r.2]).length=r.2.length+1:=bc;rw[h5]at h4;split
  .dsimp only;omega
  .split
   .omega
   .split
    .omega
    .split
     .dsimp only;omega
     .omega
def y9 {us:List bP}{facts:List aq}(hs:qu us):∀f c rows,c.length+f=us.length->(jP us facts f c rows).2.length<=max (rows.length+1) (3001+40*f)
 |0,c,rows,hl=>by
  rw[jP];split
  .simp only[cj,List.length_singleton];omega
  .dsimp only;omega
 |f+1,c,rows,hl=>by
  rw[jP];split
  .simp only[cj,List.length_singleton];omega
  .split
   .dsimp only;omega
   .have h1:=uT (us:=us) (u:=c.length) (rc:=jP us facts f) (c:=c) (B:=3001+40*f) (fun i rows=>y9 hs f (c++[i]) rows ed) (us[c.length]!.cands.length+1) (-1) (-1) rows;have h2:=hs _ (aj (show c.length<us.length by omega));omega
section
def jC:List (List a8):=(List.range 16).map fun m=>bg ((m:Nat):Int) 4
set_option maxRecDepth 10000
def JR:∀vs∈jC,∀m,m<8->mA (sO ((m:Nat):Int) vs vs.length)=true/\mA (vP (sO ((m:Nat):Int) vs vs.length))=true:=by decide+kernel
def yN:∀v∈cE,mA (bF v)=true/\jD v=true:=by decide+kernel
def LF:mA vF=true:=by decide+kernel
def JF:∀vs∈jC,∀k,k<4->0<k->k<vs.length->j8 vs[k-1]! vs[k]! <0:=by decide+kernel
def HQ:∀m,m<16->bg ((m:Nat):Int) 4∈jC:=by decide+kernel
def HP {vs:List a8}(h:vs.Sublist cE):vs∈jC:=by
 have key:jC=[[],[cE[0]!],[cE[1]!],[cE[0]!,cE[1]!],[cE[2]!],[cE[0]!,cE[2]!],[cE[1]!,cE[2]!],[cE[0]!,cE[1]!,cE[2]!],[cE[3]!],[cE[0]!,cE[3]!],[cE[1]!,cE[3]!],[cE[0]!,cE[1]!,cE[3]!],[cE[2]!,cE[3]!],[cE[0]!,cE[2]!,cE[3]!],[cE[1]!,cE[2]!,cE[3]!],[cE[0]!,cE[1]!,cE[2]!,cE[3]!]]:=by decide+kernel
 rw[key];have hv:cE=[cE[0]!,cE[1]!,cE[2]!,cE[3]!]:=rfl;rw[hv]at h;generalize cE[0]! =a at*
 generalize cE[1]! =b at*
 generalize cE[2]! =c at*
 generalize cE[3]! =d at*
 clear hv key;cases h with
 |cons _ h=>cases h with
  |cons _ h=>cases h with
   |cons _ h=>cases h with
    |cons _ h=>cases h;simp
    |cons_cons _ h=>cases h;simp
   |cons_cons _ h=>cases h with
    |cons _ h=>cases h;simp
    |cons_cons _ h=>cases h;simp
  |cons_cons _ h=>cases h with
   |cons _ h=>cases h with
    |cons _ h=>cases h;simp
    |cons_cons _ h=>cases h;simp
   |cons_cons _ h=>cases h with
    |cons _ h=>cases h;simp
    |cons_cons _ h=>cases h;simp
 |cons_cons _ h=>cases h with
  |cons _ h=>cases h with
   |cons _ h=>cases h with
    |cons _ h=>cases h;simp
    |cons_cons _ h=>cases h;simp
   |cons_cons _ h=>cases h with
    |cons _ h=>cases h;simp
    |cons_cons _ h=>cases h;simp
  |cons_cons _ h=>cases h with
   |cons _ h=>cases h with
    |cons _ h=>cases h;simp
    |cons_cons _ h=>cases h;simp
   |cons_cons _ h=>cases h with
    |cons _ h=>cases h;simp
    |cons_cons _ h=>cases h;simp
def wa (vs:List a8):∀r g acc k,k+r=vs.length->acc.Sublist (vs.take k)->((eP vs r g acc).1).Sublist vs
 |0,g,acc,k,hk,h=>by
  rw[eP];rw[show k=vs.length by omega,List.take_length]at h;exact h
 |r+1,g,acc,k,hk,h=>by
  rw[eP];refine wa vs r _ _ (k+1) ae ?_;have hx:vs.take k++[vs[k]!]=vs.take (k+1):=gJ ae;rw[show vs.length-(r+1)=k by omega,<-hx];split
  .exact List.Sublist.append h (List.Sublist.refl _)
  .exact h.trans (List.sublist_append_left _ _)
def uV:∀vs∈jC,vs.Sublist cE:=by decide+kernel
def IT {m:Int}(h:0<=m/\m<16):bg m 4∈jC:=by
 obtain⟨k,rfl⟩:∃k:Nat,m=(k:Int):=⟨m.toNat,ae⟩
 exact HQ k ae
def IZ {vs:List a8}{g:Gs}(h:vs∈jC):(eP vs vs.length g []).1∈jC:=HP ((wa vs vs.length g [] 0 ae bc).trans (uV _ h))
def w8 (a b:RU):Bool:=Op.bytesLess a.name b.name ||(decide (a.name=b.name)&&Op.bytesLess a.feat b.feat)
def RU.ok (u:RU):Prop:=u.name≠[]/\∃vs,vs∈jC/\u.cs=vs.map aM
structure UI (i:Nat)(us:List RU):Prop where
 head:us[0]! =⟨[],[],[vu]⟩
 len:if i=0 then us.length=1 else 2<=us.length
 body:∀j,1<=j->j<us.length->us[j]!.ok
 first:∀j,1<=j->j<us.length->us[j]!.feat≠[]->2<=j
 chain:∀j,2<=j->j<us.length->w8 us[j-1]! us[j]! =true
 last:i≠0->us[us.length-1]!.name=bw[i-1]!
def ui0:UI 0 sn:=⟨rfl,rfl,fun j h1 h2=>by simp[sn]at h2;omega,fun j h1 h2=>by simp[sn]at h2;omega,fun j h1 h2=>by simp[sn]at h2;omega,fun h=>absurd rfl h⟩
def HU {i k:Nat}{us:List RU}{x:RU}(h:UI i us)(hk:k≠0)(hx:x.ok)(hf:x.feat≠[]->2<=us.length)(ha:2<=us.length->w8 us[us.length-1]! x=true)(hn:x.name=bw[k-1]!):UI k (us++[x]):=by
 have hl1:1<=us.length:=by
  have:=h.len;split at this<;>omega
 have hlen:(us++[x]).length=us.length+1:=bc;refine⟨by rw[ju ae];exact h.head,by rw[ai hk,hlen];omega,fun j h1 h2=>?_,fun j h1 h2 hf2=>?_,fun j h1 h2=>?_,fun _=>?_⟩
 .rw[hlen]at h2;rcases cK j us.length with h3|h3
  .rw[ju h3];exact h.body j h1 h3
  .rw[jv ae];exact hx
 .rw[hlen]at h2;rcases cK j us.length with h3|h3
  .rw[ju h3]at hf2;exact h.first j h1 h3 hf2
  .rw[jv ae]at hf2;have:=hf hf2;omega
 .rw[hlen]at h2;rcases cK j us.length with h3|h3
  .rw[ju h3,ju ae];exact h.chain j h1 h3
  .obtain rfl:j=us.length:=ae;rw[ju ae,jv rfl];exact ha h1
 .rw[hlen,Nat.add_sub_cancel,jv rfl];exact hn
def uk:∀i,i<5->bw[i]! ≠[]/\(i≠0->Op.bytesLess bw[i-1]! bw[i]! =true):=by decide+kernel
def HV {i:Nat}{us:List RU}{vs:List a8}(h:UI i us)(hi:i<5)(hv:vs∈jC):UI (i+1) (us++[⟨bw[i]!,[],vs.map aM⟩]):=by
 refine HU h ae ⟨(uk i hi).1,vs,hv,rfl⟩ (fun hf=>absurd rfl hf) (fun h2=>?_) rfl;have h0:i≠0:=by
  rintro rfl;have:=h.len;simp at this;omega
 unfold w8;rw[h.last h0];dsimp only;rw[(uk i hi).2 h0];rfl
def J2 {i:Nat}{us:List RU}{vs vs2:List a8}(h:UI i us)(hi:i<5)(hv:vs∈jC)(hv2:vs2∈jC):UI (i+1) ((us++[⟨bw[i]!,[],vs.map aM⟩])++[⟨bw[i]!,[102],vs2.map aM⟩]):=by
 have h1:=HV h hi hv;have hl:2<=(us++[(⟨bw[i]!,[],vs.map aM⟩:RU)]).length:=by have:=h1.len;rw[ai ae]at this;exact this
 refine HU h1 ae ⟨(uk i hi).1,vs2,hv2,rfl⟩ (fun _=>hl) (fun _=>?_) rfl;have hl2:(us++[(⟨bw[i]!,[],vs.map aM⟩:RU)]).length=us.length+1:=bc;rw[hl2,Nat.add_sub_cancel,jv rfl];unfold w8;dsimp only;rw[cu rfl];have:Op.bytesLess [] [102]=true:=bL;rw[this];simp
def rp (few:Int):∀(r:Nat) (g:Gs) (us:List RU),r<=5->UI (5-r) us->∃i,UI i (eH few r g us).1
 |0,g,us,_,h=>⟨5,by rw[eH];exact h⟩
 |r+1,g,us,hr,h=>by
  have hb:bg (g.br.val 16) 4∈jC:=IT ((Gs.wS g.br 16).1 bL);rw[show 5-(r+1)=4-r by omega]at h;rw[eH];split
  .split
   .exact rp few r _ _ ae (by rw[show 5-r=4-r+1 by omega];exact J2 h ae hb (IZ hb))
   .exact rp few r _ _ ae (by rw[show 5-r=4-r+1 by omega];exact HV h ae hb)
  .exact⟨_,h⟩
def E2 (g:Gs)(few:Int):∃i,UI i (ec g few).1:=rp few 5 g sn ae ui0
def Ax (vs:Nat->List a8):Prop:=∀t,1<=t->vs t∈jC
def JN {g:Gs}{vs:List a8}(h:vs∈jC):mA (sk g vs)=true:=by
 have hv:=(Gs.wS g 8).1 bL;obtain⟨m,hm⟩:∃m:Nat,g.val 8=(m:Int):=⟨(g.val 8).toNat,ae⟩
 have hs:=JR vs h m ae;unfold sk;rw[hm];split
 .exact LF
 .split
  .exact hs.2
  .exact hs.1
def zY {g:Gs}{n:Nat}{vs:Nat->List a8}(hn:2<=n)(hv:Ax vs):oH (n:Int) (cw g n vs)=true:=by
 have h:=(Gs.wS g ((n:Int) -1)).1 ae;unfold oH cw;dsimp only;rw[cu (show 0<1+g.val ((n:Int) -1)by omega),cu (show 1+g.val ((n:Int) -1)<(n:Int)by omega),JN (hv _ ae)];rfl
def zZ {n:Int}{l:List Want}(h:∀w∈l,oH n w=true):pD n l=true:=by
 unfold pD;rw[dt];intro j _ hj;exact h _ (aj hj)
def yz (n:Nat)(l:List kA):Prop:=∀r∈l,oC (n:Int) r=true
def Bx {n:Int}{l:List Want}(h:∀w∈l,oH n w=true)(h0:0<l.length)(h2:l.length<=2):oC n l=true:=by
 unfold oC;rw[zZ h,cu h0,cu (show l.length<=24 by omega)];rfl
def um {n:Nat}{vs:Nat->List a8}(hn:2<=n)(hv:Ax vs):∀k g acc,yz n acc->yz n (iD n vs k g acc).1/\(iD n vs k g acc).1.length=acc.length+k
 |0,g,acc,h=>⟨h,rfl⟩
 |k+1,g,acc,h=>by
  rw[iD];have hw:=fun g=>zY (g:=g) hn hv
  split
  .have:=um hn hv k g.ef.br.ef (acc++[[cw g n vs,cw g.ef.br n vs]]) (by
    intro r hr;rcases List.mem_append.1 hr with hr|hr
    .exact h r hr
    .obtain rfl:=bl.1 hr;refine Bx (fun w hw2=>?_) bc bc;simp only[dr,dS,or_false]at hw2;rcases hw2 with rfl|rfl<;>exact hw _)
   exact⟨this.1,by rw[this.2,cj,List.length_singleton];omega⟩
  .have:=um hn hv k g.ef.br (acc++[[cw g n vs]]) (by
    intro r hr;rcases List.mem_append.1 hr with hr|hr
    .exact h r hr
    .obtain rfl:=bl.1 hr;exact Bx (fun w hw2=>by obtain rfl:=bl.1 hw2;exact hw _) bc bc)
   exact⟨this.1,by rw[this.2,cj,List.length_singleton];omega⟩
def wu {g:Gs}{n:Nat}{vs:Nat->List a8}{most:Int}(hn:2<=n)(hv:Ax vs)(hm:0<=most/\most<=3):yz n (ax g n vs most).1/\(ax g n vs most).1.length<=3:=by
 have h:=(Gs.wS g (most+1)).1 ae;have:=um hn hv (g.val (most+1)).toNat g.br [] (fun r hr=>by cases hr);unfold ax;exact⟨this.1,by rw[this.2];simp only[cb];omega⟩
def sH {n:Nat}{c:dJ}(h1:yz n c.needs)(h2:c.needs.length<=4)(h3:∀w∈c.bars,oH (n:Int) w=true)(h4:c.bars.length<=1):nd (n:Int) c=true:=by
 unfold nd;rw[cu (show c.needs.length<=24 by omega),cu (show c.bars.length<=24 by omega),zZ h3,show dj (fun i=>oC (n:Int) c.needs[i]!) 0 c.needs.length=true by rw[dt];intro j _ hj;exact h1 _ (aj hj)];rfl
def qq (n:Nat)(c:CW):Prop:=nd (n:Int) c.p=true
def Hm {n:Nat}(v:a8):qq n (aM v):=sH (fun r hr=>by cases hr) (by simp[aM,CW.p,NF.p]) (fun w hw=>by cases hw) (by simp[aM,CW.p,BF.p])
def FU {h:Gs}{n i:Nat}{vs:Nat->List a8}{f:dn}{v:a8}(hn:2<=n)(hv:Ax vs)(hi:f≠[]->2<=i)(hin:i<n)(hvv:v∈cE):qq n (fT h n vs i f v).1:=by
 have hg:=wu (g:=h) hn hv (most:=2) bL;have hr:yz n (mH h n vs i f v):=by
  intro r hr;unfold mH at hr;rcases List.mem_append.1 hr with hr|hr
  .split at hr
   .cases hr
   .rename_i hf;obtain rfl:=bl.1 hr;have:=hi hf;refine Bx (fun w hw=>?_) bc bc;obtain rfl:=bl.1 hw;unfold oH;dsimp only;rw[cu (show 0<(i:Int) -1 by omega),cu (show(i:Int) -1<(n:Int)by omega),(yN v hvv).1];rfl
  .exact hg.1 r hr
 have hl:(mH h n vs i f v).length<=4:=by
  unfold mH;rw[cj];have:=hg.2;split<;>simp only[cb,List.length_singleton]<;>omega
 unfold fT;split
 .exact sH hr hl (fun w hw=>by obtain rfl:=bl.1 hw;exact zY hn hv) (by simp[CW.p,BF.p])
 .exact sH hr hl (fun w hw=>by cases hw) (by simp[CW.p,BF.p])
def wg {n i:Nat}{vs:Nat->List a8}{f:dn}(hn:2<=n)(hv:Ax vs)(hi:f≠[]->2<=i)(hin:i<n):∀(l:List a8) (h:Gs),(∀v∈l,v∈cE)->∀c∈(dL n vs i f l h).1,qq n c
 |[],h,_,c,hc=>by cases hc
 |v::r,h,hl,c,hc=>by
  simp only[dL]at hc;rcases dr.1 hc with rfl|hc
  .exact FU hn hv hi hin (hl _ (.head _))
  .exact wg hn hv hi hin r _ (fun x hx=>hl x (.tail _ hx)) c hc
def zO {vs:List a8}(h:vs∈jC):∀v∈vs,v∈cE:=fun v hv=>(uV vs h).subset hv
def wz {n:Nat}{vs:Nat->List a8}{ft:Nat->dn}(hn:2<=n)(hv:Ax vs)(hft:∀i,1<=i->i<n->ft i≠[]->2<=i):∀r i h cs,i+r=n->1<=i->(∀t,(cs t).map CW.v=vs t/\∀c∈cs t,qq n c)->∀t,(iE n vs ft r i h cs t).map CW.v=vs t/\∀c∈iE n vs ft r i h cs t,qq n c
 |0,i,h,cs,hr,hi,hc=>hc
 |r+1,i,h,cs,hr,hi,hc=>by
  rw[iE];refine wz hn hv hft r _ _ _ ae ae fun t=>?_
  unfold bO;split
  .rename_i e;subst e;exact⟨(tP n vs t (ft t) (vs t) h).1,wg hn hv (hft t hi ae) ae _ _ (zO (hv t hi))⟩
  .exact hc t
def wV (ks:List Int)(few:Int):yi (cM ks few)=true/\PW (cM ks few):=by
 obtain⟨us,g1,h⟩:∃us g1,ec ⟨ks,0⟩ few=(us,g1):=⟨_,_,rfl⟩
 obtain⟨h8,h0,hraw,_,hp,_⟩:=nP h;obtain⟨iu,hu⟩:=E2 ⟨ks,0⟩ few;rw[h]at hu;dsimp only at hu;have hv:Ax fun t=>us[t]!.cs.map CW.v:=by
  intro t ht;rcases cK t us.length with h1|h1
  .obtain⟨_,vs,hvs,e⟩:=hu.body t ht h1;dsimp only;rw[e,List.map_map,show(CW.v∘aM)=id from rfl,List.map_id];exact hvs
  .dsimp only;rw[pS h1];exact HP (List.nil_sublist _)
 have hf:=wz (n:=us.length) (vs:=fun t=>us[t]!.cs.map CW.v) (ft:=fun t=>us[t]!.feat) h8.1 hv hu.first (us.length-1) 1 (ax g1 us.length (fun t=>us[t]!.cs.map CW.v) 3).2 (bO (fun t=>us[t]!.cs) 0 [⟨zV,-1,.sl (ax g1 us.length (fun t=>us[t]!.cs.map CW.v) 3).1,.nil⟩]) ae ae (by
  intro t;unfold bO;split
  .rename_i e;subst e;refine⟨by rw[h0];rfl,fun c hc=>?_⟩;obtain rfl:=bl.1 hc;have hg:=wu (g:=g1) h8.1 hv (most:=3) bL;exact sH hg.1 (by have:=hg.2;simp only[CW.p,NF.p];omega) (fun w hw=>by cases hw) (by simp[CW.p,BF.p])
  .rename_i e;refine⟨rfl,fun c hc=>?_⟩;replace hc:c∈us[t]!.cs:=hc;rw[hraw t ae]at hc;obtain⟨v,_,rfl⟩:=fD.1 hc;exact Hm v)
 have hus:(cM ks few).us=(List.range us.length).map fun t=>(⟨us[t]!.name,us[t]!.feat,(mf us g1 t).map CW.p⟩:bP):=by
  unfold cM;rw[h]
 have hlen:(cM ks few).us.length=us.length:=by rw[hus];simp
 have hget:∀t,t<us.length->(cM ks few).us[t]! =⟨us[t]!.name,us[t]!.feat,(mf us g1 t).map CW.p⟩:=by
  intro t ht;rw[hus];simp[List.getElem!_eq_getElem?_getD,ht]
 have hfin:∀t,(mf us g1 t).map CW.v=us[t]!.cs.map CW.v/\∀c∈mf us g1 t,qq us.length c:=fun t=>hf t
 have hvm:∀t,((mf us g1 t).map CW.p).map dJ.v=us[t]!.cs.map CW.v:=fun t=>by rw[List.map_map,<-(hfin t).1];rfl
 have hcl:∀t,((mf us g1 t).map CW.p).length=us[t]!.cs.length:=fun t=>by
  have:=bK List.length (hvm t);simpa using this
 have hsm:=rq ks few;have hc0:us[0]!.cs.length=1:=by rw[h0];rfl
 refine⟨?_,fun x hx=>(hsm.1 x hx).1,by have:=hsm.2;omega,ae,by rw[hget 0 ae];dsimp only;rw[hcl,hc0];exact aI _⟩;unfold yi Cd;rw[hlen,cu (show 1<=us.length by omega),cu (show us.length<=48 by omega),hget 0 ae,hu.head];dsimp only;rw[hcl,hc0];simp only[decide_true,nQ];rw[dt];intro t _ ht;unfold ve;rw[hget t ht,hlen];dsimp only;have h16:((mf us g1 t).map CW.p).length<=16:=by
  have:=(hsm.1 _ (aj (show t<(cM ks few).us.length by omega))).1;rw[hget t ht]at this;exact this
 rw[cu h16];have hcand:dj (rB (us.length:Int) ((mf us g1 t).map CW.p)) 0 ((mf us g1 t).map CW.p).length=true:=by
  rw[dt];intro k _ hk;have hkv:∀j,j<((mf us g1 t).map CW.p).length->((mf us g1 t).map CW.p)[j]!.v=(us[t]!.cs.map CW.v)[j]! :=by
   intro j hj;rw[<-hvm t,uc hj]
  unfold rB;have hcl2:=hcl t;have hin:((mf us g1 t).map CW.p)[k]! ∈(mf us g1 t).map CW.p:=aj hk;obtain⟨c,hc,e⟩:=fD.1 hin;have hcb:nd (us.length:Int) ((mf us g1 t).map CW.p)[k]! =true:=by rw[<-e];exact(hfin t).2 c hc
  rw[hcb,eO];rcases Nat.eq_zero_or_pos t with rfl|ht0
  .have hk0:k=0:=ae;subst hk0;rw[hkv 0 hk,h0];rfl
  .have hvs:=hv t ht0;dsimp only at hvs;have hkl:k<(us[t]!.cs.map CW.v).length:=by rw[aS];omega
   rw[hkv k hk,(yN _ (zO hvs _ (aj hkl))).2];by_cases hk0:0<k
   .have h4:(us[t]!.cs.map CW.v).length<=4:=(uV _ hvs).length_le;have:=JF _ hvs k ae hk0 hkl;rw[hkv (k-1) ae,dc (show ¬0<=j8 (us[t]!.cs.map CW.v)[k-1]! (us[t]!.cs.map CW.v)[k]! by omega)];simp
   .rw[dc hk0];rfl
 rw[hcand];rcases Nat.eq_zero_or_pos t with rfl|ht0
 .simp
 .have hnm:=(hu.body t ht0 ht).1;rw[dc hnm,Bool.and_false];by_cases h1:1<t
  .rw[hget (t-1) ae];have:=hu.chain t ae ht;rw[show w9 ⟨us[t-1]!.name,us[t-1]!.feat,(mf us g1 (t-1)).map CW.p⟩ ⟨us[t]!.name,us[t]!.feat,(mf us g1 t).map CW.p⟩=true from this];simp
  .rw[dc h1];rfl
def II (w:bG):Prop:=(w.sm/\PW w)/\Few w.us
def BD (ks:List Int)(few:Int):II (cM ks few):=by
 obtain⟨h1,h2⟩:=wV ks few;refine⟨⟨(rq ks few).1,h2⟩,fun x hx c hc=>?_⟩;obtain⟨t,ht,rfl⟩:=List.mem_iff_getElem.1 hx;obtain⟨k,hk,rfl⟩:=List.mem_iff_getElem.1 hc;unfold yi at h1;rw[bo,dt]at h1;have h3:=h1.2 t ae ht;unfold ve at h3;rw[bo,dt]at h3;rw[show(cM ks few).us[t]! =(cM ks few).us[t]by simp[ht]]at h3;have h4:=h3.2 k ae hk;unfold rB at h4;rw[show((cM ks few).us[t]).cands[k]! =((cM ks few).us[t]).cands[k]by simp[hk]]at h4;simp only[bo]at h4;have h5:=h4.1.2;unfold nd at h5;simp only[bo,bX]at h5;refine⟨ae,ae,fun r hr=>?_⟩;obtain⟨q,hq,rfl⟩:=List.mem_iff_getElem.1 hr;have h6:=h5.1.2;rw[dt]at h6;have h7:=h6 q ae hq;unfold oC at h7;simp only[hq,getElem!_pos,bo,bX]at h7;omega
def B5 {us:List bP}{allow:List Int}{rows:List aq}(h48:us.length<=48)(h:jK us allow rows):∀x∈rows,x.terms.length<=48:=fun x hx=>dQ (zS (h x hx).1) h48
def uX {α:Type} [Inhabited α]{l:List α}{q:Nat}(h:q<l.length):(l.take (q+1)).drop q=[l[q]!]:=by
 rw[<-gJ h,List.drop_append_of_le_length (by rw[ew];omega),mC (by rw[ew];omega)];rfl
def FB (w:bG)(al c:List Int)(k:Nat)(now:Int)(R:List aq):Prop:=en w al R/\(k=0/\now=-1\/0<k/\(0<=now/\now<R.length)/\yv w.us c k R[now.toNat]!.terms)/\R.length<=5100+2*k
def rV (w:bG)(al:List Int)(facts:List aq)(c:List Int)(rows:List aq):Prop:=((w.sm/\qu w.us/\w.us.length<=48)/\jK w.us al facts)/\(Fs w.us c/\en w al rows)/\rows.length<=100000
def qV {w:bG}{al:List Int}{facts:List aq}{c:List Int}{rows:List aq}(h:rV w al facts c rows):(ey w.us facts c rows).2.length<=max (rows.length+1) 4921:=by
 have h1:=y9 (us:=w.us) (facts:=facts) h.1.1.2.1 (w.us.length-c.length) c rows (by have:=h.2.1.1.1;omega);have h2:=h.1.1.2.2;unfold ey;omega
def y8 {w:bG}{al:List Int}{facts:List aq}{c:List Int}{rows:List aq}(h:rV w al facts c rows):yp w al c rows (ey w.us facts c rows):=
 xJ h.1.1.2.1 h.1.2 _ c rows (by have:=h.2.1.1.1;omega) h.2.1.1 h.2.1.2
def rV.app {w:bG}{al:List Int}{facts:List aq}{c:List Int}{rows R:List aq}{k:Nat}(h:rV w al facts c rows)(hl:c.length<w.us.length)(hk:k<w.us[c.length]!.cands.length+1){now:Int}(hI:FB w al c k now R):rV w al facts (c++[((k:Nat):Int) -1]) R:=by
 have h16:=h.1.1.2.1 _ (aj hl);exact⟨h.1,⟨h.2.1.1.app hl ae ae,hI.1⟩,by have:=hI.2.2;omega⟩
def HN {w:bG}{al:List Int}{facts:List aq}{c:List Int}{rows R:List aq}{k:Nat}{now:Int}(h:rV w al facts c rows)(hl:c.length<w.us.length)(hk:k<w.us[c.length]!.cands.length+1)(hI:FB w al c k now R){r:Int×List aq}(hr:ey w.us facts (c++[((k:Nat):Int) -1]) R=r):
  r.2.length<=5101+2*k/\(0<=r.1->r.1<r.2.length/\(now<r.2.length)/\(now<0->FB w al c (k+1) r.1 r.2)/\(0<=now->FB w al c (k+1) ((r.2.length:Nat):Int) (r.2++[gQ w.us c.length now r.1 r.2]))):=by
 have hP:=h.app hl hk hI;have hE:=y8 hP;have hL:=qV hP;rw[hr]at hE hL;obtain⟨hs,h48⟩:=h.1.1.2;have h3:=hI.2.2;refine⟨ae,fun h0=>?_⟩;obtain⟨e1,⟨more,e2⟩,e3,e4⟩:=hE;obtain⟨e5,e6⟩:=e4 h0;have e7:=HJ e6;rw[show(((k:Nat):Int) -1+1).toNat=k by omega]at e7;have hlen:r.2.length=R.length+more.length:=by rw[e2,cj]
 refine⟨e5, ?_,fun hn=>?_,fun hn=>?_⟩
 .rcases hI.2.1 with h1|h1<;>omega
 .obtain⟨rfl,_⟩:k=0/\now=-1:=by
   rcases hI.2.1 with h|h
   .exact h
   .omega
  exact⟨e1,.inr ⟨ae,⟨h0,e5⟩,e7.1,e7.2.1,e7.2.2.1,fun j hj=>by obtain rfl:j=0:=ae;exact e7.2.2.2⟩,ae⟩
 .obtain⟨hk0,hnw,hnr⟩:0<k/\(0<=now/\now<R.length)/\yv w.us c k R[now.toNat]!.terms:=by
   rcases hI.2.1 with h|h
   .omega
   .exact h
  have hget:r.2[now.toNat]! =R[now.toNat]! :=by rw[e2];exact sC ae
  obtain⟨j1,j2⟩:=wj (x:=r.1) (now:=now) hs hl h.2.1.1 e1 ⟨hnw.1,ae⟩ ⟨h0,e5⟩ hk0 (by rw[hget];exact hnr) e7;refine⟨j1,.inr ⟨ae,⟨ae,by simp only[cj,List.length_singleton];omega⟩,by rw[Int.toNat_natCast,lu];exact j2⟩, ?_⟩;simp only[cj,List.length_singleton];omega
def A7 {us:List bP}{facts:List aq}{c:List Int}{rows:List aq}(h:eo us facts c<facts.length):ey us facts c rows=(((rows.length:Nat):Int),rows++[facts[eo us facts c]!]):=by
 unfold ey;cases us.length-c.length<;>rw[jP,au h]
def A9 {us:List bP}{facts:List aq}{c:List Int}{rows:List aq}(h:¬eo us facts c<facts.length)(hs:c.length=us.length\/3000<rows.length):ey us facts c rows=(-1,rows):=by
 unfold ey;rcases hs with hs|hs
 .rw[show us.length-c.length=0 by omega,jP,ai h]
 .cases us.length-c.length<;>rw[jP,ai h];rw[au hs]
def qi (us:List bP)(facts:List aq)(c:List Int)(k:Nat)(now:Int)(R:List aq):Int×List aq:=mJ us c.length (jP us facts (us.length-(c.length+1))) c (us[c.length]!.cands.length+1-k) (((k:Nat):Int) -1) now R
def A8 {us:List bP}{facts:List aq}{c:List Int}{rows:List aq}(h:¬eo us facts c<facts.length)(hl:c.length<us.length)(hr:¬3000<rows.length):ey us facts c rows=qi us facts c 0 (-1) rows:=by
 unfold ey qi;rw[show us.length-c.length=us.length-(c.length+1)+1 by omega,jP,ai h,ai hr];rfl
def E1 {us:List bP}{facts:List aq}{c:List Int}{k:Nat}{now:Int}{R:List aq}(h:us[c.length]!.cands.length+1<=k):qi us facts c k now R=(now,R):=by
 unfold qi;rw[show us[c.length]!.cands.length+1-k=0 by omega,mJ]
def HM {us:List bP}{facts:List aq}{c:List Int}{k:Nat}{now:Int}{R:List aq}(h:k<us[c.length]!.cands.length+1){r:Int×List aq}(hr:ey us facts (c++[((k:Nat):Int) -1]) R=r):qi us facts c k now R=
  if r.1<0 then(-1,r.2)else if aK us r.2[r.1.toNat]!.terms ((c.length:Nat):Int)=bD us ((c.length:Nat):Int)then r else if now<0 then qi us facts c (k+1) r.1 r.2
  else if aK us (gQ us c.length now r.1 r.2).terms ((c.length:Nat):Int)=bD us ((c.length:Nat):Int)then(((r.2.length:Nat):Int),r.2++[gQ us c.length now r.1 r.2])else qi us facts c (k+1) ((r.2.length:Nat):Int) (r.2++[gQ us c.length now r.1 r.2]):=by
 have e:jP us facts (us.length-(c.length+1)) (c++[((k:Nat):Int) -1]) R=r:=by
  rw[<-hr];unfold ey;rw[cj,List.length_singleton]
 unfold qi;rw[show us[c.length]!.cands.length+1-k=us[c.length]!.cands.length+1-(k+1)+1 by omega,mJ,e,show((k:Nat):Int) -1+1=((k+1:Nat):Int) -1 by omega]
def L1 {m:List (Nat×bA)}(x:aq):Ij m [.a,.a,.a,.a,.sl 2 [.a,.a]] (aq.D x):=⟨rfl,rfl,rfl,rfl,rfl,rfl⟩
def Mk {m:List (Nat×bA)}{lp ln:Nat}{w:bG}{facts rows:List aq}{c:List Int}{su:List Sh}(h1:look m lp=some (.buf 3 [jE.D ⟨w,facts,.own ln 5 0 rows.length⟩]))(h2:look m ln=some (.buf 5 (rows.map aq.D))):
  iF m [[.pt [.sl 3 su,.sl 5 [.a,.a,.a,.a,.sl 2 [.a,.a]],.sl 5 [.a,.a,.a,.a,.sl 2 [.a,.a]]]],[.sl 1 [.a]]] [.ptr lp 3 0 0,.sl 1 (c.map (D.int .i64))]:=by
 refine⟨⟨by simp[eh,h1], ?_⟩,rfl,trivial⟩;intro e he;simp only[aQ,h1,bl]at he;subst he;refine⟨rfl,rfl,⟨by simp[eh,h2], ?_⟩,rfl⟩;simp only[aQ,h2,bS,aD];intro e he;obtain⟨x,_,rfl⟩:=fD.1 he;exact L1 x
def Pf {a b:Int}(h0:0<=a)(h1:a<=131071):0<=ir a b/\ir a b<=131071:=by
 obtain⟨n,rfl⟩:∃n:Nat,a=(n:Int):=⟨a.toNat,ae⟩
 have h:(BitVec.ofInt 64 (n:Int)&&&BitVec.ofInt 64 b).toNat<=n:=by
  rw[BitVec.toNat_and];refine dQ Nat.and_le_left ?_;rw[BitVec.toNat_ofInt];omega
 unfold ir;rw[wrap_i64 ae ae];omega
def Av (w:bG)(al:List Int):en w al []:=fun i hi=>by cases hi
def Iy (us:List bP):Fs us []:=⟨Nat.zero_le _,fun u hu=>by cases hu⟩
def Cq {w:bG}{al:List Int}(h:II w):rV w al (jH w.us al) [] []:=by
 obtain⟨⟨h1,h2,h3,h4,h5⟩,_⟩:=h;exact⟨⟨⟨h1,h2,h3⟩,yP h2 h3 h4 h5⟩,⟨Iy _,Av _ _⟩,Nat.zero_le _⟩
def Cr:∀o:Option (List aq),rW (uy o) (.sl 5 ((o.getD []).map aq.D))
 |none=>.nil 5
 |some l=>.refl _
def EJ {w:bG}{al:List Int}{l:List aq}(hw:II w)(h:fu w.us al=some l):l.length<=5000/\∀r∈l,r.terms.length<=48:=by
 have h1:=qb hw.1.2 h;refine⟨?_,fun r hr=>?_⟩
 .have h2:=qV (Cq (al:=al) hw);unfold fu at h;split at h
  .cases h
  .obtain rfl:=ba h;rw[ew];unfold kf;simp only[cb]at h2;omega
 .obtain⟨i,hi,rfl⟩:=List.mem_iff_getElem.1 hr;have:=zS (mz h1.1 hi);simp only[hi,getElem!_pos]at this;exact dQ this hw.1.2.2.1
def KJ (r:aq):aq:=⟨r.kind,r.unit,r.b,r.a,r.terms⟩
def FC (L R:List aq):Prop:=R.length=L.length/\∀k,k<L.length->R[k]! =L[k]! \/(L[k]!.kind=5/\R[k]! =KJ L[k]!)
def stJa {xs:List aq}{k:Nat}{v:Int}(h:k<xs.length):(xs.map aq.D).set k (qh ((xs.map aq.D).getD k .any) 5 1 2 (.int .i64 v))=(xs.set k ⟨xs[k]!.kind,xs[k]!.unit,v,xs[k]!.b,xs[k]!.terms⟩).map aq.D:=by
 rw[getD_map h,List.map_set];rfl
def stJb {xs:List aq}{k:Nat}{v:Int}(h:k<xs.length):(xs.map aq.D).set k (qh ((xs.map aq.D).getD k .any) 5 1 3 (.int .i64 v))=(xs.set k ⟨xs[k]!.kind,xs[k]!.unit,xs[k]!.a,v,xs[k]!.terms⟩).map aq.D:=by
 rw[getD_map h,List.map_set];rfl
def uQ {xs:List aq}{i u:Nat}{v:aq}(hu:u<xs.length):(xs.set i v)[u]! =if i=u then v else xs[u]! :=by
 simp only[List.getElem!_eq_getElem?_getD,List.getElem?_set];split
 .rename_i h;subst h;rw[au hu];rfl
 .rfl
def FC.step {L R:List aq}{i:Nat}(h:FC L R)(hi:i<L.length)(hk:R[i]!.kind=5):FC L (R.set i (KJ R[i]!)):=by
 refine⟨by rw[List.length_set];exact h.1,fun k hk2=>?_⟩;rw[uQ (by rw[h.1];exact hk2)];split
 .rename_i e;subst e;rcases h.2 i hi with h1|⟨h1,h2⟩
  .exact .inr ⟨by rw[<-h1];exact hk,by rw[h1]⟩
  .exact .inl (by rw[h2];rfl)
 .exact h.2 k hk2
def GK (ks:List Int)(few:Int)(Xe:List Int):okW (cM ks few) (j7 (cM ks few).us Xe)=true:=by
 unfold okW;rw[(wV ks few).1];unfold j7;split
 .rfl
 .rw[oK];simp
def JK {w:bG}{al:List Int}{l:List aq}(h:en w al l):RowsIn l:=by
 intro r hr t ht;obtain⟨i,hi,rfl⟩:=List.mem_iff_getElem.1 hr;have hv:=mz h hi;simp only[hi,getElem!_pos]at hv;exact yd ((eJ.1 hv).1 t ht)
def rO {w:bG}{al:List Int}(hw:II w):((fu w.us al).getD []).length<=100000/\∀r∈(fu w.us al).getD [],r.terms.length<=1000:=by
 cases e:fu w.us al with
 |none=>exact⟨Nat.zero_le _,fun r hr=>by cases hr⟩
 |some l=>
  have h:=EJ hw e;exact⟨dQ h.1 bL,fun r hr=>dQ (h.2 r hr) bL⟩
end
def iPrv (a b:jE):jE.D a=jE.D b↔a=b:=by
 obtain⟨⟨x⟩,y,z⟩:=a;obtain⟨⟨x'⟩,y',z'⟩:=b;simp[jE.D,Ce,AN]
def Pj {A:RT->Prop}(h:A (fun ds d=>A fun ds' d'=>ds'=ds->d=d'):=by
 (repeat' first|apply And.intro|intro _)
 all_goals rename_i e
 all_goals (try simp only[ru,D.str.injEq,D.int.injEq,D.bool.injEq,D.sl.injEq,D.ref.injEq,D.agg.injEq,D.fn.injEq,Pr,LX,iByt,iVer,Pp,Pq,Ku,AO,iSet,Kv,AP,Kw,Gk,Po,Ks,Pt,Ce,iWld,Ps,Gj,Kt,AN,LW,iKey,iTag,iGs,iPrv,iU8,BH,LY,b8,cd,reduceCtorEq,cA,cz]at e)
 all_goals first|rfl|(simp only[e];done)|simp_all):MT (tW A):=F0 h
section
section
variable [df] {P:Program} {ν:List (Nat×Nat)} {cq:List Nat} {t:List (Nat×lr)} {fid n key u k:Nat} {af:aE} {nx:Nat} {m:List (Nat×bA)} {K:D->St->Prop}
def uz {a:D}{dv:Nat->D}{kk:Nat}{es:List D}{Q:D->List (Nat×bA)->Prop}(hmix:P.follows .mixedOrders=true)(hC:Ao P ν cq fid af)(hnp:1=af.np)(ha:a.a7=true)(hes:aL es=true)
  (hd:∀j,jF 0 [(j,nx)] (dv j)=some (dv nx)) (hQ:∀d m,Q d m->∃j,d=dv j/\look m j=some (.buf kk es)) (hK:K (dv nx) ⟨nx+1,(nx,.buf kk es)::m⟩)
  (hw:bZ ((under t key u).at 0) af.body (kv af Q) (fq af [a]) ⟨0,[]⟩):kE P ν cq (under t key u) fid [a] ⟨nx,m⟩ K:=by
 refine pT (σi:=[]) (m0:=[]) (cs:=[a]) (fun q=>oG t key u q) hmix hC rfl ?_ hnp rfl (fun _ _ h=>by cases h) (fun _ _ h=>by cases h) hw ?_
 .intro i hi
  match i,hi with
  |0,_=>exact .inl ⟨rfl,ha⟩
 .intro d m1 h;obtain⟨j,rfl,hj⟩:=hQ d m1 h;refine⟨[(j,nx)],j+1,_,_,⟨rfl, ?_,Nat.le_succ _,(fun _ _ h=>by cases h), ?_,(fun _ _ h=>by cases h), ?_⟩,.inr (.inl (hd j)),hK⟩
  .simp[eE]
  .intro i l h;obtain⟨rfl,rfl⟩:=Prod.mk.inj (bl.1 h);exact .inr (aI _)
  .intro l bb h;simp only[look]at h;split at h
   .rename_i e;subst e;obtain rfl:=ba h;exact .inl ⟨j,_,.head _,hj,rfl,.inl ⟨rfl,hes⟩⟩
   .rename_i hn;exact .inr ⟨by simp only[jx,ai hn],(fun _ h=>by cases h),h⟩
end
end
end Go.Abs
