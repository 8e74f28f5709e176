/- A part of the proofs. -/
import Derived.Test.YtaeimnechonnmaaGreatDoorP05
set_option linter.all false
set_option maxRecDepth 4000
namespace Go.Abs
def RU.raw (u:RU):Prop:=∃vs:List bp,u.cs=vs.map a8/\vs.length<=4/\∀v∈vs,v.sm
def zI (m:Int)(a b:dF):(⟨a,b,(bE m 4).map a8⟩:RU).raw:=⟨_,rfl,kD m 4,qu m 4 (aA _)⟩
def xk (vs:List bp):∀r g acc,(∀v∈acc,v∈vs)->r<=vs.length->∀v∈(fF vs r g acc).1,v∈vs
 |0,g,acc,h,_=>h
 |r+1,g,acc,h,hr=>by
  rw[fF];refine xk vs r _ _ ?_ ae;intro v hv;split at hv
  .rcases List.mem_append.1 hv with hv|hv
   .exact h v hv
   .obtain rfl:=bG.1 hv;exact aj ae
  .exact h v hv
def HT (m:Int)(g:Gs)(a b:dF):(⟨a,b,(fF (bE m 4) (bE m 4).length g []).1.map a8⟩:RU).raw:=by
 refine⟨_,rfl, ?_,fun v hv=>qu m 4 (aA _) v (xk _ _ _ _ (fun _ h=>by cases h) (aA _) v hv)⟩;have:=xj (bE m 4) (bE m 4).length g [];have:=kD m 4;simp only[bg]at*;omega
def Ds (vs:List bp):∀r g acc,(fF vs r g acc).2.i=g.i+r
 |0,g,acc=>by simp[fF]
 |r+1,g,acc=>by rw[fF,Ds vs r];simp only[Gs.bR];omega
def mE (few:Int):∀(r:Nat) (g:Gs) (us:List RU),r<=5->∃more,(eY few r g us).1=us++more/\(∀u∈more,u.raw)/\more.length<=r+(r-3)/\g.i<=(eY few r g us).2.i/\(eY few r g us).2.i<=g.i+10*r+1
 |0,g,us,_=>⟨[],by simp[eY],bz,bz,by simp only[eY,Gs.bR];omega,by simp only[eY,Gs.bR];omega⟩
 |r+1,g,us,hr=>by
  rw[eY];split
  .split
   .rename_i h1 h2;have hf:=Ds (bE (g.bR.val 16) 4) (bE (g.bR.val 16) 4).length g.eE [];have hb:=kD (g.bR.val 16) 4;obtain⟨more,e,hm,hl,hi1,hi2⟩:=mE few r (fF (bE (g.bR.val 16) 4) (bE (g.bR.val 16) 4).length g.eE []).2 ((us++[⟨bS[4-r]!,[],(bE (g.bR.val 16) 4).map a8⟩])++[⟨bS[4-r]!,[102],(fF (bE (g.bR.val 16) 4) (bE (g.bR.val 16) 4).length g.eE []).1.map a8⟩]) ae;refine⟨_::_::more,by rw[e];simp only[lW,List.singleton_append];rfl, ?_, ?_, ?_, ?_⟩
    .intro u hu;rcases dz.1 hu with rfl|hu
     .exact zI _ _ _
     .rcases dz.1 hu with rfl|hu
      .exact HT _ _ _ _
      .exact hm u hu
    .simp only[aY];omega
    .rw[hf]at hi1;simp only[Gs.eE,Gs.bR]at*;omega
    .rw[hf]at hi2;simp only[Gs.eE,Gs.bR]at*;omega
   .have hg:g.i+2<=(if 4-r<2 then g.eE else g.bR.bR).i/\(if 4-r<2 then g.eE else g.bR.bR).i<=g.i+3:=by
     split<;>simp only[Gs.eE,Gs.bR]<;>omega
    obtain⟨more,e,hm,hl,hi1,hi2⟩:=mE few r (if 4-r<2 then g.eE else g.bR.bR) (us++[⟨bS[4-r]!,[],(bE (g.bR.val 16) 4).map a8⟩]) ae;refine⟨_::more,by rw[e];simp only[lW,List.singleton_append];rfl, ?_, ?_, ?_, ?_⟩
    .intro u hu;rcases dz.1 hu with rfl|hu
     .exact zI _ _ _
     .exact hm u hu
    .simp only[aY];omega
    .omega
    .omega
  .refine⟨[],bz,bz,bz, ?_, ?_⟩<;>simp only[Gs.bR]<;>omega
def CX {g:Gs}{few:Int}:2<=(eA g few).1.length:=by
 have hv:=g.x7 few;have h:(0:Int)<1+g.val few:=ae;unfold eA;rw[show 5=4+1 from rfl,eY,ax (by simpa using h)];split
 .obtain⟨more,e,_⟩:=mE few 4 (fF (bE (g.bR.val 16) 4) (bE (g.bR.val 16) 4).length g.eE []).2 ((tw++[⟨bS[4-4]!,[],(bE (g.bR.val 16) 4).map a8⟩])++[⟨bS[4-4]!,[102],(fF (bE (g.bR.val 16) 4) (bE (g.bR.val 16) 4).length g.eE []).1.map a8⟩]) ae;rw[e];simp[tw]
 .obtain⟨more,e,_⟩:=mE few 4 (if 4-4<2 then g.eE else g.bR.bR) (tw++[⟨bS[4-4]!,[],(bE (g.bR.val 16) 4).map a8⟩]) ae;rw[e];simp[tw]
def xY {g:Gs}{few:Int}:∃more,(eA g few).1=tw++more/\(∀u∈more,u.raw)/\(1<=more.length/\more.length<=7)/\g.i<=(eA g few).2.i/\(eA g few).2.i<=g.i+51:=by
 obtain⟨more,e,hm,hl,h1,h2⟩:=mE few 5 g tw ae;have h3:=CX (g:=g) (few:=few);unfold eA at*
 rw[e]at h3⊢;refine⟨more,rfl,hm,⟨?_,ae⟩,h1,ae⟩;simp only[tw,cK,List.length_singleton]at h3;omega
def nt (h:Gs)(n:Nat)(vs:Nat->List bp)(i:Nat)(f:dF)(v:bp):List j8:=(if f=[]then []else [[⟨(i:Int) -1,bY v⟩]])++(ay h n vs 2).1
def gJ (h:Gs)(n:Nat)(vs:Nat->List bp)(i:Nat)(f:dF)(v:bp):CW×Gs:=
 if(ay h n vs 2).2.val 4=0 then(⟨v,0,.sl (nt h n vs i f v),.sl [cD (ay h n vs 2).2.bR n vs]⟩,(ay h n vs 2).2.bR.eE)
 else(⟨v,0,.sl (nt h n vs i f v),.nil⟩,(ay h n vs 2).2.bR)
def dX (n:Nat)(vs:Nat->List bp)(i:Nat)(f:dF):List bp->Gs->List CW×Gs
 |[],h=>([],h)
 |v::r,h=>((gJ h n vs i f v).1::(dX n vs i f r (gJ h n vs i f v).2).1,(dX n vs i f r (gJ h n vs i f v).2).2)
def cb (cs:Nat->List CW)(i:Nat)(x:List CW)(t:Nat):List CW:=if t=i then x else cs t
def jc (n:Nat)(vs:Nat->List bp)(ft:Nat->dF):Nat->Nat->Gs->(Nat->List CW)->Nat->List CW
 |0,_,_,cs=>cs
 |r+1,i,h,cs=>jc n vs ft r (i+1) (dX n vs i (ft i) (vs i) h).2 (cb cs i (dX n vs i (ft i) (vs i) h).1)
def yN (n:Nat)(vs:Nat->List bp):∀k g acc,g.i<=(iZ n vs k g acc).2.i/\(iZ n vs k g acc).2.i<=g.i+7*k
 |0,g,acc=>by simp[iZ]
 |k+1,g,acc=>by
  rw[iZ];split
  .have:=yN n vs k g.eE.bR.eE (acc++[[cD g n vs,cD g.eE.bR n vs]]);simp only[Gs.eE,Gs.bR]at*;omega
  .have:=yN n vs k g.eE.bR (acc++[[cD g n vs]]);simp only[Gs.eE,Gs.bR]at*;omega
def vz {g:Gs}{n:Nat}{vs:Nat->List bp}{most:Int}(h0:0<=most)(h3:most<=3):g.i<=(ay g n vs most).2.i/\(ay g n vs most).2.i<=g.i+22:=by
 have hv:=cX (wJ g.l g.i) (most+1) ae;have hv2:g.val (most+1)=bO (wJ g.l g.i) (most+1):=rfl;have:=yN n vs (g.val (most+1)).toNat g.bR [];unfold ay;simp only[Gs.bR]at*;omega
def Di {h:Gs}{n i:Nat}{vs:Nat->List bp}{f:dF}{v:bp}:h.i<=(gJ h n vs i f v).2.i/\(gJ h n vs i f v).2.i<=h.i+30:=by
 have:=vz (g:=h) (n:=n) (vs:=vs) (most:=2) bZ bZ;unfold gJ;split<;>simp only[Gs.eE,Gs.bR]<;>omega
def Dj (h:Gs)(n i:Nat)(vs:Nat->List bp)(f:dF)(v:bp):(gJ h n vs i f v).1.v=v/\(gJ h n vs i f v).1.pl=true:=by
 unfold gJ;split<;>exact⟨rfl,rfl⟩
def uS (n:Nat)(vs:Nat->List bp)(i:Nat)(f:dF):∀(l:List bp) (h:Gs),(dX n vs i f l h).1.map CW.v=l/\(∀c∈(dX n vs i f l h).1,c.pl=true)/\h.i<=(dX n vs i f l h).2.i/\(dX n vs i f l h).2.i<=h.i+30*l.length
 |[],h=>⟨rfl,(fun _ hc=>by cases hc),by simp[dX],by simp[dX]⟩
 |v::r,h=>by
  have ih:=uS n vs i f r (gJ h n vs i f v).2;have h1:=Dj h n i vs f v;have h2:=Di (h:=h) (n:=n) (i:=i) (vs:=vs) (f:=f) (v:=v);refine⟨by simp only[dX,List.map_cons,h1.1,ih.1], ?_,by simp only[dX];omega,by simp only[dX,aY];omega⟩;intro c hc;simp only[dX]at hc;rcases dz.1 hc with rfl|hc
  .exact h1.2
  .exact ih.2.1 c hc
def k9 {cs:Nat->List CW}{i:Nat}{x:List CW}:cb cs i x i=x:=ax rfl
def zd {cs:Nat->List CW}{i t:Nat}{x:List CW}(h:t≠i):cb cs i x t=cs t:=ai h
def O2 {cs:Nat->List CW}{i:Nat}:cb cs i (cs i)=cs:=by
 funext t;unfold cb;split
 .rename_i h;rw[h]
 .rfl
def tY {cs:Nat->List CW}{i:Nat}{x y:List CW}:cb (cb cs i x) i y=cb cs i y:=by
 funext t;unfold cb;split<;>rfl
def pd (vs:Nat->List bp)(B:Nat->List CW):Prop:=∀t,(B t).map CW.v=vs t/\∀c∈B t,c.pl=true
def pd.Kh {vs:Nat->List bp}{B:Nat->List CW}(h:pd vs B){i:Nat}{x:List CW}(hv:x.map CW.v=vs i)(hp:∀c∈x,c.pl=true):pd vs (cb B i x):=by
 intro t;unfold cb;split
 .rename_i e;subst e;exact⟨hv,hp⟩
 .exact h t
def pd.len {vs:Nat->List bp}{B:Nat->List CW}(h:pd vs B):(fun j=>(B j).length)=fun j=>(vs j).length:=by
 funext j;rw[<-(h j).1,aD]
def pd.gT {vs:Nat->List bp}{B:Nat->List CW}(h:pd vs B):gT B=vs:=by
 funext j;exact(h j).1
def HJ {α:Type} [Inhabited α]{n l k i o:Nat}{ag:Bool}{q:α->D}{xs:List α}{m:List (Nat×bT)}{v:D}(hl:look m l=some (.buf k (xs.map q)))(hi:i<xs.length)(hv:mZ (q xs[i]!) k n o ag=v)(ho:o+n<=k):wK m n (.ptr l k i o)/\tn m n ag (.ptr l k i o)=v:=by
 refine⟨?_, ?_⟩
 .simp only[wK,ew,hl,aD];exact⟨⟨trivial,ae⟩,ho⟩
 .simp only[tn,ba,hl];rw[getD_map hi];exact hv
def O8 (o:Nat)(us:List RU):List D:=(List.range us.length).map fun j=>.agg [.str us[j]!.name,.str us[j]!.feat,.own (o+j) 8 0 us[j]!.cs.length]
def O9 (nx:Nat)(us:List RU):List (Nat×bT):=[(nx,.buf 3 (O8 (nx+1) us)),(nx+1,.buf 8 (us[0]!.cs.map (CW.D 10))),(nx+2,.buf 8 (us[1]!.cs.map (CW.D 10))),(nx+3,.buf 8 (us[2]!.cs.map (CW.D 10))),(nx+4,.buf 8 (us[3]!.cs.map (CW.D 10))),
 (nx+5,.buf 8 (us[4]!.cs.map (CW.D 10))),(nx+6,.buf 8 (us[5]!.cs.map (CW.D 10))),(nx+7,.buf 8 (us[6]!.cs.map (CW.D 10))),(nx+8,.buf 8 (us[7]!.cs.map (CW.D 10)))]
def NI {lo o:Nat}{us:List RU}{ln:Nat->Nat}(σ:List (Nat×Nat))(h:∀j,j<us.length->e9 lo σ (o+j)=some (2+j))(hl:∀j,us[j]!.cs.length=ln j):fk lo σ (O8 o us)=some (UB us.length (fun j=>us[j]!.name) (fun j=>us[j]!.feat) ln):=by
 unfold O8 UB;have h2:∀j∈List.range us.length,e9 lo σ (o+j)=some (2+j):=fun j hj=>h j (List.mem_range.1 hj)
 revert h2;generalize List.range us.length=r;intro h2;induction r with
 |nil=>rfl
 |cons a r ih=>
  have:=h2 a (.head _);simp only[List.map_cons,fk,UD,jk,qg,this,hl a,ih fun j hj=>h2 j (.tail _ hj)]
def LK {lo v:Nat}{a b:Nat×Nat}{r:List (Nat×Nat)}(h:v<8)(ha:a.1<5)(hb:b.1<5):e9 lo (a::b::(5,2)::(6,3)::(7,4)::(8,5)::(9,6)::(10,7)::(11,8)::(12,9)::r) (5+v)=some (2+v):=by
 simp only[e9,eD (show a.1≠5+v by omega),eD (show b.1≠5+v by omega),cond_false]
 match v,h with
 |0,_=>rfl
 |1,_=>rfl
 |2,_=>rfl
 |3,_=>rfl
 |4,_=>rfl
 |5,_=>rfl
 |6,_=>rfl
 |7,_=>rfl
def eS {lo v:Nat}{r:List (Nat×Nat)}(h:v<8):e9 lo ((0,0)::(1,1)::(2,2)::(3,3)::(4,4)::(5,5)::(6,6)::(7,7)::(8,8)::(9,9)::r) (2+v)=some (2+v):=by
 simp only[e9,eD (show 0≠2+v by omega),cond_false];exact hY h
def lR {lo k i o l l':Nat}{σ:List (Nat×Nat)}(h:e9 lo σ l=some l'):jk lo σ (.ptr l k i o)=some (.ptr l' k i o):=by simp only[jk,qg,h]
def vo {done rest:List CW}{x X:CW}{e e':Nat}{d:D}(hd:∀c∈done,c.pl=true)(hr:∀c∈rest,c.pl=true)(hX:X.D e'=d):((done++x::rest).map (CW.D e)).set done.length d=(done++X::rest).map (CW.D e'):=by
 rw[List.map_append,List.map_cons,tL (e:=e) (e':=e') hd,tL (e:=e) (e':=e') hr,List.set_append_right _ _ bz,aD,Nat.sub_self,List.set_cons_zero,<-hX,List.map_append,List.map_cons]
def rV {done rest:List CW}{x:CW}:(done++x::rest)[done.length]! =x:=by simp[List.getElem!_eq_getElem?_getD]
def om {done rest:List CW}{x:CW}{e:Nat}:((done++x::rest).map (CW.D e)).getD done.length .any=x.D e:=by
 rw[getD_map bz,rV]
def yK {l k:Nat}{es:List D}{B:Nat->List CW}{i:Nat}{done rest:List CW}{x X:CW}(hB:∀t,t≠i->∀c∈B t,c.pl=true)(hd:∀c∈done,c.pl=true)(hr:∀c∈rest,c.pl=true)(hX:dy l k es (x.D l)=X.D 10)(t:Nat):
  du l k es ((cb B i (done++x::rest) t).map (CW.D l))=(cb B i (done++X::rest) t).map (CW.D 10):=by
 have pl:∀xs:List CW,(∀c∈xs,c.pl=true)->du l k es (xs.map (CW.D l))=xs.map (CW.D 10):=fun xs h=>by rw[fW _ _ _ _ (ct h),tL h]
 have app:∀a b:List D,du l k es (a++b)=du l k es a++du l k es b:=fun a b=>by
  induction a with
  |nil=>rfl
  |cons x r ih=>simp only[qn,du,ih]
 unfold cb;split
 .rw[List.map_append,List.map_cons,app,du,pl _ hd,pl _ hr,hX,List.map_append,List.map_cons]
 .rename_i h;exact pl _ (hB t h)
def di (m:List (Nat×bT))(L:Nat)(b:bT)(l:Nat):look (cR m L b) l=if l=L then some b else look m l:=by
 induction m with
 |nil=>by_cases h:l=L<;>simp[cR,look,h,eq_comm]<;>omega
 |cons a r ih=>
  obtain⟨k,x⟩:=a;by_cases h1:k=L<;>by_cases h2:l=L<;>by_cases h3:k=l<;>simp_all[cR,look]
def wu {e e0 i:Nat}{a b:bT}{B:Nat->List CW}{Yq:List CW}{r r':List (Nat×bT)}(hi:i<8)(hB:∀t,t≠i->∀c∈B t,c.pl=true)
  (hr:jJ (cR ((0,a)::(1,b)::(2,.buf 8 ((B 0).map (CW.D e0)))::(3,.buf 8 ((B 1).map (CW.D e0)))::(4,.buf 8 ((B 2).map (CW.D e0)))::(5,.buf 8 ((B 3).map (CW.D e0)))::(6,.buf 8 ((B 4).map (CW.D e0)))::(7,.buf 8 ((B 5).map (CW.D e0)))::(8,.buf 8 ((B 6).map (CW.D e0)))::(9,.buf 8 ((B 7).map (CW.D e0)))::r) (2+i) (.buf 8 (Yq.map (CW.D e)))) r'):
  jJ (cR ((0,a)::(1,b)::(2,.buf 8 ((B 0).map (CW.D e0)))::(3,.buf 8 ((B 1).map (CW.D e0)))::(4,.buf 8 ((B 2).map (CW.D e0)))::(5,.buf 8 ((B 3).map (CW.D e0)))::(6,.buf 8 ((B 4).map (CW.D e0)))::(7,.buf 8 ((B 5).map (CW.D e0)))::(8,.buf 8 ((B 6).map (CW.D e0)))::(9,.buf 8 ((B 7).map (CW.D e0)))::r) (2+i) (.buf 8 (Yq.map (CW.D e))))
   ((0,a)::(1,b)::(2,.buf 8 ((cb B i Yq 0).map (CW.D e)))::(3,.buf 8 ((cb B i Yq 1).map (CW.D e)))::(4,.buf 8 ((cb B i Yq 2).map (CW.D e)))::(5,.buf 8 ((cb B i Yq 3).map (CW.D e)))::(6,.buf 8 ((cb B i Yq 4).map (CW.D e)))::(7,.buf 8 ((cb B i Yq 5).map (CW.D e)))::(8,.buf 8 ((cb B i Yq 6).map (CW.D e)))::(9,.buf 8 ((cb B i Yq 7).map (CW.D e)))::r'):=by
 have ent:∀k,k<8->look (cR ((0,a)::(1,b)::(2,.buf 8 ((B 0).map (CW.D e0)))::(3,.buf 8 ((B 1).map (CW.D e0)))::(4,.buf 8 ((B 2).map (CW.D e0)))::(5,.buf 8 ((B 3).map (CW.D e0)))::(6,.buf 8 ((B 4).map (CW.D e0)))::(7,.buf 8 ((B 5).map (CW.D e0)))::(8,.buf 8 ((B 6).map (CW.D e0)))::(9,.buf 8 ((B 7).map (CW.D e0)))::r) (2+i) (.buf 8 (Yq.map (CW.D e)))) (2+k)=some (.buf 8 ((cb B i Yq k).map (CW.D e))):=by
  intro k hk;rw[di];split
  .rename_i h;obtain rfl:k=i:=ae;rw[k9]
  .rename_i h;have hne:k≠i:=ae;rw[hO (fun t=>(B t).map (CW.D e0)) hk,zd hne,tL (hB k hne)]
 refine .id ?_ (.id ?_ (.id (ent 0 bZ) (.id (ent 1 bZ) (.id (ent 2 bZ) (.id (ent 3 bZ) (.id (ent 4 bZ) (.id (ent 5 bZ) (.id (ent 6 bZ) (.id (ent 7 bZ) hr)))))))))
 .rw[di,ai ae];rfl
 .rw[di,ai ae];rfl
def NF.p:NF->List j8
 | .sl l=>l
 |_=>[]
def BF.p:BF->List Want
 | .sl l=>l
 |_=>[]
def CW.p (c:CW):dJ:=⟨c.v,c.sh,c.n.p,c.b.p⟩
def mV (us:List RU)(g:Gs):Nat->List CW:=jc us.length (fun t=>us[t]!.cs.map CW.v) (fun t=>us[t]!.feat) (us.length-1) 1 (ay g us.length (fun t=>us[t]!.cs.map CW.v) 3).2 (cb (fun t=>us[t]!.cs) 0 [⟨zV,-1,.sl (ay g us.length (fun t=>us[t]!.cs.map CW.v) 3).1,.nil⟩])
def cw (ks:List Int)(few:Int):bH:=⟨(List.range (eA ⟨ks,0⟩ few).1.length).map fun t=>⟨(eA ⟨ks,0⟩ few).1[t]!.name,(eA ⟨ks,0⟩ few).1[t]!.feat,(mV (eA ⟨ks,0⟩ few).1 (eA ⟨ks,0⟩ few).2 t).map CW.p⟩⟩
def rl (vs:Nat->List bp)(B:Nat->List CW):Prop:=∀t,(B t).map CW.v=vs t
def pd.v {vs:Nat->List bp}{B:Nat->List CW}(h:pd vs B):rl vs B:=fun t=>(h t).1
def rl.len {vs:Nat->List bp}{B:Nat->List CW}(h:rl vs B):(fun j=>(B j).length)=fun j=>(vs j).length:=by
 funext j;rw[<-h j,aD]
def rl.gT {vs:Nat->List bp}{B:Nat->List CW}(h:rl vs B):gT B=vs:=by
 funext j;exact h j
def rl.Kh {vs:Nat->List bp}{B:Nat->List CW}(h:rl vs B){i:Nat}{x:List CW}(hv:x.map CW.v=vs i):rl vs (cb B i x):=by
 intro t;unfold cb;split
 .rename_i e;subst e;exact hv
 .exact h t
def yj (vs:Nat->List bp):Prop:=∀t,(vs t).length<=4/\∀v∈vs t,v.sm
def rl.ok {vs:Nat->List bp}{B:Nat->List CW}{n:Nat}(h:rl vs B)(hn:2<=n/\n<=8)(hv:yj vs):G9 n B:=by
 refine⟨hn,fun t=>⟨?_,fun c hc=>?_⟩⟩
 .have:=(hv t).1;rw[<-h t,aD]at this;exact this
 .exact(hv t).2 _ (by rw[<-h t];exact List.mem_map_of_mem hc)
def vt {done:List CW}{r:List bp}{v:bp}{l:List bp}{c:CW}(hd:done.map CW.v=l.take done.length)(hr:l.drop done.length=v::r)(hc:c.v=v):(done++c::r.map a8).map CW.v=l:=by
 have h2:(r.map a8).map CW.v=r:=by rw[List.map_map];exact List.map_id _
 rw[List.map_append,List.map_cons,hd,h2,hc,<-hr,List.take_append_drop]
def xy (n:Nat)(vs:Nat->List bp):∀k g acc,(iZ n vs k g acc).1.length=acc.length+k
 |0,g,acc=>by simp[iZ]
 |k+1,g,acc=>by
  rw[iZ];split<;>rw[xy n vs k]<;>simp<;>omega
def vA {g:Gs}{n:Nat}{vs:Nat->List bp}{most:Int}(h0:0<=most)(h3:most<=3):(ay g n vs most).1.length<=3:=by
 have hv:=cX (wJ g.l g.i) (most+1) ae;have hv2:g.val (most+1)=bO (wJ g.l g.i) (most+1):=rfl;unfold ay;rw[xy];simp only[bg];omega
def oG {ks:List Int}{few:Int}{us:List RU}{g1:Gs}(h:eA ⟨ks,0⟩ few=(us,g1)):(2<=us.length/\us.length<=8)/\us[0]!.cs=[wE]/\(∀t:Nat,1<=t->us[t]!.cs=(us[t]!.cs.map CW.v).map a8)/\yj (fun t=>us[t]!.cs.map CW.v)/\(∀t:Nat,∀c∈us[t]!.cs,c.pl=true)/\0<=g1.i/\g1.i<=51:=by
 obtain⟨more,e,hm,hl,h1,h2⟩:=xY (g:=⟨ks,0⟩) (few:=few);rw[h]at e h1 h2;dsimp only at e h1 h2;subst e;have hc:∀t,1<=t->(tw++more)[t]!.cs=[]\/(tw++more)[t]!.raw:=by
  intro t ht;rcases cT t (tw++more).length with h|h
  .right;have h5:(tw++more)[t]! =more[t-1]! :=by
    simp only[tw,cK,List.length_singleton]at h;simp[tw,List.getElem!_eq_getElem?_getD,List.getElem?_cons,show t≠0 by omega]
   rw[h5];exact hm _ (aj (by simp only[tw,cK,List.length_singleton]at h;omega))
  .left;rw[qJ h];rfl
 have h0:(tw++more)[0]!.cs=[wE]:=by simp[tw]
 refine⟨by simp only[tw,cK,List.length_singleton];omega,h0,fun t ht=>?_,fun t=>?_,fun t=>?_,ae,ae⟩
 .rcases hc t ht with e|⟨vs,e,_⟩
  .rw[e];rfl
  .rw[e,List.map_map,List.map_map];congr 1
 .rcases Nat.eq_zero_or_pos t with rfl|ht
  .simp only[h0,List.map_cons,List.map_nil,List.length_singleton];exact⟨ae,fun v hv=>by obtain rfl:=bG.1 hv;exact sW⟩
  .rcases hc t ht with e|⟨vs,e,hl4,hsm⟩
   .simp only[e,List.map_nil,bg];exact⟨ae,fun v hv=>by cases hv⟩
   .have e2:(vs.map a8).map CW.v=vs:=by rw[List.map_map];exact List.map_id _
    simp only[e,e2];exact⟨hl4,hsm⟩
 .rcases Nat.eq_zero_or_pos t with rfl|ht
  .rw[h0];intro c hc';obtain rfl:=bG.1 hc';rfl
  .rcases hc t ht with e|⟨vs,e,_⟩
   .rw[e];intro c hc';cases hc'
   .rw[e];exact fC vs
def yL {done rest:List CW}{c:CW}(hd:∀c∈done,c.pl=true)(hc:c.pl=true)(hr:∀c∈rest,c.pl=true):∀x∈done++c::rest,x.pl=true:=fun x hx=>(List.mem_append.1 hx).elim (hd x) fun h=>(dz.1 h).elim (fun e=>by rw[e];exact hc) (hr x)
def JL {α:Type}{l:List α}{k:Nat}{v:α}{r:List α}(h:l.drop k=v::r):l.take (k+1)=l.take k++[v]:=by
 have h2:(l.drop k)[0]? =some v:=by rw[h];rfl
 rw[List.getElem?_drop]at h2;rw[List.take_succ,show l[k]? =some v by simpa using h2];rfl
def mY {n i:Nat}{vs:Nat->List bp}{f:dF}{cs B:Nat->List CW}{done:List CW}{v:bp}{r:List bp}{k h g':Gs}{c':CW}{F:List CW×Gs}(hvr:(vs i).drop done.length=v::r)(hB:B=cb cs i (done++((vs i).drop done.length).map a8))
  (hf:(done++(dX n vs i f (v::r) k).1,(dX n vs i f (v::r) k).2)=F) (hdv:done.map CW.v=(vs i).take done.length) (hdp:∀c∈done,c.pl=true) (hk:0<=k.i/\k.i<=h.i+30*(done.length:Nat)) (hce:gJ k n vs i f v=(c',g')):
  (done.length+1<=(vs i).length/\(done++[c']).length=done.length+1)/\cb B i (done++c'::r.map a8)=cb cs i ((done++[c'])++((vs i).drop (done.length+1)).map a8)/\
    ((done++[c'])++(dX n vs i f ((vs i).drop (done.length+1)) g').1,(dX n vs i f ((vs i).drop (done.length+1)) g').2)=F/\((done++[c']).map CW.v=(vs i).take (done.length+1)/\∀c∈done++[c'],c.pl=true)/\(0<=g'.i/\g'.i<=h.i+30*((done.length+1:Nat):Int)):=by
 have hr1:(vs i).drop (done.length+1)=r:=by rw[<-List.drop_drop,hvr];rfl
 have h1:=Di (h:=k) (n:=n) (vs:=vs) (i:=i) (f:=f) (v:=v);have h2:=Dj k n i vs f v;rw[hce]at h1 h2;dsimp only at h1 h2;have hl:done.length+1<=(vs i).length:=by
  have:=b8 List.length hvr;simp only[wG,aY]at this;omega
 refine⟨⟨hl,bz⟩, ?_, ?_,⟨?_, ?_⟩,ae⟩
 .rw[hr1,hB,tY,lW];rfl
 .rw[hr1,<-hf];simp only[dX,hce,lW,List.singleton_append]
 .rw[List.map_append,hdv,JL hvr,List.map_cons,List.map_nil,h2.1]
 .intro c hc;rcases List.mem_append.1 hc with hc|hc
  .exact hdp c hc
  .obtain rfl:=bG.1 hc;exact h2.2
def Cn {n i:Nat}{vs:Nat->List bp}{ft:Nat->dF}{cs B:Nat->List CW}{done:List CW}{k h:Gs}(hi:i<n)(hle:(vs i).length<=done.length)(hB:B=cb cs i (done++((vs i).drop done.length).map a8))
  (hf:(done++(dX n vs i (ft i) ((vs i).drop done.length) k).1,(dX n vs i (ft i) ((vs i).drop done.length) k).2)=dX n vs i (ft i) (vs i) h):jc n vs ft (n-(i+1)) (i+1) k B=jc n vs ft (n-i) i h cs:=by
 obtain⟨r,hr⟩:∃r,n-i=r+1:=⟨n-i-1,ae⟩
 rw[hr,jc,<-hf,hB,nk hle];obtain rfl:r=n-(i+1):=ae;simp only[dX,List.map_nil,Ka]
def SHW:List Sh:=[.sl 3 [.a,.a,.sl 8 [.a,.a,.a,.a,.a,.a,.sl 1 [.sl 3 [.a,.a]],.sl 3 [.a,.a,.a]]]]
def Dk {m:List (Nat×bT)}{c:CW}(h:c.pl=true):(match c.D 10 with
  | .agg ds=>.agg (xL m [.a,.a,.a,.a,.a,.a,.sl 1 [.sl 3 [.a,.a]],.sl 3 [.a,.a,.a]] ds)
  |e=>xH m [.a,.a,.a,.a,.a,.a,.sl 1 [.sl 3 [.a,.a]],.sl 3 [.a,.a,.a]] e)=c.p.D/\(match c.D 10 with
  | .agg ds=>D5 m [.a,.a,.a,.a,.a,.a,.sl 1 [.sl 3 [.a,.a]],.sl 3 [.a,.a,.a]] ds
  |e=>Me m [.a,.a,.a,.a,.a,.a,.sl 1 [.sl 3 [.a,.a]],.sl 3 [.a,.a,.a]] e):=by
 obtain⟨v,sh,n,b⟩:=c;cases n<;>cases b<;>first|(simp[CW.pl,NF.pl,BF.pl]at h;done)|exact⟨rfl,rfl,rfl,rfl,rfl,rfl,rfl,rfl,rfl,rfl⟩
def GM {m:List (Nat×bT)}{n:Nat}{nm ft:Nat->dF}{ln:Nat->Nat}{cs:Nat->List CW}(h1:look m 1=some (.buf 3 (UB n nm ft ln)))(hc:∀t,t<8->look m (2+t)=some (.buf 8 ((cs t).map (CW.D 10))))(hl:∀t,ln t=(cs t).length)(hp:∀t,∀c∈cs t,c.pl=true)(hn:n<=8):
  xV m SHW (.agg [.own 1 3 0 n])=bH.D ⟨(List.range n).map fun t=>⟨nm t,ft t,(cs t).map CW.p⟩⟩/\Kj m SHW (.agg [.own 1 3 0 n]):=by
 have hu:(UB n nm ft ln).take n=UB n nm ft ln:=eZ (by simp[UB]);have hq:∀t,((cs t).map (CW.D 10)).take (ln t)=(cs t).map (CW.D 10):=fun t=>eZ (by simp[hl])
 constructor
 .simp only[SHW,xV,xL,xC,ba,h1,aO,hu];simp only[bH.D,UB,List.map_map];congr 2;congr 1;apply List.map_congr_left;intro j hj;have h2:=hc j (by have:=List.mem_range.1 hj;omega);simp only[Function.comp,UD,xL,xC,ba,h2,aO,hq,bI.D,List.map_map];congr 4;refine b8 (D.sl 8) ?_;apply List.map_congr_left;intro c hc2;exact(Dk (m:=m) (hp j c hc2)).1
 .simp only[SHW,Kj,D5,Ki,ba,ew,h1,aO,hu];refine⟨⟨⟨trivial,by simp[UB]⟩, ?_⟩,rfl⟩;intro e he;simp only[UB,eN,List.mem_range]at he;obtain⟨j,hj,rfl⟩:=he;have h2:=hc j ae;simp only[UD,D5,Ki,ba,ew,h2,aO,hq];refine⟨rfl,rfl,⟨⟨trivial,by simp[hl]⟩, ?_⟩,rfl⟩;intro e he;obtain⟨c,hc2,rfl⟩:=eN.1 he;exact(Dk (m:=m) (hp j c hc2)).2
def GN {ks:List Int}{few:Int}{us:List RU}{g1:Gs}{F:Nat->List CW}(h:eA ⟨ks,0⟩ few=(us,g1))(hF:mV us g1=F):(⟨(List.range us.length).map fun t=>⟨us[t]!.name,us[t]!.feat,(F t).map CW.p⟩⟩:bH)=cw ks few:=by
 unfold cw;rw[h,<-hF]
def Ql (c:CW):Prop:=c.v.sm/\(∀r∈c.n.p,∀w∈r,w.sm)/\∀w∈c.b.p,w.sm
def wo {g:Gs}{n:Nat}{vs:Nat->List bp}(hv:yj vs):(cD g n vs).sm:=(OQ (hv _).2 (hv _).1).1
def Ai {n:Nat}{vs:Nat->List bp}(hv:yj vs):∀k g acc,(∀r∈acc,∀w∈r,w.sm)->∀r∈(iZ n vs k g acc).1,∀w∈r,w.sm
 |0,g,acc,h=>h
 |k+1,g,acc,h=>by
  rw[iZ];split<;>refine Ai hv k _ _ ?_<;>intro r hr<;>rcases List.mem_append.1 hr with hr|hr
  .exact h r hr
  .obtain rfl:=bG.1 hr;intro w hw;simp only[dz,ec,or_false]at hw;rcases hw with rfl|rfl<;>exact wo hv
  .exact h r hr
  .obtain rfl:=bG.1 hr;intro w hw;obtain rfl:=bG.1 hw;exact wo hv
def xA {n:Nat}{vs:Nat->List bp}(hv:yj vs)(g:Gs)(most:Int):∀r∈(ay g n vs most).1,∀w∈r,w.sm:=Ai hv _ _ _ (fun _ h=>by cases h)
def AX {h:Gs}{n i:Nat}{vs:Nat->List bp}{f:dF}{v:bp}(hv:yj vs)(hs:v.sm):∀r∈nt h n vs i f v,∀w∈r,w.sm:=by
 intro r hr;unfold nt at hr;rcases List.mem_append.1 hr with hr|hr
 .split at hr
  .cases hr
  .obtain rfl:=bG.1 hr;intro w hw;obtain rfl:=bG.1 hw;exact xi hs
 .exact xA hv _ _ r hr
def HH {h:Gs}{n i:Nat}{vs:Nat->List bp}{f:dF}{v:bp}(hv:yj vs)(hs:v.sm):Ql (gJ h n vs i f v).1:=by
 unfold gJ;split
 .exact⟨hs,AX hv hs,fun w hw=>by obtain rfl:=bG.1 hw;exact wo hv⟩
 .exact⟨hs,AX hv hs,fun w hw=>by cases hw⟩
def xq {n i:Nat}{vs:Nat->List bp}{f:dF}(hv:yj vs):∀(l:List bp) (h:Gs),(∀v∈l,v.sm)->∀c∈(dX n vs i f l h).1,Ql c
 |[],h,_,c,hc=>by cases hc
 |v::r,h,hl,c,hc=>by
  simp only[dX]at hc;rcases dz.1 hc with rfl|hc
  .exact HH hv (hl _ (.head _))
  .exact xq hv r _ (fun x hx=>hl x (.tail _ hx)) c hc
def xF {n:Nat}{vs:Nat->List bp}{ft:Nat->dF}(hv:yj vs):∀r i h cs,(∀t,((cs t).length<=4)/\∀c∈cs t,Ql c)->∀t,((jc n vs ft r i h cs t).length<=4)/\∀c∈jc n vs ft r i h cs t,Ql c
 |0,i,h,cs,hc=>hc
 |r+1,i,h,cs,hc=>by
  rw[jc];refine xF hv r _ _ _ fun t=>?_
  unfold cb;split
  .refine⟨?_,xq hv _ _ (hv i).2⟩;have:=b8 List.length (uS n vs i (ft i) (vs i) h).1;rw[aD]at this;rw[this];exact(hv i).1
  .exact hc t
def sv (ks:List Int)(few:Int):(cw ks few).sm/\(cw ks few).us.length<=8:=by
 obtain⟨us,g1,h⟩:∃us g1,eA ⟨ks,0⟩ few=(us,g1):=⟨_,_,rfl⟩
 obtain⟨h8,h0,hraw,hv,hp,_⟩:=oG h;have hb:∀t:Nat,(us[t]!.cs.length<=4)/\∀c∈us[t]!.cs,Ql c:=by
  intro t;have h4:=(hv t).1;rw[aD]at h4;refine⟨h4,fun c hc=>?_⟩;have hvs:c.v.sm:=(hv t).2 _ (List.mem_map_of_mem hc);rcases Nat.eq_zero_or_pos t with rfl|ht
  .rw[h0]at hc;obtain rfl:=bG.1 hc;exact⟨hvs,(fun _ h=>by cases h),(fun _ h=>by cases h)⟩
  .rw[hraw t ht]at hc;obtain⟨v,_,rfl⟩:=eN.1 hc;exact⟨hvs,(fun _ h=>by cases h),(fun _ h=>by cases h)⟩
 have hf:=xF (n:=us.length) (ft:=fun t=>us[t]!.feat) hv (us.length-1) 1 (ay g1 us.length (fun t=>us[t]!.cs.map CW.v) 3).2 (cb (fun t=>us[t]!.cs) 0 [⟨zV,-1,.sl (ay g1 us.length (fun t=>us[t]!.cs.map CW.v) 3).1,.nil⟩]) (by
  intro t;unfold cb;split
  .refine⟨bz,fun c hc=>?_⟩;obtain rfl:=bG.1 hc;exact⟨sW,xA hv _ _,fun _ h=>by cases h⟩
  .exact hb t)
 unfold cw;rw[h];refine⟨?_,by simp only[aD,List.length_range];exact h8.2⟩;intro u hu;obtain⟨t,_,rfl⟩:=eN.1 hu;have:=hf t;refine⟨by dsimp only[mV];rw[List.length_map];exact Nat.le_trans this.1 bZ,fun c hc=>?_⟩;obtain⟨x,hx,rfl⟩:=eN.1 hc;exact this.2 x hx
def il (a b:Int):Int:=IntKind.i64.wrap ((BitVec.ofInt 64 a&&&BitVec.ofInt 64 b).toNat)
def FD (a b:Int):Int:=IntKind.i64.wrap ((BitVec.ofInt 64 a&&& ~~~ BitVec.ofInt 64 b).toNat)
def tc (a b:Int):Int:=IntKind.i64.wrap ((BitVec.ofInt 64 a |||BitVec.ofInt 64 b).toNat)
def bN (us:List bI)(u:Int):Int:=if u<0\/(us.length:Int)<=u then 0 else 2^(us[u.toNat]!.cands.length+1) -1
def jy (cs:List dJ)(s:bQ):Nat->Int
 |0=>0
 |k+1=>if nB s cs[k]!.v=true then jy cs s k+2^(k+1)else jy cs s k
def eP (us:List bI)(w:Want):Int:=if w.u<0\/(us.length:Int)<=w.u then 0 else jy us[w.u.toNat]!.cands w.s us[w.u.toNat]!.cands.length
def aR (us:List bI):List bB->Int->Int
 |[],u=>bN us u
 |t::r,u=>if t.u=u then t.m else aR us r u
def oD (us:List bI)(t:bB):Bool:=decide (t.m≠0)&&decide (il t.m (bN us t.u)=t.m)&&decide (t.m≠bN us t.u)
def fm (us:List bI)(l:List bB):Bool:=dd (fun i=>oD us l[i]! && !(decide (0<i)&&decide (l[i]!.u<=l[i-1]!.u))) 0 l.length
def xx {us:List bI}{l:List bB}{u:Int}{i:Nat}(hi:i<l.length)(h:l[i]!.u=u):aR us (l.drop i) u=l[i]!.m:=by
 rw[lf hi,aR,ax (by simpa[hi]using h)];simp[hi]
def vk {us:List bI}{l:List bB}{u:Int}{i:Nat}(hi:i<l.length)(h:¬l[i]!.u=u):aR us (l.drop i) u=aR us (l.drop (i+1)) u:=by
 rw[lf hi,aR,ai (by simpa[hi]using h)]
def xw {us:List bI}{l:List bB}{u:Int}{i:Nat}(hi:l.length<=i):aR us (l.drop i) u=bN us u:=by
 rw[nk hi,aR]
def Gb (k:Nat):(2:Int)^k=((2^k:Nat):Int):=by
 induction k with
 |zero=>rfl
 |succ k ih=>rw[Int.pow_succ,ih,Nat.pow_succ];omega
def Co {k n:Nat}(h:k<=n):(2:Int)^k<=2^n:=by
 rw[Gb,Gb];exact Int.ofNat_le.2 (Nat.pow_le_pow_right bZ h)
def fP (k:Nat):(1:Int)<=2^k:=by
 rw[Gb];have:=Nat.one_le_two_pow (n:=k);omega
def pD {k:Nat}(h:k<=40):(2:Int)^k<=1099511627776:=Co h
def vn (cs:List dJ)(s:bQ):∀k,0<=jy cs s k/\jy cs s k<=2^(k+1) -2
 |0=>by simp[jy]
 |k+1=>by
  have ih:=vn cs s k;have h1:(2:Int)^(k+1+1)=2^(k+1)*2:=Int.pow_succ 2 (k+1);have h2:=fP (k+1);rw[jy];split<;>omega
def sS (us:List bI)(row:ar)(k:Int)(w:Want):Bool:=if w.u=row.unit then decide (il (eP us w) (2^(k+1).toNat)≠0)else decide (FD (aR us row.terms w.u) (eP us w)=0)
def sK (us:List bI)(row:ar)(k:Int)(w:Want):Bool:=if w.u=row.unit then decide (il (eP us w) (2^(k+1).toNat)=0)else decide (il (eP us w) (aR us row.terms w.u)=0)
def qp (x:Int):Prop:=-9223372036854775808<=x/\x<=9223372036854775807
def tZ (x:BitVec 64):IntKind.i64.wrap (x.toNat:Int)=x.toInt:=by
 have h:=x.isLt;have e:IntKind.i64.wrap (x.toNat:Int)=if decide ((x.toNat:Int)%18446744073709551616≥9223372036854775808)=true then(x.toNat:Int)%18446744073709551616-18446744073709551616 else(x.toNat:Int)%18446744073709551616:=rfl
 rw[e,BitVec.toInt_eq_toNat_cond];simp only[bC];split<;>split<;>omega
def mq {m:Int}(h:qp m):(BitVec.ofInt 64 m).toInt=m:=by
 obtain⟨h1,h2⟩:=h;rw[BitVec.toInt_ofInt,Int.bmod_def];split<;>omega
def nU (a b:Int):il a b=(BitVec.ofInt 64 a&&&BitVec.ofInt 64 b).toInt:=tZ _
def HC (a b:Int):FD a b=(BitVec.ofInt 64 a&&& ~~~ BitVec.ofInt 64 b).toInt:=tZ _
def HE (a b:Int):tc a b=(BitVec.ofInt 64 a |||BitVec.ofInt 64 b).toInt:=tZ _
def HB (a b:Int):il a b=il b a:=by rw[nU,nU,BitVec.and_comm]
def D3 {x:BitVec 64}:x.toInt=0↔x=0#64:=⟨fun h=>BitVec.eq_of_toInt_eq (by rw[h];rfl),fun h=>by rw[h];rfl⟩
def Fv {x y:BitVec 64}:x&&& ~~~ y=0#64↔x&&&y=x:=by
 constructor<;>intro h<;>ext i hi<;>have:=b8 (fun z=>z.getLsbD i) h<;>simp at this<;>simp[hi]<;>grind
def Mx {m f:Int}(h:qp m):FD m f=0↔il m f=m:=by
 rw[HC,nU,D3,Fv];constructor
 .intro e;rw[e];exact mq h
 .intro e;exact BitVec.eq_of_toInt_eq (by rw[e,mq h])
def Dh {a:Int}{i:Nat}(h0:0<=a)(h1:a<2^i)(hi:i<=40):tc a (2^i)=a+2^i:=by
 have hp:=pD hi;obtain⟨n,rfl⟩:∃n:Nat,a=(n:Int):=⟨a.toNat,ae⟩
 rw[Gb]at h1 hp⊢;have h2:n<2^i:=ae;have hl:(2:Nat)^i<=1099511627776:=ae;have e:(BitVec.ofInt 64 (n:Int) |||BitVec.ofInt 64 ((2^i:Nat):Int)).toNat=n+2^i:=by
  rw[BitVec.toNat_or,BitVec.toNat_ofInt,BitVec.toNat_ofInt];have h3:((n:Int)%((2^64:Nat):Int)).toNat=n:=ae;have h4:(((2^i:Nat):Int)%((2^64:Nat):Int)).toNat=2^i:=ae;rw[h3,h4,Nat.or_comm];have:=Nat.two_pow_add_eq_or_of_lt h2 1;simp only[Nat.mul_one]at this;omega
 unfold tc;rw[e,wrap_i64 ae ae];omega
def L8 (us:List bI)(t:bB):Bool:=!(decide (t.m=0) ||!decide (FD t.m (bN us t.u)=0) ||decide (t.m=bN us t.u))
def L9 {us:List bI}{t:bB}(h:qp t.m):L8 us t=oD us t:=by
 unfold L8 oD;have:=Mx (f:=bN us t.u) h;by_cases h1:t.m=0<;>by_cases h2:il t.m (bN us t.u)=t.m<;>by_cases h3:t.m=bN us t.u<;>simp_all
def qY {b:Int}{n:Nat}(hb:b=(n:Int))(hn:n<=40):IntKind.i64.wrap (1*2^(min b.toNat IntKind.i64.bits))=2^n:=by
 subst hb;have h:=pD hn;have h2:=fP n;rw[show min (Int.toNat (n:Int)) IntKind.i64.bits=n from Nat.min_eq_left (by simp only[IntKind.bits];omega),Int.one_mul];exact wrap_i64 ae ae
def iV {α:Type}(f:α->Bool):List α->Nat->Int
 |[],_=>-1
 |x::r,i=>if f x=true then(i:Int)else iV f r (i+1)
def qK {α:Type} [Inhabited α]{f:α->Bool}{l:List α}{i:Nat}(hi:i<l.length)(h:f l[i]! =true):iV f (l.drop i) i=i:=by
 rw[lf hi,iV,ax (by simpa[hi]using h)]
def oQ {α:Type} [Inhabited α]{f:α->Bool}{l:List α}{i:Nat}(hi:i<l.length)(h:f l[i]! =false):iV f (l.drop i) i=iV f (l.drop (i+1)) (i+1):=by
 rw[lf hi,iV,ai (by simpa[hi]using h)]
def uR {α:Type}{f:α->Bool}{l:List α}{i:Nat}(hi:l.length<=i):iV f (l.drop i) i=-1:=by
 rw[nk hi,iV]
def uQ {α:Type}{f:α->Bool}:∀{l:List α}{i:Nat},decide (0<=iV f l i)=l.any f
 |[],i=>by simp[iV]
 |x::r,i=>by
  rw[iV,List.any_cons];split
  .rename_i h;rw[h];simp
  .rename_i h;rw[uQ];simp[h]
def fB (b:Bool)(us:List bI)(row:ar)(k:Int)(w:Want):Bool:=if b=true then sS us row k w else !sK us row k w
def gF (us:List bI)(row:ar)(k:Int)(r:j8):Bool:=!r.any (fB false us row k)
def kW (us:List bI)(row:ar)(k:Nat)(mild:Bool):Bool:=if mild=true then us[row.unit.toNat]!.cands[k]!.bars.any (fB true us row (k:Int))else us[row.unit.toNat]!.cands[k]!.needs.any (gF us row (k:Int))
def dJ.fz (l k:Nat)(es:List Abs.D)(c:dJ):dy l k es c.D=c.D:=pQ l k es _ (by simp only[dJ.D,D.bm,aW,eM])
def bo.fz (l k:Nat)(es:List Abs.D)(c:bo):dy l k es c.D=c.D:=pQ l k es _ (by simp only[bo.D,D.bm,aW,eM])
def ar.fz (l k:Nat)(es:List Abs.D)(c:ar):dy l k es c.D=c.D:=pQ l k es _ (by simp only[ar.D,D.bm,aW,eM])
def uO (l:List bB)(u:Int):Bool:=l.any fun t=>decide (t.u=u)
def n9 (us:List bI)(u:Int):∀(l:List bB) (i:Nat),(iV (fun t=>decide (t.u=u)) l i=-1/\uO l u=false/\aR us l u=bN us u)\/∃j,j<l.length/\iV (fun t=>decide (t.u=u)) l i=((i+j:Nat):Int)/\l[j]!.u=u/\aR us l u=l[j]!.m/\uO l u=true
 |[],i=>.inl ⟨rfl,rfl,rfl⟩
 |t::r,i=>by
  by_cases h:t.u=u
  .refine .inr ⟨0,bz, ?_,by simpa using h, ?_, ?_⟩
   .rw[iV,ax (by simpa using h)];rfl
   .rw[aR,ax h];rfl
   .simp[uO,h]
  .rcases n9 us u r (i+1)with⟨h1,h2,h3⟩|⟨j,h1,h2,h3,h4,h5⟩
   .refine .inl ⟨?_, ?_, ?_⟩
    .rw[iV,ai (by simpa using h)];exact h1
    .unfold uO at*;rw[List.any_cons,h2];simp[h]
    .rw[aR,ai h];exact h3
   .refine .inr ⟨j+1,eB, ?_, ?_, ?_, ?_⟩
    .rw[iV,ai (by simpa using h),h2];omega
    .simpa using h3
    .rw[aR,ai h,h4];simp
    .unfold uO at*;rw[List.any_cons,h5];simp
def iA (us:List bI)(row:ar)(mild:Bool):Bool:=uO row.terms row.unit&&decide (il (aR us row.terms row.unit) 1=0)&&dd (fun k=>decide (il (aR us row.terms row.unit) (2^(k+1))=0) ||kW us row k mild) 0 us[row.unit.toNat]!.cands.length
def sk {us:List bI}{t:bB}(h:oD us t=true):0<=t.u/\t.u<us.length:=by
 simp only[oD,br,bC]at h;by_cases q:t.u<0\/(us.length:Int)<=t.u
 .exfalso;rw[show bN us t.u=0 from ax q]at h;have h2:il t.m 0=0:=by rw[nU];simp
  rw[h2]at h;exact h.1.1 h.1.2.symm
 .omega
def zc {us:List bI}{l:List bB}(h:fm us l=true){i:Nat}(hi:i<l.length):oD us l[i]! =true:=by
 unfold fm at h;rw[cE]at h;have:=h i ae hi;simp only[br]at this;exact this.1
def xD (k:Int):D:=if k=1 then .fn 4001178 [.agg []]else if k=2\/k=3 then .fn 4001179 [.agg [.bool (decide (k=3))]]else if k=4 then .fn 4001180 [.agg []]else if k=5 then .fn 4001181 [.agg []]else .fn 4600000 []
def qw (us:List bI)(A B:List bB)(row:ar)(u:Nat):Bool:=decide (FD (aR us row.terms (u:Int)) (if(u:Int)=row.unit then tc (aR us A (u:Int)) (aR us B (u:Int))else il (aR us A (u:Int)) (aR us B (u:Int)))=0)
def nS (c:bo)(row:ar)(i:Int):Bool:=decide (bN c.w.us row.unit≠0)&&(decide (0<=row.a)&&decide (row.a<i))&&(decide (0<=row.b)&&decide (row.b<i))&&(fm c.w.us c.rows[row.a.toNat]!.terms&&fm c.w.us c.rows[row.b.toNat]!.terms)&&dd (qw c.w.us c.rows[row.a.toNat]!.terms c.rows[row.b.toNat]!.terms row) 0 c.w.us.length
def uw (c:bo)(row:ar):Bool:=decide (bN c.w.us row.unit≠0)&&decide (row.unit<c.allow.length)&&decide (il (aR c.w.us row.terms row.unit) c.allow[row.unit.toNat]! =0)
def lA (c:bo)(row:ar)(i:Int):Bool:=if row.kind=5 then nS c row i else decide (row.a=0)&&decide (row.b=0)&&(if row.kind=1 then decide (row.unit=0)&&decide (aR c.w.us row.terms 0=1)else if row.kind=2\/row.kind=3 then iA c.w.us row (decide (row.kind=3))else if row.kind=4 then uw c row else false)
def dD (c:bo)(i:Int):Bool:=decide (0<=i)&&decide (i<c.rows.length)&&fm c.w.us c.rows[i.toNat]!.terms&&lA c c.rows[i.toNat]! i
def RowsIn (l:List ar):Prop:=∀r∈l,∀t∈r.terms,qp t.m
def tO {us:List bI}{u:Int}(h:bN us u≠0):0<=u/\u<us.length:=by
 by_cases q:u<0\/(us.length:Int)<=u
 .exact absurd (ax q) h
 .omega
def BZ (k:Int):k=1\/(k=2\/k=3)\/k=4\/k=5\/¬(k=1\/k=2\/k=3\/k=4\/k=5):=ae
def ofK1 {k:Int}(h:k=1):xD k=.fn 4001178 [.agg []]:=ax h
def ofK2 {k:Int}(h:k=2\/k=3):xD k=.fn 4001179 [.agg [.bool (decide (k=3))]]:=by unfold xD;rw[ai ae,ax h]
def ofK4 {k:Int}(h:k=4):xD k=.fn 4001180 [.agg []]:=by unfold xD;rw[ai ae,ai ae,ax h]
def ofK5 {k:Int}(h:k=5):xD k=.fn 4001181 [.agg []]:=by unfold xD;rw[ai ae,ai ae,ai ae,ax h]
def ofK0 {k:Int}(h:¬(k=1\/k=2\/k=3\/k=4\/k=5)):xD k=.fn 4600000 []:=by unfold xD;rw[ai ae,ai ae,ai ae,ai ae]
def ju (f:Nat->Bool):Nat->Nat->Nat
 |0,i=>i
 |k+1,i=>if f i=true then ju f k (i+1)else i
def yq {f:Nat->Bool}{i n:Nat}(hi:i<n)(h:f i=true):ju f (n-i) i=ju f (n-(i+1)) (i+1):=by
 obtain⟨k,hk⟩:∃k,n-i=k+1:=⟨n-i-1,ae⟩
 rw[hk,ju,ax h,show k=n-(i+1)by omega]
def yp {f:Nat->Bool}{i n:Nat}(hi:i<n)(h:f i=false):ju f (n-i) i=i:=by
 obtain⟨k,hk⟩:∃k,n-i=k+1:=⟨n-i-1,ae⟩
 rw[hk,ju,ai (by rw[h];exact Bool.false_ne_true)]
def uz {f:Nat->Bool}{i n:Nat}(hi:n<=i):ju f (n-i) i=i:=by
 rw[show n-i=0 by omega,ju]
def gK (ok:Bool)(f:Nat->Bool)(l:List ar):Int×Bool:=if ok=false then(0,false)else if ju f l.length 0<l.length then((ju f l.length 0:Nat),false)else((l.length:Nat),decide (0<l.length)&&decide (l[l.length-1]!.terms.length=0))
def okW (w:bH)(allow:List Int):Bool:=po w&& !(decide (0<allow.length)&&decide (allow.length≠w.us.length))
def mP (a b:Int):qp (il a b):=by
 rw[nU];have h1:=BitVec.le_toInt (BitVec.ofInt 64 a&&&BitVec.ofInt 64 b);have h2:=BitVec.toInt_lt (x:=BitVec.ofInt 64 a&&&BitVec.ofInt 64 b);exact⟨by simpa using h1,by have:=h2;simp at this;omega⟩
def zb {us:List bI}{t:bB}(h:oD us t=true):qp t.m:=by
 simp only[oD,br,bC]at h;rw[<-h.1.2];exact mP _ _
def zJ {m:Int}(h:qp m):il m m=m:=by
 rw[nU,BitVec.and_self,mq h]
def n8 {us:List bI}{u:Int}(h:∀x∈us,x.cands.length<=16):qp (bN us u):=by
 unfold bN;split
 .exact⟨bZ,bZ⟩
 .rename_i q;have:=h _ (aj (show u.toNat<us.length by omega));have h1:=pD (k:=us[u.toNat]!.cands.length+1) ae;have h2:=fP (us[u.toNat]!.cands.length+1);constructor<;>omega
def ml {us:List bI}{l:List bB}{u:Int}(hs:∀x∈us,x.cands.length<=16)(h:fm us l=true):qp (aR us l u)/\il (aR us l u) (bN us u)=aR us l u:=by
 rcases n9 us u l 0 with⟨_,_,e⟩|⟨j,h1,_,h3,e,_⟩
 .rw[e];exact⟨n8 hs,zJ (n8 hs)⟩
 .have ht:=zc h h1;rw[e];refine⟨zb ht, ?_⟩;simp only[oD,br,bC]at ht;rw[<-h3];exact ht.1.2
def A4 {b:Int}{n:Nat}(hb:b=(n:Int))(hn:n<=39):IntKind.i64.wrap (2*2^(min b.toNat IntKind.i64.bits))=2^(n+1):=by
 subst hb;have h:=pD (k:=n+1) ae;have h2:=fP n;rw[Int.pow_succ]at h;rw[show min (Int.toNat (n:Int)) IntKind.i64.bits=n from Nat.min_eq_left (by simp only[IntKind.bits];omega),Int.pow_succ,Int.mul_comm];exact wrap_i64 ae ae
def cV (l k:Nat)(es:List D)(rs:List ar):du l k es (rs.map ar.D)=rs.map ar.D:=fW l k es _ (bL (fun r=>by simp only[ar.D,D.bm,aW,eM]) _)
def dW {α:Type} [Inhabited α]{l:List α}{i:Nat}(h:i<l.length):l.take i++[l[i]!]=l.take (i+1):=by
 rw[List.take_succ,show l[i]? =some l[i]! by simp[h]];rfl
def mJ (us:List bI)(ks:List Int)(i:Nat):Int:=if bO (wJ ks (i:Int)) 300<100/\0<i then il (bN us (i:Int)) (bO (wJ ks (i:Int)) 300)else bN us (i:Int)
def nQ (us:List bI)(ks:List Int):Nat->List Int
 |0=>[]
 |i+1=>nQ us ks i++[mJ us ks i]
def j9 (us:List bI)(ks:List Int):List Int:=if ks.length=0 then []else nQ us ks us.length
def uv (us:List bI)(ks:List Int):∀i,(nQ us ks i).length=i
 |0=>rfl
 |i+1=>by rw[nQ,cK,uv us ks i];rfl
def jF:bH:=⟨[⟨[],[],[⟨zV,-1,[[⟨1,wN⟩]],[]⟩]⟩,⟨[97,110,116],[],[]⟩]⟩
def bH.fz (l k:Nat)(es:List Abs.D)(w:bH):dy l k es w.D=w.D:=pQ l k es _ rfl
def bB.eq (a b:bB):ic (bB.D a).cells (bB.D b).cells=decide (a=b):=by
 cases a;cases b
 grind [bB.D,D.cells,ic,tN]
def Ii {α:Type} [Inhabited α]{a b:List α}(h:a.length=b.length)(hk:∀k,k<a.length->a[k]! =b[k]!):a=b:=by
 apply List.ext_getElem h;intro n h1 h2;have:=hk n h1;simpa[h1,h2]using this
def eV (us:List bI)(i:Nat):List Int:=(List.range i).map fun u=>bN us ((u:Nat):Int)
def lL (us:List bI):List Int:=eV us us.length
def kM (us:List bI)(i:Nat):(eV us i).length=i:=by simp[eV]
def BR (us:List bI):(lL us).length=us.length:=kM _ _
def uN (us:List bI)(i:Nat):eV us i++[bN us ((i:Nat):Int)]=eV us (i+1):=by
 simp[eV,List.range_succ]
def iW (us:List bI)(ms:List Int):Nat->List bB
 |0=>[]
 |i+1=>if ms[i]! ≠bN us ((i:Nat):Int)then iW us ms i++[⟨((i:Nat):Int),ms[i]!⟩]else iW us ms i
def rT (us:List bI)(ms:List Int):∀i,(iW us ms i).length<=i
 |0=>aA _
 |i+1=>by
  have:=rT us ms i;rw[iW];split
  .simp only[cK,List.length_singleton];omega
  .omega
def Ld {us:List bI}{ms:List Int}{i:Nat}(h:ms[i]! ≠bN us ((i:Nat):Int)):iW us ms i++[⟨((i:Nat):Int),ms[i]!⟩]=iW us ms (i+1):=by rw[iW,ax h]
def Lc {us:List bI}{ms:List Int}{i:Nat}(h:¬ms[i]! ≠bN us ((i:Nat):Int)):iW us ms i=iW us ms (i+1):=by rw[iW,ai h]
def iH (us:List bI)(ms:List Int):List bB×Bool:=if dd (fun i=>decide (ms[i]! ≠0)) 0 ms.length=true then(iW us ms ms.length,true)else([],false)
def FY (us:List bI)(ms:List Int):(iH us ms).1.length<=ms.length:=by
 unfold iH;split
 .exact rT _ _ _
 .exact Nat.zero_le _
def JF {xs:List Int}{i:Nat}(h:i<xs.length)(v:Int):(xs.map (D.int .i64)).set i (oC ((xs.map (D.int .i64)).getD i .any) 1 1 0 (.int .i64 v))=(xs.set i v).map (D.int .i64):=by
 rw[getD_map h,List.map_set];rfl
def C9 (ms:List Int)(t:bB):List Int:=ms.set t.u.toNat (il ms[t.u.toNat]! t.m)
def nC (us:List bI)(l:List bB):Nat->List Int
 |0=>lL us
 |i+1=>C9 (nC us l i) l[i]!
def oo (us:List bI)(l:List bB):∀i,(nC us l i).length=us.length
 |0=>BR us
 |i+1=>by rw[nC,C9,List.length_set,oo us l i]
def MG (us:List bI)(t:bB):Bool:=decide (0<=t.u)&&decide (t.u<us.length)
def vu (us:List bI)(l:List bB):List bB×Bool:=if dd (fun i=>MG us l[i]!) 0 l.length=true then iH us (nC us l l.length)else([],false)
def tR (us:List bI)(l:List bB):(vu us l).1.length<=us.length:=by
 unfold vu;split
 .have:=FY us (nC us l l.length);rw[oo]at this;exact this
 .exact Nat.zero_le _
def ki (us:List bI)(a b:List bB)(unit:Int)(u:Nat):Int:=if((u:Nat):Int)=unit then tc (aR us a ((u:Nat):Int)) (aR us b ((u:Nat):Int))else il (aR us a ((u:Nat):Int)) (aR us b ((u:Nat):Int))
def eW (us:List bI)(a b:List bB)(unit:Int)(i:Nat):List Int:=(List.range us.length).map fun u=>if u<i then ki us a b unit u else bN us ((u:Nat):Int)
def pT (us:List bI)(a b:List bB)(unit:Int)(i:Nat):(eW us a b unit i).length=us.length:=by simp[eW]
def Ib (us:List bI)(a b:List bB)(unit:Int):lL us=eW us a b unit 0:=by simp[eW,lL,eV]
def uV {us:List bI}{a b:List bB}{unit:Int}{i:Nat}{v:Int}(hv:v=ki us a b unit i):(eW us a b unit i).set i v=eW us a b unit (i+1):=by
 apply List.ext_getElem
 .simp[eW]
 .intro n h1 h2;simp only[eW,List.length_set,aD,List.length_range]at h1 h2;simp only[eW,List.getElem_set,List.getElem_map,List.getElem_range];by_cases e:i=n
  .subst e;rw[ax rfl,ax ae,hv]
  .rw[ai e];by_cases l:n<i
   .rw[ax l,ax ae]
   .rw[ai l,ai ae]
def gP (us:List bI)(a b:List bB)(unit:Int):List bB×Bool:=if unit<0\/(us.length:Int)<=unit then([],false)else iH us (eW us a b unit us.length)
def jG (us:List bI)(c:List Int)(u:Int):Int:=
 if u<0\/(us.length:Int)<=u\/(c.length:Int)<=u then 0 else if c[u.toNat]! < -1\/min (us[u.toNat]!.cands.length:Int) 16<=c[u.toNat]! then 0 else 2^(c[u.toNat]! +1).toNat
def rD (us:List bI)(c:List Int)(t:bB):Bool:=decide (il (jG us c t.u) t.m≠0)
def MK (f:Nat->Bool):Nat->Bool
 |0=>true
 |k+1=>MK f k&&f k
def DO {f:Nat->Bool}:∀{n:Nat},MK f n=true↔∀i,i<n->f i=true
 |0=>⟨fun _ i h=>ae,fun _=>rfl⟩
 |n+1=>by
  rw[MK,br,DO];constructor
  .rintro⟨h1,h2⟩ i hi;rcases cT i n with h|h
   .exact h1 i h
   .obtain rfl:i=n:=ae;exact h2
  .exact fun h=>⟨fun i hi=>h i ae,h n ae⟩
def lJ (l:List bB)(u:Int):List bB:=l.filter fun t=>decide (t.u≠u)
def ta (l:List bB)(u:Int)(i:Nat):List bB:=lJ (l.take i) u
def NV {l:List bB}{u:Int}{i:Nat}(hi:i<l.length)(h:l[i]!.u≠u):ta l u i++[l[i]!]=ta l u (i+1):=by
 unfold ta lJ;rw[<-dW hi,List.filter_append,List.filter_cons_of_pos (by simpa using h)];rfl
def NU {l:List bB}{u:Int}{i:Nat}(hi:i<l.length)(h:¬l[i]!.u≠u):ta l u i=ta l u (i+1):=by
 unfold ta lJ;rw[<-dW hi,List.filter_append,List.filter_cons_of_neg (by simpa using h)];simp
def HA (l:List bB)(u:Int)(i:Nat):(ta l u i).length<=i:=by
 have h1:=List.length_filter_le (fun t:bB=>decide (t.u≠u)) (l.take i);have h2:(l.take i).length<=i:=by rw[dM];omega
 exact ea h1 h2
def Hz (l:List bB)(u:Int):(lJ l u).length<=l.length:=List.length_filter_le _ _
def KP (l:List bB)(u:Nat):List bB:=l.filter fun t=>decide (t.u=((u:Nat):Int))
def jt (l:List bB):Nat->List bB
 |0=>[]
 |u+1=>jt l u++KP l u
def k8 (l:List bB)(u i:Nat):List bB:=jt l u++KP (l.take i) u
def L6 {l:List bB}{u i:Nat}(hi:i<l.length)(h:l[i]!.u=((u:Nat):Int)):k8 l u i++[l[i]!]=k8 l u (i+1):=by
 unfold k8 KP;rw[<-dW hi,List.filter_append,List.filter_cons_of_pos (by simpa using h),lW];rfl
def L4 {l:List bB}{u i:Nat}(hi:i<l.length)(h:¬l[i]!.u=((u:Nat):Int)):k8 l u i=k8 l u (i+1):=by
 unfold k8 KP;rw[<-dW hi,List.filter_append,List.filter_cons_of_neg (by simpa using h)];simp
def L3 (l:List bB)(u:Nat):jt l u=k8 l u 0:=by simp[k8,KP]
def L5 (l:List bB)(u:Nat):k8 l u l.length=jt l (u+1):=by simp[k8,jt]
def xR (l:List bB):∀u,(jt l u).length<=u*l.length
 |0=>by simp[jt]
 |u+1=>by
  have h1:=xR l u;have h2:(KP l u).length<=l.length:=List.length_filter_le _ _;rw[jt,cK,Nat.succ_mul];omega
def GA (l:List bB)(u i:Nat):(k8 l u i).length<=u*l.length+i:=by
 have h1:=xR l u;have h2:(KP (l.take i) u).length<=(l.take i).length:=List.length_filter_le _ _;have h3:(l.take i).length<=i:=by rw[dM];omega
 rw[k8,cK];omega
def xS (l:List bB):List bB:=jt l 48
def od (x r:ar):Bool:=decide (x.kind=r.kind)&&decide (x.unit=r.unit)&&decide (lJ x.terms r.unit=lJ r.terms r.unit)
def IQ (rows:List ar)(r:ar):Nat:=ju (fun i=>!od rows[i]! r) rows.length 0
def gy (us:List bI)(x r:ar):ar:=⟨x.kind,x.unit,x.a,x.b,xS (⟨r.unit,tc (aR us x.terms r.unit) (aR us r.terms r.unit)⟩::lJ x.terms r.unit)⟩
def m8 (us:List bI)(rows:List ar)(r:ar):List ar:=if IQ rows r<rows.length then rows.set (IQ rows r) (gy us rows[IQ rows r]! r)else rows++[r]
def IS (us:List bI)(rows:List ar)(r:ar):(m8 us rows r).length<=rows.length+1:=by
 unfold m8;split
 .rw[List.length_set];omega
 .simp
def stJ4 {xs:List ar}{k:Nat}{l:List bB}(h:k<xs.length):(xs.map ar.D).set k (oC ((xs.map ar.D).getD k .any) 5 1 4 (.sl 2 (l.map bB.D)))=(xs.set k ⟨xs[k]!.kind,xs[k]!.unit,xs[k]!.a,xs[k]!.b,l⟩).map ar.D:=by
 rw[getD_map h,List.map_set];rfl
def ar.Pb (l k:Nat)(es:List Abs.D)(r:ar):dy l k es r.D=r.D:=ar.fz l k es r
def fG (us:List bI)(u k:Nat)(l:List Want)(bar:Bool):List bB:=⟨((u:Nat):Int),il (bN us ((u:Nat):Int)) (2^(k+1))⟩::l.map fun w=>⟨w.u,if bar=true then eP us w else bN us w.u-eP us w⟩
def GS (us:List bI)(bar:Bool)(w:Want):Int:=if bar=true then eP us w else bN us w.u-eP us w
def sC {us:List bI}{u k:Nat}{l:List Want}{bar:Bool}{i:Nat}(hi:i<l.length):fG us u k (l.take i) bar++[⟨l[i]!.u,GS us bar l[i]!⟩]=fG us u k (l.take (i+1)) bar:=by
 unfold fG GS;rw[<-dW hi];simp
def Dv {us:List bI}{u:Int}(h:∀x∈us,x.cands.length<=16):0<=bN us u/\bN us u<=131071:=by
 unfold bN;split
 .omega
 .have hc:=h _ (aj (show u.toNat<us.length by omega));have h1:=Co (k:=us[u.toNat]!.cands.length+1) (n:=17) ae;have h2:=fP (us[u.toNat]!.cands.length+1);have h3:(2:Int)^17=131072:=rfl;omega
def Cc {us:List bI}{w:Want}(h:∀x∈us,x.cands.length<=16):0<=eP us w/\eP us w<=131071:=by
 unfold eP;split
 .omega
 .have hc:=h _ (aj (show w.u.toNat<us.length by omega));have h1:=Co (k:=us[w.u.toNat]!.cands.length+1) (n:=17) ae;have h2:=vn us[w.u.toNat]!.cands w.s us[w.u.toNat]!.cands.length;have h3:(2:Int)^17=131072:=rfl;omega
def en (us:List bI)(u k:Nat)(l:List Want)(bar:Bool):List bB×Bool:=vu us (fG us u k l bar)
def wM (us:List bI)(rows:List ar)(kind u:Int)(c:List bB×Bool):List ar:=if c.2=true then m8 us rows ⟨kind,u,0,0,c.1⟩else rows
def zB (us:List bI)(rows:List ar)(kind u:Int)(c:List bB×Bool):(wM us rows kind u c).length<=rows.length+1:=by
 unfold wM;split
 .exact IS _ _ _
 .omega
def dY (us:List bI)(u i:Nat)(l:List j8)(rows:List ar):Nat->List ar
 |0=>rows
 |k+1=>wM us (dY us u i l rows k) 2 ((u:Nat):Int) (en us u i l[k]! false)
def p9 (us:List bI)(u i:Nat)(l:List j8)(rows:List ar):∀k,(dY us u i l rows k).length<=rows.length+k
 |0=>aA _
 |k+1=>by
  have h1:=p9 us u i l rows k;have h2:=zB us (dY us u i l rows k) 2 ((u:Nat):Int) (en us u i l[k]! false);rw[dY];omega
def jq (us:List bI)(u i:Nat)(l:List Want)(rows:List ar):Nat->List ar
 |0=>rows
 |k+1=>wM us (jq us u i l rows k) 3 ((u:Nat):Int) (en us u i [l[k]!] true)
def rm (us:List bI)(u i:Nat)(l:List Want)(rows:List ar):∀k,(jq us u i l rows k).length<=rows.length+k
 |0=>aA _
 |k+1=>by
  have h1:=rm us u i l rows k;have h2:=zB us (jq us u i l rows k) 3 ((u:Nat):Int) (en us u i [l[k]!] true);rw[jq];omega
def HF (us:List bI)(u i:Nat)(c:dJ)(rows:List ar):List ar:=jq us u i c.bars (dY us u i c.needs rows c.needs.length) c.bars.length
def dL (us:List bI)(u:Nat)(cs:List dJ)(rows:List ar):Nat->List ar
 |0=>rows
 |i+1=>HF us u i cs[i]! (dL us u cs rows i)
def Few (us:List bI):Prop:=∀u∈us,∀c∈u.cands,c.needs.length<=1000/\c.bars.length<=1000/\∀r∈c.needs,r.length<=1000
def FE {us:List bI}{u i:Nat}{c:dJ}{rows:List ar}(h:c.needs.length<=1000/\c.bars.length<=1000):(HF us u i c rows).length<=rows.length+2000:=by
 have h1:=p9 us u i c.needs rows c.needs.length;have h2:=rm us u i c.bars (dY us u i c.needs rows c.needs.length) c.bars.length;unfold HF;omega
def pK {us:List bI}{u:Nat}{cs:List dJ}{rows:List ar}(h:∀c∈cs,c.needs.length<=1000/\c.bars.length<=1000):∀{i},i<=cs.length->(dL us u cs rows i).length<=rows.length+2000*i
 |0,_=>by simp[dL]
 |i+1,hi=>by
  have h1:=pK (us:=us) (u:=u) (rows:=rows) h (show i<=cs.length by omega);have h2:=FE (us:=us) (u:=u) (i:=i) (rows:=dL us u cs rows i) (h _ (aj (show i<cs.length by omega)));have h4:(dL us u cs rows (i+1)).length<=(dL us u cs rows i).length+2000:=h2;have q:∀a b c:Nat,a<=c+2000*i->b<=a+2000->b<=c+2000*(i+1):=ae
  exact q _ _ _ h1 h4
def RZ:ar:=⟨1,0,0,0,[⟨0,1⟩]⟩
def dq (us:List bI):Nat->List ar
 |0=>[RZ]
 |u+1=>dL us u us[u]!.cands (dq us u) us[u]!.cands.length
def ql {us:List bI}(hf:Few us)(hc:∀u∈us,u.cands.length<=16):∀{i},i<=us.length->(dq us i).length<=1+32000*i
 |0,_=>by simp[dq]
 |i+1,hi=>by
  have h1:=ql hf hc (show i<=us.length by omega);have hm:=aj (show i<us.length by omega);have h2:=pK (us:=us) (u:=i) (rows:=dq us i) (cs:=us[i]!.cands) (fun c hc2=>⟨(hf _ hm c hc2).1,(hf _ hm c hc2).2.1⟩) (aA _);have h3:=hc _ hm;have h4:(dq us (i+1)).length<=(dq us i).length+2000*us[i]!.cands.length:=h2;have q:∀a b c:Nat,a<=1+32000*i->b<=a+2000*c->c<=16->b<=1+32000*(i+1):=ae
  exact q _ _ _ h1 h4 h3
def lK (us:List bI):List ar:=dq us us.length
def ux (us:List bI)(allow:List Int)(u:Nat):List bB×Bool:=vu us [⟨((u:Nat):Int),bN us ((u:Nat):Int) -il (bN us ((u:Nat):Int)) allow[u]!⟩]
def nR (us:List bI)(allow:List Int):Nat->List ar
 |0=>lK us
 |u+1=>if(ux us allow u).2=true then nR us allow u++[⟨4,((u:Nat):Int),0,0,(ux us allow u).1⟩]else nR us allow u
def zE (us:List bI)(allow:List Int):∀u,(nR us allow u).length<=(lK us).length+u
 |0=>aA _
 |u+1=>by
  have:=zE us allow u;rw[nR];split
  .simp only[cK,List.length_singleton];omega
  .omega
def kd (us:List bI)(allow:List Int):List ar:=nR us allow (min allow.length us.length)
structure j5 where
 w:bH
 facts:List ar
 x:D
def j5.D (p:j5):Abs.D:=.agg [.sl 3 (p.w.us.map bI.D),.sl 5 (p.facts.map ar.D),p.x]
def sQ (us:List bI)(c:List Int)(t:bB):Bool:=decide (t.u<c.length)&&rD us c t
def mR (us:List bI)(c:List Int)(row:ar):Bool:=MK (fun k=>sQ us c row.terms[k]!) row.terms.length
def eJ (us:List bI)(facts:List ar)(c:List Int):Nat:=ju (fun i=>!mR us c facts[i]!) facts.length 0
def kr (us:List bI)(facts:List ar)(c:List Int):Int:=if eJ us facts c<facts.length then((eJ us facts c:Nat):Int)else-1
def ir (us:List bI)(u:Nat)(now x:Int)(rows:List ar):ar:=⟨5,((u:Nat):Int),now,x,(gP us rows[now.toNat]!.terms rows[x.toNat]!.terms ((u:Nat):Int)).1⟩
def nu (us:List bI)(u:Nat)(rc:List Int->List ar->Int×List ar)(c:List Int):Nat->Int->Int->List ar->Int×List ar
 |0,_,now,rows=>(now,rows)
 |n+1,i,now,rows=>
  if(rc (c++[i]) rows).1<0 then(-1,(rc (c++[i]) rows).2)
  else if aR us (rc (c++[i]) rows).2[(rc (c++[i]) rows).1.toNat]!.terms ((u:Nat):Int)=bN us ((u:Nat):Int)then rc (c++[i]) rows
  else if now<0 then nu us u rc c n (i+1) (rc (c++[i]) rows).1 (rc (c++[i]) rows).2
  else if aR us (ir us u now (rc (c++[i]) rows).1 (rc (c++[i]) rows).2).terms ((u:Nat):Int)=bN us ((u:Nat):Int)then
   ((((rc (c++[i]) rows).2.length:Nat):Int),(rc (c++[i]) rows).2++[ir us u now (rc (c++[i]) rows).1 (rc (c++[i]) rows).2])
  else nu us u rc c n (i+1) (((rc (c++[i]) rows).2.length:Nat):Int) ((rc (c++[i]) rows).2++[ir us u now (rc (c++[i]) rows).1 (rc (c++[i]) rows).2])
def kj (us:List bI)(facts:List ar):Nat->List Int->List ar->Int×List ar
 |0,c,rows=>if eJ us facts c<facts.length then(((rows.length:Nat):Int),rows++[facts[eJ us facts c]!])else(-1,rows)
 |f+1,c,rows=>if eJ us facts c<facts.length then(((rows.length:Nat):Int),rows++[facts[eJ us facts c]!])
  else if 3000<rows.length then(-1,rows)
  else nu us c.length (kj us facts f) c (us[c.length]!.cands.length+1) (-1) (-1) rows
def eO (us:List bI)(facts:List ar)(c:List Int)(rows:List ar):Int×List ar:=kj us facts (us.length-c.length) c rows
def kT (us:List bI)(allow:List Int):Int×List ar:=eO us (kd us allow) [] []
def jd (us:List bI)(allow:List Int):Option (List ar):=
 if(kT us allow).1<0\/0<(kT us allow).2[(kT us allow).1.toNat]!.terms.length then none else some ((kT us allow).2.take ((kT us allow).1.toNat+1))
def pC:Option (List ar)->D
 |none=>.aG
 |some l=>.sl 5 (l.map ar.D)
def bt (m:Int)(i:Nat):Bool:=(BitVec.ofInt 64 m).getLsbD i
def ofInt_toInt (x:BitVec 64):BitVec.ofInt 64 x.toInt=x:=BitVec.ofInt_toInt
def kK (a b:Int)(i:Nat):bt (il a b) i=(bt a i&&bt b i):=by
 unfold bt;rw[nU,ofInt_toInt,BitVec.getLsbD_and]
def sA (a b:Int)(i:Nat):bt (tc a b) i=(bt a i ||bt b i):=by
 unfold bt;rw[HE,ofInt_toInt,BitVec.getLsbD_or]
def Ro {m:Int}{i:Nat}(h:64<=i):bt m i=false:=BitVec.getLsbD_of_ge _ _ h
def yu {a b:Int}(ha:qp a)(hb:qp b)(h:∀i,bt a i=bt b i):a=b:=by
 have e:BitVec.ofInt 64 a=BitVec.ofInt 64 b:=by
  ext i hi
  have:=h i;unfold bt at this
  rwa [BitVec.getLsbD_eq_getElem hi,BitVec.getLsbD_eq_getElem hi]at this
 rw[<-mq ha,<-mq hb,e]
def yv (a b:Int):qp (tc a b):=by
 rw[HE];have h1:=BitVec.le_toInt (BitVec.ofInt 64 a |||BitVec.ofInt 64 b);have h2:=BitVec.toInt_lt (x:=BitVec.ofInt 64 a |||BitVec.ofInt 64 b);exact⟨by simpa using h1,by have:=h2;simp at this;omega⟩
def Ri:qp 0:=⟨bZ,bZ⟩
def lu (i:Nat):bt 0 i=false:=by unfold bt;simp
def iR {a b:Int}:il a b=0↔∀i,¬(bt a i=true/\bt b i=true):=by
 constructor
 .intro h i hi;have:=kK a b i;rw[h,lu,hi.1,hi.2]at this;exact absurd this bZ
 .intro h;refine yu (mP _ _) Ri fun i=>?_
  rw[kK,lu];have:=h i;revert this;cases bt a i<;>cases bt b i<;>simp
def BL {a b:Int}:il a b≠0↔∃i,bt a i=true/\bt b i=true:=by
 rw[Ne,iR];constructor
 .intro h;exact Classical.byContradiction fun g=>h fun i hi=>g ⟨i,hi⟩
 .rintro⟨i,hi⟩ h;exact h i hi
def Iw {a:Int}(ha:qp a):a≠0↔∃i,bt a i=true:=by
 constructor
 .intro h;refine Classical.byContradiction fun g=>h (yu ha Ri fun i=>?_)
  rw[lu];cases e:bt a i with
  |false=>rfl
  |true=>exact absurd ⟨i,e⟩ g
 .rintro⟨i,hi⟩ rfl;rw[lu]at hi;cases hi
def jg {a b:Int}(ha:qp a):il a b=a↔∀i,bt a i=true->bt b i=true:=by
 constructor
 .intro h i hi;have:=kK a b i;rw[h,hi]at this;simpa using this.symm
 .intro h;refine yu (mP _ _) ha fun i=>?_
  rw[kK];have:=h i;revert this;cases bt a i<;>simp
def Hg {a:Int}(h0:0<=a)(h1:a<=1099511627776):qp a:=⟨ae,ae⟩
def lI {k:Nat}(hk:k<=40)(i:Nat):bt (2^k) i=decide (i=k):=by
 unfold bt;rw[Gb];have hl:(2:Nat)^k<=1099511627776:=by
  have:=pD hk;rw[Gb]at this;omega
 rw[show BitVec.ofInt 64 ((2^k:Nat):Int)=BitVec.ofNat 64 (2^k)from BitVec.ofInt_natCast ..];rw[BitVec.getLsbD_ofNat,Nat.testBit_two_pow];by_cases e:k=i
 .subst e;simp;omega
 .rw[df e,Bool.and_false,df (fun h=>e h.symm)]
def Hv:∀n,n<17->∀i,i<64->bt ((2:Int)^(n+1) -1) i=decide (i<=n):=by decide+kernel
def kq {us:List bI}{u:Nat}(hu:u<us.length)(hs:∀x∈us,x.cands.length<=16)(i:Nat):bt (bN us ((u:Nat):Int)) i=decide (i<=us[u]!.cands.length):=by
 have hc:=hs _ (aj hu);rw[show bN us ((u:Nat):Int)=2^(us[u]!.cands.length+1) -1 from ai ae];rcases cT i 64 with h|h
 .exact Hv _ ae i h
 .rw[Ro h,df ae]
def De (cs:List dJ)(s:bQ)(i:Nat):∀k,k<=16->bt (jy cs s k) i=(decide (1<=i)&&decide (i<=k)&&nB s cs[i-1]!.v)
 |0,_=>by
  rw[jy,lu];by_cases h:1<=i
  .rw[df (show ¬i<=0 by omega)];simp
  .rw[df h];rfl
 |k+1,hk=>by
  have ih:=De cs s i k ae;have hr:=vn cs s k;rw[jy];split
  .rename_i h;rw[<-Dh hr.1 (by have:=fP (k+1);omega) ae,sA,ih,lI ae];by_cases e:i=k+1
   .subst e;rw[show k+1-1=k from rfl,h];simp
   .rw[df e,Bool.or_false];congr 2;rw[wH];omega
  .rename_i h;rw[ih];by_cases e:i=k+1
   .subst e;simp only[Bool.not_eq_true]at h;rw[show k+1-1=k from rfl,h];simp
   .congr 2;rw[wH];omega
def Hw {us:List bI}{w:Want}{u:Nat}(hw:w.u=((u:Nat):Int))(hu:u<us.length)(hs:∀x∈us,x.cands.length<=16)(i:Nat):bt (eP us w) i=(decide (1<=i)&&decide (i<=us[u]!.cands.length)&&nB w.s us[u]!.cands[i-1]!.v):=by
 have hc:=hs _ (aj hu);unfold eP;rw[ai ae,hw];exact De _ _ _ _ hc
def Lh {us:List bI}{w:Want}(h:w.u<0\/(us.length:Int)<=w.u):eP us w=0:=ax h
def H2 {us:List bI}{u:Int}(h:u<0\/(us.length:Int)<=u):bN us u=0:=ax h
def Hx {a b:Int}(ha:qp a)(h:il a b=a)(i:Nat):bt (b-a) i=(bt b i&& !bt a i):=by
 unfold bt;have e:BitVec.ofInt 64 a&&&BitVec.ofInt 64 b=BitVec.ofInt 64 a:=by
  rw[nU]at h;exact BitVec.eq_of_toInt_eq (by rw[h,mq ha])
 have e2:BitVec.ofInt 64 (b-a)=BitVec.ofInt 64 b-BitVec.ofInt 64 a:=by
  rw[Int.sub_eq_add_neg,BitVec.ofInt_add,BitVec.ofInt_neg,BitVec.sub_eq_add_neg]
 rw[e2];generalize BitVec.ofInt 64 a=x at e;generalize BitVec.ofInt 64 b=y at e;have hz:(y&&& ~~~x)&&&x=0#64:=by
  ext j hj;simp
 have hs:(y&&& ~~~x)+x=y:=by
  rw[BitVec.add_eq_or_of_and_eq_zero _ _ hz]
  ext j hj
  have:=b8 (fun z=>z.getLsbD j) e;simp[hj]at this;simp;cases hx:x[j]<;>cases hy:y[j]<;>simp_all
 have:y-x=y&&& ~~~x:=by
  have h2:(y&&& ~~~x)+x-x=y&&& ~~~x:=BitVec.add_sub_cancel _ _
  rwa [hs]at h2
 rw[this,BitVec.getLsbD_and];rcases cT i 64 with h|h
 .rw[BitVec.getLsbD_not];simp[h]
 .simp[h]
def Il {us:List bI}{w:Want}(hs:∀x∈us,x.cands.length<=16):il (eP us w) (bN us w.u)=eP us w:=by
 by_cases q:w.u<0\/(us.length:Int)<=w.u
 .rw[Lh q,H2 q];rfl
 .obtain⟨u,hu⟩:∃u:Nat,w.u=(u:Int):=⟨w.u.toNat,ae⟩
  have hl:u<us.length:=ae;have hb:=Cc (w:=w) hs;rw[jg (Hg hb.1 ae)];intro i hi;rw[Hw hu hl hs]at hi;rw[hu,kq hl hs];simp only[br,bC]at hi⊢;exact hi.1.2
def Df {us:List bI}{w:Want}(hs:∀x∈us,x.cands.length<=16)(i:Nat):bt (bN us w.u-eP us w) i=(bt (bN us w.u) i&& !bt (eP us w) i):=by
 have hb:=Cc (w:=w) hs;exact Hx (Hg hb.1 ae) (Il hs) i
def Dw {us:List bI}{u:Int}:decide (bN us u≠0)=(decide (0<=u)&&decide (u<us.length)):=by
 unfold bN;by_cases q:u<0\/(us.length:Int)<=u
 .rw[ax q];rcases q with q|q
  .rw[df bz,df ae];rfl
  .rw[df bz,show decide (u<us.length)=false from df ae,Bool.and_false]
 .rw[ai q];have:=fP (us[u.toNat]!.cands.length);rw[Int.pow_succ,cB ae,cB ae,cB ae];rfl
abbrev rk (us:List bI):Prop:=∀x∈us,x.cands.length<=16
abbrev Lt (l:List bB):Prop:=l.Pairwise fun a b=>a.u<b.u
def fe {us:List bI}{l:List bB}:fm us l=true↔(∀t∈l,oD us t=true)/\Lt l:=by
 unfold fm;rw[cE];constructor
 .intro h;have h1:∀j,j<l.length->oD us l[j]! =true/\(0<j->l[j-1]!.u<l[j]!.u):=by
   intro j hj;have:=h j ae hj;simp only[br,ef,fD,dc]at this;exact⟨this.1,fun h0=>ae⟩
  refine⟨fun t ht=>?_, ?_⟩
  .obtain⟨i,hi,rfl⟩:=List.mem_iff_getElem.1 ht;have:=(h1 i hi).1;simpa[hi]using this
  .rw[Lt,List.pairwise_iff_getElem];have key:∀d i,i+d+1<l.length->l[i]!.u<l[i+d+1]!.u:=by
    intro d;induction d with
    |zero=>intro i hi;exact(h1 (i+1) hi).2 ae
    |succ d ih=>
     intro i hi;have a1:=ih i ae;have a2:=(h1 (i+d+1+1) hi).2 ae;rw[show i+d+1+1-1=i+d+1 by omega]at a2;exact Int.lt_trans a1 a2
   intro i j hi hj hij;have:=key (j-i-1) i ae;rw[show i+(j-i-1)+1=j by omega]at this;simpa[hi,hj]using this
 .rintro⟨h1,h2⟩ j _ hj;rw[Lt,List.pairwise_iff_getElem]at h2;simp only[br,ef,fD,dc];refine⟨h1 _ (aj hj), ?_⟩;by_cases h0:0<j
  .right;have:=h2 (j-1) j ae hj ae;simp only[hj,getElem!_pos,show j-1<l.length by omega];omega
  .left;exact h0
def mj {us:List bI}:∀{l:List bB},Lt l->∀t∈l,aR us l t.u=t.m
 |a::r,h,t,ht=>by
  rw[Lt,List.pairwise_cons]at h;rw[aR];rcases dz.1 ht with rfl|ht
  .rw[ax rfl]
  .have:=h.1 t ht;rw[ai ae,mj h.2 t ht]
def oU {us:List bI}{v:Int}:∀{l:List bB},(∀t∈l,t.u≠v)->aR us l v=bN us v
 |[],_=>rfl
 |a::r,h=>by rw[aR,ai (h a (.head _)),oU fun t ht=>h t (.tail _ ht)]
def yJ {us:List bI}{v:Int}{l:List bB}(h:Lt l):(∃t∈l,t.u=v/\aR us l v=t.m)\/((∀t∈l,t.u≠v)/\aR us l v=bN us v):=by
 by_cases g:∃t∈l,t.u=v
 .obtain⟨t,ht,rfl⟩:=g;exact .inl ⟨t,ht,rfl,mj h t ht⟩
 .have g':∀t∈l,t.u≠v:=fun t ht e=>g ⟨t,ht,e⟩
  exact .inr ⟨g',oU g'⟩
def A9 {us:List bI}{l:List bB}{u:Int}(h:fm us l=true)(hm:aR us l u=bN us u):∀t∈l,t.u≠u:=by
 obtain⟨h1,h2⟩:=fe.1 h;rintro t ht rfl;rw[mj h2 t ht]at hm;have:=h1 t ht;simp only[oD,br,bC]at this;exact this.2 hm
def kE {us:List bI}{ms:List Int}{t:bB}:∀{i},t∈iW us ms i↔∃u,u<i/\ms[u]! ≠bN us ((u:Nat):Int)/\t=⟨((u:Nat):Int),ms[u]!⟩
 |0=>⟨fun h=>(by cases h),fun⟨u,h,_⟩=>ae⟩
 |i+1=>by
  rw[iW];split
  .rename_i h;rw[List.mem_append,kE,bG];constructor
   .rintro(⟨u,h1,h2⟩|rfl)
    .exact⟨u,ae,h2⟩
    .exact⟨i,ae,h,rfl⟩
   .rintro⟨u,h1,h2,h3⟩;rcases cT u i with h4|h4
    .exact .inl ⟨u,h4,h2,h3⟩
    .obtain rfl:u=i:=ae;exact .inr h3
  .rename_i h;rw[kE];constructor
   .rintro⟨u,h1,h2⟩;exact⟨u,ae,h2⟩
   .rintro⟨u,h1,h2,h3⟩;rcases cT u i with h4|h4
    .exact⟨u,h4,h2,h3⟩
    .obtain rfl:u=i:=ae;exact absurd h2 h
def qQ {us:List bI}{ms:List Int}:∀i,Lt (iW us ms i)
 |0=>List.Pairwise.nil
 |i+1=>by
  rw[iW];split
  .refine List.pairwise_append.2 ⟨qQ i,List.pairwise_singleton _ _,fun a ha b hb=>?_⟩;obtain rfl:=bG.1 hb;obtain⟨u,hu,_,rfl⟩:=kE.1 ha;dsimp only;omega
  .exact qQ i
def NH (us:List bI)(ms:List Int):Prop:=∀u,u<us.length->il ms[u]! (bN us ((u:Nat):Int))=ms[u]!
def DH {us:List bI}{ms:List Int}(hl:ms.length=us.length)(hs:NH us ms)(h:(iH us ms).2=true):fm us (iH us ms).1=true/\(∀u,u<us.length->aR us (iH us ms).1 ((u:Nat):Int)=ms[u]!)/\∀u,u<us.length->ms[u]! ≠0:=by
 unfold iH at h⊢;split at h
 .rename_i ha;rw[ax ha];rw[cE]at ha;have hnz:∀u,u<us.length->ms[u]! ≠0:=fun u hu=>by simpa using ha u ae ae
  refine⟨fe.2 ⟨fun t ht=>?_,qQ _⟩,fun u hu=>?_,hnz⟩
  .obtain⟨u,hu,h2,rfl⟩:=kE.1 ht;simp only[oD,br,bC];exact⟨⟨hnz u ae,hs u ae⟩,h2⟩
  .dsimp only;by_cases e:ms[u]! =bN us ((u:Nat):Int)
   .rw[oU,e];intro t ht;obtain⟨v,hv,h2,rfl⟩:=kE.1 ht;intro e2;obtain rfl:v=u:=by dsimp only at e2;omega
    exact h2 e
   .exact mj (qQ _) ⟨((u:Nat):Int),ms[u]!⟩ (kE.2 ⟨u,ae,e,rfl⟩)
 .cases h
def F1 {us:List bI}{ms:List Int}(h:∀u,u<ms.length->ms[u]! ≠0):(iH us ms).2=true:=by
 unfold iH;rw[ax (by rw[cE];intro u _ hu;simpa using h u hu)]
def Ba {us:List bI}{l:List bB}(h:fm us l=true):l.length<=us.length:=by
 obtain⟨h1,h2⟩:=fe.1 h;have h3:∀t∈l,0<=t.u/\t.u<us.length:=fun t ht=>sk (h1 t ht)
 rw[Lt,List.pairwise_iff_getElem]at h2;have key:∀i (hi:i<l.length),(i:Int)<=l[i].u:=by
  intro i;induction i with
  |zero=>intro hi;exact(h3 _ (List.getElem_mem hi)).1
  |succ i ih=>
   intro hi;have:=ih ae;have:=h2 i (i+1) ae hi ae;omega
 rcases Nat.eq_zero_or_pos l.length with h0|h0
 .omega
 .have:=key (l.length-1) ae;have:=(h3 _ (List.getElem_mem (show l.length-1<l.length by omega))).2;omega
def FO {us:List bI}{u:Nat}(hu:u<us.length):(lL us)[u]! =bN us ((u:Nat):Int):=by
 simp[lL,eV,hu]
def LZ {ms:List Int}{i u:Nat}{v:Int}(hu:u<ms.length):(ms.set i v)[u]! =if i=u then v else ms[u]! :=by
 simp only[List.getElem!_eq_getElem?_getD,List.getElem?_set];split
 .rename_i h;subst h;rw[ax hu];rfl
 .rfl
def Im {us:List bI}{l:List bB}(hs:rk us)(hin:∀t∈l,0<=t.u/\t.u<us.length):∀{n},n<=l.length->∀u,u<us.length->qp (nC us l n)[u]! /\∀i,bt (nC us l n)[u]! i=(bt (bN us ((u:Nat):Int)) i&&(l.take n).all fun t=>decide (t.u≠((u:Nat):Int)) ||bt t.m i)
 |0,_,u,hu=>by
  rw[nC,FO hu];exact⟨n8 hs,fun i=>bz⟩
 |n+1,hn,u,hu=>by
  have ih:=Im hs hin (show n<=l.length by omega) u hu;have ht:=hin _ (aj (show n<l.length by omega));rw[nC,C9,LZ (by rw[oo];exact hu)];rw[<-dW (show n<l.length by omega)];simp only[List.all_append,List.all_cons,List.all_nil,eM];by_cases e:l[n]!.u.toNat=u
  .rw[ax e,e];refine⟨mP _ _,fun i=>?_⟩;rw[kK,ih.2,df (show ¬l[n]!.u≠((u:Nat):Int)by omega),Bool.false_or,Bool.and_assoc]
  .rw[ai e,cB (show l[n]!.u≠((u:Nat):Int)by omega)];simpa using ih
def MJ {us:List bI}{l:List bB}(hs:rk us)(h:(vu us l).2=true):fm us (vu us l).1=true/\(∀t∈l,0<=t.u/\t.u<us.length)/\∀u,u<us.length->qp (aR us (vu us l).1 ((u:Nat):Int))/\aR us (vu us l).1 ((u:Nat):Int)≠0/\
  ∀i,bt (aR us (vu us l).1 ((u:Nat):Int)) i=(bt (bN us ((u:Nat):Int)) i&&l.all fun t=>decide (t.u≠((u:Nat):Int)) ||bt t.m i):=by
 unfold vu at h⊢;split at h
 .rename_i ha;rw[ax ha];rw[cE]at ha;have hin:∀t∈l,0<=t.u/\t.u<us.length:=fun t ht=>by
   obtain⟨i,hi,rfl⟩:=List.mem_iff_getElem.1 ht;have:=ha i ae hi;simpa[MG,hi]using this
  have hg:=Im hs hin (aA l.length);rw[List.take_length]at hg;have hsub:NH us (nC us l l.length):=fun u hu=>by
   rw[jg (hg u hu).1];intro i hi;rw[(hg u hu).2]at hi;simp only[br]at hi;exact hi.1
  obtain⟨h1,h2,h3⟩:=DH (oo us l _) hsub h;refine⟨h1,hin,fun u hu=>?_⟩;rw[h2 u hu];exact⟨(hg u hu).1,h3 u hu,(hg u hu).2⟩
 .cases h
def tI {l:List bB}{u:Nat}{t:bB}:t∈KP l u↔t∈l/\t.u=((u:Nat):Int):=by simp[KP]
def si {l:List bB}{t:bB}:∀{n},t∈jt l n↔t∈l/\0<=t.u/\t.u<((n:Nat):Int)
 |0=>⟨fun h=>(by cases h),fun⟨_,h1,h2⟩=>ae⟩
 |n+1=>by
  rw[jt,List.mem_append,si,tI];constructor
  .rintro(⟨h,h1,h2⟩|⟨h,h1⟩)
   .exact⟨h,h1,ae⟩
   .exact⟨h,ae,ae⟩
  .rintro⟨h,h1,h2⟩;by_cases e:t.u=((n:Nat):Int)
   .exact .inr ⟨h,e⟩
   .exact .inl ⟨h,h1,ae⟩
def A5 {l:List bB}(h:l.Pairwise fun a b=>a.u≠b.u):∀n,Lt (jt l n)
 |0=>List.Pairwise.nil
 |n+1=>by
  rw[jt];refine List.pairwise_append.2 ⟨A5 h n, ?_,fun a ha b hb=>?_⟩
  .refine List.Pairwise.imp_of_mem ?_ (h.filter fun t=>decide (t.u=((n:Nat):Int)));intro a b ha hb hab;exact absurd ((tI.1 ha).2.trans (tI.1 hb).2.symm) hab
  .have:=(si.1 ha).2.2;have:=(tI.1 hb).2;omega
def Dg {l:List bB}{u:Int}{t:bB}:t∈lJ l u↔t∈l/\t.u≠u:=by simp[lJ]
def vl {us:List bI}{u v:Int}(hv:v≠u):∀l:List bB,aR us (lJ l u) v=aR us l v
 |[]=>rfl
 |t::r=>by
  have ih:=vl (us:=us) hv r;unfold lJ at ih⊢;by_cases e:t.u=u
  .rw[List.filter_cons_of_neg (by simpa using e),ih,aR,ai ae]
  .rw[List.filter_cons_of_pos (by simpa using e),aR,aR,ih]
def vZ {us:List bI}{x y:ar}(hu:x.unit=y.unit)(h:∀v,v≠x.unit->aR us x.terms v=aR us y.terms v)(k:Nat)(mild:Bool):kW us x k mild=kW us y k mild:=by
 have h1:∀b,fB b us x (k:Int)=fB b us y (k:Int):=by
  intro b;funext w;unfold fB sS sK;rw[<-hu];by_cases e:w.u=x.unit
  .simp only[ax e]
  .simp only[ai e,h _ e]
 have h2:gF us x (k:Int)=gF us y (k:Int):=by
  funext l;unfold gF;rw[h1]
 unfold kW;rw[<-hu,h1,h2]
def one_pow:(1:Int)=2^0:=rfl
def oJ {m:Int}{k:Nat}(hk:k<=40):il m (2^k)=0↔bt m k=false:=by
 rw[iR];constructor
 .intro h;cases e:bt m k with
  |false=>rfl
  |true=>exact absurd ⟨e,by rw[lI hk];simp⟩ (h k)
 .rintro h i ⟨h1,h2⟩;rw[lI hk,bC]at h2;subst h2;rw[h]at h1;cases h1
def mQ {us:List bI}{r:ar}{mild:Bool}(hs:rk us)(hu:0<=r.unit/\r.unit<us.length):iA us r mild=true↔uO r.terms r.unit=true/\bt (aR us r.terms r.unit) 0=false/\∀k,k<us[r.unit.toNat]!.cands.length->bt (aR us r.terms r.unit) (k+1)=true->kW us r k mild=true:=by
 have hc:=hs _ (aj (show r.unit.toNat<us.length by omega));unfold iA;rw[br,br,bC,one_pow,oJ ae,cE,and_assoc];refine and_congr Iff.rfl (and_congr Iff.rfl ⟨fun h k hk hb=>?_,fun h k _ hk=>?_⟩)
 .have:=h k ae hk;rw[dZ,bC,oJ ae]at this;rcases this with h1|h1
  .rw[hb]at h1;cases h1
  .exact h1
 .rw[dZ,bC,oJ ae];cases e:bt (aR us r.terms r.unit) (k+1)with
  |false=>exact .inl rfl
  |true=>exact .inr (h k hk e)
def j7 (us:List bI)(allow:List Int)(r:ar):Prop:=fm us r.terms=true/\(r.a=0/\r.b=0)/\(0<=r.unit/\r.unit<us.length)/\
 (r.kind=1/\r.unit=0/\aR us r.terms 0=1\/(r.kind=2\/r.kind=3)/\iA us r (decide (r.kind=3))=true\/r.kind=4/\r.unit<allow.length/\il (aR us r.terms r.unit) allow[r.unit.toNat]! =0)
def H7 {us:List bI}{l:List bB}{u:Int}(h:aR us l u≠bN us u):uO l u=true:=by
 rcases n9 us u l 0 with⟨_,_,e⟩|⟨_,_,_,_,_,e⟩
 .exact absurd e h
 .exact e
def Ah (us:List bI)(x r:ar):∃n,n=48/\(gy us x r).terms=jt (⟨r.unit,tc (aR us x.terms r.unit) (aR us r.terms r.unit)⟩::lJ x.terms r.unit) n:=⟨48,rfl,by unfold gy xS;rfl⟩
def Cb (us:List bI)(x r:ar):(gy us x r).kind=x.kind/\(gy us x r).unit=x.unit/\(gy us x r).a=x.a/\(gy us x r).b=x.b:=by
 unfold gy;exact⟨by dsimp only,by dsimp only,by dsimp only,by dsimp only⟩
def Ik {us:List bI}{allow:List Int}{x r:ar}(hs:rk us)(h48:us.length<=48)(hx:j7 us allow x)(hr:j7 us allow r)(hk:r.kind=2\/r.kind=3)(hl:od x r=true):j7 us allow (gy us x r):=by
 simp only[od,br,bC]at hl;obtain⟨⟨e1,e2⟩,e3⟩:=hl;obtain⟨x1,x2,x3,x4⟩:=hx;obtain⟨r1,r2,r3,r4⟩:=hr;have xc:iA us x (decide (r.kind=3))=true:=by
  rw[<-e1];rcases x4 with h|h|h
  .omega
  .exact h.2
  .omega
 have rc:iA us r (decide (r.kind=3))=true:=by
  rcases r4 with h|h|h
  .omega
  .exact h.2
  .omega
 rw[mQ hs x3]at xc;rw[mQ hs r3]at rc;obtain⟨x5,x6⟩:=fe.1 x1;have hxin:∀t∈x.terms,0<=t.u/\t.u<us.length:=fun t ht=>sk (x5 t ht)
 have hM:(⟨r.unit,tc (aR us x.terms r.unit) (aR us r.terms r.unit)⟩::lJ x.terms r.unit:List bB).Pairwise fun a b=>a.u≠b.u:=by
  refine List.pairwise_cons.2 ⟨fun t ht=>?_, ?_⟩
  .exact fun e=>(Dg.1 ht).2 e.symm
  .exact(List.Pairwise.filter _ x6).imp fun h=>ae
 obtain⟨k1,k2,k3,k4⟩:=Cb us x r;obtain⟨n48,hn48,hT⟩:∃n,n=48/\(gy us x r).terms=jt (⟨r.unit,tc (aR us x.terms r.unit) (aR us r.terms r.unit)⟩::lJ x.terms r.unit) n:=Ah us x r
 have hlt:Lt (gy us x r).terms:=by rw[hT];exact A5 hM n48
 have hmem:∀t,t∈(gy us x r).terms↔t=⟨r.unit,tc (aR us x.terms r.unit) (aR us r.terms r.unit)⟩\/t∈x.terms/\t.u≠r.unit:=by
  intro t;rw[hT,si,dz,Dg];constructor
  .exact fun h=>h.1
  .intro h;refine⟨h, ?_⟩;rcases h with rfl|h
   .dsimp only;omega
   .have:=hxin t h.1;omega
 have hmu:aR us (gy us x r).terms r.unit=tc (aR us x.terms r.unit) (aR us r.terms r.unit):=mj hlt ⟨r.unit,_⟩ ((hmem _).2 (.inl rfl));have hmv:∀v,v≠r.unit->aR us (gy us x r).terms v=aR us x.terms v:=by
  intro v hv;rcases yJ (us:=us) (v:=v) x6 with⟨t,ht,rfl,e⟩|⟨hn,e⟩
  .rw[e];exact mj hlt t ((hmem t).2 (.inr ⟨ht,hv⟩))
  .rw[e];refine oU fun t ht=>?_
   rcases(hmem t).1 ht with rfl|h
   .exact fun e=>hv e.symm
   .exact hn t h.1
 have hmr:∀v,v≠r.unit->aR us (gy us x r).terms v=aR us r.terms v:=fun v hv=>by
  rw[hmv v hv,<-vl hv x.terms,e3,vl hv]
 have sx:=ml (u:=r.unit) hs x1;have sr:=ml (u:=r.unit) hs r1;have hb0:bt (tc (aR us x.terms r.unit) (aR us r.terms r.unit)) 0=false:=by
  rw[sA,rc.2.1,<-e2,xc.2.1];rfl
 obtain⟨n,hn⟩:∃n:Nat,r.unit=(n:Int):=⟨r.unit.toNat,ae⟩
 have hnl:n<us.length:=ae;have hfull:bt (bN us r.unit) 0=true:=by rw[hn,kq hnl hs];simp
 have hne:tc (aR us x.terms r.unit) (aR us r.terms r.unit)≠bN us r.unit:=fun e=>by rw[e,hfull]at hb0;cases hb0
 generalize gy us x r=y at*
 refine⟨fe.2 ⟨fun t ht=>?_,hlt⟩,by rw[k3,k4];exact x2,by rw[k2];exact x3,.inr (.inl ⟨ae, ?_⟩)⟩
 .rcases(hmem t).1 ht with rfl|h
  .simp only[oD,br,bC];refine⟨⟨?_, ?_⟩,hne⟩
   .rw[Iw (yv _ _)];obtain⟨t,ht,e,e5⟩:∃t∈r.terms,t.u=r.unit/\aR us r.terms r.unit=t.m:=by
     rcases yJ (us:=us) (v:=r.unit) (fe.1 r1).2 with h|⟨_,h⟩
     .exact h
     .have:=rc.2.1;rw[h,hfull]at this;cases this
    have h1:=(fe.1 r1).1 t ht;have h2:=zb h1;simp only[oD,br,bC]at h1;obtain⟨i,hi⟩:=(Iw h2).1 h1.1.1;exact⟨i,by rw[sA,e5,hi,Bool.or_true]⟩
   .rw[jg (yv _ _)];intro i hi;rw[sA,dZ]at hi;rcases hi with hi|hi
    .exact(jg sx.1).1 sx.2 i hi
    .exact(jg sr.1).1 sr.2 i hi
  .exact x5 t h.1
 .rw[k1,e1,mQ hs (by rw[k2];exact x3),k2,e2,hmu];refine⟨H7 (by rw[hmu];exact hne),hb0,fun k hk2 hb=>?_⟩;rw[sA,dZ]at hb;rcases hb with hb|hb
  .rw[<-vZ (x:=x) (y:=y) k2.symm (fun v hv=>(hmv v (by rw[<-e2];exact hv)).symm)];exact xc.2.2 k (by rw[e2];exact hk2) (by rw[e2];exact hb)
  .rw[<-vZ (x:=r) (y:=y) (by rw[k2,e2]) (fun v hv=>(hmr v hv).symm)];exact rc.2.2 k hk2 hb
def Ov {us:List bI}{allow:List Int}{rows:List ar}{r:ar}(hs:rk us)(h48:us.length<=48)(hx:∀x∈rows,j7 us allow x)(hr:j7 us allow r)(hk:r.kind=2\/r.kind=3):∀x∈m8 us rows r,j7 us allow x:=by
 unfold m8;split
 .rename_i hi;intro x h;rcases List.mem_or_eq_of_mem_set h with h|rfl
  .exact hx x h
  .refine Ik hs h48 (hx _ (aj hi)) hr hk ?_;have key:∀k i,ju (fun i=>!od rows[i]! r) k i<i+k->od rows[ju (fun i=>!od rows[i]! r) k i]! r=true:=by
    intro k;induction k with
    |zero=>intro i h;rw[ju]at h;omega
    |succ k ih=>
     intro i h;rw[ju]at h⊢;split at h
     .rename_i h2;rw[ax h2];exact ih _ ae
     .rename_i h2;rw[ai h2];simpa using h2
   exact key _ _ (by rw[aB];exact hi)
 .intro x h;rcases List.mem_append.1 h with h|h
  .exact hx x h
  .obtain rfl:=bG.1 h;exact hr
section
def xh {us:List bI}{allow:List Int}{u k:Nat}{l:List Want}{bar:Bool}(hs:rk us)(hu:u<us.length)(hk:k<us[u]!.cands.length)
  (hl:if bar=true then ∃w∈us[u]!.cands[k]!.bars,l=[w]else l∈us[u]!.cands[k]!.needs) (h:(en us u k l bar).2=true):j7 us allow ⟨if bar=true then 3 else 2,((u:Nat):Int),0,0,(en us u k l bar).1⟩:=by
 have hc:=hs _ (aj hu);unfold en at h⊢;obtain⟨g1,g2,g3⟩:=MJ hs h;obtain⟨m1,m2,m3⟩:=g3 u hu;have hbit:∀i,bt (aR us (vu us (fG us u k l bar)).1 ((u:Nat):Int)) i=true->i=k+1:=by
  intro i hi;rw[m3,br,List.all_eq_true]at hi;have:=hi.2 _ (List.mem_cons_self ..);simp only[ne_eq,not_true_eq_false,decide_false,Bool.false_or,kK,lI (show k+1<=40 by omega),br,bC]at this;exact this.2
 obtain⟨i,hi⟩:=(Iw m1).1 m2;obtain rfl:=hbit i hi;have hall:∀w∈l,w.u=((u:Nat):Int)->bt (if bar=true then eP us w else bN us w.u-eP us w) (k+1)=true:=by
  intro w hw e;rw[m3,br,List.all_eq_true]at hi;have:=hi.2 ⟨w.u,if bar=true then eP us w else bN us w.u-eP us w⟩ (List.mem_cons_of_mem _ (eN.2 ⟨w,hw,rfl⟩));simpa[e]using this
 have hoth:∀w∈l,0<=w.u/\w.u<us.length/\qp (aR us (vu us (fG us u k l bar)).1 w.u)/\∀i,bt (aR us (vu us (fG us u k l bar)).1 w.u) i=true->bt (if bar=true then eP us w else bN us w.u-eP us w) i=true:=by
  intro w hw;have hm:(⟨w.u,if bar=true then eP us w else bN us w.u-eP us w⟩:bB)∈fG us u k l bar:=List.mem_cons_of_mem _ (eN.2 ⟨w,hw,rfl⟩);have hin:=g2 _ hm;dsimp only at hin;obtain⟨v,hv⟩:∃v:Nat,w.u=(v:Int):=⟨w.u.toNat,ae⟩
  obtain⟨n1,_,n3⟩:=g3 v ae;refine⟨hin.1,hin.2,by rw[hv];exact n1,fun i hi=>?_⟩;rw[hv,n3,br,List.all_eq_true]at hi;have:=hi.2 _ hm;simpa[hv]using this
 have hf0:bt (bN us ((u:Nat):Int)) 0=true:=by rw[kq hu hs];simp
 have hb0:bt (aR us (vu us (fG us u k l bar)).1 ((u:Nat):Int)) 0=false:=by
  cases e:bt (aR us (vu us (fG us u k l bar)).1 ((u:Nat):Int)) 0 with
  |false=>rfl
  |true=>have:=hbit 0 e;omega
 have hu':(0:Int)<=((u:Nat):Int)/\((u:Nat):Int)<us.length:=ae;refine⟨g1,⟨rfl,rfl⟩,hu',.inr (.inl ⟨by cases bar<;>simp, ?_⟩)⟩;rw[mQ hs hu'];dsimp only;refine⟨H7 (fun e=>by rw[e,hf0]at hb0;cases hb0),hb0,fun k2 hk2 hb=>?_⟩;obtain rfl:k2=k:=by have:=hbit _ hb;omega
 unfold kW;dsimp only;rw[Int.toNat_natCast];cases bar with
 |false=>
  simp only[gV,aE]at hl hall hoth⊢;rw[ai bZ,List.any_eq_true];refine⟨l,hl, ?_⟩;unfold gF;rw[ef,List.any_eq_false];intro w hw;simp only[fB,gV,aE,ef,Bool.not_eq_false];unfold sK;dsimp only;split
  .rename_i e;rw[bC,show((k2:Int)+1).toNat=k2+1 from rfl,oJ ae];have:=hall w hw e;rw[Df hs,br,ef]at this;exact this.2
  .rename_i e;rw[bC,iR];rintro i ⟨h1,h2⟩;have:=(hoth w hw).2.2.2 i h2;rw[Df hs,h1]at this;simp at this
 |true=>
  simp only[aF]at hl hall hoth⊢;obtain⟨w,hw,rfl⟩:=hl;rw[ax bZ,List.any_eq_true];refine⟨w,hw, ?_⟩;simp only[fB,aF];unfold sS;dsimp only;split
  .rename_i e;rw[bC,show((k2:Int)+1).toNat=k2+1 from rfl,Ne,oJ ae,hall w (.head _) e];exact Bool.noConfusion
  .rename_i e;obtain⟨_,_,n1,n2⟩:=hoth w (.head _);rw[bC,Mx n1,jg n1];exact n2
abbrev kg (us:List bI)(allow:List Int)(rows:List ar):Prop:=∀x∈rows,j7 us allow x
section
variable {us:List bI} {allow:List Int}
def Hm {rows:List ar}{kind u:Int}{c:List bB×Bool}(hs:rk us)(h48:us.length<=48)(hk:kind=2\/kind=3)(hx:kg us allow rows)(hr:c.2=true->j7 us allow ⟨kind,u,0,0,c.1⟩):kg us allow (wM us rows kind u c):=by
 unfold wM;split
 .rename_i h;exact Ov hs h48 hx (hr h) hk
 .exact hx
def vB (hs:rk us)(h48:us.length<=48){u i:Nat}(hu:u<us.length)(hi:i<us[u]!.cands.length){rows:List ar}(hx:kg us allow rows):∀{k},k<=us[u]!.cands[i]!.needs.length->kg us allow (dY us u i us[u]!.cands[i]!.needs rows k)
 |0,_=>hx
 |k+1,hk=>Hm hs h48 (.inl rfl) (vB hs h48 hu hi hx ae) fun h=>xh (bar:=false) hs hu hi (by simpa using aj (show k<us[u]!.cands[i]!.needs.length by omega)) h
def yr (hs:rk us)(h48:us.length<=48){u i:Nat}(hu:u<us.length)(hi:i<us[u]!.cands.length){rows:List ar}(hx:kg us allow rows):∀{k},k<=us[u]!.cands[i]!.bars.length->kg us allow (jq us u i us[u]!.cands[i]!.bars rows k)
 |0,_=>hx
 |k+1,hk=>Hm hs h48 (.inr rfl) (yr hs h48 hu hi hx ae) fun h=>xh (bar:=true) hs hu hi ⟨_,aj (show k<us[u]!.cands[i]!.bars.length by omega),rfl⟩ h
def uD (hs:rk us)(h48:us.length<=48){u:Nat}(hu:u<us.length){rows:List ar}(hx:kg us allow rows):∀{i},i<=us[u]!.cands.length->kg us allow (dL us u us[u]!.cands rows i)
 |0,_=>hx
 |i+1,hi=>yr hs h48 hu ae (vB hs h48 hu ae (uD hs h48 hu hx ae) (aA _)) (aA _)
def LM (hs:rk us)(h0:0<us.length)(h1:1<=us[0]!.cands.length):j7 us allow RZ:=by
 have hc:=hs _ (aj h0);have hI:qp 1:=⟨bZ,bZ⟩;have hb1:∀i,bt 1 i=decide (i=0):=fun i=>by rw[one_pow];exact lI ae i
 refine⟨fe.2 ⟨fun t ht=>?_,List.pairwise_singleton _ _⟩,⟨rfl,rfl⟩,⟨Int.le_refl 0,by show(0:Int)<us.length;omega⟩,.inl ⟨rfl,rfl,rfl⟩⟩;obtain rfl:=bG.1 ht;simp only[oD,br,bC];have hf:=kq h0 hs;refine⟨⟨bZ, ?_⟩,fun e=>?_⟩
 .rw[jg hI];intro i hi;rw[hb1,bC]at hi;subst hi;have:=hf 0;rw[show((0:Nat):Int)=0 from rfl]at this;rw[this];simp
 .have:=hf 1;rw[show((0:Nat):Int)=0 from rfl,<-e,hb1,df bZ]at this;exact absurd h1 (of_decide_eq_false this.symm)
def wj (hs:rk us)(h48:us.length<=48)(h0:0<us.length)(h1:1<=us[0]!.cands.length):∀{u},u<=us.length->kg us allow (dq us u)
 |0,_=>fun x hx=>by obtain rfl:=bG.1 hx;exact LM hs h0 h1
 |u+1,hu=>uD hs h48 ae (wj hs h48 h0 h1 ae) (aA _)
def KO {u:Nat}(hs:rk us)(hu:u<us.length)(ha:u<allow.length)(h:(ux us allow u).2=true):j7 us allow ⟨4,((u:Nat):Int),0,0,(ux us allow u).1⟩:=by
 unfold ux at h⊢;obtain⟨g1,g2,g3⟩:=MJ hs h;obtain⟨m1,m2,m3⟩:=g3 u hu;refine⟨g1,⟨rfl,rfl⟩,e8,.inr (.inr ⟨rfl,e8, ?_⟩)⟩;dsimp only;rw[Int.toNat_natCast,iR];rintro i ⟨h1,h2⟩;rw[m3,br,List.all_eq_true]at h1;have:=h1.2 _ (.head _);simp only[ne_eq,not_true_eq_false,decide_false,Bool.false_or]at this;rw[Hx (mP _ _) (by rw[jg (mP _ _)];intro i hi;rw[kK,br]at hi;exact hi.1),kK,h2]at this;simp at this
def Db (hs:rk us)(h48:us.length<=48)(h0:0<us.length)(h1:1<=us[0]!.cands.length):∀{u},u<=us.length->u<=allow.length->kg us allow (nR us allow u)
 |0,_,_=>wj hs h48 h0 h1 (aA _)
 |u+1,hu,ha=>by
  have ih:=Db hs h48 h0 h1 (show u<=us.length by omega) (show u<=allow.length by omega);rw[nR];split
  .rename_i h;intro x hx;rcases List.mem_append.1 hx with hx|hx
   .exact ih x hx
   .obtain rfl:=bG.1 hx;exact KO hs ae ae h
  .exact ih
def zS (hs:rk us)(h48:us.length<=48)(h0:0<us.length)(h1:1<=us[0]!.cands.length):kg us allow (kd us allow):=Db hs h48 h0 h1 (Nat.min_le_right _ _) (Nat.min_le_left _ _)
end
end
def G8 (us:List bI)(c:List Int):Prop:=c.length<=us.length/\∀u,u<c.length->-1<=c[u]! /\c[u]! <us[u]!.cands.length
def vb (c:List Int)(u:Nat):Nat:=(c[u]! +1).toNat
def JR {us:List bI}{c:List Int}{u:Nat}(hs:rk us)(hc:G8 us c)(hu:u<c.length):jG us c ((u:Nat):Int)=2^vb c u/\vb c u<=us[u]!.cands.length:=by
 have h1:=hc.2 u hu;have h2:=hc.1;have h3:=hs _ (aj (show u<us.length by omega));unfold jG vb;rw[ai ae,Int.toNat_natCast,ai ae];exact⟨rfl,ae⟩
def Rl (us:List bI)(c:List Int)(l:List bB):Prop:=fm us l=true/\(∀t∈l,t.u<c.length)/\∀u,u<c.length->bt (aR us l ((u:Nat):Int)) (vb c u)=true
def FF {us:List bI}{c:List Int}{r:ar}(hs:rk us)(hc:G8 us c)(hv:fm us r.terms=true)(h:mR us c r=true):Rl us c r.terms:=by
 unfold mR at h;rw[DO]at h;have ht:∀t∈r.terms,sQ us c t=true:=fun t ht=>by
  obtain⟨i,hi,rfl⟩:=List.mem_iff_getElem.1 ht;have:=h i hi;simpa[hi]using this
 obtain⟨h1,h2⟩:=fe.1 hv;have hlt:∀t∈r.terms,t.u<c.length:=fun t h3=>by
  have:=ht t h3;simp only[sQ,br,bC]at this;exact this.1
 refine⟨hv,hlt,fun u hu=>?_⟩;obtain⟨v1,v2⟩:=JR hs hc hu;rcases yJ (us:=us) (v:=((u:Nat):Int)) h2 with⟨t,h3,e,e2⟩|⟨_,e2⟩
 .rw[e2];have:=ht t h3;simp only[sQ,rD,br,bC]at this;rw[e,v1,HB]at this;have h16:=hs _ (aj (show u<us.length by have:=hc.1;omega));cases e3:bt t.m (vb c u)with
  |true=>rfl
  |false=>exact absurd ((oJ ae).2 e3) this.2
 .rw[e2,kq (by have:=hc.1;omega) hs];simpa using v2
def fq (w:bH)(allow:List Int)(rows:List ar):Prop:=∀i,i<rows.length->dD ⟨w,allow,rows⟩ ((i:Nat):Int)=true
def q5 {rows:List ar}{n j:Nat}(h:j<n):(rows.take n)[j]! =rows[j]! :=by
 simp[List.getElem!_eq_getElem?_getD,List.getElem?_take,h]
def uW {w:bH}{allow:List Int}{rows:List ar}{n i:Nat}(hi:i<n)(hn:n<=rows.length):dD ⟨w,allow,rows.take n⟩ ((i:Nat):Int)=dD ⟨w,allow,rows⟩ ((i:Nat):Int):=by
 have hg:=q5 (rows:=rows) hi;unfold dD;simp only[Int.toNat_natCast,hg,dM];rw[cB (show((i:Nat):Int)<((min n rows.length:Nat):Int)by omega),cB (show((i:Nat):Int)<(rows.length:Int)by omega)];congr 1;unfold lA;split
 .unfold nS;dsimp only;by_cases ha:0<=rows[i]!.a/\rows[i]!.a<((i:Nat):Int)
  .by_cases hb:0<=rows[i]!.b/\rows[i]!.b<((i:Nat):Int)
   .rw[q5 (show rows[i]!.a.toNat<n by omega),q5 (show rows[i]!.b.toNat<n by omega)]
   .rw[show(decide (0<=rows[i]!.b)&&decide (rows[i]!.b<((i:Nat):Int)))=false by rw[fD,dc,dc];omega];simp
  .rw[show(decide (0<=rows[i]!.a)&&decide (rows[i]!.a<((i:Nat):Int)))=false by rw[fD,dc,dc];omega];simp
 .rfl
def Gy {w:bH}{allow:List Int}{rows:List ar}{n:Nat}(h:fq w allow rows)(hn:n<=rows.length):fq w allow (rows.take n):=by
 intro i hi;rw[dM]at hi;rw[uW ae hn];exact h i ae
def AY {w:bH}{allow:List Int}{rows:List ar}{r:ar}(h:fq w allow rows)(hr:dD ⟨w,allow,rows++[r]⟩ ((rows.length:Nat):Int)=true):fq w allow (rows++[r]):=by
 intro i hi;rw[cK,List.length_singleton]at hi;rcases cT i rows.length with h1|h1
 .rw[<-uW (n:=rows.length) h1 bz,List.take_left];exact h i h1
 .obtain rfl:i=rows.length:=ae;exact hr
def nb {w:bH}{allow:List Int}{rows:List ar}(h:fq w allow rows){i:Nat}(hi:i<rows.length):fm w.us rows[i]!.terms=true:=by
 have:=h i hi;unfold dD at this;simp only[br,Int.toNat_natCast]at this;exact this.1.2
def ma {rows:List ar}{r:ar}:(rows++[r])[rows.length]! =r:=by simp[List.getElem!_eq_getElem?_getD]
def tG {rows more:List ar}{i:Nat}(h:i<rows.length):(rows++more)[i]! =rows[i]! :=by
 simp[List.getElem!_eq_getElem?_getD,List.getElem?_append_left h]
def BN {w:bH}{allow:List Int}{rows:List ar}{r:ar}(hr:j7 w.us allow r):dD ⟨w,allow,rows++[r]⟩ ((rows.length:Nat):Int)=true:=by
 obtain⟨h1,⟨h2,h3⟩,h4,h5⟩:=hr;unfold dD;simp only[Int.toNat_natCast,ma,cK,List.length_singleton,br,bC];refine⟨⟨⟨ae,ae⟩,h1⟩, ?_⟩;unfold lA;have hfn:bN w.us r.unit≠0:=by
  have:=Dw (us:=w.us) (u:=r.unit);rw[cB h4.1,cB h4.2]at this;exact of_decide_eq_true this
 rcases h5 with⟨k,h6,h7⟩|⟨k,h6⟩|⟨k,h6,h7⟩
 .rw[ai ae,ax k,h2,h3,h6,h7];rfl
 .rw[ai ae,ai ae,ax k,h2,h3,h6];rfl
 .rw[ai ae,ai ae,ai ae,ax k,h2,h3];unfold uw;simp only[br,bC,decide_true,aP];exact⟨⟨hfn,h6⟩,h7⟩
def pS {us:List bI}{a b:List bB}{unit:Int}{u:Nat}(hu:u<us.length):(eW us a b unit us.length)[u]! =ki us a b unit u:=by
 simp[eW,List.getElem!_eq_getElem?_getD,hu]
def DC {us:List bI}{a b:List bB}{u:Nat}(hs:rk us)(hu:u<us.length)(ha:fm us a=true)(hb:fm us b=true)(hn:∀v,v<us.length->ki us a b ((u:Nat):Int) v≠0):
  fm us (gP us a b ((u:Nat):Int)).1=true/\∀v,v<us.length->aR us (gP us a b ((u:Nat):Int)).1 ((v:Nat):Int)=ki us a b ((u:Nat):Int) v:=by
 unfold gP;rw[ai ae];have hsub:NH us (eW us a b ((u:Nat):Int) us.length):=by
  intro v hv;rw[pS hv];have sa:=ml (u:=((v:Nat):Int)) hs ha;have sb:=ml (u:=((v:Nat):Int)) hs hb;unfold ki;split
  .rw[jg (yv _ _)];intro i hi;rw[sA,dZ]at hi;rcases hi with hi|hi
   .exact(jg sa.1).1 sa.2 i hi
   .exact(jg sb.1).1 sb.2 i hi
  .rw[jg (mP _ _)];intro i hi;rw[kK,br]at hi;exact(jg sa.1).1 sa.2 i hi.1
 obtain⟨g1,g2,_⟩:=DH (pT us a b _ _) hsub (F1 fun v hv=>by
  rw[pT]at hv;rw[pS hv];exact hn v hv)
 exact⟨g1,fun v hv=>by rw[g2 v hv,pS hv]⟩
def HD (m:Int):FD m m=0:=by
 rw[HC,D3]
 ext i hi;simp
def BK {w:bH}{allow:List Int}{rows:List ar}{u:Nat}{now x:Int}(hs:rk w.us)(hu:u<w.us.length)(hR:fq w allow rows)(h1:0<=now/\now<rows.length)(h2:0<=x/\x<rows.length)
  (hn:∀v,v<w.us.length->ki w.us rows[now.toNat]!.terms rows[x.toNat]!.terms ((u:Nat):Int) v≠0):dD ⟨w,allow,rows++[ir w.us u now x rows]⟩ ((rows.length:Nat):Int)=true:=by
 have va:=nb hR (show now.toNat<rows.length by omega);have vx:=nb hR (show x.toNat<rows.length by omega);obtain⟨j1,j2⟩:=DC hs hu va vx hn;unfold dD;simp only[Int.toNat_natCast,ma,cK,List.length_singleton,br,bC];refine⟨⟨⟨ae,ae⟩,j1⟩, ?_⟩;unfold lA;rw[ax (show(ir w.us u now x rows).kind=5 from rfl)];unfold nS;simp only[br,bC];rw[show(ir w.us u now x rows).a=now from rfl,show(ir w.us u now x rows).b=x from rfl,tG (show now.toNat<rows.length by omega),tG (show x.toNat<rows.length by omega)];refine⟨⟨⟨⟨?_,ae⟩,ae⟩,va,vx⟩, ?_⟩
 .have:=Dw (us:=w.us) (u:=((u:Nat):Int));rw[cB (show(0:Int)<=((u:Nat):Int)by omega),cB (show((u:Nat):Int)<w.us.length by omega)]at this;exact of_decide_eq_true this
 .rw[cE];intro v _ hv;unfold qw;rw[bC,show(ir w.us u now x rows).terms=(gP w.us rows[now.toNat]!.terms rows[x.toNat]!.terms ((u:Nat):Int)).1 from rfl,j2 v hv];exact HD _
def zw (us:List bI)(c:List Int)(k:Nat)(l:List bB):Prop:=fm us l=true/\(∀t∈l,t.u<c.length+1)/\(∀u,u<c.length->bt (aR us l ((u:Nat):Int)) (vb c u)=true)/\∀j,j<k->bt (aR us l ((c.length:Nat):Int)) j=true
def yM {us:List bI}{c:List Int}{k:Nat}{l:List bB}(h:zw us c k l)(hm:aR us l ((c.length:Nat):Int)=bN us ((c.length:Nat):Int)):Rl us c l:=by
 obtain⟨h1,h2,h3,_⟩:=h;refine⟨h1,fun t ht=>?_,h3⟩;have:=h2 t ht;have:=A9 h1 hm t ht;omega
def Iq {us:List bI}{c:List Int}{l:List bB}(hs:rk us)(hc:c.length<us.length)(h:zw us c (us[c.length]!.cands.length+1) l):Rl us c l:=by
 refine yM h (yu (ml hs h.1).1 (n8 hs) fun i=>?_);rw[kq hc hs];have sm:=ml (u:=((c.length:Nat):Int)) hs h.1;by_cases hi:i<=us[c.length]!.cands.length
 .rw[h.2.2.2 i ae,cB hi]
 .rw[df hi];cases e:bt (aR us l ((c.length:Nat):Int)) i with
  |false=>rfl
  |true=>
   have:=(jg sm.1).1 sm.2 i e;rw[kq hc hs,bC]at this;exact absurd this hi
def O3 {c:List Int}{i:Int}{u:Nat}(h:u<c.length):vb (c++[i]) u=vb c u:=by
 unfold vb;rw[List.getElem!_eq_getElem?_getD,List.getElem?_append_left h,<-List.getElem!_eq_getElem?_getD]
def Mc {c:List Int}{i:Int}:vb (c++[i]) c.length=(i+1).toNat:=by
 unfold vb;simp[List.getElem!_eq_getElem?_getD]
def JB {us:List bI}{c:List Int}{i:Int}{l:List bB}(h:Rl us (c++[i]) l):fm us l=true/\(∀t∈l,t.u<c.length+1)/\(∀u,u<c.length->bt (aR us l ((u:Nat):Int)) (vb c u)=true)/\bt (aR us l ((c.length:Nat):Int)) (i+1).toNat=true:=by
 obtain⟨h1,h2,h3⟩:=h;refine⟨h1,fun t ht=>?_,fun u hu=>?_, ?_⟩
 .have:=h2 t ht;simp only[cK,List.length_singleton]at this;omega
 .have:=h3 u eB;rwa [O3 hu]at this
 .have:=h3 c.length bz;rwa [Mc]at this
def zq (w:bH)(allow:List Int)(c:List Int)(rows:List ar)(r:Int×List ar):Prop:=fq w allow r.2/\(∃more,r.2=rows++more)/\-1<=r.1/\(0<=r.1->r.1<r.2.length/\Rl w.us c r.2[r.1.toNat]!.terms)
def xu {w:bH}{allow:List Int}{rows:List ar}{c:List Int}{k:Nat}{now x:Int}(hs:rk w.us)(hc:c.length<w.us.length)(hcok:G8 w.us c)(hR:fq w allow rows)(h1:0<=now/\now<rows.length)(h2:0<=x/\x<rows.length)(hk:0<k)
  (ha:zw w.us c k rows[now.toNat]!.terms) (hb:fm w.us rows[x.toNat]!.terms=true/\(∀t∈rows[x.toNat]!.terms,t.u<c.length+1)/\(∀u,u<c.length->bt (aR w.us rows[x.toNat]!.terms ((u:Nat):Int)) (vb c u)=true)/\bt (aR w.us rows[x.toNat]!.terms ((c.length:Nat):Int)) k=true):
  fq w allow (rows++[ir w.us c.length now x rows])/\zw w.us c (k+1) (ir w.us c.length now x rows).terms:=by
 obtain⟨a1,a2,a3,a4⟩:=ha;obtain⟨b1,b2,b3,b4⟩:=hb;have hm:∀v,v<w.us.length->(v<c.length->bt (ki w.us rows[now.toNat]!.terms rows[x.toNat]!.terms ((c.length:Nat):Int) v) (vb c v)=true)/\(v=c.length->∀j,j<k+1->bt (ki w.us rows[now.toNat]!.terms rows[x.toNat]!.terms ((c.length:Nat):Int) v) j=true)/\(c.length<v->ki w.us rows[now.toNat]!.terms rows[x.toNat]!.terms ((c.length:Nat):Int) v=bN w.us ((v:Nat):Int)):=by
  intro v hv;refine⟨fun h=>?_,fun h j hj=>?_,fun h=>?_⟩
  .unfold ki;rw[ai ae,kK,a3 v h,b3 v h];rfl
  .subst h;unfold ki;rw[ax rfl,sA];rcases cT j k with h|h
   .rw[a4 j h];rfl
   .obtain rfl:j=k:=ae;rw[b4,Bool.or_true]
  .unfold ki;rw[ai ae,oU (fun t ht=>by have:=a2 t ht;omega),oU (fun t ht=>by have:=b2 t ht;omega)];exact zJ (n8 hs)
 have hnz:∀v,v<w.us.length->ki w.us rows[now.toNat]!.terms rows[x.toNat]!.terms ((c.length:Nat):Int) v≠0:=by
  intro v hv e;obtain⟨g1,g2,g3⟩:=hm v hv;rcases Nat.lt_trichotomy v c.length with h|h|h
  .have:=g1 h;rw[e,lu]at this;cases this
  .have:=g2 h 0 ae;rw[e,lu]at this;cases this
  .have:=g3 h;have h0:bt (bN w.us ((v:Nat):Int)) 0=true:=by rw[kq hv hs];simp
   rw[<-this,e,lu]at h0;cases h0
 obtain⟨j1,j2⟩:=DC hs hc a1 b1 hnz;refine⟨AY hR (BK hs hc hR h1 h2 hnz),j1,fun t ht=>?_,fun u hu=>?_,fun j hj=>?_⟩
 .have hin:=sk ((fe.1 j1).1 t ht);refine Classical.byContradiction fun hge=>?_
  obtain⟨v,hv⟩:∃v:Nat,t.u=(v:Int):=⟨t.u.toNat,ae⟩
  have e:=j2 v ae;rw[(hm v ae).2.2 ae]at e;exact A9 j1 e t ht hv
 .show bt (aR w.us (gP w.us _ _ _).1 _) _=true;rw[j2 u ae];exact(hm u ae).1 hu
 .show bt (aR w.us (gP w.us _ _ _).1 _) _=true;rw[j2 c.length hc];exact(hm c.length hc).2.1 rfl j hj
def za {w:bH}{allow:List Int}{c:List Int}{rc:List Int->List ar->Int×List ar}(hs:rk w.us)(hc:c.length<w.us.length)(hcok:G8 w.us c)
  (hrc:∀(i:Int) (rows:List ar),-1<=i->i<w.us[c.length]!.cands.length->fq w allow rows->zq w allow (c++[i]) rows (rc (c++[i]) rows)):
  ∀(n k:Nat) (i now:Int) (rows:List ar),n+k=w.us[c.length]!.cands.length+1->i=((k:Nat):Int) -1->fq w allow rows->(k=0/\now=-1\/0<k/\(0<=now/\now<rows.length)/\zw w.us c k rows[now.toNat]!.terms)->zq w allow c rows (nu w.us c.length rc c n i now rows)
 |0,k,i,now,rows,hnk,hi,hR,hN=>by
  rw[nu];refine⟨hR,⟨[],bz⟩, ?_,fun h0=>?_⟩
  .rcases hN with h|h<;>dsimp only<;>omega
  .dsimp only at h0⊢;rcases hN with⟨_,h⟩|⟨_,h1,h2⟩
   .omega
   .obtain rfl:k=w.us[c.length]!.cands.length+1:=ae;exact⟨h1.2,Iq hs hc h2⟩
 |n+1,k,i,now,rows,hnk,hi,hR,hN=>by
  have hr:=hrc i rows ae ae hR;rw[nu];generalize rc (c++[i]) rows=r at hr⊢;obtain⟨e1,⟨more,e2⟩,e3,e4⟩:=hr;have hlen:r.2.length=rows.length+more.length:=by rw[e2,cK]
  split
  .exact⟨e1,⟨more,e2⟩,e8,fun h=>by dsimp only at h;omega⟩
  .rename_i h0;obtain⟨e5,e6⟩:=e4 ae;have e7:=JB e6;have hkk:(i+1).toNat=k:=ae;rw[hkk]at e7;split
   .rename_i hf;refine⟨e1,⟨more,e2⟩,e3,fun _=>⟨e5,yM (k:=0) ⟨e7.1,e7.2.1,e7.2.2.1,fun j hj=>ae⟩ hf⟩⟩
   .split
    .rename_i hn;obtain⟨rfl,_⟩:k=0/\now=-1:=by
      rcases hN with h|h
      .exact h
      .omega
     have hj0:∀j,j<1->bt (aR w.us r.2[r.1.toNat]!.terms ((c.length:Nat):Int)) j=true:=fun j hj=>by
      obtain rfl:j=0:=ae;exact e7.2.2.2
     have:=za hs hc hcok hrc n 1 (i+1) r.1 r.2 ae ae e1 (.inr ⟨ae,⟨ae,e5⟩,e7.1,e7.2.1,e7.2.2.1,hj0⟩);obtain⟨g1,⟨m2,g2⟩,g3,g4⟩:=this;exact⟨g1,⟨more++m2,by rw[g2,e2,lW]⟩,g3,g4⟩
    .rename_i hn;obtain⟨hk,hnw,hnr⟩:0<k/\(0<=now/\now<rows.length)/\zw w.us c k rows[now.toNat]!.terms:=by
      rcases hN with h|h
      .omega
      .exact h
     have hget:r.2[now.toNat]! =rows[now.toNat]! :=by rw[e2];exact tG ae
     obtain⟨j1,j2⟩:=xu (x:=r.1) (now:=now) hs hc hcok e1 ⟨hnw.1,ae⟩ ⟨ae,e5⟩ hk (by rw[hget];exact hnr) e7;split
     .rename_i hf;refine⟨j1,⟨more++[ir w.us c.length now r.1 r.2],by dsimp only;rw[e2,lW,<-e2]⟩,e8,fun _=>⟨by simp only[cK,List.length_singleton];omega, ?_⟩⟩;dsimp only;rw[Int.toNat_natCast,ma];exact yM j2 hf
     .have:=za hs hc hcok hrc n (k+1) (i+1) (((r.2.length:Nat):Int)) (r.2++[ir w.us c.length now r.1 r.2]) ae ae j1 (.inr ⟨ae,⟨ae,by simp only[cK,List.length_singleton];omega⟩,by rw[Int.toNat_natCast,ma];exact j2⟩);obtain⟨g1,⟨m2,g2⟩,g3,g4⟩:=this;exact⟨g1,⟨more++([ir w.us c.length now r.1 r.2]++m2),by rw[g2,<-lW rows,<-e2,lW]⟩,g3,g4⟩
def Dc {f:Nat->Bool}:∀k i,ju f k i<i+k->f (ju f k i)=false
 |0,i,h=>by rw[ju]at h;omega
 |k+1,i,h=>by
  rw[ju]at h⊢;split at h
  .rename_i h2;rw[ax h2];exact Dc k (i+1) ae
  .rename_i h2;rw[ai h2];simpa using h2
def zR {w:bH}{allow:List Int}{facts:List ar}{c:List Int}{rows:List ar}(hs:rk w.us)(hf:kg w.us allow facts)(hc:G8 w.us c)(hR:fq w allow rows)(h:eJ w.us facts c<facts.length):zq w allow c rows (((rows.length:Nat):Int),rows++[facts[eJ w.us facts c]!]):=by
 have hF:=hf _ (aj h);refine⟨AY hR (BN hF),⟨_,rfl⟩,e8,fun _=>⟨by simp only[cK,List.length_singleton];omega, ?_⟩⟩;dsimp only;rw[Int.toNat_natCast,ma];refine FF hs hc hF.1 ?_;have:=Dc (f:=fun i=>!mR w.us c facts[i]!) facts.length 0 (by unfold eJ at h;omega);unfold eJ;simpa using this
def G8.app {us:List bI}{c:List Int}{i:Int}(h:G8 us c)(hl:c.length<us.length)(h1:-1<=i)(h2:i<us[c.length]!.cands.length):G8 us (c++[i]):=by
 refine⟨eB,fun u hu=>?_⟩;rw[cK,List.length_singleton]at hu;rcases cT u c.length with h3|h3
 .rw[List.getElem!_eq_getElem?_getD,List.getElem?_append_left h3,<-List.getElem!_eq_getElem?_getD];exact h.2 u h3
 .obtain rfl:u=c.length:=ae;simp only[List.getElem!_eq_getElem?_getD,List.getElem?_concat_length,Option.getD_some]at*
  exact⟨h1,h2⟩
def yP {w:bH}{allow:List Int}{facts:List ar}(hs:rk w.us)(hf:kg w.us allow facts):∀f c rows,c.length+f=w.us.length->G8 w.us c->fq w allow rows->zq w allow c rows (kj w.us facts f c rows)
 |0,c,rows,hl,hc,hR=>by
  rw[kj];split
  .rename_i h;exact zR hs hf hc hR h
  .exact⟨hR,⟨[],bz⟩,e8,fun h=>by dsimp only at h;omega⟩
 |f+1,c,rows,hl,hc,hR=>by
  rw[kj];split
  .rename_i h;exact zR hs hf hc hR h
  .split
   .exact⟨hR,⟨[],bz⟩,e8,fun h=>by dsimp only at h;omega⟩
   .exact za hs ae hc (fun i rows h1 h2 hR2=>yP hs hf f (c++[i]) rows eB (hc.app ae h1 h2) hR2) _ 0 (-1) (-1) rows ae ae hR (.inl ⟨rfl,rfl⟩)
def PW (w:bH):Prop:=rk w.us/\w.us.length<=48/\0<w.us.length/\1<=w.us[0]!.cands.length
def Ax {w:bH}{allow:List Int}{l:List ar}(hw:PW w)(h:jd w.us allow=some l):fq w allow l/\0<l.length/\l[l.length-1]!.terms=[]:=by
 obtain⟨hs,h48,h0,h1⟩:=hw;have hf:kg w.us allow (kd w.us allow):=zS hs h48 h0 h1;have hE:=yP hs hf w.us.length [] [] bz ⟨Nat.zero_le _,fun u hu=>by cases hu⟩ (fun i hi=>by cases hi);have hp:kT w.us allow=kj w.us (kd w.us allow) w.us.length [] []:=rfl;rw[<-hp]at hE;unfold jd at h;split at h
 .cases h
 .rename_i hn;obtain rfl:=bl h;obtain⟨e1,_,_,e4⟩:=hE;obtain⟨e5,e6⟩:=e4 ae;have hlen:((kT w.us allow).2.take ((kT w.us allow).1.toNat+1)).length=(kT w.us allow).1.toNat+1:=by rw[dM];omega
  refine⟨Gy e1 ae,ae, ?_⟩;rw[hlen,Nat.add_sub_cancel,q5 ae];refine List.eq_nil_iff_forall_not_mem.2 fun t ht=>?_
  have h2:=e6.2.1 t ht;have h3:=sk ((fe.1 e6.1).1 t ht);simp at h2;omega
def wa {us:List bI}{u:Nat}{rc:List Int->List ar->Int×List ar}{c:List Int}{B:Nat}(hrc:∀(i:Int)(rows:List ar),(rc (c++[i]) rows).2.length<=max (rows.length+1) B):∀n i now rows,(nu us u rc c n i now rows).2.length<=max rows.length B+2*n
 |0,i,now,rows=>by rw[nu];dsimp only;omega
 |n+1,i,now,rows=>by
  have h1:=hrc i rows;rw[nu];generalize rc (c++[i]) rows=r at h1⊢;have h3:=wa (us:=us) (u:=u) hrc n (i+1) r.1 r.2;have h4:=wa (us:=us) (u:=u) hrc n (i+1) (((r.2.length:Nat):Int)) (r.2++[ir us u now r.1 r.2]);have h5:(r.2++[ir us u now r.1 r.2]).length=r.2.length+1:=bz;rw[h5]at h4;split
  .dsimp only;omega
  .split
   .omega
   .split
    .omega
    .split
     .dsimp only;omega
     .omega
def Am {us:List bI}{facts:List ar}(hs:rk us):∀f c rows,c.length+f=us.length->(kj us facts f c rows).2.length<=max (rows.length+1) (3001+40*f)
 |0,c,rows,hl=>by
  rw[kj];split
  .simp only[cK,List.length_singleton];omega
  .dsimp only;omega
 |f+1,c,rows,hl=>by
  rw[kj];split
  .simp only[cK,List.length_singleton];omega
  .split
   .dsimp only;omega
   .have h1:=wa (us:=us) (u:=c.length) (rc:=kj us facts f) (c:=c) (B:=3001+40*f) (fun i rows=>Am hs f (c++[i]) rows eB) (us[c.length]!.cands.length+1) (-1) (-1) rows;have h2:=hs _ (aj (show c.length<us.length by omega));omega
section
def j0:List (List bp):=(List.range 16).map fun m=>bE ((m:Nat):Int) 4
set_option maxRecDepth 10000
def L0:∀vs∈j0,∀m,m<8->nd (tS ((m:Nat):Int) vs vs.length)=true/\nd (w6 (tS ((m:Nat):Int) vs vs.length))=true:=by decide+kernel
def zQ:∀v∈cJ,nd (bY v)=true/\j3 v=true:=by decide+kernel
def NN:nd wN=true:=by decide+kernel
def LJ:∀vs∈j0,∀k,k<4->0<k->k<vs.length->kL vs[k-1]! vs[k]! <0:=by decide+kernel
def JK:∀m,m<16->bE ((m:Nat):Int) 4∈j0:=by decide+kernel
def JJ {vs:List bp}(h:vs.Sublist cJ):vs∈j0:=by
 have key:j0=[[],[cJ[0]!],[cJ[1]!],[cJ[0]!,cJ[1]!],[cJ[2]!],[cJ[0]!,cJ[2]!],[cJ[1]!,cJ[2]!],[cJ[0]!,cJ[1]!,cJ[2]!],[cJ[3]!],[cJ[0]!,cJ[3]!],[cJ[1]!,cJ[3]!],[cJ[0]!,cJ[1]!,cJ[3]!],[cJ[2]!,cJ[3]!],[cJ[0]!,cJ[2]!,cJ[3]!],[cJ[1]!,cJ[2]!,cJ[3]!],[cJ[0]!,cJ[1]!,cJ[2]!,cJ[3]!]]:=by decide+kernel
 rw[key];have hv:cJ=[cJ[0]!,cJ[1]!,cJ[2]!,cJ[3]!]:=rfl;rw[hv]at h;generalize cJ[0]! =a at*
 generalize cJ[1]! =b at*
 generalize cJ[2]! =c at*
 generalize cJ[3]! =d at*
 clear hv key;cases h with
 |cons _ h=>cases h with
  |cons _ h=>cases h with
   |cons _ h=>cases h with
    |cons _ h=>cases h;simp
    |cons_cons _ h=>cases h;simp
   |cons_cons _ h=>cases h with
    |cons _ h=>cases h;simp
    |cons_cons _ h=>cases h;simp
  |cons_cons _ h=>cases h with
   |cons _ h=>cases h with
    |cons _ h=>cases h;simp
    |cons_cons _ h=>cases h;simp
   |cons_cons _ h=>cases h with
    |cons _ h=>cases h;simp
    |cons_cons _ h=>cases h;simp
 |cons_cons _ h=>cases h with
  |cons _ h=>cases h with
   |cons _ h=>cases h with
    |cons _ h=>cases h;simp
    |cons_cons _ h=>cases h;simp
   |cons_cons _ h=>cases h with
    |cons _ h=>cases h;simp
    |cons_cons _ h=>cases h;simp
  |cons_cons _ h=>cases h with
   |cons _ h=>cases h with
    |cons _ h=>cases h;simp
    |cons_cons _ h=>cases h;simp
   |cons_cons _ h=>cases h with
    |cons _ h=>cases h;simp
    |cons_cons _ h=>cases h;simp
def xl (vs:List bp):∀r g acc k,k+r=vs.length->acc.Sublist (vs.take k)->((fF vs r g acc).1).Sublist vs
 |0,g,acc,k,hk,h=>by
  rw[fF];rw[show k=vs.length by omega,List.take_length]at h;exact h
 |r+1,g,acc,k,hk,h=>by
  rw[fF];refine xl vs r _ _ (k+1) ae ?_;have hx:vs.take k++[vs[k]!]=vs.take (k+1):=dW ae;rw[show vs.length-(r+1)=k by omega,<-hx];split
  .exact List.Sublist.append h (List.Sublist.refl _)
  .exact h.trans (List.sublist_append_left _ _)
def wc:∀vs∈j0,vs.Sublist cJ:=by decide+kernel
def KR {m:Int}(h:0<=m/\m<16):bE m 4∈j0:=by
 obtain⟨k,rfl⟩:∃k:Nat,m=(k:Int):=⟨m.toNat,ae⟩
 exact JK k ae
def KZ {vs:List bp}{g:Gs}(h:vs∈j0):(fF vs vs.length g []).1∈j0:=JJ ((xl vs vs.length g [] 0 ae bz).trans (wc _ h))
def yl (a b:RU):Bool:=Op.bytesLess a.name b.name ||(decide (a.name=b.name)&&Op.bytesLess a.feat b.feat)
def RU.ok (u:RU):Prop:=u.name≠[]/\∃vs,vs∈j0/\u.cs=vs.map a8
structure UI (i:Nat)(us:List RU):Prop where
 head:us[0]! =⟨[],[],[wE]⟩
 len:if i=0 then us.length=1 else 2<=us.length
 body:∀j,1<=j->j<us.length->us[j]!.ok
 first:∀j,1<=j->j<us.length->us[j]!.feat≠[]->2<=j
 chain:∀j,2<=j->j<us.length->yl us[j-1]! us[j]! =true
 last:i≠0->us[us.length-1]!.name=bS[i-1]!
def ui0:UI 0 tw:=⟨rfl,rfl,fun j h1 h2=>by simp[tw]at h2;omega,fun j h1 h2=>by simp[tw]at h2;omega,fun j h1 h2=>by simp[tw]at h2;omega,fun h=>absurd rfl h⟩
def JP {i k:Nat}{us:List RU}{x:RU}(h:UI i us)(hk:k≠0)(hx:x.ok)(hf:x.feat≠[]->2<=us.length)(ha:2<=us.length->yl us[us.length-1]! x=true)(hn:x.name=bS[k-1]!):UI k (us++[x]):=by
 have hl1:1<=us.length:=by
  have:=h.len;split at this<;>omega
 have hlen:(us++[x]).length=us.length+1:=bz;refine⟨by rw[jT ae];exact h.head,by rw[ai hk,hlen];omega,fun j h1 h2=>?_,fun j h1 h2 hf2=>?_,fun j h1 h2=>?_,fun _=>?_⟩
 .rw[hlen]at h2;rcases cT j us.length with h3|h3
  .rw[jT h3];exact h.body j h1 h3
  .rw[jU ae];exact hx
 .rw[hlen]at h2;rcases cT j us.length with h3|h3
  .rw[jT h3]at hf2;exact h.first j h1 h3 hf2
  .rw[jU ae]at hf2;have:=hf hf2;omega
 .rw[hlen]at h2;rcases cT j us.length with h3|h3
  .rw[jT h3,jT ae];exact h.chain j h1 h3
  .obtain rfl:j=us.length:=ae;rw[jT ae,jU rfl];exact ha h1
 .rw[hlen,Nat.add_sub_cancel,jU rfl];exact hn
def vw:∀i,i<5->bS[i]! ≠[]/\(i≠0->Op.bytesLess bS[i-1]! bS[i]! =true):=by decide+kernel
def JQ {i:Nat}{us:List RU}{vs:List bp}(h:UI i us)(hi:i<5)(hv:vs∈j0):UI (i+1) (us++[⟨bS[i]!,[],vs.map a8⟩]):=by
 refine JP h ae ⟨(vw i hi).1,vs,hv,rfl⟩ (fun hf=>absurd rfl hf) (fun h2=>?_) rfl;have h0:i≠0:=by
  rintro rfl;have:=h.len;simp at this;omega
 unfold yl;rw[h.last h0];dsimp only;rw[(vw i hi).2 h0];rfl
def Mb {i:Nat}{us:List RU}{vs vs2:List bp}(h:UI i us)(hi:i<5)(hv:vs∈j0)(hv2:vs2∈j0):UI (i+1) ((us++[⟨bS[i]!,[],vs.map a8⟩])++[⟨bS[i]!,[102],vs2.map a8⟩]):=by
 have h1:=JQ h hi hv;have hl:2<=(us++[(⟨bS[i]!,[],vs.map a8⟩:RU)]).length:=by have:=h1.len;rw[ai ae]at this;exact this
 refine JP h1 ae ⟨(vw i hi).1,vs2,hv2,rfl⟩ (fun _=>hl) (fun _=>?_) rfl;have hl2:(us++[(⟨bS[i]!,[],vs.map a8⟩:RU)]).length=us.length+1:=bz;rw[hl2,Nat.add_sub_cancel,jU rfl];unfold yl;dsimp only;rw[cB rfl];have:Op.bytesLess [] [102]=true:=bZ;rw[this];simp
def sn (few:Int):∀(r:Nat) (g:Gs) (us:List RU),r<=5->UI (5-r) us->∃i,UI i (eY few r g us).1
 |0,g,us,_,h=>⟨5,by rw[eY];exact h⟩
 |r+1,g,us,hr,h=>by
  have hb:bE (g.bR.val 16) 4∈j0:=KR ((Gs.x7 g.bR 16).1 bZ);rw[show 5-(r+1)=4-r by omega]at h;rw[eY];split
  .split
   .exact sn few r _ _ ae (by rw[show 5-r=4-r+1 by omega];exact Mb h ae hb (KZ hb))
   .exact sn few r _ _ ae (by rw[show 5-r=4-r+1 by omega];exact JQ h ae hb)
  .exact⟨_,h⟩
def GC (g:Gs)(few:Int):∃i,UI i (eA g few).1:=sn few 5 g tw ae ui0
def BG (vs:Nat->List bp):Prop:=∀t,1<=t->vs t∈j0
def LW {g:Gs}{vs:List bp}(h:vs∈j0):nd (tv g vs)=true:=by
 have hv:=(Gs.x7 g 8).1 bZ;obtain⟨m,hm⟩:∃m:Nat,g.val 8=(m:Int):=⟨(g.val 8).toNat,ae⟩
 have hs:=L0 vs h m ae;unfold tv;rw[hm];split
 .exact NN
 .split
  .exact hs.2
  .exact hs.1
def Bf {g:Gs}{n:Nat}{vs:Nat->List bp}(hn:2<=n)(hv:BG vs):oF (n:Int) (cD g n vs)=true:=by
 have h:=(Gs.x7 g ((n:Int) -1)).1 ae;unfold oF cD;dsimp only;rw[cB (show 0<1+g.val ((n:Int) -1)by omega),cB (show 1+g.val ((n:Int) -1)<(n:Int)by omega),LW (hv _ ae)];rfl
def Bg {n:Int}{l:List Want}(h:∀w∈l,oF n w=true):nj n l=true:=by
 unfold nj;rw[cE];intro j _ hj;exact h _ (aj hj)
def zA (n:Nat)(l:List j8):Prop:=∀r∈l,oz (n:Int) r=true
def CO {n:Int}{l:List Want}(h:∀w∈l,oF n w=true)(h0:0<l.length)(h2:l.length<=2):oz n l=true:=by
 unfold oz;rw[Bg h,cB h0,cB (show l.length<=24 by omega)];rfl
def vy {n:Nat}{vs:Nat->List bp}(hn:2<=n)(hv:BG vs):∀k g acc,zA n acc->zA n (iZ n vs k g acc).1/\(iZ n vs k g acc).1.length=acc.length+k
 |0,g,acc,h=>⟨h,rfl⟩
 |k+1,g,acc,h=>by
  rw[iZ];have hw:=fun g=>Bf (g:=g) hn hv
  split
  .have:=vy hn hv k g.eE.bR.eE (acc++[[cD g n vs,cD g.eE.bR n vs]]) (by
    intro r hr;rcases List.mem_append.1 hr with hr|hr
    .exact h r hr
    .obtain rfl:=bG.1 hr;refine CO (fun w hw2=>?_) bz bz;simp only[dz,ec,or_false]at hw2;rcases hw2 with rfl|rfl<;>exact hw _)
   exact⟨this.1,by rw[this.2,cK,List.length_singleton];omega⟩
  .have:=vy hn hv k g.eE.bR (acc++[[cD g n vs]]) (by
    intro r hr;rcases List.mem_append.1 hr with hr|hr
    .exact h r hr
    .obtain rfl:=bG.1 hr;exact CO (fun w hw2=>by obtain rfl:=bG.1 hw2;exact hw _) bz bz)
   exact⟨this.1,by rw[this.2,cK,List.length_singleton];omega⟩
def xz {g:Gs}{n:Nat}{vs:Nat->List bp}{most:Int}(hn:2<=n)(hv:BG vs)(hm:0<=most/\most<=3):zA n (ay g n vs most).1/\(ay g n vs most).1.length<=3:=by
 have h:=(Gs.x7 g (most+1)).1 ae;have:=vy hn hv (g.val (most+1)).toNat g.bR [] (fun r hr=>by cases hr);unfold ay;exact⟨this.1,by rw[this.2];simp only[bg];omega⟩
def tK {n:Nat}{c:dJ}(h1:zA n c.needs)(h2:c.needs.length<=4)(h3:∀w∈c.bars,oF (n:Int) w=true)(h4:c.bars.length<=1):nq (n:Int) c=true:=by
 unfold nq;rw[cB (show c.needs.length<=24 by omega),cB (show c.bars.length<=24 by omega),Bg h3,show dd (fun i=>oz (n:Int) c.needs[i]!) 0 c.needs.length=true by rw[cE];intro j _ hj;exact h1 _ (aj hj)];rfl
def ri (n:Nat)(c:CW):Prop:=nq (n:Int) c.p=true
def Jd {n:Nat}(v:bp):ri n (a8 v):=tK (fun r hr=>by cases hr) (by simp[a8,CW.p,NF.p]) (fun w hw=>by cases hw) (by simp[a8,CW.p,BF.p])
def HG {h:Gs}{n i:Nat}{vs:Nat->List bp}{f:dF}{v:bp}(hn:2<=n)(hv:BG vs)(hi:f≠[]->2<=i)(hin:i<n)(hvv:v∈cJ):ri n (gJ h n vs i f v).1:=by
 have hg:=xz (g:=h) hn hv (most:=2) bZ;have hr:zA n (nt h n vs i f v):=by
  intro r hr;unfold nt at hr;rcases List.mem_append.1 hr with hr|hr
  .split at hr
   .cases hr
   .rename_i hf;obtain rfl:=bG.1 hr;have:=hi hf;refine CO (fun w hw=>?_) bz bz;obtain rfl:=bG.1 hw;unfold oF;dsimp only;rw[cB (show 0<(i:Int) -1 by omega),cB (show(i:Int) -1<(n:Int)by omega),(zQ v hvv).1];rfl
  .exact hg.1 r hr
 have hl:(nt h n vs i f v).length<=4:=by
  unfold nt;rw[cK];have:=hg.2;split<;>simp only[bg,List.length_singleton]<;>omega
 unfold gJ;split
 .exact tK hr hl (fun w hw=>by obtain rfl:=bG.1 hw;exact Bf hn hv) (by simp[CW.p,BF.p])
 .exact tK hr hl (fun w hw=>by cases hw) (by simp[CW.p,BF.p])
def xp {n i:Nat}{vs:Nat->List bp}{f:dF}(hn:2<=n)(hv:BG vs)(hi:f≠[]->2<=i)(hin:i<n):∀(l:List bp) (h:Gs),(∀v∈l,v∈cJ)->∀c∈(dX n vs i f l h).1,ri n c
 |[],h,_,c,hc=>by cases hc
 |v::r,h,hl,c,hc=>by
  simp only[dX]at hc;rcases dz.1 hc with rfl|hc
  .exact HG hn hv hi hin (hl _ (.head _))
  .exact xp hn hv hi hin r _ (fun x hx=>hl x (.tail _ hx)) c hc
def A6 {vs:List bp}(h:vs∈j0):∀v∈vs,v∈cJ:=fun v hv=>(wc vs h).subset hv
def xE {n:Nat}{vs:Nat->List bp}{ft:Nat->dF}(hn:2<=n)(hv:BG vs)(hft:∀i,1<=i->i<n->ft i≠[]->2<=i):∀r i h cs,i+r=n->1<=i->(∀t,(cs t).map CW.v=vs t/\∀c∈cs t,ri n c)->∀t,(jc n vs ft r i h cs t).map CW.v=vs t/\∀c∈jc n vs ft r i h cs t,ri n c
 |0,i,h,cs,hr,hi,hc=>hc
 |r+1,i,h,cs,hr,hi,hc=>by
  rw[jc];refine xE hn hv hft r _ _ _ ae ae fun t=>?_
  unfold cb;split
  .rename_i e;subst e;exact⟨(uS n vs t (ft t) (vs t) h).1,xp hn hv (hft t hi ae) ae _ _ (A6 (hv t hi))⟩
  .exact hc t
def ya (ks:List Int)(few:Int):po (cw ks few)=true/\PW (cw ks few):=by
 obtain⟨us,g1,h⟩:∃us g1,eA ⟨ks,0⟩ few=(us,g1):=⟨_,_,rfl⟩
 obtain⟨h8,h0,hraw,_,hp,_⟩:=oG h;obtain⟨iu,hu⟩:=GC ⟨ks,0⟩ few;rw[h]at hu;dsimp only at hu;have hv:BG fun t=>us[t]!.cs.map CW.v:=by
  intro t ht;rcases cT t us.length with h1|h1
  .obtain⟨_,vs,hvs,e⟩:=hu.body t ht h1;dsimp only;rw[e,List.map_map,show(CW.v∘a8)=id from rfl,List.map_id];exact hvs
  .dsimp only;rw[qJ h1];exact JJ (List.nil_sublist _)
 have hf:=xE (n:=us.length) (vs:=fun t=>us[t]!.cs.map CW.v) (ft:=fun t=>us[t]!.feat) h8.1 hv hu.first (us.length-1) 1 (ay g1 us.length (fun t=>us[t]!.cs.map CW.v) 3).2 (cb (fun t=>us[t]!.cs) 0 [⟨zV,-1,.sl (ay g1 us.length (fun t=>us[t]!.cs.map CW.v) 3).1,.nil⟩]) ae ae (by
  intro t;unfold cb;split
  .rename_i e;subst e;refine⟨by rw[h0];rfl,fun c hc=>?_⟩;obtain rfl:=bG.1 hc;have hg:=xz (g:=g1) h8.1 hv (most:=3) bZ;exact tK hg.1 (by have:=hg.2;simp only[CW.p,NF.p];omega) (fun w hw=>by cases hw) (by simp[CW.p,BF.p])
  .rename_i e;refine⟨rfl,fun c hc=>?_⟩;replace hc:c∈us[t]!.cs:=hc;rw[hraw t ae]at hc;obtain⟨v,_,rfl⟩:=eN.1 hc;exact Jd v)
 have hus:(cw ks few).us=(List.range us.length).map fun t=>(⟨us[t]!.name,us[t]!.feat,(mV us g1 t).map CW.p⟩:bI):=by
  unfold cw;rw[h]
 have hlen:(cw ks few).us.length=us.length:=by rw[hus];simp
 have hget:∀t,t<us.length->(cw ks few).us[t]! =⟨us[t]!.name,us[t]!.feat,(mV us g1 t).map CW.p⟩:=by
  intro t ht;rw[hus];simp[List.getElem!_eq_getElem?_getD,ht]
 have hfin:∀t,(mV us g1 t).map CW.v=us[t]!.cs.map CW.v/\∀c∈mV us g1 t,ri us.length c:=fun t=>hf t
 have hvm:∀t,((mV us g1 t).map CW.p).map dJ.v=us[t]!.cs.map CW.v:=fun t=>by rw[List.map_map,<-(hfin t).1];rfl
 have hcl:∀t,((mV us g1 t).map CW.p).length=us[t]!.cs.length:=fun t=>by
  have:=b8 List.length (hvm t);simpa using this
 have hsm:=sv ks few;have hc0:us[0]!.cs.length=1:=by rw[h0];rfl
 refine⟨?_,fun x hx=>(hsm.1 x hx).1,by have:=hsm.2;omega,ae,by rw[hget 0 ae];dsimp only;rw[hcl,hc0];exact aA _⟩;unfold po Dy;rw[hlen,cB (show 1<=us.length by omega),cB (show us.length<=48 by omega),hget 0 ae,hu.head];dsimp only;rw[hcl,hc0];simp only[decide_true,ik];rw[cE];intro t _ ht;unfold sU;rw[hget t ht,hlen];dsimp only;have h16:((mV us g1 t).map CW.p).length<=16:=by
  have:=(hsm.1 _ (aj (show t<(cw ks few).us.length by omega))).1;rw[hget t ht]at this;exact this
 rw[cB h16];have hcand:dd (qC (us.length:Int) ((mV us g1 t).map CW.p)) 0 ((mV us g1 t).map CW.p).length=true:=by
  rw[cE];intro k _ hk;have hkv:∀j,j<((mV us g1 t).map CW.p).length->((mV us g1 t).map CW.p)[j]!.v=(us[t]!.cs.map CW.v)[j]! :=by
   intro j hj;rw[<-hvm t,vj hj]
  unfold qC;have hcl2:=hcl t;have hin:((mV us g1 t).map CW.p)[k]! ∈(mV us g1 t).map CW.p:=aj hk;obtain⟨c,hc,e⟩:=eN.1 hin;have hcb:nq (us.length:Int) ((mV us g1 t).map CW.p)[k]! =true:=by rw[<-e];exact(hfin t).2 c hc
  rw[hcb,eM];rcases Nat.eq_zero_or_pos t with rfl|ht0
  .have hk0:k=0:=ae;subst hk0;rw[hkv 0 hk,h0];rfl
  .have hvs:=hv t ht0;dsimp only at hvs;have hkl:k<(us[t]!.cs.map CW.v).length:=by rw[aD];omega
   rw[hkv k hk,(zQ _ (A6 hvs _ (aj hkl))).2];by_cases hk0:0<k
   .have h4:(us[t]!.cs.map CW.v).length<=4:=(wc _ hvs).length_le;have:=LJ _ hvs k ae hk0 hkl;rw[hkv (k-1) ae,df (show ¬0<=kL (us[t]!.cs.map CW.v)[k-1]! (us[t]!.cs.map CW.v)[k]! by omega)];simp
   .rw[df hk0];rfl
 rw[hcand];rcases Nat.eq_zero_or_pos t with rfl|ht0
 .simp
 .have hnm:=(hu.body t ht0 ht).1;rw[df hnm,Bool.and_false];by_cases h1:1<t
  .rw[hget (t-1) ae];have:=hu.chain t ae ht;rw[show ym ⟨us[t-1]!.name,us[t-1]!.feat,(mV us g1 (t-1)).map CW.p⟩ ⟨us[t]!.name,us[t]!.feat,(mV us g1 t).map CW.p⟩=true from this];simp
  .rw[df h1];rfl
def Mt (w:bH):Prop:=(w.sm/\PW w)/\Few w.us
def C0 (ks:List Int)(few:Int):Mt (cw ks few):=by
 obtain⟨h1,h2⟩:=ya ks few;refine⟨⟨(sv ks few).1,h2⟩,fun x hx c hc=>?_⟩;obtain⟨t,ht,rfl⟩:=List.mem_iff_getElem.1 hx;obtain⟨k,hk,rfl⟩:=List.mem_iff_getElem.1 hc;unfold po at h1;rw[br,cE]at h1;have h3:=h1.2 t ae ht;unfold sU at h3;rw[br,cE]at h3;rw[show(cw ks few).us[t]! =(cw ks few).us[t]by simp[ht]]at h3;have h4:=h3.2 k ae hk;unfold qC at h4;rw[show((cw ks few).us[t]).cands[k]! =((cw ks few).us[t]).cands[k]by simp[hk]]at h4;simp only[br]at h4;have h5:=h4.1.2;unfold nq at h5;simp only[br,bC]at h5;refine⟨ae,ae,fun r hr=>?_⟩;obtain⟨q,hq,rfl⟩:=List.mem_iff_getElem.1 hr;have h6:=h5.1.2;rw[cE]at h6;have h7:=h6 q ae hq;unfold oz at h7;simp only[hq,getElem!_pos,br,bC]at h7;omega
def Dr {us:List bI}{allow:List Int}{rows:List ar}(h48:us.length<=48)(h:kg us allow rows):∀x∈rows,x.terms.length<=48:=fun x hx=>ea (Ba (h x hx).1) h48
def we {α:Type} [Inhabited α]{l:List α}{q:Nat}(h:q<l.length):(l.take (q+1)).drop q=[l[q]!]:=by
 rw[<-dW h,List.drop_append_of_le_length (by rw[dM];omega),nk (by rw[dM];omega)];rfl
def Hi (w:bH)(al c:List Int)(k:Nat)(now:Int)(R:List ar):Prop:=fq w al R/\(k=0/\now=-1\/0<k/\(0<=now/\now<R.length)/\zw w.us c k R[now.toNat]!.terms)/\R.length<=5100+2*k
def sY (w:bH)(al:List Int)(facts:List ar)(c:List Int)(rows:List ar):Prop:=((w.sm/\rk w.us/\w.us.length<=48)/\kg w.us al facts)/\(G8 w.us c/\fq w al rows)/\rows.length<=100000
def rW {w:bH}{al:List Int}{facts:List ar}{c:List Int}{rows:List ar}(h:sY w al facts c rows):(eO w.us facts c rows).2.length<=max (rows.length+1) 4921:=by
 have h1:=Am (us:=w.us) (facts:=facts) h.1.1.2.1 (w.us.length-c.length) c rows (by have:=h.2.1.1.1;omega);have h2:=h.1.1.2.2;unfold eO;omega
def Al {w:bH}{al:List Int}{facts:List ar}{c:List Int}{rows:List ar}(h:sY w al facts c rows):zq w al c rows (eO w.us facts c rows):=
 yP h.1.1.2.1 h.1.2 _ c rows (by have:=h.2.1.1.1;omega) h.2.1.1 h.2.1.2
def sY.app {w:bH}{al:List Int}{facts:List ar}{c:List Int}{rows R:List ar}{k:Nat}(h:sY w al facts c rows)(hl:c.length<w.us.length)(hk:k<w.us[c.length]!.cands.length+1){now:Int}(hI:Hi w al c k now R):sY w al facts (c++[((k:Nat):Int) -1]) R:=by
 have h16:=h.1.1.2.1 _ (aj hl);exact⟨h.1,⟨h.2.1.1.app hl ae ae,hI.1⟩,by have:=hI.2.2;omega⟩
def JH {w:bH}{al:List Int}{facts:List ar}{c:List Int}{rows R:List ar}{k:Nat}{now:Int}(h:sY w al facts c rows)(hl:c.length<w.us.length)(hk:k<w.us[c.length]!.cands.length+1)(hI:Hi w al c k now R){r:Int×List ar}(hr:eO w.us facts (c++[((k:Nat):Int) -1]) R=r):
  r.2.length<=5101+2*k/\(0<=r.1->r.1<r.2.length/\(now<r.2.length)/\(now<0->Hi w al c (k+1) r.1 r.2)/\(0<=now->Hi w al c (k+1) ((r.2.length:Nat):Int) (r.2++[ir w.us c.length now r.1 r.2]))):=by
 have hP:=h.app hl hk hI;have hE:=Al hP;have hL:=rW hP;rw[hr]at hE hL;obtain⟨hs,h48⟩:=h.1.1.2;have h3:=hI.2.2;refine⟨ae,fun h0=>?_⟩;obtain⟨e1,⟨more,e2⟩,e3,e4⟩:=hE;obtain⟨e5,e6⟩:=e4 h0;have e7:=JB e6;rw[show(((k:Nat):Int) -1+1).toNat=k by omega]at e7;have hlen:r.2.length=R.length+more.length:=by rw[e2,cK]
 refine⟨e5, ?_,fun hn=>?_,fun hn=>?_⟩
 .rcases hI.2.1 with h1|h1<;>omega
 .obtain⟨rfl,_⟩:k=0/\now=-1:=by
   rcases hI.2.1 with h|h
   .exact h
   .omega
  exact⟨e1,.inr ⟨ae,⟨h0,e5⟩,e7.1,e7.2.1,e7.2.2.1,fun j hj=>by obtain rfl:j=0:=ae;exact e7.2.2.2⟩,ae⟩
 .obtain⟨hk0,hnw,hnr⟩:0<k/\(0<=now/\now<R.length)/\zw w.us c k R[now.toNat]!.terms:=by
   rcases hI.2.1 with h|h
   .omega
   .exact h
  have hget:r.2[now.toNat]! =R[now.toNat]! :=by rw[e2];exact tG ae
  obtain⟨j1,j2⟩:=xu (x:=r.1) (now:=now) hs hl h.2.1.1 e1 ⟨hnw.1,ae⟩ ⟨h0,e5⟩ hk0 (by rw[hget];exact hnr) e7;refine⟨j1,.inr ⟨ae,⟨ae,by simp only[cK,List.length_singleton];omega⟩,by rw[Int.toNat_natCast,ma];exact j2⟩, ?_⟩;simp only[cK,List.length_singleton];omega
def Ci {us:List bI}{facts:List ar}{c:List Int}{rows:List ar}(h:eJ us facts c<facts.length):eO us facts c rows=(((rows.length:Nat):Int),rows++[facts[eJ us facts c]!]):=by
 unfold eO;cases us.length-c.length<;>rw[kj,ax h]
def Ck {us:List bI}{facts:List ar}{c:List Int}{rows:List ar}(h:¬eJ us facts c<facts.length)(hs:c.length=us.length\/3000<rows.length):eO us facts c rows=(-1,rows):=by
 unfold eO;rcases hs with hs|hs
 .rw[show us.length-c.length=0 by omega,kj,ai h]
 .cases us.length-c.length<;>rw[kj,ai h];rw[ax hs]
def qZ (us:List bI)(facts:List ar)(c:List Int)(k:Nat)(now:Int)(R:List ar):Int×List ar:=nu us c.length (kj us facts (us.length-(c.length+1))) c (us[c.length]!.cands.length+1-k) (((k:Nat):Int) -1) now R
def Cj {us:List bI}{facts:List ar}{c:List Int}{rows:List ar}(h:¬eJ us facts c<facts.length)(hl:c.length<us.length)(hr:¬3000<rows.length):eO us facts c rows=qZ us facts c 0 (-1) rows:=by
 unfold eO qZ;rw[show us.length-c.length=us.length-(c.length+1)+1 by omega,kj,ai h,ai hr];rfl
def GB {us:List bI}{facts:List ar}{c:List Int}{k:Nat}{now:Int}{R:List ar}(h:us[c.length]!.cands.length+1<=k):qZ us facts c k now R=(now,R):=by
 unfold qZ;rw[show us[c.length]!.cands.length+1-k=0 by omega,nu]
def JG {us:List bI}{facts:List ar}{c:List Int}{k:Nat}{now:Int}{R:List ar}(h:k<us[c.length]!.cands.length+1){r:Int×List ar}(hr:eO us facts (c++[((k:Nat):Int) -1]) R=r):qZ us facts c k now R=
  if r.1<0 then(-1,r.2)else if aR us r.2[r.1.toNat]!.terms ((c.length:Nat):Int)=bN us ((c.length:Nat):Int)then r else if now<0 then qZ us facts c (k+1) r.1 r.2
  else if aR us (ir us c.length now r.1 r.2).terms ((c.length:Nat):Int)=bN us ((c.length:Nat):Int)then(((r.2.length:Nat):Int),r.2++[ir us c.length now r.1 r.2])else qZ us facts c (k+1) ((r.2.length:Nat):Int) (r.2++[ir us c.length now r.1 r.2]):=by
 have e:kj us facts (us.length-(c.length+1)) (c++[((k:Nat):Int) -1]) R=r:=by
  rw[<-hr];unfold eO;rw[cK,List.length_singleton]
 unfold qZ;rw[show us[c.length]!.cands.length+1-k=us[c.length]!.cands.length+1-(k+1)+1 by omega,nu,e,show((k:Nat):Int) -1+1=((k+1:Nat):Int) -1 by omega]
def N7 {m:List (Nat×bT)}(x:ar):Kj m [.a,.a,.a,.a,.sl 2 [.a,.a]] (ar.D x):=⟨rfl,rfl,rfl,rfl,rfl,rfl⟩
def Ou {m:List (Nat×bT)}{lp ln:Nat}{w:bH}{facts rows:List ar}{c:List Int}{su:List Sh}(h1:look m lp=some (.buf 3 [j5.D ⟨w,facts,.own ln 5 0 rows.length⟩]))(h2:look m ln=some (.buf 5 (rows.map ar.D))):
  je m [[.pt [.sl 3 su,.sl 5 [.a,.a,.a,.a,.sl 2 [.a,.a]],.sl 5 [.a,.a,.a,.a,.sl 2 [.a,.a]]]],[.sl 1 [.a]]] [.ptr lp 3 0 0,.sl 1 (c.map (D.int .i64))]:=by
 refine⟨⟨by simp[ew,h1], ?_⟩,rfl,trivial⟩;intro e he;simp only[ba,h1,bG]at he;subst he;refine⟨rfl,rfl,⟨by simp[ew,h2], ?_⟩,rfl⟩;simp only[ba,h2,aO,ak];intro e he;obtain⟨x,_,rfl⟩:=eN.1 he;exact N7 x
def Rp {a b:Int}(h0:0<=a)(h1:a<=131071):0<=il a b/\il a b<=131071:=by
 obtain⟨n,rfl⟩:∃n:Nat,a=(n:Int):=⟨a.toNat,ae⟩
 have h:(BitVec.ofInt 64 (n:Int)&&&BitVec.ofInt 64 b).toNat<=n:=by
  rw[BitVec.toNat_and];refine ea Nat.and_le_left ?_;rw[BitVec.toNat_ofInt];omega
 unfold il;rw[wrap_i64 ae ae];omega
def BD (w:bH)(al:List Int):fq w al []:=fun i hi=>by cases hi
def Kz (us:List bI):G8 us []:=⟨Nat.zero_le _,fun u hu=>by cases hu⟩
def DM {w:bH}{al:List Int}(h:Mt w):sY w al (kd w.us al) [] []:=by
 obtain⟨⟨h1,h2,h3,h4,h5⟩,_⟩:=h;exact⟨⟨⟨h1,h2,h3⟩,zS h2 h3 h4 h5⟩,⟨Kz _,BD _ _⟩,Nat.zero_le _⟩
def DN:∀o:Option (List ar),sZ (pC o) (.sl 5 ((o.getD []).map ar.D))
 |none=>.nil 5
 |some l=>.refl _
def Gc {w:bH}{al:List Int}{l:List ar}(hw:Mt w)(h:jd w.us al=some l):l.length<=5000/\∀r∈l,r.terms.length<=48:=by
 have h1:=Ax hw.1.2 h;refine⟨?_,fun r hr=>?_⟩
 .have h2:=rW (DM (al:=al) hw);unfold jd at h;split at h
  .cases h
  .obtain rfl:=bl h;rw[dM];unfold kT;simp only[bg]at h2;omega
 .obtain⟨i,hi,rfl⟩:=List.mem_iff_getElem.1 hr;have:=Ba (nb h1.1 hi);simp only[hi,getElem!_pos]at this;exact ea this hw.1.2.2.1
def MQ (r:ar):ar:=⟨r.kind,r.unit,r.b,r.a,r.terms⟩
def Hk (L R:List ar):Prop:=R.length=L.length/\∀k,k<L.length->R[k]! =L[k]! \/(L[k]!.kind=5/\R[k]! =MQ L[k]!)
def A2 {xs:List ar}{i u:Nat}{v:ar}(hu:u<xs.length):(xs.set i v)[u]! =if i=u then v else xs[u]! :=by
 simp only[List.getElem!_eq_getElem?_getD,List.getElem?_set];split
 .rename_i h;subst h;rw[ax hu];rfl
 .rfl
def Hk.step {L R:List ar}{i:Nat}(h:Hk L R)(hi:i<L.length)(hk:R[i]!.kind=5):Hk L (R.set i (MQ R[i]!)):=by
 refine⟨by rw[List.length_set];exact h.1,fun k hk2=>?_⟩;rw[A2 (by rw[h.1];exact hk2)];split
 .rename_i e;subst e;rcases h.2 i hi with h1|⟨h1,h2⟩
  .exact .inr ⟨by rw[<-h1];exact hk,by rw[h1]⟩
  .exact .inl (by rw[h2];rfl)
 .exact h.2 k hk2
def LP {w:bH}{al:List Int}{l:List ar}(h:fq w al l):RowsIn l:=by
 intro r hr t ht;obtain⟨i,hi,rfl⟩:=List.mem_iff_getElem.1 hr;have hv:=nb h hi;simp only[hi,getElem!_pos]at hv;exact zb ((fe.1 hv).1 t ht)
def Ay {w:bH}{al:List Int}(hw:Mt w):((jd w.us al).getD []).length<=100000/\∀r∈(jd w.us al).getD [],r.terms.length<=1000:=by
 cases e:jd w.us al with
 |none=>exact⟨Nat.zero_le _,fun r hr=>by cases hr⟩
 |some l=>
  have h:=Gc hw e;exact⟨ea h.1 bZ,fun r hr=>ea (h.2 r hr) bZ⟩
end
def iPrv (a b:j5):j5.D a=j5.D b↔a=b:=by
 obtain⟨⟨x⟩,y,z⟩:=a;obtain⟨⟨x'⟩,y',z'⟩:=b;simp[j5.D,DA,BU]
def zK {a b:Int}(h:FD a b=0){i:Nat}(ha:bt a i=true):bt b i=true:=by
 have h2:BitVec.ofInt 64 (FD a b)=BitVec.ofInt 64 0:=by rw[h]
 unfold FD at h2;rw[tZ,ofInt_toInt]at h2;have h3:=b8 (fun x:BitVec 64=>x.getLsbD i) h2;simp only[BitVec.getLsbD_and,BitVec.getLsbD_not]at h3;unfold bt at*
 by_cases hi:i<64
 .rw[ha]at h3;simp[hi]at h3;exact h3
 .rw[BitVec.getLsbD_of_ge _ _ ae]at ha;cases ha
def Pj (us:List bI)(κ:Nat->Nat)(l:List bB):Prop:=∀u,u<us.length->bt (aR us l ((u:Nat):Int)) (κ u)=true
def BB (us:List bI)(κ:Nat->Nat)(x:Want):Prop:=bt (eP us x) (κ x.u.toNat)=true
structure Hj (us:List bI)(κ:Nat->Nat):Prop where
 pos:0<us.length
 root:κ 0≠0
 le:∀u,u<us.length->κ u<=us[u]!.cands.length
 needs:∀u,u<us.length->κ u≠0->∀r∈us[u]!.cands[κ u-1]!.needs,∃x∈r,BB us κ x
 bars:∀u,u<us.length->κ u≠0->∀x∈us[u]!.cands[κ u-1]!.bars,¬BB us κ x
 inU:∀u,u<us.length->κ u≠0->(∀r∈us[u]!.cands[κ u-1]!.needs,∀x∈r,0<=x.u/\x.u<us.length)/\∀x∈us[u]!.cands[κ u-1]!.bars,0<=x.u/\x.u<us.length
def ye (al:List Int)(κ:Nat->Nat):Prop:=∀u,u<al.length->bt al[u]! (κ u)=true
def NT {i:Nat}(h:bt 1 i=true):i=0:=by
 have:=lI (k:=0) bZ i;rw[show(2:Int)^0=1 from rfl]at this;rw[this]at h;simpa using h
def KS {k i:Nat}(hk:k<=40)(h:i=k):bt (2^k) i=true:=by
 rw[lI hk];simpa using h
def K6 {us:List bI}{l:List bB}{u:Int}(ht:fm us l=true)(h:uO l u=true):0<=u/\u<us.length:=by
 rcases n9 us u l 0 with⟨_,h2,_⟩|⟨j,h1,_,h3,_,_⟩
 .rw[h2]at h;cases h
 .have:=sk (zc ht h1);rw[h3]at this;exact this
def LS {us:List bI}{κ:Nat->Nat}{row:ar}{u:Nat}{mild:Bool}(hs:∀x∈us,x.cands.length<=16)(hS:Hj us κ)(hu:row.unit=((u:Nat):Int))(hul:u<us.length)(hk:κ u≠0)(hA:Pj us κ row.terms):kW us row (κ u-1) mild=false:=by
 have hle:=hS.le u hul;have h16:=hs _ (aj hul);have hto:row.unit.toNat=u:=by rw[hu];exact Int.toNat_natCast u
 have hpw:(((κ u-1:Nat):Int)+1).toNat=κ u:=ae;cases e:kW us row (κ u-1) mild with
 |false=>rfl
 |true=>
  exfalso;unfold kW at e;rw[hto]at e;cases mild with
  |true=>
   rw[ax rfl,List.any_eq_true]at e;obtain⟨x,hx,he⟩:=e;have hno:=hS.bars u hul hk x hx;have hin:=(hS.inU u hul hk).2 x hx;unfold fB at he;rw[ax rfl]at he;unfold sS at he;split at he
   .rename_i hxu;rw[bC,hpw,BL]at he;obtain⟨i,h1,h2⟩:=he;rw[lI ae]at h2;have:i=κ u:=by simpa using h2
    subst this;refine hno ?_;unfold BB;rw[hxu,hto];exact h1
   .rw[bC]at he;refine hno ?_;unfold BB;refine zK he ?_;have:=hA x.u.toNat ae;rw[Int.toNat_of_nonneg hin.1]at this;exact this
  |false=>
   rw[ai bZ,List.any_eq_true]at e;obtain⟨r,hr,he⟩:=e;obtain⟨x,hx,hm⟩:=hS.needs u hul hk r hr;have hin:=(hS.inU u hul hk).1 r hr x hx;unfold gF at he;have hl:fB false us row ((κ u-1:Nat):Int) x=false:=by
    cases e2:fB false us row ((κ u-1:Nat):Int) x with
    |false=>rfl
    |true=>rw[List.any_eq_true.2 ⟨x,hx,e2⟩]at he;cases he
   unfold fB at hl;rw[ai bZ,nw]at hl;unfold sK at hl;unfold BB at hm;split at hl
   .rename_i hxu;rw[bC,hpw,iR]at hl;rw[hxu,hto]at hm;exact hl (κ u) ⟨hm,KS ae rfl⟩
   .rw[bC,iR]at hl;have:=hA x.u.toNat ae;rw[Int.toNat_of_nonneg hin.1]at this;exact hl _ ⟨hm,this⟩
def CS {w:bH}{al:List Int}{rows:List ar}{κ:Nat->Nat}(hs:∀x∈w.us,x.cands.length<=16)(h:fq w al rows)(hS:Hj w.us κ)(hL:ye al κ):∀i,i<rows.length->¬Pj w.us κ rows[i]!.terms:=by
 intro i;induction i using Nat.strongRecOn with
 |ind i ih=>
  intro hi hA;have hv:=h i hi;unfold dD at hv;simp only[Int.toNat_natCast,br,bC]at hv;obtain⟨⟨_,ht⟩,hk⟩:=hv;unfold lA at hk;by_cases k5:rows[i]!.kind=5
  .rw[ax k5]at hk;unfold nS at hk;simp only[br,bC]at hk;obtain⟨⟨⟨⟨q1,q2⟩,q3⟩,_⟩,q8⟩:=hk;rw[cE]at q8;obtain⟨un,hun⟩:∃un:Nat,rows[i]!.unit=((un:Nat):Int):=⟨rows[i]!.unit.toNat,by have:=tO q1;omega⟩
   have hunl:un<w.us.length:=by have:=tO q1;omega
   have key:∀u,u<w.us.length->bt (if((u:Nat):Int)=rows[i]!.unit then tc (aR w.us rows[rows[i]!.a.toNat]!.terms ((u:Nat):Int)) (aR w.us rows[rows[i]!.b.toNat]!.terms ((u:Nat):Int))else il (aR w.us rows[rows[i]!.a.toNat]!.terms ((u:Nat):Int)) (aR w.us rows[rows[i]!.b.toNat]!.terms ((u:Nat):Int))) (κ u)=true:=fun u hu=>by
    have h1:=q8 u (Nat.zero_le _) hu;unfold qw at h1;rw[bC]at h1;exact zK h1 (hA u hu)
   have hoth:∀u,u<w.us.length->u≠un->bt (aR w.us rows[rows[i]!.a.toNat]!.terms ((u:Nat):Int)) (κ u)=true/\bt (aR w.us rows[rows[i]!.b.toNat]!.terms ((u:Nat):Int)) (κ u)=true:=fun u hu hne=>by
    have h1:=key u hu;rw[ai (by rw[hun];omega),kK,br]at h1;exact h1
   have h1:=key un hunl;rw[ax hun.symm,sA,dZ]at h1;rcases h1 with h1|h1
   .refine ih rows[i]!.a.toNat ae ae fun u hu=>?_
    by_cases e:u=un
    .subst e;exact h1
    .exact(hoth u hu e).1
   .refine ih rows[i]!.b.toNat ae ae fun u hu=>?_
    by_cases e:u=un
    .subst e;exact h1
    .exact(hoth u hu e).2
  .rw[ai k5]at hk;simp only[br]at hk;have hk:=hk.2;by_cases k1:rows[i]!.kind=1
   .rw[ax k1]at hk;simp only[br,bC]at hk;have h1:=hA 0 hS.pos;rw[show(((0:Nat):Int))=0 from rfl,hk.2]at h1;exact hS.root (NT h1)
   rw[ai k1]at hk;by_cases k2:rows[i]!.kind=2\/rows[i]!.kind=3
   .rw[ax k2]at hk;unfold iA at hk;simp only[br,bC]at hk;obtain⟨⟨q1,q2⟩,q3⟩:=hk;have hin:=K6 ht q1;obtain⟨un,hun⟩:∃un:Nat,rows[i]!.unit=((un:Nat):Int):=⟨rows[i]!.unit.toNat,ae⟩
    have hunl:un<w.us.length:=ae;have h1:=hA un hunl;rw[hun]at q2 q3;rw[Int.toNat_natCast,cE]at q3;have hk0:κ un≠0:=fun e=>by
     rw[e]at h1;exact(iR.1 q2) 0 ⟨h1,KS (k:=0) bZ rfl⟩
    have hle:=hS.le un hunl;have h16:=hs _ (aj hunl);have h2:=q3 (κ un-1) (Nat.zero_le _) ae;rw[LS hs hS hun hunl hk0 hA,Bool.or_false,bC,iR]at h2;exact h2 (κ un) ⟨h1,KS ae ae⟩
   rw[ai k2]at hk;by_cases k4:rows[i]!.kind=4
   .rw[ax k4]at hk;unfold uw at hk;simp only[br,bC]at hk;obtain⟨⟨q1,q2⟩,q3⟩:=hk;have hin:=tO q1;obtain⟨un,hun⟩:∃un:Nat,rows[i]!.unit=((un:Nat):Int):=⟨rows[i]!.unit.toNat,ae⟩
    rw[hun]at q2 q3;rw[Int.toNat_natCast]at q3;exact(iR.1 q3) (κ un) ⟨hA un ae,hL un ae⟩
   .rw[ai k4]at hk;cases hk
def Is {w:bH}{al:List Int}{rows:List ar}{κ:Nat->Nat}(hs:∀x∈w.us,x.cands.length<=16)(h:fq w al rows)(hS:Hj w.us κ)(hL:ye al κ)(h0:0<rows.length):rows[rows.length-1]!.terms≠[]:=fun e=>by
 refine CS hs h hS hL (rows.length-1) ae ?_;rw[e];intro u hu;show bt (bN w.us ((u:Nat):Int)) (κ u)=true;rw[kq hu hs];simpa using hS.le u hu
def zG {f:Nat->Bool}:∀k i,¬ju f k i<i+k->∀j,i<=j->j<i+k->f j=true
 |0,i,_,j,h1,h2=>ae
 |k+1,i,h,j,h1,h2=>by
  rw[ju]at h;split at h
  .rename_i e;by_cases q:j=i
   .subst q;exact e
   .exact zG k (i+1) (by rw[show i+1+k=i+(k+1)by omega];exact h) j ae ae
  .omega
def xg {w:bH}{allow:List Int}{l:List ar}(h:(gK (okW w allow) (fun j=>dD ⟨w,allow,l⟩ ((j:Nat):Int)) l).2=true):okW w allow=true/\fq w allow l/\0<l.length/\l[l.length-1]!.terms=[]:=by
 unfold gK at h;split at h
 .cases h
 .rename_i hok;split at h
  .cases h
  .rename_i hb;simp only[br,bC]at h;refine⟨by simpa using hok,fun i hi=>zG l.length 0 (by rw[aB];exact hb) i (Nat.zero_le _) ae,h.1,ij h.2⟩
def HI {w:bH}{al:List Int}{rows:List ar}{κ:Nat->Nat}(hs:∀x∈w.us,x.cands.length<=16)(hS:Hj w.us κ)(hL:ye al κ):(gK (okW w al) (fun j=>dD ⟨w,al,rows⟩ ((j:Nat):Int)) rows).2=false:=by
 cases e:(gK (okW w al) (fun j=>dD ⟨w,al,rows⟩ ((j:Nat):Int)) rows).2 with
 |false=>rfl
 |true=>
  obtain⟨_,h1,h2,h3⟩:=xg e;exact absurd h3 (Is hs h1 hS hL h2)
end Go.Abs
