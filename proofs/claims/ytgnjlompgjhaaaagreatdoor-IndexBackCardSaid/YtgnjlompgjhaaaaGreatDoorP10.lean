/- A part of the proofs. -/
import Derived.Test.YtgnjlompgjhaaaaGreatDoorP09
set_option linter.all false
set_option maxRecDepth 4000
section
namespace Go.Abs
variable {Y:Ctx}(hm:(Y.at 0).cd)
def n4:fk:=⟨[],[]⟩
def bH (t:au):au×Bool:=if t.getLast? =some 10 then(t.dropLast,true)else(t,false)
def jt (s:au):List au:=(UP s).map (· ++[10])++[zR s]
def cx (s:au):List au:=if zR s=[]then(UP s).map (· ++[10])else jt s
def wK (l:List au):Bool:=(decide (l.length=3)&&decide (l[0]! =jk))&&(decide (l[2]! =U0) ||decide (l[2]! =AU))
def iL (t:au):Int×Bool×Bool:=if(bH t).2=true/\wK (ak (bH t).1 32)=true then(uN (ak (bH t).1 32)[1]!,decide ((ak (bH t).1 32)[2]! =AU),m7 (ak (bH t).1 32)[1]!)else(0,false,false)
def vC (t:au):Bool:=decide ((ie (bH t).1 32).1=jk)
def rO (p:Nat->Bool):Nat->Nat->Nat
 |k,0=>k
 |k,f+1=>if p k=true then k else rO p (k+1) f
def sJ (p:Nat->Bool)(k n:Nat):Nat:=rO p k (n-k)
theorem Gt {p:Nat->Bool}{k n:Nat}(h:k<n)(hp:p k=true):sJ p k n=k:=by
 unfold sJ;rw[show n-k=(n-(k+1))+1 by omega,rO,ax hp]
theorem Kr {p:Nat->Bool}{k n:Nat}(h:k<n)(hp:p k=false):sJ p k n=sJ p (k+1) n:=by
 unfold sJ;rw[show n-k=(n-(k+1))+1 by omega,rO,aj (by simp[hp])]
theorem AH {p:Nat->Bool}{k n:Nat}(h:n<=k):sJ p k n=k:=by
 unfold sJ;rw[show n-k=0 by omega,rO]
theorem AG (p:Nat->Bool):∀f k,k<=rO p k f/\rO p k f<=k+f
 |0,k=>⟨aP _,aP _⟩
 |f+1,k=>by
  have:=AG p f (k+1);unfold rO;split<;>omega
def D7 (p:Nat->Bool)(k n:Nat):k<=sJ p k n:=(AG p _ k).1
def TX (p:Nat->Bool){k n:Nat}(h:k<=n):sJ p k n<=n:=by
 grind [AG,sJ]
def xe {p q:Nat->Bool}:∀f k,(∀j,k<=j->j<k+f->p j=q j)->rO p k f=rO q k f
 |0,_,_=>rfl
 |f+1,k,h=>by
  unfold rO;rw[h k (aP _) ae,xe f (k+1) fun j h1 h2=>h j ae ae]
theorem I1 {p q:Nat->Bool}{k n:Nat}(h:∀j,k<=j->j<n->p j=q j):sJ p k n=sJ q k n:=xe _ _ fun j h1 h2=>h j h1 ae
def tX (es:List cY)(r:Rec):Bool:=es.any fun x=>decide (x.r.name=r.name)&&decide (oW x.r.v r.v=0)
def kG (es:List cY)(r:Rec)(n:Int):Int:=if ¬mC r=n then 13 else if tX es r=true then 8 else if 64<=es.length then 10 else 0
def qJ (es:List cY)(t:au)(n:Int)(off:Bool):Int×List cY:=if ¬(eI t).2.1=0 then((eI t).2.1,[])else if ¬kG es (eI t).1 n=0 then(kG es (eI t).1 n,[])else(0,es++[⟨(eI t).1,n,off⟩])
def vX (P:List au)(k:Nat):Nat:=sJ (fun j=>vC P[j]!) k P.length
def slice {α:Type}(l:List α)(a b:Nat):List α:=(l.take b).drop a
def uG (P:List au):Nat->List cY->Nat->List cY×Int×Int
 |0,es,_=>(es,0,0)
 |f+1,es,at'=>if at'<P.length then
   (if(iL P[at']!).2.2=false then([],2,(at':Int)+1)
   else
    let q:=qJ es (aS [] (slice P (at'+1) (vX P (at'+1)))) (iL P[at']!).1 (iL P[at']!).2.1
    if ¬q.1=0 then([],q.1,(at':Int)+1)else uG P f q.2 (vX P (at'+1)))
  else(es,0,0)
def Fi (t:au):Option au:=if(bH t).2=true/\(cG (bH t).1 (fC++[32])).2=true/\dN (cG (bH t).1 (fC++[32])).1=true then some (cG (bH t).1 (fC++[32])).1 else none
def E4 (nm:au)(q:List cY×Int×Int):fk×Int×Int:=if ¬q.2.1=0 then(n4,q.2.1,q.2.2)else(⟨nm,q.1⟩,0,0)
def lj (s:au):fk×Int×Int:=if 524288<s.length then(n4,3,0)else if(cx s).length=0 then(n4,2,1)else match Fi (cx s)[0]! with
 |none=>(n4,2,1)
 |some nm=>E4 nm (uG (cx s) (cx s).length [] 1)
def HH (t:au):Int×Bool×Bool:=if wK (ak t 32)=true then(uN (ak t 32)[1]!,decide ((ak t 32)[2]! =AU),m7 (ak t 32)[1]!)else(0,false,false)
def oN (L:List au)(en:Bool)(i:Nat):Bool:=en ||decide (i+1<L.length)
def FO (L:List au)(k:Nat):Nat:=sJ (fun j=>decide (fw L[j]! =jk)) k L.length
def BG (l:List au)(en:Bool):au:=if en=true then jc l else aS [10] l
def xz (L:List au)(en:Bool):Nat->List cY->Nat->List cY×Int×Int
 |0,es,_=>(es,0,0)
 |f+1,es,at'=>if at'<L.length then
   (if(HH L[at']!).2.2=false\/oN L en at'=false then([],2,(at':Int)+1)
   else
    let q:=qJ es (BG (slice L (at'+1) (FO L (at'+1))) (en ||decide (FO L (at'+1)<L.length))) (HH L[at']!).1 (HH L[at']!).2.1
    if ¬q.1=0 then([],q.1,(at':Int)+1)else xz L en f q.2 (FO L (at'+1)))
  else(es,0,0)
def B2 (t:au):Option au:=if((ak t 32).length=2/\(ak t 32)[0]! =fC)/\dN (ak t 32)[1]! =true then some (ak t 32)[1]! else none
def RE (s:au):fk×Int×Int:=if 524288<s.length then(n4,3,0)else if(cv s).1.length=0\/((cv s).1.length=1/\(cv s).2=false)then(n4,2,1)else match B2 (cv s).1[0]! with
 |none=>(n4,2,1)
 |some nm=>E4 nm (xz (cv s).1 (cv s).2 (cv s).1.length [] 1)
def Ae (s:au):(∃A,cv s=(A,true)/\cx s=A.map (· ++[10]))\/∃A b,cv s=(A++[b],false)/\cx s=A.map (· ++[10])++[b]:=by
 rcases H9 s with⟨h1,h2,h3⟩|⟨h1,h2,h3⟩
 .grind [cx]
 .exact .inr ⟨UP s,zR s,Prod.ext h3 h1,by unfold cx;rw[aj h2];rfl⟩
theorem yh (s:au):(cx s).length=(cv s).1.length:=by
 rcases Ae s with⟨A,h1,h2⟩|⟨A,b,h1,h2⟩<;>rw[h1,h2]<;>simp
def Ip {s:au}{i:Nat}(h:i<(cv s).1.length):(cx s)[i]! =(cv s).1[i]! ++(if oN (cv s).1 (cv s).2 i=true then [10]else []):=by
 rcases Ae s with⟨A,h1,h2⟩|⟨A,b,h1,h2⟩
 .grind [oN]
 grind [oN]
theorem rQ:∀(s cur:au),(∀c∈cur,c≠10)->∀t∈cq 10 s cur,∀c∈t,c≠10
 |[],cur,h,t,ht=>by
  grind [cq]
 |a::r,cur,h,t,ht=>by
  unfold cq at ht;split at ht
  .rcases bY.1 ht with rfl|ht
   .exact h
   .exact rQ r [] aT t ht
  .rename_i hn;refine rQ r (cur++[a]) (fun c hc=>?_) t ht;rcases List.mem_append.1 hc with hc|hc
   .exact h c hc
   .rw[cN.1 hc];rintro rfl;exact hn rfl
def tC {s t:au}(h:t∈(cv s).1):∀c∈t,c≠10:=by
 grind [ak,rQ,cv]
def wB {t:au}(h:∀c∈t,c≠10)(b:Bool):bH (t++(if b=true then [10]else []))=(t,b):=by
 grind [bH]
def Wk (t:au):(ie t 32).1=fw t:=by
 unfold fw ie;cases hq:t.findIdx? (fun c=>c==32)with
 |none=>
  have hs:ak t 32=[t]:=by have:=pH 32 t [] hq;simpa[ak]using this
  rw[hs];rfl
 |some j=>
  have hs:ak t 32=t.take j::ak (t.drop (j+1)) 32:=by have:=n6 32 t [] j hq;simpa[ak]using this
  rw[hs];rfl
def SS {s:au}{i:Nat}(h:i<(cv s).1.length):iL (cx s)[i]! =if oN (cv s).1 (cv s).2 i=true then HH (cv s).1[i]! else(0,false,false):=by
 unfold iL HH;rw[Ip h,wB (tC (bB h))]
 grind
theorem MI {s:au}{i:Nat}(h:i<(cv s).1.length):vC (cx s)[i]! =decide (fw (cv s).1[i]! =jk):=by
 unfold vC;rw[Ip h,wB (tC (bB h))];dsimp only;rw[Wk]
def WT (s:au)(k:Nat):vX (cx s) k=FO (cv s).1 k:=by
 grind [vX,FO,yh,I1,MI]
def B5:∀l:List au,aS [] l=l.flatten
 |[]=>rfl
 |[t]=>by simp[aS]
 |t::u::r=>by
  have:=B5 (u::r);simp only[aS,this];simp
def B6 (t:au):∀l:List au,aS [10] (l++[t])=jc l++t
 |[]=>rfl
 |[u]=>by simp[aS,jc]
 |u::v::r=>by
  have:=B6 t (v::r)
  grind [aS,jc]
def Od {α β:Type}(f:α->β)(l:List α)(a b:Nat):slice (l.map f) a b=(slice l a b).map f:=by simp[slice]
def SJ {s:au}{a b:Nat}(ha:a<=b)(hb:b<=(cv s).1.length):aS [] (slice (cx s) a b)=BG (slice (cv s).1 a b) ((cv s).2 ||decide (b<(cv s).1.length)):=by
 rw[B5];rcases Ae s with⟨A,h1,h2⟩|⟨A,d,h1,h2⟩
 .rw[h1,h2,Od];simp only[Bool.true_or,BG,ba];rfl
 .rw[h1]at hb⊢;rw[h2];simp only[bF,az,aB,Bool.false_or]at hb⊢;by_cases hl:b<A.length+(0+1)
  .have e1:slice (A.map (· ++[10])++[d]) a b=(slice A a b).map (· ++[10]):=by
    unfold slice;rw[List.take_append_of_le_length (by simp only[bU];omega)];simp
   have e2:slice (A++[d]) a b=slice A a b:=by
    unfold slice;rw[List.take_append_of_le_length ae]
   rw[e1,e2,BG,ax (cj hl)];rfl
  .have hq:b=A.length+1:=ae;rw[BG,aj (by simpa using hl)];by_cases h4:a=b
   .have e1:∀l:List au,l.length<=b->slice l a b=[]:=fun l hl=>k8 cM
    rw[e1 _ cM,e1 _ cM];rfl
   .have ha2:a<=A.length:=ae;have e1:slice (A.map (· ++[10])++[d]) a b=(A.drop a).map (· ++[10])++[d]:=by
     unfold slice;rw[ek cM,List.drop_append_of_le_length (by simpa using ha2),List.map_drop]
    have e2:slice (A++[d]) a b=A.drop a++[d]:=by
     unfold slice;rw[ek cM,List.drop_append_of_le_length ha2]
    rw[e1,e2,B6];simp[jc]
theorem idx_eq (s:au):∀(f:Nat) (es:List cY) (i:Nat),uG (cx s) f es i=xz (cv s).1 (cv s).2 f es i
 |0,_,_=>rfl
 |f+1,es,i=>by
  unfold uG xz;rw[yh];by_cases h:i<(cv s).1.length
  .rw[ax h,ax h,SS h,WT];have h1:i+1<=FO (cv s).1 (i+1):=D7 _ _ _;have h2:FO (cv s).1 (i+1)<=(cv s).1.length:=TX _ ae;rw[SJ h1 h2];cases hw:oN (cv s).1 (cv s).2 i with
   |false=>simp
   |true=>
    simp only[ba,Bool.true_eq_false,or_false];rw[idx_eq s f]
  .rw[aj h,aj h]
theorem JT {nm:au}(h:dN nm=true):bX nm:=⟨(yc h).1,Ig (yc h).2.2⟩
theorem Gv:bX fC:=by unfold bX;decide
theorem Te {s:au}(h:0<(cv s).1.length):Fi (cx s)[0]! =if oN (cv s).1 (cv s).2 0=true then B2 (cv s).1[0]! else none:=by
 unfold Fi B2;rw[Ip h,wB (tC (bB h))];dsimp only;cases oN (cv s).1 (cv s).2 0 with
 |false=>simp
 |true=>
  simp only[cK,ba];generalize (cv s).1[0]! =t;by_cases h1:((ak t 32).length=2/\(ak t 32)[0]! =fC)/\dN (ak t 32)[1]! =true
  .rw[ax h1];have hj:aS [32] (ak t 32)=t:=by
    have:=kL 32 t [];simpa[ak]using this
   obtain⟨⟨ha,hb⟩,hc⟩:=h1
   match hq:ak t 32,ha,hb,hc with
   |[x,y],_,hb,hc=>
    rw[hq]at hj;simp at hb hc;subst hb;have ht:t=fC++[32]++y:=by rw[<-hj];rfl
    have hp:cG t (fC++[32])=(y,true):=by
     subst ht;unfold cG;rw[ax (by simp[fC,List.isPrefixOf])];simp[fC]
    rw[hp];simp[hc]
  .rw[aj h1,aj];rintro⟨h2,h3⟩;unfold cG at h2 h3;split at h2
   .rename_i h4;rw[ax h4]at h3;simp only at h3;have ht:t=aS [32] [fC,t.drop 6]:=by
     obtain⟨r,hr⟩:=List.isPrefixOf_iff_prefix.1 h4;rw[<-hr];simp[fC,aS]
    have hs:ak t 32=[fC,t.drop 6]:=by
     have:=kd (l:=[fC,t.drop 6]) aT (by
      intro w hw;simp only[bY,eu,or_false]at hw;rcases hw with rfl|rfl
      .exact Gv
      .exact JT h3)
     rw[eP,<-ht]at this;exact this
    apply h1;rw[hs];exact⟨⟨rfl,rfl⟩,by simpa[fC]using h3⟩
   .cases h2
def Ki (s:au):lj s=RE s:=by
 grind [lj,RE,yh,cv,Te,oN,B2,idx_eq]
end Go.Abs
namespace Go.Abs
variable {Y:Ctx}(hm:(Y.at 0).cd)
def QN (s:au):1<=(jt s).length:=by unfold jt;simp
def QO (s:au):cx s=if(jt s)[(jt s).length-1]! =[]then(jt s).take ((jt s).length-1)else jt s:=by
 grind [jt,cx]
def qk (s:au):(bH s).1.length<=s.length:=by
 grind [bH]
def twC (r:Rec)(x:cY):Bool:=decide (x.r.name=r.name)&&decide (oW x.r.v r.v=0)
def Wn {s:au}(h:(((bH s).2=false\/¬((ak (bH s).1 32).length:Int)=3)\/¬(ak (bH s).1 32)[0]! =jk)\/¬(ak (bH s).1 32)[2]! =U0/\¬(ak (bH s).1 32)[2]! =AU):¬((bH s).2=true/\wK (ak (bH s).1 32)=true):=by
 grind [wK]
def SU {s:au}(h:(((bH s).2=true/\((ak (bH s).1 32).length:Int)=3)/\(ak (bH s).1 32)[0]! =jk)/\((ak (bH s).1 32)[2]! =U0\/(ak (bH s).1 32)[2]! =AU)):((bH s).2=true/\wK (ak (bH s).1 32)=true)/\(ak (bH s).1 32).length=3:=by
 grind [ak,bH,wK]
end Go.Abs
namespace Go.Abs
variable {Y:Ctx}(hm:(Y.at 0).cd)
def noE (s:au):Prop:=∀i,1<=i->i<(cx s).length->(iL (cx s)[i]!).2.2=false
def J3 {s t:au}(h:t∈cx s):t.length<=s.length+1:=by
 have h1:t∈jt s:=by
  grind [cx,jt]
 unfold jt at h1;rcases List.mem_append.1 h1 with h2|h2
 .obtain⟨u,hu,rfl⟩:=dZ.1 h2;have:=eJ s 10 (lW hu);simp;omega
 grind [eU,qg,ak]
def DO {s:au}{i:Nat}(h:i<(cx s).length):(cx s)[i]!.length<=s.length+1:=J3 (bB h)
def Oa {s:au}(h:524288<s.length):lj s=(n4,3,0):=by unfold lj;rw[ax h]
def Ob {s:au}(h:¬524288<s.length)(h1:(cx s).length=0):lj s=(n4,2,1):=by unfold lj;rw[aj h,ax h1]
theorem Fj (t:au):Fi t=if((bH t).2=true/\(cG (bH t).1 [115,104,101,108,102,32]).2=true)/\dN (cG (bH t).1 [115,104,101,108,102,32]).1=true then some (cG (bH t).1 [115,104,101,108,102,32]).1 else none:=by
 grind [Fi,fC]
def N9 {s:au}(h:¬524288<s.length)(h1:¬(cx s).length=0)(h2:¬(((bH (cx s)[0]!).2=true/\(cG (bH (cx s)[0]!).1 [115,104,101,108,102,32]).2=true)/\dN (cG (bH (cx s)[0]!).1 [115,104,101,108,102,32]).1=true)):lj s=(n4,2,1):=by
 grind [lj,Fj]
def N8 {s:au}(h:¬524288<s.length)(h1:¬(cx s).length=0)(h2:((bH (cx s)[0]!).2=true/\(cG (bH (cx s)[0]!).1 [115,104,101,108,102,32]).2=true)/\dN (cG (bH (cx s)[0]!).1 [115,104,101,108,102,32]).1=true):
  lj s=E4 (cG (bH (cx s)[0]!).1 [115,104,101,108,102,32]).1 (uG (cx s) (cx s).length [] 1):=by
 grind [lj,Fj]
def uQ (P:List au)(es:List cY)(i:Nat):List cY×Int×Int:=uG P (P.length-i) es i
theorem vJ (P:List au):∀(f g:Nat) (es:List cY) (i:Nat),P.length<=i+f->P.length<=i+g->uG P f es i=uG P g es i
 |0,0,_,_,_,_=>rfl
 |0,g+1,es,i,h,_=>by unfold uG;rw[aj ae]
 |f+1,0,es,i,_,h=>by unfold uG;rw[aj ae]
 |f+1,g+1,es,i,h1,h2=>by
  have hn:i+1<=vX P (i+1):=D7 _ _ _;unfold uG;dsimp only;rw[vJ P f g _ _ ae ae]
def N1 (P:List au):uG P P.length [] 1=uQ P [] 1:=vJ P _ _ _ _ ae ae
def N2 {P:List au}{es:List cY}{i:Nat}(h:P.length<=i):uQ P es i=(es,0,0):=by
 unfold uQ;rw[show P.length-i=0 by omega];rfl
def IX {P:List au}{es:List cY}{i:Nat}(h:i<P.length)(h1:(iL P[i]!).2.2=false):uQ P es i=([],2,(i:Int)+1):=by
 unfold uQ;obtain⟨f,hf⟩:∃f,P.length-i=f+1:=⟨P.length-i-1,ae⟩
 grind [uG]
def N0 {P:List au}{es:List cY}{i:Nat}(h:i<P.length)(h1:(iL P[i]!).2.2=true):uQ P es i=if ¬(qJ es (aS [] (slice P (i+1) (vX P (i+1)))) (iL P[i]!).1 (iL P[i]!).2.1).1=0 then([],(qJ es (aS [] (slice P (i+1) (vX P (i+1)))) (iL P[i]!).1 (iL P[i]!).2.1).1,(i:Int)+1)else uQ P (qJ es (aS [] (slice P (i+1) (vX P (i+1)))) (iL P[i]!).1 (iL P[i]!).2.1).2 (vX P (i+1)):=by
 have hn:i+1<=vX P (i+1):=D7 _ _ _;unfold uQ;obtain⟨f,hf⟩:∃f,P.length-i=f+1:=⟨P.length-i-1,ae⟩
 grind [uG,vJ,vX]
def uz {nm:au}{es:List cY}{e k:Int}(h:¬e=0):E4 nm (es,e,k)=(n4,e,k):=by unfold E4;rw[ax h]
end Go.Abs
namespace Go.Abs
variable {Y:Ctx}(hm:(Y.at 0).cd)
def Xz {nm:au}{es:List cY}{m:List (Nat×bR)}{l:Nat}{cs:List Sh}(hq:∀x:cY,D.agg (xL m cs x.D.cells)=x.D)(hl:look m l=some (.buf 11 (es.map cY.D))):xV m [.a,.sl 11 cs] (.agg [.str nm,.own l 11 0 es.length])=fk.D ⟨nm,es⟩:=by
 show D.agg [.str nm,.sl 11 _]=D.agg [.str nm,.sl 11 (es.map cY.D)];simp only[bn,hl,ct,aZ,List.map_map];exact ar (fun q=>D.agg [D.str nm,D.sl 11 q]) (List.map_congr_left fun x _=>hq x)
def Ua {nm:au}{es:List cY}{m:List (Nat×bR)}{l:Nat}{cs:List Sh}(hq:∀x:cY,R0 m cs x.D.cells)(hl:look m l=some (.buf 11 (es.map cY.D))):R1 m [.a,.sl 11 cs] (.agg [.str nm,.own l 11 0 es.length]):=by
 refine⟨rfl,⟨?_, ?_⟩,rfl⟩
 .simp[fM,hl]
 .simp only[bn,hl,ct,aZ];intro e he;obtain⟨x,_,rfl⟩:=dZ.1 he;exact hq x
def O6 {es:List cY}{t:au}{n:Int}{off:Bool}(h:¬(eI t).2.1=0):qJ es t n off=((eI t).2.1,[]):=by unfold qJ;rw[ax h]
def O7 {es:List cY}{t:au}{n:Int}{off:Bool}(h:(eI t).2.1=0)(h2:¬kG es (eI t).1 n=0):qJ es t n off=(kG es (eI t).1 n,[]):=by grind [qJ]
def SD {es:List cY}{t:au}{n:Int}{off:Bool}(h:(eI t).2.1=0)(h2:kG es (eI t).1 n=0):qJ es t n off=(0,es++[⟨(eI t).1,n,off⟩]):=by grind [qJ]
def MJ {es:List cY}{r:Rec}{n:Int}(h:kG es r n=0):es.length<64:=by
 grind [kG]
def Oe {α:Type}{l:List α}{a b:Nat}{x:α}(h:x∈slice l a b):x∈l:=lW (List.mem_of_mem_drop h)
end Go.Abs
namespace Go.Abs
variable {Y:Ctx}(hm:(Y.at 0).cd)
def Rk (t:au):fF (eI t).1:=by
 unfold eI;split
 .exact yi
 .rename_i h;dsimp only;have hL:Bw ((ak t 10).take ((ak t 10).length-1)):=fun u hu=>by
   have:=eJ t 10 (lW hu);omega
  grind [yi,Kk]
def QP (s:au):(cx s).length<=s.length+1:=by
 grind [yh,dG,cv]
end Go.Abs
end
section
namespace Go.Abs
variable {Y:Ctx}(hm:(Y.at 0).cd)
def mR (s:fk)(r:Rec):fk×Int:=if ji s=false then(n4,1)else if ¬(df r).2=0 then(n4,(df r).2)else if 0<=sG s.es r.name r.v 0 then(n4,8)else if 64<=s.es.length then(n4,10)else(⟨s.name,s.es++[⟨r,mC r,false⟩]⟩,0)
theorem MA {es:List cY}{x:cY}{i:Nat}(h:i<es.length):oa (es++[x]) i=oa es i:=by
 grind [oa]
theorem Mz {es:List cY}{x:cY}:oa (es++[x]) es.length=(decide ((df x.r).2=0)&&decide (mC x.r=x.sum)&&decide (sG es x.r.name x.r.v 0<0)):=by
 grind [oa]
theorem N6 {nm:au}{es:List cY}{x:cY}(h:ji ⟨nm,es⟩=true)(h1:(df x.r).2=0)(h2:mC x.r=x.sum)(h3:sG es x.r.name x.r.v 0<0)(h4:es.length<64):ji ⟨nm,es++[x]⟩=true:=by
 grind [ji,eF,MA,Mz]
def RO {es:List cY}{r:Rec}(hr:fe r.v=true)(h:∀x∈es,fe x.r.v=true):tX es r=decide (0<=sG es r.name r.v 0):=by
 grind [tX,Fu,DK,QS,sG]
def pc (l:List Int)(i:Int)(k:Nat):Rec:=Bf l (i+1+82*(k:Nat)) (1+fL l (i+1+82*(k:Nat)+80) 4)
def gEY (l:List Int)(i:Int)(k:Nat):Bool:=decide (fL l (i+1+82*(k:Nat)+81) 9=1)
def xw (l:List Int)(i:Int):Nat->List cY
 |0=>[]
 |k+1=>if 0<=sG (xw l i k) (pc l i k).name (pc l i k).v 0 then xw l i k else xw l i k++[⟨pc l i k,mC (pc l i k),gEY l i k⟩]
def mZ (l:List Int)(i:Int)(nm:au)(most:Nat):fk:=⟨nm,xw l i (fL l i ((most:Int)+1)).toNat⟩
theorem uD (l:List Int)(i:Int):∀k,(xw l i k).length<=k
 |0=>by simp[xw]
 |k+1=>by
  have:=uD l i k
  grind [xw]
theorem Dl (l:List Int)(i:Int)(k:Nat):(df (pc l i k)).2=0/\ED (pc l i k)/\cJ (pc l i k)=(0,0)/\(fY (pc l i k)).length<=800/\fF (pc l i k):=by
 have h:=PV l (i+1+82*(k:Nat)) (1+fL l (i+1+82*(k:Nat)+80) 4);have hp:=h.print;exact⟨by unfold pc;rw[hp],Wx _ _ _,h.check,h.len,h.sm⟩
structure xn (x:cY):Prop where
 w:ED x.r
 c:cJ x.r=(0,0)
 l:(fY x.r).length<=800
 s:mC x.r=x.sum
 m:fF x.r
def x6 (l:List Int)(i:Int):∀k,∀x∈xw l i k,xn x
 |0,x,h=>by cases h
 |k+1,x,h=>by
  unfold xw at h;split at h
  .exact x6 l i k x h
  .rcases List.mem_append.1 h with h|h
   .exact x6 l i k x h
   .rw[cN.1 h];obtain⟨_,h2,h3,h4,h5⟩:=Dl l i k;exact⟨h2,h3,h4,rfl,h5⟩
def Dm {nm:au}(hn:dN nm=true)(l:List Int)(i:Int):∀k,k<=64->ji ⟨nm,xw l i k⟩=true
 |0,_=>by simp[ji,xw,hn,ca]
 |k+1,h=>by
  have ih:=Dm hn l i k ae
  grind [uD,xw,N6,Dl,sG,pc]
def e8 (x:cY):List au:=eP (sB x)::iN x.r
theorem E1 {x:cY}(h:cJ x.r=(0,0)):zq x=jc (e8 x):=by
 grind [zq,e8,df,fY,tW,lA,sg]
def dW (es:List cY):List au:=(es.map e8).flatten
def BP:∀{es:List cY},(∀x∈es,cJ x.r=(0,0))->(es.map zq).flatten=jc (dW es)
 |[],_=>rfl
 |x::r,h=>by
  have:=BP (es:=r) fun y hy=>h y (.tail _ hy)
  grind [dW,oX,E1]
def Ja (n:Int):bX (gI n):=by
 refine⟨fun e=>(by have:=ke n;rw[e]at this;cases this),fun c hc=>?_⟩;unfold gI at hc;obtain⟨j,_,rfl⟩:=dZ.1 hc;have:∀k,k<16->sD k≠32/\sD k≠10:=aH
 exact this _ (zW _ _)
def zr:bX jk/\bX U0/\bX AU:=by unfold bX;decide
def HI (x:cY):∀w∈sB x,bX w:=by
 intro w hw;simp only[sB,bY,eu,or_false]at hw;rcases hw with rfl|rfl|rfl
 .exact zr.1
 .exact Ja _
 .split
  .exact zr.2.2
  .exact zr.2.1
def Wm {x:cY}(h:0<=x.sum/\x.sum<18446744073709551616):HH (eP (sB x))=(x.sum,x.off,true):=by
 unfold HH;rw[kd (by simp[sB]) (HI x)];have h1:wK (sB x)=true:=by
  unfold wK sB;cases x.off<;>simp
 rw[ax h1];have e1:(sB x)[1]! =gI x.sum:=rfl;have e2:decide ((sB x)[2]! =AU)=x.off:=by
  unfold sB;cases x.off<;>simp[U0,AU]
 grind [m7,gI,As,It]
def fw_E (x:cY):fw (eP (sB x))=jk:=by
 unfold fw;rw[kd (by simp[sB]) (HI x)];rfl
def Qm {l:List bN}(h:∀n∈l,EB n):∀t∈nV l,fw t≠jk:=by
 intro t ht;unfold nV at ht;obtain⟨x,hx,ht⟩:=List.mem_flatten.1 ht;obtain⟨n,hn,rfl⟩:=dZ.1 hx;have hw:=h n hn;unfold vT at ht;rcases bY.1 ht with rfl|ht
 .rw[o9 pS aT];decide
 rcases List.mem_append.1 ht with ht|ht
 .unfold kY at ht;obtain⟨w,hw2,rfl⟩:=dZ.1 ht;rw[AW,tq vr (tZ (hw.a w hw2))];decide
 rcases List.mem_append.1 ht with ht|ht
 .unfold kg at ht;split at ht
  .cases ht
  .rw[cN.1 ht,show([gS,n.when']:List au)=gS::([]++[n.when'])from rfl,tq nN aT];decide
 .unfold m4 at ht;split at ht
  .cases ht
  .rw[cN.1 ht,show([eh,n.option]:List au)=eh::([]++[n.option])from rfl,tq r6 aT];decide
def SG {l:List jm}(h:∀b∈l,OJ b):∀t∈mV l,fw t≠jk:=by
 intro t ht;unfold mV at ht;obtain⟨x,hx,ht⟩:=List.mem_flatten.1 ht;obtain⟨b,hb,rfl⟩:=dZ.1 hx;have hw:=h b hb;unfold BA at ht;rcases bY.1 ht with rfl|ht
 .rw[show([iQ,b.name,b.range]:List au)=iQ::([b.name]++[b.range])from rfl,tq r5 (by intro x hx;rw[cN.1 hx];exact hw.nm)];decide
 .unfold kg at ht;split at ht
  .cases ht
  .rw[cN.1 ht,show([gS,b.when']:List au)=gS::([]++[b.when'])from rfl,tq nN aT];decide
def Xj {r:Rec}(h:ED r):∀t∈iN r,fw t≠jk:=by
 intro t ht;unfold iN at ht;rcases bY.1 ht with rfl|ht
 .rw[o9 te (by
   intro x hx;simp only[bY,eu,or_false]at hx;rcases hx with rfl|rfl
   .exact h.nm
   .exact wz h.v)];decide
 unfold rL at ht;rcases List.mem_append.1 ht with ht|ht
 .exact Qm h.n t ht
 rcases List.mem_append.1 ht with ht|ht
 .exact SG h.b t ht
 .obtain⟨f,hf,rfl⟩:=dZ.1 ht;have hw:=h.f f hf;rw[kF,show([cH,f.name]++f.of:List au)=cH::(f.name::f.of)from rfl,o9 pR (by
   intro x hx;rcases bY.1 hx with rfl|hx
   .exact hw.nm
   .exact hw.o x hx)];decide
def TY {p:Nat->Bool}{k m n:Nat}(h1:k<=m)(h2:m<=n)(h3:∀j,k<=j->j<m->p j=false)(h4:m=n\/p m=true):sJ p k n=m:=by
 obtain⟨d,rfl⟩:∃d,m=k+d:=⟨m-k,ae⟩
 induction d generalizing k with
 |zero=>
  grind [AH,Gt]
 |succ d ih=>
  grind [Kr]
def Of {α:Type}(a b c:List α):slice (a++(b++c)) a.length (a.length+b.length)=b:=by
 grind [slice]
def JD {α:Type} [Inhabited α](a b c:List α)(j:Nat)(h:j<b.length):(a++(b++c))[a.length+j]! =b[j]! :=by
 grind
def Fm {L pre R:List au}{x:cY}(hL:L=pre++(e8 x++R))(hR:R=[]\/fw R[0]! =jk)(hx:ED x.r)(hs:0<=x.sum/\x.sum<18446744073709551616)(f:Nat)(es:List cY):
  xz L true (f+1) es pre.length=if ¬(qJ es (fY x.r) x.sum x.off).1=0 then([],(qJ es (fY x.r) x.sum x.off).1,(pre.length:Int)+1)else xz L true f (qJ es (fY x.r) x.sum x.off).2 (pre++e8 x).length:=by
 have hl:(e8 x).length=(iN x.r).length+1:=rfl;have hlen:L.length=pre.length+((e8 x).length+R.length):=by rw[hL];simp
 have h0:L[pre.length]! =eP (sB x):=by
  have:=JD pre (e8 x) R 0 ae;rw[hL];rw[Nat.add_zero]at this;rw[this];rfl
 have hn:FO L (pre.length+1)=pre.length+(e8 x).length:=by
  refine TY ae ae (fun j h1 h2=>?_) ?_
  .obtain⟨d,rfl⟩:∃d,j=pre.length+(d+1):=⟨j-pre.length-1,ae⟩
   have:=JD pre (e8 x) R (d+1) ae;rw[hL,this];have hd:(e8 x)[d+1]! =(iN x.r)[d]! :=by simp[e8]
   rw[hd];exact cT (Xj hx _ (bB ae))
  grind
 have hb:slice L (pre.length+1) (pre.length+(e8 x).length)=iN x.r:=by
  have:=Of (pre++[eP (sB x)]) (iN x.r) R
  grind [e8,iN]
 rw[xz,ax ae,h0,Wm hs,hn,hb];simp only[oN,Bool.true_or,BG,ba,<-tW,Bool.true_eq_false,or_self,bc,bF]
def xn.tO {x:cY}(h:xn x):0<=x.sum/\x.sum<18446744073709551616:=by
 rw[<-h.s];unfold mC;split
 .decide
 .exact I8 _
def EK {es:List cY}{x:cY}(h:xn x):qJ es (fY x.r) x.sum x.off=if ¬kG es x.r x.sum=0 then(kG es x.r x.sum,[])else(0,es++[x]):=by
 unfold qJ;rw[NG h.w h.c];simp
def Dx:∀{rest:List cY}{L pre R:List au}{es:List cY}{nm:au} (f:Nat),(∀x∈es++rest,xn x)->ji ⟨nm,es++rest⟩=true->L=pre++(dW rest++R)->(R=[]\/fw R[0]! =jk)->
  xz L true (rest.length+f) es pre.length=xz L true f (es++rest) (pre++dW rest).length
 |[],L,pre,R,es,nm,f,_,_,_,_=>by simp[dW]
 |x::r,L,pre,R,es,nm,f,hg,hs,hL,hR=>by
  have hx:=hg x aT;have hL2:L=pre++(e8 x++(dW r++R)):=by rw[hL];simp[dW]
  have hR2:dW r++R=[]\/fw (dW r++R)[0]! =jk:=by
   match r with
   |[]=>simpa[dW]using hR
   |y::q=>right;simp only[dW,List.map_cons,List.flatten_cons,e8,fg];exact fw_E y
  have hfit:kG es x.r x.sum=0:=by
   have h1:=hs;unfold ji at h1;simp only[bx,aV,eF,bF,az]at h1;have h2:=h1.2 es.length ae ae;unfold oa at h2;have e1:(es++x::r)[es.length]! =x:=aT;rw[e1,List.take_left' rfl]at h2;simp only[bx,aV]at h2;unfold kG;rw[aj (by rw[h2.1.2];simp),aj,aj ae];rw[RO hx.w.v (fun y hy=>(hg y (List.mem_append_left _ hy)).w.v)];simp only[aV];omega
  have ha:qJ es (fY x.r) x.sum x.off=(0,es++[x]):=by rw[EK hx,aj (fun h=>h hfit)]
  rw[show(x::r).length+f=(r.length+f)+1 by simp;omega,Fm hL2 hR2 hx.w hx.tO,ha,aj (fun h=>h rfl)];have:=Dx (rest:=r) (L:=L) (pre:=pre++e8 x) (R:=R) (es:=es++[x]) (nm:=nm) f (by simpa using hg) (by simpa using hs) (by rw[hL2];simp) hR;rw[this];simp[dW]
def DB {es:List cY}(h:∀x∈es,xn x):∀t∈dW es,iJ t:=by
 intro t ht;unfold dW at ht;obtain⟨y,hy,ht⟩:=List.mem_flatten.1 ht;obtain⟨x,hx,rfl⟩:=dZ.1 hy;rcases bY.1 ht with rfl|ht
 .exact fJ fun w hw=>EH (HI x w hw)
 .exact wR (h x hx).w t ht
def ml (nm:au):au:=eP [fC,nm]
theorem HR {nm:au}(h:dN nm=true):∀w∈[fC,nm],bX w:=by
 grind [Gv,JT]
theorem Qd {L:List au}(h:∀t∈L,iJ t):cv (jc L)=(L,true):=by
 grind [xg,cv]
def xh {nm:au}{es:List cY}(h:∀x∈es,xn x):eL ⟨nm,es⟩=jc (ml nm::dW es):=by
 unfold eL ml;rw[lA,BP fun x hx=>(h x hx).c];rfl
def Cr {nm:au}(hn:dN nm=true){L:List au}(hL:∀t∈L,iJ t)(hl:(jc (ml nm::L)).length<=524288):RE (jc (ml nm::L))=E4 nm (xz (ml nm::L) true (L.length+1) [] 1):=by
 have hc:∀t∈ml nm::L,iJ t:=by
  intro t ht;rcases bY.1 ht with rfl|ht
  .exact fJ fun w hw=>EH (HR hn w hw)
  .exact hL t ht
 have hh:B2 (ml nm)=some nm:=by
  grind [B2,ml,kd,HR]
 grind [RE,Qd]
def I2 {nm:au}{es:List cY}(h:∀x∈es,xn x)(hs:ji ⟨nm,es⟩=true)(hl:(eL ⟨nm,es⟩).length<=524288):RE (eL ⟨nm,es⟩)=(⟨nm,es⟩,0,0):=by
 have hn:dN nm=true:=by
  grind [ji]
 rw[xh h]at hl⊢;rw[Cr hn (DB h) hl];have hk:es.length<=(dW es).length+1:=by
  have:∀es:List cY,es.length<=(dW es).length:=by
   intro es;induction es with
   |nil=>exact aP _
   |cons x r ih=>simp only[dW,List.map_cons,List.flatten_cons,bF,az,e8]at ih⊢;omega
  have:=this es;omega
 obtain⟨f,hf⟩:∃f,(dW es).length+1=es.length+f:=⟨(dW es).length+1-es.length,ae⟩
 have:=Dx (rest:=es) (L:=ml nm::dW es) (pre:=[ml nm]) (R:=[]) (es:=[]) (nm:=nm) f (by simpa using h) (by simpa using hs) aT (.inl rfl);simp only[az,aB,fE]at this;rw[hf,this];have he:xz (ml nm::dW es) true f es ([ml nm]++dW es).length=(es,0,0):=by
  cases f with
  |zero=>rfl
  |succ f=>rw[xz,aj aT]
 rw[he];simp[E4]
end Go.Abs
namespace Go.Abs
variable {Y:Ctx}(hm:(Y.at 0).cd)
def dm:au:=[111,110,101]
def Mn:au:=[115,104,101,108,102,32,111,110,101,10]
def Ht:au:=[115,104,101,108,102,32,111,110,101,10,101,110,116,114,121,32,48,32,111,110,10]
def aws_p:lN ⟨dm,[]⟩=(Mn,0):=by decide+kernel
def aws_1:lj Mn=(⟨dm,[]⟩,0,0):=by decide+kernel
def UA:(lj Ht).2=(2,2):=by decide+kernel
def Wd:(cx Mn).length=1:=by decide+kernel
def Pe:(cx Ht).length=2/\(iL (cx Ht)[1]!).2.2=false:=by decide+kernel
def We:noE Mn:=fun i h1 h2=>by rw[Wd]at h2;omega
def Wf:noE Ht:=fun i h1 h2=>by
 rw[Pe.1]at h2;obtain rfl:i=1:=ae;exact Pe.2
end Go.Abs
end
namespace Go.Abs
variable {Y:Ctx}(hm:(Y.at 0).cd)
def Wq {a b:cY}(h:(a.sum=b.sum/\a.r=b.r)/\a.off=b.off):a=b:=by cases a;cases b;simp_all
def Xn {a b:fk}(h1:a.name=b.name)(h2:a.es.length=b.es.length)(h:∀j,j<a.es.length->a.es[j]! =b.es[j]!):a=b:=by
 cases a;cases b;simp only at h1 h2 h;rw[fk.mk.injEq];refine⟨h1,List.ext_getElem h2 fun j a b=>?_⟩;have:=h j a
 rwa [getElem!_pos _ j a,getElem!_pos _ j b]at this
def od (s:fk)(r:Rec):List cY:=s.es++[⟨r,mC r,false⟩]
def PutQ (s:fk)(r:Rec):D->List (Nat×bR)->Prop:=fun d m=>(¬(mR s r).2=0/\d=.tup [.agg [.str [],.aD],.int .i64 (mR s r).2])\/
 ((mR s r).2=0/\∃j,d=.tup [.agg [.str s.name,.own j 11 0 (od s r).length],.int .i64 0]/\look m j=some (.buf 11 ((od s r).map cY.D)))
def PT {nm:au}(hn:dN nm=true)(l:List Int)(i:Int){k:Nat}(hk:k<64):(mR ⟨nm,xw l i k⟩ (pc l i k)).2=if 0<=sG (xw l i k) (pc l i k).name (pc l i k).v 0 then 8 else 0:=by
 have h1:=Dm hn l i k ae;have h2:=(Dl l i k).1;have h3:=uD l i k;unfold mR;rw[aj (by rw[h1];simp),aj (fun h=>h h2)];split
 .rfl
 .rw[aj (show ¬64<=(xw l i k).length by omega)]
def S5 {nm:au}(hn:dN nm=true){l:List Int}{i:Int}{k:Nat}(hk:k<64)(h:(mR ⟨nm,xw l i k⟩ (pc l i k)).2=0):xw l i (k+1)=xw l i k++[⟨pc l i k,mC (pc l i k),gEY l i k⟩]:=by
 rw[PT hn l i hk]at h;split at h
 .cases h
 .rename_i h1;rw[xw,aj h1]
def Ww {nm:au}(hn:dN nm=true){l:List Int}{i:Int}{k:Nat}(hk:k<64)(h:¬(mR ⟨nm,xw l i k⟩ (pc l i k)).2=0):xw l i (k+1)=xw l i k:=by
 rw[PT hn l i hk]at h;split at h
 .rename_i h1;rw[xw,ax h1]
 .exact absurd rfl h
def stY (es:List cY)(x:cY)(b:Bool):((es++[x]).map cY.D).set es.length (uT (((es++[x]).map cY.D).getD es.length .any) 11 1 10 (.bool b))=(es++[{x with off:=b}]).map cY.D:=by
 rw[List.map_append,List.map_cons,List.map_nil,PX _ _ _ _ aT,RC _ _ _ _ aT,List.map_append];rfl
def Dp {l:List Int}{i:Int}{nm:au}{n:Nat}:∀x∈(mZ l i nm n).es,xn x:=x6 l i _
def JA {l:List Int}{i:Int}{nm:au}{n:Nat}:(mZ l i nm n).es.length<=n:=by
 have h1:=uD l i (fL l i ((n:Int)+1)).toNat;have h2:=dw l i ((n:Int)+1) ae;show(xw l i _).length<=n;omega
def pZ {l:List Int}{i:Int}{nm:au}{n:Nat}(hn:dN nm=true)(h:n<=64):ji (mZ l i nm n)=true:=by
 have h2:=dw l i ((n:Int)+1) ae;exact Dm hn l i _ ae
def Cm {s:fk}(h:ji s=true):lN s=(eL s,0):=by unfold lN;rw[aj (by rw[h];simp)]
def wv {s:fk}(h:ji s=true):(eL s).length<=524288:=by
 obtain⟨h1,h2⟩:=Kt h;have:=yn (s:=s) ae (aP _);rw[Ee]at this;omega
def PW {l:List Int}{i:Int}{nm:au}{n:Nat}(hn:dN nm=true)(h:n<=64):lj (eL (mZ l i nm n))=(mZ l i nm n,0,0):=by
 rw[Ki];exact I2 (nm:=nm) (es:=(mZ l i nm n).es) (Dp (nm:=nm)) (pZ hn h) (wv (pZ hn h))
def qd:dN dm=true:=by decide+kernel
def N7 {nm:au}{es:List cY}(h:ji ⟨nm,es⟩=true)(n:Nat):ji ⟨nm,es.take n⟩=true:=by
 unfold ji at h⊢;simp only[bx,aV,eF,ff]at h⊢;refine⟨⟨h.1.1,ae⟩,fun j h1 h2=>?_⟩;have h3:=h.2 j h1 ae;have e:(es.take n)[j]! =es[j]! :=by rw[getElem!_pos (es.take n) j cM,getElem!_pos es j ae,List.getElem_take]
 unfold oa at h3⊢;rw[e,List.take_take,Nat.min_eq_left ae];exact h3
def RI {x:cY}:(eL ⟨dm,[x]⟩).drop 10=zq x:=by
 unfold eL;rw[List.map_cons,List.map_nil,List.flatten_cons,List.flatten_nil,gG];exact List.drop_left' (show(b7 [fC,dm]).length=10 by decide)
def Oo {es:List cY}(h:∀x∈es,xn x)(hs:ji ⟨dm,es⟩=true)(hl:es.length<=60)(hne:es.length≠0):lj (eL ⟨dm,es⟩++(eL ⟨dm,es.take 1⟩).drop 10)=(n4,8,1+(((eL ⟨dm,es⟩).count 10:Nat):Int)):=by
 obtain⟨x,r,rfl⟩:∃x r,es=x::r:=by
  match es,hne with
  |x::r,_=>exact⟨x,r,rfl⟩
 generalize he:x::r=es at*
 have hx:xn x:=h x (by rw[<-he];exact .head _);have hxm:x∈es:=by rw[<-he];exact .head _
 rw[show es.take 1=[x]by rw[<-he];rfl,RI,Ki];have hlen:(eL ⟨dm,es⟩++zq x).length<=524288:=by
  have h1:=yn (s:=⟨dm,es⟩) (show dm.length<=100 by decide) (aP _);rw[Ee]at h1;have h2:=E0 x;rw[bF];simp only at h1;omega
 have hcl:=DB h;have hcx:∀t∈e8 x,iJ t:=by
  have:=DB (es:=[x]) (by simpa using hx);simpa[dW]using this
 rw[xh h]at hlen⊢;rw[E1 hx.c,<-oX,fg]at hlen⊢;rw[Cr qd (fun t ht=>(List.mem_append.1 ht).elim (hcl t) (hcx t)) hlen];have hk:es.length<=(dW es).length:=by
  have:∀es:List cY,es.length<=(dW es).length:=by
   intro es;induction es with
   |nil=>exact aP _
   |cons x r ih=>simp only[dW,List.map_cons,List.flatten_cons,bF,az,e8]at ih⊢;omega
  exact this es
 have hxl:(e8 x).length=(iN x.r).length+1:=rfl;obtain⟨f,hf⟩:∃f,(dW es++e8 x).length+1=es.length+(f+1):=⟨(dW es++e8 x).length-es.length,by rw[bF];omega⟩
 have h1:=Dx (rest:=es) (L:=ml dm::(dW es++e8 x)) (pre:=[ml dm]) (R:=e8 x) (es:=[]) (nm:=dm) (f+1) (by simpa using h) (by simpa using hs) aT (.inr (fw_E x));simp only[az,aB,fE]at h1;rw[hf,h1];rw[Fm (L:=ml dm::(dW es++e8 x)) (pre:=[ml dm]++dW es) (R:=[]) (x:=x) aT (.inl rfl) hx.w hx.tO f es];have hfit:kG es x.r x.sum=8:=by
  unfold kG;rw[aj (fun h=>h hx.s),ax];unfold tX;rw[List.any_eq_true];exact⟨x,hxm,by simp[BL]⟩
 rw[EK hx,hfit];rw[ax (show ¬(8:Int)=0 by decide),ax (show ¬(8:Int)=0 by decide),uz aH];have hcn:=BM (L:=ml dm::dW es) (fun t ht=>by
  rcases bY.1 ht with rfl|ht
  .exact fJ fun w hw=>EH (HR qd w hw)
  .exact hcl t ht)
 rw[hcn];simp only[az,bF,aB,eo,cK];omega
structure ShG (s:fk)(n:Nat):Prop where
 b:ji s=true
 m:∀x∈s.es,fF x.r
 p:lN s=(eL s,0)
 r:lj (eL s)=(s,0,0)
 l:(eL s).length<=524288
 n:s.es.length<=n
 o:s.name=dm
def gSh_G (l:List Int)(i:Int){n:Nat}(h:n<=64):ShG (mZ l i dm n) n:=
 ⟨pZ qd h,fun x hx=>(Dp (nm:=dm) x hx).m,Cm (pZ qd h),PW qd h,wv (pZ qd h),JA,rfl⟩
def T0 {l:List Int}{i:Int}{n:Nat}(h:n<=60)(hne:¬(mZ l i dm n).es.length=0):lN ⟨dm,(mZ l i dm n).es.take 1⟩=(eL ⟨dm,(mZ l i dm n).es.take 1⟩,0)/\10<=(eL ⟨dm,(mZ l i dm n).es.take 1⟩).length/\(eL ⟨dm,(mZ l i dm n).es.take 1⟩).length<=524288/\
  lj (eL (mZ l i dm n)++(eL ⟨dm,(mZ l i dm n).es.take 1⟩).drop 10)=(n4,8,1+(((eL (mZ l i dm n)).count 10:Nat):Int)):=by
 have h1:=N7 (nm:=dm) (pZ (l:=l) (i:=i) (n:=n) qd ae) 1;have h2:=JA (l:=l) (i:=i) (nm:=dm) (n:=n);refine⟨Cm h1, ?_,wv h1,Oo (es:=(mZ l i dm n).es) (Dp (nm:=dm)) (pZ qd ae) (dc h2 h) hne⟩;unfold eL;rw[bF,show(b7 [fC,dm]).length=10 by decide];omega
def join_one {l:List au}(h:l≠[]):aS [10] l++[10]=jc l:=by
 rw[<-zK];induction l with
 |nil=>exact absurd rfl h
 |cons a r ih=>
  match r with
  |[]=>simp[aS]
  |b::q=>
   have:=ih aT;simp only[fg,aS,dY]at this⊢;rw[this]
def K8 (T:List D->D->Prop):Prop:=∀(s:au),(s.length<=1048576)->T [.str s,.str [10],.int .i64 1,.int .i64 (-1)] (.sl 1 ((jt s).map D.str))
def Yd (Y:Ctx):Prop:=K8 (br Y 331)
def KW (T:List D->D->Prop):Prop:=∀(s:au),(s.length<=1048576)->T [.str s,.str [10]] (.tup [.str (bH s).1,.bool (bH s).2])
def X4 (Y:Ctx):Prop:=KW (br Y 244)
def R9 (T:List D->D->Prop):Prop:=∀(s:au),(s.length<=1048576)->(noE s)->T [.str s] (.tup [fk.D (lj s).1,.int .i64 (lj s).2.1,.int .i64 (lj s).2.2])
def Um (Y:Ctx):Prop:=R9 (br Y 86)
section
section
variable [dD] {P:Program} {ν:List (Nat×Nat)} {cQ:List Nat} {t:List (Nat×qx)} {fid n key u k:Nat} {af:aF} {alI:List D} {nx:Nat} {m:List (Nat×bR)} {K:D->St->Prop}
def On {a:D}{k q i:Nat}{es:List D}{m1:List (Nat×bR)}(ha:a.bE=true)(hes:bC es=true)(hmix:P.follows .mixedOrders=true)(hC:OD P ν cQ fid af)(hnp:1=af.np)
  (hl:look m1 q=some (.buf k es)) (hK:K (.own nx k 0 i) ⟨nx+1,(nx,.buf k es)::m⟩) (hw:bG ((under t key u).at 0) af.body (m8 af (One (.own q k 0 i) m1)) (gy af [a]) ⟨0,[]⟩):qn P ν cQ (under t key u) fid [a] ⟨nx,m⟩ K:=by
 refine BZ (σi:=[]) (m0:=[]) (cs:=[a]) (fun q=>AP t key u q) hmix hC rfl ?_ hnp rfl (fun _ _ h=>by cases h) (fun _ _ h=>by cases h) hw ?_
 .intro i hi
  match i,hi with
  |0,_=>exact .inl ⟨rfl,ha⟩
 .rintro d m2 ⟨rfl,rfl⟩;refine⟨[(q,nx)],q+1,_,.own nx k 0 i,⟨rfl, ?_,Nat.le_succ _,(fun _ _ h=>by cases h), ?_,(fun _ _ h=>by cases h), ?_⟩,.inr (.inl (by simp[vb,Km,oy])),hK⟩
  .simp[iY]
  .grind
  .intro l bb h;simp only[look]at h;split at h
   .rename_i e;subst e;obtain rfl:=ch h;exact .inl ⟨q,_,.head _,hl,rfl,.inl ⟨rfl,hes⟩⟩
   .rename_i hn;exact .inr ⟨by simp only[nk,aj hn],(fun _ h=>by cases h),h⟩
end
end
section
section
variable [dD] {P:Program} {ν:List (Nat×Nat)} {cQ:List Nat} {t:List (Nat×qx)} {fid n key u k:Nat} {af:aF} {nx:Nat} {m:List (Nat×bR)} {K:D->St->Prop}
def Q3 {s:fk}{r:Rec}(hmix:P.follows .mixedOrders=true)(hC:OD P ν cQ fid af)(hnp:2=af.np)
  (hK1:¬(mR s r).2=0->K (.tup [.agg [.str [],.aD],.int .i64 (mR s r).2]) ⟨nx,m⟩)
  (hK2:(mR s r).2=0->K (.tup [.agg [.str s.name,.own nx 11 0 (od s r).length],.int .i64 0]) ⟨nx+1,(nx,.buf 11 ((od s r).map cY.D))::m⟩)
  (hw:bG ((under t key u).at 0) af.body (m8 af (PutQ s r)) (gy af [s.D,r.D]) ⟨0,[]⟩):qn P ν cQ (under t key u) fid [s.D,r.D] ⟨nx,m⟩ K:=by
 refine BZ (σi:=[]) (m0:=[]) (cs:=[s.D,r.D]) (fun q=>AP t key u q) hmix hC rfl ?_ hnp rfl (fun _ _ h=>by cases h) (fun _ _ h=>by cases h) hw ?_
 .intro i hi
  match i,hi with
  |0,_=>exact .inl ⟨rfl,rfl⟩
  |1,_=>exact .inl ⟨rfl,rfl⟩
 .rintro d m1 (⟨h,rfl⟩|⟨h,j,rfl,hj⟩)
  .exact⟨[],0,_,_,⟨rfl,rfl,aP _,(fun _ _ h=>by cases h),(fun _ _ h=>by cases h),(fun _ _ h=>by cases h),fun l b h=>.inr ⟨rfl,(fun _ h=>by cases h),h⟩⟩,.inl ⟨rfl,rfl⟩,hK1 h⟩
  .refine⟨[(j,nx)],j+1,_,_,⟨rfl, ?_,Nat.le_succ _,(fun _ _ h=>by cases h), ?_,(fun _ _ h=>by cases h), ?_⟩,.inr (.inl (by simp[vb,sI,Km,oy])),hK2 h⟩
   .simp[iY]
   .intro i l h;obtain⟨rfl,rfl⟩:=Prod.mk.inj (cN.1 h);exact .inr (aP _)
   .intro l bb h;simp only[look]at h;split at h
    .rename_i e;subst e;obtain rfl:=ch h;exact .inl ⟨j,_,.head _,hj,rfl,.inl ⟨rfl,cg (fun _=>rfl) _⟩⟩
    .rename_i hn;exact .inr ⟨by simp only[nk,aj hn],(fun _ h=>by cases h),h⟩
end
end
def H2:aF:=⟨2,5,[⟨2,none⟩],bQ,(sq (r1 [gm bp] 2 0) (sq (r1 [gm s0,gm s1,gn (.bin .rem l0 l1),gm l2] 3 3) (sq (sq (r1 [gm s3,aO l0 bp] 4 1) (.cond s4 (r1 [gm s3,gm s1,aw l0 l1,gm l2] 3 3) .skip)) (sq (r1 [gm s3,gm l0] 2 1) .ret))))⟩
def w478 {Y:Ctx}(hm:(Y.at 0).cd)  (v:Int)(n:Int)  (hp0:0<n/\n<=9223372036854775807):de Y H2 (.int .i64 (v%n)) [.int .i64 v,.int .i64 n]:=by
 show bG _ _ _ [⟨_,_⟩,⟨_,_⟩,_,_,_] _;refine aq ?_;refine aI ?_;refine Kd (v.tmod n) (hn:=by intro _;omega) (hb:=fun _=>rfl) ?_;have ht:=Jb v n ae;refine aY ?_;refine cC (fun hc0=>?_) fun hc0=>?_
 .refine fT ?_;refine cS ?_;exact TK hp0.1 hc0
 refine aG ?_;refine cS ?_;exact TL hp0.1 hc0
def Lq (T:List D->D->Prop):Prop:=∀(v:Int) (n:Int),(0<n/\n<=9223372036854775807)->T [.int .i64 v,.int .i64 n] (.int .i64 (v%n))
def OR (Y:Ctx):Prop:=Lq (br Y 478)
def Tt:aF:=⟨2,4,[⟨2,none⟩],bQ,(sq (r1 [gm bp] 2 0) (sq (sq (r1 [gm s1,aO l0 bp,gm l1,eO 2 s1,eO 2 s0,cl 2 (.len l4),cl 2 (sP l3 l5),eW l2 l6] 3 7) (.cond s3 (sq (r1 [gm bp] 2 0) .ret) .skip)) (sq (r1 [gm s0,gm s1,ga 1 l0 l1,gd l2,gm l3] 2 4) .ret)))⟩
def w479 {Y:Ctx}(hm:(Y.at 0).cd)  (l:List Int)(i:Int)   :de Y Tt (.int .i64 (kq l i)) [.sl 1 (l.map (D.int .i64)),.int .i64 i]:=by
 show bG _ _ _ [⟨_,_⟩,⟨_,_⟩,_,_] _;refine aq ?_;refine c7 ?_;refine jI ?_;refine aA ?_;refine cC (fun hc0=>?_) fun hc0=>?_
 .refine aI ?_;refine cS ?_;simp only[kq];rw[ax hc0]
 refine aE ?_;refine Q8 ?_;refine aE ?_;refine cS ?_;simp only[kq];rw[aj ae]
def Lr (T:List D->D->Prop):Prop:=∀(l:List Int) (i:Int),T [.sl 1 (l.map (D.int .i64)),.int .i64 i] (.int .i64 (kq l i))
def So (Y:Ctx):Prop:=Lr (br Y 479)
def M0:aF:=⟨3,4,[⟨3,none⟩],bQ,(sq (r1 [gm bp] 3 0) (sq (r1 [gm s0,gm s1,gx 479 [l0,l1] [[.sl 1 [.a]],[.a]],gm s2,gx 478 [l2,l3] fQ,gm l4] 3 5) .ret))⟩
def w228 {Y:Ctx}(hm:(Y.at 0).cd)(h478:OR Y)(h479:So Y)(l:List Int)(i:Int)(n:Int)  (hp0:0<n/\n<=9223372036854775807):de Y M0 (.int .i64 (fL l i n)) [.sl 1 (l.map (D.int .i64)),.int .i64 i,.int .i64 n]:=by
 show bG _ _ _ [⟨_,_⟩,⟨_,_⟩,⟨_,_⟩,_] _;refine aq ?_;refine aI ?_;refine ai (hc:=h479 l i) ?_;refine aC ?_;refine ai (hc:=h478 _ n hp0) ?_;refine aA ?_;exact cS rfl
def KP (T:List D->D->Prop):Prop:=∀(l:List Int) (i:Int) (n:Int),(0<n/\n<=9223372036854775807)->T [.sl 1 (l.map (D.int .i64)),.int .i64 i,.int .i64 n] (.int .i64 (fL l i n))
def Hl (Y:Ctx):Prop:=KP (br Y 228)
def M1:aF:=⟨1,2,gQ,bQ,(sq (r1 [gm cse] 1 0) (sq (r1 [gn (.build [.str [],.str [],.str [],.str [],.str []] [(0,1,(cs [97,112,112])),(1,1,(cs [98])),(2,1,(cs [99])),(3,1,(cs [100])),(4,1,(cs [101,45,50]))]),gm s0,gx 478 [l1,Hf] fQ,gn (.ixA 5 1 false l0 l2),gm l3] 1 4) .ret))⟩
def w227 {Y:Ctx}(hm:(Y.at 0).cd)(h478:OR Y)(n:Int)   :de Y M1 (.str (eN n)) [.int .i64 n]:=by
 show bG _ _ _ [⟨_,_⟩,_] _;refine aq ?_;refine aA ?_;have hr:=nC n 5 aH;refine du (Qp.map D.str) ?_;refine aC ?_;refine ai (hc:=h478 n 5 aH) ?_;refine Kc (n%5).toNat (.str Qp[(n%5).toNat]!) (hj:=fun _=>ae) (hb:=fun _=>ae) (hv:=fun _=>um Qp (by show _<5;omega)) ?_;refine aA ?_;exact cU rfl
def KO (T:List D->D->Prop):Prop:=∀(n:Int),T [.int .i64 n] (.str (eN n))
def Ve (Y:Ctx):Prop:=KO (br Y 227)
def M6:aF:=⟨1,2,gQ,bQ,(sq (r1 [gm cse] 1 0) (sq (r1 [gn (.build [.str [],.str [],.str [],.str []] [(0,1,(cs [120])),(1,1,(cs [121])),(2,1,(cs [122])),(3,1,(cs [119,95,49]))]),gm s0,gx 478 [l1,sE] fQ,gn (.ixA 4 1 false l0 l2),gm l3] 1 4) .ret))⟩
def w481 {Y:Ctx}(hm:(Y.at 0).cd)(h478:OR Y)(n:Int)   :de Y M6 (.str (mi n)) [.int .i64 n]:=by
 show bG _ _ _ [⟨_,_⟩,_] _;refine aq ?_;refine aA ?_;have hr:=nC n 4 aH;refine du (T5.map D.str) ?_;refine aC ?_;refine ai (hc:=h478 n 4 aH) ?_;refine Kc (n%4).toNat (.str T5[(n%4).toNat]!) (hj:=fun _=>ae) (hb:=fun _=>ae) (hv:=fun _=>um T5 (by show _<4;omega)) ?_;refine aA ?_;exact cU rfl
def Lt (T:List D->D->Prop):Prop:=∀(n:Int),T [.int .i64 n] (.str (mi n))
def Vq (Y:Ctx):Prop:=Lt (br Y 481)
def Qb:aF:=⟨2,6,[⟨2,none⟩],bQ,(sq (r1 [gm cse] 2 0) (sq (r1 [gn (.build [.int .i64 0,.int .i64 0,.int .i64 0,.int .i64 0,.int .i64 0,.int .i64 0] [(0,1,Ev),(1,1,OG),(2,1,vI),(3,1,ko),(4,1,bV),(5,1,kr)]),gb 6 (.c (.agg [.int .i64 0,.int .i64 0,.int .i64 0,.int .i64 0,.int .i64 0,.int .i64 0])),gt 6 l1 l0] 3 1) (sq (r2 [gm s0,gm s1,gx 228 [l0,l1,vI] [[.sl 1 [.a]],[.a],[.a]],gn (.iaP 6 1 s3 l2),gd l3,gm s0,gm s1,aw l6 bV,gx 228 [l5,l7,ko] [[.sl 1 [.a]],[.a],[.a]],gm s0,gm s1,aw l10 kr,gx 228 [l9,gh,kr] [[.sl 1 [.a]],[.a],[.a]],gn (.build [.int .i64 0,.int .i64 0,.int .i64 0,.str [],.str []] [(0,1,l8),(1,1,iE)]),gn (.build [.int .i64 0,.int .i64 0,.int .i64 0,.int .i64 0,.int .i64 0,.str [],.str []] [(0,1,l4),(1,1,ko),(2,5,jr)]),gb 7 (.c (.agg [.int .i64 0,.int .i64 0,.int .i64 0,.int .i64 0,.int .i64 0,.str [],.str []])),gt 7 lr j5] 4 15) (sq (sq (r1 [gf 0 s4,gd l0,aL l1 Ev] 5 2) (.cond s5 (sq (r1 [gm (cs [42])] 2 0) .ret) .skip)) (sq (r1 [gk 7 true s4,gx 482 [l0] Sd,gm l1] 2 2) .ret)))))⟩
def w230 {Y:Ctx}(hm:(Y.at 0).cd)(h228:Hl Y)(h482:Sp Y)(l:List Int)(i:Int)  (hp0:0<=i/\i<=4000000):de Y Qb (.str (tu l i)) [.sl 1 (l.map (D.int .i64)),.int .i64 i]:=by
 show bG _ _ _ [⟨_,_⟩,⟨_,_⟩,_,_,_,_] _;refine aq ?_;refine aA ?_;refine du (Io.map (D.int .i64)) ?_;refine aC ?_;refine aU (.agg (Io.map (D.int .i64))) (he:=bd) ?_;refine ay ?_;have hr:=dw l i 6 aH;refine ay ?_;refine ai (hc:=h228 l (i) 6 aH) ?_;refine rE (fL l i 6).toNat (hj:=fun _=>ae) (hb:=fun _=>ae) ?_;refine bD (v:=.int .i64 Io[(fL l i 6).toNat]!) (hv:=fun _=>H5 Io (by show _<6;omega) rfl) (ho:=ae) ?_;refine aA ?_;refine ai (hc:=h228 l (i+1) 3 aH) ?_;refine aA ?_;refine ai (hc:=h228 l (i+2) 2 aH) ?_;refine bA (cZ.D (xu l i).v) ?_;refine bA (dr.D (xu l i)) ?_;refine aC ?_;refine aU (dr.D (xu l i)) (he:=bd) ?_;refine aE ?_;refine bD (v:=.int .i64 (xu l i).op) ?_;refine ay ?_;refine cC (fun hc0=>?_) fun hc0=>?_
 .refine aI ?_;refine cU ?_;unfold tu;rw[ax hc0]
 refine ay ?_;refine cy (d:=dr.D (xu l i)) ?_;refine ai (hc:=h482 (xu l i) (SV l i)) ?_;refine aA ?_;refine cU ?_;unfold tu;rw[aj hc0]
def KR (T:List D->D->Prop):Prop:=∀(l:List Int) (i:Int),(0<=i/\i<=4000000)->T [.sl 1 (l.map (D.int .i64)),.int .i64 i] (.str (tu l i))
def Vf (Y:Ctx):Prop:=KR (br Y 230)
def M4:aF:=⟨2,5,[⟨2,none⟩],bQ,(sq (r1 [gm cse] 2 0) (sq (r1 [gm s0,gm s1,gx 228 [l0,l1,vI] [[.sl 1 [.a]],[.a],[.a]],gm l2] 3 3) (sq (sq (r1 [gm s3,dd l0 kr] 4 1) (.cond s4 (sq (r1 [gm cse] 2 0) .ret) .skip)) (sq (r2 [gn (.build [.str [],.str [],.str []] [(0,1,(cs [111,115])),(1,1,(cs [97,114,99,104])),(2,1,(cs [97,98,105]))]),gm s3,gn (.ixA 3 1 false l0 l1),gn (.build [.str [],.str []] [(0,1,(cs [32,61,32])),(1,1,(cs [32,33,61,32]))]),gm s0,gm s1,aw l5 bV,gx 228 [l4,l6,kr] [[.sl 1 [.a]],[.a],[.a]],gn (.ixA 2 1 false l3 l7),aw l2 l8,gm s0,gm s1,aw gh bV,gx 228 [l10,iE,ko] [[.sl 1 [.a]],[.a],[.a]],aw bV jr,gx 481 [j5] bQ,aw l9 lr,gm mK] 2 17) .ret))))⟩
def w231 {Y:Ctx}(hm:(Y.at 0).cd)(h228:Hl Y)(h481:Vq Y)(l:List Int)(i:Int)  (hp0:0<=i/\i<=4000000):de Y M4 (.str (mg l i)) [.sl 1 (l.map (D.int .i64)),.int .i64 i]:=by
 show bG _ _ _ [⟨_,_⟩,⟨_,_⟩,_,_,_] _;refine aq ?_;refine aI ?_;refine ai (hc:=h228 l (i) 6 aH) ?_;refine aY ?_;refine av (fun hc0=>?_) (fun hc0=>?_)
 .try simp only[er]at hc0
  refine aI ?_;refine cU ?_;unfold mg;rw[ax hc0]
 simp only[bt]at hc0;have hr:=dw l i 6 aH;have hr2:=dw l (i+1) 2 aH;have hr3:=dw l (i+1) 3 aH;have hw:=vG (1+fL l (i+1) 3);have hk:=MZ (fL l i 6).toNat ae;have he:=PC (fL l (i+1) 2).toNat ae;refine ay ?_;refine du (B8.map D.str) ?_;refine aC ?_;refine Kc (fL l i 6).toNat (.str B8[(fL l i 6).toNat]!) (hj:=fun _=>ae) (hb:=fun _=>ae) (hv:=fun _=>um B8 (by show _<3;omega)) ?_;refine du (MB.map D.str) ?_;refine aA ?_;refine ai (hc:=h228 l (i+1) 2 aH) ?_;refine Kc (fL l (i+1) 2).toNat (.str MB[(fL l (i+1) 2).toNat]!) (hj:=fun _=>ae) (hb:=fun _=>ae) (hv:=fun _=>um MB (by show _<2;omega)) ?_;refine c9 (hb:=fun _=>ae) ?_;refine aA ?_;refine ai (hc:=h228 l (i+1) 3 aH) ?_;refine aC ?_;refine ai (hc:=h481 _) ?_;refine c9 (hb:=fun _=>by simp only[bF];omega) ?_;refine aA ?_;refine cU ?_;unfold mg;rw[aj hc0]
def KS (T:List D->D->Prop):Prop:=∀(l:List Int) (i:Int),(0<=i/\i<=4000000)->T [.sl 1 (l.map (D.int .i64)),.int .i64 i] (.str (mg l i))
def Vg (Y:Ctx):Prop:=KS (br Y 231)
def M5:aF:=⟨4,8,[⟨4,some (4,true)⟩],[[.a,.a,.sl 1 [.a],.a]],(sq (r1 [gb 4 (.c (.agg [.str [],.str [],.aD,.bool false]))] 4 0) (sq (r1 [gm s2,aw l0 bV,gm s0,gm s1,gx 228 [l2,l3,sE] [[.sl 1 [.a]],[.a],[.a]],aw l1 l4,gx 227 [l5] bQ,gm s0,gm s1,aw l8 bV,gx 230 [l7,l9] [[.sl 1 [.a]],[.a]],gm s0,gm s1,aw iE sE,gx 228 [gh,jr,ko] [[.sl 1 [.a]],[.a],[.a]],aL j5 bp,gn (.build [.str [],.str [],.aD,.bool false] [(0,1,l6),(1,1,l10),(3,1,lr)]),gb 4 (.c (.agg [.str [],.str [],.aD,.bool false])),gt 4 pM mK] 7 17) (sq (sq (r1 [gm s0,gm s1,aw l1 Hf,gx 228 [l0,l2,Hf] [[.sl 1 [.a]],[.a],[.a]],gm l3] 5 4) (sq (r1 [gm s3,gm l0,gmt 1 s5,bZ 1 (ew l2 kr),eG l1 l3] 6 4) (.cond s6 (rg [gn (.bsl 1 (.str []) 2 [(0,(cs [120])),(1,(cs [121]))]),gm s5,ee l1 kr,gn (.slA 1 l0 none (some l2)),gf 2 s7,gt 1 l4 l3] []) .skip))) (sq (rg [gk 4 true s7,gt 4 s4 l0] []) .ret))))⟩
def w480 (hm:(Y.at 0).cd)(h227:Ve Y)(h228:Hl Y)(h230:Vf Y)(l:List Int)(i:Int)(own:Int)(alone:Bool)  (hp0:0<=i/\i<=3000000)(hp1:0<=own/\own<=1000000):de Y M5 (b6.D (mh l i own alone)) [.sl 1 (l.map (D.int .i64)),.int .i64 i,.int .i64 own,.bool alone]:=by
 show bG _ _ _ [⟨_,_⟩,⟨_,_⟩,⟨_,_⟩,⟨_,_⟩,_,_,_,_] _;refine aq ?_;refine aA ?_;have hr:=dw l i 4 aH;refine aE ?_;refine ai (hc:=h228 l (i) 4 aH) ?_;refine aC ?_;refine ai (hc:=h227 (own+1+fL l i 4)) ?_;refine aA ?_;refine ai (hc:=h230 l (i+1) ae) ?_;refine aA ?_;refine ai (hc:=h228 l (i+4) 3 aH) ?_;refine aC ?_;refine bA (.agg [.str (eN (own+1+fL l i 4)),.str (tu l (i+1)),.aD,.bool (decide (fL l (i+4) 3=0))]) ?_;refine aC ?_;refine aU (.agg [.str (eN (own+1+fL l i 4)),.str (tu l (i+1)),.aD,.bool (decide (fL l (i+4) 3=0))]) (he:=bd) ?_;refine aG ?_;refine ai (hc:=h228 l (i+5) 5 aH) ?_;refine aE ?_;have hr5:=dw l (i+5) 5 aH;refine aG ?_;refine cC (fun hc0=>?_) fun hc0=>?_
 .refine aC ?_;refine dh (A0.map D.str) ?_;refine ay ?_;refine uM (fL l (i+5) 5-2).toNat (hj:=fun _=>ae) (hb:=fun _=>ae) ?_;refine aC ?_;refine aU (.agg [.str (eN (own+1+fL l i 4)),.str (tu l (i+1)),(.own 30 1 0 (fL l (i+5) 5-2).toNat),.bool (decide (fL l (i+4) 3=0))]) (he:=bd) ?_;refine aC ?_;have hk:(fL l (i+5) 5-2).toNat<=A0.length:=by show _<=2;omega
  refine fu 30 ?_ (he:=by simp only[n9,kl,mY,oH,pW,c8,Nat.reduceEqDiff,ba,bc,dL,cK,cL,dJ,dK,b9,bU,aP,ct,aZ,reduceCtorEq,az,aB,Nat.reduceAdd,Nat.reduceLeDiff,hk,<-List.map_take];exact rfl) (hm:=by simp only[n9,kl,mY,oH,pW,c8,Nat.reduceEqDiff,ba,bc,dL,cK,cL,dJ,dK,b9,bU,aP,ct,aZ,reduceCtorEq,az,aB,Nat.reduceAdd,Nat.reduceLeDiff,hk,<-List.map_take];exact rfl);refine aC ?_;refine cy (d:=(.agg [.str (eN (own+1+fL l i 4)),.str (tu l (i+1)),(.sl 1 ((A0.take (fL l (i+5) 5-2).toNat).map D.str)),.bool (decide (fL l (i+4) 3=0))])) ?_;refine aU (.agg [.str (eN (own+1+fL l i 4)),.str (tu l (i+1)),(.sl 1 ((A0.take (fL l (i+5) 5-2).toNat).map D.str)),.bool (decide (fL l (i+4) 3=0))]) (he:=bd) ?_;refine ay ?_;refine bM (?_);simp only[b6.D,mh,oI];rw[ax hc0];rfl
 refine aC ?_;have hf:oI l i alone=[]:=aj (by rintro⟨h1,h2⟩;rcases hc0 with h|h;rw[h]at h1;cases h1;exact h h2);refine pK [(0,.buf 4 [.agg [.str [],.str [],.aD,.bool false]]),(18,.buf 4 [b6.D (mh l i own alone)])] (.id ah (.bf ah (.cons (by simp only[b6.D,mh,hf];exact .ag (.cons (.refl _) (.cons (.refl _) (.cons (.nil 1) (.cons (.refl _) .nil))))) .nil) .nil)) ?_;refine aC ?_;refine cy (d:=(b6.D (mh l i own alone))) ?_;refine aU (b6.D (mh l i own alone)) (he:=bd) ?_;refine ay ?_;refine bM (?_);rfl
def Ls (T:List D->D->Prop):Prop:=∀(l:List Int) (i:Int) (own:Int) (alone:Bool),(0<=i/\i<=3000000)->(0<=own/\own<=1000000)->T [.sl 1 (l.map (D.int .i64)),.int .i64 i,.int .i64 own,.bool alone] (b6.D (mh l i own alone))
def YD (Y:Ctx):Prop:=Ls (br Y 480)
def M3:aF:=⟨3,10,[⟨3,some (3,true)⟩],[[.sl 4 [.a,.a,.sl 1 [.a],.a],.a,.a]],(sq (r1 [gb 3 (.c (.agg [.aD,.str [],.str []]))] 3 0) (sq (r1 [gb 3 (.c (.agg [.aD,.str [],.str []]))] 8 0) (sq (r1 [gm bV] 6 0) (sq (sq (r1 [gm s0,gm s1,gx 228 [l0,l1,Hf] [[.sl 1 [.a]],[.a],[.a]],aL l2 bV] 4 3) (.cond s4 (r1 [gm kr] 6 0) .skip)) (sq (sq (r1 [gm bp] 5 0) (.block 0 (.loop (sq (sq (r1 [gm s5,gm s6,aO l0 l1] 7 2) (fh s7 0)) (sq (.block 1 (rt [gf 0 s8,gd l0,gm s0,gm s1,aw l3 bV,gm s5,gn (.bin .mul vI l5),aw l4 l6,gm s2,gm s6,aL l9 bV,gx 480 [l2,l7,l8,l10] [[.sl 1 [.a]],[.a],[.a],[.a]],gn (.bsl 4 (.agg [.str [],.str [],.aD,.bool false]) 1 [(0,gh)]),gn (.app 4 l1 iE),gf 0 s8,gt 1 j5 jr] [])) (r1 [gm s5,aw l0 bV,gm l1] 5 2)))))) (sq (rg [gm s0,gm s1,aw l1 (i6 14),gx 231 [l0,l2] [[.sl 1 [.a]],[.a]],gf 1 s8,gt 1 l4 l3] []) (sq (sq (r1 [gm s0,gm s1,aw l1 (i6 16),gx 228 [l0,l2,sE] [[.sl 1 [.a]],[.a],[.a]],aL l3 bV] 9 4) (.cond s9 (rg [gm s0,gm s1,aw l1 (i6 17),gx 479 [l0,l2] [[.sl 1 [.a]],[.a]],gx 481 [l3] bQ,gf 2 s8,gt 1 l5 l4] []) .skip)) (sq (rg [gk 3 true s8,gt 3 s3 l0] []) .ret))))))))⟩
def w229 (h228:Hl Y)(h231:Vg Y)(h479:So Y)(h480:YD Y)(h481:Vq Y)(l:List Int)(i:Int)(own:Int)  (hp0:0<=i/\i<=2000000)(hp1:0<=own/\own<=1000000):de Y M3 (bN.D (gZ l i own)) [.sl 1 (l.map (D.int .i64)),.int .i64 i,.int .i64 own]:=by
 show bG _ _ _ [⟨_,_⟩,⟨_,_⟩,⟨_,_⟩,_,_,_,_,_,_,_] _;refine aq ?_;refine fU ?_;refine ai (hc:=h228 l (i) 5 aH) ?_;refine ay ?_;refine rW hm (ι:=Unit) (fun _=>[⟨true,.sl 1 (l.map (D.int .i64))⟩,⟨true,.int .i64 i⟩,⟨true,.int .i64 own⟩,⟨true,.ptr 0 3 0 0⟩,.un,.un,⟨true,.int .i64 (fP l i:Nat)⟩,.un,⟨true,.ptr 1 3 0 0⟩,.un]) (fun _=>[(0,.buf 3 [.agg [.aD,.str [],.str []]]),(1,.buf 3 [.agg [.aD,.str [],.str []]])]) 20 (fun _=>True) ?_ ?_
 .refine fH (fun hc0=>?_) fun hc0=>?_
  .refine aE ?_;have hmn:((fP l i:Nat):Int)=2:=by simp[fP,hc0]
   exact⟨(),trivial,(aX.to [(0,0),(1,1)] ah ah (by repeat(first|exact dE.nil|refine dE.un ?_|refine dE.eq ah ?_|refine dE.nl (ar (D.int .i64) hmn) ah ?_)) rC)⟩
  refine ay ?_;have hmn:((fP l i:Nat):Int)=1:=by simp[fP,hc0]
  exact⟨(),trivial,(aX.to [(0,0),(1,1)] ah ah (by repeat(first|exact dE.nil|refine dE.un ?_|refine dE.eq ah ?_|refine dE.nl (ar (D.int .i64) hmn) ah ?_)) rC)⟩
 .rintro _-
  have hml:=zF l i;refine aE ?_;refine a7 hm (ι:=(Nat×List b6)) (fun p=>[⟨true,.sl 1 (l.map (D.int .i64))⟩,⟨true,.int .i64 i⟩,⟨true,.int .i64 own⟩,⟨true,.ptr 0 3 0 0⟩,.un,⟨true,.int .i64 (p.1:Nat)⟩,⟨true,.int .i64 (fP l i:Nat)⟩,.un,⟨true,.ptr 1 3 0 0⟩,.un]) (fun p=>[(0,.buf 3 [.agg [.aD,.str [],.str []]]),(1,.buf 3 [(.agg [.own 2 4 0 p.2.length,.str [],.str []])]),(2,.buf 4 (p.2.map b6.D))]) 40 (fun p=>p.1<=fP l i/\p.2=tt l i own p.1) (fun p=>fP l i-p.1) (0,[]) ⟨dy,rfl⟩ (aX.to [(0,0),(1,1)] ah ah nW (by refine e7 ?_;refine bm.ni 1 ah ah (by exact⟨_,_,rfl,⟨_,rfl,⟨_,_,rfl,Or.inr ⟨_,_,_,rfl⟩,⟨_,_,rfl,⟨rfl,rfl⟩,⟨_,_,rfl,⟨rfl,rfl⟩,rfl⟩⟩⟩⟩,rfl⟩) ?_;refine bm.mt ah ah ah ah ?_;exact bm.nil)) ?_;rintro⟨k,ws⟩ ⟨hk,hw⟩;dsimp only at hk hw⊢;have hwl:ws.length=k:=by rw[hw];simp[tt]
  refine aG ?_;refine av (fun hc1=>?_) (fun hc1=>?_)
  .try simp only[er]at hc1
   refine c7 ?_;refine ox ?_;refine aE ?_;refine ai (hc:=h480 l (i+1+6*(k:Nat)) own (decide ((fP l i:Int)=1)) ae hp1) ?_;refine dh [b6.D (mh l (i+1+6*(k:Nat)) own (decide ((fP l i:Int)=1)))] ?_;refine jX (q:=b6.D) (xs:=ws) (e:=mh l (i+1+6*(k:Nat)) own (decide ((fP l i:Int)=1))) ?_;refine aC ?_;refine aU (.agg [.own 56 4 0 (ws++[mh l (i+1+6*(k:Nat)) own (decide ((fP l i:Int)=1))]).length,.str [],.str []]) (he:=bd) ?_;refine bJ ?_;exact⟨(k+1,ws++[mh l (i+1+6*(k:Nat)) own (decide ((fP l i:Int)=1))]),⟨dy,by dsimp only;rw[MN,hw]⟩,dy,(aX.to [(0,0),(1,1),(56,2)] ah ah nW (by refine e7 ?_;refine bm.OH ah ah ah ?_;refine bm.nl 56 ah ah rfl (cg (fun _=>rfl) _) ?_;exact bm.nil))⟩
  simp only[bt]at hc1;obtain rfl:k=fP l i:=ae;refine aG ?_;refine ai (hc:=h231 l (i+14) ae) ?_;refine aC ?_;refine aU (.agg [.own 2 4 0 ws.length,.str (mg l (i+14)),.str []]) (he:=bd) ?_;refine aG ?_;refine ai (hc:=h228 l (i+16) 4 aH) ?_;refine ay ?_;refine cC (fun hc2=>?_) fun hc2=>?_
  .refine aE ?_;refine ai (hc:=h479 l (i+17)) ?_;refine ai (hc:=h481 _) ?_;refine aC ?_;refine aU (.agg [.own 2 4 0 ws.length,.str (mg l (i+14)),.str (mi (kq l (i+17)))]) (he:=bd) ?_;refine aC ?_;refine fu 2 ?_;refine aC ?_;refine cy (d:=(.agg [.sl 4 (ws.map b6.D),.str (mg l (i+14)),.str (mi (kq l (i+17)))])) ?_;refine aU (.agg [.sl 4 (ws.map b6.D),.str (mg l (i+14)),.str (mi (kq l (i+17)))]) (he:=bd) ?_;refine ay ?_;refine bM (?_);simp only[bN.D,gZ];rw[ax hc2,<-hw];rfl
  refine aC ?_;refine fu 2 ?_;refine aC ?_;refine cy (d:=(.agg [.sl 4 (ws.map b6.D),.str (mg l (i+14)),.str []])) ?_;refine aU (.agg [.sl 4 (ws.map b6.D),.str (mg l (i+14)),.str []]) (he:=bd) ?_;refine ay ?_;refine bM (?_);simp only[bN.D,gZ];rw[aj hc2,<-hw];rfl
def KQ (T:List D->D->Prop):Prop:=∀(l:List Int) (i:Int) (own:Int),(0<=i/\i<=2000000)->(0<=own/\own<=1000000)->T [.sl 1 (l.map (D.int .i64)),.int .i64 i,.int .i64 own] (bN.D (gZ l i own))
def X1 (Y:Ctx):Prop:=KQ (br Y 229)
def Qc:aF:=⟨2,6,[⟨2,none⟩],[[.sl 1 [.a]]],(sq (r1 [gm (.c (.aD))] 2 0) (sq (r1 [gm bp] 3 0) (sq (.block 0 (.loop (sq (sq (r1 [gm s3,gm s0,gl l1,aO l0 l2,gm l3,gmt 4 s0,gmt 4 s3,bZ 4 (.ia 1 l5 l6),kn 4 l7,gmt 4 s1,bZ 4 (nL l8 l9),eG l4 l10] 4 11) (fh s4 0)) (.block 1 (r1 [gm s3,aw l0 bV,gm l1] 3 2))))) (sq (sq (r1 [gm s3,gm s0,gl l1,aO l0 l2,gm l3,gmt 4 s0,gmt 4 s3,bZ 4 (.ia 1 l5 l6),kn 4 l7,gmt 4 s1,bZ 4 (cO l8 l9),eG l4 l10] 5 11) (.cond s5 (sq (r1 [gm s0,gm l0] 2 1) .ret) .skip)) (sq (r2 [gm s0,gm s3,gn (.slA 1 l0 none (some l1)),gn (.appN 1 l2),gm s1,gn (.bsl 1 (.str []) 1 [(0,l4)]),gn (.app 1 l3 l5),gm s0,gm s3,gn (.slA 1 l7 (some l8) none),gn (.app 1 l6 l9),gm l10] 2 11) .ret)))))⟩
def w483  (l:List au)(s:au)  (hp0:l.length<=1000):de Y Qc (.sl 1 ((gP l s).map D.str)) [.sl 1 (l.map D.str),.str s]:=by
 show bG _ _ _ [⟨_,_⟩,⟨_,_⟩,_,_,_,_] _;refine aq ?_;refine aI ?_;refine a7 hm (ι:=Nat) (fun i=>[⟨true,.sl 1 (l.map D.str)⟩,⟨true,.str s⟩,.un,⟨true,.int .i64 (i:Nat)⟩,.un,.un]) (fun i=>[]) 2 (fun i=>i<=lO s l) (fun i=>l.length-i) 0 (Nat.zero_le _) (dp []) ?_;rintro i hi;have hpl:=DP s l;refine aI ?_;intro u0;refine aE ?_;refine cb i ?_;refine bS (v:=.str l[i]!) ?_;refine aE ?_;refine av (fun hc0=>?_) (fun hc0=>?_)
 .simp only[bx,aV]at hc0;have hip:i+1<=lO s l:=by
   by_cases he:i=lO s l
   .have h1:=wc s l ae;rw[<-he,hc0.2]at h1;cases h1
   .omega
  refine c7 ?_;exact⟨i+1,ae,ae,(dp [])⟩
 simp only[dT,bt]at hc0;obtain rfl:i=lO s l:=by
  by_cases he:i<lO s l
  .have h1:=DQ s l i he;rcases hc0 with h|h
   .omega
   .rw[h1]at h;cases h
  .omega
 refine aY ?_;intro u1;refine aE ?_;refine cb (lO s l) ?_;refine bS (v:=.str l[lO s l]!) ?_;refine aE ?_;refine cC (fun hc1=>?_) fun hc1=>?_
 .refine aG ?_;refine bM (?_);rw[gP,ax ⟨ae,hc1.2⟩];rfl
 refine aE ?_;refine pB (lO s l) ?_;refine J7 (he:=sX.sl) (n:=(l.take (lO s l)).length) (hn:=aT) (hb:=by simp only[ff];omega) ?_;refine aC ?_;refine dh [.str s] ?_;refine jX (q:=D.str) (xs:=l.take (lO s l)) (e:=s) (hb:=by simp only[ff];omega) ?_;refine ay ?_;refine Aq (lO s l) ?_;refine Q6 (xs:=l.take (lO s l)++[s]) (ys:=l.drop (lO s l)) (he:=sX.sl) (hb:=by simp only[bF,ff,lV,az,aB];omega) ?_;refine ay ?_;refine fu 36 ?_;refine aC ?_;refine bM (?_);rw[gP,aj (by rintro⟨h1,h2⟩;rcases hc1 with h|h;omega;exact h h2)];rfl
def Lu (T:List D->D->Prop):Prop:=∀(l:List au) (s:au),(l.length<=1000)->T [.sl 1 (l.map D.str),.str s] (.sl 1 ((gP l s).map D.str))
def YE (Y:Ctx):Prop:=Lu (br Y 483)
def Bh:aF:=⟨3,18,[⟨3,none⟩],[[.sl 2 [.a,.sl 1 [.a]]]],(sq (rg [gb 9 s2,gm (.c (.aD))] [(10,0),(3,1)]) (sq (r1 [gm (.c (.aD))] 17 0) (sq (r1 [gn (.build [.str [],.str [],.str [],.str []] [(0,1,(cs [100,101,102,97,117,108,116])),(1,1,(cs [120])),(2,1,(cs [121])),(3,1,(cs [122]))]),gb 4 (.c (.agg [.str [],.str [],.str [],.str []])),gt 4 l1 l0] 8 1) (sq (sq (r1 [gm bp] 4 0) (.block 0 (.loop (sq (sq (r1 [gm s4,aO l0 sE] 5 1) (fh s5 0)) (sq (.block 1 (sq (r1 [gm s0,gm s1,gm s4,aw l1 l2,gx 479 [l0,l3] [[.sl 1 [.a]],[.a]],gm l4] 6 5) (sq (sq (r1 [gm s6,gx 478 [l0,ko] fQ,aL l1 bp] 7 2) (.cond s7 (.exit 1) .skip)) (sq (r1 [gm s4,gn (.iaP 4 1 s8 l0),gd l1,gn (.build [.str [],.aD] [(0,1,l2)]),gb 2 (.c (.agg [.str [],.aD])),gt 2 l4 l3] 14 4) (sq (sq (r1 [gm bp] 9 0) (.block 2 (.loop (sq (sq (r1 [gm s9,gf 6 jh,gd l1,gl l2,aO l0 l3,gm l4,gmt 5 s9,bZ 5 (nL l6 kr),eG l5 l7] 11 8) (fh lf 2)) (sq (.block 3 (sq (r1 [gf 6 jh,gd l0,gm s9,ga 3 l1 l2,gk 3 true l3,gb 3 (.c (.agg [.aD,.str [],.str []])),gt 3 l5 l4] 12 5) (sq (sq (r1 [gf 2 j8,gd l0,bO l1 cse,gm l2,gmt 3 s6,gmt 3 s9,bZ 3 (zb ko l5),bZ 3 (.cvi .u64 l6),bZ 3 (.bin .shr l4 l7),bZ 3 (Pf l8 bV),bZ 3 (cO l9 bV),eG l3 l10] 13 11) (.cond qG (rg [gf 1 qv,gd l0,gf 2 j8,gd l2,aw (cs [63]) l3,gx 483 [l1,l4] [[.sl 1 [.a]],[.a]],gf 1 qv,gt 1 l6 l5] []) .skip)) (sq (r1 [gf 0 j8,gd l0,gl l1,aL l2 bV,gm l3,gmt 4 s6,gmt 4 s9,bZ 4 (zb Hf l6),bZ 4 (.cvi .u64 l7),bZ 4 (.bin .shr l5 l8),bZ 4 (Pf l9 bV),bZ 4 (cO l10 bV),eG l4 gh] 15 12) (.cond xc (rt [gf 1 qv,gd l0,gf 0 j8,gd l2,ga 4 l3 bp,gf 0 l4,gd l5,aw l6 (cs [47]),aw l7 (cs [120]),gx 483 [l1,l8] [[.sl 1 [.a]],[.a]],gf 1 qv,gt 1 l10 l9] []) .skip))))) (r1 [gm s9,aw l0 bV,gm l1] 9 2)))))) (sq (sq (r1 [gm s4,aO l0 ko,gm l1,gmt 2 s6,bZ 2 (.bin .shr l3 (iu 7)),bZ 2 (Pf l4 bV),bZ 2 (cO l5 bV),eG l2 l6,gm l7,gmt 8 s0,gmt 8 s1,gmt 8 s4,bZ 8 (zb l10 gh),bZ 8 (zb iE bV),bZ 8 (.call 479 [l9,jr] [[.sl 1 [.a]],[.a]]),bZ 8 (.call 478 [j5,ko] fQ),bZ 8 (ei lr bp),eG l8 mK] 16 17) (.cond A7 (rt [gf 1 qv,gd l0,gm s4,aw l2 bV,gn (.iaP 4 1 s8 l3),gd l4,gx 483 [l1,l5] [[.sl 1 [.a]],[.a]],gf 1 qv,gt 1 l7 l6] []) .skip)) (r1 [gm Cw,gk 2 true qv,gn (.bsl 2 (.agg [.str [],.aD]) 1 [(0,l1)]),gn (.app 2 l0 l2),gm l3] 17 4))))))) (r1 [gm s4,aw l0 bV,gm l1] 4 2)))))) (sq (r1 [gm Cw,gm l0] 3 1) .ret)))))⟩
def w232 (h478:OR Y)(h479:So Y)(h483:YE Y)(l:List Int)(i:Int)(r:Rec)  (hp0:0<=i/\i<=2000000)(hp1:∀j:Nat,j<r.needs.length->r.needs[j]!.option.length<=100/\(r.needs[j]!.any.length=1->r.needs[j]!.any[0]!.name.length<=100)):de Y Bh (.sl 2 ((jV l i r).map cu.D)) [.sl 1 (l.map (D.int .i64)),.int .i64 i,Rec.D r]:=by
 show bG _ _ _ [⟨_,_⟩,⟨_,_⟩,⟨_,_⟩,_,_,_,_,_,_,_,_,_,_,_,_,_,_,_] _;refine aq ?_;refine aY ?_;refine du (nq.map D.str) ?_;refine aC ?_;refine aU (.agg (nq.map D.str)) (he:=bd) ?_;refine aI ?_;refine a7 hm (ι:=(Nat×List cu)) (fun p=>[⟨true,.sl 1 (l.map (D.int .i64))⟩,⟨true,.int .i64 i⟩,.un,.un,⟨true,.int .i64 (p.1:Nat)⟩,.un,.un,.un,⟨true,.ptr 4 4 0 0⟩,.un,⟨true,.ptr 0 9 0 0⟩,.un,.un,.un,.un,.un,.un,⟨true,.own 1 2 0 p.2.length⟩]) (fun p=>[(0,.buf 9 [Rec.D r]),(4,.buf 4 [.agg (nq.map D.str)]),(1,.buf 2 (p.2.map cu.D))]) 30 (fun p=>p.1<=4/\p.2=PN l i r p.1) (fun p=>4-p.1) (0,[]) ⟨dy,rfl⟩ (aX.to [(0,0),(4,4)] ah ah (by repeat(first|exact dE.nil|refine dE.un ?_|refine dE.eq ah ?_|refine dE.ni (Or.inr ⟨_,_,_,rfl⟩) ?_)) (by refine bm.gD ah ah et ?_;refine bm.gD ah ah et ?_;refine bm.mt ah ah ah ah ?_;exact bm.nil)) ?_;rintro⟨k,fs⟩ ⟨hk,hf⟩;dsimp only at hk hf⊢;have hfl:fs.length<=k:=by
  rw[hf];unfold PN;exact dc (List.length_filterMap_le _ _) aT
 refine aI ?_;refine av (fun hc0=>?_) (fun hc0=>?_)
 .try simp only[er]at hc0
  refine aY ?_;refine ai (hc:=h479 l (i+(k:Nat))) ?_;refine aI ?_;refine ai (hc:=h478 _ 3 aH) ?_;refine ay ?_;refine cC (fun hc1=>?_) fun hc1=>?_
  .refine bJ ?_;exact⟨(k+1,fs),⟨dy,by dsimp only;rw[hf,Wt hc1]⟩,dy,(aX.to [(0,0),(4,4),(1,1)] ah ah nW (by refine bm.gD ah ah et ?_;refine bm.gD ah ah et ?_;refine bm.gD ah ah et ?_;exact bm.nil))⟩
  refine aA ?_;refine rE k (hb:=fun _=>ae) ?_;refine bD (v:=.str nq[k]!) (hv:=fun _=>H5 nq (by show _<4;omega) rfl) (ho:=ae) ?_;refine bA (.agg [.str nq[k]!,.aD]) ?_;refine aC ?_;refine aU (.agg [.str nq[k]!,.aD]) (he:=bd) ?_;refine aC ?_;refine pK [(0,.buf 9 [Rec.D r]),(4,.buf 4 [.agg (nq.map D.str)]),(1,.buf 2 (fs.map cu.D)),(45,.buf 2 [(.agg [.str nq[k]!,.sl 1 ((([]:List au)).map D.str)])])] (.id ah (.id ah (.id ah (.bf ah (.cons (.ag (.cons (.refl _) (.cons (.nil 1) .nil))) .nil) .nil)))) ?_;refine aE ?_;refine a7 hm (ι:=(Nat×List au)) (fun p=>[⟨true,.sl 1 (l.map (D.int .i64))⟩,⟨true,.int .i64 i⟩,.un,.un,⟨true,.int .i64 (k:Nat)⟩,.un,⟨true,.int .i64 (kq l (i+(k:Nat)))⟩,.un,⟨true,.ptr 4 4 0 0⟩,⟨true,.int .i64 (p.1:Nat)⟩,⟨true,.ptr 0 9 0 0⟩,.un,.un,.un,⟨true,.ptr 2 2 0 0⟩,.un,.un,⟨true,.own 1 2 0 fs.length⟩]) (fun p=>[(0,.buf 9 [Rec.D r]),(4,.buf 4 [.agg (nq.map D.str)]),(1,.buf 2 (fs.map cu.D)),(2,.buf 2 [.agg [.str nq[k]!,.sl 1 (p.2.map D.str)]])]) 60 (fun p=>p.1<=min r.needs.length 2/\p.2=qB r (kq l (i+(k:Nat))) p.1) (fun p=>2-p.1) (0,[]) ⟨dy,rfl⟩ (aX.to [(0,0),(4,4),(1,1),(45,2)] ah ah nW (by refine bm.gD ah ah et ?_;refine bm.gD ah ah et ?_;refine bm.gD ah ah et ?_;refine bm.nl 45 ah ah rfl ah ?_;exact bm.nil)) ?_;rintro⟨j,of⟩ ⟨hj,ho⟩;dsimp only at hj ho⊢;have hol:of.length<=4:=by
   have:=Dk r (kq l (i+(k:Nat))) j;rw[ho];omega
  refine aE ?_;refine bD (v:=.sl 3 (r.needs.map bN.D)) ?_;refine aC ?_;intro u0;refine aG ?_;refine av (fun hc2=>?_) (fun hc2=>?_)
  .simp only[bx,aV]at hc2;obtain⟨hpo,hpn⟩:=hp1 j ae;refine aE ?_;refine bD (v:=.sl 3 (r.needs.map bN.D)) ?_;refine aC ?_;refine cb j (hb:=fun _=>ae) ?_;refine bS (v:=bN.D r.needs[j]!) (hi:=fun _=>ae) ?_;refine aC ?_;refine aU (bN.D r.needs[j]!) (he:=bd) ?_;refine hY ?_;refine ov (3+(j:Nat)) (hb:=fun _=>by rw[IntKind.wrap_u64];omega) ?_;refine uL _ (hb:=fun _=>rfl) ?_;refine we (Hy (kq l (i+(k:Nat))) (3+(j:Nat))) (hb:=fun _=>rfl) ?_;refine aA ?_;refine cC (fun hc3=>?_) fun hc3=>?_
   .refine ay ?_;refine bD (v:=.sl 1 (of.map D.str)) ?_;refine aC ?_;refine bD (v:=.str r.needs[j]!.option) ?_;refine c9 (hb:=fun _=>by simp only[az,aB];omega) ?_;refine ai (hc:=h483 of ([63]++r.needs[j]!.option) ae) ?_;refine aC ?_;refine aU (.agg [.str nq[k]!,.sl 1 ((gP of ([63]++r.needs[j]!.option)).map D.str)]) (he:=bd) ?_;refine aI ?_;intro u1;refine aI ?_;refine ov (5+(j:Nat)) (hb:=fun _=>by rw[IntKind.wrap_u64];omega) ?_;refine uL _ (hb:=fun _=>rfl) ?_;refine we (Hy (kq l (i+(k:Nat))) (5+(j:Nat))) (hb:=fun _=>rfl) ?_;refine aA ?_;refine fH (fun hc4=>?_) fun hc4=>?_
    .refine aC ?_;have hpl:=rz of ([63]++r.needs[j]!.option);refine aC ?_;refine bD (v:=.sl 1 (((gP of ([63]++r.needs[j]!.option))).map D.str)) ?_;refine aC ?_;refine bD (v:=.sl 4 (r.needs[j]!.any.map b6.D)) ?_;refine cb 0 (hb:=fun _=>ae) ?_;refine aC ?_;refine bS (v:=.str r.needs[j]!.any[0]!.name) (hi:=fun _=>ae) ?_;refine c9 (hb:=fun _=>by have:=hpn ae;simp only[az,aB];omega) ?_;refine c9 (hb:=fun _=>by have:=hpn ae;simp only[bF,az,aB];omega) ?_;refine ai (hc:=h483 (gP of ([63]++r.needs[j]!.option)) (r.needs[j]!.any[0]!.name++[47]++[120]) ae) ?_;refine aC ?_;refine aU (.agg [.str nq[k]!,.sl 1 ((gP (gP of ([63]++r.needs[j]!.option)) (r.needs[j]!.any[0]!.name++[47]++[120])).map D.str)]) (he:=bd) ?_;refine bJ ?_;have hA:PM r (kq l (i+(k:Nat))) of j=gP of ([63]++r.needs[j]!.option):=ax hc3;have hB:UD r (kq l (i+(k:Nat))) (gP of ([63]++r.needs[j]!.option)) j=gP (gP of ([63]++r.needs[j]!.option)) (r.needs[j]!.any[0]!.name++[47]++[120]):=ax ⟨ae,hc4.2⟩;have hJ:qB r (kq l (i+(k:Nat))) (j+1)=(gP (gP of ([63]++r.needs[j]!.option)) (r.needs[j]!.any[0]!.name++[47]++[120])):=by rw[oZ,UE,<-ho,hA,hB]
     exact⟨(j+1,(gP (gP of ([63]++r.needs[j]!.option)) (r.needs[j]!.any[0]!.name++[47]++[120]))),⟨dy,hJ.symm⟩,dy,(aX.to [(0,0),(4,4),(1,1),(2,2)] ah ah nW (by refine bm.gD ah ah et ?_;refine bm.gD ah ah et ?_;refine bm.gD ah ah et ?_;refine bm.gD ah ah et ?_;exact bm.nil))⟩
    refine bJ ?_;have hA:PM r (kq l (i+(k:Nat))) of j=gP of ([63]++r.needs[j]!.option):=ax hc3;have hB:UD r (kq l (i+(k:Nat))) (gP of ([63]++r.needs[j]!.option)) j=(gP of ([63]++r.needs[j]!.option)):=aj (by rintro⟨h1,h2⟩;rcases hc4 with h|h;omega;exact h h2);have hJ:qB r (kq l (i+(k:Nat))) (j+1)=(gP of ([63]++r.needs[j]!.option)):=by rw[oZ,UE,<-ho,hA,hB]
    exact⟨(j+1,(gP of ([63]++r.needs[j]!.option))),⟨dy,hJ.symm⟩,dy,(aX.to [(0,0),(4,4),(1,1),(2,2)] ah ah nW (by refine bm.gD ah ah et ?_;refine bm.gD ah ah et ?_;refine bm.gD ah ah et ?_;refine bm.gD ah ah et ?_;exact bm.nil))⟩
   refine aI ?_;intro u1;refine aI ?_;refine ov (5+(j:Nat)) (hb:=fun _=>by rw[IntKind.wrap_u64];omega) ?_;refine uL _ (hb:=fun _=>rfl) ?_;refine we (Hy (kq l (i+(k:Nat))) (5+(j:Nat))) (hb:=fun _=>rfl) ?_;refine aA ?_;refine fH (fun hc4=>?_) fun hc4=>?_
   .refine aC ?_;have hpl:=rz of ([63]++r.needs[j]!.option);refine aC ?_;refine bD (v:=.sl 1 ((of).map D.str)) ?_;refine aC ?_;refine bD (v:=.sl 4 (r.needs[j]!.any.map b6.D)) ?_;refine cb 0 (hb:=fun _=>ae) ?_;refine aC ?_;refine bS (v:=.str r.needs[j]!.any[0]!.name) (hi:=fun _=>ae) ?_;refine c9 (hb:=fun _=>by have:=hpn ae;simp only[az,aB];omega) ?_;refine c9 (hb:=fun _=>by have:=hpn ae;simp only[bF,az,aB];omega) ?_;refine ai (hc:=h483 of (r.needs[j]!.any[0]!.name++[47]++[120]) ae) ?_;refine aC ?_;refine aU (.agg [.str nq[k]!,.sl 1 ((gP of (r.needs[j]!.any[0]!.name++[47]++[120])).map D.str)]) (he:=bd) ?_;refine bJ ?_;have hA:PM r (kq l (i+(k:Nat))) of j=of:=aj (by rintro⟨h1,h2⟩;rcases hc3 with h|h;exact h1 h;exact h h2);have hB:UD r (kq l (i+(k:Nat))) of j=gP of (r.needs[j]!.any[0]!.name++[47]++[120]):=ax ⟨ae,hc4.2⟩;have hJ:qB r (kq l (i+(k:Nat))) (j+1)=(gP of (r.needs[j]!.any[0]!.name++[47]++[120])):=by rw[oZ,UE,<-ho,hA,hB]
    exact⟨(j+1,(gP of (r.needs[j]!.any[0]!.name++[47]++[120]))),⟨dy,hJ.symm⟩,dy,(aX.to [(0,0),(4,4),(1,1),(2,2)] ah ah nW (by refine bm.gD ah ah et ?_;refine bm.gD ah ah et ?_;refine bm.gD ah ah et ?_;refine bm.gD ah ah et ?_;exact bm.nil))⟩
   refine bJ ?_;have hA:PM r (kq l (i+(k:Nat))) of j=of:=aj (by rintro⟨h1,h2⟩;rcases hc3 with h|h;exact h1 h;exact h h2);have hB:UD r (kq l (i+(k:Nat))) of j=of:=aj (by rintro⟨h1,h2⟩;rcases hc4 with h|h;omega;exact h h2);have hJ:qB r (kq l (i+(k:Nat))) (j+1)=of:=by rw[oZ,UE,<-ho,hA,hB]
   exact⟨(j+1,of),⟨dy,hJ.symm⟩,dy,(aX.to [(0,0),(4,4),(1,1),(2,2)] ah ah nW (by refine bm.gD ah ah et ?_;refine bm.gD ah ah et ?_;refine bm.gD ah ah et ?_;refine bm.gD ah ah et ?_;exact bm.nil))⟩
  simp only[dT,bt]at hc2;obtain rfl:j=min r.needs.length 2:=ae;subst ho;refine bJ ?_;refine uL _ (hb:=fun _=>rfl) ?_;refine we (Hy (kq l (i+(k:Nat))) 7) (hb:=fun _=>rfl) ?_;refine bJ ?_;refine cV (hc:=fun hf=>h479 l (i+(k:Nat)+1)) ?_;refine cV (hc:=fun hf=>h478 _ 3 aH) ?_;refine aA ?_;refine cC (fun hc5=>?_) fun hc5=>?_
  .refine ay ?_;refine bD (v:=.sl 1 ((qB r (kq l (i+(k:Nat))) (min r.needs.length 2)).map D.str)) ?_;refine ay ?_;refine rE (k+1) (hb:=fun _=>ae) ?_;refine bD (v:=.str nq[k+1]!) (hv:=fun _=>H5 nq (by show _<4;omega) rfl) (ho:=ae) ?_;refine ai (hc:=h483 (qB r (kq l (i+(k:Nat))) (min r.needs.length 2)) nq[k+1]! ae) ?_;refine aC ?_;refine aU (.agg [.str nq[k]!,.sl 1 ((gP (qB r (kq l (i+(k:Nat))) (min r.needs.length 2)) nq[k+1]!).map D.str)]) (he:=bd) ?_;refine aA ?_;refine cy (d:=cu.D ⟨nq[k]!,gP (qB r (kq l (i+(k:Nat))) (min r.needs.length 2)) nq[k+1]!⟩) ?_;refine dh [cu.D ⟨nq[k]!,gP (qB r (kq l (i+(k:Nat))) (min r.needs.length 2)) nq[k+1]!⟩] ?_;refine jX (q:=cu.D) (xs:=fs) (e:=⟨nq[k]!,gP (qB r (kq l (i+(k:Nat))) (min r.needs.length 2)) nq[k+1]!⟩) ?_;refine c7 ?_;have hC:S4 l i (kq l (i+(k:Nat))) k (qB r (kq l (i+(k:Nat))) (min r.needs.length 2))=gP (qB r (kq l (i+(k:Nat))) (min r.needs.length 2)) nq[k+1]! :=ax ⟨⟨ae,hc5.1.2⟩,by rw[show i+(k:Nat)+1=i+(k:Int)+1 by omega];exact hc5.2⟩;exact⟨(k+1,fs++[⟨nq[k]!,gP (qB r (kq l (i+(k:Nat))) (min r.needs.length 2)) nq[k+1]!⟩]),⟨dy,by dsimp only;rw[hf];exact(Jy hc1 hC).symm⟩,dy,(aX.to [(0,0),(4,4),(99,1)] ah ah (by repeat(first|exact dE.nil|refine dE.un ?_|refine dE.eq ah ?_|refine dE.ni (Or.inr ⟨_,_,_,rfl⟩) ?_)) (by refine bm.gD ah ah et ?_;refine bm.gD ah ah et ?_;refine bm.nl 99 ah ah rfl (cg (fun _=>rfl) _) ?_;exact bm.nil))⟩
  refine aA ?_;refine cy (d:=cu.D ⟨nq[k]!,(qB r (kq l (i+(k:Nat))) (min r.needs.length 2))⟩) ?_;refine dh [cu.D ⟨nq[k]!,(qB r (kq l (i+(k:Nat))) (min r.needs.length 2))⟩] ?_;refine jX (q:=cu.D) (xs:=fs) (e:=⟨nq[k]!,(qB r (kq l (i+(k:Nat))) (min r.needs.length 2))⟩) ?_;refine c7 ?_;have hC:S4 l i (kq l (i+(k:Nat))) k (qB r (kq l (i+(k:Nat))) (min r.needs.length 2))=(qB r (kq l (i+(k:Nat))) (min r.needs.length 2)):=aj (by rintro⟨⟨h1,h2⟩,h3⟩;rcases hc5 with(h|h)|h;omega;exact h h2;exact h3 h);exact⟨(k+1,fs++[⟨nq[k]!,(qB r (kq l (i+(k:Nat))) (min r.needs.length 2))⟩]),⟨dy,by dsimp only;rw[hf];exact(Jy hc1 hC).symm⟩,dy,(aX.to [(0,0),(4,4),(90,1)] ah ah (by repeat(first|exact dE.nil|refine dE.un ?_|refine dE.eq ah ?_|refine dE.ni (Or.inr ⟨_,_,_,rfl⟩) ?_)) (by refine bm.gD ah ah et ?_;refine bm.gD ah ah et ?_;refine bm.nl 90 ah ah rfl (cg (fun _=>rfl) _) ?_;exact bm.nil))⟩
 simp only[bt]at hc0;obtain rfl:k=4:=ae;refine aG ?_;refine fu 1 ?_;refine aC ?_;refine bM (?_);rw[hf];rfl
def KT (T:List D->D->Prop):Prop:=∀(l:List Int) (i:Int) (r:Rec),(0<=i/\i<=2000000)->(∀j:Nat,j<r.needs.length->r.needs[j]!.option.length<=100/\(r.needs[j]!.any.length=1->r.needs[j]!.any[0]!.name.length<=100))->T [.sl 1 (l.map (D.int .i64)),.int .i64 i,Rec.D r] (.sl 2 ((jV l i r).map cu.D))
def X2 (Y:Ctx):Prop:=KT (br Y 232)
def FA:aF:=⟨3,10,[⟨3,some (9,true)⟩],[[.a,.a,.a,.a,.a,.a,.sl 3 [.sl 4 [.a,.a,.sl 1 [.a],.a],.a,.a],.sl 3 [.a,.a,.a],.sl 2 [.a,.sl 1 [.a]]]],(sq (r1 [gb 9 (.c (.agg [.str [],.int .i64 0,.int .i64 0,.int .i64 0,.str [],.str [],.aD,.aD,.aD]))] 3 0) (sq (r1 [gm s2,gx 227 [l0] bQ,gm s0,gm s1,gx 228 [l2,l3,ko] [[.sl 1 [.a]],[.a],[.a]],gm s0,gm s1,aw l6 bV,gx 228 [l5,l7,kr] [[.sl 1 [.a]],[.a],[.a]],gn (.build [.int .i64 0,.int .i64 0,.int .i64 0,.str [],.str []] [(0,1,l4),(1,1,l8)]),gn (.build [.str [],.int .i64 0,.int .i64 0,.int .i64 0,.str [],.str [],.aD,.aD,.aD] [(0,1,l1),(1,5,l9)]),gb 9 (.c (.agg [.str [],.int .i64 0,.int .i64 0,.int .i64 0,.str [],.str [],.aD,.aD,.aD])),gt 9 gh l10] 5 11) (sq (sq (r1 [gm s0,gm s1,aw l1 kr,gx 228 [l0,l2,Ev] [[.sl 1 [.a]],[.a],[.a]],aL l3 bV] 4 4) (.cond s4 (rg [gf 1 s5,gf 3 l0,gt 1 l1 (cs [114,99,46,49])] []) .skip)) (sq (sq (r1 [gm s0,gm s1,aw l1 kr,gx 228 [l0,l2,Ev] [[.sl 1 [.a]],[.a],[.a]],aL l3 kr] 6 4) (.cond s6 (rg [gf 1 s5,gf 4 l0,gt 1 l1 (cs [55])] []) .skip)) (sq (sq (r1 [gm s0,gm s1,aw l1 ko,gx 228 [l0,l2,sE] [[.sl 1 [.a]],[.a],[.a]],gn (.bin .rem l3 ko),gm l4] 7 5) (.block 0 (.loop (sq (sq (r1 [gm s7,dd l0 bp] 8 1) (fh s8 0)) (sq (.block 1 (rt [gf 6 s5,gd l0,gm s0,gm s1,aw l3 sE,gm s7,gn (.bin .mul (i6 20) l5),aw l4 l6,ee l7 (i6 20),gm s2,gx 229 [l2,l8,l9] [[.sl 1 [.a]],[.a],[.a]],gn (.bsl 3 (.agg [.aD,.str [],.str []]) 1 [(0,l10)]),gn (.app 3 l1 gh),gf 6 s5,gt 1 jr iE] [])) (r1 [gm s7,ee l0 bV,gm l1] 7 2)))))) (sq (sq (r1 [gm s0,gm s1,aw l1 (i6 45),gx 228 [l0,l2,Hf] [[.sl 1 [.a]],[.a],[.a]],aL l3 bV] 9 4) (.cond s9 (rt [gf 7 s5,gd l0,gm s2,aw l2 bV,gm s0,gm s1,aw l5 (i6 46),gx 228 [l4,l6,sE] [[.sl 1 [.a]],[.a],[.a]],aw l3 l7,gx 227 [l8] bQ,gm s0,gm s1,aw gh (i6 47),gx 230 [l10,iE] [[.sl 1 [.a]],[.a]],gm s0,gm s1,aw lr (i6 50),gx 231 [j5,mK] [[.sl 1 [.a]],[.a]],gn (.build [.str [],.str [],.str []] [(0,1,l9),(1,1,jr),(2,1,pM)]),gn (.bsl 3 (.agg [.str [],.str [],.str []]) 1 [(0,qC)]),gn (.app 3 l1 rm),gf 7 s5,gt 1 xB va] []) .skip)) (sq (rg [gm s0,gm s1,aw l1 (i6 52),gk 9 true s5,gx 232 [l0,l2,l3] [[.sl 1 [.a]],[.a],[.a,.a,.a,.a,.a,.a,.sl 3 [.sl 4 [.a,.a,.sl 1 [.a],.a],.a,.a],.sl 3 [.a,.a,.a],.sl 2 [.a,.sl 1 [.a]]]],gf 8 s5,gt 1 l5 l4] []) (sq (rg [gk 9 true s5,gt 9 s3 l0] []) .ret))))))))⟩
def w79 (h227:Ve Y)(h228:Hl Y)(h229:X1 Y)(h230:Vf Y)(h231:Vg Y)(h232:X2 Y)(l:List Int)(i:Int)(own:Int)  (hp0:0<=i/\i<=1000000)(hp1:0<=own/\own<=100000):de Y FA (Rec.D (Bf l i own)) [.sl 1 (l.map (D.int .i64)),.int .i64 i,.int .i64 own]:=by
 show bG _ _ _ [⟨_,_⟩,⟨_,_⟩,⟨_,_⟩,_,_,_,_,_,_,_] _;refine aq ?_;refine aE ?_;refine ai (hc:=h227 own) ?_;refine ay ?_;refine ai (hc:=h228 l (i) 3 aH) ?_;refine aA ?_;refine ai (hc:=h228 l (i+1) 2 aH) ?_;refine bA (cZ.D ⟨fL l i 3,fL l (i+1) 2,0,[],[]⟩) ?_;refine bA (.agg [.str (eN own),.int .i64 (fL l i 3),.int .i64 (fL l (i+1) 2),.int .i64 0,.str [],.str [],.aD,.aD,.aD]) ?_;refine aC ?_;refine aU (.agg [.str (eN own),.int .i64 (fL l i 3),.int .i64 (fL l (i+1) 2),.int .i64 0,.str [],.str [],.aD,.aD,.aD]) (he:=bd) ?_;refine aG ?_;refine ai (hc:=h228 l (i+2) 9 aH) ?_;refine ay ?_;refine rW hm (ι:=Unit) (fun _=>[⟨true,.sl 1 (l.map (D.int .i64))⟩,⟨true,.int .i64 i⟩,⟨true,.int .i64 own⟩,⟨true,.ptr 0 9 0 0⟩,.un,⟨true,.ptr 12 9 0 0⟩,.un,.un,.un,.un]) (fun _=>[(0,.buf 9 [fG]),(12,.buf 9 [(.agg [.str (eN own),.int .i64 (fL l i 3),.int .i64 (fL l (i+1) 2),.int .i64 0,.str (tv l i),.str [],.aD,.aD,.aD])])]) 30 (fun _=>True) ?_ ?_
 .refine fH (fun hc0=>?_) fun hc0=>?_
  .refine aA ?_;refine aU (.agg [.str (eN own),.int .i64 (fL l i 3),.int .i64 (fL l (i+1) 2),.int .i64 0,.str Rj,.str [],.aD,.aD,.aD]) (he:=bd) ?_;refine ay ?_;have hp:tv l i=Rj:=ax hc0;rw[hp];exact⟨(),trivial,(aX.to [(0,0),(12,12)] ah ah nW (by repeat(first|exact bm.nil|refine bm.gD ah ah et ?_|refine bm.OH ah ah ah ?_)))⟩
  refine ay ?_;have hp:tv l i=[]:=aj hc0;rw[hp];exact⟨(),trivial,(aX.to [(0,0),(12,12)] ah ah nW (by repeat(first|exact bm.nil|refine bm.gD ah ah et ?_|refine bm.OH ah ah ah ?_)))⟩
 .rintro _-
  refine aI ?_;refine ai (hc:=h228 l (i+2) 9 aH) ?_;refine ay ?_;refine rW hm (ι:=Unit) (fun _=>[⟨true,.sl 1 (l.map (D.int .i64))⟩,⟨true,.int .i64 i⟩,⟨true,.int .i64 own⟩,⟨true,.ptr 0 9 0 0⟩,.un,⟨true,.ptr 12 9 0 0⟩,.un,.un,.un,.un]) (fun _=>[(0,.buf 9 [fG]),(12,.buf 9 [(.agg [.str (eN own),.int .i64 (fL l i 3),.int .i64 (fL l (i+1) 2),.int .i64 0,.str (tv l i),.str (zD l i),.aD,.aD,.aD])])]) 40 (fun _=>True) ?_ ?_
  .refine fH (fun hc1=>?_) fun hc1=>?_
   .refine aA ?_;refine aU (.agg [.str (eN own),.int .i64 (fL l i 3),.int .i64 (fL l (i+1) 2),.int .i64 0,.str (tv l i),.str [55],.aD,.aD,.aD]) (he:=bd) ?_;refine ay ?_;have hp:zD l i=[55]:=ax hc1;rw[hp];exact⟨(),trivial,(aX.to [(0,0),(12,12)] ah ah nW (by repeat(first|exact bm.nil|refine bm.gD ah ah et ?_|refine bm.OH ah ah ah ?_)))⟩
   refine ay ?_;have hp:zD l i=[]:=aj hc1;rw[hp];exact⟨(),trivial,(aX.to [(0,0),(12,12)] ah ah nW (by repeat(first|exact bm.nil|refine bm.gD ah ah et ?_|refine bm.OH ah ah ah ?_)))⟩
  .rintro _-
   have hK:=UF l i;refine aI ?_;refine ai (hc:=h228 l (i+3) 4 aH) ?_;refine Kd ((gK l i:Nat):Int) (hn:=by intro _;omega) (hb:=fun _=>gK_eq l i) ?_;refine ay ?_;refine a7 hm (ι:=(Nat×List bN)) (fun p=>[⟨true,.sl 1 (l.map (D.int .i64))⟩,⟨true,.int .i64 i⟩,⟨true,.int .i64 own⟩,⟨true,.ptr 0 9 0 0⟩,.un,⟨true,.ptr 12 9 0 0⟩,.un,⟨true,.int .i64 (p.1:Nat)⟩,.un,.un]) (fun p=>[(0,.buf 9 [fG]),(12,.buf 9 [(.agg [.str (eN own),.int .i64 (fL l i 3),.int .i64 (fL l (i+1) 2),.int .i64 0,.str (tv l i),.str (zD l i),.own 1 3 0 p.2.length,.aD,.aD])]),(1,.buf 3 (p.2.map bN.D))]) 60 (fun p=>p.1<=gK l i/\p.2=Ff l i own (gK l i-p.1)) (fun p=>p.1) (gK l i,[]) ⟨aP _,by dsimp only;rw[Nat.sub_self];rfl⟩ (aX.to [(0,0),(12,12)] ah ah nW (by refine bm.gD ah ah et ?_;refine bm.ni 12 ah ah (by exact⟨_,_,rfl,⟨_,rfl,⟨_,_,rfl,⟨rfl,rfl⟩,⟨_,_,rfl,⟨rfl,rfl⟩,⟨_,_,rfl,⟨rfl,rfl⟩,⟨_,_,rfl,⟨rfl,rfl⟩,⟨_,_,rfl,⟨rfl,rfl⟩,⟨_,_,rfl,⟨rfl,rfl⟩,⟨_,_,rfl,Or.inr ⟨_,_,_,rfl⟩,⟨_,_,rfl,Or.inl rfl,⟨_,_,rfl,Or.inl rfl,rfl⟩⟩⟩⟩⟩⟩⟩⟩⟩⟩,rfl⟩) ?_;refine bm.mt ah ah ah ah ?_;exact bm.nil)) ?_;rintro⟨k,ns⟩ ⟨hk,hn⟩;dsimp only at hk hn⊢;have hnl:ns.length<=3:=by rw[hn];simp[Ff];omega
   refine aI ?_;refine av (fun hc2=>?_) (fun hc2=>?_)
   .try simp only[er]at hc2
    refine c7 ?_;refine ox ?_;refine aA ?_;refine ai (hc:=h229 l (i+4+20*(k:Int) -20) own ae ae) ?_;refine dh [bN.D (gZ l (i+4+20*(k:Int) -20) own)] ?_;refine jX (q:=bN.D) (xs:=ns) (e:=gZ l (i+4+20*(k:Int) -20) own) ?_;refine aC ?_;refine aU (.agg [.str (eN own),.int .i64 (fL l i 3),.int .i64 (fL l (i+1) 2),.int .i64 0,.str (tv l i),.str (zD l i),.own 74 3 0 (ns++[gZ l (i+4+20*(k:Int) -20) own]).length,.aD,.aD]) (he:=bd) ?_;refine bJ ?_;exact⟨(k-1,ns++[gZ l (i+4+20*(k:Int) -20) own]),⟨dy,by dsimp only;rw[PU hk ae,hn]⟩,dy,(aX.to [(0,0),(12,12),(74,1)] ah ah (by repeat(first|exact dE.nil|refine dE.un ?_|refine dE.eq ah ?_|refine dE.nl (ar (D.int .i64) (show((k-1:Nat):Int)=(k:Int) -1 by omega)) ah ?_)) (by refine bm.gD ah ah et ?_;refine bm.OH ah ah ah ?_;refine bm.nl 74 ah ah rfl (cg (fun _=>rfl) _) ?_;exact bm.nil))⟩
   simp only[bt]at hc2;obtain rfl:k=0:=ae;obtain rfl:ns=ra l i own:=by rw[hn];rfl
   refine aA ?_;refine fu 1 ?_;refine aE ?_;refine ai (hc:=h228 l (i+45) 5 aH) ?_;refine ay ?_;refine rW hm (ι:=Unit) (fun _=>[⟨true,.sl 1 (l.map (D.int .i64))⟩,⟨true,.int .i64 i⟩,⟨true,.int .i64 own⟩,⟨true,.ptr 0 9 0 0⟩,.un,⟨true,.ptr 12 9 0 0⟩,.un,.un,.un,.un]) (fun _=>[(0,.buf 9 [fG]),(12,.buf 9 [(.agg [.str (eN own),.int .i64 (fL l i 3),.int .i64 (fL l (i+1) 2),.int .i64 0,.str (tv l i),.str (zD l i),(.sl 3 ((ra l i own).map bN.D)),(.own 2 3 0 (qZ l i own).length),.aD])]),(2,.buf 3 ((qZ l i own).map jm.D))]) 100 (fun _=>True) ?_ ?_
   .refine fH (fun hc3=>?_) fun hc3=>?_
    .refine aC ?_;have hr46:=dw l (i+46) 4 aH;refine aC ?_;refine bD (v:=.aD) ?_;refine aI ?_;refine ai (hc:=h228 l (i+46) 4 aH) ?_;refine aC ?_;refine ai (hc:=h227 (own+1+fL l (i+46) 4)) ?_;refine aA ?_;refine ai (hc:=h230 l (i+47) ae) ?_;refine aA ?_;refine ai (hc:=h231 l (i+50) ae) ?_;refine bA (jm.D (zC l i own)) ?_;refine dh [jm.D (zC l i own)] ?_;refine W3 (n:=1) (ys:=[jm.D (zC l i own)]) (he:=sX.all ah rfl) (hn:=rfl) ?_;refine aC ?_;refine aU (.agg [.str (eN own),.int .i64 (fL l i 3),.int .i64 (fL l (i+1) 2),.int .i64 0,.str (tv l i),.str (zD l i),(.sl 3 ((ra l i own).map bN.D)),(.own 87 3 0 1),.aD]) (he:=bd) ?_;refine ay ?_;have hb:qZ l i own=[zC l i own]:=ax hc3;rw[hb];exact⟨(),trivial,(aX.to [(0,0),(12,12),(87,2)] ah ah nW (by refine bm.gD ah ah et ?_;refine bm.OH ah ah ah ?_;refine bm.nl 87 ah ah ah ah ?_;exact bm.nil))⟩
    refine ay ?_;have hb:qZ l i own=[]:=aj hc3;rw[hb];exact⟨(),trivial,(aX.to [(0,0),(12,12)] ah ah nW (by refine bm.gD ah ah et ?_;refine bm.ni 12 ah ah (by exact⟨_,_,rfl,⟨_,rfl,⟨_,_,rfl,⟨rfl,rfl⟩,⟨_,_,rfl,⟨rfl,rfl⟩,⟨_,_,rfl,⟨rfl,rfl⟩,⟨_,_,rfl,⟨rfl,rfl⟩,⟨_,_,rfl,⟨rfl,rfl⟩,⟨_,_,rfl,⟨rfl,rfl⟩,⟨_,_,rfl,⟨rfl,rfl⟩,⟨_,_,rfl,Or.inr ⟨_,_,_,rfl⟩,⟨_,_,rfl,Or.inl rfl,rfl⟩⟩⟩⟩⟩⟩⟩⟩⟩⟩,rfl⟩) ?_;refine bm.mt ah ah ah ah ?_;exact bm.nil))⟩
   .rintro _-
    refine fu 2 ?_;refine pK [(0,.buf 9 [fG]),(12,.buf 9 [Rec.D (pe l i own)])] (.id ah (.bf ah (.cons (.ag (.cons (.refl _) (.cons (.refl _) (.cons (.refl _) (.cons (.refl _) (.cons (.refl _) (.cons (.refl _) (.cons (.refl _) (.cons (.refl _) (.cons (.nil 2) .nil)))))))))) .nil) .nil)) ?_;refine aE ?_;refine cy (d:=Rec.D (pe l i own)) ?_;refine ai (hc:=h232 l (i+52) (pe l i own) ae (MR l i own)) ?_;refine aC ?_;refine aU (Rec.D (Bf l i own)) (he:=bd) ?_;refine ay ?_;refine cy (d:=Rec.D (Bf l i own)) ?_;refine aU (Rec.D (Bf l i own)) (he:=bd) ?_;refine ay ?_;refine bM (?_);rfl
def R5 (T:List D->D->Prop):Prop:=∀(l:List Int) (i:Int) (own:Int),(0<=i/\i<=1000000)->(0<=own/\own<=100000)->T [.sl 1 (l.map (D.int .i64)),.int .i64 i,.int .i64 own] (Rec.D (Bf l i own))
def C79 (Y:Ctx):Prop:=R5 (br Y 79)
def cmp_isNaN_int:aF:=⟨1,2,gQ,bQ,(sq (r1 [gm dk] 1 0) (sq (r1 [gm s0,gm s0,bO l0 l1,gm l2] 1 3) .ret))⟩
def w714 {Y:Ctx}(hm:(Y.at 0).cd)  (x:Int)   :de Y cmp_isNaN_int (.bool false) [.int .i64 x]:=by
 show bG _ _ _ [⟨_,_⟩,_] _;refine aq ?_;refine c7 ?_;refine bI ?_;simp
def LR (T:List D->D->Prop):Prop:=∀(x:Int),T [.int .i64 x] (.bool false)
def Y7 (Y:Ctx):Prop:=LR (br Y 714)
def Bb:aF:=⟨1,2,gQ,bQ,(sq (r1 [gm dk] 1 0) (sq (r1 [gm s0,gm s0,bO l0 l1,gm l2] 1 3) .ret))⟩
def w704 {Y:Ctx}(hm:(Y.at 0).cd)  (x:au)   :de Y Bb (.bool false) [.str x]:=by
 show bG _ _ _ [⟨_,_⟩,_] _;refine aq ?_;refine c7 ?_;refine bI ?_;simp
def LP (T:List D->D->Prop):Prop:=∀(x:au),T [.str x] (.bool false)
def Y6 (Y:Ctx):Prop:=LP (br Y 704)
def cmp_Compare_int:aF:=⟨2,10,[⟨2,none⟩],bQ,(sq (r1 [gm bp] 2 0) (sq (r1 [gm s0,gx 714 [l0] bQ,gm l1] 3 2) (sq (r1 [gm s1,gx 714 [l0] bQ,gm l1] 5 2) (sq (sq (r1 [gm s3] 4 0) (.cond s4 (sq (sq (r1 [gm s5] 6 0) (.cond s6 (sq (r1 [gm bp] 2 0) .ret) .skip)) (sq (r1 [gn (.mv (.c (.int .i64 (-1))))] 2 0) .ret)) .skip)) (sq (sq (r1 [gm s5] 7 0) (.cond s7 (sq (r1 [gm bV] 2 0) .ret) .skip)) (sq (sq (r1 [gm s0,gm s1,aO l0 l1] 8 2) (.cond s8 (sq (r1 [gn (.mv (.c (.int .i64 (-1))))] 2 0) .ret) .skip)) (sq (sq (r1 [gm s0,gm s1,dd l0 l1] 9 2) (.cond s9 (sq (r1 [gm bV] 2 0) .ret) .skip)) (sq (r1 [gm bp] 2 0) .ret))))))))⟩
def w532 {Y:Ctx}(hm:(Y.at 0).cd)(h714:Y7 Y)(a:Int)(b:Int)   :de Y cmp_Compare_int (.int .i64 (fj a b)) [.int .i64 a,.int .i64 b]:=by
 show bG _ _ _ [⟨_,_⟩,⟨_,_⟩,_,_,_,_,_,_,_,_] _;refine aq ?_;refine aE ?_;refine ai (hc:=h714 _) ?_;refine aE ?_;refine ai (hc:=h714 _) ?_;refine aG ?_;refine av (t:=false) (fun h=>by cases h) (fun _=>?_);refine aI ?_;refine av (t:=false) (fun h=>by cases h) (fun _=>?_);refine aY ?_;refine cC (fun hc3=>?_) fun hc3=>?_
 .refine aI ?_;refine cS ?_;simp[fj,hc3]
 refine aY ?_;refine cC (fun hc4=>?_) fun hc4=>?_
 .refine aI ?_;refine cS ?_;unfold fj;rw[aj hc3,ax hc4]
 refine aI ?_;refine cS ?_;unfold fj;rw[aj hc3,aj hc4]
def yH (T:List D->D->Prop):Prop:=∀(a:Int) (b:Int),T [.int .i64 a,.int .i64 b] (.int .i64 (fj a b))
def Vt (Y:Ctx):Prop:=yH (br Y 532)
def xt:aF:=⟨2,10,[⟨2,none⟩],bQ,(sq (r1 [gm bp] 2 0) (sq (r1 [gm s0,gx 704 [l0] bQ,gm l1] 3 2) (sq (r1 [gm s1,gx 704 [l0] bQ,gm l1] 5 2) (sq (sq (r1 [gm s3] 4 0) (.cond s4 (sq (sq (r1 [gm s5] 6 0) (.cond s6 (sq (r1 [gm bp] 2 0) .ret) .skip)) (sq (r1 [gn (.mv (.c (.int .i64 (-1))))] 2 0) .ret)) .skip)) (sq (sq (r1 [gm s5] 7 0) (.cond s7 (sq (r1 [gm bV] 2 0) .ret) .skip)) (sq (sq (r1 [gm s0,gm s1,aO l0 l1] 8 2) (.cond s8 (sq (r1 [gn (.mv (.c (.int .i64 (-1))))] 2 0) .ret) .skip)) (sq (sq (r1 [gm s0,gm s1,dd l0 l1] 9 2) (.cond s9 (sq (r1 [gm bV] 2 0) .ret) .skip)) (sq (r1 [gm bp] 2 0) .ret))))))))⟩
def w516 {Y:Ctx}(hm:(Y.at 0).cd)(h704:Y6 Y)(a:au)(b:au)   :de Y xt (.int .i64 (Ba a b)) [.str a,.str b]:=by
 show bG _ _ _ [⟨_,_⟩,⟨_,_⟩,_,_,_,_,_,_,_,_] _;refine aq ?_;refine aE ?_;refine ai (hc:=h704 _) ?_;refine aE ?_;refine ai (hc:=h704 _) ?_;refine aG ?_;refine av (t:=false) (fun h=>by cases h) (fun _=>?_);refine aI ?_;refine av (t:=false) (fun h=>by cases h) (fun _=>?_);refine aY ?_;refine cC (fun hc3=>?_) fun hc3=>?_
 .refine aI ?_;refine cS ?_;simp[Ba,hc3]
 refine aY ?_;refine cC (fun hc4=>?_) fun hc4=>?_
 .refine aI ?_;refine cS ?_;simp_all[Ba]
 refine aI ?_;refine cS ?_;simp_all[Ba]
def yG (T:List D->D->Prop):Prop:=∀(a:au) (b:au),T [.str a,.str b] (.int .i64 (Ba a b))
def YM (Y:Ctx):Prop:=yG (br Y 516)
def Wi:aF:=⟨1,9,gQ,bQ,(sq (r1 [gm bp] 1 0) (sq (r1 [gm bp] 7 0) (sq (sq (rg [gm s0,gl l0,gm bp] [(5,0),(3,1),(2,2)]) (.block 0 (.loop (sq (r1 [aO s2 s3] 4 0) (sq (fh s4 0) (sq (.block 1 (sq (r1 [ga 1 s5 s2,gd l0,gm l1] 6 2) (sq (r1 [gm s6,gm s7,bO l0 l1] 8 2) (.cond s8 (sq (r1 [gm s6,gm l0] 1 1) .ret) .skip)))) (r1 [aw s2 bV,gm l0] 2 1))))))) (sq (r1 [gm s7,gm l0] 1 1) .ret))))⟩
def w531  (l:List Int)   :de Y Wi (.int .i64 (fA (fun i=>l[i]!) 0 l.length)) [.sl 1 (l.map (D.int .i64))]:=by
 show bG _ _ _ [⟨_,_⟩,_,_,_,_,_,_,_,_] _;refine aq ?_;refine c7 ?_;intro u0;refine ay ?_;refine a7 hm (ι:=Nat) (fun i=>[.un,.un,⟨true,.int .i64 (i:Nat)⟩,⟨true,.int .i64 (l.length:Nat)⟩,.un,⟨true,.sl 1 (l.map (D.int .i64))⟩,.un,⟨true,.int .i64 0⟩,.un]) (fun i=>[]) 5 (fun i=>i<=l.length/\fA (fun i=>l[i]!) 0 l.length=fA (fun i=>l[i]!) i l.length) (fun i=>l.length-i) 0 ⟨ae,rfl⟩ (dp []) ?_;rintro i ⟨hi,hr⟩;refine aA ?_;refine cC (fun hc0=>?_) fun hc0=>?_
 .refine aA ?_;refine cb i ?_;refine bS (v:=.int .i64 l[i]!) ?_;refine aY ?_;refine fH (fun hc1=>?_) fun hc1=>?_
  .refine aY ?_;refine cS ?_;rw[hr,lE ae hc1]
  refine aY ?_;exact⟨i+1,⟨ae,by rw[hr,nv ae hc1]⟩,ae,(dp [])⟩
 refine aY ?_;refine cS ?_;rw[hr,nu ae]
def LA (T:List D->D->Prop):Prop:=∀(l:List Int),T [.sl 1 (l.map (D.int .i64))] (.int .i64 (fA (fun i=>l[i]!) 0 l.length))
def YO (Y:Ctx):Prop:=LA (br Y 531)
def Eh:aF:=⟨1,3,[⟨1,some (5,true)⟩],zH,(sq (rg [gb 5 s0,gb 5 (.c (.agg [.int .i64 0,.int .i64 0,.int .i64 0,.str [],.str []]))] [(2,0),(1,1)]) (sq (rg [gf 4 s2,gt 1 l0 cse] []) (sq (rg [gk 5 true s2,gt 5 s1 l0] []) .ret)))⟩
def w530 {Y:Ctx}(hm:(Y.at 0).cd)  (v:cZ)   :de Y Eh (cZ.D (wH v)) [cZ.D v]:=by
 show bG _ _ _ [⟨_,_⟩,_,_] _;refine aq ?_;refine aI ?_;refine aU _ (he:=bd) ?_;refine aG ?_;refine bM (?_);rfl
def Lz (T:List D->D->Prop):Prop:=∀(v:cZ),T [cZ.D v] (cZ.D (wH v))
def YN (Y:Ctx):Prop:=Lz (br Y 530)
def GQ:aF:=⟨2,10,[⟨2,none⟩],bQ,(sq (r1 [gm bp] 2 0) (sq (rg [gm s0,gx 659 [l0] bQ,gm s1,gx 659 [l2] bQ,gm l1,gm l3] [(3,4),(4,5)]) (sq (sq (r1 [gm s3,gm l0,gmt 1 s4,eG l1 l2] 5 3) (.cond s5 (sq (r1 [gm s0,gx 658 [l0] bQ,gm l1,ge l2 0,ge l2 1,gm l3,gm l4] 6 5) (sq (r1 [gm s1,gx 658 [l0] bQ,gm l1,ge l2 0,ge l2 1,gm l3,gm l4] 7 5) (sq (r1 [gm s6,gm s7,gx 532 [l0,l1] fQ,gm l2] 2 3) .ret))) .skip)) (sq (sq (r1 [gm s3,gm s4,gn (.eqA true false [.b] l0 l1)] 8 2) (.cond s8 (sq (sq (r1 [gm s3] 9 0) (.cond s9 (sq (r1 [gn (.mv (.c (.int .i64 (-1))))] 2 0) .ret) .skip)) (sq (r1 [gm bV] 2 0) .ret)) .skip)) (sq (r1 [gm s0,gm s1,gx 516 [l0,l1] fQ,gm l2] 2 3) .ret)))))⟩
def w534 {Y:Ctx}(hm:(Y.at 0).cd)(h516:YM Y)(h532:Vt Y)(h658:OS Y)(h659:Vw Y)(a:au)(b:au)   :de Y GQ (.int .i64 (sK a b)) [.str a,.str b]:=by
 show bG _ _ _ [⟨_,_⟩,⟨_,_⟩,_,_,_,_,_,_,_,_] _;refine aq ?_;refine aE ?_;refine ai (hc:=h659 _) ?_;refine aC ?_;refine ai (hc:=h659 _) ?_;refine hY ?_;refine cC (fun hc0=>?_) fun hc0=>?_
 .refine aA ?_;refine ai (hc:=h658 _) ?_;refine c7 ?_;refine ai (hc:=h658 _) ?_;refine hY ?_;refine ai (hc:=h532 _ _) ?_;refine aA ?_;refine cS ?_;unfold sK;rw[ax hc0]
 refine aI ?_;refine Kb (hb:=Wo _ _) ?_;refine aC ?_;refine av (fun hc1=>?_) (fun hc1=>?_)
 .simp only[bz,bt]at hc1;refine aI ?_;refine cC (fun hc2=>?_) fun hc2=>?_
  .refine aI ?_;refine cS ?_;have hn:¬(cR a=true/\cR b=true):=by rintro⟨h1,h2⟩;simp[h1,h2]at hc0
   unfold sK;rw[aj hn];rw[ax hc2]
  refine aG ?_;refine cS ?_;have hn:¬(cR a=true/\cR b=true):=by rintro⟨h1,h2⟩;simp[h1,h2]at hc0
  unfold sK;rw[aj hn];rw[aj (by simp[hc2]),ax (by cases h:cR b with|true=>rfl|false=>exact absurd (hc2.trans h.symm) hc1)]
 simp only[bP,aV]at hc1;refine aE ?_;refine ai (hc:=h516 _ _) ?_;refine aA ?_;refine cS ?_;have hn:¬(cR a=true/\cR b=true):=by rintro⟨h1,h2⟩;simp[h1,h2]at hc0
 unfold sK;rw[aj hn];have h1:cR a=false:=by cases h:cR a with|false=>rfl|true=>exact absurd ⟨h,hc1▸h⟩ hn
 rw[aj (by simp[h1]),aj (by rw[<-hc1];simp[h1])]
def yJ (T:List D->D->Prop):Prop:=∀(a:au) (b:au),T [.str a,.str b] (.int .i64 (sK a b))
def YP (Y:Ctx):Prop:=yJ (br Y 534)
def xM:aF:=⟨2,16,[⟨2,none⟩],bQ,(sq (rg [gb 5 s0,gb 5 s1,gm bp] [(3,0),(4,1),(2,2)]) (sq (sq (r2 [gk 5 true s3,gx 209 [l0] zH,jJ l1,gm l2,cl 3 (.ld 5 true s4),cl 3 (.call 209 [l4] zH),cl 3 (.un .not l5),eW l3 l6,gm l7,cl 8 (.ld 5 true s3),cl 8 (.call 530 [l9] zH),cl 8 (.ld 5 true s4),cl 8 (.call 530 [gh] zH),cl 8 (.eqA false true [.i .i64,.i .i64,.i .i64,.s,.s] l10 iE),eW l8 jr] 5 14) (.cond s5 (sq (r1 [gm bp] 2 0) .ret) .skip)) (sq (sq (r2 [gf 0 s3,gd l0,gf 0 s4,gd l2,gx 532 [l1,l3] fQ,gf 1 s3,gd l5,gf 1 s4,gd l7,gx 532 [l6,l8] fQ,gf 2 s3,gd l10,gf 2 s4,gd iE,gx 532 [gh,jr] fQ,gn (.bsl 1 (.int .i64 0) 3 [(0,l4),(1,l9),(2,j5)]),gx 531 [lr] [[.sl 1 [.a]]],gm mK] 6 17) (sq (r1 [gm s6,bO l0 bp] 7 1) (.cond s7 (sq (r1 [gm s6,gm l0] 2 1) .ret) .skip))) (sq (sq (r1 [gf 3 s3,gd l0,aL l1 cse] 8 2) (.cond s8 (sq (r1 [gm bV] 2 0) .ret) .skip)) (sq (sq (r1 [gf 3 s4,gd l0,aL l1 cse] 9 2) (.cond s9 (sq (r1 [gn (.mv (.c (.int .i64 (-1))))] 2 0) .ret) .skip)) (sq (rt [gf 3 s3,gd l0,gx 533 [l1,(i8 46)] fQ,gf 3 s4,gd l3,gx 533 [l4,(i8 46)] fQ,gm l2,gm l5] [(11,6),(12,7)]) (sq (sq (r1 [gm bp] 10 0) (.block 0 (.loop (sq (sq (r1 [gm jh,gm lf,gl l1,aO l0 l2,gm l3,gmt 4 jh,gmt 4 j8,bZ 4 (.len l6),bZ 4 (nL l5 l7),eG l4 l8] 13 9) (fh qG 0)) (sq (.block 1 (sq (r2 [gm lf,gm jh,ga 1 l0 l1,gd l2,gm j8,gm jh,ga 1 l4 l5,gd l6,gx 534 [l3,l7] fQ,gm l8] 14 9) (sq (r1 [gm qv,bO l0 bp] 15 1) (.cond xc (sq (r1 [gm qv,gm l0] 2 1) .ret) .skip)))) (r1 [gm jh,aw l0 bV,gm l1] 10 2)))))) (sq (r1 [gm lf,gl l0,gm j8,gl l2,gx 532 [l1,l3] fQ,gm l4] 2 5) .ret))))))))⟩
def w295 (h209:Hk Y)(h530:YN Y)(h531:YO Y)(h532:Vt Y)(h533:L9 Y)(h534:YP Y)(a:cZ)(b:cZ)  (hp0:a.sm/\b.sm):de Y xM (.int .i64 (oW a b)) [cZ.D a,cZ.D b]:=by
 show bG _ _ _ [⟨_,_⟩,⟨_,_⟩,_,_,_,_,_,_,_,_,_,_,_,_,_,_] _;refine aq ?_;refine aY ?_;refine ai (hc:=h209 a hp0.1) ?_;refine aA ?_;refine cV (hc:=fun hf=>h209 b hp0.2) ?_;refine aE ?_;refine cV (hc:=fun hf=>h530 a) ?_;refine aC ?_;refine cV (hc:=fun hf=>h530 b) ?_;refine UT (hb:=cZ.eq _ _) ?_;refine ay ?_;refine av (fun hc0=>?_) (fun hc0=>?_)
 .simp only[cX,bz,aV]at hc0;refine aI ?_;refine cS ?_;rcases hc0 with hc0|hc0
  .unfold oW;rw[ax hc0]
  .exact(BK hc0).symm
 simp only[dH,bP,bt]at hc0;have hv:¬(fe a=false\/fe b=false):=by simp only[not_or,Bool.not_eq_false];first|exact hc0|exact hc0.1
 refine aY ?_;refine ai (hc:=h532 _ _) ?_;refine aE ?_;refine ai (hc:=h532 _ _) ?_;refine aE ?_;refine ai (hc:=h532 _ _) ?_;refine dh ([fj a.major b.major,fj a.minor b.minor,fj a.patch b.patch].map (D.int .i64)) ?_;refine ai (hc:=h531 [fj a.major b.major,fj a.minor b.minor,fj a.patch b.patch]) (ha:=fun _=>ar (fun d=>[d]) (oD (q:=D.int .i64) (xs:=[fj a.major b.major,fj a.minor b.minor,fj a.patch b.patch]) (fun _=>rfl) ah)) (hp:=fun _=>⟨mH (q:=D.int .i64) (xs:=[fj a.major b.major,fj a.minor b.minor,fj a.patch b.patch]) (fun _=>rfl) ah,trivial⟩) ?_;refine aY ?_;refine av (fun hc1=>?_) (fun hc1=>?_)
 .simp only[bz,bt]at hc1;refine aG ?_;refine cS ?_;exact PH hv hc1
 simp only[bP,aV]at hc1;obtain⟨z1,z2,z3⟩:=PI hc1;refine aA ?_;have hcp:=Ps hv z1 z2 z3;have hpn:¬a.pre=b.pre:=fun e=>hc0.2 (SL z1 z2 z3 e)
 refine aE ?_;refine cC (fun hc2=>?_) fun hc2=>?_
 .refine aI ?_;refine cS ?_;rw[hcp];unfold vZ;rw[aj hpn,ax hc2]
 refine aY ?_;refine cC (fun hc3=>?_) fun hc3=>?_
 .refine aI ?_;refine cS ?_;rw[hcp];unfold vZ;rw[aj hpn,aj hc2,ax hc3]
 refine aE ?_;refine ai (hc:=h533 a.pre 46 hp0.1.1) ?_;refine ay ?_;refine ai (hc:=h533 b.pre 46 hp0.2.1) ?_;refine aY ?_;refine a7 hm (ι:=Nat) (fun i=>[.un,.un,.un,⟨true,.ptr 0 5 0 0⟩,⟨true,.ptr 1 5 0 0⟩,.un,.un,.un,.un,.un,⟨true,.int .i64 (i:Nat)⟩,⟨true,.sl 1 ((ak a.pre 46).map D.str)⟩,⟨true,.sl 1 ((ak b.pre 46).map D.str)⟩,.un,.un,.un]) (fun i=>[(0,.buf 5 [cZ.D a]),(1,.buf 5 [cZ.D b])]) 53 (fun i=>(i<=(ak a.pre 46).length/\i<=(ak b.pre 46).length)/\oW a b=sU (ak a.pre 46) (ak b.pre 46) i) (fun i=>(ak a.pre 46).length-i) 0 ⟨⟨ae,ae⟩,by rw[hcp];unfold vZ;rw[aj hpn,aj hc2,aj hc3]⟩ (dp [(0,0),(1,1)]) ?_;rintro i ⟨hi,hr⟩;refine aI ?_;intro u0;refine aE ?_;refine jI ?_;refine aA ?_;refine cC (fun hc4=>?_) fun hc4=>?_
 .refine aI ?_;refine cb i (hb:=fun _=>ae) ?_;refine bS (v:=.str (ak a.pre 46)[i]!) (hi:=fun _=>ae) ?_;refine ay ?_;refine cb i (hb:=fun _=>ae) ?_;refine bS (v:=.str (ak b.pre 46)[i]!) (hi:=fun _=>ae) ?_;refine ai (hc:=h534 _ _) ?_;refine aG ?_;refine fH (fun hc5=>?_) fun hc5=>?_
  .refine aY ?_;refine cS ?_;rw[hr,CM ae hc5]
  refine bJ ?_;exact⟨i+1,⟨⟨ae,ae⟩,by rw[hr,GC ae hc5]⟩,ae,(dp [(0,0),(1,1)])⟩
 refine aI ?_;intro u1;refine ay ?_;intro u2;refine ai (hc:=h532 _ _) ?_;refine aA ?_;refine cS ?_;rw[hr,CL ae]
def yw (T:List D->D->Prop):Prop:=∀(a:cZ) (b:cZ),(a.sm/\b.sm)->T [cZ.D a,cZ.D b] (.int .i64 (oW a b))
def Vj (Y:Ctx):Prop:=yw (br Y 295)
def DX:aF:=⟨1,6,[⟨1,none⟩,⟨2,none⟩],fQ,(sq (rg [gb 9 s0,gm cse,gm bp] [(3,0),(1,1),(2,2)]) (sq (sq (r1 [gk 9 true s3,gx 70 [l0] [[.a,.a,.a,.a,.a,.a,.sl 3 [.sl 4 [.a,.a,.sl 1 [.a],.a],.a,.a],.sl 3 [.a,.a,.a],.sl 2 [.a,.sl 1 [.a]]]],gm l1,ge l2 0,ge l2 1,gm l3,gm l4] 4 5) (sq (r1 [gm s4,bO l0 bp] 5 1) (.cond s5 (sq (rg [gm s4,gm cse,gm l0] [(1,1),(2,2)]) .ret) .skip))) (sq (rg [gk 9 true s3,gx 215 [l0] [[.a,.a,.a,.a,.a,.a,.sl 3 [.sl 4 [.a,.a,.sl 1 [.a],.a],.a,.a],.sl 3 [.a,.a,.a],.sl 2 [.a,.sl 1 [.a]]]],gm l1,gm bp] [(1,2),(2,3)]) .ret)))⟩
def w72 {Y:Ctx}(hm:(Y.at 0).cd)(h70:C70 Y)(h215:Vb Y)(r:Rec)  (hp0:fF r):de Y DX (.tup [.str (df r).1,.int .i64 (df r).2]) [Rec.D r]:=by
 show bG _ _ _ [⟨_,_⟩,_,_,_,_,_] _;refine aq ?_;refine aY ?_;refine ai (hc:=h70 r hp0) ?_;refine fT ?_;refine cC (fun hc0=>?_) fun hc0=>?_
 .refine aY ?_;refine bM (aM (ar D.str ?_) (ar (D.int .i64) ?_));all_goals
   simp[df,hc0]
 refine ay ?_;have hgd:=qP hc0;refine aC ?_;refine ai (hc:=h215 r ⟨hgd,hp0⟩) ?_;refine aE ?_;refine bM (aM (ar D.str ?_) (ar (D.int .i64) ?_));all_goals
  simp[df,hc0]
def En (T:List D->D->Prop):Prop:=∀(r:Rec),(fF r)->T [Rec.D r] (.tup [.str (df r).1,.int .i64 (df r).2])
def C72 (Y:Ctx):Prop:=En (br Y 72)
def Iu:aF:=⟨1,7,[⟨1,none⟩,⟨2,none⟩],fQ,(sq (rg [gb 9 s0,gm (iu 0),gm bp] [(3,0),(1,1),(2,2)]) (sq (rg [gk 9 true s3,gx 72 [l0] [[.a,.a,.a,.a,.a,.a,.sl 3 [.sl 4 [.a,.a,.sl 1 [.a],.a],.a,.a],.sl 3 [.a,.a,.a],.sl 2 [.a,.sl 1 [.a]]]],gm l1,ge l2 0,ge l2 1,gm l3,gm l4] [(6,5),(4,6)]) (sq (sq (r1 [gm s4,bO l0 bp] 5 1) (.cond s5 (sq (rg [gm s4,gm (iu 0),gm l0] [(1,1),(2,2)]) .ret) .skip)) (sq (rg [gm s6,gn (.s2b l0),gx 220 [l1] [[.sl 1 [.a]]],gm l2,gm bp] [(1,3),(2,4)]) .ret))))⟩
def w74 {Y:Ctx}(hm:(Y.at 0).cd)(h72:C72 Y)(h220:XX Y)(r:Rec)  (hp0:fF r):de Y Iu (.tup [.int .u64 (mC r),.int .i64 (df r).2]) [Rec.D r]:=by
 show bG _ _ _ [⟨_,_⟩,_,_,_,_,_,_] _;refine aq ?_;refine aG ?_;refine ai (hc:=h72 r hp0) ?_;refine fT ?_;refine cC (fun hc0=>?_) fun hc0=>?_
 .refine aY ?_;refine bM (aM (ar (D.int .u64) ?_) (ar (D.int .i64) ?_));all_goals
   simp[mC,hc0]
 refine aE ?_;refine ai (hc:=h220 (df r).1) (ha:=fun _=>ar (fun d=>[d]) (oD (q:=fun b:UInt8=>D.int .u8 b.toNat) (fun _=>rfl) ah)) (hp:=fun _=>⟨mH (q:=fun b:UInt8=>D.int .u8 b.toNat) (fun _=>rfl) ah,trivial⟩) ?_;refine aE ?_;refine bM (aM (ar (D.int .u64) ?_) (ar (D.int .i64) ?_));all_goals
  simp[mC,hc0]
def Eo (T:List D->D->Prop):Prop:=∀(r:Rec),(fF r)->T [Rec.D r] (.tup [.int .u64 (mC r),.int .i64 (df r).2])
def C74 (Y:Ctx):Prop:=Eo (br Y 74)
def N5:aF:=⟨2,5,[⟨2,none⟩],bQ,(sq (rg [gb 5 s0,gb 5 s1,gm dk] [(3,0),(4,1),(2,2)]) (sq (r1 [gk 5 true s3,gx 209 [l0] zH,gm l1,bZ 2 (.ld 5 true s4),bZ 2 (.call 209 [l3] zH),eG l2 l4,gm l5,bZ 6 (.ld 5 true s3),bZ 6 (.ld 5 true s4),bZ 6 (.call 295 [l7,l8] [[.a,.a,.a,.a,.a],[.a,.a,.a,.a,.a]]),bZ 6 (cO l9 bp),eG l6 l10,gm gh] 2 12) .ret))⟩
def w701 {Y:Ctx}(hm:(Y.at 0).cd)(h209:Hk Y)(h295:Vj Y)(a:cZ)(b:cZ)  (hp0:a.sm/\b.sm):de Y N5 (.bool (DK a b)) [cZ.D a,cZ.D b]:=by
 show bG _ _ _ [⟨_,_⟩,⟨_,_⟩,_,_,_] _;refine aq ?_;refine aG ?_;refine ai (hc:=h209 a hp0.1) ?_;refine ay ?_;refine cV (hc:=fun hf=>h209 b hp0.2) ?_;refine aE ?_;refine cV (hc:=fun hf=>h295 a b hp0) ?_;refine aI ?_;exact bI rfl
def yS (T:List D->D->Prop):Prop:=∀(a:cZ) (b:cZ),(a.sm/\b.sm)->T [cZ.D a,cZ.D b] (.bool (DK a b))
def Y5 (Y:Ctx):Prop:=yS (br Y 701)
def Bp:aF:=⟨3,5,[⟨3,none⟩],bQ,(sq (rg [gb 11 s0,gm dk] [(4,0),(3,1)]) (sq (r1 [gf 0 s4,gf 0 l0,gd l1,gd s1,aL l2 l3,gm l4,k9 5 0 s4,k9 5 1 l6,bZ 5 (.ld 5 true l7),bZ 5 (.ld 5 true s2),bZ 5 (.call 701 [l8,l9] [[.a,.a,.a,.a,.a],[.a,.a,.a,.a,.a]]),eG l5 l10,gm gh] 3 12) .ret))⟩
def w700 {Y:Ctx}(hm:(Y.at 0).cd)(h701:Y5 Y)(x:cY)(nm:au)(v:cZ)  (hp0:x.r.v.sm/\v.sm):de Y Bp (.bool (Fu nm v x)) [cY.D x,.ref 1 [.str nm] 0 0,.ref 5 [cZ.D v] 0 0]:=by
 show bG _ _ _ [⟨_,_⟩,⟨_,_⟩,⟨_,_⟩,_,_] _;refine aq ?_;refine aG ?_;refine bD (v:=.str x.r.name) ?_;refine eK (v:=.str nm) ?_;refine aE ?_;refine bD (v:=cZ.D x.r.v) ?_;refine eK (v:=cZ.D v) ?_;refine cV (hc:=fun hf=>h701 x.r.v v hp0) ?_;refine aE ?_;exact bI rfl
def LO (T:List D->D->Prop):Prop:=∀(x:cY) (nm:au) (v:cZ),(x.r.v.sm/\v.sm)->T [cY.D x,.ref 1 [.str nm] 0 0,.ref 5 [cZ.D v] 0 0] (.bool (Fu nm v x))
def Y4 (Y:Ctx):Prop:=LO (br Y 700)
def qf:aF:=⟨2,8,[⟨2,none⟩],bQ,(sq (r1 [gm bp] 2 0) (sq (sq (rg [gm s0,gl l0,gm bp] [(4,1),(3,2)]) (.block 0 (.loop (sq (r1 [aO s3 s4] 5 0) (sq (fh s5 0) (sq (.block 1 (sq (r1 [gm s3,gm l0] 6 1) (sq (r1 [gm s1,gm s0,gm s6,ga 11 l1 l2,gk 11 true l3,gn (.callv l0 [l4] [[.a,.a,.a,.a,.a,.a,.sl 3 [.sl 4 [.a,.a,.sl 1 [.a],.a],.a,.a],.sl 3 [.a,.a,.a],.sl 2 [.a,.sl 1 [.a]],.a,.a]])] 7 5) (.cond s7 (sq (r1 [gm s6,gm l0] 2 1) .ret) .skip)))) (r1 [aw s3 bV,gm l0] 3 1))))))) (sq (r1 [gn (.mv (.c (.int .i64 (-1))))] 2 0) .ret)))⟩
def w699 (h700:Y4 Y)(l:List cY)(nm:au)(v:cZ)  (hp0:(∀x∈l,x.r.v.sm)/\v.sm):de Y qf (.int .i64 (sG l nm v 0)) [.sl 11 (l.map cY.D),.fn 700 [.ref 1 [.str nm] 0 0,.ref 5 [cZ.D v] 0 0]]:=by
 show bG _ _ _ [⟨_,_⟩,⟨_,_⟩,_,_,_,_,_,_] _;refine aq ?_;refine aG ?_;intro u0;refine ay ?_;refine a7 hm (ι:=Nat) (fun i=>[⟨true,.sl 11 (l.map cY.D)⟩,⟨true,.fn 700 [.ref 1 [.str nm] 0 0,.ref 5 [cZ.D v] 0 0]⟩,.un,⟨true,.int .i64 (i:Nat)⟩,⟨true,.int .i64 (l.length:Nat)⟩,.un,.un,.un]) (fun i=>[]) 4 (fun i=>i<=l.length/\sG l nm v 0=sG l nm v i) (fun i=>l.length-i) 0 ⟨ae,rfl⟩ (dp []) ?_;rintro i ⟨hi,hr⟩;refine aA ?_;refine cC (fun hc0=>?_) fun hc0=>?_
 .refine fT ?_;first|refine bS (v:=(cY.D _)) ?_|refine eK (v:=(cY.D _)) ?_
  refine TO (hc:=fun _=>h700 l[i]! nm v ⟨hp0.1 _ (bB ae),hp0.2⟩) ?_;refine aC ?_;refine fH (fun hc1=>?_) fun hc1=>?_
  .refine aY ?_;refine cS ?_;rw[hr,QR ae hc1]
  refine aY ?_;exact⟨i+1,⟨ae,by rw[hr,QT ae hc1]⟩,ae,(dp [])⟩
 refine aG ?_;refine cS ?_;rw[hr,J4 ae]
def LN (T:List D->D->Prop):Prop:=∀(l:List cY) (nm:au) (v:cZ),((∀x∈l,x.r.v.sm)/\v.sm)->T [.sl 11 (l.map cY.D),.fn 700 [.ref 1 [.str nm] 0 0,.ref 5 [cZ.D v] 0 0]] (.int .i64 (sG l nm v 0))
def Y3 (Y:Ctx):Prop:=LN (br Y 699)
def Gw:aF:=⟨3,6,[⟨3,none⟩],bQ,(sq (rg [gb 1 s1,gb 5 s2,gm bp] [(4,0),(5,1),(3,2)]) (sq (r1 [gm s0,gn (.mkf 700 [s4,s5]),gx 699 [l0,l1] [[.sl 11 [.a,.a,.a,.a,.a,.a,.sl 3 [.sl 4 [.a,.a,.sl 1 [.a],.a],.a,.a],.sl 3 [.a,.a,.a],.sl 2 [.a,.sl 1 [.a]],.a,.a]],[.a]],gm l2] 3 3) .ret))⟩
def w511 {Y:Ctx}(hm:(Y.at 0).cd)(h699:Y3 Y)(l:List cY)(nm:au)(v:cZ)  (hp0:(∀x∈l,x.r.v.sm)/\v.sm):de Y Gw (.int .i64 (sG l nm v 0)) [.sl 11 (l.map cY.D),.str nm,cZ.D v]:=by
 show bG _ _ _ [⟨_,_⟩,⟨_,_⟩,⟨_,_⟩,_,_,_] _;refine aq ?_;refine aE ?_;refine fu 0 ?_;refine fu 1 ?_;refine ay ?_;refine UU [.ref 1 [.str nm] 0 0,.ref 5 [cZ.D v] 0 0] ?_;refine ai (hc:=h699 l nm v hp0) ?_;refine aA ?_;exact cS rfl
def yF (T:List D->D->Prop):Prop:=∀(l:List cY) (nm:au) (v:cZ),((∀x∈l,x.r.v.sm)/\v.sm)->T [.sl 11 (l.map cY.D),.str nm,cZ.D v] (.int .i64 (sG l nm v 0))
def YL (Y:Ctx):Prop:=yF (br Y 511)
def N4:aF:=⟨1,13,gQ,bQ,(sq (rg [gb 2 s0,gm dk] [(2,0),(1,1)]) (sq (sq (r1 [gf 0 s2,gd l0,gx 208 [l1] bQ,jJ l2,gm l3,gJ 4 1 s2,iD 4 l5,cl 4 (.len l6),cl 4 (ew l7 (i6 64)),eW l4 l8] 3 9) (mj s3 dk)) (sq (sq (rg [gf 1 s2,gd l0,gl l1,gm bp] [(7,1),(5,2),(4,3)]) (.block 0 (.loop (sq (r1 [aO s4 s5] 6 0) (sq (fh s6 0) (sq (.block 1 (sq (rg [gm s4,ga 11 s7 s4,gk 11 true l1,gb 11 (.c (.agg [.str [],.int .i64 0,.int .i64 0,.int .i64 0,.str [],.str [],.aD,.aD,.aD,.int .u64 0,.bool false])),gm l0,gt 11 l3 l2] [(8,3),(11,4)]) (sq (rg [gf 0 s8,gk 9 true l0,gx 74 [l1] [[.a,.a,.a,.a,.a,.a,.sl 3 [.sl 4 [.a,.a,.sl 1 [.a],.a],.a,.a],.sl 3 [.a,.a,.a],.sl 2 [.a,.sl 1 [.a]]]],gm l2,ge l3 0,ge l3 1,gm l4,gm l5] [(10,6),(9,7)]) (sq (r2 [gm s9,bO l0 bp,gm l1,eO 2 jh,gJ 2 9 s8,iD 2 l4,cl 2 (ei l3 l5),eW l2 l6,gm l7,gJ 8 1 s2,iD 8 l9,eO 8 lf,eO 8 lf,cl 8 (.slX 11 l10 gh iE),gJ 8 0 s8,gJ 8 0 j5,iD 8 lr,gJ 8 0 s8,gJ 8 1 pM,cl 8 (.ld 5 true qC),cl 8 (.call 511 [jr,mK,rm] [[.sl 11 [.a,.a,.a,.a,.a,.a,.sl 3 [.sl 4 [.a,.a,.sl 1 [.a],.a],.a,.a],.sl 3 [.a,.a,.a],.sl 2 [.a,.sl 1 [.a]],.a,.a]],[.a],[.a,.a,.a,.a,.a]]),cl 8 (sP va bp),eW l8 xB] 12 22) (mj j8 dk))))) (r1 [aw s4 bV,gm l0] 4 1))))))) (xx oS))))⟩
def w353 (h74:C74 Y)(h208:L6 Y)(h511:YL Y)(s:fk)  (hp0:∀x∈s.es,fF x.r):de Y N4 (.bool (ji s)) [fk.D s]:=by
 show bG _ _ _ [⟨_,_⟩,_,_,_,_,_,_,_,_,_,_,_,_] _;refine aq ?_;refine aG ?_;refine bD (v:=.str s.name) ?_;refine ai (hc:=h208 _) ?_;refine aA ?_;refine bD (v:=.sl 11 (s.es.map cY.D)) ?_;refine jI ?_;refine aA ?_;refine av (fun hc0=>?_) (fun hc0=>?_)
 .simp only[cX,bz,aV]at hc0;have hf:ji s=false:=by
   unfold ji;rcases hc0 with h|h
   .rw[h];rfl
   .rw[show decide (s.es.length<=64)=false from cT ae];simp
  refine aI ?_;refine bI ?_;exact hf.symm
 simp only[dH,bP,bt]at hc0;have hq:ji s=cP (oa s.es) 0 s.es.length:=by unfold ji;rw[hc0.1,cj (show s.es.length<=64 by omega)];simp
 refine aE ?_;refine bD (v:=.sl 11 (s.es.map cY.D)) ?_;refine aC ?_;intro u0;refine ay ?_;refine a7 hm (ι:=Nat) (fun i=>[.un,.un,⟨true,.ptr 0 2 0 0⟩,.un,⟨true,.int .i64 (i:Nat)⟩,⟨true,.int .i64 (s.es.length:Nat)⟩,.un,⟨true,.sl 11 (s.es.map cY.D)⟩,.un,.un,.un,.un,.un]) (fun i=>[(0,.buf 2 [fk.D s])]) 16 (fun i=>i<=s.es.length/\ji s=cP (oa s.es) i s.es.length) (fun i=>s.es.length-i) 0 ⟨ae,hq⟩ (dp [(0,0)]) ?_;rintro i ⟨hi,hr⟩;refine aA ?_;refine cC (fun hc1=>?_) fun hc1=>?_
 .refine aA ?_;have hsm:=hp0 _ (bB (show i<s.es.length by omega));refine aC ?_;refine cb i ?_;refine bS (v:=cY.D s.es[i]!) ?_;refine ay ?_;refine aU (cY.D s.es[i]!) (he:=bd) ?_;refine aA ?_;refine bD (v:=Rec.D s.es[i]!.r) ?_;refine ai (hc:=h74 s.es[i]!.r hsm) ?_;refine fU ?_;refine bD (v:=.int .u64 s.es[i]!.sum) ?_;refine aE ?_;refine bD (v:=.sl 11 (s.es.map cY.D)) ?_;refine ay ?_;refine Xh (q:=cY.D) i (hj:=fun _=>rfl) (hb:=fun _=>ae) ?_;refine ay ?_;refine bD (v:=.str s.es[i]!.r.name) ?_;refine ay ?_;refine bD (v:=cZ.D s.es[i]!.r.v) ?_;refine cV (hc:=fun hf=>h511 (s.es.take i) s.es[i]!.r.name s.es[i]!.r.v ⟨fun x hx=>(hp0 x (lW hx)).1.2,hsm.1.2⟩) ?_;refine aA ?_;refine wp_cond (fun hc2=>?_) (fun hc2=>?_)
  .have hen:oa s.es i=false:=by
    unfold oa;simp only[cX,bz,aV,bt]at hc2;simp only[dT,bt];rcases hc2 with(h|h)|h
    .exact .inl (.inl h)
    .exact .inl (.inr h)
    .exact .inr ae
   refine aG ?_;refine bI ?_;rw[hr,aR ae,hen];rfl
  have hen:oa s.es i=true:=by
   unfold oa;simp only[dH,bP,aV,bt]at hc2;simp only[bx,aV];exact⟨hc2.1,ae⟩
  refine aY ?_;exact⟨i+1,⟨ae,by rw[hr,aR ae,hen];rfl⟩,ae,(dp [(0,0)])⟩
 refine aG ?_;refine bI ?_;rw[hr,ca ae]
def yy (T:List D->D->Prop):Prop:=∀(s:fk),(∀x∈s.es,fF x.r)->T [fk.D s] (.bool (ji s))
def Yf (Y:Ctx):Prop:=yy (br Y 353)
def tV:aF:=⟨2,3,[⟨2,none⟩],[[.sl 1 [.a]]],(sq (r1 [gm (.c (.aD))] 2 0) (sq (r1 [gm s0,gm s1,gm s1,pg l2,gn (.call 331 [l0,l1,l3,(.c (.int .i64 (-1)))] hb4),gm l4] 2 5) .ret))⟩
def w239 {Y:Ctx}(hm:(Y.at 0).cd)(h331:Yd Y)(s:au)  (hp0:s.length<=1048576):de Y tV (.sl 1 ((jt s).map D.str)) [.str s,.str [10]]:=by
 show bG _ _ _ [⟨_,_⟩,⟨_,_⟩,_] _;refine aq ?_;refine aY ?_;intro u0;refine ai (hc:=h331 s hp0) ?_;refine aA ?_;refine bM (?_);rfl
def KU (T:List D->D->Prop):Prop:=∀(s:au),(s.length<=1048576)->T [.str s,.str [10]] (.sl 1 ((jt s).map D.str))
def X3 (Y:Ctx):Prop:=KU (br Y 239)
def Fs:aF:=⟨1,4,gQ,[[.sl 1 [.a]]],(sq (r1 [gm (.c (.aD))] 1 0) (sq (r1 [gm s0,gx 239 [l0,(cs [10])] fQ,gm l1] 2 2) (sq (sq (r1 [gm s2,gm s2,gl l1,ee l2 bV,ga 1 l0 l3,gd l4,aL l5 cse] 3 6) (.cond s3 (r1 [gm s2,gm s2,gl l1,ee l2 bV,gn (.slA 1 l0 none (some l3)),gm l4] 2 5) .skip)) (sq (r1 [gm s2,gm l0] 1 1) .ret))))⟩
def w252 {Y:Ctx}(hm:(Y.at 0).cd)(h239:X3 Y)(s:au)  (hp0:s.length<=1048576):de Y Fs (.sl 1 ((cx s).map D.str)) [.str s]:=by
 show bG _ _ _ [⟨_,_⟩,_,_,_] _;have hpl:=QN s;have hpz:cx s=if(jt s)[(jt s).length-1]! =[]then(jt s).take ((jt s).length-1)else jt s:=QO s
 refine aq ?_;refine aE ?_;refine ai (hc:=h239 s hp0) ?_;refine aY ?_;intro u0;refine aC ?_;refine cb ((jt s).length-1) ?_;refine bS (v:=.str (jt s)[(jt s).length-1]!) ?_;refine ay ?_;refine cC (fun hc0=>?_) fun hc0=>?_
 .refine aE ?_;intro u1;refine aC ?_;refine pB ((jt s).length-1) ?_;refine aY ?_;refine bM (?_);rw[hpz,ax hc0];rfl
 refine aG ?_;refine bM (?_);rw[hpz,aj hc0];rfl
def K1 (T:List D->D->Prop):Prop:=∀(s:au),(s.length<=1048576)->T [.str s] (.sl 1 ((cx s).map D.str))
def X7 (Y:Ctx):Prop:=K1 (br Y 252)
def Ft:aF:=⟨1,3,[⟨1,none⟩,⟨2,none⟩],fQ,(sq (rg [gm cse,gm dk] [(1,0),(2,1)]) (sq (rg [gm s0,gx 244 [l0,(cs [10])] fQ,ge l1 0,ge l1 1,gm l2,gm l3] [(1,4),(2,5)]) .ret))⟩
def w253 {Y:Ctx}(hm:(Y.at 0).cd)(h244:X4 Y)(s:au)  (hp0:s.length<=1048576):de Y Ft (.tup [.str (bH s).1,.bool (bH s).2]) [.str s]:=by
 show bG _ _ _ [⟨_,_⟩,_,_] _;refine aq ?_;refine aI ?_;refine ai (hc:=h244 s hp0) ?_;refine aG ?_;refine bM (aM (ar D.str ?_) (ar D.bool ?_));all_goals rfl
def K2 (T:List D->D->Prop):Prop:=∀(s:au),(s.length<=1048576)->T [.str s] (.tup [.str (bH s).1,.bool (bH s).2])
def Sj (Y:Ctx):Prop:=K2 (br Y 253)
def index_first:aF:=⟨1,3,gQ,bQ,(sq (r1 [gm dk] 1 0) (sq (r1 [gm s0,gx 253 [l0] bQ,gm l1,ge l2 0,ge l2 1,gm l3,gm l4] 2 5) (sq (r1 [gm s2,gx 487 [l0,(cs [32])] fQ,gm l1,ge l2 0,ge l2 1,ge l2 2,gm l3] 2 6) (sq (r1 [gm s2,aL l0 (cs [101,110,116,114,121]),gm l1] 1 2) .ret))))⟩
def w256 {Y:Ctx}(hm:(Y.at 0).cd)(h253:Sj Y)(h487:Vr Y)(s:au)  (hp0:s.length<=1048576):de Y index_first (.bool (vC s)) [.str s]:=by
 show bG _ _ _ [⟨_,_⟩,_,_] _;refine aq ?_;refine aE ?_;refine ai (hc:=h253 s hp0) ?_;refine aY ?_;have hwl:=qk s;refine aC ?_;refine ai (hc:=h487 (bH s).1 32 ae) ?_;refine fU ?_;exact bI rfl
def K5 (T:List D->D->Prop):Prop:=∀(s:au),(s.length<=1048576)->T [.str s] (.bool (vC s))
def X9 (Y:Ctx):Prop:=K5 (br Y 256)
def Fq:aF:=⟨1,9,[⟨1,none⟩,⟨2,none⟩,⟨3,none⟩],Se,(sq (rg [gm (iu 0),gm dk,gm dk] [(1,0),(2,1),(3,2)]) (sq (rg [gm s0,gx 253 [l0] bQ,gm l1,ge l2 0,ge l2 1,gm l3,gm l4] [(4,5),(5,6)]) (sq (r1 [gm s4,gx 124 [l0,(cs [32])] fQ,gm l1] 6 2) (sq (sq (r1 [gm s5,jJ l0,gm l1,eO 2 s6,cl 2 (.len l3),cl 2 (ei l4 ko),eW l2 l5,gm l6,eO 7 s6,cl 7 (.ia 1 l8 bp),iD 7 l9,cl 7 (ei l10 (cs [101,110,116,114,121])),eW l7 gh,gm iE,eO 13 s6,cl 13 (.ia 1 j5 kr),iD 13 lr,cl 13 (ei mK (cs [111,110])),eO 13 pM,gmt 18 s6,bZ 18 (.ia 1 rm kr),kn 18 va,bZ 18 (ei xB (cs [111,102,102])),Et 13 qC A5,eW jr Ew] 7 24) (.cond s7 (sq (rg [gm (iu 0),gm dk,gm dk] [(1,0),(2,1),(3,2)]) .ret) .skip)) (sq (rg [gm s6,ga 1 l0 bV,gd l1,gx 499 [l2] bQ,gm l3,ge l4 0,ge l4 1,gm l5,gm l6] [(8,7),(5,8)]) (sq (rt [gm s8,gm s6,ga 1 l1 kr,gd l2,aL l3 (cs [111,102,102]),gm s5,gm l0,gm l4,gm l5] [(1,6),(2,7),(3,8)]) .ret))))))⟩
def w255 {Y:Ctx}(hm:(Y.at 0).cd)(h124:L5 Y)(h253:Sj Y)(h499:YJ Y)(s:au)  (hp0:s.length<=1048576):de Y Fq (.tup [.int .u64 (iL s).1,.bool (iL s).2.1,.bool (iL s).2.2]) [.str s]:=by
 show bG _ _ _ [⟨_,_⟩,_,_,_,_,_,_,_,_] _;refine aq ?_;refine aG ?_;refine ai (hc:=h253 s hp0) ?_;refine aY ?_;have hwl:=qk s;refine aC ?_;refine ai (v:=.sl 1 ((ak (bH s).1 32).map D.str)) (hc:=h124 (bH s).1 32 ae) ?_;refine bJ ?_;refine jI ?_;refine aE ?_;refine cb 0 (hb:=fun hf=>by simp at hf;omega) ?_;refine bS (v:=.str (ak (bH s).1 32)[0]!) (hi:=fun hf=>by simp at hf;omega) ?_;refine aE ?_;refine cb 2 (hb:=fun hf=>by simp at hf;omega) ?_;refine bS (v:=.str (ak (bH s).1 32)[2]!) (hi:=fun hf=>by simp at hf;omega) ?_;refine aA ?_;refine cb 2 (hb:=fun hf=>by simp at hf;omega) ?_;refine bS (v:=.str (ak (bH s).1 32)[2]!) (hi:=fun hf=>by simp at hf;omega) ?_;refine aE ?_;refine av (fun hc0=>?_) (fun hc0=>?_)
 .simp only[er]at hc0;have hz:=Wn hc0;refine aY ?_;refine bM (eZ (ar (D.int .u64) ?_) (ar D.bool ?_) (ar D.bool ?_));all_goals
   rw[iL,aj hz];first|done|rfl
 simp only[er]at hc0;obtain⟨hz,hl3⟩:=SU hc0;refine aA ?_;refine cb 1 (hb:=fun _=>ae) ?_;refine bS (v:=.str (ak (bH s).1 32)[1]!) (hi:=fun _=>ae) ?_;refine ai (hc:=h499 (ak (bH s).1 32)[1]!) ?_;refine c7 ?_;refine cb 2 (hb:=fun _=>ae) ?_;refine bS (v:=.str (ak (bH s).1 32)[2]!) (hi:=fun _=>ae) ?_;refine aY ?_;refine bM (eZ (ar (D.int .u64) ?_) (ar D.bool ?_) (ar D.bool ?_));all_goals
  rw[iL,ax hz];first|done|rfl
def K4 (T:List D->D->Prop):Prop:=∀(s:au),(s.length<=1048576)->T [.str s] (.tup [.int .u64 (iL s).1,.bool (iL s).2.1,.bool (iL s).2.2])
def X8 (Y:Ctx):Prop:=K4 (br Y 255)
def HY:aF:=⟨3,15,[⟨3,none⟩],bQ,(sq (rg [gb 2 s0,gb 9 s1,gm bp] [(7,0),(4,1),(3,2)]) (sq (sq (r1 [gk 9 true s4,gx 74 [l0] [[.a,.a,.a,.a,.a,.a,.sl 3 [.sl 4 [.a,.a,.sl 1 [.a],.a],.a,.a],.sl 3 [.a,.a,.a],.sl 2 [.a,.sl 1 [.a]]]],gm l1,ge l2 0,ge l2 1,gm l3,gm l4] 5 5) (sq (r1 [gm s5,gm s2,bO l0 l1] 6 2) (.cond s6 (sq (r1 [gm (i6 13)] 3 0) .ret) .skip))) (sq (sq (rg [gf 1 s7,gd l0,gl l1,gm bp] [(11,1),(9,2),(8,3)]) (.block 0 (.loop (sq (r1 [aO s8 s9] 10 0) (sq (fh jh 0) (sq (.block 1 (sq (r1 [ga 11 lf s8,gk 11 true l0,gb 11 (.c (.agg [.str [],.int .i64 0,.int .i64 0,.int .i64 0,.str [],.str [],.aD,.aD,.aD,.int .u64 0,.bool false])),gt 11 l2 l1] 12 2) (sq (r1 [gf 0 j8,gf 0 l0,gd l1,gf 0 s4,gd l3,aL l2 l4,gm l5,k9 6 0 j8,k9 6 1 l7,bZ 6 (.ld 5 true l8),k9 6 1 s4,bZ 6 (.ld 5 true l10),bZ 6 (.call 295 [l9,gh] [[.a,.a,.a,.a,.a],[.a,.a,.a,.a,.a]]),bZ 6 (cO iE bp),eG l6 jr] 13 14) (.cond qG (sq (r1 [gm Eu] 3 0) .ret) .skip)))) (r1 [aw s8 bV,gm l0] 8 1))))))) (sq (sq (r1 [gf 1 s7,gd l0,gl l1,gp l2 (i6 64)] 14 3) (.cond qv (sq (r1 [gm (i6 10)] 3 0) .ret) .skip)) (sq (r1 [gm bp] 3 0) .ret)))))⟩
def w257 (h74:C74 Y)(h295:Vj Y)(s:fk)(r:Rec)(n:Int)  (hp0:fF r/\∀x∈s.es,x.r.v.sm):de Y HY (.int .i64 (kG s.es r n)) [fk.D s,Rec.D r,.int .u64 n]:=by
 show bG _ _ _ [⟨_,_⟩,⟨_,_⟩,⟨_,_⟩,_,_,_,_,_,_,_,_,_,_,_,_] _;refine aq ?_;refine aG ?_;refine cy (d:=Rec.D r) ?_;refine ai (hc:=h74 r hp0.1) ?_;refine fU ?_;refine av (fun hc0=>?_) (fun hc0=>?_)
 .simp only[bz,bt]at hc0;refine aI ?_;refine cS ?_;unfold kG;rw[ax hc0]
 simp only[bP,aV]at hc0;refine aE ?_;refine bD (v:=.sl 11 (s.es.map cY.D)) ?_;refine aC ?_;intro u0;refine ay ?_;refine a7 hm (ι:=Nat) (fun i=>[.un,.un,.un,.un,⟨true,.ptr 1 9 0 0⟩,.un,.un,⟨true,.ptr 0 2 0 0⟩,⟨true,.int .i64 (i:Nat)⟩,⟨true,.int .i64 (s.es.length:Nat)⟩,.un,⟨true,.sl 11 (s.es.map cY.D)⟩,.un,.un,.un]) (fun i=>[(0,.buf 2 [fk.D s]),(1,.buf 9 [Rec.D r])]) 17 (fun i=>i<=s.es.length/\tX s.es r=(s.es.drop i).any (twC r)) (fun i=>s.es.length-i) 0 ⟨ae,rfl⟩ (dp [(0,0),(1,1)]) ?_;rintro i ⟨hi,hr⟩;refine aA ?_;refine cC (fun hc1=>?_) fun hc1=>?_
 .refine aA ?_;refine cb i ?_;refine bS (v:=cY.D s.es[i]!) ?_;refine aC ?_;refine aU (cY.D s.es[i]!) (he:=bd) ?_;refine aE ?_;refine bD (v:=.str s.es[i]!.r.name) ?_;refine aC ?_;refine bD (v:=.str r.name) ?_;refine aE ?_;refine bD (v:=cZ.D s.es[i]!.r.v) ?_;refine aC ?_;refine bD (v:=cZ.D r.v) ?_;refine cV (hc:=fun hf=>h295 s.es[i]!.r.v r.v ⟨hp0.2 _ (bB ae),hp0.1.1.2⟩) ?_;refine aA ?_;refine wp_cond (fun hc2=>?_) (fun hc2=>?_)
  .have htw:twC r s.es[i]! =true:=by unfold twC;simpa using hc2
   refine aG ?_;refine cS ?_;have htz:tX s.es r=true:=by rw[hr,xT ae htw]
   unfold kG;rw[aj (fun h=>h hc0),ax htz]
  have htw:twC r s.es[i]! =false:=by unfold twC;simpa using hc2
  refine aY ?_;exact⟨i+1,⟨ae,by rw[hr,C5 ae htw]⟩,ae,(dp [(0,0),(1,1)])⟩
 refine aE ?_;have htz:tX s.es r=false:=by rw[hr,xS ae]
 refine aC ?_;refine bD (v:=.sl 11 (s.es.map cY.D)) ?_;refine aC ?_;intro u1;refine ay ?_;refine cC (fun hc3=>?_) fun hc3=>?_
 .refine aI ?_;refine cS ?_;unfold kG;rw[aj (fun h=>h hc0),aj (by simp[htz]),ax ae]
 refine aI ?_;refine cS ?_;unfold kG;rw[aj (fun h=>h hc0),aj (by simp[htz]),aj ae]
def K6 (T:List D->D->Prop):Prop:=∀(s:fk) (r:Rec) (n:Int),(fF r/\∀x∈s.es,x.r.v.sm)->T [fk.D s,Rec.D r,.int .u64 n] (.int .i64 (kG s.es r n))
def Ya (Y:Ctx):Prop:=K6 (br Y 257)
def Fp:aF:=⟨1,14,[⟨1,none⟩,⟨2,none⟩],fQ,(sq (rg [gb 2 s0,gm cse,gm bp] [(3,0),(1,1),(2,2)]) (sq (sq (r1 [gk 2 true s3,gx 353 [l0] [[.a,.sl 11 [.a,.a,.a,.a,.a,.a,.sl 3 [.sl 4 [.a,.a,.a,.a],.a,.a],.sl 3 [.a,.a,.a],.sl 2 [.a,.sl 1 [.a]],.a,.a]]],jJ l1] 4 2) (.cond s4 (sq (rg [gm cse,gm bV] [(1,0),(2,1)]) .ret) .skip)) (sq (r1 [⟨.mkB,none⟩] 5 0) (sq (rg [gf 0 s3,gd l0,aw (cs [115,104,101,108,102,32]) l1,aw l2 (cs [10]),gn (.callM 489 [s5,l3])] []) (sq (sq (rg [gf 1 s3,gd l0,gl l1,gm bp] [(9,1),(7,2),(6,3)]) (.block 0 (.loop (sq (r1 [aO s6 s7] 8 0) (sq (fh s8 0) (sq (.block 1 (sq (r1 [ga 11 s9 s6,gk 11 true l0,gb 11 (.c (.agg [.str [],.int .i64 0,.int .i64 0,.int .i64 0,.str [],.str [],.aD,.aD,.aD,.int .u64 0,.bool false])),gt 11 l2 l1] 10 2) (sq (r1 [gm (cs [32,111,110,10])] 12 0) (sq (sq (r1 [gf 10 jh,gd l0] 11 1) (.cond lf (r1 [gm (cs [32,111,102,102,10])] 12 0) .skip)) (sq (r1 [gf 0 jh,gk 9 true l0,gx 72 [l1] [[.a,.a,.a,.a,.a,.a,.sl 3 [.sl 4 [.a,.a,.sl 1 [.a],.a],.a,.a],.sl 3 [.a,.a,.a],.sl 2 [.a,.sl 1 [.a]]]],gm l2,ge l3 0,ge l3 1,gm l4,gm l5] 13 6) (rg [gf 9 jh,gd l0,gx 497 [l1] bQ,aw (cs [101,110,116,114,121,32]) l2,gm j8,aw l3 l4,gm qG,aw l5 l6,gn (.callM 489 [s5,l7])] [])))))) (r1 [aw s6 bV,gm l0] 6 1))))))) (sq (rg [gn (.callM 452 [s5]),gm l0,gm bp] [(1,1),(2,2)]) .ret))))))⟩
def w251 (h72:C72 Y)(h353:Yf Y)(h452:Sk Y)(h489:Sq Y)(h497:YI Y)(s:fk)  (hp0:∀x∈s.es,fF x.r):de Y Fp (.tup [.str (lN s).1,.int .i64 (lN s).2]) [fk.D s]:=by
 show bG _ _ _ [⟨_,_⟩,_,_,_,_,_,_,_,_,_,_,_,_,_] _;refine aq ?_;refine aG ?_;refine cy (d:=fk.D s) ?_;refine ai (hc:=h353 s hp0) ?_;refine ay ?_;refine av (fun hc0=>?_) (fun hc0=>?_)
 .simp only[bz]at hc0;refine aG ?_;refine bM (aM (ar D.str ?_) (ar (D.int .i64) ?_));all_goals
   have hps:lN s=([],1):=by unfold lN;rw[ax hc0]
   rw[hps];first|done|rfl
 simp only[bP]at hc0;obtain⟨q1,q2⟩:=Kt hc0;refine aG ?_;refine bD (v:=.str s.name) ?_;refine c9 (hb:=fun _=>by simp only[az,aB];omega) ?_;refine fS ?_;refine cA (nx':=8) (v:=.any) (m':=[(11,.row (ve s 0)),(0,.buf 2 [fk.D s]),(6,.bld (some 11) (ve s 0).length true)]) (hc:=fun K' hK=>h489 _ _ K' ⟨([115,104,101,108,102,32]++s.name)++[10],6,[],rfl,.inl ⟨false,bd,rfl⟩,by simp only[az,aB];omega,aT,by simp only[bF,az,aB];omega,by rw[show []++(([115,104,101,108,102,32]++s.name)++[10])=ve s 0 from by rw[UZ];rfl];exact hK⟩) (hn:=aH) ?_;refine aE ?_;refine bD (v:=.sl 11 (s.es.map cY.D)) ?_;refine aC ?_;intro u0;refine ay ?_;refine a7 hm (ι:=Nat) (fun i=>[.un,.un,.un,⟨true,.ptr 0 2 0 0⟩,.un,⟨true,.ptr 6 2 0 0⟩,⟨true,.int .i64 (i:Nat)⟩,⟨true,.int .i64 (s.es.length:Nat)⟩,.un,⟨true,.sl 11 (s.es.map cY.D)⟩,.un,.un,.un,.un]) (fun i=>[(0,.buf 2 [fk.D s]),(6,.bld (some 7) (ve s i).length true),(7,.row (ve s i))]) 20 (fun i=>i<=s.es.length) (fun i=>s.es.length-i) 0 ae (aX.to [(0,0),(6,6),(11,7)] ah ah dX (by refine bm.gD ah ah ah ?_;refine bm.bl 6 ah ah ah (ar List.length (rfl)) rfl ?_;refine bm.rw 11 ah ah (rfl) ?_;exact bm.nil)) ?_;intro i hi;have q3:=yn (s:=s) ae hi;refine aA ?_;refine cC (fun hc1=>?_) fun hc1=>?_
 .refine aA ?_;have hsm:=hp0 _ (bB (show i<s.es.length by omega));have q4:=Aj s.es[i]!.r;have q5:=ke s.es[i]!.sum;have hxt:=GM (show i<s.es.length by omega);have hee:=Jv s.es[i]!;refine cb i ?_;refine bS (v:=cY.D s.es[i]!) ?_;refine aC ?_;refine aU (cY.D s.es[i]!) (he:=bd) ?_;refine aY ?_;refine bD (v:=.bool s.es[i]!.off) ?_;refine aC ?_;refine cC (fun hc2=>?_) fun hc2=>?_
  .refine aI ?_;refine bD (v:=Rec.D s.es[i]!.r) ?_;refine ai (hc:=h72 s.es[i]!.r hsm) ?_;refine bJ ?_;refine bD (v:=.int .u64 s.es[i]!.sum) ?_;refine ai (hc:=h497 _) ?_;refine fS ?_;refine aC ?_;refine fS ?_;refine aC ?_;refine fS ?_;refine cA (nx':=38) (v:=.any) (m':=[(45,.row (ve s (i+1))),(0,.buf 2 [fk.D s]),(6,.bld (some 45) (ve s (i+1)).length true),(23,.buf 11 [cY.D s.es[i]!])]) (hc:=fun K' hK=>h489 _ _ K' ⟨(([101,110,116,114,121,32]++gI s.es[i]!.sum)++[32,111,102,102,10])++(df s.es[i]!.r).1,6,ve s i,rfl,.inr ⟨7,true,bd,bd⟩,by simp only[az,aB];omega,aT,by simp only[bF,az,aB];omega,by rw[show ve s i++((([101,110,116,114,121,32]++gI s.es[i]!.sum)++[32,111,102,102,10])++(df s.es[i]!.r).1)=ve s (i+1)from by rw[hxt,hee,hc2];rfl];exact hK⟩) (hn:=aH) ?_;refine aY ?_;exact⟨i+1,ae,ae,(aX.to [(0,0),(6,6),(45,7)] ah ah dX (by refine bm.gD ah ah ah ?_;refine bm.bl 6 ah ah ah (ar List.length (rfl)) rfl ?_;refine bm.rw 45 ah ah (rfl) ?_;exact bm.nil))⟩
  refine aA ?_;refine bD (v:=Rec.D s.es[i]!.r) ?_;refine ai (hc:=h72 s.es[i]!.r hsm) ?_;refine bJ ?_;refine bD (v:=.int .u64 s.es[i]!.sum) ?_;refine ai (hc:=h497 _) ?_;refine fS ?_;refine aC ?_;refine fS ?_;refine aC ?_;refine fS ?_;refine cA (nx':=37) (v:=.any) (m':=[(44,.row (ve s (i+1))),(0,.buf 2 [fk.D s]),(6,.bld (some 44) (ve s (i+1)).length true),(23,.buf 11 [cY.D s.es[i]!])]) (hc:=fun K' hK=>h489 _ _ K' ⟨(([101,110,116,114,121,32]++gI s.es[i]!.sum)++[32,111,110,10])++(df s.es[i]!.r).1,6,ve s i,rfl,.inr ⟨7,true,bd,bd⟩,by simp only[az,aB];omega,aT,by simp only[bF,az,aB];omega,by rw[show ve s i++((([101,110,116,114,121,32]++gI s.es[i]!.sum)++[32,111,110,10])++(df s.es[i]!.r).1)=ve s (i+1)from by rw[hxt,hee,hc2];rfl];exact hK⟩) (hn:=aH) ?_;refine aY ?_;exact⟨i+1,ae,ae,(aX.to [(0,0),(6,6),(44,7)] ah ah dX (by refine bm.gD ah ah ah ?_;refine bm.bl 6 ah ah ah (ar List.length (rfl)) rfl ?_;refine bm.rw 44 ah ah (rfl) ?_;exact bm.nil))⟩
 refine aA ?_;have h33:i=s.es.length:=ae;subst h33;have hne:ve s s.es.length≠[]:=by unfold ve b7;simp[aS,fC]
 have hps:lN s=(ve s s.es.length,0):=by unfold lN;rw[aj (by simp[hc0]),Ee]
 refine cA (nx':=21) (v:=.str (ve s s.es.length)) (m':=[(0,.buf 2 [fk.D s])]) (hc:=fun K' hK=>h452 _ _ K' ⟨6,ve s s.es.length,rfl,.inr ⟨7,true,bd,bd⟩,hne,hK⟩) (hn:=aH) ?_;refine aE ?_;refine bM (aM (ar D.str ?_) (ar (D.int .i64) ?_));all_goals
  rw[hps];first|done|rfl
def K0 (T:List D->D->Prop):Prop:=∀(s:fk),(∀x∈s.es,fF x.r)->T [fk.D s] (.tup [.str (lN s).1,.int .i64 (lN s).2])
def Vh (Y:Ctx):Prop:=K0 (br Y 251)
def FB:aF:=⟨0,8,[⟨0,none⟩],bQ,(sq (r1 [gm dk] 0 0) (sq (rg [gn (.build [.str [],.aD] [(0,1,(cs [111,110,101]))]),gx 251 [l0] [[.a,.sl 11 [.a,.a,.a,.a,.a,.a,.sl 3 [.sl 4 [.a,.a,.a,.a],.a,.a],.sl 3 [.a,.a,.a],.sl 2 [.a,.sl 1 [.a]],.a,.a]]],gm l1,ge l2 0,ge l2 1,gm l3,gm l4] [(2,5),(1,6)]) (sq (rg [gx 86 [(cs [115,104,101,108,102,32,111,110,101,10])] bQ,gm l0,ge l1 0,ge l1 1,ge l1 2,gb 2 (.c (.agg [.str [],.aD])),gt 2 l5 l2,gm l3,gm l4] [(5,5),(3,7),(4,8)]) (sq (rg [gx 86 [(cs [115,104,101,108,102,32,111,110,101,10,101,110,116,114,121,32,48,32,111,110,10])] bQ,gm l0,ge l1 0,ge l1 1,ge l1 2,gb 2 (.c (.agg [.str [],.aD])),gt 2 l5 l2,gm l3,gm l4] [(6,7),(7,8)]) (sq (r1 [gm s1,aL l0 bp,gm l1,gmt 2 s2,bZ 2 (cO l3 (cs [115,104,101,108,102,32,111,110,101,10])),eG l2 l4,gm l5,gmt 6 s3,bZ 6 (cO l7 bp),eG l6 l8,gm l9,gmt 10 s4,bZ 10 (cO gh bp),eG l10 iE,gm jr,k9 14 0 s5,kn 14 lr,bZ 14 (cO mK (cs [111,110,101])),eG j5 pM,gm qC,gmt 19 s6,bZ 19 (cO va kr),eG rm xB,gm A5,gmt 23 s7,bZ 23 (cO Fz kr),eG Ew Hg,gm OI] 0 27) .ret)))))⟩
def w85 {Y:Ctx}(hm:(Y.at 0).cd)(h251:Vh Y)(h9086:Um Y)    :de Y FB (.bool true) []:=by
 show bG _ _ _ [_,_,_,_,_,_,_,_] _;refine aq ?_;refine aA ?_;refine bA (.agg [.str dm,.aD]) ?_;refine ai (v:=.tup [.str Mn,.int .i64 0]) (hc:=by have:=h251 ⟨dm,[]⟩ aT;rw[aws_p]at this;exact this) ?_;refine aY ?_;refine ai (v:=.tup [fk.D ⟨dm,[]⟩,.int .i64 0,.int .i64 0]) (hc:=by have:=h9086 Mn aH We;rw[aws_1]at this;exact this) ?_;refine aC ?_;refine fX (fk.D _) ?_;refine aA ?_;refine aU (fk.D ⟨dm,[]⟩) (he:=bd) ?_;refine aE ?_;refine ai (v:=.tup [fk.D (lj Ht).1,.int .i64 2,.int .i64 2]) (hc:=by have:=h9086 Ht aH Wf;rw[ar Prod.fst UA,ar Prod.snd UA]at this;exact this) ?_;refine aC ?_;refine fX (fk.D _) ?_;refine aA ?_;refine aU (fk.D (lj Ht).1) (he:=bd) ?_;refine U5 ?_;refine bD (v:=.str dm) ?_;refine lz ?_;refine bI ?_;decide
def R6 (T:List D->D->Prop):Prop:=T [] (.bool true)
def C85 (Y:Ctx):Prop:=R6 (br Y 85)
def NR:aF:=⟨2,5,[⟨2,none⟩],bQ,(sq (r1 [gm bp] 2 0) (sq (.block 0 (sq (r1 [gm s0,gm s1,aO l0 l1,gm l2] 3 3) (.cond s3 (sq (r1 [gn (.mv (.c (.int .i64 (-1))))] 2 0) .ret) (sq (r1 [gm s0,gm s1,dd l0 l1,gm l2] 4 3) (.cond s4 (sq (r1 [gm bV] 2 0) .ret) .skip))))) (sq (r1 [gm bp] 2 0) .ret)))⟩
def w630 {Y:Ctx}(hm:(Y.at 0).cd)  (a:Int)(b:Int)   :de Y NR (.int .i64 (fj a b)) [.int .i64 a,.int .i64 b]:=by
 show bG _ _ _ [⟨_,_⟩,⟨_,_⟩,_,_,_] _;refine aq ?_;refine c7 ?_;refine fH (fun hc0=>?_) fun hc0=>?_
 .refine aI ?_;refine cS ?_;unfold fj;rw[ax hc0]
 refine aG ?_;refine fH (fun hc1=>?_) fun hc1=>?_
 .refine aI ?_;refine cS ?_;unfold fj;rw[aj hc0,ax hc1]
 refine aG ?_;refine cS ?_;unfold fj;rw[aj hc0,aj hc1]
def Sr (Y:Ctx):Prop:=yH (br Y 630)
def IL:aF:=⟨2,5,[⟨2,none⟩],bQ,(sq (r1 [gm bp] 2 0) (sq (.block 0 (sq (r1 [gm s0,gm s1,aO l0 l1,gm l2] 3 3) (.cond s3 (sq (r1 [gn (.mv (.c (.int .i64 (-1))))] 2 0) .ret) (sq (r1 [gm s0,gm s1,dd l0 l1,gm l2] 4 3) (.cond s4 (sq (r1 [gm bV] 2 0) .ret) .skip))))) (sq (r1 [gm bp] 2 0) .ret)))⟩
def w927 {Y:Ctx}(hm:(Y.at 0).cd)  (a:au)(b:au)   :de Y IL (.int .i64 (Ba a b)) [.str a,.str b]:=by
 show bG _ _ _ [⟨_,_⟩,⟨_,_⟩,_,_,_] _;refine aq ?_;refine c7 ?_;refine fH (fun hc0=>?_) fun hc0=>?_
 .refine aI ?_;refine cS ?_;simp[Ba,hc0]
 refine aG ?_;refine fH (fun hc1=>?_) fun hc1=>?_
 .refine aI ?_;refine cS ?_;simp_all[Ba]
 refine aG ?_;refine cS ?_;simp_all[Ba]
def Zo (Y:Ctx):Prop:=yG (br Y 927)
def Rq:aF:=⟨2,10,[⟨2,none⟩],bQ,(sq (r1 [gm bp] 2 0) (sq (rg [gm s0,gx 668 [l0] bQ,gm s1,gx 668 [l2] bQ,gm l1,gm l3] [(3,4),(4,5)]) (sq (.block 0 (sq (r1 [gm s3,gm l0,gmt 1 s4,eG l1 l2,gm l3] 5 4) (.cond s5 (sq (r1 [gm s0,gx 667 [l0] bQ,gm l1,ge l2 0,ge l2 1,gm l3,gm l4] 6 5) (sq (r1 [gm s1,gx 667 [l0] bQ,gm l1,ge l2 0,ge l2 1,gm l3,gm l4] 7 5) (sq (r1 [gm s6,gm s7,gx 630 [l0,l1] fQ,gm l2] 2 3) .ret))) (sq (r1 [gm s3,gm l0] 8 1) (.cond s8 (sq (r1 [gn (.mv (.c (.int .i64 (-1))))] 2 0) .ret) (sq (r1 [gm s4,gm l0] 9 1) (.cond s9 (sq (r1 [gm bV] 2 0) .ret) .skip))))))) (sq (r1 [gm s0,gm s1,gx 927 [l0,l1] fQ,gm l2] 2 3) .ret))))⟩
def w783 {Y:Ctx}(hm:(Y.at 0).cd)(h630:Sr Y)(h667:Ss Y)(h668:VC Y)(h927:Zo Y)(a:au)(b:au)   :de Y Rq (.int .i64 (sK a b)) [.str a,.str b]:=by
 show bG _ _ _ [⟨_,_⟩,⟨_,_⟩,_,_,_,_,_,_,_,_] _;refine aq ?_;refine aE ?_;refine ai (hc:=h668 _) ?_;refine aC ?_;refine ai (hc:=h668 _) ?_;refine fT ?_;refine fH (fun hc0=>?_) fun hc0=>?_
 .refine ay ?_;refine ai (hc:=h667 _) ?_;refine bJ ?_;refine ai (hc:=h667 _) ?_;refine c7 ?_;refine ai (hc:=h630 _ _) ?_;refine aE ?_;refine cS ?_;unfold sK;rw[ax hc0]
 refine aE ?_;refine fH (fun hc1=>?_) fun hc1=>?_
 .refine aI ?_;refine cS ?_;have hn:¬(cR a=true/\cR b=true):=by rintro⟨h1,h2⟩;simp[h1,h2]at hc0
  unfold sK;rw[aj hn];rw[ax hc1]
 refine aE ?_;refine fH (fun hc2=>?_) fun hc2=>?_
 .refine aI ?_;refine cS ?_;have hn:¬(cR a=true/\cR b=true):=by rintro⟨h1,h2⟩;simp[h1,h2]at hc0
  unfold sK;rw[aj hn];rw[aj (by simp[hc1]),ax hc2]
 refine aI ?_;refine ai (hc:=h927 _ _) ?_;refine aA ?_;refine cS ?_;have hn:¬(cR a=true/\cR b=true):=by rintro⟨h1,h2⟩;simp[h1,h2]at hc0
 unfold sK;rw[aj hn];rw[aj (by simp[hc1]),aj (by simp[hc2])]
def Za (Y:Ctx):Prop:=yJ (br Y 783)
def NS:aF:=⟨2,12,[⟨2,none⟩],bQ,(sq (r1 [gm bp] 2 0) (sq (.block 0 (sq (r1 [gm s0,gm s1,aL l0 l1,gm l2] 3 3) (.cond s3 (sq (r1 [gm bp] 2 0) .ret) (sq (r1 [gm s0,aL l0 cse,gm l1] 4 2) (.cond s4 (sq (r1 [gm bV] 2 0) .ret) (sq (r1 [gm s1,aL l0 cse,gm l1] 5 2) (.cond s5 (sq (r1 [gn (.mv (.c (.int .i64 (-1))))] 2 0) .ret) .skip))))))) (sq (rg [gm s0,gx 470 [l0,(i8 46)] fQ,gm s1,gx 470 [l2,(i8 46)] fQ,gm l1,gm l3] [(7,4),(8,5)]) (sq (sq (r1 [gm bp] 6 0) (.block 1 (.loop (sq (sq (r1 [gm s6,gm s7,gl l1,aO l0 l2,gm l3,gmt 4 s6,gmt 4 s8,bZ 4 (.len l6),bZ 4 (nL l5 l7),eG l4 l8] 9 9) (fh s9 1)) (sq (.block 2 (sq (r2 [gm s7,gm s6,ga 1 l0 l1,gd l2,gm s8,gm s6,ga 1 l4 l5,gd l6,gx 783 [l3,l7] fQ,gm l8] 10 9) (sq (r1 [gm jh,bO l0 bp] 11 1) (.cond lf (sq (r1 [gm jh,gm l0] 2 1) .ret) .skip)))) (r1 [gm s6,aw l0 bV,gm l1] 6 2)))))) (sq (r1 [gm s7,gl l0,gm s8,gl l2,gx 630 [l1,l3] fQ,gm l4] 2 5) .ret)))))⟩
def w631 (h470:Ho Y)(h630:Sr Y)(h783:Za Y)(a:au)(b:au)  (hp0:a.length<=1048576/\b.length<=1048576):de Y NS (.int .i64 (vZ a b)) [.str a,.str b]:=by
 show bG _ _ _ [⟨_,_⟩,⟨_,_⟩,_,_,_,_,_,_,_,_,_,_] _;refine aq ?_;refine c7 ?_;refine fH (fun hc0=>?_) fun hc0=>?_
 .refine aI ?_;refine cS ?_;unfold vZ;rw[ax hc0]
 refine aI ?_;refine fH (fun hc1=>?_) fun hc1=>?_
 .refine aI ?_;refine cS ?_;unfold vZ;rw[aj hc0,ax hc1]
 refine aI ?_;refine fH (fun hc2=>?_) fun hc2=>?_
 .refine aI ?_;refine cS ?_;unfold vZ;rw[aj hc0,aj hc1,ax hc2]
 refine aE ?_;refine ai (hc:=h470 a 46 hp0.1) ?_;refine aC ?_;refine ai (hc:=h470 b 46 hp0.2) ?_;refine aY ?_;refine a7 hm (ι:=Nat) (fun i=>[.un,.un,.un,.un,.un,.un,⟨true,.int .i64 (i:Nat)⟩,⟨true,.sl 1 ((ak a 46).map D.str)⟩,⟨true,.sl 1 ((ak b 46).map D.str)⟩,.un,.un,.un]) (fun i=>[]) 18 (fun i=>(i<=(ak a 46).length/\i<=(ak b 46).length)/\vZ a b=sU (ak a 46) (ak b 46) i) (fun i=>(ak a 46).length-i) 0 ⟨⟨ae,ae⟩,by unfold vZ;rw[aj hc0,aj hc1,aj hc2]⟩ (dp []) ?_;rintro i ⟨hi,hr⟩;refine aI ?_;intro u0;refine aE ?_;refine jI ?_;refine aA ?_;refine cC (fun hc3=>?_) fun hc3=>?_
 .refine aI ?_;refine cb i (hb:=fun _=>ae) ?_;refine bS (v:=.str (ak a 46)[i]!) (hi:=fun _=>ae) ?_;refine ay ?_;refine cb i (hb:=fun _=>ae) ?_;refine bS (v:=.str (ak b 46)[i]!) (hi:=fun _=>ae) ?_;refine ai (hc:=h783 _ _) ?_;refine aG ?_;refine fH (fun hc4=>?_) fun hc4=>?_
  .refine aY ?_;refine cS ?_;rw[hr,CM ae hc4]
  refine bJ ?_;exact⟨i+1,⟨⟨ae,ae⟩,by rw[hr,GC ae hc4]⟩,ae,(dp [])⟩
 refine aI ?_;intro u1;refine ay ?_;intro u2;refine ai (hc:=h630 _ _) ?_;refine aA ?_;refine cS ?_;rw[hr,CL ae]
def LC (T:List D->D->Prop):Prop:=∀(a:au) (b:au),(a.length<=1048576/\b.length<=1048576)->T [.str a,.str b] (.int .i64 (vZ a b))
def YR (Y:Ctx):Prop:=LC (br Y 631)
def D1:aF:=⟨2,12,[⟨2,none⟩],bQ,(sq (rg [gb 5 s0,gb 5 s1,gm bp] [(3,0),(4,1),(2,2)]) (sq (sq (r1 [gk 5 true s3,gx 217 [l0] zH,jJ l1,gm l2,cl 3 (.ld 5 true s4),cl 3 (.call 217 [l4] zH),cl 3 (.un .not l5),eW l3 l6] 5 7) (.cond s5 (sq (r1 [gm bp] 2 0) .ret) .skip)) (sq (sq (r1 [gf 0 s3,gd l0,gf 0 s4,gd l2,gx 630 [l1,l3] fQ,gm l4] 6 5) (sq (r1 [gm s6,bO l0 bp] 7 1) (.cond s7 (sq (r1 [gm s6,gm l0] 2 1) .ret) .skip))) (sq (sq (r1 [gf 1 s3,gd l0,gf 1 s4,gd l2,gx 630 [l1,l3] fQ,gm l4] 8 5) (sq (r1 [gm s8,bO l0 bp] 9 1) (.cond s9 (sq (r1 [gm s8,gm l0] 2 1) .ret) .skip))) (sq (sq (r1 [gf 2 s3,gd l0,gf 2 s4,gd l2,gx 630 [l1,l3] fQ,gm l4] 10 5) (sq (r1 [gm jh,bO l0 bp] 11 1) (.cond lf (sq (r1 [gm jh,gm l0] 2 1) .ret) .skip))) (sq (r1 [gf 3 s3,gd l0,gf 3 s4,gd l2,gx 631 [l1,l3] fQ,gm l4] 2 5) .ret))))))⟩
def w424 {Y:Ctx}(hm:(Y.at 0).cd)(h217:L8 Y)(h630:Sr Y)(h631:YR Y)(a:cZ)(b:cZ)  (hp0:a.sm/\b.sm):de Y D1 (.int .i64 (oW a b)) [cZ.D a,cZ.D b]:=by
 show bG _ _ _ [⟨_,_⟩,⟨_,_⟩,_,_,_,_,_,_,_,_,_,_] _;refine aq ?_;refine aY ?_;refine ai (hc:=h217 a hp0.1) ?_;refine aA ?_;refine cV (hc:=fun hf=>h217 b hp0.2) ?_;refine aA ?_;refine av (fun hc0=>?_) (fun hc0=>?_)
 .simp only[cX,bz]at hc0;refine aI ?_;refine cS ?_;unfold oW;rw[ax hc0]
 simp only[dH,bP]at hc0;have hv:¬(fe a=false\/fe b=false):=by simp only[not_or,Bool.not_eq_false];first|exact hc0|exact hc0.1
 refine aY ?_;refine ai (hc:=h630 _ _) ?_;refine aY ?_;refine cC (fun hc1=>?_) fun hc1=>?_
 .refine aG ?_;refine cS ?_;unfold oW;rw[aj hv,ax hc1]
 refine aY ?_;refine ai (hc:=h630 _ _) ?_;refine aY ?_;refine cC (fun hc2=>?_) fun hc2=>?_
 .refine aG ?_;refine cS ?_;unfold oW;rw[aj hv,aj (by simpa using hc1),ax hc2]
 refine aY ?_;refine ai (hc:=h630 _ _) ?_;refine aY ?_;refine cC (fun hc3=>?_) fun hc3=>?_
 .refine aG ?_;refine cS ?_;unfold oW;rw[aj hv,aj (by simpa using hc1),aj (by simpa using hc2),ax hc3]
 refine aG ?_;refine ai (hc:=h631 a.pre b.pre ⟨hp0.1.1,hp0.2.1⟩) ?_;refine aA ?_;refine cS ?_;unfold oW;rw[aj hv,aj (by simpa using hc1),aj (by simpa using hc2),aj (by simpa using hc3)]
def Yh (Y:Ctx):Prop:=yw (br Y 424)
def D0:aF:=⟨1,7,gQ,bQ,(sq (rg [gb 4 s0,gm cse] [(2,0),(1,1)]) (sq (rg [gm (cs [45]),gm (cs [102,117,108,108])] [(5,0),(6,1)]) (sq (sq (r1 [gf 2 s2,gd l0,gl l1,dd l2 bp] 3 3) (.cond s3 (r1 [gf 2 s2,gd l0,gx 249 [l1,(i8 44)] [[.sl 1 [.a]],[.a]],gm l2] 5 3) .skip)) (sq (sq (r1 [gf 3 s2,gd l0] 4 1) (.cond s4 (r1 [gm (cs [98,97,114,101])] 6 0) .skip)) (sq (r1 [gf 0 s2,gd l0,aw (cs [97,110,121,32]) l1,aw l2 (cs [32]),gm s5,aw l3 l4,aw l5 (cs [32]),gm s6,aw l6 l7,aw l8 (cs [32]),gf 1 s2,gd l10,aw l9 gh,aw iE (cs [10]),gm jr] 1 14) .ret)))))⟩
def w461 {Y:Ctx}(hm:(Y.at 0).cd)(h249:Si Y)(w:b6)  (hp0:w.fit):de Y D0 (.str (jz w)) [b6.D w]:=by
 show bG _ _ _ [⟨_,_⟩,_,_,_,_,_,_] _;have q1:=AV hp0;have q2:=hp0.1.1.1;have q3:=hp0.1.1.2;refine aq ?_;refine fU ?_;intro u0;refine ay ?_;refine cC (fun hc0=>?_) fun hc0=>?_
 .refine aA ?_;refine ai (hc:=h249 w.feats 44 ae) ?_;refine aY ?_;refine cC (fun hc1=>?_) fun hc1=>?_
  .refine aG ?_;refine fS ?_;refine fS ?_;refine aC ?_;refine fS ?_;refine fS ?_;refine aC ?_;refine fS ?_;refine fS ?_;refine ay ?_;refine fS ?_;refine fS ?_;refine aA ?_;refine cU ?_;all_goals
    simp only[jz,b7,iU,aS,jN,jx,gC];first|rw[ax (show w.feats.length=0 by omega)]|rw[aj (show ¬w.feats.length=0 by omega)]
    simp[hc1]
  refine aE ?_;refine fS ?_;refine fS ?_;refine aC ?_;refine fS ?_;refine fS ?_;refine aC ?_;refine fS ?_;refine fS ?_;refine ay ?_;refine fS ?_;refine fS ?_;refine aA ?_;refine cU ?_;all_goals
   simp only[jz,b7,iU,aS,jN,jx,gC];first|rw[ax (show w.feats.length=0 by omega)]|rw[aj (show ¬w.feats.length=0 by omega)]
   simp[hc1]
 refine aG ?_;refine cC (fun hc1=>?_) fun hc1=>?_
 .refine aG ?_;refine fS ?_;refine fS ?_;refine aC ?_;refine fS ?_;refine fS ?_;refine aC ?_;refine fS ?_;refine fS ?_;refine ay ?_;refine fS ?_;refine fS ?_;refine aA ?_;refine cU ?_;all_goals
   simp only[jz,b7,iU,aS,jN,jx,gC];first|rw[ax (show w.feats.length=0 by omega)]|rw[aj (show ¬w.feats.length=0 by omega)]
   simp[hc1]
 refine aE ?_;refine fS ?_;refine fS ?_;refine aC ?_;refine fS ?_;refine fS ?_;refine aC ?_;refine fS ?_;refine fS ?_;refine ay ?_;refine fS ?_;refine fS ?_;refine aA ?_;refine cU ?_;all_goals
  simp only[jz,b7,iU,aS,jN,jx,gC];first|rw[ax (show w.feats.length=0 by omega)]|rw[aj (show ¬w.feats.length=0 by omega)]
  simp[hc1]
def Lj (T:List D->D->Prop):Prop:=∀(w:b6),(w.fit)->T [b6.D w] (.str (jz w))
def Yw (Y:Ctx):Prop:=Lj (br Y 461)
def IE:aF:=⟨1,3,gQ,bQ,(sq (r1 [gm cse] 1 0) (sq (sq (r1 [gm s0,aL l0 cse] 2 1) (mj s2 cse)) (sq (r1 [gm s0,aw (cs [119,104,101,110,32]) l0,aw l1 (cs [10]),gm l2] 1 3) .ret)))⟩
def w462 {Y:Ctx}(hm:(Y.at 0).cd)  (s:au)  (hp0:s.length<=1048576):de Y IE (.str (hX s)) [.str s]:=by
 show bG _ _ _ [⟨_,_⟩,_,_] _;refine aq ?_;refine aY ?_;refine cC (fun hc0=>?_) fun hc0=>?_
 .refine aI ?_;refine cU ?_;rw[hX,ax hc0]
 refine aA ?_;refine fS ?_;refine fS ?_;refine aA ?_;refine cU ?_;rw[hX,aj hc0];simp[b7,aS,gS]
def Lk (T:List D->D->Prop):Prop:=∀(s:au),(s.length<=1048576)->T [.str s] (.str (hX s))
def Yx (Y:Ctx):Prop:=Lk (br Y 462)
end Go.Abs
