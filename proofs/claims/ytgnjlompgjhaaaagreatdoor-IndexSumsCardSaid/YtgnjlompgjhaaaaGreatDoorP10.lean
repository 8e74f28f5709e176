/- A part of the proofs. -/
import Derived.Test.YtgnjlompgjhaaaaGreatDoorP09
set_option linter.all false
set_option maxRecDepth 4000
section
namespace Go.Abs
def pF:fV:=⟨[],[]⟩
def bF (t:au):au×Bool:=if t.getLast? =some 10 then(t.dropLast,true)else(t,false)
def jo (s:au):List au:=(UH s).map (· ++[10])++[zQ s]
def cw (s:au):List au:=if zQ s=[]then(UH s).map (· ++[10])else jo s
def wO (l:List au):Bool:=(decide (l.length=3)&&decide (l[0]! =jh))&&(decide (l[2]! =TW) ||decide (l[2]! =xN))
def iF (t:au):Int×Bool×Bool:=if(bF t).2=true/\wO (ak (bF t).1 32)=true then(n6 (ak (bF t).1 32)[1]!,decide ((ak (bF t).1 32)[2]! =xN),kN (ak (bF t).1 32)[1]!)else(0,false,false)
def vG (t:au):Bool:=decide ((ic (bF t).1 32).1=jh)
def rO (p:Nat->Bool):Nat->Nat->Nat
 |k,0=>k
 |k,f+1=>if p k=true then k else rO p (k+1) f
def sM (p:Nat->Bool)(k n:Nat):Nat:=rO p k (n-k)
theorem Gt {p:Nat->Bool}{k n:Nat}(h:k<n)(hp:p k=true):sM p k n=k:=by
 unfold sM;rw[show n-k=(n-(k+1))+1 by omega,rO,ax hp]
theorem Kj {p:Nat->Bool}{k n:Nat}(h:k<n)(hp:p k=false):sM p k n=sM p (k+1) n:=by
 unfold sM;rw[show n-k=(n-(k+1))+1 by omega,rO,aj (by simp[hp])]
theorem AE {p:Nat->Bool}{k n:Nat}(h:n<=k):sM p k n=k:=by
 unfold sM;rw[show n-k=0 by omega,rO]
theorem AD (p:Nat->Bool):∀f k,k<=rO p k f/\rO p k f<=k+f
 |0,k=>⟨aQ _,aQ _⟩
 |f+1,k=>by
  have:=AD p f (k+1);unfold rO;split<;>omega
def Ea (p:Nat->Bool)(k n:Nat):k<=sM p k n:=(AD p _ k).1
def TN (p:Nat->Bool){k n:Nat}(h:k<=n):sM p k n<=n:=by
 grind [AD,sM]
def xh {p q:Nat->Bool}:∀f k,(∀j,k<=j->j<k+f->p j=q j)->rO p k f=rO q k f
 |0,_,_=>rfl
 |f+1,k,h=>by
  unfold rO;rw[h k (aQ _) ae,xh f (k+1) fun j h1 h2=>h j ae ae]
theorem IW {p q:Nat->Bool}{k n:Nat}(h:∀j,k<=j->j<n->p j=q j):sM p k n=sM q k n:=xh _ _ fun j h1 h2=>h j h1 ae
def wB (es:List dd)(r:Rec):Bool:=es.any fun x=>decide (x.r.name=r.name)&&decide (oZ x.r.v r.v=0)
def kE (es:List dd)(r:Rec)(n:Int):Int:=if ¬lV r=n then 13 else if wB es r=true then 8 else if 64<=es.length then 10 else 0
def pO (es:List dd)(t:au)(n:Int)(off:Bool):Int×List dd:=if ¬(eG t).2.1=0 then((eG t).2.1,[])else if ¬kE es (eG t).1 n=0 then(kE es (eG t).1 n,[])else(0,es++[⟨(eG t).1,n,off⟩])
def vZ (P:List au)(k:Nat):Nat:=sM (fun j=>vG P[j]!) k P.length
def slice {α:Type}(l:List α)(a b:Nat):List α:=(l.take b).drop a
def uN (P:List au):Nat->List dd->Nat->List dd×Int×Int
 |0,es,_=>(es,0,0)
 |f+1,es,at'=>if at'<P.length then
   (if(iF P[at']!).2.2=false then([],2,(at':Int)+1)
   else
    let q:=pO es (aP [] (slice P (at'+1) (vZ P (at'+1)))) (iF P[at']!).1 (iF P[at']!).2.1
    if ¬q.1=0 then([],q.1,(at':Int)+1)else uN P f q.2 (vZ P (at'+1)))
  else(es,0,0)
def Fg (t:au):Option au:=if(bF t).2=true/\(cE (bF t).1 (fQ++[32])).2=true/\dJ (cE (bF t).1 (fQ++[32])).1=true then some (cE (bF t).1 (fQ++[32])).1 else none
def E2 (nm:au)(q:List dd×Int×Int):fV×Int×Int:=if ¬q.2.1=0 then(pF,q.2.1,q.2.2)else(⟨nm,q.1⟩,0,0)
def kV (s:au):fV×Int×Int:=if 524288<s.length then(pF,3,0)else if(cw s).length=0 then(pF,2,1)else match Fg (cw s)[0]! with
 |none=>(pF,2,1)
 |some nm=>E2 nm (uN (cw s) (cw s).length [] 1)
def HG (t:au):Int×Bool×Bool:=if wO (ak t 32)=true then(n6 (ak t 32)[1]!,decide ((ak t 32)[2]! =xN),kN (ak t 32)[1]!)else(0,false,false)
def oR (L:List au)(en:Bool)(i:Nat):Bool:=en ||decide (i+1<L.length)
def FM (L:List au)(k:Nat):Nat:=sM (fun j=>decide (fw L[j]! =jh)) k L.length
def BG (l:List au)(en:Bool):au:=if en=true then iY l else aP [10] l
def xz (L:List au)(en:Bool):Nat->List dd->Nat->List dd×Int×Int
 |0,es,_=>(es,0,0)
 |f+1,es,at'=>if at'<L.length then
   (if(HG L[at']!).2.2=false\/oR L en at'=false then([],2,(at':Int)+1)
   else
    let q:=pO es (BG (slice L (at'+1) (FM L (at'+1))) (en ||decide (FM L (at'+1)<L.length))) (HG L[at']!).1 (HG L[at']!).2.1
    if ¬q.1=0 then([],q.1,(at':Int)+1)else xz L en f q.2 (FM L (at'+1)))
  else(es,0,0)
def B1 (t:au):Option au:=if((ak t 32).length=2/\(ak t 32)[0]! =fQ)/\dJ (ak t 32)[1]! =true then some (ak t 32)[1]! else none
def Rw (s:au):fV×Int×Int:=if 524288<s.length then(pF,3,0)else if(ct s).1.length=0\/((ct s).1.length=1/\(ct s).2=false)then(pF,2,1)else match B1 (ct s).1[0]! with
 |none=>(pF,2,1)
 |some nm=>E2 nm (xz (ct s).1 (ct s).2 (ct s).1.length [] 1)
def Ad (s:au):(∃A,ct s=(A,true)/\cw s=A.map (· ++[10]))\/∃A b,ct s=(A++[b],false)/\cw s=A.map (· ++[10])++[b]:=by
 rcases H6 s with⟨h1,h2,h3⟩|⟨h1,h2,h3⟩
 ·grind [cw]
 ·exact .inr ⟨UH s,zQ s,Prod.ext h3 h1,by unfold cw;rw[aj h2];rfl⟩
theorem yi (s:au):(cw s).length=(ct s).1.length:=by
 rcases Ad s with⟨A,h1,h2⟩|⟨A,b,h1,h2⟩<;>rw[h1,h2]<;>simp
def Il {s:au}{i:Nat}(h:i<(ct s).1.length):(cw s)[i]! =(ct s).1[i]! ++(if oR (ct s).1 (ct s).2 i=true then [10]else []):=by
 rcases Ad s with⟨A,h1,h2⟩|⟨A,b,h1,h2⟩
 ·grind [oR]
 grind [oR]
theorem rQ:∀(s cur:au),(∀c∈cur,c≠10)->∀t∈cj 10 s cur,∀c∈t,c≠10
 |[],cur,h,t,ht=>by
  grind [cj]
 |a::r,cur,h,t,ht=>by
  unfold cj at ht;split at ht
  ·rcases bV.1 ht with rfl|ht
   ·exact h
   ·exact rQ r [] aT t ht
  ·rename_i hn;refine rQ r (cur++[a]) (fun c hc=>?_) t ht;rcases List.mem_append.1 hc with hc|hc
   ·exact h c hc
   ·rw[cN.1 hc];rintro rfl;exact hn rfl
def tG {s t:au}(h:t∈(ct s).1):∀c∈t,c≠10:=by
 grind [ak,rQ,ct]
def wF {t:au}(h:∀c∈t,c≠10)(b:Bool):bF (t++(if b=true then [10]else []))=(t,b):=by
 grind [bF]
def V9 (t:au):(ic t 32).1=fw t:=by
 unfold fw ic;cases hq:t.findIdx? (fun c=>c==32)with
 |none=>
  have hs:ak t 32=[t]:=by have:=pH 32 t [] hq;simpa[ak]using this
  rw[hs];rfl
 |some j=>
  have hs:ak t 32=t.take j::ak (t.drop (j+1)) 32:=by have:=oa 32 t [] j hq;simpa[ak]using this
  rw[hs];rfl
def SI {s:au}{i:Nat}(h:i<(ct s).1.length):iF (cw s)[i]! =if oR (ct s).1 (ct s).2 i=true then HG (ct s).1[i]! else(0,false,false):=by
 unfold iF HG;rw[Il h,wF (tG (bA h))]
 grind
theorem MA {s:au}{i:Nat}(h:i<(ct s).1.length):vG (cw s)[i]! =decide (fw (ct s).1[i]! =jh):=by
 unfold vG;rw[Il h,wF (tG (bA h))];dsimp only;rw[V9]
def WG (s:au)(k:Nat):vZ (cw s) k=FM (ct s).1 k:=by
 grind [vZ,FM,yi,IW,MA]
def B4:∀l:List au,aP [] l=l.flatten
 |[]=>rfl
 |[t]=>by simp[aP]
 |t::u::r=>by
  have:=B4 (u::r);simp only[aP,this];simp
def B5 (t:au):∀l:List au,aP [10] (l++[t])=iY l++t
 |[]=>rfl
 |[u]=>by simp[aP,iY]
 |u::v::r=>by
  have:=B5 t (v::r)
  grind [aP,iY]
def N3 {α β:Type}(f:α->β)(l:List α)(a b:Nat):slice (l.map f) a b=(slice l a b).map f:=by simp[slice]
def Sz {s:au}{a b:Nat}(ha:a<=b)(hb:b<=(ct s).1.length):aP [] (slice (cw s) a b)=BG (slice (ct s).1 a b) ((ct s).2 ||decide (b<(ct s).1.length)):=by
 rw[B4];rcases Ad s with⟨A,h1,h2⟩|⟨A,d,h1,h2⟩
 ·rw[h1,h2,N3];simp only[Bool.true_or,BG,ba];rfl
 ·rw[h1]at hb⊢;rw[h2];simp only[bG,ay,aB,Bool.false_or]at hb⊢;by_cases hl:b<A.length+(0+1)
  ·have e1:slice (A.map (· ++[10])++[d]) a b=(slice A a b).map (· ++[10]):=by
    unfold slice;rw[List.take_append_of_le_length (by simp only[bP];omega)];simp
   have e2:slice (A++[d]) a b=slice A a b:=by
    unfold slice;rw[List.take_append_of_le_length ae]
   rw[e1,e2,BG,ax (cz hl)];rfl
  ·have hq:b=A.length+1:=ae;rw[BG,aj (by simpa using hl)];by_cases h4:a=b
   ·have e1:∀l:List au,l.length<=b->slice l a b=[]:=fun l hl=>k8 cH
    rw[e1 _ cH,e1 _ cH];rfl
   ·have ha2:a<=A.length:=ae;have e1:slice (A.map (· ++[10])++[d]) a b=(A.drop a).map (· ++[10])++[d]:=by
     unfold slice;rw[ek cH,List.drop_append_of_le_length (by simpa using ha2),List.map_drop]
    have e2:slice (A++[d]) a b=A.drop a++[d]:=by
     unfold slice;rw[ek cH,List.drop_append_of_le_length ha2]
    rw[e1,e2,B5];simp[iY]
theorem idx_eq (s:au):∀(f:Nat) (es:List dd) (i:Nat),uN (cw s) f es i=xz (ct s).1 (ct s).2 f es i
 |0,_,_=>rfl
 |f+1,es,i=>by
  unfold uN xz;rw[yi];by_cases h:i<(ct s).1.length
  ·rw[ax h,ax h,SI h,WG];have h1:i+1<=FM (ct s).1 (i+1):=Ea _ _ _;have h2:FM (ct s).1 (i+1)<=(ct s).1.length:=TN _ ae;rw[Sz h1 h2];cases hw:oR (ct s).1 (ct s).2 i with
   |false=>simp
   |true=>
    simp only[ba,Bool.true_eq_false,or_false];rw[idx_eq s f]
  ·rw[aj h,aj h]
theorem JN {nm:au}(h:dJ nm=true):bT nm:=⟨(yd h).1,Ib (yd h).2.2⟩
theorem Gv:bT fQ:=by unfold bT;decide
theorem S5 {s:au}(h:0<(ct s).1.length):Fg (cw s)[0]! =if oR (ct s).1 (ct s).2 0=true then B1 (ct s).1[0]! else none:=by
 unfold Fg B1;rw[Il h,wF (tG (bA h))];dsimp only;cases oR (ct s).1 (ct s).2 0 with
 |false=>simp
 |true=>
  simp only[cO,ba];generalize (ct s).1[0]! =t;by_cases h1:((ak t 32).length=2/\(ak t 32)[0]! =fQ)/\dJ (ak t 32)[1]! =true
  ·rw[ax h1];have hj:aP [32] (ak t 32)=t:=by
    have:=kK 32 t [];simpa[ak]using this
   obtain⟨⟨ha,hb⟩,hc⟩:=h1
   match hq:ak t 32,ha,hb,hc with
   |[x,y],_,hb,hc=>
    rw[hq]at hj;simp at hb hc;subst hb;have ht:t=fQ++[32]++y:=by rw[<-hj];rfl
    have hp:cE t (fQ++[32])=(y,true):=by
     subst ht;unfold cE;rw[ax (by simp[fQ,List.isPrefixOf])];simp[fQ]
    rw[hp];simp[hc]
  ·rw[aj h1,aj];rintro⟨h2,h3⟩;unfold cE at h2 h3;split at h2
   ·rename_i h4;rw[ax h4]at h3;simp only at h3;have ht:t=aP [32] [fQ,t.drop 6]:=by
     obtain⟨r,hr⟩:=List.isPrefixOf_iff_prefix.1 h4;rw[<-hr];simp[fQ,aP]
    have hs:ak t 32=[fQ,t.drop 6]:=by
     have:=kd (l:=[fQ,t.drop 6]) aT (by
      intro w hw;simp only[bV,er,or_false]at hw;rcases hw with rfl|rfl
      ·exact Gv
      ·exact JN h3)
     rw[eM,<-ht]at this;exact this
    apply h1;rw[hs];exact⟨⟨rfl,rfl⟩,by simpa[fQ]using h3⟩
   ·cases h2
def DW (s:au):kV s=Rw s:=by
 grind [kV,Rw,yi,ct,S5,oR,B1,idx_eq]
end Go.Abs
namespace Go.Abs
def QF (s:au):1<=(jo s).length:=by unfold jo;simp
def QG (s:au):cw s=if(jo s)[(jo s).length-1]! =[]then(jo s).take ((jo s).length-1)else jo s:=by
 grind [jo,cw]
def qj (s:au):(bF s).1.length<=s.length:=by
 grind [bF]
def twC (r:Rec)(x:dd):Bool:=decide (x.r.name=r.name)&&decide (oZ x.r.v r.v=0)
def Wc {s:au}(h:(((bF s).2=false\/¬((ak (bF s).1 32).length:Int)=3)\/¬(ak (bF s).1 32)[0]! =jh)\/¬(ak (bF s).1 32)[2]! =TW/\¬(ak (bF s).1 32)[2]! =xN):¬((bF s).2=true/\wO (ak (bF s).1 32)=true):=by
 grind [wO]
def SJ {s:au}(h:(((bF s).2=true/\((ak (bF s).1 32).length:Int)=3)/\(ak (bF s).1 32)[0]! =jh)/\((ak (bF s).1 32)[2]! =TW\/(ak (bF s).1 32)[2]! =xN)):((bF s).2=true/\wO (ak (bF s).1 32)=true)/\(ak (bF s).1 32).length=3:=by
 grind [ak,bF,wO]
end Go.Abs
namespace Go.Abs
def noE (s:au):Prop:=∀i,1<=i->i<(cw s).length->(iF (cw s)[i]!).2.2=false
def JZ {s t:au}(h:t∈cw s):t.length<=s.length+1:=by
 have h1:t∈jo s:=by
  grind [cw,jo]
 unfold jo at h1;rcases List.mem_append.1 h1 with h2|h2
 ·obtain⟨u,hu,rfl⟩:=dX.1 h2;have:=eH s 10 (lY hu);simp;omega
 grind [eR,qf,ak]
def DP {s:au}{i:Nat}(h:i<(cw s).length):(cw s)[i]!.length<=s.length+1:=JZ (bA h)
def N0 {s:au}(h:524288<s.length):kV s=(pF,3,0):=by unfold kV;rw[ax h]
def N1 {s:au}(h:¬524288<s.length)(h1:(cw s).length=0):kV s=(pF,2,1):=by unfold kV;rw[aj h,ax h1]
theorem Fh (t:au):Fg t=if((bF t).2=true/\(cE (bF t).1 [115,104,101,108,102,32]).2=true)/\dJ (cE (bF t).1 [115,104,101,108,102,32]).1=true then some (cE (bF t).1 [115,104,101,108,102,32]).1 else none:=by
 grind [Fg,fQ]
def NZ {s:au}(h:¬524288<s.length)(h1:¬(cw s).length=0)(h2:¬(((bF (cw s)[0]!).2=true/\(cE (bF (cw s)[0]!).1 [115,104,101,108,102,32]).2=true)/\dJ (cE (bF (cw s)[0]!).1 [115,104,101,108,102,32]).1=true)):kV s=(pF,2,1):=by
 grind [kV,Fh]
def NY {s:au}(h:¬524288<s.length)(h1:¬(cw s).length=0)(h2:((bF (cw s)[0]!).2=true/\(cE (bF (cw s)[0]!).1 [115,104,101,108,102,32]).2=true)/\dJ (cE (bF (cw s)[0]!).1 [115,104,101,108,102,32]).1=true):
  kV s=E2 (cE (bF (cw s)[0]!).1 [115,104,101,108,102,32]).1 (uN (cw s) (cw s).length [] 1):=by
 grind [kV,Fh]
def uW (P:List au)(es:List dd)(i:Nat):List dd×Int×Int:=uN P (P.length-i) es i
theorem vL (P:List au):∀(f g:Nat) (es:List dd) (i:Nat),P.length<=i+f->P.length<=i+g->uN P f es i=uN P g es i
 |0,0,_,_,_,_=>rfl
 |0,g+1,es,i,h,_=>by unfold uN;rw[aj ae]
 |f+1,0,es,i,_,h=>by unfold uN;rw[aj ae]
 |f+1,g+1,es,i,h1,h2=>by
  have hn:i+1<=vZ P (i+1):=Ea _ _ _;unfold uN;dsimp only;rw[vL P f g _ _ ae ae]
def NR (P:List au):uN P P.length [] 1=uW P [] 1:=vL P _ _ _ _ ae ae
def NS {P:List au}{es:List dd}{i:Nat}(h:P.length<=i):uW P es i=(es,0,0):=by
 unfold uW;rw[show P.length-i=0 by omega];rfl
def IP {P:List au}{es:List dd}{i:Nat}(h:i<P.length)(h1:(iF P[i]!).2.2=false):uW P es i=([],2,(i:Int)+1):=by
 unfold uW;obtain⟨f,hf⟩:∃f,P.length-i=f+1:=⟨P.length-i-1,ae⟩
 grind [uN]
def NQ {P:List au}{es:List dd}{i:Nat}(h:i<P.length)(h1:(iF P[i]!).2.2=true):uW P es i=if ¬(pO es (aP [] (slice P (i+1) (vZ P (i+1)))) (iF P[i]!).1 (iF P[i]!).2.1).1=0 then([],(pO es (aP [] (slice P (i+1) (vZ P (i+1)))) (iF P[i]!).1 (iF P[i]!).2.1).1,(i:Int)+1)else uW P (pO es (aP [] (slice P (i+1) (vZ P (i+1)))) (iF P[i]!).1 (iF P[i]!).2.1).2 (vZ P (i+1)):=by
 have hn:i+1<=vZ P (i+1):=Ea _ _ _;unfold uW;obtain⟨f,hf⟩:∃f,P.length-i=f+1:=⟨P.length-i-1,ae⟩
 grind [uN,vL,vZ]
def uG {nm:au}{es:List dd}{e k:Int}(h:¬e=0):E2 nm (es,e,k)=(pF,e,k):=by unfold E2;rw[ax h]
end Go.Abs
namespace Go.Abs
def Xm {nm:au}{es:List dd}{m:List (Nat×bO)}{l:Nat}{cs:List Sh}(hq:∀x:dd,D.agg (xL m cs x.D.cells)=x.D)(hl:look m l=some (.buf 11 (es.map dd.D))):xV m [.a,.sl 11 cs] (.agg [.str nm,.own l 11 0 es.length])=fV.D ⟨nm,es⟩:=by
 show D.agg [.str nm,.sl 11 _]=D.agg [.str nm,.sl 11 (es.map dd.D)];simp only[bp,hl,cn,a7,List.map_map];exact ar (fun q=>D.agg [D.str nm,D.sl 11 q]) (List.map_congr_left fun x _=>hq x)
def T2 {nm:au}{es:List dd}{m:List (Nat×bO)}{l:Nat}{cs:List Sh}(hq:∀x:dd,RS m cs x.D.cells)(hl:look m l=some (.buf 11 (es.map dd.D))):RU m [.a,.sl 11 cs] (.agg [.str nm,.own l 11 0 es.length]):=by
 refine⟨rfl,⟨?_, ?_⟩,rfl⟩
 ·simp[fJ,hl]
 ·simp only[bp,hl,cn,a7];intro e he;obtain⟨x,_,rfl⟩:=dX.1 he;exact hq x
def OU {es:List dd}{t:au}{n:Int}{off:Bool}(h:¬(eG t).2.1=0):pO es t n off=((eG t).2.1,[]):=by unfold pO;rw[ax h]
def OV {es:List dd}{t:au}{n:Int}{off:Bool}(h:(eG t).2.1=0)(h2:¬kE es (eG t).1 n=0):pO es t n off=(kE es (eG t).1 n,[]):=by grind [pO]
def Ss {es:List dd}{t:au}{n:Int}{off:Bool}(h:(eG t).2.1=0)(h2:kE es (eG t).1 n=0):pO es t n off=(0,es++[⟨(eG t).1,n,off⟩]):=by grind [pO]
def MB {es:List dd}{r:Rec}{n:Int}(h:kE es r n=0):es.length<64:=by
 grind [kE]
def N4 {α:Type}{l:List α}{a b:Nat}{x:α}(h:x∈slice l a b):x∈l:=lY (List.mem_of_mem_drop h)
end Go.Abs
namespace Go.Abs
def Rc (t:au):fo (eG t).1:=by
 unfold eG;split
 ·exact yj
 ·rename_i h;dsimp only;have hL:Bw ((ak t 10).take ((ak t 10).length-1)):=fun u hu=>by
   have:=eH t 10 (lY hu);omega
  grind [yj,Kd]
def QH (s:au):(cw s).length<=s.length+1:=by
 grind [yi,dD,ct]
end Go.Abs
end
section
namespace Go.Abs
def mT (s:fV)(r:Rec):fV×Int:=if iT s=false then(pF,1)else if ¬(c7 r).2=0 then(pF,(c7 r).2)else if 0<=sJ s.es r.name r.v 0 then(pF,8)else if 64<=s.es.length then(pF,10)else(⟨s.name,s.es++[⟨r,lV r,false⟩]⟩,0)
theorem Ms {es:List dd}{x:dd}{i:Nat}(h:i<es.length):om (es++[x]) i=om es i:=by
 grind [om]
theorem Mr {es:List dd}{x:dd}:om (es++[x]) es.length=(decide ((c7 x.r).2=0)&&decide (lV x.r=x.sum)&&decide (sJ es x.r.name x.r.v 0<0)):=by
 grind [om]
theorem NW {nm:au}{es:List dd}{x:dd}(h:iT ⟨nm,es⟩=true)(h1:(c7 x.r).2=0)(h2:lV x.r=x.sum)(h3:sJ es x.r.name x.r.v 0<0)(h4:es.length<64):iT ⟨nm,es++[x]⟩=true:=by
 grind [iT,eD,Ms,Mr]
def RG {es:List dd}{r:Rec}(hr:eY r.v=true)(h:∀x∈es,eY x.r.v=true):wB es r=decide (0<=sJ es r.name r.v 0):=by
 grind [wB,Ft,DK,QK,sJ]
def pe (l:List Int)(i:Int)(k:Nat):Rec:=Bd l (i+1+82*(k:Nat)) (1+fI l (i+1+82*(k:Nat)+80) 4)
def gEY (l:List Int)(i:Int)(k:Nat):Bool:=decide (fI l (i+1+82*(k:Nat)+81) 9=1)
def xw (l:List Int)(i:Int):Nat->List dd
 |0=>[]
 |k+1=>if 0<=sJ (xw l i k) (pe l i k).name (pe l i k).v 0 then xw l i k else xw l i k++[⟨pe l i k,lV (pe l i k),gEY l i k⟩]
def kG (l:List Int)(i:Int)(nm:au)(most:Nat):fV:=⟨nm,xw l i (fI l i ((most:Int)+1)).toNat⟩
theorem uK (l:List Int)(i:Int):∀k,(xw l i k).length<=k
 |0=>by simp[xw]
 |k+1=>by
  have:=uK l i k
  grind [xw]
theorem Dl (l:List Int)(i:Int)(k:Nat):(c7 (pe l i k)).2=0/\EE (pe l i k)/\cK (pe l i k)=(0,0)/\(fP (pe l i k)).length<=800/\fo (pe l i k):=by
 have h:=PI l (i+1+82*(k:Nat)) (1+fI l (i+1+82*(k:Nat)+80) 4);have hp:=h.print;exact⟨by unfold pe;rw[hp],Wk _ _ _,h.check,h.len,h.sm⟩
structure xn (x:dd):Prop where
 w:EE x.r
 c:cK x.r=(0,0)
 l:(fP x.r).length<=800
 s:lV x.r=x.sum
 m:fo x.r
def x6 (l:List Int)(i:Int):∀k,∀x∈xw l i k,xn x
 |0,x,h=>by cases h
 |k+1,x,h=>by
  unfold xw at h;split at h
  ·exact x6 l i k x h
  ·rcases List.mem_append.1 h with h|h
   ·exact x6 l i k x h
   ·rw[cN.1 h];obtain⟨_,h2,h3,h4,h5⟩:=Dl l i k;exact⟨h2,h3,h4,rfl,h5⟩
def Dm {nm:au}(hn:dJ nm=true)(l:List Int)(i:Int):∀k,k<=64->iT ⟨nm,xw l i k⟩=true
 |0,_=>by simp[iT,xw,hn,cr]
 |k+1,h=>by
  have ih:=Dm hn l i k ae
  grind [uK,xw,NW,Dl,sJ,pe]
def fX (x:dd):List au:=eM (sG x)::ja x.r
theorem EZ {x:dd}(h:cK x.r=(0,0)):Dg x=iY (fX x):=by
 grind [Dg,fX,c7,fP,ub,lA,sk]
def fN (es:List dd):List au:=(es.map fX).flatten
def BN:∀{es:List dd},(∀x∈es,cK x.r=(0,0))->(es.map Dg).flatten=iY (fN es)
 |[],_=>rfl
 |x::r,h=>by
  have:=BN (es:=r) fun y hy=>h y (.tail _ hy)
  grind [fN,qT,EZ]
def I4 (n:Int):bT (ei n):=by
 refine⟨fun e=>(by have:=gu n;rw[e]at this;cases this),fun c hc=>?_⟩;unfold ei at hc;obtain⟨j,_,rfl⟩:=dX.1 hc;have:∀k,k<16->iG k≠32/\iG k≠10:=aG
 exact this _ (zV _ _)
def zp:bT jh/\bT TW/\bT xN:=by unfold bT;decide
def Df (x:dd):∀w∈sG x,bT w:=by
 intro w hw;simp only[sG,bV,er,or_false]at hw;rcases hw with rfl|rfl|rfl
 ·exact zp.1
 ·exact I4 _
 ·split
  ·exact zp.2.2
  ·exact zp.2.1
def Wb {x:dd}(h:0<=x.sum/\x.sum<18446744073709551616):HG (eM (sG x))=(x.sum,x.off,true):=by
 unfold HG;rw[kd (by simp[sG]) (Df x)];have h1:wO (sG x)=true:=by
  unfold wO sG;cases x.off<;>simp
 rw[ax h1];have e1:(sG x)[1]! =ei x.sum:=rfl;have e2:decide ((sG x)[2]! =xN)=x.off:=by
  unfold sG;cases x.off<;>simp[TW,xN]
 grind [kN,ei,As,Iq]
def fw_E (x:dd):fw (eM (sG x))=jh:=by
 unfold fw;rw[kd (by simp[sG]) (Df x)];rfl
def Qe {l:List cb}(h:∀n∈l,EC n):∀t∈nZ l,fw t≠jh:=by
 intro t ht;unfold nZ at ht;obtain⟨x,hx,ht⟩:=List.mem_flatten.1 ht;obtain⟨n,hn,rfl⟩:=dX.1 hx;have hw:=h n hn;unfold vV at ht;rcases bV.1 ht with rfl|ht
 ·rw[pd pT aT];decide
 rcases List.mem_append.1 ht with ht|ht
 ·unfold kY at ht;obtain⟨w,hw2,rfl⟩:=dX.1 ht;rw[AU,tw vw (ud (hw.a w hw2))];decide
 rcases List.mem_append.1 ht with ht|ht
 ·unfold kf at ht;split at ht
  ·cases ht
  ·rw[cN.1 ht,show([gP,n.when']:List au)=gP::([]++[n.when'])from rfl,tw nQ aT];decide
 ·unfold m7 at ht;split at ht
  ·cases ht
  ·rw[cN.1 ht,show([eh,n.option]:List au)=eh::([]++[n.option])from rfl,tw r7 aT];decide
def Sw {l:List jL}(h:∀b∈l,Ov b):∀t∈mY l,fw t≠jh:=by
 intro t ht;unfold mY at ht;obtain⟨x,hx,ht⟩:=List.mem_flatten.1 ht;obtain⟨b,hb,rfl⟩:=dX.1 hx;have hw:=h b hb;unfold BA at ht;rcases bV.1 ht with rfl|ht
 ·rw[show([iK,b.name,b.range]:List au)=iK::([b.name]++[b.range])from rfl,tw r6 (by intro x hx;rw[cN.1 hx];exact hw.nm)];decide
 ·unfold kf at ht;split at ht
  ·cases ht
  ·rw[cN.1 ht,show([gP,b.when']:List au)=gP::([]++[b.when'])from rfl,tw nQ aT];decide
def W7 {r:Rec}(h:EE r):∀t∈ja r,fw t≠jh:=by
 intro t ht;unfold ja at ht;rcases bV.1 ht with rfl|ht
 ·rw[pd tk (by
   intro x hx;simp only[bV,er,or_false]at hx;rcases hx with rfl|rfl
   ·exact h.nm
   ·exact wD h.v)];decide
 unfold rK at ht;rcases List.mem_append.1 ht with ht|ht
 ·exact Qe h.n t ht
 rcases List.mem_append.1 ht with ht|ht
 ·exact Sw h.b t ht
 ·obtain⟨f,hf,rfl⟩:=dX.1 ht;have hw:=h.f f hf;rw[kD,show([cF,f.name]++f.of:List au)=cF::(f.name::f.of)from rfl,pd pS (by
   intro x hx;rcases bV.1 hx with rfl|hx
   ·exact hw.nm
   ·exact hw.o x hx)];decide
def TO {p:Nat->Bool}{k m n:Nat}(h1:k<=m)(h2:m<=n)(h3:∀j,k<=j->j<m->p j=false)(h4:m=n\/p m=true):sM p k n=m:=by
 obtain⟨d,rfl⟩:∃d,m=k+d:=⟨m-k,ae⟩
 induction d generalizing k with
 |zero=>
  grind [AE,Gt]
 |succ d ih=>
  grind [Kj]
def N5 {α:Type}(a b c:List α):slice (a++(b++c)) a.length (a.length+b.length)=b:=by
 grind [slice]
def Dq {α:Type} [Inhabited α](a b c:List α)(j:Nat)(h:j<b.length):(a++(b++c))[a.length+j]! =b[j]! :=by
 grind
def Fl {L pre R:List au}{x:dd}(hL:L=pre++(fX x++R))(hR:R=[]\/fw R[0]! =jh)(hx:EE x.r)(hs:0<=x.sum/\x.sum<18446744073709551616)(f:Nat)(es:List dd):
  xz L true (f+1) es pre.length=if ¬(pO es (fP x.r) x.sum x.off).1=0 then([],(pO es (fP x.r) x.sum x.off).1,(pre.length:Int)+1)else xz L true f (pO es (fP x.r) x.sum x.off).2 (pre++fX x).length:=by
 have hl:(fX x).length=(ja x.r).length+1:=rfl;have hlen:L.length=pre.length+((fX x).length+R.length):=by rw[hL];simp
 have h0:L[pre.length]! =eM (sG x):=by
  have:=Dq pre (fX x) R 0 ae;rw[hL];rw[Nat.add_zero]at this;rw[this];rfl
 have hn:FM L (pre.length+1)=pre.length+(fX x).length:=by
  refine TO ae ae (fun j h1 h2=>?_) ?_
  ·obtain⟨d,rfl⟩:∃d,j=pre.length+(d+1):=⟨j-pre.length-1,ae⟩
   have:=Dq pre (fX x) R (d+1) ae;rw[hL,this];have hd:(fX x)[d+1]! =(ja x.r)[d]! :=by simp[fX]
   rw[hd];exact dk (W7 hx _ (bA ae))
  grind
 have hb:slice L (pre.length+1) (pre.length+(fX x).length)=ja x.r:=by
  have:=N5 (pre++[eM (sG x)]) (ja x.r) R
  grind [fX,ja]
 rw[xz,ax ae,h0,Wb hs,hn,hb];simp only[oR,Bool.true_or,BG,ba,<-ub,Bool.true_eq_false,or_self,bc,bG]
def xn.ui {x:dd}(h:xn x):0<=x.sum/\x.sum<18446744073709551616:=by
 rw[<-h.s];unfold lV;split
 ·decide
 ·exact I2 _
def OW {es:List dd}{x:dd}(h:xn x):pO es (fP x.r) x.sum x.off=if ¬kE es x.r x.sum=0 then(kE es x.r x.sum,[])else(0,es++[x]):=by
 unfold pO;rw[Co h.w h.c];simp
def Jw:∀{rest:List dd}{L pre R:List au}{es:List dd}{nm:au} (f:Nat),(∀x∈es++rest,xn x)->iT ⟨nm,es++rest⟩=true->L=pre++(fN rest++R)->(R=[]\/fw R[0]! =jh)->
  xz L true (rest.length+f) es pre.length=xz L true f (es++rest) (pre++fN rest).length
 |[],L,pre,R,es,nm,f,_,_,_,_=>by simp[fN]
 |x::r,L,pre,R,es,nm,f,hg,hs,hL,hR=>by
  have hx:=hg x aT;have hL2:L=pre++(fX x++(fN r++R)):=by rw[hL];simp[fN]
  have hR2:fN r++R=[]\/fw (fN r++R)[0]! =jh:=by
   match r with
   |[]=>simpa[fN]using hR
   |y::q=>right;simp only[fN,List.map_cons,List.flatten_cons,fX,fm];exact fw_E y
  have hfit:kE es x.r x.sum=0:=by
   have h1:=hs;unfold iT at h1;simp only[bw,aW,eD,bG,ay]at h1;have h2:=h1.2 es.length ae ae;unfold om at h2;have e1:(es++x::r)[es.length]! =x:=aT;rw[e1,List.take_left' rfl]at h2;simp only[bw,aW]at h2;unfold kE;rw[aj (by rw[h2.1.2];simp),aj,aj ae];rw[RG hx.w.v (fun y hy=>(hg y (List.mem_append_left _ hy)).w.v)];simp only[aW];omega
  have ha:pO es (fP x.r) x.sum x.off=(0,es++[x]):=by rw[OW hx,aj (fun h=>h hfit)]
  rw[show(x::r).length+f=(r.length+f)+1 by simp;omega,Fl hL2 hR2 hx.w hx.ui,ha,aj (fun h=>h rfl)];have:=Jw (rest:=r) (L:=L) (pre:=pre++fX x) (R:=R) (es:=es++[x]) (nm:=nm) f (by simpa using hg) (by simpa using hs) (by rw[hL2];simp) hR;rw[this];simp[fN]
def Tm {es:List dd}(h:∀x∈es,xn x):∀t∈fN es,jy t:=by
 intro t ht;unfold fN at ht;obtain⟨y,hy,ht⟩:=List.mem_flatten.1 ht;obtain⟨x,hx,rfl⟩:=dX.1 hy;rcases bV.1 ht with rfl|ht
 ·exact fD fun w hw=>EI (Df x w hw)
 ·exact rm (h x hx).w t ht
def mq (nm:au):au:=eM [fQ,nm]
theorem PN {nm:au}(h:dJ nm=true):∀w∈[fQ,nm],bT w:=by
 grind [Gv,JN]
theorem P5 {L:List au}(h:∀t∈L,jy t):ct (iY L)=(L,true):=by
 grind [xj,ct]
def GG {nm:au}{es:List dd}(h:∀x∈es,xn x):eI ⟨nm,es⟩=iY (mq nm::fN es):=by
 unfold eI mq;rw[lA,BN fun x hx=>(h x hx).c];rfl
def Cq {nm:au}(hn:dJ nm=true){L:List au}(hL:∀t∈L,jy t)(hl:(iY (mq nm::L)).length<=524288):Rw (iY (mq nm::L))=E2 nm (xz (mq nm::L) true (L.length+1) [] 1):=by
 have hc:∀t∈mq nm::L,jy t:=by
  intro t ht;rcases bV.1 ht with rfl|ht
  ·exact fD fun w hw=>EI (PN hn w hw)
  ·exact hL t ht
 have hh:B1 (mq nm)=some nm:=by
  grind [B1,mq,kd,PN]
 grind [Rw,P5]
def AF {nm:au}{es:List dd}(h:∀x∈es,xn x)(hs:iT ⟨nm,es⟩=true)(hl:(eI ⟨nm,es⟩).length<=524288):Rw (eI ⟨nm,es⟩)=(⟨nm,es⟩,0,0):=by
 have hn:dJ nm=true:=by
  grind [iT]
 rw[GG h]at hl⊢;rw[Cq hn (Tm h) hl];have hk:es.length<=(fN es).length+1:=by
  have:∀es:List dd,es.length<=(fN es).length:=by
   intro es;induction es with
   |nil=>exact aQ _
   |cons x r ih=>simp only[fN,List.map_cons,List.flatten_cons,bG,ay,fX]at ih⊢;omega
  have:=this es;omega
 obtain⟨f,hf⟩:∃f,(fN es).length+1=es.length+f:=⟨(fN es).length+1-es.length,ae⟩
 have:=Jw (rest:=es) (L:=mq nm::fN es) (pre:=[mq nm]) (R:=[]) (es:=[]) (nm:=nm) f (by simpa using h) (by simpa using hs) aT (.inl rfl);simp only[ay,aB,fC]at this;rw[hf,this];have he:xz (mq nm::fN es) true f es ([mq nm]++fN es).length=(es,0,0):=by
  cases f with
  |zero=>rfl
  |succ f=>rw[xz,aj aT]
 rw[he];simp[E2]
end Go.Abs
namespace Go.Abs
def cM:au:=[111,110,101]
def Me:au:=[115,104,101,108,102,32,111,110,101,10]
def Hs:au:=[115,104,101,108,102,32,111,110,101,10,101,110,116,114,121,32,48,32,111,110,10]
def aws_p:lP ⟨cM,[]⟩=(Me,0):=by decide+kernel
def aws_1:kV Me=(⟨cM,[]⟩,0,0):=by decide+kernel
def Us:(kV Hs).2=(2,2):=by decide+kernel
def V2:(cw Me).length=1:=by decide+kernel
def O3:(cw Hs).length=2/\(iF (cw Hs)[1]!).2.2=false:=by decide+kernel
def V3:noE Me:=fun i h1 h2=>by rw[V2]at h2;omega
def V4:noE Hs:=fun i h1 h2=>by
 rw[O3.1]at h2;obtain rfl:i=1:=ae;exact O3.2
end Go.Abs
end
namespace Go.Abs
def oq (s:fV)(r:Rec):List dd:=s.es++[⟨r,lV r,false⟩]
def PutQ (s:fV)(r:Rec):D->List (Nat×bO)->Prop:=fun d m=>(¬(mT s r).2=0/\d=.tup [.agg [.str [],.aC],.int .i64 (mT s r).2])\/
 ((mT s r).2=0/\∃j,d=.tup [.agg [.str s.name,.own j 11 0 (oq s r).length],.int .i64 0]/\look m j=some (.buf 11 ((oq s r).map dd.D)))
def PG {nm:au}(hn:dJ nm=true)(l:List Int)(i:Int){k:Nat}(hk:k<64):(mT ⟨nm,xw l i k⟩ (pe l i k)).2=if 0<=sJ (xw l i k) (pe l i k).name (pe l i k).v 0 then 8 else 0:=by
 have h1:=Dm hn l i k ae;have h2:=(Dl l i k).1;have h3:=uK l i k;unfold mT;rw[aj (by rw[h1];simp),aj (fun h=>h h2)];split
 ·rfl
 ·rw[aj (show ¬64<=(xw l i k).length by omega)]
def SV {nm:au}(hn:dJ nm=true){l:List Int}{i:Int}{k:Nat}(hk:k<64)(h:(mT ⟨nm,xw l i k⟩ (pe l i k)).2=0):xw l i (k+1)=xw l i k++[⟨pe l i k,lV (pe l i k),gEY l i k⟩]:=by
 rw[PG hn l i hk]at h;split at h
 ·cases h
 ·rename_i h1;rw[xw,aj h1]
def Wj {nm:au}(hn:dJ nm=true){l:List Int}{i:Int}{k:Nat}(hk:k<64)(h:¬(mT ⟨nm,xw l i k⟩ (pe l i k)).2=0):xw l i (k+1)=xw l i k:=by
 rw[PG hn l i hk]at h;split at h
 ·rename_i h1;rw[xw,ax h1]
 ·exact absurd rfl h
def stY (es:List dd)(x:dd)(b:Bool):((es++[x]).map dd.D).set es.length (tZ (((es++[x]).map dd.D).getD es.length .any) 11 1 10 (.bool b))=(es++[{x with off:=b}]).map dd.D:=by
 rw[List.map_append,List.map_cons,List.map_nil,PK _ _ _ _ aT,Rv _ _ _ _ aT,List.map_append];rfl
def Dp {l:List Int}{i:Int}{nm:au}{n:Nat}:∀x∈(kG l i nm n).es,xn x:=x6 l i _
def SY {l:List Int}{i:Int}{nm:au}{n:Nat}:(kG l i nm n).es.length<=n:=by
 have h1:=uK l i (fI l i ((n:Int)+1)).toNat;have h2:=dt l i ((n:Int)+1) ae;show(xw l i _).length<=n;omega
def sf {l:List Int}{i:Int}{nm:au}{n:Nat}(hn:dJ nm=true)(h:n<=64):iT (kG l i nm n)=true:=by
 have h2:=dt l i ((n:Int)+1) ae;exact Dm hn l i _ ae
def Cl {s:fV}(h:iT s=true):lP s=(eI s,0):=by unfold lP;rw[aj (by rw[h];simp)]
def sC {s:fV}(h:iT s=true):(eI s).length<=524288:=by
 obtain⟨h1,h2⟩:=Kl h;have:=Eh (s:=s) ae (aQ _);rw[Kt]at this;omega
def PJ {l:List Int}{i:Int}{nm:au}{n:Nat}(hn:dJ nm=true)(h:n<=64):kV (eI (kG l i nm n))=(kG l i nm n,0,0):=by
 rw[DW];exact AF (nm:=nm) (es:=(kG l i nm n).es) (Dp (nm:=nm)) (sf hn h) (sC (sf hn h))
def tK:dJ cM=true:=by decide+kernel
def NX {nm:au}{es:List dd}(h:iT ⟨nm,es⟩=true)(n:Nat):iT ⟨nm,es.take n⟩=true:=by
 unfold iT at h⊢;simp only[bw,aW,eD,fj]at h⊢;refine⟨⟨h.1.1,ae⟩,fun j h1 h2=>?_⟩;have h3:=h.2 j h1 ae;have e:(es.take n)[j]! =es[j]! :=by rw[getElem!_pos (es.take n) j cH,getElem!_pos es j ae,List.getElem_take]
 unfold om at h3⊢;rw[e,List.take_take,Nat.min_eq_left ae];exact h3
structure ShG (s:fV)(n:Nat):Prop where
 b:iT s=true
 m:∀x∈s.es,fo x.r
 p:lP s=(eI s,0)
 r:kV (eI s)=(s,0,0)
 l:(eI s).length<=524288
 n:s.es.length<=n
 o:s.name=cM
def gSh_G (l:List Int)(i:Int){n:Nat}(h:n<=64):ShG (kG l i cM n) n:=
 ⟨sf tK h,fun x hx=>(Dp (nm:=cM) x hx).m,Cl (sf tK h),PJ tK h,sC (sf tK h),SY,rfl⟩
def join_one {l:List au}(h:l≠[]):aP [10] l++[10]=iY l:=by
 rw[<-zI];induction l with
 |nil=>exact absurd rfl h
 |cons a r ih=>
  match r with
  |[]=>simp[aP]
  |b::q=>
   have:=ih aT;simp only[fm,aP,dS]at this⊢;rw[this]
def KZ (T:List D->D->Prop):Prop:=∀(s:au),(s.length<=1048576)->T [.str s,.str [10],.int .i64 1,.int .i64 (-1)] (.sl 1 ((jo s).map D.str))
def XX (Y:Ctx):Prop:=KZ (bt Y 331)
def KO (T:List D->D->Prop):Prop:=∀(s:au),(s.length<=1048576)->T [.str s,.str [10]] (.tup [.str (bF s).1,.bool (bF s).2])
def XP (Y:Ctx):Prop:=KO (bt Y 244)
def R0 (T:List D->D->Prop):Prop:=∀(s:au),(s.length<=1048576)->(noE s)->T [.str s] (.tup [fV.D (kV s).1,.int .i64 (kV s).2.1,.int .i64 (kV s).2.2])
def Ue (Y:Ctx):Prop:=R0 (bt Y 86)
section
section
variable [dz] {P:Program} {ν:List (Nat×Nat)} {cP:List Nat} {t:List (Nat×qw)} {fid n key u k:Nat} {af:aF} {ak4:List D} {nx:Nat} {m:List (Nat×bO)} {K:D->St->Prop}
def Oc {a:D}{k q i:Nat}{es:List D}{m1:List (Nat×bO)}(ha:a.bC=true)(hes:bB es=true)(hmix:P.follows .mixedOrders=true)(hC:Oo P ν cP fid af)(hnp:1=af.np)
  (hl:look m1 q=some (.buf k es)) (hK:K (.own nx k 0 i) ⟨nx+1,(nx,.buf k es)::m⟩) (hw:bH ((under t key u).at 0) af.body (nb af (One (.own q k 0 i) m1)) (gw af [a]) ⟨0,[]⟩):qm P ν cP (under t key u) fid [a] ⟨nx,m⟩ K:=by
 refine BY (σi:=[]) (m0:=[]) (cs:=[a]) (fun q=>AO t key u q) hmix hC rfl ?_ hnp rfl (fun _ _ h=>by cases h) (fun _ _ h=>by cases h) hw ?_
 ·intro i hi
  match i,hi with
  |0,_=>exact .inl ⟨rfl,ha⟩
 ·rintro d m2 ⟨rfl,rfl⟩;refine⟨[(q,nx)],q+1,_,.own nx k 0 i,⟨rfl, ?_,Nat.le_succ _,(fun _ _ h=>by cases h), ?_,(fun _ _ h=>by cases h), ?_⟩,.inr (.inl (by simp[vg,Kf,oD])),hK⟩
  ·simp[iU]
  ·grind
  ·intro l bb h;simp only[look]at h;split at h
   ·rename_i e;subst e;obtain rfl:=b9 h;exact .inl ⟨q,_,.head _,hl,rfl,.inl ⟨rfl,hes⟩⟩
   ·rename_i hn;exact .inr ⟨by simp only[nr,aj hn],(fun _ h=>by cases h),h⟩
end
end
section
section
variable [dz] {P:Program} {ν:List (Nat×Nat)} {cP:List Nat} {t:List (Nat×qw)} {fid n key u k:Nat} {af:aF} {nx:Nat} {m:List (Nat×bO)} {K:D->St->Prop}
def QT {s:fV}{r:Rec}(hmix:P.follows .mixedOrders=true)(hC:Oo P ν cP fid af)(hnp:2=af.np)
  (hK1:¬(mT s r).2=0->K (.tup [.agg [.str [],.aC],.int .i64 (mT s r).2]) ⟨nx,m⟩)
  (hK2:(mT s r).2=0->K (.tup [.agg [.str s.name,.own nx 11 0 (oq s r).length],.int .i64 0]) ⟨nx+1,(nx,.buf 11 ((oq s r).map dd.D))::m⟩)
  (hw:bH ((under t key u).at 0) af.body (nb af (PutQ s r)) (gw af [s.D,r.D]) ⟨0,[]⟩):qm P ν cP (under t key u) fid [s.D,r.D] ⟨nx,m⟩ K:=by
 refine BY (σi:=[]) (m0:=[]) (cs:=[s.D,r.D]) (fun q=>AO t key u q) hmix hC rfl ?_ hnp rfl (fun _ _ h=>by cases h) (fun _ _ h=>by cases h) hw ?_
 ·intro i hi
  match i,hi with
  |0,_=>exact .inl ⟨rfl,rfl⟩
  |1,_=>exact .inl ⟨rfl,rfl⟩
 ·rintro d m1 (⟨h,rfl⟩|⟨h,j,rfl,hj⟩)
  ·exact⟨[],0,_,_,⟨rfl,rfl,aQ _,(fun _ _ h=>by cases h),(fun _ _ h=>by cases h),(fun _ _ h=>by cases h),fun l b h=>.inr ⟨rfl,(fun _ h=>by cases h),h⟩⟩,.inl ⟨rfl,rfl⟩,hK1 h⟩
  ·refine⟨[(j,nx)],j+1,_,_,⟨rfl, ?_,Nat.le_succ _,(fun _ _ h=>by cases h), ?_,(fun _ _ h=>by cases h), ?_⟩,.inr (.inl (by simp[vg,sL,Kf,oD])),hK2 h⟩
   ·simp[iU]
   ·intro i l h;obtain⟨rfl,rfl⟩:=Prod.mk.inj (cN.1 h);exact .inr (aQ _)
   ·intro l bb h;simp only[look]at h;split at h
    ·rename_i e;subst e;obtain rfl:=b9 h;exact .inl ⟨j,_,.head _,hj,rfl,.inl ⟨rfl,cg (fun _=>rfl) _⟩⟩
    ·rename_i hn;exact .inr ⟨by simp only[nr,aj hn],(fun _ h=>by cases h),h⟩
end
end
def HY:aF:=⟨2,5,[⟨2,none⟩],bQ,(sq (r1 [gm bq] 2 0) (sq (r1 [gm s0,gm s1,gn (.bin .rem l0 l1),gm l2] 3 3) (sq (sq (r1 [gm s3,aS l0 bq] 4 1) (.cond s4 (r1 [gm s3,gm s1,aw l0 l1,gm l2] 3 3) .skip)) (sq (r1 [gm s3,gm l0] 2 1) .ret))))⟩
def w478 {Y:Ctx}(hm:(Y.at 0).bd)  (v:Int)(n:Int)  (hp0:0<n/\n<=9223372036854775807):dj Y HY (.int .i64 (v%n)) [.int .i64 v,.int .i64 n]:=by
 show bH _ _ _ [⟨_,_⟩,⟨_,_⟩,_,_,_] _;refine aq ?_;refine aJ ?_;refine J7 (v.tmod n) (hn:=by intro _;omega) (hb:=fun _=>rfl) ?_;have ht:=I6 v n ae;refine aY ?_;refine cI (fun hc0=>?_) fun hc0=>?_
 ·refine fS ?_;refine cS ?_;exact TB hp0.1 hc0
 refine aH ?_;refine cS ?_;exact TC hp0.1 hc0
def Lg (T:List D->D->Prop):Prop:=∀(v:Int) (n:Int),(0<n/\n<=9223372036854775807)->T [.int .i64 v,.int .i64 n] (.int .i64 (v%n))
def LZ (Y:Ctx):Prop:=Lg (bt Y 478)
def Tl:aF:=⟨2,4,[⟨2,none⟩],bQ,(sq (r1 [gm bq] 2 0) (sq (sq (r1 [gm s1,aS l0 bq,gm l1,eP 2 s1,eP 2 s0,cD 2 (.len l4),cD 2 (sT l3 l5),fE l2 l6] 3 7) (.cond s3 (sq (r1 [gm bq] 2 0) .ret) .skip)) (sq (r1 [gm s0,gm s1,ga 1 l0 l1,gd l2,gm l3] 2 4) .ret)))⟩
def w479 {Y:Ctx}(hm:(Y.at 0).bd)  (l:List Int)(i:Int)   :dj Y Tl (.int .i64 (kp l i)) [.sl 1 (l.map (D.int .i64)),.int .i64 i]:=by
 show bH _ _ _ [⟨_,_⟩,⟨_,_⟩,_,_] _;refine aq ?_;refine cW ?_;refine ll ?_;refine aA ?_;refine cI (fun hc0=>?_) fun hc0=>?_
 ·refine aJ ?_;refine cS ?_;simp only[kp];rw[ax hc0]
 refine aE ?_;refine QY ?_;refine aE ?_;refine cS ?_;simp only[kp];rw[aj ae]
def Lh (T:List D->D->Prop):Prop:=∀(l:List Int) (i:Int),T [.sl 1 (l.map (D.int .i64)),.int .i64 i] (.int .i64 (kp l i))
def Se (Y:Ctx):Prop:=Lh (bt Y 479)
def MU:aF:=⟨3,4,[⟨3,none⟩],bQ,(sq (r1 [gm bq] 3 0) (sq (r1 [gm s0,gm s1,gx 479 [l0,l1] [[.sl 1 [.a]],[.a]],gm s2,gx 478 [l2,l3] fH,gm l4] 3 5) .ret))⟩
def w228 {Y:Ctx}(hm:(Y.at 0).bd)(h478:LZ Y)(h479:Se Y)(l:List Int)(i:Int)(n:Int)  (hp0:0<n/\n<=9223372036854775807):dj Y MU (.int .i64 (fI l i n)) [.sl 1 (l.map (D.int .i64)),.int .i64 i,.int .i64 n]:=by
 show bH _ _ _ [⟨_,_⟩,⟨_,_⟩,⟨_,_⟩,_] _;refine aq ?_;refine aJ ?_;refine ai (hc:=h479 l i) ?_;refine aD ?_;refine ai (hc:=h478 _ n hp0) ?_;refine aA ?_;exact cS rfl
def KH (T:List D->D->Prop):Prop:=∀(l:List Int) (i:Int) (n:Int),(0<n/\n<=9223372036854775807)->T [.sl 1 (l.map (D.int .i64)),.int .i64 i,.int .i64 n] (.int .i64 (fI l i n))
def Hk (Y:Ctx):Prop:=KH (bt Y 228)
def MV:aF:=⟨1,2,gV,bQ,(sq (r1 [gm cse] 1 0) (sq (r1 [gn (.build [.str [],.str [],.str [],.str [],.str []] [(0,1,(cs [97,112,112])),(1,1,(cs [98])),(2,1,(cs [99])),(3,1,(cs [100])),(4,1,(cs [101,45,50]))]),gm s0,gx 478 [l1,Hf] fH,gn (.ixA 5 1 false l0 l2),gm l3] 1 4) .ret))⟩
def w227 {Y:Ctx}(hm:(Y.at 0).bd)(h478:LZ Y)(n:Int)   :dj Y MV (.str (eK n)) [.int .i64 n]:=by
 show bH _ _ _ [⟨_,_⟩,_] _;refine aq ?_;refine aA ?_;have hr:=j7 n 5 aG;refine dr (Qh.map D.str) ?_;refine aD ?_;refine ai (hc:=h478 n 5 aG) ?_;refine J6 (n%5).toNat (.str Qh[(n%5).toNat]!) (hj:=fun _=>ae) (hb:=fun _=>ae) (hv:=fun _=>ux Qh (by show _<5;omega)) ?_;refine aA ?_;exact cT rfl
def KG (T:List D->D->Prop):Prop:=∀(n:Int),T [.int .i64 n] (.str (eK n))
def U2 (Y:Ctx):Prop:=KG (bt Y 227)
def MZ:aF:=⟨1,2,gV,bQ,(sq (r1 [gm cse] 1 0) (sq (r1 [gn (.build [.str [],.str [],.str [],.str []] [(0,1,(cs [120])),(1,1,(cs [121])),(2,1,(cs [122])),(3,1,(cs [119,95,49]))]),gm s0,gx 478 [l1,sg] fH,gn (.ixA 4 1 false l0 l2),gm l3] 1 4) .ret))⟩
def w481 {Y:Ctx}(hm:(Y.at 0).bd)(h478:LZ Y)(n:Int)   :dj Y MZ (.str (ml n)) [.int .i64 n]:=by
 show bH _ _ _ [⟨_,_⟩,_] _;refine aq ?_;refine aA ?_;have hr:=j7 n 4 aG;refine dr (TX.map D.str) ?_;refine aD ?_;refine ai (hc:=h478 n 4 aG) ?_;refine J6 (n%4).toNat (.str TX[(n%4).toNat]!) (hj:=fun _=>ae) (hb:=fun _=>ae) (hv:=fun _=>ux TX (by show _<4;omega)) ?_;refine aA ?_;exact cT rfl
def Lj (T:List D->D->Prop):Prop:=∀(n:Int),T [.int .i64 n] (.str (ml n))
def Vf (Y:Ctx):Prop:=Lj (bt Y 481)
def P3:aF:=⟨2,6,[⟨2,none⟩],bQ,(sq (r1 [gm cse] 2 0) (sq (r1 [gn (.build [.int .i64 0,.int .i64 0,.int .i64 0,.int .i64 0,.int .i64 0,.int .i64 0] [(0,1,Ew),(1,1,Ot),(2,1,wV),(3,1,kn),(4,1,bX),(5,1,kl)]),gb 6 (.c (.agg [.int .i64 0,.int .i64 0,.int .i64 0,.int .i64 0,.int .i64 0,.int .i64 0])),gt 6 l1 l0] 3 1) (sq (r2 [gm s0,gm s1,gx 228 [l0,l1,wV] [[.sl 1 [.a]],[.a],[.a]],gn (.iaP 6 1 s3 l2),gd l3,gm s0,gm s1,aw l6 bX,gx 228 [l5,l7,kn] [[.sl 1 [.a]],[.a],[.a]],gm s0,gm s1,aw l10 kl,gx 228 [l9,gH,kl] [[.sl 1 [.a]],[.a],[.a]],gn (.build [.int .i64 0,.int .i64 0,.int .i64 0,.str [],.str []] [(0,1,l8),(1,1,jm)]),gn (.build [.int .i64 0,.int .i64 0,.int .i64 0,.int .i64 0,.int .i64 0,.str [],.str []] [(0,1,l4),(1,1,kn),(2,5,jV)]),gb 7 (.c (.agg [.int .i64 0,.int .i64 0,.int .i64 0,.int .i64 0,.int .i64 0,.str [],.str []])),gt 7 mM lg] 4 15) (sq (sq (r1 [gf 0 s4,gd l0,aL l1 Ew] 5 2) (.cond s5 (sq (r1 [gm (cs [42])] 2 0) .ret) .skip)) (sq (r1 [gk 7 true s4,gx 482 [l0] R4,gm l1] 2 2) .ret)))))⟩
def w230 {Y:Ctx}(hm:(Y.at 0).bd)(h228:Hk Y)(h482:Sf Y)(l:List Int)(i:Int)  (hp0:0<=i/\i<=4000000):dj Y P3 (.str (tz l i)) [.sl 1 (l.map (D.int .i64)),.int .i64 i]:=by
 show bH _ _ _ [⟨_,_⟩,⟨_,_⟩,_,_,_,_] _;refine aq ?_;refine aA ?_;refine dr (Ik.map (D.int .i64)) ?_;refine aD ?_;refine aU (.agg (Ik.map (D.int .i64))) (he:=bj) ?_;refine az ?_;have hr:=dt l i 6 aG;refine az ?_;refine ai (hc:=h228 l (i) 6 aG) ?_;refine rE (fI l i 6).toNat (hj:=fun _=>ae) (hb:=fun _=>ae) ?_;refine bI (v:=.int .i64 Ik[(fI l i 6).toNat]!) (hv:=fun _=>H2 Ik (by show _<6;omega) rfl) (ho:=ae) ?_;refine aA ?_;refine ai (hc:=h228 l (i+1) 3 aG) ?_;refine aA ?_;refine ai (hc:=h228 l (i+2) 2 aG) ?_;refine bz (cY.D (xu l i).v) ?_;refine bz (dp.D (xu l i)) ?_;refine aD ?_;refine aU (dp.D (xu l i)) (he:=bj) ?_;refine aE ?_;refine bI (v:=.int .i64 (xu l i).op) ?_;refine az ?_;refine cI (fun hc0=>?_) fun hc0=>?_
 ·refine aJ ?_;refine cT ?_;unfold tz;rw[ax hc0]
 refine az ?_;refine cJ (d:=dp.D (xu l i)) ?_;refine ai (hc:=h482 (xu l i) (SK l i)) ?_;refine aA ?_;refine cT ?_;unfold tz;rw[aj hc0]
def KJ (T:List D->D->Prop):Prop:=∀(l:List Int) (i:Int),(0<=i/\i<=4000000)->T [.sl 1 (l.map (D.int .i64)),.int .i64 i] (.str (tz l i))
def U3 (Y:Ctx):Prop:=KJ (bt Y 230)
def MX:aF:=⟨2,5,[⟨2,none⟩],bQ,(sq (r1 [gm cse] 2 0) (sq (r1 [gm s0,gm s1,gx 228 [l0,l1,wV] [[.sl 1 [.a]],[.a],[.a]],gm l2] 3 3) (sq (sq (r1 [gm s3,cZ l0 kl] 4 1) (.cond s4 (sq (r1 [gm cse] 2 0) .ret) .skip)) (sq (r2 [gn (.build [.str [],.str [],.str []] [(0,1,(cs [111,115])),(1,1,(cs [97,114,99,104])),(2,1,(cs [97,98,105]))]),gm s3,gn (.ixA 3 1 false l0 l1),gn (.build [.str [],.str []] [(0,1,(cs [32,61,32])),(1,1,(cs [32,33,61,32]))]),gm s0,gm s1,aw l5 bX,gx 228 [l4,l6,kl] [[.sl 1 [.a]],[.a],[.a]],gn (.ixA 2 1 false l3 l7),aw l2 l8,gm s0,gm s1,aw gH bX,gx 228 [l10,jm,kn] [[.sl 1 [.a]],[.a],[.a]],aw bX jV,gx 481 [lg] bQ,aw l9 mM,gm og] 2 17) .ret))))⟩
def w231 {Y:Ctx}(hm:(Y.at 0).bd)(h228:Hk Y)(h481:Vf Y)(l:List Int)(i:Int)  (hp0:0<=i/\i<=4000000):dj Y MX (.str (mi l i)) [.sl 1 (l.map (D.int .i64)),.int .i64 i]:=by
 show bH _ _ _ [⟨_,_⟩,⟨_,_⟩,_,_,_] _;refine aq ?_;refine aJ ?_;refine ai (hc:=h228 l (i) 6 aG) ?_;refine aY ?_;refine av (fun hc0=>?_) (fun hc0=>?_)
 ·try simp only[eE]at hc0
  refine aJ ?_;refine cT ?_;unfold mi;rw[ax hc0]
 simp only[bD]at hc0;have hr:=dt l i 6 aG;have hr2:=dt l (i+1) 2 aG;have hr3:=dt l (i+1) 3 aG;have hw:=vK (1+fI l (i+1) 3);have hk:=MS (fI l i 6).toNat ae;have he:=Pr (fI l (i+1) 2).toNat ae;refine az ?_;refine dr (B7.map D.str) ?_;refine aD ?_;refine J6 (fI l i 6).toNat (.str B7[(fI l i 6).toNat]!) (hj:=fun _=>ae) (hb:=fun _=>ae) (hv:=fun _=>ux B7 (by show _<3;omega)) ?_;refine dr (Mt.map D.str) ?_;refine aA ?_;refine ai (hc:=h228 l (i+1) 2 aG) ?_;refine J6 (fI l (i+1) 2).toNat (.str Mt[(fI l (i+1) 2).toNat]!) (hj:=fun _=>ae) (hb:=fun _=>ae) (hv:=fun _=>ux Mt (by show _<2;omega)) ?_;refine c8 (hb:=fun _=>ae) ?_;refine aA ?_;refine ai (hc:=h228 l (i+1) 3 aG) ?_;refine aD ?_;refine ai (hc:=h481 _) ?_;refine c8 (hb:=fun _=>by simp only[bG];omega) ?_;refine aA ?_;refine cT ?_;unfold mi;rw[aj hc0]
def KK (T:List D->D->Prop):Prop:=∀(l:List Int) (i:Int),(0<=i/\i<=4000000)->T [.sl 1 (l.map (D.int .i64)),.int .i64 i] (.str (mi l i))
def U4 (Y:Ctx):Prop:=KK (bt Y 231)
def MY:aF:=⟨4,8,[⟨4,some (4,true)⟩],[[.a,.a,.sl 1 [.a],.a]],(sq (r1 [gb 4 (.c (.agg [.str [],.str [],.aC,.bool false]))] 4 0) (sq (r1 [gm s2,aw l0 bX,gm s0,gm s1,gx 228 [l2,l3,sg] [[.sl 1 [.a]],[.a],[.a]],aw l1 l4,gx 227 [l5] bQ,gm s0,gm s1,aw l8 bX,gx 230 [l7,l9] [[.sl 1 [.a]],[.a]],gm s0,gm s1,aw jm sg,gx 228 [gH,jV,kn] [[.sl 1 [.a]],[.a],[.a]],aL lg bq,gn (.build [.str [],.str [],.aC,.bool false] [(0,1,l6),(1,1,l10),(3,1,mM)]),gb 4 (.c (.agg [.str [],.str [],.aC,.bool false])),gt 4 rl og] 7 17) (sq (sq (r1 [gm s0,gm s1,aw l1 Hf,gx 228 [l0,l2,Hf] [[.sl 1 [.a]],[.a],[.a]],gm l3] 5 4) (sq (r1 [gm s3,gm l0,gmt 1 s5,bY 1 (et l2 kl),eL l1 l3] 6 4) (.cond s6 (rg [gn (.bsl 1 (.str []) 2 [(0,(cs [120])),(1,(cs [121]))]),gm s5,ed l1 kl,gn (.slA 1 l0 none (some l2)),gf 2 s7,gt 1 l4 l3] []) .skip))) (sq (rg [gk 4 true s7,gt 4 s4 l0] []) .ret))))⟩
def w480 {Y:Ctx}(hm:(Y.at 0).bd)(h227:U2 Y)(h228:Hk Y)(h230:U3 Y)(l:List Int)(i:Int)(own:Int)(alone:Bool)  (hp0:0<=i/\i<=3000000)(hp1:0<=own/\own<=1000000):dj Y MY (cq.D (mj l i own alone)) [.sl 1 (l.map (D.int .i64)),.int .i64 i,.int .i64 own,.bool alone]:=by
 show bH _ _ _ [⟨_,_⟩,⟨_,_⟩,⟨_,_⟩,⟨_,_⟩,_,_,_,_] _;refine aq ?_;refine aA ?_;have hr:=dt l i 4 aG;refine aE ?_;refine ai (hc:=h228 l (i) 4 aG) ?_;refine aD ?_;refine ai (hc:=h227 (own+1+fI l i 4)) ?_;refine aA ?_;refine ai (hc:=h230 l (i+1) ae) ?_;refine aA ?_;refine ai (hc:=h228 l (i+4) 3 aG) ?_;refine aD ?_;refine bz (.agg [.str (eK (own+1+fI l i 4)),.str (tz l (i+1)),.aC,.bool (decide (fI l (i+4) 3=0))]) ?_;refine aD ?_;refine aU (.agg [.str (eK (own+1+fI l i 4)),.str (tz l (i+1)),.aC,.bool (decide (fI l (i+4) 3=0))]) (he:=bj) ?_;refine aH ?_;refine ai (hc:=h228 l (i+5) 5 aG) ?_;refine aE ?_;have hr5:=dt l (i+5) 5 aG;refine aH ?_;refine cI (fun hc0=>?_) fun hc0=>?_
 ·refine aD ?_;refine de (AY.map D.str) ?_;refine az ?_;refine uT (fI l (i+5) 5-2).toNat (hj:=fun _=>ae) (hb:=fun _=>ae) ?_;refine aD ?_;refine aU (.agg [.str (eK (own+1+fI l i 4)),.str (tz l (i+1)),(.own 30 1 0 (fI l (i+5) 5-2).toNat),.bool (decide (fI l (i+4) 3=0))]) (he:=bj) ?_;refine aD ?_;have hk:(fI l (i+5) 5-2).toNat<=AY.length:=by show _<=2;omega
  refine ff 30 ?_ (he:=by simp only[oe,kj,m5,oM,pX,cX,Nat.reduceEqDiff,ba,bc,dH,cO,cL,dF,dG,bU,bP,aQ,cn,a7,reduceCtorEq,ay,aB,Nat.reduceAdd,Nat.reduceLeDiff,hk,<-List.map_take];exact rfl) (hm:=by simp only[oe,kj,m5,oM,pX,cX,Nat.reduceEqDiff,ba,bc,dH,cO,cL,dF,dG,bU,bP,aQ,cn,a7,reduceCtorEq,ay,aB,Nat.reduceAdd,Nat.reduceLeDiff,hk,<-List.map_take];exact rfl);refine aD ?_;refine cJ (d:=(.agg [.str (eK (own+1+fI l i 4)),.str (tz l (i+1)),(.sl 1 ((AY.take (fI l (i+5) 5-2).toNat).map D.str)),.bool (decide (fI l (i+4) 3=0))])) ?_;refine aU (.agg [.str (eK (own+1+fI l i 4)),.str (tz l (i+1)),(.sl 1 ((AY.take (fI l (i+5) 5-2).toNat).map D.str)),.bool (decide (fI l (i+4) 3=0))]) (he:=bj) ?_;refine az ?_;refine bL (?_);simp only[cq.D,mj,oN];rw[ax hc0];rfl
 refine aD ?_;have hf:oN l i alone=[]:=aj (by rintro⟨h1,h2⟩;rcases hc0 with h|h;rw[h]at h1;cases h1;exact h h2);refine pK [(0,.buf 4 [.agg [.str [],.str [],.aC,.bool false]]),(18,.buf 4 [cq.D (mj l i own alone)])] (.id ah (.bf ah (.cons (by simp only[cq.D,mj,hf];exact .ag (.cons (.refl _) (.cons (.refl _) (.cons (.nil 1) (.cons (.refl _) .nil))))) .nil) .nil)) ?_;refine aD ?_;refine cJ (d:=(cq.D (mj l i own alone))) ?_;refine aU (cq.D (mj l i own alone)) (he:=bj) ?_;refine az ?_;refine bL (?_);rfl
def Li (T:List D->D->Prop):Prop:=∀(l:List Int) (i:Int) (own:Int) (alone:Bool),(0<=i/\i<=3000000)->(0<=own/\own<=1000000)->T [.sl 1 (l.map (D.int .i64)),.int .i64 i,.int .i64 own,.bool alone] (cq.D (mj l i own alone))
def Ym (Y:Ctx):Prop:=Li (bt Y 480)
def MW:aF:=⟨3,10,[⟨3,some (3,true)⟩],[[.sl 4 [.a,.a,.sl 1 [.a],.a],.a,.a]],(sq (r1 [gb 3 (.c (.agg [.aC,.str [],.str []]))] 3 0) (sq (r1 [gb 3 (.c (.agg [.aC,.str [],.str []]))] 8 0) (sq (r1 [gm bX] 6 0) (sq (sq (r1 [gm s0,gm s1,gx 228 [l0,l1,Hf] [[.sl 1 [.a]],[.a],[.a]],aL l2 bX] 4 3) (.cond s4 (r1 [gm kl] 6 0) .skip)) (sq (sq (r1 [gm bq] 5 0) (.block 0 (.loop (sq (sq (r1 [gm s5,gm s6,aS l0 l1] 7 2) (fB s7 0)) (sq (.block 1 (rt [gf 0 s8,gd l0,gm s0,gm s1,aw l3 bX,gm s5,gn (.bin .mul wV l5),aw l4 l6,gm s2,gm s6,aL l9 bX,gx 480 [l2,l7,l8,l10] [[.sl 1 [.a]],[.a],[.a],[.a]],gn (.bsl 4 (.agg [.str [],.str [],.aC,.bool false]) 1 [(0,gH)]),gn (.app 4 l1 jm),gf 0 s8,gt 1 lg jV] [])) (r1 [gm s5,aw l0 bX,gm l1] 5 2)))))) (sq (rg [gm s0,gm s1,aw l1 (i6 14),gx 231 [l0,l2] [[.sl 1 [.a]],[.a]],gf 1 s8,gt 1 l4 l3] []) (sq (sq (r1 [gm s0,gm s1,aw l1 (i6 16),gx 228 [l0,l2,sg] [[.sl 1 [.a]],[.a],[.a]],aL l3 bX] 9 4) (.cond s9 (rg [gm s0,gm s1,aw l1 (i6 17),gx 479 [l0,l2] [[.sl 1 [.a]],[.a]],gx 481 [l3] bQ,gf 2 s8,gt 1 l5 l4] []) .skip)) (sq (rg [gk 3 true s8,gt 3 s3 l0] []) .ret))))))))⟩
def w229 {Y:Ctx}(hm:(Y.at 0).bd)(h228:Hk Y)(h231:U4 Y)(h479:Se Y)(h480:Ym Y)(h481:Vf Y)(l:List Int)(i:Int)(own:Int)  (hp0:0<=i/\i<=2000000)(hp1:0<=own/\own<=1000000):dj Y MW (cb.D (gY l i own)) [.sl 1 (l.map (D.int .i64)),.int .i64 i,.int .i64 own]:=by
 show bH _ _ _ [⟨_,_⟩,⟨_,_⟩,⟨_,_⟩,_,_,_,_,_,_,_] _;refine aq ?_;refine gG ?_;refine ai (hc:=h228 l (i) 5 aG) ?_;refine az ?_;refine rX hm (ι:=Unit) (fun _=>[⟨true,.sl 1 (l.map (D.int .i64))⟩,⟨true,.int .i64 i⟩,⟨true,.int .i64 own⟩,⟨true,.ptr 0 3 0 0⟩,.un,.un,⟨true,.int .i64 (fM l i:Nat)⟩,.un,⟨true,.ptr 1 3 0 0⟩,.un]) (fun _=>[(0,.buf 3 [.agg [.aC,.str [],.str []]]),(1,.buf 3 [.agg [.aC,.str [],.str []]])]) 20 (fun _=>True) ?_ ?_
 ·refine fA (fun hc0=>?_) fun hc0=>?_
  ·refine aE ?_;have hmn:((fM l i:Nat):Int)=2:=by simp[fM,hc0]
   exact⟨(),trivial,(aZ.to [(0,0),(1,1)] ah ah (by repeat(first|exact dA.nil|refine dA.un ?_|refine dA.eq ah ?_|refine dA.nl (ar (D.int .i64) hmn) ah ?_)) rC)⟩
  refine az ?_;have hmn:((fM l i:Nat):Int)=1:=by simp[fM,hc0]
  exact⟨(),trivial,(aZ.to [(0,0),(1,1)] ah ah (by repeat(first|exact dA.nil|refine dA.un ?_|refine dA.eq ah ?_|refine dA.nl (ar (D.int .i64) hmn) ah ?_)) rC)⟩
 ·rintro _-
  have hml:=zD l i;refine aE ?_;refine bh hm (ι:=(Nat×List cq)) (fun p=>[⟨true,.sl 1 (l.map (D.int .i64))⟩,⟨true,.int .i64 i⟩,⟨true,.int .i64 own⟩,⟨true,.ptr 0 3 0 0⟩,.un,⟨true,.int .i64 (p.1:Nat)⟩,⟨true,.int .i64 (fM l i:Nat)⟩,.un,⟨true,.ptr 1 3 0 0⟩,.un]) (fun p=>[(0,.buf 3 [.agg [.aC,.str [],.str []]]),(1,.buf 3 [(.agg [.own 2 4 0 p.2.length,.str [],.str []])]),(2,.buf 4 (p.2.map cq.D))]) 40 (fun p=>p.1<=fM l i/\p.2=tx l i own p.1) (fun p=>fM l i-p.1) (0,[]) ⟨dN,rfl⟩ (aZ.to [(0,0),(1,1)] ah ah n4 (by(first|refine aO.dY ah ah ch ?_|refine aO.jG ah ah ah ?_|refine aO.lG ah ah ah ah ?_);refine aO.ni 1 ah ah (by exact⟨_,_,rfl,⟨_,rfl,⟨_,_,rfl,Or.inr ⟨_,_,_,rfl⟩,⟨_,_,rfl,⟨rfl,rfl⟩,⟨_,_,rfl,⟨rfl,rfl⟩,rfl⟩⟩⟩⟩,rfl⟩) ?_;refine aO.mt ah ah ah ah ?_;exact aO.nil)) ?_;rintro⟨k,ws⟩ ⟨hk,hw⟩;dsimp only at hk hw⊢;have hwl:ws.length=k:=by rw[hw];simp[tx]
  refine aH ?_;refine av (fun hc1=>?_) (fun hc1=>?_)
  ·try simp only[eE]at hc1
   refine cW ?_;refine oC ?_;refine aE ?_;refine ai (hc:=h480 l (i+1+6*(k:Nat)) own (decide ((fM l i:Int)=1)) ae hp1) ?_;refine de [cq.D (mj l (i+1+6*(k:Nat)) own (decide ((fM l i:Int)=1)))] ?_;refine jX (q:=cq.D) (xs:=ws) (e:=mj l (i+1+6*(k:Nat)) own (decide ((fM l i:Int)=1))) ?_;refine aD ?_;refine aU (.agg [.own 56 4 0 (ws++[mj l (i+1+6*(k:Nat)) own (decide ((fM l i:Int)=1))]).length,.str [],.str []]) (he:=bj) ?_;refine bM ?_;exact⟨(k+1,ws++[mj l (i+1+6*(k:Nat)) own (decide ((fM l i:Int)=1))]),⟨dN,by dsimp only;rw[MF,hw]⟩,dN,(aZ.to [(0,0),(1,1),(56,2)] ah ah n4 (by(first|refine aO.dY ah ah ch ?_|refine aO.jG ah ah ah ?_|refine aO.lG ah ah ah ah ?_);refine aO.jG ah ah ah ?_;refine aO.nl 56 ah ah rfl (cg (fun _=>rfl) _) ?_;exact aO.nil))⟩
  simp only[bD]at hc1;obtain rfl:k=fM l i:=ae;refine aH ?_;refine ai (hc:=h231 l (i+14) ae) ?_;refine aD ?_;refine aU (.agg [.own 2 4 0 ws.length,.str (mi l (i+14)),.str []]) (he:=bj) ?_;refine aH ?_;refine ai (hc:=h228 l (i+16) 4 aG) ?_;refine az ?_;refine cI (fun hc2=>?_) fun hc2=>?_
  ·refine aE ?_;refine ai (hc:=h479 l (i+17)) ?_;refine ai (hc:=h481 _) ?_;refine aD ?_;refine aU (.agg [.own 2 4 0 ws.length,.str (mi l (i+14)),.str (ml (kp l (i+17)))]) (he:=bj) ?_;refine aD ?_;refine ff 2 ?_;refine aD ?_;refine cJ (d:=(.agg [.sl 4 (ws.map cq.D),.str (mi l (i+14)),.str (ml (kp l (i+17)))])) ?_;refine aU (.agg [.sl 4 (ws.map cq.D),.str (mi l (i+14)),.str (ml (kp l (i+17)))]) (he:=bj) ?_;refine az ?_;refine bL (?_);simp only[cb.D,gY];rw[ax hc2,<-hw];rfl
  refine aD ?_;refine ff 2 ?_;refine aD ?_;refine cJ (d:=(.agg [.sl 4 (ws.map cq.D),.str (mi l (i+14)),.str []])) ?_;refine aU (.agg [.sl 4 (ws.map cq.D),.str (mi l (i+14)),.str []]) (he:=bj) ?_;refine az ?_;refine bL (?_);simp only[cb.D,gY];rw[aj hc2,<-hw];rfl
def KI (T:List D->D->Prop):Prop:=∀(l:List Int) (i:Int) (own:Int),(0<=i/\i<=2000000)->(0<=own/\own<=1000000)->T [.sl 1 (l.map (D.int .i64)),.int .i64 i,.int .i64 own] (cb.D (gY l i own))
def XM (Y:Ctx):Prop:=KI (bt Y 229)
def P4:aF:=⟨2,6,[⟨2,none⟩],[[.sl 1 [.a]]],(sq (r1 [gm (.c (.aC))] 2 0) (sq (r1 [gm bq] 3 0) (sq (.block 0 (.loop (sq (sq (r1 [gm s3,gm s0,gl l1,aS l0 l2,gm l3,gmt 4 s0,gmt 4 s3,bY 4 (.ia 1 l5 l6),lr 4 l7,gmt 4 s1,bY 4 (nO l8 l9),eL l4 l10] 4 11) (fB s4 0)) (.block 1 (r1 [gm s3,aw l0 bX,gm l1] 3 2))))) (sq (sq (r1 [gm s3,gm s0,gl l1,aS l0 l2,gm l3,gmt 4 s0,gmt 4 s3,bY 4 (.ia 1 l5 l6),lr 4 l7,gmt 4 s1,bY 4 (cQ l8 l9),eL l4 l10] 5 11) (.cond s5 (sq (r1 [gm s0,gm l0] 2 1) .ret) .skip)) (sq (r2 [gm s0,gm s3,gn (.slA 1 l0 none (some l1)),gn (.appN 1 l2),gm s1,gn (.bsl 1 (.str []) 1 [(0,l4)]),gn (.app 1 l3 l5),gm s0,gm s3,gn (.slA 1 l7 (some l8) none),gn (.app 1 l6 l9),gm l10] 2 11) .ret)))))⟩
def w483 {Y:Ctx}(hm:(Y.at 0).bd)  (l:List au)(s:au)  (hp0:l.length<=1000):dj Y P4 (.sl 1 ((gN l s).map D.str)) [.sl 1 (l.map D.str),.str s]:=by
 show bH _ _ _ [⟨_,_⟩,⟨_,_⟩,_,_,_,_] _;refine aq ?_;refine aJ ?_;refine bh hm (ι:=Nat) (fun i=>[⟨true,.sl 1 (l.map D.str)⟩,⟨true,.str s⟩,.un,⟨true,.int .i64 (i:Nat)⟩,.un,.un]) (fun i=>[]) 2 (fun i=>i<=lQ s l) (fun i=>l.length-i) 0 (Nat.zero_le _) (dL []) ?_;rintro i hi;have hpl:=DQ s l;refine aJ ?_;intro u0;refine aE ?_;refine ca i ?_;refine b8 (v:=.str l[i]!) ?_;refine aE ?_;refine av (fun hc0=>?_) (fun hc0=>?_)
 ·simp only[bw,aW]at hc0;have hip:i+1<=lQ s l:=by
   by_cases he:i=lQ s l
   ·have h1:=wg s l ae;rw[<-he,hc0.2]at h1;cases h1
   ·omega
  refine cW ?_;exact⟨i+1,ae,ae,(dL [])⟩
 simp only[dT,bD]at hc0;obtain rfl:i=lQ s l:=by
  by_cases he:i<lQ s l
  ·have h1:=DR s l i he;rcases hc0 with h|h
   ·omega
   ·rw[h1]at h;cases h
  ·omega
 refine aY ?_;intro u1;refine aE ?_;refine ca (lQ s l) ?_;refine b8 (v:=.str l[lQ s l]!) ?_;refine aE ?_;refine cI (fun hc1=>?_) fun hc1=>?_
 ·refine aH ?_;refine bL (?_);rw[gN,ax ⟨ae,hc1.2⟩];rfl
 refine aE ?_;refine pB (lQ s l) ?_;refine J3 (he:=sQ.sl) (n:=(l.take (lQ s l)).length) (hn:=aT) (hb:=by simp only[fj];omega) ?_;refine aD ?_;refine de [.str s] ?_;refine jX (q:=D.str) (xs:=l.take (lQ s l)) (e:=s) (hb:=by simp only[fj];omega) ?_;refine az ?_;refine Ap (lQ s l) ?_;refine QW (xs:=l.take (lQ s l)++[s]) (ys:=l.drop (lQ s l)) (he:=sQ.sl) (hb:=by simp only[bG,fj,mV,ay,aB];omega) ?_;refine az ?_;refine ff 36 ?_;refine aD ?_;refine bL (?_);rw[gN,aj (by rintro⟨h1,h2⟩;rcases hc1 with h|h;omega;exact h h2)];rfl
def Lk (T:List D->D->Prop):Prop:=∀(l:List au) (s:au),(l.length<=1000)->T [.sl 1 (l.map D.str),.str s] (.sl 1 ((gN l s).map D.str))
def Yn (Y:Ctx):Prop:=Lk (bt Y 483)
def Bg:aF:=⟨3,18,[⟨3,none⟩],[[.sl 2 [.a,.sl 1 [.a]]]],(sq (rg [gb 9 s2,gm (.c (.aC))] [(10,0),(3,1)]) (sq (r1 [gm (.c (.aC))] 17 0) (sq (r1 [gn (.build [.str [],.str [],.str [],.str []] [(0,1,(cs [100,101,102,97,117,108,116])),(1,1,(cs [120])),(2,1,(cs [121])),(3,1,(cs [122]))]),gb 4 (.c (.agg [.str [],.str [],.str [],.str []])),gt 4 l1 l0] 8 1) (sq (sq (r1 [gm bq] 4 0) (.block 0 (.loop (sq (sq (r1 [gm s4,aS l0 sg] 5 1) (fB s5 0)) (sq (.block 1 (sq (r1 [gm s0,gm s1,gm s4,aw l1 l2,gx 479 [l0,l3] [[.sl 1 [.a]],[.a]],gm l4] 6 5) (sq (sq (r1 [gm s6,gx 478 [l0,kn] fH,aL l1 bq] 7 2) (.cond s7 (.exit 1) .skip)) (sq (r1 [gm s4,gn (.iaP 4 1 s8 l0),gd l1,gn (.build [.str [],.aC] [(0,1,l2)]),gb 2 (.c (.agg [.str [],.aC])),gt 2 l4 l3] 14 4) (sq (sq (r1 [gm bq] 9 0) (.block 2 (.loop (sq (sq (r1 [gm s9,gf 6 jf,gd l1,gl l2,aS l0 l3,gm l4,gmt 5 s9,bY 5 (nO l6 kl),eL l5 l7] 11 8) (fB k9 2)) (sq (.block 3 (sq (r1 [gf 6 jf,gd l0,gm s9,ga 3 l1 l2,gk 3 true l3,gb 3 (.c (.agg [.aC,.str [],.str []])),gt 3 l5 l4] 12 5) (sq (sq (r1 [gf 2 lv,gd l0,b7 l1 cse,gm l2,gmt 3 s6,gmt 3 s9,bY 3 (zb kn l5),bY 3 (.cvi .u64 l6),bY 3 (.bin .shr l4 l7),bY 3 (O4 l8 bX),bY 3 (cQ l9 bX),eL l3 l10] 13 11) (.cond qG (rg [gf 1 rN,gd l0,gf 2 lv,gd l2,aw (cs [63]) l3,gx 483 [l1,l4] [[.sl 1 [.a]],[.a]],gf 1 rN,gt 1 l6 l5] []) .skip)) (sq (r1 [gf 0 lv,gd l0,gl l1,aL l2 bX,gm l3,gmt 4 s6,gmt 4 s9,bY 4 (zb Hf l6),bY 4 (.cvi .u64 l7),bY 4 (.bin .shr l5 l8),bY 4 (O4 l9 bX),bY 4 (cQ l10 bX),eL l4 gH] 15 12) (.cond xI (rt [gf 1 rN,gd l0,gf 0 lv,gd l2,ga 4 l3 bq,gf 0 l4,gd l5,aw l6 (cs [47]),aw l7 (cs [120]),gx 483 [l1,l8] [[.sl 1 [.a]],[.a]],gf 1 rN,gt 1 l10 l9] []) .skip))))) (r1 [gm s9,aw l0 bX,gm l1] 9 2)))))) (sq (sq (r1 [gm s4,aS l0 kn,gm l1,gmt 2 s6,bY 2 (.bin .shr l3 (iu 7)),bY 2 (O4 l4 bX),bY 2 (cQ l5 bX),eL l2 l6,gm l7,gmt 8 s0,gmt 8 s1,gmt 8 s4,bY 8 (zb l10 gH),bY 8 (zb jm bX),bY 8 (.call 479 [l9,jV] [[.sl 1 [.a]],[.a]]),bY 8 (.call 478 [lg,kn] fH),bY 8 (eX mM bq),eL l8 og] 16 17) (.cond Bo (rt [gf 1 rN,gd l0,gm s4,aw l2 bX,gn (.iaP 4 1 s8 l3),gd l4,gx 483 [l1,l5] [[.sl 1 [.a]],[.a]],gf 1 rN,gt 1 l7 l6] []) .skip)) (r1 [gm D9,gk 2 true rN,gn (.bsl 2 (.agg [.str [],.aC]) 1 [(0,l1)]),gn (.app 2 l0 l2),gm l3] 17 4))))))) (r1 [gm s4,aw l0 bX,gm l1] 4 2)))))) (sq (r1 [gm D9,gm l0] 3 1) .ret)))))⟩
def w232 {Y:Ctx}(hm:(Y.at 0).bd)(h478:LZ Y)(h479:Se Y)(h483:Yn Y)(l:List Int)(i:Int)(r:Rec)  (hp0:0<=i/\i<=2000000)(hp1:∀j:Nat,j<r.needs.length->r.needs[j]!.option.length<=100/\(r.needs[j]!.any.length=1->r.needs[j]!.any[0]!.name.length<=100)):dj Y Bg (.sl 2 ((jT l i r).map cu.D)) [.sl 1 (l.map (D.int .i64)),.int .i64 i,Rec.D r]:=by
 show bH _ _ _ [⟨_,_⟩,⟨_,_⟩,⟨_,_⟩,_,_,_,_,_,_,_,_,_,_,_,_,_,_,_] _;refine aq ?_;refine aY ?_;refine dr (nu.map D.str) ?_;refine aD ?_;refine aU (.agg (nu.map D.str)) (he:=bj) ?_;refine aJ ?_;refine bh hm (ι:=(Nat×List cu)) (fun p=>[⟨true,.sl 1 (l.map (D.int .i64))⟩,⟨true,.int .i64 i⟩,.un,.un,⟨true,.int .i64 (p.1:Nat)⟩,.un,.un,.un,⟨true,.ptr 4 4 0 0⟩,.un,⟨true,.ptr 0 9 0 0⟩,.un,.un,.un,.un,.un,.un,⟨true,.own 1 2 0 p.2.length⟩]) (fun p=>[(0,.buf 9 [Rec.D r]),(4,.buf 4 [.agg (nu.map D.str)]),(1,.buf 2 (p.2.map cu.D))]) 30 (fun p=>p.1<=4/\p.2=PD l i r p.1) (fun p=>4-p.1) (0,[]) ⟨dN,rfl⟩ (aZ.to [(0,0),(4,4)] ah ah (by repeat(first|exact dA.nil|refine dA.un ?_|refine dA.eq ah ?_|refine dA.ni (Or.inr ⟨_,_,_,rfl⟩) ?_)) (by refine aO.dY ah ah ch ?_;refine aO.dY ah ah ch ?_;refine aO.mt ah ah ah ah ?_;exact aO.nil)) ?_;rintro⟨k,fs⟩ ⟨hk,hf⟩;dsimp only at hk hf⊢;have hfl:fs.length<=k:=by
  rw[hf];unfold PD;exact c9 (List.length_filterMap_le _ _) aT
 refine aJ ?_;refine av (fun hc0=>?_) (fun hc0=>?_)
 ·try simp only[eE]at hc0
  refine aY ?_;refine ai (hc:=h479 l (i+(k:Nat))) ?_;refine aJ ?_;refine ai (hc:=h478 _ 3 aG) ?_;refine az ?_;refine cI (fun hc1=>?_) fun hc1=>?_
  ·refine bM ?_;exact⟨(k+1,fs),⟨dN,by dsimp only;rw[hf,Wg hc1]⟩,dN,(aZ.to [(0,0),(4,4),(1,1)] ah ah n4 (by refine aO.dY ah ah ch ?_;refine aO.dY ah ah ch ?_;refine aO.dY ah ah ch ?_;exact aO.nil))⟩
  refine aA ?_;refine rE k (hb:=fun _=>ae) ?_;refine bI (v:=.str nu[k]!) (hv:=fun _=>H2 nu (by show _<4;omega) rfl) (ho:=ae) ?_;refine bz (.agg [.str nu[k]!,.aC]) ?_;refine aD ?_;refine aU (.agg [.str nu[k]!,.aC]) (he:=bj) ?_;refine aD ?_;refine pK [(0,.buf 9 [Rec.D r]),(4,.buf 4 [.agg (nu.map D.str)]),(1,.buf 2 (fs.map cu.D)),(45,.buf 2 [(.agg [.str nu[k]!,.sl 1 ((([]:List au)).map D.str)])])] (.id ah (.id ah (.id ah (.bf ah (.cons (.ag (.cons (.refl _) (.cons (.nil 1) .nil))) .nil) .nil)))) ?_;refine aE ?_;refine bh hm (ι:=(Nat×List au)) (fun p=>[⟨true,.sl 1 (l.map (D.int .i64))⟩,⟨true,.int .i64 i⟩,.un,.un,⟨true,.int .i64 (k:Nat)⟩,.un,⟨true,.int .i64 (kp l (i+(k:Nat)))⟩,.un,⟨true,.ptr 4 4 0 0⟩,⟨true,.int .i64 (p.1:Nat)⟩,⟨true,.ptr 0 9 0 0⟩,.un,.un,.un,⟨true,.ptr 2 2 0 0⟩,.un,.un,⟨true,.own 1 2 0 fs.length⟩]) (fun p=>[(0,.buf 9 [Rec.D r]),(4,.buf 4 [.agg (nu.map D.str)]),(1,.buf 2 (fs.map cu.D)),(2,.buf 2 [.agg [.str nu[k]!,.sl 1 (p.2.map D.str)]])]) 60 (fun p=>p.1<=min r.needs.length 2/\p.2=qB r (kp l (i+(k:Nat))) p.1) (fun p=>2-p.1) (0,[]) ⟨dN,rfl⟩ (aZ.to [(0,0),(4,4),(1,1),(45,2)] ah ah n4 (by refine aO.dY ah ah ch ?_;refine aO.dY ah ah ch ?_;refine aO.dY ah ah ch ?_;refine aO.nl 45 ah ah rfl ah ?_;exact aO.nil)) ?_;rintro⟨j,of⟩ ⟨hj,ho⟩;dsimp only at hj ho⊢;have hol:of.length<=4:=by
   have:=Dk r (kp l (i+(k:Nat))) j;rw[ho];omega
  refine aE ?_;refine bI (v:=.sl 3 (r.needs.map cb.D)) ?_;refine aD ?_;intro u0;refine aH ?_;refine av (fun hc2=>?_) (fun hc2=>?_)
  ·simp only[bw,aW]at hc2;obtain⟨hpo,hpn⟩:=hp1 j ae;refine aE ?_;refine bI (v:=.sl 3 (r.needs.map cb.D)) ?_;refine aD ?_;refine ca j (hb:=fun _=>ae) ?_;refine b8 (v:=cb.D r.needs[j]!) (hi:=fun _=>ae) ?_;refine aD ?_;refine aU (cb.D r.needs[j]!) (he:=bj) ?_;refine hX ?_;refine oA (3+(j:Nat)) (hb:=fun _=>by rw[IntKind.wrap_u64];omega) ?_;refine uS _ (hb:=fun _=>rfl) ?_;refine wh (Hx (kp l (i+(k:Nat))) (3+(j:Nat))) (hb:=fun _=>rfl) ?_;refine aA ?_;refine cI (fun hc3=>?_) fun hc3=>?_
   ·refine az ?_;refine bI (v:=.sl 1 (of.map D.str)) ?_;refine aD ?_;refine bI (v:=.str r.needs[j]!.option) ?_;refine c8 (hb:=fun _=>by simp only[ay,aB];omega) ?_;refine ai (hc:=h483 of ([63]++r.needs[j]!.option) ae) ?_;refine aD ?_;refine aU (.agg [.str nu[k]!,.sl 1 ((gN of ([63]++r.needs[j]!.option)).map D.str)]) (he:=bj) ?_;refine aJ ?_;intro u1;refine aJ ?_;refine oA (5+(j:Nat)) (hb:=fun _=>by rw[IntKind.wrap_u64];omega) ?_;refine uS _ (hb:=fun _=>rfl) ?_;refine wh (Hx (kp l (i+(k:Nat))) (5+(j:Nat))) (hb:=fun _=>rfl) ?_;refine aA ?_;refine fA (fun hc4=>?_) fun hc4=>?_
    ·refine aD ?_;have hpl:=rz of ([63]++r.needs[j]!.option);refine aD ?_;refine bI (v:=.sl 1 (((gN of ([63]++r.needs[j]!.option))).map D.str)) ?_;refine aD ?_;refine bI (v:=.sl 4 (r.needs[j]!.any.map cq.D)) ?_;refine ca 0 (hb:=fun _=>ae) ?_;refine aD ?_;refine b8 (v:=.str r.needs[j]!.any[0]!.name) (hi:=fun _=>ae) ?_;refine c8 (hb:=fun _=>by have:=hpn ae;simp only[ay,aB];omega) ?_;refine c8 (hb:=fun _=>by have:=hpn ae;simp only[bG,ay,aB];omega) ?_;refine ai (hc:=h483 (gN of ([63]++r.needs[j]!.option)) (r.needs[j]!.any[0]!.name++[47]++[120]) ae) ?_;refine aD ?_;refine aU (.agg [.str nu[k]!,.sl 1 ((gN (gN of ([63]++r.needs[j]!.option)) (r.needs[j]!.any[0]!.name++[47]++[120])).map D.str)]) (he:=bj) ?_;refine bM ?_;have hA:PC r (kp l (i+(k:Nat))) of j=gN of ([63]++r.needs[j]!.option):=ax hc3;have hB:Uv r (kp l (i+(k:Nat))) (gN of ([63]++r.needs[j]!.option)) j=gN (gN of ([63]++r.needs[j]!.option)) (r.needs[j]!.any[0]!.name++[47]++[120]):=ax ⟨ae,hc4.2⟩;have hJ:qB r (kp l (i+(k:Nat))) (j+1)=(gN (gN of ([63]++r.needs[j]!.option)) (r.needs[j]!.any[0]!.name++[47]++[120])):=by rw[pc,Uw,<-ho,hA,hB]
     exact⟨(j+1,(gN (gN of ([63]++r.needs[j]!.option)) (r.needs[j]!.any[0]!.name++[47]++[120]))),⟨dN,hJ.symm⟩,dN,(aZ.to [(0,0),(4,4),(1,1),(2,2)] ah ah n4 (by refine aO.dY ah ah ch ?_;refine aO.dY ah ah ch ?_;refine aO.dY ah ah ch ?_;refine aO.dY ah ah ch ?_;exact aO.nil))⟩
    refine bM ?_;have hA:PC r (kp l (i+(k:Nat))) of j=gN of ([63]++r.needs[j]!.option):=ax hc3;have hB:Uv r (kp l (i+(k:Nat))) (gN of ([63]++r.needs[j]!.option)) j=(gN of ([63]++r.needs[j]!.option)):=aj (by rintro⟨h1,h2⟩;rcases hc4 with h|h;omega;exact h h2);have hJ:qB r (kp l (i+(k:Nat))) (j+1)=(gN of ([63]++r.needs[j]!.option)):=by rw[pc,Uw,<-ho,hA,hB]
    exact⟨(j+1,(gN of ([63]++r.needs[j]!.option))),⟨dN,hJ.symm⟩,dN,(aZ.to [(0,0),(4,4),(1,1),(2,2)] ah ah n4 (by refine aO.dY ah ah ch ?_;refine aO.dY ah ah ch ?_;refine aO.dY ah ah ch ?_;refine aO.dY ah ah ch ?_;exact aO.nil))⟩
   refine aJ ?_;intro u1;refine aJ ?_;refine oA (5+(j:Nat)) (hb:=fun _=>by rw[IntKind.wrap_u64];omega) ?_;refine uS _ (hb:=fun _=>rfl) ?_;refine wh (Hx (kp l (i+(k:Nat))) (5+(j:Nat))) (hb:=fun _=>rfl) ?_;refine aA ?_;refine fA (fun hc4=>?_) fun hc4=>?_
   ·refine aD ?_;have hpl:=rz of ([63]++r.needs[j]!.option);refine aD ?_;refine bI (v:=.sl 1 ((of).map D.str)) ?_;refine aD ?_;refine bI (v:=.sl 4 (r.needs[j]!.any.map cq.D)) ?_;refine ca 0 (hb:=fun _=>ae) ?_;refine aD ?_;refine b8 (v:=.str r.needs[j]!.any[0]!.name) (hi:=fun _=>ae) ?_;refine c8 (hb:=fun _=>by have:=hpn ae;simp only[ay,aB];omega) ?_;refine c8 (hb:=fun _=>by have:=hpn ae;simp only[bG,ay,aB];omega) ?_;refine ai (hc:=h483 of (r.needs[j]!.any[0]!.name++[47]++[120]) ae) ?_;refine aD ?_;refine aU (.agg [.str nu[k]!,.sl 1 ((gN of (r.needs[j]!.any[0]!.name++[47]++[120])).map D.str)]) (he:=bj) ?_;refine bM ?_;have hA:PC r (kp l (i+(k:Nat))) of j=of:=aj (by rintro⟨h1,h2⟩;rcases hc3 with h|h;exact h1 h;exact h h2);have hB:Uv r (kp l (i+(k:Nat))) of j=gN of (r.needs[j]!.any[0]!.name++[47]++[120]):=ax ⟨ae,hc4.2⟩;have hJ:qB r (kp l (i+(k:Nat))) (j+1)=(gN of (r.needs[j]!.any[0]!.name++[47]++[120])):=by rw[pc,Uw,<-ho,hA,hB]
    exact⟨(j+1,(gN of (r.needs[j]!.any[0]!.name++[47]++[120]))),⟨dN,hJ.symm⟩,dN,(aZ.to [(0,0),(4,4),(1,1),(2,2)] ah ah n4 (by refine aO.dY ah ah ch ?_;refine aO.dY ah ah ch ?_;refine aO.dY ah ah ch ?_;refine aO.dY ah ah ch ?_;exact aO.nil))⟩
   refine bM ?_;have hA:PC r (kp l (i+(k:Nat))) of j=of:=aj (by rintro⟨h1,h2⟩;rcases hc3 with h|h;exact h1 h;exact h h2);have hB:Uv r (kp l (i+(k:Nat))) of j=of:=aj (by rintro⟨h1,h2⟩;rcases hc4 with h|h;omega;exact h h2);have hJ:qB r (kp l (i+(k:Nat))) (j+1)=of:=by rw[pc,Uw,<-ho,hA,hB]
   exact⟨(j+1,of),⟨dN,hJ.symm⟩,dN,(aZ.to [(0,0),(4,4),(1,1),(2,2)] ah ah n4 (by refine aO.dY ah ah ch ?_;refine aO.dY ah ah ch ?_;refine aO.dY ah ah ch ?_;refine aO.dY ah ah ch ?_;exact aO.nil))⟩
  simp only[dT,bD]at hc2;obtain rfl:j=min r.needs.length 2:=ae;subst ho;refine bM ?_;refine uS _ (hb:=fun _=>rfl) ?_;refine wh (Hx (kp l (i+(k:Nat))) 7) (hb:=fun _=>rfl) ?_;refine bM ?_;refine dc (hc:=fun hf=>h479 l (i+(k:Nat)+1)) ?_;refine dc (hc:=fun hf=>h478 _ 3 aG) ?_;refine aA ?_;refine cI (fun hc5=>?_) fun hc5=>?_
  ·refine az ?_;refine bI (v:=.sl 1 ((qB r (kp l (i+(k:Nat))) (min r.needs.length 2)).map D.str)) ?_;refine az ?_;refine rE (k+1) (hb:=fun _=>ae) ?_;refine bI (v:=.str nu[k+1]!) (hv:=fun _=>H2 nu (by show _<4;omega) rfl) (ho:=ae) ?_;refine ai (hc:=h483 (qB r (kp l (i+(k:Nat))) (min r.needs.length 2)) nu[k+1]! ae) ?_;refine aD ?_;refine aU (.agg [.str nu[k]!,.sl 1 ((gN (qB r (kp l (i+(k:Nat))) (min r.needs.length 2)) nu[k+1]!).map D.str)]) (he:=bj) ?_;refine aA ?_;refine cJ (d:=cu.D ⟨nu[k]!,gN (qB r (kp l (i+(k:Nat))) (min r.needs.length 2)) nu[k+1]!⟩) ?_;refine de [cu.D ⟨nu[k]!,gN (qB r (kp l (i+(k:Nat))) (min r.needs.length 2)) nu[k+1]!⟩] ?_;refine jX (q:=cu.D) (xs:=fs) (e:=⟨nu[k]!,gN (qB r (kp l (i+(k:Nat))) (min r.needs.length 2)) nu[k+1]!⟩) ?_;refine cW ?_;have hC:SU l i (kp l (i+(k:Nat))) k (qB r (kp l (i+(k:Nat))) (min r.needs.length 2))=gN (qB r (kp l (i+(k:Nat))) (min r.needs.length 2)) nu[k+1]! :=ax ⟨⟨ae,hc5.1.2⟩,by rw[show i+(k:Nat)+1=i+(k:Int)+1 by omega];exact hc5.2⟩;exact⟨(k+1,fs++[⟨nu[k]!,gN (qB r (kp l (i+(k:Nat))) (min r.needs.length 2)) nu[k+1]!⟩]),⟨dN,by dsimp only;rw[hf];exact(Js hc1 hC).symm⟩,dN,(aZ.to [(0,0),(4,4),(99,1)] ah ah (by repeat(first|exact dA.nil|refine dA.un ?_|refine dA.eq ah ?_|refine dA.ni (Or.inr ⟨_,_,_,rfl⟩) ?_)) (by refine aO.dY ah ah ch ?_;refine aO.dY ah ah ch ?_;refine aO.nl 99 ah ah rfl (cg (fun _=>rfl) _) ?_;exact aO.nil))⟩
  refine aA ?_;refine cJ (d:=cu.D ⟨nu[k]!,(qB r (kp l (i+(k:Nat))) (min r.needs.length 2))⟩) ?_;refine de [cu.D ⟨nu[k]!,(qB r (kp l (i+(k:Nat))) (min r.needs.length 2))⟩] ?_;refine jX (q:=cu.D) (xs:=fs) (e:=⟨nu[k]!,(qB r (kp l (i+(k:Nat))) (min r.needs.length 2))⟩) ?_;refine cW ?_;have hC:SU l i (kp l (i+(k:Nat))) k (qB r (kp l (i+(k:Nat))) (min r.needs.length 2))=(qB r (kp l (i+(k:Nat))) (min r.needs.length 2)):=aj (by rintro⟨⟨h1,h2⟩,h3⟩;rcases hc5 with(h|h)|h;omega;exact h h2;exact h3 h);exact⟨(k+1,fs++[⟨nu[k]!,(qB r (kp l (i+(k:Nat))) (min r.needs.length 2))⟩]),⟨dN,by dsimp only;rw[hf];exact(Js hc1 hC).symm⟩,dN,(aZ.to [(0,0),(4,4),(90,1)] ah ah (by repeat(first|exact dA.nil|refine dA.un ?_|refine dA.eq ah ?_|refine dA.ni (Or.inr ⟨_,_,_,rfl⟩) ?_)) (by refine aO.dY ah ah ch ?_;refine aO.dY ah ah ch ?_;refine aO.nl 90 ah ah rfl (cg (fun _=>rfl) _) ?_;exact aO.nil))⟩
 simp only[bD]at hc0;obtain rfl:k=4:=ae;refine aH ?_;refine ff 1 ?_;refine aD ?_;refine bL (?_);rw[hf];rfl
def KL (T:List D->D->Prop):Prop:=∀(l:List Int) (i:Int) (r:Rec),(0<=i/\i<=2000000)->(∀j:Nat,j<r.needs.length->r.needs[j]!.option.length<=100/\(r.needs[j]!.any.length=1->r.needs[j]!.any[0]!.name.length<=100))->T [.sl 1 (l.map (D.int .i64)),.int .i64 i,Rec.D r] (.sl 2 ((jT l i r).map cu.D))
def XN (Y:Ctx):Prop:=KL (bt Y 232)
def Fy:aF:=⟨3,10,[⟨3,some (9,true)⟩],[[.a,.a,.a,.a,.a,.a,.sl 3 [.sl 4 [.a,.a,.sl 1 [.a],.a],.a,.a],.sl 3 [.a,.a,.a],.sl 2 [.a,.sl 1 [.a]]]],(sq (r1 [gb 9 (.c (.agg [.str [],.int .i64 0,.int .i64 0,.int .i64 0,.str [],.str [],.aC,.aC,.aC]))] 3 0) (sq (r1 [gm s2,gx 227 [l0] bQ,gm s0,gm s1,gx 228 [l2,l3,kn] [[.sl 1 [.a]],[.a],[.a]],gm s0,gm s1,aw l6 bX,gx 228 [l5,l7,kl] [[.sl 1 [.a]],[.a],[.a]],gn (.build [.int .i64 0,.int .i64 0,.int .i64 0,.str [],.str []] [(0,1,l4),(1,1,l8)]),gn (.build [.str [],.int .i64 0,.int .i64 0,.int .i64 0,.str [],.str [],.aC,.aC,.aC] [(0,1,l1),(1,5,l9)]),gb 9 (.c (.agg [.str [],.int .i64 0,.int .i64 0,.int .i64 0,.str [],.str [],.aC,.aC,.aC])),gt 9 gH l10] 5 11) (sq (sq (r1 [gm s0,gm s1,aw l1 kl,gx 228 [l0,l2,Ew] [[.sl 1 [.a]],[.a],[.a]],aL l3 bX] 4 4) (.cond s4 (rg [gf 1 s5,gf 3 l0,gt 1 l1 (cs [114,99,46,49])] []) .skip)) (sq (sq (r1 [gm s0,gm s1,aw l1 kl,gx 228 [l0,l2,Ew] [[.sl 1 [.a]],[.a],[.a]],aL l3 kl] 6 4) (.cond s6 (rg [gf 1 s5,gf 4 l0,gt 1 l1 (cs [55])] []) .skip)) (sq (sq (r1 [gm s0,gm s1,aw l1 kn,gx 228 [l0,l2,sg] [[.sl 1 [.a]],[.a],[.a]],gn (.bin .rem l3 kn),gm l4] 7 5) (.block 0 (.loop (sq (sq (r1 [gm s7,cZ l0 bq] 8 1) (fB s8 0)) (sq (.block 1 (rt [gf 6 s5,gd l0,gm s0,gm s1,aw l3 sg,gm s7,gn (.bin .mul (i6 20) l5),aw l4 l6,ed l7 (i6 20),gm s2,gx 229 [l2,l8,l9] [[.sl 1 [.a]],[.a],[.a]],gn (.bsl 3 (.agg [.aC,.str [],.str []]) 1 [(0,l10)]),gn (.app 3 l1 gH),gf 6 s5,gt 1 jV jm] [])) (r1 [gm s7,ed l0 bX,gm l1] 7 2)))))) (sq (sq (r1 [gm s0,gm s1,aw l1 (i6 45),gx 228 [l0,l2,Hf] [[.sl 1 [.a]],[.a],[.a]],aL l3 bX] 9 4) (.cond s9 (rt [gf 7 s5,gd l0,gm s2,aw l2 bX,gm s0,gm s1,aw l5 (i6 46),gx 228 [l4,l6,sg] [[.sl 1 [.a]],[.a],[.a]],aw l3 l7,gx 227 [l8] bQ,gm s0,gm s1,aw gH (i6 47),gx 230 [l10,jm] [[.sl 1 [.a]],[.a]],gm s0,gm s1,aw mM (i6 50),gx 231 [lg,og] [[.sl 1 [.a]],[.a]],gn (.build [.str [],.str [],.str []] [(0,1,l9),(1,1,jV),(2,1,rl)]),gn (.bsl 3 (.agg [.str [],.str [],.str []]) 1 [(0,sX)]),gn (.app 3 l1 uh),gf 7 s5,gt 1 Bf zJ] []) .skip)) (sq (rg [gm s0,gm s1,aw l1 (i6 52),gk 9 true s5,gx 232 [l0,l2,l3] [[.sl 1 [.a]],[.a],[.a,.a,.a,.a,.a,.a,.sl 3 [.sl 4 [.a,.a,.sl 1 [.a],.a],.a,.a],.sl 3 [.a,.a,.a],.sl 2 [.a,.sl 1 [.a]]]],gf 8 s5,gt 1 l5 l4] []) (sq (rg [gk 9 true s5,gt 9 s3 l0] []) .ret))))))))⟩
def w79 {Y:Ctx}(hm:(Y.at 0).bd)(h227:U2 Y)(h228:Hk Y)(h229:XM Y)(h230:U3 Y)(h231:U4 Y)(h232:XN Y)(l:List Int)(i:Int)(own:Int)  (hp0:0<=i/\i<=1000000)(hp1:0<=own/\own<=100000):dj Y Fy (Rec.D (Bd l i own)) [.sl 1 (l.map (D.int .i64)),.int .i64 i,.int .i64 own]:=by
 show bH _ _ _ [⟨_,_⟩,⟨_,_⟩,⟨_,_⟩,_,_,_,_,_,_,_] _;refine aq ?_;refine aE ?_;refine ai (hc:=h227 own) ?_;refine az ?_;refine ai (hc:=h228 l (i) 3 aG) ?_;refine aA ?_;refine ai (hc:=h228 l (i+1) 2 aG) ?_;refine bz (cY.D ⟨fI l i 3,fI l (i+1) 2,0,[],[]⟩) ?_;refine bz (.agg [.str (eK own),.int .i64 (fI l i 3),.int .i64 (fI l (i+1) 2),.int .i64 0,.str [],.str [],.aC,.aC,.aC]) ?_;refine aD ?_;refine aU (.agg [.str (eK own),.int .i64 (fI l i 3),.int .i64 (fI l (i+1) 2),.int .i64 0,.str [],.str [],.aC,.aC,.aC]) (he:=bj) ?_;refine aH ?_;refine ai (hc:=h228 l (i+2) 9 aG) ?_;refine az ?_;refine rX hm (ι:=Unit) (fun _=>[⟨true,.sl 1 (l.map (D.int .i64))⟩,⟨true,.int .i64 i⟩,⟨true,.int .i64 own⟩,⟨true,.ptr 0 9 0 0⟩,.un,⟨true,.ptr 12 9 0 0⟩,.un,.un,.un,.un]) (fun _=>[(0,.buf 9 [fq]),(12,.buf 9 [(.agg [.str (eK own),.int .i64 (fI l i 3),.int .i64 (fI l (i+1) 2),.int .i64 0,.str (tA l i),.str [],.aC,.aC,.aC])])]) 30 (fun _=>True) ?_ ?_
 ·refine fA (fun hc0=>?_) fun hc0=>?_
  ·refine aA ?_;refine aU (.agg [.str (eK own),.int .i64 (fI l i 3),.int .i64 (fI l (i+1) 2),.int .i64 0,.str Rb,.str [],.aC,.aC,.aC]) (he:=bj) ?_;refine az ?_;have hp:tA l i=Rb:=ax hc0;rw[hp];exact⟨(),trivial,(aZ.to [(0,0),(12,12)] ah ah n4 (by repeat(first|exact aO.nil|refine aO.dY ah ah ch ?_|refine aO.jG ah ah ah ?_)))⟩
  refine az ?_;have hp:tA l i=[]:=aj hc0;rw[hp];exact⟨(),trivial,(aZ.to [(0,0),(12,12)] ah ah n4 (by repeat(first|exact aO.nil|refine aO.dY ah ah ch ?_|refine aO.jG ah ah ah ?_)))⟩
 ·rintro _-
  refine aJ ?_;refine ai (hc:=h228 l (i+2) 9 aG) ?_;refine az ?_;refine rX hm (ι:=Unit) (fun _=>[⟨true,.sl 1 (l.map (D.int .i64))⟩,⟨true,.int .i64 i⟩,⟨true,.int .i64 own⟩,⟨true,.ptr 0 9 0 0⟩,.un,⟨true,.ptr 12 9 0 0⟩,.un,.un,.un,.un]) (fun _=>[(0,.buf 9 [fq]),(12,.buf 9 [(.agg [.str (eK own),.int .i64 (fI l i 3),.int .i64 (fI l (i+1) 2),.int .i64 0,.str (tA l i),.str (zB l i),.aC,.aC,.aC])])]) 40 (fun _=>True) ?_ ?_
  ·refine fA (fun hc1=>?_) fun hc1=>?_
   ·refine aA ?_;refine aU (.agg [.str (eK own),.int .i64 (fI l i 3),.int .i64 (fI l (i+1) 2),.int .i64 0,.str (tA l i),.str [55],.aC,.aC,.aC]) (he:=bj) ?_;refine az ?_;have hp:zB l i=[55]:=ax hc1;rw[hp];exact⟨(),trivial,(aZ.to [(0,0),(12,12)] ah ah n4 (by repeat(first|exact aO.nil|refine aO.dY ah ah ch ?_|refine aO.jG ah ah ah ?_)))⟩
   refine az ?_;have hp:zB l i=[]:=aj hc1;rw[hp];exact⟨(),trivial,(aZ.to [(0,0),(12,12)] ah ah n4 (by repeat(first|exact aO.nil|refine aO.dY ah ah ch ?_|refine aO.jG ah ah ah ?_)))⟩
  ·rintro _-
   have hK:=Ux l i;refine aJ ?_;refine ai (hc:=h228 l (i+3) 4 aG) ?_;refine J7 ((gK l i:Nat):Int) (hn:=by intro _;omega) (hb:=fun _=>gK_eq l i) ?_;refine az ?_;refine bh hm (ι:=(Nat×List cb)) (fun p=>[⟨true,.sl 1 (l.map (D.int .i64))⟩,⟨true,.int .i64 i⟩,⟨true,.int .i64 own⟩,⟨true,.ptr 0 9 0 0⟩,.un,⟨true,.ptr 12 9 0 0⟩,.un,⟨true,.int .i64 (p.1:Nat)⟩,.un,.un]) (fun p=>[(0,.buf 9 [fq]),(12,.buf 9 [(.agg [.str (eK own),.int .i64 (fI l i 3),.int .i64 (fI l (i+1) 2),.int .i64 0,.str (tA l i),.str (zB l i),.own 1 3 0 p.2.length,.aC,.aC])]),(1,.buf 3 (p.2.map cb.D))]) 60 (fun p=>p.1<=gK l i/\p.2=Fc l i own (gK l i-p.1)) (fun p=>p.1) (gK l i,[]) ⟨aQ _,by dsimp only;rw[Nat.sub_self];rfl⟩ (aZ.to [(0,0),(12,12)] ah ah n4 (by refine aO.dY ah ah ch ?_;refine aO.ni 12 ah ah (by exact⟨_,_,rfl,⟨_,rfl,⟨_,_,rfl,⟨rfl,rfl⟩,⟨_,_,rfl,⟨rfl,rfl⟩,⟨_,_,rfl,⟨rfl,rfl⟩,⟨_,_,rfl,⟨rfl,rfl⟩,⟨_,_,rfl,⟨rfl,rfl⟩,⟨_,_,rfl,⟨rfl,rfl⟩,⟨_,_,rfl,Or.inr ⟨_,_,_,rfl⟩,⟨_,_,rfl,Or.inl rfl,⟨_,_,rfl,Or.inl rfl,rfl⟩⟩⟩⟩⟩⟩⟩⟩⟩⟩,rfl⟩) ?_;refine aO.mt ah ah ah ah ?_;exact aO.nil)) ?_;rintro⟨k,ns⟩ ⟨hk,hn⟩;dsimp only at hk hn⊢;have hnl:ns.length<=3:=by rw[hn];simp[Fc];omega
   refine aJ ?_;refine av (fun hc2=>?_) (fun hc2=>?_)
   ·try simp only[eE]at hc2
    refine cW ?_;refine oC ?_;refine aA ?_;refine ai (hc:=h229 l (i+4+20*(k:Int) -20) own ae ae) ?_;refine de [cb.D (gY l (i+4+20*(k:Int) -20) own)] ?_;refine jX (q:=cb.D) (xs:=ns) (e:=gY l (i+4+20*(k:Int) -20) own) ?_;refine aD ?_;refine aU (.agg [.str (eK own),.int .i64 (fI l i 3),.int .i64 (fI l (i+1) 2),.int .i64 0,.str (tA l i),.str (zB l i),.own 74 3 0 (ns++[gY l (i+4+20*(k:Int) -20) own]).length,.aC,.aC]) (he:=bj) ?_;refine bM ?_;exact⟨(k-1,ns++[gY l (i+4+20*(k:Int) -20) own]),⟨dN,by dsimp only;rw[PH hk ae,hn]⟩,dN,(aZ.to [(0,0),(12,12),(74,1)] ah ah (by repeat(first|exact dA.nil|refine dA.un ?_|refine dA.eq ah ?_|refine dA.nl (ar (D.int .i64) (show((k-1:Nat):Int)=(k:Int) -1 by omega)) ah ?_)) (by refine aO.dY ah ah ch ?_;refine aO.jG ah ah ah ?_;refine aO.nl 74 ah ah rfl (cg (fun _=>rfl) _) ?_;exact aO.nil))⟩
   simp only[bD]at hc2;obtain rfl:k=0:=ae;obtain rfl:ns=q9 l i own:=by rw[hn];rfl
   refine aA ?_;refine ff 1 ?_;refine aE ?_;refine ai (hc:=h228 l (i+45) 5 aG) ?_;refine az ?_;refine rX hm (ι:=Unit) (fun _=>[⟨true,.sl 1 (l.map (D.int .i64))⟩,⟨true,.int .i64 i⟩,⟨true,.int .i64 own⟩,⟨true,.ptr 0 9 0 0⟩,.un,⟨true,.ptr 12 9 0 0⟩,.un,.un,.un,.un]) (fun _=>[(0,.buf 9 [fq]),(12,.buf 9 [(.agg [.str (eK own),.int .i64 (fI l i 3),.int .i64 (fI l (i+1) 2),.int .i64 0,.str (tA l i),.str (zB l i),(.sl 3 ((q9 l i own).map cb.D)),(.own 2 3 0 (qY l i own).length),.aC])]),(2,.buf 3 ((qY l i own).map jL.D))]) 100 (fun _=>True) ?_ ?_
   ·refine fA (fun hc3=>?_) fun hc3=>?_
    ·refine aD ?_;have hr46:=dt l (i+46) 4 aG;refine aD ?_;refine bI (v:=.aC) ?_;refine aJ ?_;refine ai (hc:=h228 l (i+46) 4 aG) ?_;refine aD ?_;refine ai (hc:=h227 (own+1+fI l (i+46) 4)) ?_;refine aA ?_;refine ai (hc:=h230 l (i+47) ae) ?_;refine aA ?_;refine ai (hc:=h231 l (i+50) ae) ?_;refine bz (jL.D (zA l i own)) ?_;refine de [jL.D (zA l i own)] ?_;refine WR (n:=1) (ys:=[jL.D (zA l i own)]) (he:=sQ.all ah rfl) (hn:=rfl) ?_;refine aD ?_;refine aU (.agg [.str (eK own),.int .i64 (fI l i 3),.int .i64 (fI l (i+1) 2),.int .i64 0,.str (tA l i),.str (zB l i),(.sl 3 ((q9 l i own).map cb.D)),(.own 87 3 0 1),.aC]) (he:=bj) ?_;refine az ?_;have hb:qY l i own=[zA l i own]:=ax hc3;rw[hb];exact⟨(),trivial,(aZ.to [(0,0),(12,12),(87,2)] ah ah n4 (by refine aO.dY ah ah ch ?_;refine aO.jG ah ah ah ?_;refine aO.nl 87 ah ah ah ah ?_;exact aO.nil))⟩
    refine az ?_;have hb:qY l i own=[]:=aj hc3;rw[hb];exact⟨(),trivial,(aZ.to [(0,0),(12,12)] ah ah n4 (by refine aO.dY ah ah ch ?_;refine aO.ni 12 ah ah (by exact⟨_,_,rfl,⟨_,rfl,⟨_,_,rfl,⟨rfl,rfl⟩,⟨_,_,rfl,⟨rfl,rfl⟩,⟨_,_,rfl,⟨rfl,rfl⟩,⟨_,_,rfl,⟨rfl,rfl⟩,⟨_,_,rfl,⟨rfl,rfl⟩,⟨_,_,rfl,⟨rfl,rfl⟩,⟨_,_,rfl,⟨rfl,rfl⟩,⟨_,_,rfl,Or.inr ⟨_,_,_,rfl⟩,⟨_,_,rfl,Or.inl rfl,rfl⟩⟩⟩⟩⟩⟩⟩⟩⟩⟩,rfl⟩) ?_;refine aO.mt ah ah ah ah ?_;exact aO.nil))⟩
   ·rintro _-
    refine ff 2 ?_;refine pK [(0,.buf 9 [fq]),(12,.buf 9 [Rec.D (ph l i own)])] (.id ah (.bf ah (.cons (.ag (.cons (.refl _) (.cons (.refl _) (.cons (.refl _) (.cons (.refl _) (.cons (.refl _) (.cons (.refl _) (.cons (.refl _) (.cons (.refl _) (.cons (.nil 2) .nil)))))))))) .nil) .nil)) ?_;refine aE ?_;refine cJ (d:=Rec.D (ph l i own)) ?_;refine ai (hc:=h232 l (i+52) (ph l i own) ae (MJ l i own)) ?_;refine aD ?_;refine aU (Rec.D (Bd l i own)) (he:=bj) ?_;refine az ?_;refine cJ (d:=Rec.D (Bd l i own)) ?_;refine aU (Rec.D (Bd l i own)) (he:=bj) ?_;refine az ?_;refine bL (?_);rfl
def RX (T:List D->D->Prop):Prop:=∀(l:List Int) (i:Int) (own:Int),(0<=i/\i<=1000000)->(0<=own/\own<=100000)->T [.sl 1 (l.map (D.int .i64)),.int .i64 i,.int .i64 own] (Rec.D (Bd l i own))
def C79 (Y:Ctx):Prop:=RX (bt Y 79)
def cmp_isNaN_int:aF:=⟨1,2,gV,bQ,(sq (r1 [gm dM] 1 0) (sq (r1 [gm s0,gm s0,b7 l0 l1,gm l2] 1 3) .ret))⟩
def w714 {Y:Ctx}(hm:(Y.at 0).bd)  (x:Int)   :dj Y cmp_isNaN_int (.bool false) [.int .i64 x]:=by
 show bH _ _ _ [⟨_,_⟩,_] _;refine aq ?_;refine cW ?_;refine bS ?_;simp
def LG (T:List D->D->Prop):Prop:=∀(x:Int),T [.int .i64 x] (.bool false)
def YQ (Y:Ctx):Prop:=LG (bt Y 714)
def A9:aF:=⟨1,2,gV,bQ,(sq (r1 [gm dM] 1 0) (sq (r1 [gm s0,gm s0,b7 l0 l1,gm l2] 1 3) .ret))⟩
def w704 {Y:Ctx}(hm:(Y.at 0).bd)  (x:au)   :dj Y A9 (.bool false) [.str x]:=by
 show bH _ _ _ [⟨_,_⟩,_] _;refine aq ?_;refine cW ?_;refine bS ?_;simp
def LF (T:List D->D->Prop):Prop:=∀(x:au),T [.str x] (.bool false)
def YP (Y:Ctx):Prop:=LF (bt Y 704)
def cmp_Compare_int:aF:=⟨2,10,[⟨2,none⟩],bQ,(sq (r1 [gm bq] 2 0) (sq (r1 [gm s0,gx 714 [l0] bQ,gm l1] 3 2) (sq (r1 [gm s1,gx 714 [l0] bQ,gm l1] 5 2) (sq (sq (r1 [gm s3] 4 0) (.cond s4 (sq (sq (r1 [gm s5] 6 0) (.cond s6 (sq (r1 [gm bq] 2 0) .ret) .skip)) (sq (r1 [gn (.mv (.c (.int .i64 (-1))))] 2 0) .ret)) .skip)) (sq (sq (r1 [gm s5] 7 0) (.cond s7 (sq (r1 [gm bX] 2 0) .ret) .skip)) (sq (sq (r1 [gm s0,gm s1,aS l0 l1] 8 2) (.cond s8 (sq (r1 [gn (.mv (.c (.int .i64 (-1))))] 2 0) .ret) .skip)) (sq (sq (r1 [gm s0,gm s1,cZ l0 l1] 9 2) (.cond s9 (sq (r1 [gm bX] 2 0) .ret) .skip)) (sq (r1 [gm bq] 2 0) .ret))))))))⟩
def w532 {Y:Ctx}(hm:(Y.at 0).bd)(h714:YQ Y)(a:Int)(b:Int)   :dj Y cmp_Compare_int (.int .i64 (eZ a b)) [.int .i64 a,.int .i64 b]:=by
 show bH _ _ _ [⟨_,_⟩,⟨_,_⟩,_,_,_,_,_,_,_,_] _;refine aq ?_;refine aE ?_;refine ai (hc:=h714 _) ?_;refine aE ?_;refine ai (hc:=h714 _) ?_;refine aH ?_;refine av (t:=false) (fun h=>by cases h) (fun _=>?_);refine aJ ?_;refine av (t:=false) (fun h=>by cases h) (fun _=>?_);refine aY ?_;refine cI (fun hc3=>?_) fun hc3=>?_
 ·refine aJ ?_;refine cS ?_;simp[eZ,hc3]
 refine aY ?_;refine cI (fun hc4=>?_) fun hc4=>?_
 ·refine aJ ?_;refine cS ?_;unfold eZ;rw[aj hc3,ax hc4]
 refine aJ ?_;refine cS ?_;unfold eZ;rw[aj hc3,aj hc4]
def yH (T:List D->D->Prop):Prop:=∀(a:Int) (b:Int),T [.int .i64 a,.int .i64 b] (.int .i64 (eZ a b))
def Vi (Y:Ctx):Prop:=yH (bt Y 532)
def xt:aF:=⟨2,10,[⟨2,none⟩],bQ,(sq (r1 [gm bq] 2 0) (sq (r1 [gm s0,gx 704 [l0] bQ,gm l1] 3 2) (sq (r1 [gm s1,gx 704 [l0] bQ,gm l1] 5 2) (sq (sq (r1 [gm s3] 4 0) (.cond s4 (sq (sq (r1 [gm s5] 6 0) (.cond s6 (sq (r1 [gm bq] 2 0) .ret) .skip)) (sq (r1 [gn (.mv (.c (.int .i64 (-1))))] 2 0) .ret)) .skip)) (sq (sq (r1 [gm s5] 7 0) (.cond s7 (sq (r1 [gm bX] 2 0) .ret) .skip)) (sq (sq (r1 [gm s0,gm s1,aS l0 l1] 8 2) (.cond s8 (sq (r1 [gn (.mv (.c (.int .i64 (-1))))] 2 0) .ret) .skip)) (sq (sq (r1 [gm s0,gm s1,cZ l0 l1] 9 2) (.cond s9 (sq (r1 [gm bX] 2 0) .ret) .skip)) (sq (r1 [gm bq] 2 0) .ret))))))))⟩
def w516 {Y:Ctx}(hm:(Y.at 0).bd)(h704:YP Y)(a:au)(b:au)   :dj Y xt (.int .i64 (A8 a b)) [.str a,.str b]:=by
 show bH _ _ _ [⟨_,_⟩,⟨_,_⟩,_,_,_,_,_,_,_,_] _;refine aq ?_;refine aE ?_;refine ai (hc:=h704 _) ?_;refine aE ?_;refine ai (hc:=h704 _) ?_;refine aH ?_;refine av (t:=false) (fun h=>by cases h) (fun _=>?_);refine aJ ?_;refine av (t:=false) (fun h=>by cases h) (fun _=>?_);refine aY ?_;refine cI (fun hc3=>?_) fun hc3=>?_
 ·refine aJ ?_;refine cS ?_;simp[A8,hc3]
 refine aY ?_;refine cI (fun hc4=>?_) fun hc4=>?_
 ·refine aJ ?_;refine cS ?_;simp_all[A8]
 refine aJ ?_;refine cS ?_;simp_all[A8]
def yG (T:List D->D->Prop):Prop:=∀(a:au) (b:au),T [.str a,.str b] (.int .i64 (A8 a b))
def Yv (Y:Ctx):Prop:=yG (bt Y 516)
def V7:aF:=⟨1,9,gV,bQ,(sq (r1 [gm bq] 1 0) (sq (r1 [gm bq] 7 0) (sq (sq (rg [gm s0,gl l0,gm bq] [(5,0),(3,1),(2,2)]) (.block 0 (.loop (sq (r1 [aS s2 s3] 4 0) (sq (fB s4 0) (sq (.block 1 (sq (r1 [ga 1 s5 s2,gd l0,gm l1] 6 2) (sq (r1 [gm s6,gm s7,b7 l0 l1] 8 2) (.cond s8 (sq (r1 [gm s6,gm l0] 1 1) .ret) .skip)))) (r1 [aw s2 bX,gm l0] 2 1))))))) (sq (r1 [gm s7,gm l0] 1 1) .ret))))⟩
def w531 {Y:Ctx}(hm:(Y.at 0).bd)  (l:List Int)   :dj Y V7 (.int .i64 (fg (fun i=>l[i]!) 0 l.length)) [.sl 1 (l.map (D.int .i64))]:=by
 show bH _ _ _ [⟨_,_⟩,_,_,_,_,_,_,_,_] _;refine aq ?_;refine cW ?_;intro u0;refine az ?_;refine bh hm (ι:=Nat) (fun i=>[.un,.un,⟨true,.int .i64 (i:Nat)⟩,⟨true,.int .i64 (l.length:Nat)⟩,.un,⟨true,.sl 1 (l.map (D.int .i64))⟩,.un,⟨true,.int .i64 0⟩,.un]) (fun i=>[]) 5 (fun i=>i<=l.length/\fg (fun i=>l[i]!) 0 l.length=fg (fun i=>l[i]!) i l.length) (fun i=>l.length-i) 0 ⟨ae,rfl⟩ (dL []) ?_;rintro i ⟨hi,hr⟩;refine aA ?_;refine cI (fun hc0=>?_) fun hc0=>?_
 ·refine aA ?_;refine ca i ?_;refine b8 (v:=.int .i64 l[i]!) ?_;refine aY ?_;refine fA (fun hc1=>?_) fun hc1=>?_
  ·refine aY ?_;refine cS ?_;rw[hr,lE ae hc1]
  refine aY ?_;exact⟨i+1,⟨ae,by rw[hr,nA ae hc1]⟩,ae,(dL [])⟩
 refine aY ?_;refine cS ?_;rw[hr,ny ae]
def Lq (T:List D->D->Prop):Prop:=∀(l:List Int),T [.sl 1 (l.map (D.int .i64))] (.int .i64 (fg (fun i=>l[i]!) 0 l.length))
def Yx (Y:Ctx):Prop:=Lq (bt Y 531)
def Ek:aF:=⟨1,3,[⟨1,some (5,true)⟩],zF,(sq (rg [gb 5 s0,gb 5 (.c (.agg [.int .i64 0,.int .i64 0,.int .i64 0,.str [],.str []]))] [(2,0),(1,1)]) (sq (rg [gf 4 s2,gt 1 l0 cse] []) (sq (rg [gk 5 true s2,gt 5 s1 l0] []) .ret)))⟩
def w530 {Y:Ctx}(hm:(Y.at 0).bd)  (v:cY)   :dj Y Ek (cY.D (wL v)) [cY.D v]:=by
 show bH _ _ _ [⟨_,_⟩,_,_] _;refine aq ?_;refine aJ ?_;refine aU _ (he:=bj) ?_;refine aH ?_;refine bL (?_);rfl
def Lp (T:List D->D->Prop):Prop:=∀(v:cY),T [cY.D v] (cY.D (wL v))
def Yw (Y:Ctx):Prop:=Lp (bt Y 530)
def GQ:aF:=⟨2,10,[⟨2,none⟩],bQ,(sq (r1 [gm bq] 2 0) (sq (rg [gm s0,gx 659 [l0] bQ,gm s1,gx 659 [l2] bQ,gm l1,gm l3] [(3,4),(4,5)]) (sq (sq (r1 [gm s3,gm l0,gmt 1 s4,eL l1 l2] 5 3) (.cond s5 (sq (r1 [gm s0,gx 658 [l0] bQ,gm l1,ge l2 0,ge l2 1,gm l3,gm l4] 6 5) (sq (r1 [gm s1,gx 658 [l0] bQ,gm l1,ge l2 0,ge l2 1,gm l3,gm l4] 7 5) (sq (r1 [gm s6,gm s7,gx 532 [l0,l1] fH,gm l2] 2 3) .ret))) .skip)) (sq (sq (r1 [gm s3,gm s4,gn (.eqA true false [.b] l0 l1)] 8 2) (.cond s8 (sq (sq (r1 [gm s3] 9 0) (.cond s9 (sq (r1 [gn (.mv (.c (.int .i64 (-1))))] 2 0) .ret) .skip)) (sq (r1 [gm bX] 2 0) .ret)) .skip)) (sq (r1 [gm s0,gm s1,gx 516 [l0,l1] fH,gm l2] 2 3) .ret)))))⟩
def w534 {Y:Ctx}(hm:(Y.at 0).bd)(h516:Yv Y)(h532:Vi Y)(h658:OE Y)(h659:Vl Y)(a:au)(b:au)   :dj Y GQ (.int .i64 (sN a b)) [.str a,.str b]:=by
 show bH _ _ _ [⟨_,_⟩,⟨_,_⟩,_,_,_,_,_,_,_,_] _;refine aq ?_;refine aE ?_;refine ai (hc:=h659 _) ?_;refine aD ?_;refine ai (hc:=h659 _) ?_;refine hX ?_;refine cI (fun hc0=>?_) fun hc0=>?_
 ·refine aA ?_;refine ai (hc:=h658 _) ?_;refine cW ?_;refine ai (hc:=h658 _) ?_;refine hX ?_;refine ai (hc:=h532 _ _) ?_;refine aA ?_;refine cS ?_;unfold sN;rw[ax hc0]
 refine aJ ?_;refine r_eqN (hb:=eqBb _ _) ?_;refine aD ?_;refine av (fun hc1=>?_) (fun hc1=>?_)
 ·simp only[bE,bD]at hc1;refine aJ ?_;refine cI (fun hc2=>?_) fun hc2=>?_
  ·refine aJ ?_;refine cS ?_;have hn:¬(cR a=true/\cR b=true):=by rintro⟨h1,h2⟩;simp[h1,h2]at hc0
   unfold sN;rw[aj hn];rw[ax hc2]
  refine aH ?_;refine cS ?_;have hn:¬(cR a=true/\cR b=true):=by rintro⟨h1,h2⟩;simp[h1,h2]at hc0
  unfold sN;rw[aj hn];rw[aj (by simp[hc2]),ax (by cases h:cR b with|true=>rfl|false=>exact absurd (hc2.trans h.symm) hc1)]
 simp only[b6,aW]at hc1;refine aE ?_;refine ai (hc:=h516 _ _) ?_;refine aA ?_;refine cS ?_;have hn:¬(cR a=true/\cR b=true):=by rintro⟨h1,h2⟩;simp[h1,h2]at hc0
 unfold sN;rw[aj hn];have h1:cR a=false:=by cases h:cR a with|false=>rfl|true=>exact absurd ⟨h,hc1▸h⟩ hn
 rw[aj (by simp[h1]),aj (by rw[<-hc1];simp[h1])]
def yJ (T:List D->D->Prop):Prop:=∀(a:au) (b:au),T [.str a,.str b] (.int .i64 (sN a b))
def Yy (Y:Ctx):Prop:=yJ (bt Y 534)
def xK:aF:=⟨2,16,[⟨2,none⟩],bQ,(sq (rg [gb 5 s0,gb 5 s1,gm bq] [(3,0),(4,1),(2,2)]) (sq (sq (r2 [gk 5 true s3,gx 209 [l0] zF,jU l1,gm l2,cD 3 (.ld 5 true s4),cD 3 (.call 209 [l4] zF),cD 3 (.un .not l5),fE l3 l6,gm l7,cD 8 (.ld 5 true s3),cD 8 (.call 530 [l9] zF),cD 8 (.ld 5 true s4),cD 8 (.call 530 [gH] zF),cD 8 (.eqA false true [.i .i64,.i .i64,.i .i64,.s,.s] l10 jm),fE l8 jV] 5 14) (.cond s5 (sq (r1 [gm bq] 2 0) .ret) .skip)) (sq (sq (r2 [gf 0 s3,gd l0,gf 0 s4,gd l2,gx 532 [l1,l3] fH,gf 1 s3,gd l5,gf 1 s4,gd l7,gx 532 [l6,l8] fH,gf 2 s3,gd l10,gf 2 s4,gd jm,gx 532 [gH,jV] fH,gn (.bsl 1 (.int .i64 0) 3 [(0,l4),(1,l9),(2,lg)]),gx 531 [mM] [[.sl 1 [.a]]],gm og] 6 17) (sq (r1 [gm s6,b7 l0 bq] 7 1) (.cond s7 (sq (r1 [gm s6,gm l0] 2 1) .ret) .skip))) (sq (sq (r1 [gf 3 s3,gd l0,aL l1 cse] 8 2) (.cond s8 (sq (r1 [gm bX] 2 0) .ret) .skip)) (sq (sq (r1 [gf 3 s4,gd l0,aL l1 cse] 9 2) (.cond s9 (sq (r1 [gn (.mv (.c (.int .i64 (-1))))] 2 0) .ret) .skip)) (sq (rt [gf 3 s3,gd l0,gx 533 [l1,(i8 46)] fH,gf 3 s4,gd l3,gx 533 [l4,(i8 46)] fH,gm l2,gm l5] [(11,6),(12,7)]) (sq (sq (r1 [gm bq] 10 0) (.block 0 (.loop (sq (sq (r1 [gm jf,gm k9,gl l1,aS l0 l2,gm l3,gmt 4 jf,gmt 4 lv,bY 4 (.len l6),bY 4 (nO l5 l7),eL l4 l8] 13 9) (fB qG 0)) (sq (.block 1 (sq (r2 [gm k9,gm jf,ga 1 l0 l1,gd l2,gm lv,gm jf,ga 1 l4 l5,gd l6,gx 534 [l3,l7] fH,gm l8] 14 9) (sq (r1 [gm rN,b7 l0 bq] 15 1) (.cond xI (sq (r1 [gm rN,gm l0] 2 1) .ret) .skip)))) (r1 [gm jf,aw l0 bX,gm l1] 10 2)))))) (sq (r1 [gm k9,gl l0,gm lv,gl l2,gx 532 [l1,l3] fH,gm l4] 2 5) .ret))))))))⟩
def w295 {Y:Ctx}(hm:(Y.at 0).bd)(h209:Hj Y)(h530:Yw Y)(h531:Yx Y)(h532:Vi Y)(h533:L0 Y)(h534:Yy Y)(a:cY)(b:cY)  (hp0:a.sm/\b.sm):dj Y xK (.int .i64 (oZ a b)) [cY.D a,cY.D b]:=by
 show bH _ _ _ [⟨_,_⟩,⟨_,_⟩,_,_,_,_,_,_,_,_,_,_,_,_,_,_] _;refine aq ?_;refine aY ?_;refine ai (hc:=h209 a hp0.1) ?_;refine aA ?_;refine dc (hc:=fun hf=>h209 b hp0.2) ?_;refine aE ?_;refine dc (hc:=fun hf=>h530 a) ?_;refine aD ?_;refine dc (hc:=fun hf=>h530 b) ?_;refine r_eqP (hb:=cY.eq _ _) ?_;refine az ?_;refine av (fun hc0=>?_) (fun hc0=>?_)
 ·simp only[dh,bE,aW]at hc0;refine aJ ?_;refine cS ?_;rcases hc0 with hc0|hc0
  ·unfold oZ;rw[ax hc0]
  ·exact(BK hc0).symm
 simp only[dW,b6,bD]at hc0;have hv:¬(eY a=false\/eY b=false):=by simp only[not_or,Bool.not_eq_false];first|exact hc0|exact hc0.1
 refine aY ?_;refine ai (hc:=h532 _ _) ?_;refine aE ?_;refine ai (hc:=h532 _ _) ?_;refine aE ?_;refine ai (hc:=h532 _ _) ?_;refine de ([eZ a.major b.major,eZ a.minor b.minor,eZ a.patch b.patch].map (D.int .i64)) ?_;refine ai (hc:=h531 [eZ a.major b.major,eZ a.minor b.minor,eZ a.patch b.patch]) (ha:=fun _=>ar (fun d=>[d]) (oI (q:=D.int .i64) (xs:=[eZ a.major b.major,eZ a.minor b.minor,eZ a.patch b.patch]) (fun _=>rfl) ah)) (hp:=fun _=>⟨mH (q:=D.int .i64) (xs:=[eZ a.major b.major,eZ a.minor b.minor,eZ a.patch b.patch]) (fun _=>rfl) ah,trivial⟩) ?_;refine aY ?_;refine av (fun hc1=>?_) (fun hc1=>?_)
 ·simp only[bE,bD]at hc1;refine aH ?_;refine cS ?_;exact Pw hv hc1
 simp only[b6,aW]at hc1;obtain⟨z1,z2,z3⟩:=Px hc1;refine aA ?_;have hcp:=Pf hv z1 z2 z3;have hpn:¬a.pre=b.pre:=fun e=>hc0.2 (SB z1 z2 z3 e)
 refine aE ?_;refine cI (fun hc2=>?_) fun hc2=>?_
 ·refine aJ ?_;refine cS ?_;rw[hcp];unfold v8;rw[aj hpn,ax hc2]
 refine aY ?_;refine cI (fun hc3=>?_) fun hc3=>?_
 ·refine aJ ?_;refine cS ?_;rw[hcp];unfold v8;rw[aj hpn,aj hc2,ax hc3]
 refine aE ?_;refine ai (hc:=h533 a.pre 46 hp0.1.1) ?_;refine az ?_;refine ai (hc:=h533 b.pre 46 hp0.2.1) ?_;refine aY ?_;refine bh hm (ι:=Nat) (fun i=>[.un,.un,.un,⟨true,.ptr 0 5 0 0⟩,⟨true,.ptr 1 5 0 0⟩,.un,.un,.un,.un,.un,⟨true,.int .i64 (i:Nat)⟩,⟨true,.sl 1 ((ak a.pre 46).map D.str)⟩,⟨true,.sl 1 ((ak b.pre 46).map D.str)⟩,.un,.un,.un]) (fun i=>[(0,.buf 5 [cY.D a]),(1,.buf 5 [cY.D b])]) 53 (fun i=>(i<=(ak a.pre 46).length/\i<=(ak b.pre 46).length)/\oZ a b=sZ (ak a.pre 46) (ak b.pre 46) i) (fun i=>(ak a.pre 46).length-i) 0 ⟨⟨ae,ae⟩,by rw[hcp];unfold v8;rw[aj hpn,aj hc2,aj hc3]⟩ (dL [(0,0),(1,1)]) ?_;rintro i ⟨hi,hr⟩;refine aJ ?_;intro u0;refine aE ?_;refine ll ?_;refine aA ?_;refine cI (fun hc4=>?_) fun hc4=>?_
 ·refine aJ ?_;refine ca i (hb:=fun _=>ae) ?_;refine b8 (v:=.str (ak a.pre 46)[i]!) (hi:=fun _=>ae) ?_;refine az ?_;refine ca i (hb:=fun _=>ae) ?_;refine b8 (v:=.str (ak b.pre 46)[i]!) (hi:=fun _=>ae) ?_;refine ai (hc:=h534 _ _) ?_;refine aH ?_;refine fA (fun hc5=>?_) fun hc5=>?_
  ·refine aY ?_;refine cS ?_;rw[hr,CJ ae hc5]
  refine bM ?_;exact⟨i+1,⟨⟨ae,ae⟩,by rw[hr,GB ae hc5]⟩,ae,(dL [(0,0),(1,1)])⟩
 refine aJ ?_;intro u1;refine az ?_;intro u2;refine ai (hc:=h532 _ _) ?_;refine aA ?_;refine cS ?_;rw[hr,CI ae]
def yw (T:List D->D->Prop):Prop:=∀(a:cY) (b:cY),(a.sm/\b.sm)->T [cY.D a,cY.D b] (.int .i64 (oZ a b))
def U7 (Y:Ctx):Prop:=yw (bt Y 295)
def DZ:aF:=⟨1,6,[⟨1,none⟩,⟨2,none⟩],fH,(sq (rg [gb 9 s0,gm cse,gm bq] [(3,0),(1,1),(2,2)]) (sq (sq (r1 [gk 9 true s3,gx 70 [l0] [[.a,.a,.a,.a,.a,.a,.sl 3 [.sl 4 [.a,.a,.sl 1 [.a],.a],.a,.a],.sl 3 [.a,.a,.a],.sl 2 [.a,.sl 1 [.a]]]],gm l1,ge l2 0,ge l2 1,gm l3,gm l4] 4 5) (sq (r1 [gm s4,b7 l0 bq] 5 1) (.cond s5 (sq (rg [gm s4,gm cse,gm l0] [(1,1),(2,2)]) .ret) .skip))) (sq (rg [gk 9 true s3,gx 215 [l0] [[.a,.a,.a,.a,.a,.a,.sl 3 [.sl 4 [.a,.a,.sl 1 [.a],.a],.a,.a],.sl 3 [.a,.a,.a],.sl 2 [.a,.sl 1 [.a]]]],gm l1,gm bq] [(1,2),(2,3)]) .ret)))⟩
def w72 {Y:Ctx}(hm:(Y.at 0).bd)(h70:C70 Y)(h215:U0 Y)(r:Rec)  (hp0:fo r):dj Y DZ (.tup [.str (c7 r).1,.int .i64 (c7 r).2]) [Rec.D r]:=by
 show bH _ _ _ [⟨_,_⟩,_,_,_,_,_] _;refine aq ?_;refine aY ?_;refine ai (hc:=h70 r hp0) ?_;refine fS ?_;refine cI (fun hc0=>?_) fun hc0=>?_
 ·refine aY ?_;refine bL (aM (ar D.str ?_) (ar (D.int .i64) ?_));all_goals
   simp[c7,hc0]
 refine az ?_;have hgd:=qN hc0;refine aD ?_;refine ai (hc:=h215 r ⟨hgd,hp0⟩) ?_;refine aE ?_;refine bL (aM (ar D.str ?_) (ar (D.int .i64) ?_));all_goals
  simp[c7,hc0]
def Er (T:List D->D->Prop):Prop:=∀(r:Rec),(fo r)->T [Rec.D r] (.tup [.str (c7 r).1,.int .i64 (c7 r).2])
def C72 (Y:Ctx):Prop:=Er (bt Y 72)
def Ir:aF:=⟨1,7,[⟨1,none⟩,⟨2,none⟩],fH,(sq (rg [gb 9 s0,gm (iu 0),gm bq] [(3,0),(1,1),(2,2)]) (sq (rg [gk 9 true s3,gx 72 [l0] [[.a,.a,.a,.a,.a,.a,.sl 3 [.sl 4 [.a,.a,.sl 1 [.a],.a],.a,.a],.sl 3 [.a,.a,.a],.sl 2 [.a,.sl 1 [.a]]]],gm l1,ge l2 0,ge l2 1,gm l3,gm l4] [(6,5),(4,6)]) (sq (sq (r1 [gm s4,b7 l0 bq] 5 1) (.cond s5 (sq (rg [gm s4,gm (iu 0),gm l0] [(1,1),(2,2)]) .ret) .skip)) (sq (rg [gm s6,gn (.s2b l0),gx 220 [l1] [[.sl 1 [.a]]],gm l2,gm bq] [(1,3),(2,4)]) .ret))))⟩
def w74 {Y:Ctx}(hm:(Y.at 0).bd)(h72:C72 Y)(h220:XJ Y)(r:Rec)  (hp0:fo r):dj Y Ir (.tup [.int .u64 (lV r),.int .i64 (c7 r).2]) [Rec.D r]:=by
 show bH _ _ _ [⟨_,_⟩,_,_,_,_,_,_] _;refine aq ?_;refine aH ?_;refine ai (hc:=h72 r hp0) ?_;refine fS ?_;refine cI (fun hc0=>?_) fun hc0=>?_
 ·refine aY ?_;refine bL (aM (ar (D.int .u64) ?_) (ar (D.int .i64) ?_));all_goals
   simp[lV,hc0]
 refine aE ?_;refine ai (hc:=h220 (c7 r).1) (ha:=fun _=>ar (fun d=>[d]) (oI (q:=fun b:UInt8=>D.int .u8 b.toNat) (fun _=>rfl) ah)) (hp:=fun _=>⟨mH (q:=fun b:UInt8=>D.int .u8 b.toNat) (fun _=>rfl) ah,trivial⟩) ?_;refine aE ?_;refine bL (aM (ar (D.int .u64) ?_) (ar (D.int .i64) ?_));all_goals
  simp[lV,hc0]
def Es (T:List D->D->Prop):Prop:=∀(r:Rec),(fo r)->T [Rec.D r] (.tup [.int .u64 (lV r),.int .i64 (c7 r).2])
def C74 (Y:Ctx):Prop:=Es (bt Y 74)
def NV:aF:=⟨2,5,[⟨2,none⟩],bQ,(sq (rg [gb 5 s0,gb 5 s1,gm dM] [(3,0),(4,1),(2,2)]) (sq (r1 [gk 5 true s3,gx 209 [l0] zF,gm l1,bY 2 (.ld 5 true s4),bY 2 (.call 209 [l3] zF),eL l2 l4,gm l5,bY 6 (.ld 5 true s3),bY 6 (.ld 5 true s4),bY 6 (.call 295 [l7,l8] [[.a,.a,.a,.a,.a],[.a,.a,.a,.a,.a]]),bY 6 (cQ l9 bq),eL l6 l10,gm gH] 2 12) .ret))⟩
def w701 {Y:Ctx}(hm:(Y.at 0).bd)(h209:Hj Y)(h295:U7 Y)(a:cY)(b:cY)  (hp0:a.sm/\b.sm):dj Y NV (.bool (DK a b)) [cY.D a,cY.D b]:=by
 show bH _ _ _ [⟨_,_⟩,⟨_,_⟩,_,_,_] _;refine aq ?_;refine aH ?_;refine ai (hc:=h209 a hp0.1) ?_;refine az ?_;refine dc (hc:=fun hf=>h209 b hp0.2) ?_;refine aE ?_;refine dc (hc:=fun hf=>h295 a b hp0) ?_;refine aJ ?_;exact bS rfl
def yS (T:List D->D->Prop):Prop:=∀(a:cY) (b:cY),(a.sm/\b.sm)->T [cY.D a,cY.D b] (.bool (DK a b))
def YO (Y:Ctx):Prop:=yS (bt Y 701)
def Bp:aF:=⟨3,5,[⟨3,none⟩],bQ,(sq (rg [gb 11 s0,gm dM] [(4,0),(3,1)]) (sq (r1 [gf 0 s4,gf 0 l0,gd l1,gd s1,aL l2 l3,gm l4,mL 5 0 s4,mL 5 1 l6,bY 5 (.ld 5 true l7),bY 5 (.ld 5 true s2),bY 5 (.call 701 [l8,l9] [[.a,.a,.a,.a,.a],[.a,.a,.a,.a,.a]]),eL l5 l10,gm gH] 3 12) .ret))⟩
def w700 {Y:Ctx}(hm:(Y.at 0).bd)(h701:YO Y)(x:dd)(nm:au)(v:cY)  (hp0:x.r.v.sm/\v.sm):dj Y Bp (.bool (Ft nm v x)) [dd.D x,.ref 1 [.str nm] 0 0,.ref 5 [cY.D v] 0 0]:=by
 show bH _ _ _ [⟨_,_⟩,⟨_,_⟩,⟨_,_⟩,_,_] _;refine aq ?_;refine aH ?_;refine bI (v:=.str x.r.name) ?_;refine fF (v:=.str nm) ?_;refine aE ?_;refine bI (v:=cY.D x.r.v) ?_;refine fF (v:=cY.D v) ?_;refine dc (hc:=fun hf=>h701 x.r.v v hp0) ?_;refine aE ?_;exact bS rfl
def LD (T:List D->D->Prop):Prop:=∀(x:dd) (nm:au) (v:cY),(x.r.v.sm/\v.sm)->T [dd.D x,.ref 1 [.str nm] 0 0,.ref 5 [cY.D v] 0 0] (.bool (Ft nm v x))
def YN (Y:Ctx):Prop:=LD (bt Y 700)
def qe:aF:=⟨2,8,[⟨2,none⟩],bQ,(sq (r1 [gm bq] 2 0) (sq (sq (rg [gm s0,gl l0,gm bq] [(4,1),(3,2)]) (.block 0 (.loop (sq (r1 [aS s3 s4] 5 0) (sq (fB s5 0) (sq (.block 1 (sq (r1 [gm s3,gm l0] 6 1) (sq (r1 [gm s1,gm s0,gm s6,ga 11 l1 l2,gk 11 true l3,gn (.callv l0 [l4] [[.a,.a,.a,.a,.a,.a,.sl 3 [.sl 4 [.a,.a,.sl 1 [.a],.a],.a,.a],.sl 3 [.a,.a,.a],.sl 2 [.a,.sl 1 [.a]],.a,.a]])] 7 5) (.cond s7 (sq (r1 [gm s6,gm l0] 2 1) .ret) .skip)))) (r1 [aw s3 bX,gm l0] 3 1))))))) (sq (r1 [gn (.mv (.c (.int .i64 (-1))))] 2 0) .ret)))⟩
def w699 {Y:Ctx}(hm:(Y.at 0).bd)(h700:YN Y)(l:List dd)(nm:au)(v:cY)  (hp0:(∀x∈l,x.r.v.sm)/\v.sm):dj Y qe (.int .i64 (sJ l nm v 0)) [.sl 11 (l.map dd.D),.fn 700 [.ref 1 [.str nm] 0 0,.ref 5 [cY.D v] 0 0]]:=by
 show bH _ _ _ [⟨_,_⟩,⟨_,_⟩,_,_,_,_,_,_] _;refine aq ?_;refine aH ?_;intro u0;refine az ?_;refine bh hm (ι:=Nat) (fun i=>[⟨true,.sl 11 (l.map dd.D)⟩,⟨true,.fn 700 [.ref 1 [.str nm] 0 0,.ref 5 [cY.D v] 0 0]⟩,.un,⟨true,.int .i64 (i:Nat)⟩,⟨true,.int .i64 (l.length:Nat)⟩,.un,.un,.un]) (fun i=>[]) 4 (fun i=>i<=l.length/\sJ l nm v 0=sJ l nm v i) (fun i=>l.length-i) 0 ⟨ae,rfl⟩ (dL []) ?_;rintro i ⟨hi,hr⟩;refine aA ?_;refine cI (fun hc0=>?_) fun hc0=>?_
 ·refine fS ?_;first|refine b8 (v:=(dd.D _)) ?_|refine fF (v:=(dd.D _)) ?_
  refine TF (hc:=fun _=>h700 l[i]! nm v ⟨hp0.1 _ (bA ae),hp0.2⟩) ?_;refine aD ?_;refine fA (fun hc1=>?_) fun hc1=>?_
  ·refine aY ?_;refine cS ?_;rw[hr,QJ ae hc1]
  refine aY ?_;exact⟨i+1,⟨ae,by rw[hr,QL ae hc1]⟩,ae,(dL [])⟩
 refine aH ?_;refine cS ?_;rw[hr,J0 ae]
def LC (T:List D->D->Prop):Prop:=∀(l:List dd) (nm:au) (v:cY),((∀x∈l,x.r.v.sm)/\v.sm)->T [.sl 11 (l.map dd.D),.fn 700 [.ref 1 [.str nm] 0 0,.ref 5 [cY.D v] 0 0]] (.int .i64 (sJ l nm v 0))
def YM (Y:Ctx):Prop:=LC (bt Y 699)
def Gw:aF:=⟨3,6,[⟨3,none⟩],bQ,(sq (rg [gb 1 s1,gb 5 s2,gm bq] [(4,0),(5,1),(3,2)]) (sq (r1 [gm s0,gn (.mkf 700 [s4,s5]),gx 699 [l0,l1] [[.sl 11 [.a,.a,.a,.a,.a,.a,.sl 3 [.sl 4 [.a,.a,.sl 1 [.a],.a],.a,.a],.sl 3 [.a,.a,.a],.sl 2 [.a,.sl 1 [.a]],.a,.a]],[.a]],gm l2] 3 3) .ret))⟩
def w511 {Y:Ctx}(hm:(Y.at 0).bd)(h699:YM Y)(l:List dd)(nm:au)(v:cY)  (hp0:(∀x∈l,x.r.v.sm)/\v.sm):dj Y Gw (.int .i64 (sJ l nm v 0)) [.sl 11 (l.map dd.D),.str nm,cY.D v]:=by
 show bH _ _ _ [⟨_,_⟩,⟨_,_⟩,⟨_,_⟩,_,_,_] _;refine aq ?_;refine aE ?_;refine ff 0 ?_;refine ff 1 ?_;refine az ?_;refine UL [.ref 1 [.str nm] 0 0,.ref 5 [cY.D v] 0 0] ?_;refine ai (hc:=h699 l nm v hp0) ?_;refine aA ?_;exact cS rfl
def yF (T:List D->D->Prop):Prop:=∀(l:List dd) (nm:au) (v:cY),((∀x∈l,x.r.v.sm)/\v.sm)->T [.sl 11 (l.map dd.D),.str nm,cY.D v] (.int .i64 (sJ l nm v 0))
def Yu (Y:Ctx):Prop:=yF (bt Y 511)
def NU:aF:=⟨1,13,gV,bQ,(sq (rg [gb 2 s0,gm dM] [(2,0),(1,1)]) (sq (sq (r1 [gf 0 s2,gd l0,gx 208 [l1] bQ,jU l2,gm l3,j5 4 1 s2,lF 4 l5,cD 4 (.len l6),cD 4 (et l7 (i6 64)),fE l4 l8] 3 9) (mI s3 dM)) (sq (sq (rg [gf 1 s2,gd l0,gl l1,gm bq] [(7,1),(5,2),(4,3)]) (.block 0 (.loop (sq (r1 [aS s4 s5] 6 0) (sq (fB s6 0) (sq (.block 1 (sq (rg [gm s4,ga 11 s7 s4,gk 11 true l1,gb 11 (.c (.agg [.str [],.int .i64 0,.int .i64 0,.int .i64 0,.str [],.str [],.aC,.aC,.aC,.int .u64 0,.bool false])),gm l0,gt 11 l3 l2] [(8,3),(11,4)]) (sq (rg [gf 0 s8,gk 9 true l0,gx 74 [l1] [[.a,.a,.a,.a,.a,.a,.sl 3 [.sl 4 [.a,.a,.sl 1 [.a],.a],.a,.a],.sl 3 [.a,.a,.a],.sl 2 [.a,.sl 1 [.a]]]],gm l2,ge l3 0,ge l3 1,gm l4,gm l5] [(10,6),(9,7)]) (sq (r2 [gm s9,b7 l0 bq,gm l1,eP 2 jf,j5 2 9 s8,lF 2 l4,cD 2 (eX l3 l5),fE l2 l6,gm l7,j5 8 1 s2,lF 8 l9,eP 8 k9,eP 8 k9,cD 8 (.slX 11 l10 gH jm),j5 8 0 s8,j5 8 0 lg,lF 8 mM,j5 8 0 s8,j5 8 1 rl,cD 8 (.ld 5 true sX),cD 8 (.call 511 [jV,og,uh] [[.sl 11 [.a,.a,.a,.a,.a,.a,.sl 3 [.sl 4 [.a,.a,.sl 1 [.a],.a],.a,.a],.sl 3 [.a,.a,.a],.sl 2 [.a,.sl 1 [.a]],.a,.a]],[.a],[.a,.a,.a,.a,.a]]),cD 8 (sT zJ bq),fE l8 Bf] 12 22) (mI lv dM))))) (r1 [aw s4 bX,gm l0] 4 1))))))) (xx qx))))⟩
def w353 {Y:Ctx}(hm:(Y.at 0).bd)(h74:C74 Y)(h208:LW Y)(h511:Yu Y)(s:fV)  (hp0:∀x∈s.es,fo x.r):dj Y NU (.bool (iT s)) [fV.D s]:=by
 show bH _ _ _ [⟨_,_⟩,_,_,_,_,_,_,_,_,_,_,_,_] _;refine aq ?_;refine aH ?_;refine bI (v:=.str s.name) ?_;refine ai (hc:=h208 _) ?_;refine aA ?_;refine bI (v:=.sl 11 (s.es.map dd.D)) ?_;refine ll ?_;refine aA ?_;refine av (fun hc0=>?_) (fun hc0=>?_)
 ·simp only[dh,bE,aW]at hc0;have hf:iT s=false:=by
   unfold iT;rcases hc0 with h|h
   ·rw[h];rfl
   ·rw[show decide (s.es.length<=64)=false from dk ae];simp
  refine aJ ?_;refine bS ?_;exact hf.symm
 simp only[dW,b6,bD]at hc0;have hq:iT s=cV (om s.es) 0 s.es.length:=by unfold iT;rw[hc0.1,cz (show s.es.length<=64 by omega)];simp
 refine aE ?_;refine bI (v:=.sl 11 (s.es.map dd.D)) ?_;refine aD ?_;intro u0;refine az ?_;refine bh hm (ι:=Nat) (fun i=>[.un,.un,⟨true,.ptr 0 2 0 0⟩,.un,⟨true,.int .i64 (i:Nat)⟩,⟨true,.int .i64 (s.es.length:Nat)⟩,.un,⟨true,.sl 11 (s.es.map dd.D)⟩,.un,.un,.un,.un,.un]) (fun i=>[(0,.buf 2 [fV.D s])]) 16 (fun i=>i<=s.es.length/\iT s=cV (om s.es) i s.es.length) (fun i=>s.es.length-i) 0 ⟨ae,hq⟩ (dL [(0,0)]) ?_;rintro i ⟨hi,hr⟩;refine aA ?_;refine cI (fun hc1=>?_) fun hc1=>?_
 ·refine aA ?_;have hsm:=hp0 _ (bA (show i<s.es.length by omega));refine aD ?_;refine ca i ?_;refine b8 (v:=dd.D s.es[i]!) ?_;refine az ?_;refine aU (dd.D s.es[i]!) (he:=bj) ?_;refine aA ?_;refine bI (v:=Rec.D s.es[i]!.r) ?_;refine ai (hc:=h74 s.es[i]!.r hsm) ?_;refine gG ?_;refine bI (v:=.int .u64 s.es[i]!.sum) ?_;refine aE ?_;refine bI (v:=.sl 11 (s.es.map dd.D)) ?_;refine az ?_;refine W5 (q:=dd.D) i (hj:=fun _=>rfl) (hb:=fun _=>ae) ?_;refine az ?_;refine bI (v:=.str s.es[i]!.r.name) ?_;refine az ?_;refine bI (v:=cY.D s.es[i]!.r.v) ?_;refine dc (hc:=fun hf=>h511 (s.es.take i) s.es[i]!.r.name s.es[i]!.r.v ⟨fun x hx=>(hp0 x (lY hx)).1.2,hsm.1.2⟩) ?_;refine aA ?_;refine wp_cond (fun hc2=>?_) (fun hc2=>?_)
  ·have hen:om s.es i=false:=by
    unfold om;simp only[dh,bE,aW,bD]at hc2;simp only[dT,bD];rcases hc2 with(h|h)|h
    ·exact .inl (.inl h)
    ·exact .inl (.inr h)
    ·exact .inr ae
   refine aH ?_;refine bS ?_;rw[hr,aV ae,hen];rfl
  have hen:om s.es i=true:=by
   unfold om;simp only[dW,b6,aW,bD]at hc2;simp only[bw,aW];exact⟨hc2.1,ae⟩
  refine aY ?_;exact⟨i+1,⟨ae,by rw[hr,aV ae,hen];rfl⟩,ae,(dL [(0,0)])⟩
 refine aH ?_;refine bS ?_;rw[hr,cr ae]
def yy (T:List D->D->Prop):Prop:=∀(s:fV),(∀x∈s.es,fo x.r)->T [fV.D s] (.bool (iT s))
def XZ (Y:Ctx):Prop:=yy (bt Y 353)
def ua:aF:=⟨2,3,[⟨2,none⟩],[[.sl 1 [.a]]],(sq (r1 [gm (.c (.aC))] 2 0) (sq (r1 [gm s0,gm s1,gm s1,pM l2,gn (.call 331 [l0,l1,l3,(.c (.int .i64 (-1)))] hb4),gm l4] 2 5) .ret))⟩
def w239 {Y:Ctx}(hm:(Y.at 0).bd)(h331:XX Y)(s:au)  (hp0:s.length<=1048576):dj Y ua (.sl 1 ((jo s).map D.str)) [.str s,.str [10]]:=by
 show bH _ _ _ [⟨_,_⟩,⟨_,_⟩,_] _;refine aq ?_;refine aY ?_;intro u0;refine ai (hc:=h331 s hp0) ?_;refine aA ?_;refine bL (?_);rfl
def KM (T:List D->D->Prop):Prop:=∀(s:au),(s.length<=1048576)->T [.str s,.str [10]] (.sl 1 ((jo s).map D.str))
def XO (Y:Ctx):Prop:=KM (bt Y 239)
def Fq:aF:=⟨1,4,gV,[[.sl 1 [.a]]],(sq (r1 [gm (.c (.aC))] 1 0) (sq (r1 [gm s0,gx 239 [l0,(cs [10])] fH,gm l1] 2 2) (sq (sq (r1 [gm s2,gm s2,gl l1,ed l2 bX,ga 1 l0 l3,gd l4,aL l5 cse] 3 6) (.cond s3 (r1 [gm s2,gm s2,gl l1,ed l2 bX,gn (.slA 1 l0 none (some l3)),gm l4] 2 5) .skip)) (sq (r1 [gm s2,gm l0] 1 1) .ret))))⟩
def w252 {Y:Ctx}(hm:(Y.at 0).bd)(h239:XO Y)(s:au)  (hp0:s.length<=1048576):dj Y Fq (.sl 1 ((cw s).map D.str)) [.str s]:=by
 show bH _ _ _ [⟨_,_⟩,_,_,_] _;have hpl:=QF s;have hpz:cw s=if(jo s)[(jo s).length-1]! =[]then(jo s).take ((jo s).length-1)else jo s:=QG s
 refine aq ?_;refine aE ?_;refine ai (hc:=h239 s hp0) ?_;refine aY ?_;intro u0;refine aD ?_;refine ca ((jo s).length-1) ?_;refine b8 (v:=.str (jo s)[(jo s).length-1]!) ?_;refine az ?_;refine cI (fun hc0=>?_) fun hc0=>?_
 ·refine aE ?_;intro u1;refine aD ?_;refine pB ((jo s).length-1) ?_;refine aY ?_;refine bL (?_);rw[hpz,ax hc0];rfl
 refine aH ?_;refine bL (?_);rw[hpz,aj hc0];rfl
def KT (T:List D->D->Prop):Prop:=∀(s:au),(s.length<=1048576)->T [.str s] (.sl 1 ((cw s).map D.str))
def XS (Y:Ctx):Prop:=KT (bt Y 252)
def Fs:aF:=⟨1,3,[⟨1,none⟩,⟨2,none⟩],fH,(sq (rg [gm cse,gm dM] [(1,0),(2,1)]) (sq (rg [gm s0,gx 244 [l0,(cs [10])] fH,ge l1 0,ge l1 1,gm l2,gm l3] [(1,4),(2,5)]) .ret))⟩
def w253 {Y:Ctx}(hm:(Y.at 0).bd)(h244:XP Y)(s:au)  (hp0:s.length<=1048576):dj Y Fs (.tup [.str (bF s).1,.bool (bF s).2]) [.str s]:=by
 show bH _ _ _ [⟨_,_⟩,_,_] _;refine aq ?_;refine aJ ?_;refine ai (hc:=h244 s hp0) ?_;refine aH ?_;refine bL (aM (ar D.str ?_) (ar D.bool ?_));all_goals rfl
def KU (T:List D->D->Prop):Prop:=∀(s:au),(s.length<=1048576)->T [.str s] (.tup [.str (bF s).1,.bool (bF s).2])
def R9 (Y:Ctx):Prop:=KU (bt Y 253)
def index_first:aF:=⟨1,3,gV,bQ,(sq (r1 [gm dM] 1 0) (sq (r1 [gm s0,gx 253 [l0] bQ,gm l1,ge l2 0,ge l2 1,gm l3,gm l4] 2 5) (sq (r1 [gm s2,gx 487 [l0,(cs [32])] fH,gm l1,ge l2 0,ge l2 1,ge l2 2,gm l3] 2 6) (sq (r1 [gm s2,aL l0 (cs [101,110,116,114,121]),gm l1] 1 2) .ret))))⟩
def w256 {Y:Ctx}(hm:(Y.at 0).bd)(h253:R9 Y)(h487:Vg Y)(s:au)  (hp0:s.length<=1048576):dj Y index_first (.bool (vG s)) [.str s]:=by
 show bH _ _ _ [⟨_,_⟩,_,_] _;refine aq ?_;refine aE ?_;refine ai (hc:=h253 s hp0) ?_;refine aY ?_;have hwl:=qj s;refine aD ?_;refine ai (hc:=h487 (bF s).1 32 ae) ?_;refine gG ?_;exact bS rfl
def KX (T:List D->D->Prop):Prop:=∀(s:au),(s.length<=1048576)->T [.str s] (.bool (vG s))
def XU (Y:Ctx):Prop:=KX (bt Y 256)
def Fp:aF:=⟨1,9,[⟨1,none⟩,⟨2,none⟩,⟨3,none⟩],R5,(sq (rg [gm (iu 0),gm dM,gm dM] [(1,0),(2,1),(3,2)]) (sq (rg [gm s0,gx 253 [l0] bQ,gm l1,ge l2 0,ge l2 1,gm l3,gm l4] [(4,5),(5,6)]) (sq (r1 [gm s4,gx 124 [l0,(cs [32])] fH,gm l1] 6 2) (sq (sq (r1 [gm s5,jU l0,gm l1,eP 2 s6,cD 2 (.len l3),cD 2 (eX l4 kn),fE l2 l5,gm l6,eP 7 s6,cD 7 (.ia 1 l8 bq),lF 7 l9,cD 7 (eX l10 (cs [101,110,116,114,121])),fE l7 gH,gm jm,eP 13 s6,cD 13 (.ia 1 lg kl),lF 13 mM,cD 13 (eX og (cs [111,110])),eP 13 rl,gmt 18 s6,bY 18 (.ia 1 uh kl),lr 18 zJ,bY 18 (eX Bf (cs [111,102,102])),BW 13 sX Ey,fE jV JF] 7 24) (.cond s7 (sq (rg [gm (iu 0),gm dM,gm dM] [(1,0),(2,1),(3,2)]) .ret) .skip)) (sq (rg [gm s6,ga 1 l0 bX,gd l1,gx 499 [l2] bQ,gm l3,ge l4 0,ge l4 1,gm l5,gm l6] [(8,7),(5,8)]) (sq (rt [gm s8,gm s6,ga 1 l1 kl,gd l2,aL l3 (cs [111,102,102]),gm s5,gm l0,gm l4,gm l5] [(1,6),(2,7),(3,8)]) .ret))))))⟩
def w255 {Y:Ctx}(hm:(Y.at 0).bd)(h124:LV Y)(h253:R9 Y)(h499:Ys Y)(s:au)  (hp0:s.length<=1048576):dj Y Fp (.tup [.int .u64 (iF s).1,.bool (iF s).2.1,.bool (iF s).2.2]) [.str s]:=by
 show bH _ _ _ [⟨_,_⟩,_,_,_,_,_,_,_,_] _;refine aq ?_;refine aH ?_;refine ai (hc:=h253 s hp0) ?_;refine aY ?_;have hwl:=qj s;refine aD ?_;refine ai (v:=.sl 1 ((ak (bF s).1 32).map D.str)) (hc:=h124 (bF s).1 32 ae) ?_;refine bM ?_;refine ll ?_;refine aE ?_;refine ca 0 (hb:=fun hf=>by simp at hf;omega) ?_;refine b8 (v:=.str (ak (bF s).1 32)[0]!) (hi:=fun hf=>by simp at hf;omega) ?_;refine aE ?_;refine ca 2 (hb:=fun hf=>by simp at hf;omega) ?_;refine b8 (v:=.str (ak (bF s).1 32)[2]!) (hi:=fun hf=>by simp at hf;omega) ?_;refine aA ?_;refine ca 2 (hb:=fun hf=>by simp at hf;omega) ?_;refine b8 (v:=.str (ak (bF s).1 32)[2]!) (hi:=fun hf=>by simp at hf;omega) ?_;refine aE ?_;refine av (fun hc0=>?_) (fun hc0=>?_)
 ·simp only[eE]at hc0;have hz:=Wc hc0;refine aY ?_;refine bL (eW (ar (D.int .u64) ?_) (ar D.bool ?_) (ar D.bool ?_));all_goals
   rw[iF,aj hz];first|done|rfl
 simp only[eE]at hc0;obtain⟨hz,hl3⟩:=SJ hc0;refine aA ?_;refine ca 1 (hb:=fun _=>ae) ?_;refine b8 (v:=.str (ak (bF s).1 32)[1]!) (hi:=fun _=>ae) ?_;refine ai (hc:=h499 (ak (bF s).1 32)[1]!) ?_;refine cW ?_;refine ca 2 (hb:=fun _=>ae) ?_;refine b8 (v:=.str (ak (bF s).1 32)[2]!) (hi:=fun _=>ae) ?_;refine aY ?_;refine bL (eW (ar (D.int .u64) ?_) (ar D.bool ?_) (ar D.bool ?_));all_goals
  rw[iF,ax hz];first|done|rfl
def KW (T:List D->D->Prop):Prop:=∀(s:au),(s.length<=1048576)->T [.str s] (.tup [.int .u64 (iF s).1,.bool (iF s).2.1,.bool (iF s).2.2])
def XT (Y:Ctx):Prop:=KW (bt Y 255)
def HV:aF:=⟨3,15,[⟨3,none⟩],bQ,(sq (rg [gb 2 s0,gb 9 s1,gm bq] [(7,0),(4,1),(3,2)]) (sq (sq (r1 [gk 9 true s4,gx 74 [l0] [[.a,.a,.a,.a,.a,.a,.sl 3 [.sl 4 [.a,.a,.sl 1 [.a],.a],.a,.a],.sl 3 [.a,.a,.a],.sl 2 [.a,.sl 1 [.a]]]],gm l1,ge l2 0,ge l2 1,gm l3,gm l4] 5 5) (sq (r1 [gm s5,gm s2,b7 l0 l1] 6 2) (.cond s6 (sq (r1 [gm (i6 13)] 3 0) .ret) .skip))) (sq (sq (rg [gf 1 s7,gd l0,gl l1,gm bq] [(11,1),(9,2),(8,3)]) (.block 0 (.loop (sq (r1 [aS s8 s9] 10 0) (sq (fB jf 0) (sq (.block 1 (sq (r1 [ga 11 k9 s8,gk 11 true l0,gb 11 (.c (.agg [.str [],.int .i64 0,.int .i64 0,.int .i64 0,.str [],.str [],.aC,.aC,.aC,.int .u64 0,.bool false])),gt 11 l2 l1] 12 2) (sq (r1 [gf 0 lv,gf 0 l0,gd l1,gf 0 s4,gd l3,aL l2 l4,gm l5,mL 6 0 lv,mL 6 1 l7,bY 6 (.ld 5 true l8),mL 6 1 s4,bY 6 (.ld 5 true l10),bY 6 (.call 295 [l9,gH] [[.a,.a,.a,.a,.a],[.a,.a,.a,.a,.a]]),bY 6 (cQ jm bq),eL l6 jV] 13 14) (.cond qG (sq (r1 [gm Fj] 3 0) .ret) .skip)))) (r1 [aw s8 bX,gm l0] 8 1))))))) (sq (sq (r1 [gf 1 s7,gd l0,gl l1,fY l2 (i6 64)] 14 3) (.cond rN (sq (r1 [gm (i6 10)] 3 0) .ret) .skip)) (sq (r1 [gm bq] 3 0) .ret)))))⟩
def w257 {Y:Ctx}(hm:(Y.at 0).bd)(h74:C74 Y)(h295:U7 Y)(s:fV)(r:Rec)(n:Int)  (hp0:fo r/\∀x∈s.es,x.r.v.sm):dj Y HV (.int .i64 (kE s.es r n)) [fV.D s,Rec.D r,.int .u64 n]:=by
 show bH _ _ _ [⟨_,_⟩,⟨_,_⟩,⟨_,_⟩,_,_,_,_,_,_,_,_,_,_,_,_] _;refine aq ?_;refine aH ?_;refine cJ (d:=Rec.D r) ?_;refine ai (hc:=h74 r hp0.1) ?_;refine gG ?_;refine av (fun hc0=>?_) (fun hc0=>?_)
 ·simp only[bE,bD]at hc0;refine aJ ?_;refine cS ?_;unfold kE;rw[ax hc0]
 simp only[b6,aW]at hc0;refine aE ?_;refine bI (v:=.sl 11 (s.es.map dd.D)) ?_;refine aD ?_;intro u0;refine az ?_;refine bh hm (ι:=Nat) (fun i=>[.un,.un,.un,.un,⟨true,.ptr 1 9 0 0⟩,.un,.un,⟨true,.ptr 0 2 0 0⟩,⟨true,.int .i64 (i:Nat)⟩,⟨true,.int .i64 (s.es.length:Nat)⟩,.un,⟨true,.sl 11 (s.es.map dd.D)⟩,.un,.un,.un]) (fun i=>[(0,.buf 2 [fV.D s]),(1,.buf 9 [Rec.D r])]) 17 (fun i=>i<=s.es.length/\wB s.es r=(s.es.drop i).any (twC r)) (fun i=>s.es.length-i) 0 ⟨ae,rfl⟩ (dL [(0,0),(1,1)]) ?_;rintro i ⟨hi,hr⟩;refine aA ?_;refine cI (fun hc1=>?_) fun hc1=>?_
 ·refine aA ?_;refine ca i ?_;refine b8 (v:=dd.D s.es[i]!) ?_;refine aD ?_;refine aU (dd.D s.es[i]!) (he:=bj) ?_;refine aE ?_;refine bI (v:=.str s.es[i]!.r.name) ?_;refine aD ?_;refine bI (v:=.str r.name) ?_;refine aE ?_;refine bI (v:=cY.D s.es[i]!.r.v) ?_;refine aD ?_;refine bI (v:=cY.D r.v) ?_;refine dc (hc:=fun hf=>h295 s.es[i]!.r.v r.v ⟨hp0.2 _ (bA ae),hp0.1.1.2⟩) ?_;refine aA ?_;refine wp_cond (fun hc2=>?_) (fun hc2=>?_)
  ·have htw:twC r s.es[i]! =true:=by unfold twC;simpa using hc2
   refine aH ?_;refine cS ?_;have htz:wB s.es r=true:=by rw[hr,xT ae htw]
   unfold kE;rw[aj (fun h=>h hc0),ax htz]
  have htw:twC r s.es[i]! =false:=by unfold twC;simpa using hc2
  refine aY ?_;exact⟨i+1,⟨ae,by rw[hr,C2 ae htw]⟩,ae,(dL [(0,0),(1,1)])⟩
 refine aE ?_;have htz:wB s.es r=false:=by rw[hr,xS ae]
 refine aD ?_;refine bI (v:=.sl 11 (s.es.map dd.D)) ?_;refine aD ?_;intro u1;refine az ?_;refine cI (fun hc3=>?_) fun hc3=>?_
 ·refine aJ ?_;refine cS ?_;unfold kE;rw[aj (fun h=>h hc0),aj (by simp[htz]),ax ae]
 refine aJ ?_;refine cS ?_;unfold kE;rw[aj (fun h=>h hc0),aj (by simp[htz]),aj ae]
def KY (T:List D->D->Prop):Prop:=∀(s:fV) (r:Rec) (n:Int),(fo r/\∀x∈s.es,x.r.v.sm)->T [fV.D s,Rec.D r,.int .u64 n] (.int .i64 (kE s.es r n))
def XV (Y:Ctx):Prop:=KY (bt Y 257)
def Fo:aF:=⟨1,14,[⟨1,none⟩,⟨2,none⟩],fH,(sq (rg [gb 2 s0,gm cse,gm bq] [(3,0),(1,1),(2,2)]) (sq (sq (r1 [gk 2 true s3,gx 353 [l0] [[.a,.sl 11 [.a,.a,.a,.a,.a,.a,.sl 3 [.sl 4 [.a,.a,.a,.a],.a,.a],.sl 3 [.a,.a,.a],.sl 2 [.a,.sl 1 [.a]],.a,.a]]],jU l1] 4 2) (.cond s4 (sq (rg [gm cse,gm bX] [(1,0),(2,1)]) .ret) .skip)) (sq (r1 [⟨.mkB,none⟩] 5 0) (sq (rg [gf 0 s3,gd l0,aw (cs [115,104,101,108,102,32]) l1,aw l2 (cs [10]),gn (.callM 489 [s5,l3])] []) (sq (sq (rg [gf 1 s3,gd l0,gl l1,gm bq] [(9,1),(7,2),(6,3)]) (.block 0 (.loop (sq (r1 [aS s6 s7] 8 0) (sq (fB s8 0) (sq (.block 1 (sq (r1 [ga 11 s9 s6,gk 11 true l0,gb 11 (.c (.agg [.str [],.int .i64 0,.int .i64 0,.int .i64 0,.str [],.str [],.aC,.aC,.aC,.int .u64 0,.bool false])),gt 11 l2 l1] 10 2) (sq (r1 [gm (cs [32,111,110,10])] 12 0) (sq (sq (r1 [gf 10 jf,gd l0] 11 1) (.cond k9 (r1 [gm (cs [32,111,102,102,10])] 12 0) .skip)) (sq (r1 [gf 0 jf,gk 9 true l0,gx 72 [l1] [[.a,.a,.a,.a,.a,.a,.sl 3 [.sl 4 [.a,.a,.sl 1 [.a],.a],.a,.a],.sl 3 [.a,.a,.a],.sl 2 [.a,.sl 1 [.a]]]],gm l2,ge l3 0,ge l3 1,gm l4,gm l5] 13 6) (rg [gf 9 jf,gd l0,gx 497 [l1] bQ,aw (cs [101,110,116,114,121,32]) l2,gm lv,aw l3 l4,gm qG,aw l5 l6,gn (.callM 489 [s5,l7])] [])))))) (r1 [aw s6 bX,gm l0] 6 1))))))) (sq (rg [gn (.callM 452 [s5]),gm l0,gm bq] [(1,1),(2,2)]) .ret))))))⟩
def w251 {Y:Ctx}(hm:(Y.at 0).bd)(h72:C72 Y)(h353:XZ Y)(h452:Sa Y)(h489:Sg Y)(h497:Yr Y)(s:fV)  (hp0:∀x∈s.es,fo x.r):dj Y Fo (.tup [.str (lP s).1,.int .i64 (lP s).2]) [fV.D s]:=by
 show bH _ _ _ [⟨_,_⟩,_,_,_,_,_,_,_,_,_,_,_,_,_] _;refine aq ?_;refine aH ?_;refine cJ (d:=fV.D s) ?_;refine ai (hc:=h353 s hp0) ?_;refine az ?_;refine av (fun hc0=>?_) (fun hc0=>?_)
 ·simp only[bE]at hc0;refine aH ?_;refine bL (aM (ar D.str ?_) (ar (D.int .i64) ?_));all_goals
   have hps:lP s=([],1):=by unfold lP;rw[ax hc0]
   rw[hps];first|done|rfl
 simp only[b6]at hc0;obtain⟨q1,q2⟩:=Kl hc0;refine aH ?_;refine bI (v:=.str s.name) ?_;refine c8 (hb:=fun _=>by simp only[ay,aB];omega) ?_;refine fR ?_;refine cy (nx':=8) (v:=.any) (m':=[(11,.row (vj s 0)),(0,.buf 2 [fV.D s]),(6,.bld (some 11) (vj s 0).length true)]) (hc:=fun K' hK=>h489 _ _ K' ⟨([115,104,101,108,102,32]++s.name)++[10],6,[],rfl,.inl ⟨false,bj,rfl⟩,by simp only[ay,aB];omega,aT,by simp only[bG,ay,aB];omega,by rw[show []++(([115,104,101,108,102,32]++s.name)++[10])=vj s 0 from by rw[UP];rfl];exact hK⟩) (hn:=aG) ?_;refine aE ?_;refine bI (v:=.sl 11 (s.es.map dd.D)) ?_;refine aD ?_;intro u0;refine az ?_;refine bh hm (ι:=Nat) (fun i=>[.un,.un,.un,⟨true,.ptr 0 2 0 0⟩,.un,⟨true,.ptr 6 2 0 0⟩,⟨true,.int .i64 (i:Nat)⟩,⟨true,.int .i64 (s.es.length:Nat)⟩,.un,⟨true,.sl 11 (s.es.map dd.D)⟩,.un,.un,.un,.un]) (fun i=>[(0,.buf 2 [fV.D s]),(6,.bld (some 7) (vj s i).length true),(7,.row (vj s i))]) 20 (fun i=>i<=s.es.length) (fun i=>s.es.length-i) 0 ae (aZ.to [(0,0),(6,6),(11,7)] ah ah eg (by refine aO.dY ah ah ah ?_;refine aO.bl 6 ah ah ah (ar List.length (rfl)) rfl ?_;refine aO.rw 11 ah ah (rfl) ?_;exact aO.nil)) ?_;intro i hi;have q3:=Eh (s:=s) ae hi;refine aA ?_;refine cI (fun hc1=>?_) fun hc1=>?_
 ·refine aA ?_;have hsm:=hp0 _ (bA (show i<s.es.length by omega));have q4:=Ai s.es[i]!.r;have q5:=gu s.es[i]!.sum;have hxt:=GM (show i<s.es.length by omega);have hee:=Dh s.es[i]!;refine ca i ?_;refine b8 (v:=dd.D s.es[i]!) ?_;refine aD ?_;refine aU (dd.D s.es[i]!) (he:=bj) ?_;refine aY ?_;refine bI (v:=.bool s.es[i]!.off) ?_;refine aD ?_;refine cI (fun hc2=>?_) fun hc2=>?_
  ·refine aJ ?_;refine bI (v:=Rec.D s.es[i]!.r) ?_;refine ai (hc:=h72 s.es[i]!.r hsm) ?_;refine bM ?_;refine bI (v:=.int .u64 s.es[i]!.sum) ?_;refine ai (hc:=h497 _) ?_;refine fR ?_;refine aD ?_;refine fR ?_;refine aD ?_;refine fR ?_;refine cy (nx':=38) (v:=.any) (m':=[(45,.row (vj s (i+1))),(0,.buf 2 [fV.D s]),(6,.bld (some 45) (vj s (i+1)).length true),(23,.buf 11 [dd.D s.es[i]!])]) (hc:=fun K' hK=>h489 _ _ K' ⟨(([101,110,116,114,121,32]++ei s.es[i]!.sum)++[32,111,102,102,10])++(c7 s.es[i]!.r).1,6,vj s i,rfl,.inr ⟨7,true,bj,bj⟩,by simp only[ay,aB];omega,aT,by simp only[bG,ay,aB];omega,by rw[show vj s i++((([101,110,116,114,121,32]++ei s.es[i]!.sum)++[32,111,102,102,10])++(c7 s.es[i]!.r).1)=vj s (i+1)from by rw[hxt,hee,hc2];rfl];exact hK⟩) (hn:=aG) ?_;refine aY ?_;exact⟨i+1,ae,ae,(aZ.to [(0,0),(6,6),(45,7)] ah ah eg (by refine aO.dY ah ah ah ?_;refine aO.bl 6 ah ah ah (ar List.length (rfl)) rfl ?_;refine aO.rw 45 ah ah (rfl) ?_;exact aO.nil))⟩
  refine aA ?_;refine bI (v:=Rec.D s.es[i]!.r) ?_;refine ai (hc:=h72 s.es[i]!.r hsm) ?_;refine bM ?_;refine bI (v:=.int .u64 s.es[i]!.sum) ?_;refine ai (hc:=h497 _) ?_;refine fR ?_;refine aD ?_;refine fR ?_;refine aD ?_;refine fR ?_;refine cy (nx':=37) (v:=.any) (m':=[(44,.row (vj s (i+1))),(0,.buf 2 [fV.D s]),(6,.bld (some 44) (vj s (i+1)).length true),(23,.buf 11 [dd.D s.es[i]!])]) (hc:=fun K' hK=>h489 _ _ K' ⟨(([101,110,116,114,121,32]++ei s.es[i]!.sum)++[32,111,110,10])++(c7 s.es[i]!.r).1,6,vj s i,rfl,.inr ⟨7,true,bj,bj⟩,by simp only[ay,aB];omega,aT,by simp only[bG,ay,aB];omega,by rw[show vj s i++((([101,110,116,114,121,32]++ei s.es[i]!.sum)++[32,111,110,10])++(c7 s.es[i]!.r).1)=vj s (i+1)from by rw[hxt,hee,hc2];rfl];exact hK⟩) (hn:=aG) ?_;refine aY ?_;exact⟨i+1,ae,ae,(aZ.to [(0,0),(6,6),(44,7)] ah ah eg (by refine aO.dY ah ah ah ?_;refine aO.bl 6 ah ah ah (ar List.length (rfl)) rfl ?_;refine aO.rw 44 ah ah (rfl) ?_;exact aO.nil))⟩
 refine aA ?_;have h33:i=s.es.length:=ae;subst h33;have hne:vj s s.es.length≠[]:=by unfold vj bZ;simp[aP,fQ]
 have hps:lP s=(vj s s.es.length,0):=by unfold lP;rw[aj (by simp[hc0]),Kt]
 refine cy (nx':=21) (v:=.str (vj s s.es.length)) (m':=[(0,.buf 2 [fV.D s])]) (hc:=fun K' hK=>h452 _ _ K' ⟨6,vj s s.es.length,rfl,.inr ⟨7,true,bj,bj⟩,hne,hK⟩) (hn:=aG) ?_;refine aE ?_;refine bL (aM (ar D.str ?_) (ar (D.int .i64) ?_));all_goals
  rw[hps];first|done|rfl
def KS (T:List D->D->Prop):Prop:=∀(s:fV),(∀x∈s.es,fo x.r)->T [fV.D s] (.tup [.str (lP s).1,.int .i64 (lP s).2])
def U5 (Y:Ctx):Prop:=KS (bt Y 251)
def Fz:aF:=⟨0,8,[⟨0,none⟩],bQ,(sq (r1 [gm dM] 0 0) (sq (rg [gn (.build [.str [],.aC] [(0,1,(cs [111,110,101]))]),gx 251 [l0] [[.a,.sl 11 [.a,.a,.a,.a,.a,.a,.sl 3 [.sl 4 [.a,.a,.a,.a],.a,.a],.sl 3 [.a,.a,.a],.sl 2 [.a,.sl 1 [.a]],.a,.a]]],gm l1,ge l2 0,ge l2 1,gm l3,gm l4] [(2,5),(1,6)]) (sq (rg [gx 86 [(cs [115,104,101,108,102,32,111,110,101,10])] bQ,gm l0,ge l1 0,ge l1 1,ge l1 2,gb 2 (.c (.agg [.str [],.aC])),gt 2 l5 l2,gm l3,gm l4] [(5,5),(3,7),(4,8)]) (sq (rg [gx 86 [(cs [115,104,101,108,102,32,111,110,101,10,101,110,116,114,121,32,48,32,111,110,10])] bQ,gm l0,ge l1 0,ge l1 1,ge l1 2,gb 2 (.c (.agg [.str [],.aC])),gt 2 l5 l2,gm l3,gm l4] [(6,7),(7,8)]) (sq (r1 [gm s1,aL l0 bq,gm l1,gmt 2 s2,bY 2 (cQ l3 (cs [115,104,101,108,102,32,111,110,101,10])),eL l2 l4,gm l5,gmt 6 s3,bY 6 (cQ l7 bq),eL l6 l8,gm l9,gmt 10 s4,bY 10 (cQ gH bq),eL l10 jm,gm jV,mL 14 0 s5,lr 14 mM,bY 14 (cQ og (cs [111,110,101])),eL lg rl,gm sX,gmt 19 s6,bY 19 (cQ zJ kl),eL uh Bf,gm Ey,gmt 23 s7,bY 23 (cQ MT kl),eL JF Ou,gm R6] 0 27) .ret)))))⟩
def w85 {Y:Ctx}(hm:(Y.at 0).bd)(h251:U5 Y)(h9086:Ue Y)    :dj Y Fz (.bool true) []:=by
 show bH _ _ _ [_,_,_,_,_,_,_,_] _;refine aq ?_;refine aA ?_;refine bz (.agg [.str cM,.aC]) ?_;refine ai (v:=.tup [.str Me,.int .i64 0]) (hc:=by have:=h251 ⟨cM,[]⟩ aT;rw[aws_p]at this;exact this) ?_;refine aY ?_;refine ai (v:=.tup [fV.D ⟨cM,[]⟩,.int .i64 0,.int .i64 0]) (hc:=by have:=h9086 Me aG V3;rw[aws_1]at this;exact this) ?_;refine aD ?_;refine gB (fV.D _) ?_;refine aA ?_;refine aU (fV.D ⟨cM,[]⟩) (he:=bj) ?_;refine aE ?_;refine ai (v:=.tup [fV.D (kV Hs).1,.int .i64 2,.int .i64 2]) (hc:=by have:=h9086 Hs aG V4;rw[ar Prod.fst Us,ar Prod.snd Us]at this;exact this) ?_;refine aD ?_;refine gB (fV.D _) ?_;refine aA ?_;refine aU (fV.D (kV Hs).1) (he:=bj) ?_;refine UU ?_;refine bI (v:=.str cM) ?_;refine na ?_;refine bS ?_;decide
def RY (T:List D->D->Prop):Prop:=T [] (.bool true)
def C85 (Y:Ctx):Prop:=RY (bt Y 85)
def NH:aF:=⟨2,5,[⟨2,none⟩],bQ,(sq (r1 [gm bq] 2 0) (sq (.block 0 (sq (r1 [gm s0,gm s1,aS l0 l1,gm l2] 3 3) (.cond s3 (sq (r1 [gn (.mv (.c (.int .i64 (-1))))] 2 0) .ret) (sq (r1 [gm s0,gm s1,cZ l0 l1,gm l2] 4 3) (.cond s4 (sq (r1 [gm bX] 2 0) .ret) .skip))))) (sq (r1 [gm bq] 2 0) .ret)))⟩
def w630 {Y:Ctx}(hm:(Y.at 0).bd)  (a:Int)(b:Int)   :dj Y NH (.int .i64 (eZ a b)) [.int .i64 a,.int .i64 b]:=by
 show bH _ _ _ [⟨_,_⟩,⟨_,_⟩,_,_,_] _;refine aq ?_;refine cW ?_;refine fA (fun hc0=>?_) fun hc0=>?_
 ·refine aJ ?_;refine cS ?_;unfold eZ;rw[ax hc0]
 refine aH ?_;refine fA (fun hc1=>?_) fun hc1=>?_
 ·refine aJ ?_;refine cS ?_;unfold eZ;rw[aj hc0,ax hc1]
 refine aH ?_;refine cS ?_;unfold eZ;rw[aj hc0,aj hc1]
def Si (Y:Ctx):Prop:=yH (bt Y 630)
def IG:aF:=⟨2,5,[⟨2,none⟩],bQ,(sq (r1 [gm bq] 2 0) (sq (.block 0 (sq (r1 [gm s0,gm s1,aS l0 l1,gm l2] 3 3) (.cond s3 (sq (r1 [gn (.mv (.c (.int .i64 (-1))))] 2 0) .ret) (sq (r1 [gm s0,gm s1,cZ l0 l1,gm l2] 4 3) (.cond s4 (sq (r1 [gm bX] 2 0) .ret) .skip))))) (sq (r1 [gm bq] 2 0) .ret)))⟩
def w927 {Y:Ctx}(hm:(Y.at 0).bd)  (a:au)(b:au)   :dj Y IG (.int .i64 (A8 a b)) [.str a,.str b]:=by
 show bH _ _ _ [⟨_,_⟩,⟨_,_⟩,_,_,_] _;refine aq ?_;refine cW ?_;refine fA (fun hc0=>?_) fun hc0=>?_
 ·refine aJ ?_;refine cS ?_;simp[A8,hc0]
 refine aH ?_;refine fA (fun hc1=>?_) fun hc1=>?_
 ·refine aJ ?_;refine cS ?_;simp_all[A8]
 refine aH ?_;refine cS ?_;simp_all[A8]
def Y7 (Y:Ctx):Prop:=yG (bt Y 927)
def Ri:aF:=⟨2,10,[⟨2,none⟩],bQ,(sq (r1 [gm bq] 2 0) (sq (rg [gm s0,gx 668 [l0] bQ,gm s1,gx 668 [l2] bQ,gm l1,gm l3] [(3,4),(4,5)]) (sq (.block 0 (sq (r1 [gm s3,gm l0,gmt 1 s4,eL l1 l2,gm l3] 5 4) (.cond s5 (sq (r1 [gm s0,gx 667 [l0] bQ,gm l1,ge l2 0,ge l2 1,gm l3,gm l4] 6 5) (sq (r1 [gm s1,gx 667 [l0] bQ,gm l1,ge l2 0,ge l2 1,gm l3,gm l4] 7 5) (sq (r1 [gm s6,gm s7,gx 630 [l0,l1] fH,gm l2] 2 3) .ret))) (sq (r1 [gm s3,gm l0] 8 1) (.cond s8 (sq (r1 [gn (.mv (.c (.int .i64 (-1))))] 2 0) .ret) (sq (r1 [gm s4,gm l0] 9 1) (.cond s9 (sq (r1 [gm bX] 2 0) .ret) .skip))))))) (sq (r1 [gm s0,gm s1,gx 927 [l0,l1] fH,gm l2] 2 3) .ret))))⟩
def w783 {Y:Ctx}(hm:(Y.at 0).bd)(h630:Si Y)(h667:Sj Y)(h668:Vr Y)(h927:Y7 Y)(a:au)(b:au)   :dj Y Ri (.int .i64 (sN a b)) [.str a,.str b]:=by
 show bH _ _ _ [⟨_,_⟩,⟨_,_⟩,_,_,_,_,_,_,_,_] _;refine aq ?_;refine aE ?_;refine ai (hc:=h668 _) ?_;refine aD ?_;refine ai (hc:=h668 _) ?_;refine fS ?_;refine fA (fun hc0=>?_) fun hc0=>?_
 ·refine az ?_;refine ai (hc:=h667 _) ?_;refine bM ?_;refine ai (hc:=h667 _) ?_;refine cW ?_;refine ai (hc:=h630 _ _) ?_;refine aE ?_;refine cS ?_;unfold sN;rw[ax hc0]
 refine aE ?_;refine fA (fun hc1=>?_) fun hc1=>?_
 ·refine aJ ?_;refine cS ?_;have hn:¬(cR a=true/\cR b=true):=by rintro⟨h1,h2⟩;simp[h1,h2]at hc0
  unfold sN;rw[aj hn];rw[ax hc1]
 refine aE ?_;refine fA (fun hc2=>?_) fun hc2=>?_
 ·refine aJ ?_;refine cS ?_;have hn:¬(cR a=true/\cR b=true):=by rintro⟨h1,h2⟩;simp[h1,h2]at hc0
  unfold sN;rw[aj hn];rw[aj (by simp[hc1]),ax hc2]
 refine aJ ?_;refine ai (hc:=h927 _ _) ?_;refine aA ?_;refine cS ?_;have hn:¬(cR a=true/\cR b=true):=by rintro⟨h1,h2⟩;simp[h1,h2]at hc0
 unfold sN;rw[aj hn];rw[aj (by simp[hc1]),aj (by simp[hc2])]
def YT (Y:Ctx):Prop:=yJ (bt Y 783)
def NI:aF:=⟨2,12,[⟨2,none⟩],bQ,(sq (r1 [gm bq] 2 0) (sq (.block 0 (sq (r1 [gm s0,gm s1,aL l0 l1,gm l2] 3 3) (.cond s3 (sq (r1 [gm bq] 2 0) .ret) (sq (r1 [gm s0,aL l0 cse,gm l1] 4 2) (.cond s4 (sq (r1 [gm bX] 2 0) .ret) (sq (r1 [gm s1,aL l0 cse,gm l1] 5 2) (.cond s5 (sq (r1 [gn (.mv (.c (.int .i64 (-1))))] 2 0) .ret) .skip))))))) (sq (rg [gm s0,gx 470 [l0,(i8 46)] fH,gm s1,gx 470 [l2,(i8 46)] fH,gm l1,gm l3] [(7,4),(8,5)]) (sq (sq (r1 [gm bq] 6 0) (.block 1 (.loop (sq (sq (r1 [gm s6,gm s7,gl l1,aS l0 l2,gm l3,gmt 4 s6,gmt 4 s8,bY 4 (.len l6),bY 4 (nO l5 l7),eL l4 l8] 9 9) (fB s9 1)) (sq (.block 2 (sq (r2 [gm s7,gm s6,ga 1 l0 l1,gd l2,gm s8,gm s6,ga 1 l4 l5,gd l6,gx 783 [l3,l7] fH,gm l8] 10 9) (sq (r1 [gm jf,b7 l0 bq] 11 1) (.cond k9 (sq (r1 [gm jf,gm l0] 2 1) .ret) .skip)))) (r1 [gm s6,aw l0 bX,gm l1] 6 2)))))) (sq (r1 [gm s7,gl l0,gm s8,gl l2,gx 630 [l1,l3] fH,gm l4] 2 5) .ret)))))⟩
def w631 {Y:Ctx}(hm:(Y.at 0).bd)(h470:Hn Y)(h630:Si Y)(h783:YT Y)(a:au)(b:au)  (hp0:a.length<=1048576/\b.length<=1048576):dj Y NI (.int .i64 (v8 a b)) [.str a,.str b]:=by
 show bH _ _ _ [⟨_,_⟩,⟨_,_⟩,_,_,_,_,_,_,_,_,_,_] _;refine aq ?_;refine cW ?_;refine fA (fun hc0=>?_) fun hc0=>?_
 ·refine aJ ?_;refine cS ?_;unfold v8;rw[ax hc0]
 refine aJ ?_;refine fA (fun hc1=>?_) fun hc1=>?_
 ·refine aJ ?_;refine cS ?_;unfold v8;rw[aj hc0,ax hc1]
 refine aJ ?_;refine fA (fun hc2=>?_) fun hc2=>?_
 ·refine aJ ?_;refine cS ?_;unfold v8;rw[aj hc0,aj hc1,ax hc2]
 refine aE ?_;refine ai (hc:=h470 a 46 hp0.1) ?_;refine aD ?_;refine ai (hc:=h470 b 46 hp0.2) ?_;refine aY ?_;refine bh hm (ι:=Nat) (fun i=>[.un,.un,.un,.un,.un,.un,⟨true,.int .i64 (i:Nat)⟩,⟨true,.sl 1 ((ak a 46).map D.str)⟩,⟨true,.sl 1 ((ak b 46).map D.str)⟩,.un,.un,.un]) (fun i=>[]) 18 (fun i=>(i<=(ak a 46).length/\i<=(ak b 46).length)/\v8 a b=sZ (ak a 46) (ak b 46) i) (fun i=>(ak a 46).length-i) 0 ⟨⟨ae,ae⟩,by unfold v8;rw[aj hc0,aj hc1,aj hc2]⟩ (dL []) ?_;rintro i ⟨hi,hr⟩;refine aJ ?_;intro u0;refine aE ?_;refine ll ?_;refine aA ?_;refine cI (fun hc3=>?_) fun hc3=>?_
 ·refine aJ ?_;refine ca i (hb:=fun _=>ae) ?_;refine b8 (v:=.str (ak a 46)[i]!) (hi:=fun _=>ae) ?_;refine az ?_;refine ca i (hb:=fun _=>ae) ?_;refine b8 (v:=.str (ak b 46)[i]!) (hi:=fun _=>ae) ?_;refine ai (hc:=h783 _ _) ?_;refine aH ?_;refine fA (fun hc4=>?_) fun hc4=>?_
  ·refine aY ?_;refine cS ?_;rw[hr,CJ ae hc4]
  refine bM ?_;exact⟨i+1,⟨⟨ae,ae⟩,by rw[hr,GB ae hc4]⟩,ae,(dL [])⟩
 refine aJ ?_;intro u1;refine az ?_;intro u2;refine ai (hc:=h630 _ _) ?_;refine aA ?_;refine cS ?_;rw[hr,CI ae]
def Ls (T:List D->D->Prop):Prop:=∀(a:au) (b:au),(a.length<=1048576/\b.length<=1048576)->T [.str a,.str b] (.int .i64 (v8 a b))
def YA (Y:Ctx):Prop:=Ls (bt Y 631)
def D3:aF:=⟨2,12,[⟨2,none⟩],bQ,(sq (rg [gb 5 s0,gb 5 s1,gm bq] [(3,0),(4,1),(2,2)]) (sq (sq (r1 [gk 5 true s3,gx 217 [l0] zF,jU l1,gm l2,cD 3 (.ld 5 true s4),cD 3 (.call 217 [l4] zF),cD 3 (.un .not l5),fE l3 l6] 5 7) (.cond s5 (sq (r1 [gm bq] 2 0) .ret) .skip)) (sq (sq (r1 [gf 0 s3,gd l0,gf 0 s4,gd l2,gx 630 [l1,l3] fH,gm l4] 6 5) (sq (r1 [gm s6,b7 l0 bq] 7 1) (.cond s7 (sq (r1 [gm s6,gm l0] 2 1) .ret) .skip))) (sq (sq (r1 [gf 1 s3,gd l0,gf 1 s4,gd l2,gx 630 [l1,l3] fH,gm l4] 8 5) (sq (r1 [gm s8,b7 l0 bq] 9 1) (.cond s9 (sq (r1 [gm s8,gm l0] 2 1) .ret) .skip))) (sq (sq (r1 [gf 2 s3,gd l0,gf 2 s4,gd l2,gx 630 [l1,l3] fH,gm l4] 10 5) (sq (r1 [gm jf,b7 l0 bq] 11 1) (.cond k9 (sq (r1 [gm jf,gm l0] 2 1) .ret) .skip))) (sq (r1 [gf 3 s3,gd l0,gf 3 s4,gd l2,gx 631 [l1,l3] fH,gm l4] 2 5) .ret))))))⟩
def w424 {Y:Ctx}(hm:(Y.at 0).bd)(h217:LY Y)(h630:Si Y)(h631:YA Y)(a:cY)(b:cY)  (hp0:a.sm/\b.sm):dj Y D3 (.int .i64 (oZ a b)) [cY.D a,cY.D b]:=by
 show bH _ _ _ [⟨_,_⟩,⟨_,_⟩,_,_,_,_,_,_,_,_,_,_] _;refine aq ?_;refine aY ?_;refine ai (hc:=h217 a hp0.1) ?_;refine aA ?_;refine dc (hc:=fun hf=>h217 b hp0.2) ?_;refine aA ?_;refine av (fun hc0=>?_) (fun hc0=>?_)
 ·simp only[dh,bE]at hc0;refine aJ ?_;refine cS ?_;unfold oZ;rw[ax hc0]
 simp only[dW,b6]at hc0;have hv:¬(eY a=false\/eY b=false):=by simp only[not_or,Bool.not_eq_false];first|exact hc0|exact hc0.1
 refine aY ?_;refine ai (hc:=h630 _ _) ?_;refine aY ?_;refine cI (fun hc1=>?_) fun hc1=>?_
 ·refine aH ?_;refine cS ?_;unfold oZ;rw[aj hv,ax hc1]
 refine aY ?_;refine ai (hc:=h630 _ _) ?_;refine aY ?_;refine cI (fun hc2=>?_) fun hc2=>?_
 ·refine aH ?_;refine cS ?_;unfold oZ;rw[aj hv,aj (by simpa using hc1),ax hc2]
 refine aY ?_;refine ai (hc:=h630 _ _) ?_;refine aY ?_;refine cI (fun hc3=>?_) fun hc3=>?_
 ·refine aH ?_;refine cS ?_;unfold oZ;rw[aj hv,aj (by simpa using hc1),aj (by simpa using hc2),ax hc3]
 refine aH ?_;refine ai (hc:=h631 a.pre b.pre ⟨hp0.1.1,hp0.2.1⟩) ?_;refine aA ?_;refine cS ?_;unfold oZ;rw[aj hv,aj (by simpa using hc1),aj (by simpa using hc2),aj (by simpa using hc3)]
def X1 (Y:Ctx):Prop:=yw (bt Y 424)
def D2:aF:=⟨1,7,gV,bQ,(sq (rg [gb 4 s0,gm cse] [(2,0),(1,1)]) (sq (rg [gm (cs [45]),gm (cs [102,117,108,108])] [(5,0),(6,1)]) (sq (sq (r1 [gf 2 s2,gd l0,gl l1,cZ l2 bq] 3 3) (.cond s3 (r1 [gf 2 s2,gd l0,gx 249 [l1,(i8 44)] [[.sl 1 [.a]],[.a]],gm l2] 5 3) .skip)) (sq (sq (r1 [gf 3 s2,gd l0] 4 1) (.cond s4 (r1 [gm (cs [98,97,114,101])] 6 0) .skip)) (sq (r1 [gf 0 s2,gd l0,aw (cs [97,110,121,32]) l1,aw l2 (cs [32]),gm s5,aw l3 l4,aw l5 (cs [32]),gm s6,aw l6 l7,aw l8 (cs [32]),gf 1 s2,gd l10,aw l9 gH,aw jm (cs [10]),gm jV] 1 14) .ret)))))⟩
def w461 {Y:Ctx}(hm:(Y.at 0).bd)(h249:R8 Y)(w:cq)  (hp0:w.fit):dj Y D2 (.str (ju w)) [cq.D w]:=by
 show bH _ _ _ [⟨_,_⟩,_,_,_,_,_,_] _;have q1:=AS hp0;have q2:=hp0.1.1.1;have q3:=hp0.1.1.2;refine aq ?_;refine gG ?_;intro u0;refine az ?_;refine cI (fun hc0=>?_) fun hc0=>?_
 ·refine aA ?_;refine ai (hc:=h249 w.feats 44 ae) ?_;refine aY ?_;refine cI (fun hc1=>?_) fun hc1=>?_
  ·refine aH ?_;refine fR ?_;refine fR ?_;refine aD ?_;refine fR ?_;refine fR ?_;refine aD ?_;refine fR ?_;refine fR ?_;refine az ?_;refine fR ?_;refine fR ?_;refine aA ?_;refine cT ?_;all_goals
    simp only[ju,bZ,iO,aP,jK,js,gC];first|rw[ax (show w.feats.length=0 by omega)]|rw[aj (show ¬w.feats.length=0 by omega)]
    simp[hc1]
  refine aE ?_;refine fR ?_;refine fR ?_;refine aD ?_;refine fR ?_;refine fR ?_;refine aD ?_;refine fR ?_;refine fR ?_;refine az ?_;refine fR ?_;refine fR ?_;refine aA ?_;refine cT ?_;all_goals
   simp only[ju,bZ,iO,aP,jK,js,gC];first|rw[ax (show w.feats.length=0 by omega)]|rw[aj (show ¬w.feats.length=0 by omega)]
   simp[hc1]
 refine aH ?_;refine cI (fun hc1=>?_) fun hc1=>?_
 ·refine aH ?_;refine fR ?_;refine fR ?_;refine aD ?_;refine fR ?_;refine fR ?_;refine aD ?_;refine fR ?_;refine fR ?_;refine az ?_;refine fR ?_;refine fR ?_;refine aA ?_;refine cT ?_;all_goals
   simp only[ju,bZ,iO,aP,jK,js,gC];first|rw[ax (show w.feats.length=0 by omega)]|rw[aj (show ¬w.feats.length=0 by omega)]
   simp[hc1]
 refine aE ?_;refine fR ?_;refine fR ?_;refine aD ?_;refine fR ?_;refine fR ?_;refine aD ?_;refine fR ?_;refine fR ?_;refine az ?_;refine fR ?_;refine fR ?_;refine aA ?_;refine cT ?_;all_goals
  simp only[ju,bZ,iO,aP,jK,js,gC];first|rw[ax (show w.feats.length=0 by omega)]|rw[aj (show ¬w.feats.length=0 by omega)]
  simp[hc1]
def K7 (T:List D->D->Prop):Prop:=∀(w:cq),(w.fit)->T [cq.D w] (.str (ju w))
def Yg (Y:Ctx):Prop:=K7 (bt Y 461)
def IA:aF:=⟨1,3,gV,bQ,(sq (r1 [gm cse] 1 0) (sq (sq (r1 [gm s0,aL l0 cse] 2 1) (mI s2 cse)) (sq (r1 [gm s0,aw (cs [119,104,101,110,32]) l0,aw l1 (cs [10]),gm l2] 1 3) .ret)))⟩
def w462 {Y:Ctx}(hm:(Y.at 0).bd)  (s:au)  (hp0:s.length<=1048576):dj Y IA (.str (hH s)) [.str s]:=by
 show bH _ _ _ [⟨_,_⟩,_,_] _;refine aq ?_;refine aY ?_;refine cI (fun hc0=>?_) fun hc0=>?_
 ·refine aJ ?_;refine cT ?_;rw[hH,ax hc0]
 refine aA ?_;refine fR ?_;refine fR ?_;refine aA ?_;refine cT ?_;rw[hH,aj hc0];simp[bZ,aP,gP]
def K8 (T:List D->D->Prop):Prop:=∀(s:au),(s.length<=1048576)->T [.str s] (.str (hH s))
def Yh (Y:Ctx):Prop:=K8 (bt Y 462)
end Go.Abs
