/- A part of the proofs. -/
import Derived.KernelRfl
import Derived.Test.YtgnjlompgjhaaaaGreatDoorProg
import Derived.Test.YtgnjlompgjhaaaaGreatDoorP07
set_option linter.all false
set_option maxRecDepth 60000
set_option maxHeartbeats 2000000
section
namespace Go.Abs
def oY:fR:=⟨[],[]⟩
def bW (t:au):au×Bool:=if t.getLast? =some 10 then(t.dropLast,true)else(t,false)
def jL (s:au):List au:=(oC s).map (· ++[10])++[uG s]
def cD (s:au):List au:=if uG s=[]then(oC s).map (· ++[10])else jL s
def tS (l:List au):Bool:=(decide (l.length=3)&&decide (l[0]! =gG))&&(decide (l[2]! =Ub) ||decide (l[2]! =vc))
def iN (t:au):Int×Bool×Bool:=if(bW t).2=true/\tS (ai (bW t).1 32)=true then(pr (ai (bW t).1 32)[1]!,decide ((ai (bW t).1 32)[2]! =vc),iQ (ai (bW t).1 32)[1]!)else(0,false,false)
def wN (t:au):Bool:=decide ((iD (bW t).1 32).1=gG)
def sD (p:Nat->Bool):Nat->Nat->Nat
 |k,0=>k
 |k,f+1=>if p k=true then k else sD p (k+1) f
def sC (p:Nat->Bool)(k n:Nat):Nat:=sD p k (n-k)
theorem B2 {p:Nat->Bool}{k n:Nat}(h:k<n)(hp:p k=true):sC p k n=k:=by
 unfold sC;rw[show n-k=(n-(k+1))+1 by omega,sD,aw hp]
theorem FJ {p:Nat->Bool}{k n:Nat}(h:k<n)(hp:p k=false):sC p k n=sC p (k+1) n:=by
 unfold sC;rw[show n-k=(n-(k+1))+1 by omega,sD,ak (by simp[hp])]
theorem sE {p:Nat->Bool}{k n:Nat}(h:n<=k):sC p k n=k:=by
 unfold sC;rw[show n-k=0 by omega,sD]
theorem B1 (p:Nat->Bool):∀f k,k<=sD p k f/\sD p k f<=k+f
 |0,k=>⟨aL _,aL _⟩
 |f+1,k=>by
  have:=B1 p f (k+1);unfold sD;split<;>omega
def zq (p:Nat->Bool)(k n:Nat):k<=sC p k n:=(B1 p _ k).1
def Mk (p:Nat->Bool){k n:Nat}(h:k<=n):sC p k n<=n:=by
 grind [B1,sC]
def yy {p q:Nat->Bool}:∀f k,(∀j,k<=j->j<k+f->p j=q j)->sD p k f=sD q k f
 |0,_,_=>rfl
 |f+1,k,h=>by
  unfold sD;rw[h k (aL _) ae,yy f (k+1) fun j h1 h2=>h j ae ae]
theorem KF {p q:Nat->Bool}{k n:Nat}(h:∀j,k<=j->j<n->p j=q j):sC p k n=sC q k n:=yy _ _ fun j h1 h2=>h j h1 ae
def qR (es:List cx)(r:Rec):Bool:=es.any fun x=>decide (x.r.name=r.name)&&decide (pR x.r.v r.v=0)
def jg (es:List cx)(r:Rec)(n:Int):Int:=if ¬m9 r=n then 13 else if qR es r=true then 8 else if 64<=es.length then 10 else 0
def gJ (es:List cx)(t:au)(n:Int)(off:Bool):Int×List cx:=if ¬(cB t).2.1=0 then((cB t).2.1,[])else if ¬jg es (cB t).1 n=0 then(jg es (cB t).1 n,[])else(0,es++[⟨(cB t).1,n,off⟩])
def xn (P:List au)(k:Nat):Nat:=sC (fun j=>wN P[j]!) k P.length
def slice {α:Type}(l:List α)(a b:Nat):List α:=(l.take b).drop a
def vQ (P:List au):Nat->List cx->Nat->List cx×Int×Int
 |0,es,_=>(es,0,0)
 |f+1,es,at'=>if at'<P.length then
   (if(iN P[at']!).2.2=false then([],2,(at':Int)+1)
   else
    let q:=gJ es (aS [] (slice P (at'+1) (xn P (at'+1)))) (iN P[at']!).1 (iN P[at']!).2.1
    if ¬q.1=0 then([],q.1,(at':Int)+1)else vQ P f q.2 (xn P (at'+1)))
  else(es,0,0)
def G0 (t:au):Option au:=if(bW t).2=true/\(cV (bW t).1 (fN++[32])).2=true/\dL (cV (bW t).1 (fN++[32])).1=true then some (cV (bW t).1 (fN++[32])).1 else none
def AN (nm:au)(q:List cx×Int×Int):fR×Int×Int:=if ¬q.2.1=0 then(oY,q.2.1,q.2.2)else(⟨nm,q.1⟩,0,0)
def hX (s:au):fR×Int×Int:=if 524288<s.length then(oY,3,0)else if(cD s).length=0 then(oY,2,1)else match G0 (cD s)[0]! with
 |none=>(oY,2,1)
 |some nm=>AN nm (vQ (cD s) (cD s).length [] 1)
def fP (t:au):Int×Bool×Bool:=if tS (ai t 32)=true then(pr (ai t 32)[1]!,decide ((ai t 32)[2]! =vc),iQ (ai t 32)[1]!)else(0,false,false)
def jX (L:List au)(en:Bool)(i:Nat):Bool:=en ||decide (i+1<L.length)
def Bm (L:List au)(k:Nat):Nat:=sC (fun j=>decide (fw L[j]! =gG)) k L.length
def jO (l:List au)(en:Bool):au:=if en=true then jG l else aS [10] l
def yL (L:List au)(en:Bool):Nat->List cx->Nat->List cx×Int×Int
 |0,es,_=>(es,0,0)
 |f+1,es,at'=>if at'<L.length then
   (if(fP L[at']!).2.2=false\/jX L en at'=false then([],2,(at':Int)+1)
   else
    let q:=gJ es (jO (slice L (at'+1) (Bm L (at'+1))) (en ||decide (Bm L (at'+1)<L.length))) (fP L[at']!).1 (fP L[at']!).2.1
    if ¬q.1=0 then([],q.1,(at':Int)+1)else yL L en f q.2 (Bm L (at'+1)))
  else(es,0,0)
def ib (t:au):Option au:=if((ai t 32).length=2/\(ai t 32)[0]! =fN)/\dL (ai t 32)[1]! =true then some (ai t 32)[1]! else none
def TR (s:au):fR×Int×Int:=if 524288<s.length then(oY,3,0)else if(az s).1.length=0\/((az s).1.length=1/\(az s).2=false)then(oY,2,1)else match ib (az s).1[0]! with
 |none=>(oY,2,1)
 |some nm=>AN nm (yL (az s).1 (az s).2 (az s).1.length [] 1)
def Bv (s:au):(∃A,az s=(A,true)/\cD s=A.map (· ++[10]))\/∃A b,az s=(A++[b],false)/\cD s=A.map (· ++[10])++[b]:=by
 rcases A4 s with⟨h1,h2,h3⟩|⟨h1,h2,h3⟩
 .grind [cD]
 .exact .inr ⟨oC s,uG s,Prod.ext h3 h1,by unfold cD;rw[ak h2];rfl⟩
theorem kg (s:au):(cD s).length=(az s).1.length:=by
 rcases Bv s with⟨A,h1,h2⟩|⟨A,b,h1,h2⟩<;>rw[h1,h2]<;>simp
def Fl {s:au}{i:Nat}(h:i<(az s).1.length):(cD s)[i]! =(az s).1[i]! ++(if jX (az s).1 (az s).2 i=true then [10]else []):=by
 rcases Bv s with⟨A,h1,h2⟩|⟨A,b,h1,h2⟩
 .grind [jX]
 grind [jX]
theorem sH:∀(s cur:au),(∀c∈cur,c≠10)->∀t∈cE 10 s cur,∀c∈t,c≠10
 |[],cur,h,t,ht=>by
  grind [cE]
 |a::r,cur,h,t,ht=>by
  unfold cE at ht;split at ht
  .rcases cb.1 ht with rfl|ht
   .exact h
   .exact sH r [] aJ t ht
  .rename_i hn;refine sH r (cur++[a]) (fun c hc=>?_) t ht;rcases List.mem_append.1 hc with hc|hc
   .exact h c hc
   .rw[cK.1 hc];rintro rfl;exact hn rfl
def uF {s t:au}(h:t∈(az s).1):∀c∈t,c≠10:=by
 grind [ai,sH,az]
def xQ {t:au}(h:∀c∈t,c≠10)(b:Bool):bW (t++(if b=true then [10]else []))=(t,b):=by
 grind [bW]
def YT (t:au):(iD t 32).1=fw t:=by
 unfold fw iD;cases hq:t.findIdx? (fun c=>c==32)with
 |none=>
  have hs:ai t 32=[t]:=by have:=qk 32 t [] hq;simpa[ai]using this
  rw[hs];rfl
 |some j=>
  have hs:ai t 32=t.take j::ai (t.drop (j+1)) 32:=by have:=oS 32 t [] j hq;simpa[ai]using this
  rw[hs];rfl
def EO {s:au}{i:Nat}(h:i<(az s).1.length):iN (cD s)[i]! =if jX (az s).1 (az s).2 i=true then fP (az s).1[i]! else(0,false,false):=by
 unfold iN fP;rw[Fl h,xQ (uF (bF h))]
 grind
theorem OQ {s:au}{i:Nat}(h:i<(az s).1.length):wN (cD s)[i]! =decide (fw (az s).1[i]! =gG):=by
 unfold wN;rw[Fl h,xQ (uF (bF h))];dsimp only;rw[YT]
def SB (s:au)(k:Nat):xn (cD s) k=Bm (az s).1 k:=by
 grind [xn,Bm,kg,KF,OQ]
def Dt:∀l:List au,aS [] l=l.flatten
 |[]=>rfl
 |[t]=>by simp[aS]
 |t::u::r=>by
  have:=Dt (u::r);simp only[aS,this];simp
def Du (t:au):∀l:List au,aS [10] (l++[t])=jG l++t
 |[]=>rfl
 |[u]=>by simp[aS,jG]
 |u::v::r=>by
  have:=Du t (v::r)
  grind [aS,jG]
def Qk {α β:Type}(f:α->β)(l:List α)(a b:Nat):slice (l.map f) a b=(slice l a b).map f:=by simp[slice]
def Lg {s:au}{a b:Nat}(ha:a<=b)(hb:b<=(az s).1.length):aS [] (slice (cD s) a b)=jO (slice (az s).1 a b) ((az s).2 ||decide (b<(az s).1.length)):=by
 rw[Dt];rcases Bv s with⟨A,h1,h2⟩|⟨A,d,h1,h2⟩
 .rw[h1,h2,Qk];simp only[Bool.true_or,jO,aW];rfl
 .rw[h1]at hb⊢;rw[h2];simp only[bQ,aP,a8,Bool.false_or]at hb⊢;by_cases hl:b<A.length+(0+1)
  .have e1:slice (A.map (· ++[10])++[d]) a b=(slice A a b).map (· ++[10]):=by
    unfold slice;rw[List.take_append_of_le_length (by simp only[bO];omega)];simp
   have e2:slice (A++[d]) a b=slice A a b:=by
    unfold slice;rw[List.take_append_of_le_length ae]
   rw[e1,e2,jO,aw (ca hl)];rfl
  .have hq:b=A.length+1:=ae;rw[jO,ak (by simpa using hl)];by_cases h4:a=b
   .have e1:∀l:List au,l.length<=b->slice l a b=[]:=fun l hl=>lM cZ
    rw[e1 _ cZ,e1 _ cZ];rfl
   .have ha2:a<=A.length:=ae;have e1:slice (A.map (· ++[10])++[d]) a b=(A.drop a).map (· ++[10])++[d]:=by
     unfold slice;rw[ee cZ,List.drop_append_of_le_length (by simpa using ha2),List.map_drop]
    have e2:slice (A++[d]) a b=A.drop a++[d]:=by
     unfold slice;rw[ee cZ,List.drop_append_of_le_length ha2]
    rw[e1,e2,Du];simp[jG]
theorem idx_eq (s:au):∀(f:Nat) (es:List cx) (i:Nat),vQ (cD s) f es i=yL (az s).1 (az s).2 f es i
 |0,_,_=>rfl
 |f+1,es,i=>by
  unfold vQ yL;rw[kg];by_cases h:i<(az s).1.length
  .rw[aw h,aw h,EO h,SB];have h1:i+1<=Bm (az s).1 (i+1):=zq _ _ _;have h2:Bm (az s).1 (i+1)<=(az s).1.length:=Mk _ ae;rw[Lg h1 h2];cases hw:jX (az s).1 (az s).2 i with
   |false=>simp
   |true=>
    simp only[aW,Bool.true_eq_false,or_false];rw[idx_eq s f]
  .rw[ak h,ak h]
theorem LV {nm:au}(h:dL nm=true):cr nm:=⟨(zj h).1,JU (zj h).2.2⟩
theorem Ii:cr fN:=by unfold cr;decide
theorem EZ {s:au}(h:0<(az s).1.length):G0 (cD s)[0]! =if jX (az s).1 (az s).2 0=true then ib (az s).1[0]! else none:=by
 unfold G0 ib;rw[Fl h,xQ (uF (bF h))];dsimp only;cases jX (az s).1 (az s).2 0 with
 |false=>simp
 |true=>
  simp only[ct,aW];generalize (az s).1[0]! =t;by_cases h1:((ai t 32).length=2/\(ai t 32)[0]! =fN)/\dL (ai t 32)[1]! =true
  .rw[aw h1];have hj:aS [32] (ai t 32)=t:=by
    have:=ll 32 t [];simpa[ai]using this
   obtain⟨⟨ha,hb⟩,hc⟩:=h1
   match hq:ai t 32,ha,hb,hc with
   |[x,y],_,hb,hc=>
    rw[hq]at hj;simp at hb hc;subst hb;have ht:t=fN++[32]++y:=by rw[<-hj];rfl
    have hp:cV t (fN++[32])=(y,true):=by
     subst ht;unfold cV;rw[aw (by simp[fN,List.isPrefixOf])];simp[fN]
    rw[hp];simp[hc]
  .rw[ak h1,ak];rintro⟨h2,h3⟩;unfold cV at h2 h3;split at h2
   .rename_i h4;rw[aw h4]at h3;simp only at h3;have ht:t=aS [32] [fN,t.drop 6]:=by
     obtain⟨r,hr⟩:=List.isPrefixOf_iff_prefix.1 h4;rw[<-hr];simp[fN,aS]
    have hs:ai t 32=[fN,t.drop 6]:=by
     have:=kK (l:=[fN,t.drop 6]) aJ (by
      intro w hw;simp only[cb,eJ,or_false]at hw;rcases hw with rfl|rfl
      .exact Ii
      .exact LV h3)
     rw[fj,<-ht]at this;exact this
    apply h1;rw[hs];exact⟨⟨rfl,rfl⟩,by simpa[fN]using h3⟩
   .cases h2
def Wa (s:au):hX s=TR s:=by
 grind [hX,TR,kg,az,EZ,jX,ib,idx_eq]
end Go.Abs
namespace Go.Abs
def SZ (s:au):1<=(jL s).length:=by unfold jL;simp
def S0 (s:au):cD s=if(jL s)[(jL s).length-1]! =[]then(jL s).take ((jL s).length-1)else jL s:=by
 grind [jL,cD]
def qT (s:au):(bW s).1.length<=s.length:=by
 grind [bW]
def Uu (r:Rec)(x:cx):Bool:=decide (x.r.name=r.name)&&decide (pR x.r.v r.v=0)
def YW {s:au}(h:(((bW s).2=false\/¬((ai (bW s).1 32).length:Int)=3)\/¬(ai (bW s).1 32)[0]! =gG)\/¬(ai (bW s).1 32)[2]! =Ub/\¬(ai (bW s).1 32)[2]! =vc):¬((bW s).2=true/\tS (ai (bW s).1 32)=true):=by
 grind [tS]
def U6 {s:au}(h:(((bW s).2=true/\((ai (bW s).1 32).length:Int)=3)/\(ai (bW s).1 32)[0]! =gG)/\((ai (bW s).1 32)[2]! =Ub\/(ai (bW s).1 32)[2]! =vc)):((bW s).2=true/\tS (ai (bW s).1 32)=true)/\(ai (bW s).1 32).length=3:=by
 grind [ai,bW,tS]
end Go.Abs
namespace Go.Abs
def noE (s:au):Prop:=∀i,1<=i->i<(cD s).length->(iN (cD s)[i]!).2.2=false
def L5 {s t:au}(h:t∈cD s):t.length<=s.length+1:=by
 have h1:t∈jL s:=by
  grind [cD,jL]
 unfold jL at h1;rcases List.mem_append.1 h1 with h2|h2
 .obtain⟨u,hu,rfl⟩:=ez.1 h2;have:=dT s 10 (kD hu);simp;omega
 grind [er,qO,ai]
def zo {s:au}{i:Nat}(h:i<(cD s).length):(cD s)[i]!.length<=s.length+1:=L5 (bF h)
def DZ {s:au}(h:524288<s.length):hX s=(oY,3,0):=by unfold hX;rw[aw h]
def D0 {s:au}(h:¬524288<s.length)(h1:(cD s).length=0):hX s=(oY,2,1):=by unfold hX;rw[ak h,aw h1]
theorem G1 (t:au):G0 t=if((bW t).2=true/\(cV (bW t).1 [115,104,101,108,102,32]).2=true)/\dL (cV (bW t).1 [115,104,101,108,102,32]).1=true then some (cV (bW t).1 [115,104,101,108,102,32]).1 else none:=by
 grind [G0,fN]
def Qi {s:au}(h:¬524288<s.length)(h1:¬(cD s).length=0)(h2:¬(((bW (cD s)[0]!).2=true/\(cV (bW (cD s)[0]!).1 [115,104,101,108,102,32]).2=true)/\dL (cV (bW (cD s)[0]!).1 [115,104,101,108,102,32]).1=true)):hX s=(oY,2,1):=by
 grind [hX,G1]
def Qh {s:au}(h:¬524288<s.length)(h1:¬(cD s).length=0)(h2:((bW (cD s)[0]!).2=true/\(cV (bW (cD s)[0]!).1 [115,104,101,108,102,32]).2=true)/\dL (cV (bW (cD s)[0]!).1 [115,104,101,108,102,32]).1=true):
  hX s=AN (cV (bW (cD s)[0]!).1 [115,104,101,108,102,32]).1 (vQ (cD s) (cD s).length [] 1):=by
 grind [hX,G1]
def oN (P:List au)(es:List cx)(i:Nat):List cx×Int×Int:=vQ P (P.length-i) es i
theorem wV (P:List au):∀(f g:Nat) (es:List cx) (i:Nat),P.length<=i+f->P.length<=i+g->vQ P f es i=vQ P g es i
 |0,0,_,_,_,_=>rfl
 |0,g+1,es,i,h,_=>by unfold vQ;rw[ak ae]
 |f+1,0,es,i,_,h=>by unfold vQ;rw[ak ae]
 |f+1,g+1,es,i,h1,h2=>by
  have hn:i+1<=xn P (i+1):=zq _ _ _;unfold vQ;dsimp only;rw[wV P f g _ _ ae ae]
def DU (P:List au):vQ P P.length [] 1=oN P [] 1:=wV P _ _ _ _ ae ae
def DV {P:List au}{es:List cx}{i:Nat}(h:P.length<=i):oN P es i=(es,0,0):=by
 unfold oN;rw[show P.length-i=0 by omega];rfl
def BV {P:List au}{es:List cx}{i:Nat}(h:i<P.length)(h1:(iN P[i]!).2.2=false):oN P es i=([],2,(i:Int)+1):=by
 unfold oN;obtain⟨f,hf⟩:∃f,P.length-i=f+1:=⟨P.length-i-1,ae⟩
 grind [vQ]
def DT {P:List au}{es:List cx}{i:Nat}(h:i<P.length)(h1:(iN P[i]!).2.2=true):oN P es i=if ¬(gJ es (aS [] (slice P (i+1) (xn P (i+1)))) (iN P[i]!).1 (iN P[i]!).2.1).1=0 then([],(gJ es (aS [] (slice P (i+1) (xn P (i+1)))) (iN P[i]!).1 (iN P[i]!).2.1).1,(i:Int)+1)else oN P (gJ es (aS [] (slice P (i+1) (xn P (i+1)))) (iN P[i]!).1 (iN P[i]!).2.1).2 (xn P (i+1)):=by
 have hn:i+1<=xn P (i+1):=zq _ _ _;unfold oN;obtain⟨f,hf⟩:∃f,P.length-i=f+1:=⟨P.length-i-1,ae⟩
 grind [vQ,wV,xn]
def rN {nm:au}{es:List cx}{e k:Int}(h:¬e=0):AN nm (es,e,k)=(oY,e,k):=by unfold AN;rw[aw h]
end Go.Abs
namespace Go.Abs
def Z3 {nm:au}{es:List cx}{m:List (Nat×bX)}{l:Nat}{cs:List Sh}(hq:∀x:cx,D.agg (xL m cs x.D.cells)=x.D)(hl:look m l=some (.buf 11 (es.map cx.D))):xV m [.a,.sl 11 cs] (.agg [.str nm,.own l 11 0 es.length])=fR.D ⟨nm,es⟩:=by
 show D.agg [.str nm,.sl 11 _]=D.agg [.str nm,.sl 11 (es.map cx.D)];simp only[bD,hl,bZ,aN,List.map_map];exact aj (fun q=>D.agg [D.str nm,D.sl 11 q]) (List.map_congr_left fun x _=>hq x)
def Wy {nm:au}{es:List cx}{m:List (Nat×bX)}{l:Nat}{cs:List Sh}(hq:∀x:cx,Ui m cs x.D.cells)(hl:look m l=some (.buf 11 (es.map cx.D))):Uj m [.a,.sl 11 cs] (.agg [.str nm,.own l 11 0 es.length]):=by
 refine⟨rfl,⟨?_, ?_⟩,rfl⟩
 .simp[fZ,hl]
 .simp only[bD,hl,bZ,aN];intro e he;obtain⟨x,_,rfl⟩:=ez.1 he;exact hq x
def Gt {es:List cx}{t:au}{n:Int}{off:Bool}(h:¬(cB t).2.1=0):gJ es t n off=((cB t).2.1,[]):=by unfold gJ;rw[aw h]
def ov {es:List cx}{t:au}{n:Int}{off:Bool}(h:(cB t).2.1=0)(h2:¬jg es (cB t).1 n=0):gJ es t n off=(jg es (cB t).1 n,[]):=by grind [gJ]
def K4 {es:List cx}{t:au}{n:Int}{off:Bool}(h:(cB t).2.1=0)(h2:jg es (cB t).1 n=0):gJ es t n off=(0,es++[⟨(cB t).1,n,off⟩]):=by grind [gJ]
def Dk {es:List cx}{r:Rec}{n:Int}(h:jg es r n=0):es.length<64:=by
 grind [jg]
def D2 {α:Type}{l:List α}{a b:Nat}{x:α}(h:x∈slice l a b):x∈l:=kD (List.mem_of_mem_drop h)
end Go.Abs
namespace Go.Abs
def BL (t:au):fC (cB t).1:=by
 unfold cB;split
 .exact zp
 .rename_i h;dsimp only;have hL:Cs ((ai t 10).take ((ai t 10).length-1)):=fun u hu=>by
   have:=dT t 10 (kD hu);omega
  grind [zp,Fu]
def HB (s:au):(cD s).length<=s.length+1:=by
 grind [kg,dm,az]
end Go.Abs
end
section
namespace Go.Abs
def nD (s:fR)(r:Rec):fR×Int:=if kA s=false then(oY,1)else if ¬(dw r).2=0 then(oY,(dw r).2)else if 0<=tM s.es r.name r.v 0 then(oY,8)else if 64<=s.es.length then(oY,10)else(⟨s.name,s.es++[⟨r,m9 r,false⟩]⟩,0)
theorem OI {es:List cx}{x:cx}{i:Nat}(h:i<es.length):pF (es++[x]) i=pF es i:=by
 grind [pF]
theorem OH {es:List cx}{x:cx}:pF (es++[x]) es.length=(decide ((dw x.r).2=0)&&decide (m9 x.r=x.sum)&&decide (tM es x.r.name x.r.v 0<0)):=by
 grind [pF]
theorem Qg {nm:au}{es:List cx}{x:cx}(h:kA ⟨nm,es⟩=true)(h1:(dw x.r).2=0)(h2:m9 x.r=x.sum)(h3:tM es x.r.name x.r.v 0<0)(h4:es.length<64):kA ⟨nm,es++[x]⟩=true:=by
 grind [kA,eD,OI,OH]
def T2 {es:List cx}{r:Rec}(hr:e8 r.v=true)(h:∀x∈es,e8 x.r.v=true):qR es r=decide (0<=tM es r.name r.v 0):=by
 grind [qR,Ha,Bn,S3,tM]
def pW (l:List Int)(i:Int)(k:Nat):Rec:=CF l (i+1+82*(k:Nat)) (1+fX l (i+1+82*(k:Nat)+80) 4)
def gEY (l:List Int)(i:Int)(k:Nat):Bool:=decide (fX l (i+1+82*(k:Nat)+81) 9=1)
def yJ (l:List Int)(i:Int):Nat->List cx
 |0=>[]
 |k+1=>if 0<=tM (yJ l i k) (pW l i k).name (pW l i k).v 0 then yJ l i k else yJ l i k++[⟨pW l i k,m9 (pW l i k),gEY l i k⟩]
def Cu (l:List Int)(i:Int)(nm:au)(most:Nat):fR:=⟨nm,yJ l i (fX l i ((most:Int)+1)).toNat⟩
theorem vN (l:List Int)(i:Int):∀k,(yJ l i k).length<=k
 |0=>by simp[yJ]
 |k+1=>by
  have:=vN l i k
  grind [yJ]
theorem EW (l:List Int)(i:Int)(k:Nat):(dw (pW l i k)).2=0/\Gk (pW l i k)/\cM (pW l i k)=(0,0)/\(gC (pW l i k)).length<=800/\fC (pW l i k):=by
 have h:=RU l (i+1+82*(k:Nat)) (1+fX l (i+1+82*(k:Nat)+80) 4);have hp:=h.print;exact⟨by unfold pW;rw[hp],Y6 _ _ _,h.check,h.len,h.sm⟩
structure Cv (x:cx):Prop where
 w:Gk x.r
 c:cM x.r=(0,0)
 l:(gC x.r).length<=800
 s:m9 x.r=x.sum
 m:fC x.r
def ze (l:List Int)(i:Int):∀k,∀x∈yJ l i k,Cv x
 |0,x,h=>by cases h
 |k+1,x,h=>by
  unfold yJ at h;split at h
  .exact ze l i k x h
  .rcases List.mem_append.1 h with h|h
   .exact ze l i k x h
   .rw[cK.1 h];obtain⟨_,h2,h3,h4,h5⟩:=EW l i k;exact⟨h2,h3,h4,rfl,h5⟩
def EX {nm:au}(hn:dL nm=true)(l:List Int)(i:Int):∀k,k<=64->kA ⟨nm,yJ l i k⟩=true
 |0,_=>by simp[kA,yJ,hn,cn]
 |k+1,h=>by
  have ih:=EX hn l i k ae
  grind [vN,yJ,Qg,EW,tM,pW]
def jc (x:cx):List au:=fj (tG x)::jv x.r
theorem Rz {x:cx}(h:cM x.r=(0,0)):EP x=jG (jc x):=by
 grind [EP,jc,dw,gC,va,nY,tj]
def gu (es:List cx):List au:=(es.map jc).flatten
def De:∀{es:List cx},(∀x∈es,cM x.r=(0,0))->(es.map EP).flatten=jG (gu es)
 |[],_=>rfl
 |x::r,h=>by
  have:=De (es:=r) fun y hy=>h y (.tail _ hy)
  grind [gu,rL,Rz]
def KS (n:Int):cr (fQ n):=by
 refine⟨fun e=>(by have:=ig n;rw[e]at this;cases this),fun c hc=>?_⟩;unfold fQ at hc;obtain⟨j,_,rfl⟩:=ez.1 hc;have:∀k,k<16->tK k≠32/\tK k≠10:=aF
 exact this _ (xl _ _)
def AH:cr gG/\cr Ub/\cr vc:=by unfold cr;decide
def Jt (x:cx):∀w∈tG x,cr w:=by
 intro w hw;simp only[tG,cb,eJ,or_false]at hw;rcases hw with rfl|rfl|rfl
 .exact AH.1
 .exact KS _
 .split
  .exact AH.2.2
  .exact AH.2.1
def YV {x:cx}(h:0<=x.sum/\x.sum<18446744073709551616):fP (fj (tG x))=(x.sum,x.off,true):=by
 unfold fP;rw[kK (by simp[tG]) (Jt x)];have h1:tS (tG x)=true:=by
  unfold tS tG;cases x.off<;>simp
 rw[aw h1];have e1:(tG x)[1]! =fQ x.sum:=rfl;have e2:decide ((tG x)[2]! =vc)=x.off:=by
  unfold tG;cases x.off<;>simp[Ub,vc]
 grind [iQ,fQ,BI,J5]
def fw_E (x:cx):fw (fj (tG x))=gG:=by
 unfold fw;rw[kK (by simp[tG]) (Jt x)];rfl
def Su {l:List bp}(h:∀n∈l,Gg n):∀t∈oH l,fw t≠gG:=by
 intro t ht;unfold oH at ht;obtain⟨x,hx,ht⟩:=List.mem_flatten.1 ht;obtain⟨n,hn,rfl⟩:=ez.1 hx;have hw:=h n hn;unfold xe at ht;rcases cb.1 ht with rfl|ht
 .rw[pV qw aJ];decide
 rcases List.mem_append.1 ht with ht|ht
 .unfold lK at ht;obtain⟨w,hw2,rfl⟩:=ez.1 ht;rw[Ci,uv wC (ve (hw.a w hw2))];decide
 rcases List.mem_append.1 ht with ht|ht
 .unfold kN at ht;split at ht
  .cases ht
  .rw[cK.1 ht,show([eG,n.when']:List au)=eG::([]++[n.when'])from rfl,uv ox aJ];decide
 .unfold nK at ht;split at ht
  .cases ht
  .rw[cK.1 ht,show([cU,n.option]:List au)=cU::([]++[n.option])from rfl,uv sX aJ];decide
def UT {l:List fA}(h:∀b∈l,QG b):∀t∈nG l,fw t≠gG:=by
 intro t ht;unfold nG at ht;obtain⟨x,hx,ht⟩:=List.mem_flatten.1 ht;obtain⟨b,hb,rfl⟩:=ez.1 hx;have hw:=h b hb;unfold C2 at ht;rcases cb.1 ht with rfl|ht
 .rw[show([fG,b.name,b.range]:List au)=fG::([b.name]++[b.range])from rfl,uv sW (by intro x hx;rw[cK.1 hx];exact hw.nm)];decide
 .unfold kN at ht;split at ht
  .cases ht
  .rw[cK.1 ht,show([eG,b.when']:List au)=eG::([]++[b.when'])from rfl,uv ox aJ];decide
def ZN {r:Rec}(h:Gk r):∀t∈jv r,fw t≠gG:=by
 intro t ht;unfold jv at ht;rcases cb.1 ht with rfl|ht
 .rw[pV ug (by
   intro x hx;simp only[cb,eJ,or_false]at hx;rcases hx with rfl|rfl
   .exact h.nm
   .exact xP h.v)];decide
 unfold sy at ht;rcases List.mem_append.1 ht with ht|ht
 .exact Su h.n t ht
 rcases List.mem_append.1 ht with ht|ht
 .exact UT h.b t ht
 .obtain⟨f,hf,rfl⟩:=ez.1 ht;have hw:=h.f f hf;rw[k8,show([b9,f.name]++f.of:List au)=b9::(f.name::f.of)from rfl,pV qv (by
   intro x hx;rcases cb.1 hx with rfl|hx
   .exact hw.nm
   .exact hw.o x hx)];decide
def Wj {p:Nat->Bool}{k m n:Nat}(h1:k<=m)(h2:m<=n)(h3:∀j,k<=j->j<m->p j=false)(h4:m=n\/p m=true):sC p k n=m:=by
 obtain⟨d,rfl⟩:∃d,m=k+d:=⟨m-k,ae⟩
 induction d generalizing k with
 |zero=>
  grind [sE,B2]
 |succ d ih=>
  grind [FJ]
def Ql {α:Type}(a b c:List α):slice (a++(b++c)) a.length (a.length+b.length)=b:=by
 grind [slice]
def Ls {α:Type} [Inhabited α](a b c:List α)(j:Nat)(h:j<b.length):(a++(b++c))[a.length+j]! =b[j]! :=by
 grind
def R3 {L pre R:List au}{x:cx}(hL:L=pre++(jc x++R))(hR:R=[]\/fw R[0]! =gG)(hx:Gk x.r)(hs:0<=x.sum/\x.sum<18446744073709551616)(f:Nat)(es:List cx):
  yL L true (f+1) es pre.length=if ¬(gJ es (gC x.r) x.sum x.off).1=0 then([],(gJ es (gC x.r) x.sum x.off).1,(pre.length:Int)+1)else yL L true f (gJ es (gC x.r) x.sum x.off).2 (pre++jc x).length:=by
 have hl:(jc x).length=(jv x.r).length+1:=rfl;have hlen:L.length=pre.length+((jc x).length+R.length):=by rw[hL];simp
 have h0:L[pre.length]! =fj (tG x):=by
  have:=Ls pre (jc x) R 0 ae;rw[hL];rw[Nat.add_zero]at this;rw[this];rfl
 have hn:Bm L (pre.length+1)=pre.length+(jc x).length:=by
  refine Wj ae ae (fun j h1 h2=>?_) ?_
  .obtain⟨d,rfl⟩:∃d,j=pre.length+(d+1):=⟨j-pre.length-1,ae⟩
   have:=Ls pre (jc x) R (d+1) ae;rw[hL,this];have hd:(jc x)[d+1]! =(jv x.r)[d]! :=by simp[jc]
   rw[hd];exact cI (ZN hx _ (bF ae))
  grind
 have hb:slice L (pre.length+1) (pre.length+(jc x).length)=jv x.r:=by
  have:=Ql (pre++[fj (tG x)]) (jv x.r) R
  grind [jc,jv]
 rw[yL,aw ae,h0,YV hs,hn,hb];simp only[jX,Bool.true_or,jO,aW,<-va,Bool.true_eq_false,or_self,aX,bQ]
def Cv.yu {x:cx}(h:Cv x):0<=x.sum/\x.sum<18446744073709551616:=by
 rw[<-h.s];unfold m9;split
 .decide
 .exact KO _
def Q5 {es:List cx}{x:cx}(h:Cv x):gJ es (gC x.r) x.sum x.off=if ¬jg es x.r x.sum=0 then(jg es x.r x.sum,[])else(0,es++[x]):=by
 unfold gJ;rw[PK h.w h.c];simp
def Lw:∀{rest:List cx}{L pre R:List au}{es:List cx}{nm:au} (f:Nat),(∀x∈es++rest,Cv x)->kA ⟨nm,es++rest⟩=true->L=pre++(gu rest++R)->(R=[]\/fw R[0]! =gG)->
  yL L true (rest.length+f) es pre.length=yL L true f (es++rest) (pre++gu rest).length
 |[],L,pre,R,es,nm,f,_,_,_,_=>by simp[gu]
 |x::r,L,pre,R,es,nm,f,hg,hs,hL,hR=>by
  have hx:=hg x aJ;have hL2:L=pre++(jc x++(gu r++R)):=by rw[hL];simp[gu]
  have hR2:gu r++R=[]\/fw (gu r++R)[0]! =gG:=by
   match r with
   |[]=>simpa[gu]using hR
   |y::q=>right;simp only[gu,List.map_cons,List.flatten_cons,jc,fD];exact fw_E y
  have hfit:jg es x.r x.sum=0:=by
   have h1:=hs;unfold kA at h1;simp only[bC,aK,eD,bQ,aP]at h1;have h2:=h1.2 es.length ae ae;unfold pF at h2;have e1:(es++x::r)[es.length]! =x:=aJ;rw[e1,List.take_left' rfl]at h2;simp only[bC,aK]at h2;unfold jg;rw[ak (by rw[h2.1.2];simp),ak,ak ae];rw[T2 hx.w.v (fun y hy=>(hg y (List.mem_append_left _ hy)).w.v)];simp only[aK];omega
  have ha:gJ es (gC x.r) x.sum x.off=(0,es++[x]):=by rw[Q5 hx,ak (fun h=>h hfit)]
  rw[show(x::r).length+f=(r.length+f)+1 by simp;omega,R3 hL2 hR2 hx.w hx.yu,ha,ak (fun h=>h rfl)];have:=Lw (rest:=r) (L:=L) (pre:=pre++jc x) (R:=R) (es:=es++[x]) (nm:=nm) f (by simpa using hg) (by simpa using hs) (by rw[hL2];simp) hR;rw[this];simp[gu]
def VJ {es:List cx}(h:∀x∈es,Cv x):∀t∈gu es,kl t:=by
 intro t ht;unfold gu at ht;obtain⟨y,hy,ht⟩:=List.mem_flatten.1 ht;obtain⟨x,hx,rfl⟩:=ez.1 hy;rcases cb.1 ht with rfl|ht
 .exact gM fun w hw=>I4 (Jt x w hw)
 .exact yk (h x hx).w t ht
def q9 (nm:au):au:=fj [fN,nm]
theorem RW {nm:au}(h:dL nm=true):∀w∈[fN,nm],cr w:=by
 grind [Ii,LV]
theorem Se {L:List au}(h:∀t∈L,kl t):az (jG L)=(L,true):=by
 grind [yA,az]
def Iu {nm:au}{es:List cx}(h:∀x∈es,Cv x):iU ⟨nm,es⟩=jG (q9 nm::gu es):=by
 unfold iU q9;rw[nY,De fun x hx=>(h x hx).c];rfl
def PL {nm:au}(hn:dL nm=true){L:List au}(hL:∀t∈L,kl t)(hl:(jG (q9 nm::L)).length<=524288):TR (jG (q9 nm::L))=AN nm (yL (q9 nm::L) true (L.length+1) [] 1):=by
 have hc:∀t∈q9 nm::L,kl t:=by
  intro t ht;rcases cb.1 ht with rfl|ht
  .exact gM fun w hw=>I4 (RW hn w hw)
  .exact hL t ht
 have hh:ib (q9 nm)=some nm:=by
  grind [ib,q9,kK,RW]
 grind [TR,Se]
def KG {nm:au}{es:List cx}(h:∀x∈es,Cv x)(hs:kA ⟨nm,es⟩=true)(hl:(iU ⟨nm,es⟩).length<=524288):TR (iU ⟨nm,es⟩)=(⟨nm,es⟩,0,0):=by
 have hn:dL nm=true:=by
  grind [kA]
 rw[Iu h]at hl⊢;rw[PL hn (VJ h) hl];have hk:es.length<=(gu es).length+1:=by
  have:∀es:List cx,es.length<=(gu es).length:=by
   intro es;induction es with
   |nil=>exact aL _
   |cons x r ih=>simp only[gu,List.map_cons,List.flatten_cons,bQ,aP,jc]at ih⊢;omega
  have:=this es;omega
 obtain⟨f,hf⟩:∃f,(gu es).length+1=es.length+f:=⟨(gu es).length+1-es.length,ae⟩
 have:=Lw (rest:=es) (L:=q9 nm::gu es) (pre:=[q9 nm]) (R:=[]) (es:=[]) (nm:=nm) f (by simpa using h) (by simpa using hs) aJ (.inl rfl);simp only[aP,a8,fg]at this;rw[hf,this];have he:yL (q9 nm::gu es) true f es ([q9 nm]++gu es).length=(es,0,0):=by
  cases f with
  |zero=>rfl
  |succ f=>rw[yL,ak aJ]
 rw[he];simp[AN]
end Go.Abs
namespace Go.Abs
def nC:au:=[111,110,101]
def Oo:au:=[115,104,101,108,102,32,111,110,101,10]
def Jh:au:=[115,104,101,108,102,32,111,110,101,10,101,110,116,114,121,32,48,32,111,110,10]
def aws_p:jd ⟨nC,[]⟩=(Oo,0):=by decide+kernel
def aws_1:hX Oo=(⟨nC,[]⟩,0,0):=by decide+kernel
def W1:(hX Jh).2=(2,2):=by decide+kernel
def YL:(cD Oo).length=1:=by decide+kernel
def Rd:(cD Jh).length=2/\(iN (cD Jh)[1]!).2.2=false:=by decide+kernel
def YM:noE Oo:=fun i h1 h2=>by rw[YL]at h2;omega
def YN:noE Jh:=fun i h1 h2=>by
 rw[Rd.1]at h2;obtain rfl:i=1:=ae;exact Rd.2
end Go.Abs
end
namespace Go.Abs
def YZ {a b:cx}(h:(a.sum=b.sum/\a.r=b.r)/\a.off=b.off):a=b:=by cases a;cases b;simp_all
def ZQ {a b:fR}(h1:a.name=b.name)(h2:a.es.length=b.es.length)(h:∀j,j<a.es.length->a.es[j]! =b.es[j]!):a=b:=by
 cases a;cases b;simp only at h1 h2 h;rw[fR.mk.injEq];refine⟨h1,List.ext_getElem h2 fun j a b=>?_⟩;have:=h j a
 rwa [getElem!_pos _ j a,getElem!_pos _ j b]at this
def oW (s:fR)(r:Rec):List cx:=s.es++[⟨r,m9 r,false⟩]
def PutQ (s:fR)(r:Rec):D->List (Nat×bX)->Prop:=fun d m=>(¬(nD s r).2=0/\d=.tup [.agg [.str [],.bq],.int .i64 (nD s r).2])\/
 ((nD s r).2=0/\∃j,d=.tup [.agg [.str s.name,.own j 11 0 (oW s r).length],.int .i64 0]/\look m j=some (.buf 11 ((oW s r).map cx.D)))
def RR {nm:au}(hn:dL nm=true)(l:List Int)(i:Int){k:Nat}(hk:k<64):(nD ⟨nm,yJ l i k⟩ (pW l i k)).2=if 0<=tM (yJ l i k) (pW l i k).name (pW l i k).v 0 then 8 else 0:=by
 have h1:=EX hn l i k ae;have h2:=(EW l i k).1;have h3:=vN l i k;unfold nD;rw[ak (by rw[h1];simp),ak (fun h=>h h2)];split
 .rfl
 .rw[ak (show ¬64<=(yJ l i k).length by omega)]
def Vi {nm:au}(hn:dL nm=true){l:List Int}{i:Int}{k:Nat}(hk:k<64)(h:(nD ⟨nm,yJ l i k⟩ (pW l i k)).2=0):yJ l i (k+1)=yJ l i k++[⟨pW l i k,m9 (pW l i k),gEY l i k⟩]:=by
 rw[RR hn l i hk]at h;split at h
 .cases h
 .rename_i h1;rw[yJ,ak h1]
def Y5 {nm:au}(hn:dL nm=true){l:List Int}{i:Int}{k:Nat}(hk:k<64)(h:¬(nD ⟨nm,yJ l i k⟩ (pW l i k)).2=0):yJ l i (k+1)=yJ l i k:=by
 rw[RR hn l i hk]at h;split at h
 .rename_i h1;rw[yJ,aw h1]
 .exact absurd rfl h
def stY (es:List cx)(x:cx)(b:Bool):((es++[x]).map cx.D).set es.length (v7 (((es++[x]).map cx.D).getD es.length .any) 11 1 10 (.bool b))=(es++[{x with off:=b}]).map cx.D:=by
 rw[List.map_append,List.map_cons,List.map_nil,mX _ _ _ _ aJ,qi _ _ _ _ aJ,List.map_append];rfl
def Lp {l:List Int}{i:Int}{nm:au}{n:Nat}:∀x∈(Cu l i nm n).es,Cv x:=ze l i _
def Vl {l:List Int}{i:Int}{nm:au}{n:Nat}:(Cu l i nm n).es.length<=n:=by
 have h1:=vN l i (fX l i ((n:Int)+1)).toNat;have h2:=dP l i ((n:Int)+1) ae;show(yJ l i _).length<=n;omega
def vP {l:List Int}{i:Int}{nm:au}{n:Nat}(hn:dL nm=true)(h:n<=64):kA (Cu l i nm n)=true:=by
 have h2:=dP l i ((n:Int)+1) ae;exact EX hn l i _ ae
def PE {s:fR}(h:kA s=true):jd s=(iU s,0):=by unfold jd;rw[ak (by rw[h];simp)]
def Ei {s:fR}(h:kA s=true):(iU s).length<=524288:=by
 obtain⟨h1,h2⟩:=FK h;have:=zx (s:=s) ae (aL _);rw[FU]at this;omega
def RV {l:List Int}{i:Int}{nm:au}{n:Nat}(hn:dL nm=true)(h:n<=64):hX (iU (Cu l i nm n))=(Cu l i nm n,0,0):=by
 rw[Wa];exact KG (nm:=nm) (es:=(Cu l i nm n).es) (Lp (nm:=nm)) (vP hn h) (Ei (vP hn h))
def Bo:dL nC=true:=by decide+kernel
structure ShG (s:fR)(n:Nat):Prop where
 b:kA s=true
 m:∀x∈s.es,fC x.r
 p:jd s=(iU s,0)
 r:hX (iU s)=(s,0,0)
 l:(iU s).length<=524288
 n:s.es.length<=n
 o:s.name=nC
def gSh_G (l:List Int)(i:Int){n:Nat}(h:n<=64):ShG (Cu l i nC n) n:=
 ⟨vP Bo h,fun x hx=>(Lp (nm:=nC) x hx).m,PE (vP Bo h),RV Bo h,Ei (vP Bo h),Vl,rfl⟩
def UR (s:au)(i:Nat):0<=at8 s i/\at8 s i<256:=by
 unfold at8;have:=(s.getD i 0).toNat_lt;omega
def G3 {c:Int}(h:jI c=true):0<=rp c/\rp c<16:=by
 unfold jI at h;unfold rp;split
 .rename_i h1;unfold bn at h1;simp only[bC,aK]at h1;omega
 .rename_i h1;simp only[h1,Bool.false_or,bC,aK,Bool.not_eq_true]at h;simp only[Bool.not_eq_true]at h1;omega
def DP {t:au}(h:(cB t).2.1=0):e8 (cB t).1.v=true:=by
 unfold cB at h⊢;split
 .rename_i h1;rw[aw h1]at h;cases h
 .rename_i h1;rw[ak h1]at h;simp only at h⊢;split
  .rename_i h2;rw[aw h2]at h;cases h
  .rename_i h2;rw[ak h2]at h;split
   .rename_i h3;rw[aw h3]at h;exact absurd h h3
   .rename_i h3;exact(pe (Classical.not_not.1 h3)).1.2
def Ms {r:Rec}{x:cx}(h1:e8 x.r.v=true)(h2:e8 r.v=true):Uu r x=(decide (x.r.name=r.name)&&Bn x.r.v r.v):=by
 unfold Uu Bn;rw[h1,h2];simp
def AddQ (nm:au)(es:List cx)(x:cx)(t:au):D->List (Nat×bX)->Prop:=fun d m=>(¬(gJ es t x.sum x.off).1=0/\d=.int .i64 (gJ es t x.sum x.off).1/\look m 0=some (.buf 2 [.agg [.str nm,.own 1 11 0 es.length]])/\look m 1=some (.buf 11 (es.map cx.D)))\/
 ((gJ es t x.sum x.off).1=0/\d=.int .i64 0/\∃j,2<=j/\look m 0=some (.buf 2 [.agg [.str nm,.own j 11 0 (gJ es t x.sum x.off).2.length]])/\look m j=some (.buf 11 ((gJ es t x.sum x.off).2.map cx.D)))
def Ua (es:List cx):Prop:=∀x∈es,x.r.v.sm/\e8 x.r.v=true
def Gr {es:List cx}{t:au}{n:Int}{off:Bool}(h:(gJ es t n off).1=0)(he:Ua es):Ua (gJ es t n off).2/\(gJ es t n off).2.length<=64:=by
 unfold gJ at h⊢;split
 .rename_i h1;rw[aw h1]at h;exact absurd h h1
 .rename_i h1;rw[ak h1]at h;split
  .rename_i h2;rw[aw h2]at h;exact absurd h h2
  .rename_i h2;have h3:=Dk (Classical.not_not.1 h2);refine⟨fun x hx=>?_,by simp only[bQ,aP,a8];omega⟩;rcases List.mem_append.1 hx with hx|hx
   .exact he x hx
   .rw[cK.1 hx];exact⟨(BL t).1.2,DP (Classical.not_not.1 h1)⟩
def join_one {l:List au}(h:l≠[]):aS [10] l++[10]=jG l:=by
 rw[<-A1];induction l with
 |nil=>exact absurd rfl h
 |cons a r ih=>
  match r with
  |[]=>simp[aS]
  |b::q=>
   have:=ih aJ;simp only[fD,aS,ey]at this⊢;rw[this]
def vT {s:au}{i:Nat}(h:i<(az s).1.length):(az s).1[i]!.length<=s.length+1:=by
 have h1:=zo (s:=s) (i:=i) (by rw[kg];exact h);rw[Fl h,bQ]at h1;omega
def LI {s:au}{a b:Nat}(h:s.length<=524288):(aS [10] (slice (az s).1 a b)).length<=1099511627770:=by
 have h1:=mh 10 524290 (slice (az s).1 a b) (fun t ht=>by
  obtain⟨i,hi,rfl⟩:=List.getElem_of_mem (D2 ht);have:=vT hi;rw[getElem!_pos _ i hi]at this;omega)
 have h2:(slice (az s).1 a b).length<=s.length+1:=by
  have:=HB s;rw[kg]at this;simp only[slice,jY,eu];omega
 have:=fo (524290+1) h2;have:=fo (524290+1) (show s.length+1<=524289 by omega);omega
def SX {s:au}(h:¬524288<s.length)(h1:(az s).1.length=0\/((az s).1.length=1/\(az s).2=false)):hX s=(oY,2,1):=by
 by_cases h0:(az s).1.length=0
 .exact D0 h (by rw[kg];exact h0)
 .obtain⟨h2,h3⟩:(az s).1.length=1/\(az s).2=false:=h1.resolve_left h0;unfold hX;rw[ak h,ak (by rw[kg];exact h0),EZ ae,ak (by simp[jX,h2,h3])]
def SW {s:au}(h:¬524288<s.length)(h1:¬((az s).1.length=0\/((az s).1.length=1/\(az s).2=false))):
  hX s=if(ib (az s).1[0]!).isSome=true then AN ((ib (az s).1[0]!).getD []) (oN (cD s) [] 1)else(oY,2,1):=by
 have h0:¬(az s).1.length=0:=fun h=>h1 (.inl h)
 have hw:jX (az s).1 (az s).2 0=true:=by
  unfold jX;cases h2:(az s).2 with
  |true=>rfl
  |false=>simp only[Bool.false_or,aK];have:¬(az s).1.length=1:=fun h=>h1 (.inr ⟨h,h2⟩);omega
 unfold hX;rw[ak h,ak (by rw[kg];exact h0),EZ ae,aw hw,<-DU];cases ib (az s).1[0]! <;>rfl
def Qb {s:au}{es:List cx}{i:Nat}(h:i<(az s).1.length)(h1:(fP (az s).1[i]!).2.2=false\/((az s).2=false/\(i:Int)=((az s).1.length:Int) -1)):oN (cD s) es i=([],2,(i:Int)+1):=by
 refine BV (by rw[kg];exact h) ?_;rw[EO h];split
 .rename_i hw;rcases h1 with h1|⟨h1,h2⟩
  .exact h1
  .exfalso;simp only[jX,h1,Bool.false_or,aK]at hw;omega
 .rfl
def TK {s:au}{es:List cx}{i:Nat}(h:i<(az s).1.length)(h1:(fP (az s).1[i]!).2.2=true/\((az s).2=true\/¬(i:Int)=((az s).1.length:Int) -1)){j:Nat}(hj:Bm (az s).1 (i+1)=j):
  oN (cD s) es i=if ¬(gJ es (jO (slice (az s).1 (i+1) j) ((az s).2 ||decide (j<(az s).1.length))) (fP (az s).1[i]!).1 (fP (az s).1[i]!).2.1).1=0 then([],(gJ es (jO (slice (az s).1 (i+1) j) ((az s).2 ||decide (j<(az s).1.length))) (fP (az s).1[i]!).1 (fP (az s).1[i]!).2.1).1,(i:Int)+1)
   else oN (cD s) (gJ es (jO (slice (az s).1 (i+1) j) ((az s).2 ||decide (j<(az s).1.length))) (fP (az s).1[i]!).1 (fP (az s).1[i]!).2.1).2 j:=by
 have hw:jX (az s).1 (az s).2 i=true:=by
  unfold jX;rcases h1.2 with h2|h2
  .rw[h2];rfl
  .rw[cN,aK];right;omega
 have he:iN (cD s)[i]! =fP (az s).1[i]! :=by rw[EO h,aw hw]
 have:=DT (P:=cD s) (es:=es) (i:=i) (by rw[kg];exact h) (by rw[he];exact h1.1);have h4:i+1<=j/\j<=(az s).1.length:=by
  rw[<-hj];exact⟨zq _ _ _,Mk _ ae⟩
 rw[SB,hj,he,Lg h4.1 h4.2]at this;exact this
def Vs {t:au}(h:(¬((ai t 32).length:Int)=2\/¬(ai t 32)[0]! =fN)\/dL (ai t 32)[1]! =false):ib t=none:=by
 refine ak ?_;rintro⟨⟨h1,h2⟩,h3⟩;rcases h with(h|h)|h
 .omega
 .exact h h2
 .rw[h3]at h;cases h
def RX {t:au}(h:(((ai t 32).length:Int)=2/\(ai t 32)[0]! =fN)/\dL (ai t 32)[1]! =true):ib t=some (ai t 32)[1]! /\(ai t 32).length=2:=
 ⟨aw ⟨⟨ae,h.1.2⟩,h.2⟩,ae⟩
def U5 {t:au}(h:(¬((ai t 32).length:Int)=3\/¬(ai t 32)[0]! =gG)\/¬(ai t 32)[2]! =Ub/\¬(ai t 32)[2]! =vc):fP t=(0,false,false):=by
 refine ak ?_;unfold tS;simp only[bC,cN,aK];rintro⟨⟨h1,h2⟩,h3⟩;rcases h with(h|h)|h
 .omega
 .exact h h2
 .exact h3.elim h.1 h.2
def Rx {t:au}(h:(((ai t 32).length:Int)=3/\(ai t 32)[0]! =gG)/\((ai t 32)[2]! =Ub\/(ai t 32)[2]! =vc)):fP t=(pr (ai t 32)[1]!,decide ((ai t 32)[2]! =vc),iQ (ai t 32)[1]!)/\(ai t 32).length=3:=by
 have h3:(ai t 32).length=3:=ae;refine⟨aw ?_,h3⟩;unfold tS;simp only[bC,cN,aK];exact⟨⟨h3,h.1.2⟩,h.2⟩
def M6 (T:List D->D->Prop):Prop:=∀(s:au),(s.length<=1048576)->T [.str s,.str [10],.int .i64 1,.int .i64 (-1)] (.sl 1 ((jL s).map D.str))
def C331 (Y:Ctx):Prop:=M6 (bz Y 331)
def MQ (T:List D->D->Prop):Prop:=∀(s:au),(s.length<=1048576)->T [.str s,.str [10]] (.tup [.str (bW s).1,.bool (bW s).2])
def C244 (Y:Ctx):Prop:=MQ (bz Y 244)
def Up (T:List D->D->Prop):Prop:=∀(s:au),(s.length<=1048576)->(noE s)->T [.str s] (.tup [fR.D (hX s).1,.int .i64 (hX s).2.1,.int .i64 (hX s).2.2])
def WM (Y:Ctx):Prop:=Up (bz Y 86)
section
theorem wB {a b:Nat}(h:a≠b):Nat.beq a b=false:=by
 cases h2:Nat.beq a b with
 |false=>rfl
 |true=>exact absurd (Nat.eq_of_beq_eq_true h2) h
theorem YO {a b:Nat}(h:Nat.beq a b=false):Nat.beq b a=false:=by grind [wB]
section
variable [dS] {P:Program} {ν:List (Nat×Nat)} {c8:List Nat} {t:List (Nat×rh)} {fid n key u k:Nat} {af:aC} {apT:List D} {nx:Nat} {m:List (Nat×bX)} {K:D->St->Prop}
def Qu {a:D}{k q i:Nat}{es:List D}{m1:List (Nat×bX)}(ha:a.bJ=true)(hes:bH es=true)(hmix:P.follows .mixedOrders=true)(hC:K0 P ν c8 fid af)(hnp:1=af.np)
  (hl:look m1 q=some (.buf k es)) (hK:K (.own nx k 0 i) ⟨nx+1,(nx,.buf k es)::m⟩) (hw:bK ((under t key u).at 0) af.body (j5 af (One (.own q k 0 i) m1)) (fF af [a]) ⟨0,[]⟩):pc P ν c8 (under t key u) fid [a] ⟨nx,m⟩ K:=by
 refine yh (σi:=[]) (m0:=[]) (cs:=[a]) (fun q=>wg t key u q) hmix hC rfl ?_ hnp rfl (fun _ _ h=>by cases h) (fun _ _ h=>by cases h) hw ?_
 .intro i hi
  match i,hi with
  |0,_=>exact .inl ⟨rfl,ha⟩
 .rintro d m2 ⟨rfl,rfl⟩;refine⟨[(q,nx)],q+1,_,.own nx k 0 i,⟨rfl, ?_,Nat.le_succ _,(fun _ _ h=>by cases h), ?_,(fun _ _ h=>by cases h), ?_⟩,.inr (.inl (by simp[ra,CR,lU])),hK⟩
  .simp[gT]
  .grind
  .intro l bb h;simp only[look]at h;split at h
   .rename_i e;subst e;obtain rfl:=bL h;exact .inl ⟨q,_,.head _,hl,rfl,.inl ⟨rfl,hes⟩⟩
   .rename_i hn;exact .inr ⟨by simp only[me,ak hn],(fun _ h=>by cases h),h⟩
def Xo {a0 a1 a2 a3 a4 b0 b1 b2 b3 b4 c:Nat}(ha:uu a0 a1 a2 a3 a4=true)(hb:uu b0 b1 b2 b3 b4=true)(hc:b0<c/\b1<c/\b2<c/\b3<c/\b4<c):gT 0 c [(a0,b0),(a1,b1),(a2,b2),(a3,b3),(a4,b4)]=true:=by
 simp only[uu,bd,de]at ha hb;obtain⟨⟨⟨⟨⟨⟨⟨⟨⟨x1,x2⟩,x3⟩,x4⟩,x5⟩,x6⟩,x7⟩,x8⟩,x9⟩,x10⟩:=ha;obtain⟨⟨⟨⟨⟨⟨⟨⟨⟨y1,y2⟩,y3⟩,y4⟩,y5⟩,y6⟩,y7⟩,y8⟩,y9⟩,y10⟩:=hb;obtain⟨c0,c1,c2,c3,c4⟩:=hc;have bt:∀{x:Nat},x<c->Nat.blt x c=true:=fun {x} h=>by simp[Nat.blt];omega
 have bl:∀{x:Nat},Nat.ble 0 x=true:=fun {x}=>aJ
 grind [gT,YO]
def rd_rn {a0 a1 a2 a3 a4 b0 b1 b2 b3 b4:Nat}(ha:uu a0 a1 a2 a3 a4=true):lU 0 [(a0,b0),(a1,b1),(a2,b2),(a3,b3),(a4,b4)] a0=some b0/\lU 0 [(a0,b0),(a1,b1),(a2,b2),(a3,b3),(a4,b4)] a1=some b1/\lU 0 [(a0,b0),(a1,b1),(a2,b2),(a3,b3),(a4,b4)] a2=some b2/\lU 0 [(a0,b0),(a1,b1),(a2,b2),(a3,b3),(a4,b4)] a3=some b3/\lU 0 [(a0,b0),(a1,b1),(a2,b2),(a3,b3),(a4,b4)] a4=some b4:=by
 simp only[uu,bd,de]at ha;obtain⟨⟨⟨⟨⟨⟨⟨⟨⟨x1,x2⟩,x3⟩,x4⟩,x5⟩,x6⟩,x7⟩,x8⟩,x9⟩,x10⟩:=ha;simp only[lU,x1,x2,x3,x4,x5,x6,x7,x8,x9,x10,Nat.beq_refl,cond_true,cond_false,cO]
def rd_m {σ:List (Nat×Nat)}{m:List (Nat×bX)}{x:jq}{a0 a1 a2 a3 a4 b0 b1 b2 b3 b4:Nat}(h:UP m x a0 a1 a2 a3 a4)(ha:uu a0 a1 a2 a3 a4=true)(hs:σ=[(a0,b0),(a1,b1),(a2,b2),(a3,b3),(a4,b4)]):
  ∀l b,look (YD x b0 b1 b2 b3 b4) l=some b->∃i b',(i,l)∈σ/\look m i=some b'/\sS 0 σ b' b:=by
 obtain⟨r0,r1,r2,r3,r4⟩:=rd_rn (b0:=b0) (b1:=b1) (b2:=b2) (b3:=b3) (b4:=b4) ha;intro l b hl;rw[<-hs]at r0 r1 r2 r3 r4;have mem:(a0,b0)∈σ/\(a1,b1)∈σ/\(a2,b2)∈σ/\(a3,b3)∈σ/\(a4,b4)∈σ:=by subst hs;simp
 obtain⟨q0,q1,q2,q3,q4⟩:=mem;simp only[YD,look]at hl;split at hl
 .rename_i e;subst e;obtain rfl:=bL hl;exact⟨a0,_,q0,h.a0,rfl,.inr (.inl (by simp only[og,oO,ra,CR,r1,r3,r4]))⟩
 .split at hl
  .rename_i e;subst e;obtain rfl:=bL hl;exact⟨a1,_,q1,h.a1,rfl,.inr (.inl (xh _ _ _ _ r2 _))⟩
  .split at hl
   .rename_i e;subst e;obtain rfl:=bL hl;exact⟨a2,_,q2,h.a2,rfl,.inl ⟨rfl,lY _⟩⟩
   .split at hl
    .rename_i e;subst e;obtain rfl:=bL hl;exact⟨a3,_,q3,h.a3,rfl,.inl ⟨rfl,br (fun _=>rfl) _⟩⟩
    .split at hl
     .rename_i e;subst e;obtain rfl:=bL hl;exact⟨a4,_,q4,h.a4,rfl,.inl ⟨rfl,br (fun _=>rfl) _⟩⟩
     .cases hl
def ZM {m:List (Nat×bX)}{j0 j1 j2 j3 j4 l:Nat}{b:bX}(h:look (Gj m j0 j1 j2 j3 j4) l=some b):(l≠j0/\l≠j1/\l≠j2/\l≠j3/\l≠j4)/\look m l=some b:=by
 simp only[Gj,fV]at h;split at h
 .cases h
 grind
def Sk (a b:List (Nat×bX))(l:Nat):look (a++b) l=match look a l with
 |some x=>some x
 |none=>look b l:=by
 induction a with
 |nil=>rfl
 |cons p r ih=>
  grind [look]
def J4 {a0 a1 a2 a3 a4 b0 b1 b2 b3 b4 p q:Nat}(h:(p,q)∈[(a0,b0),(a1,b1),(a2,b2),(a3,b3),(a4,b4)]):p=a0/\q=b0\/p=a1/\q=b1\/p=a2/\q=b2\/p=a3/\q=b3\/p=a4/\q=b4:=by
 grind
def sv {x:jq}{out:Option jq}{j0 j1 j2 j3 j4:Nat}(has:bH apT=true)(hmix:P.follows .mixedOrders=true)(hC:K0 P ν c8 fid af)(hnp:apT.length+1=af.np)
  (h1:UP m x j0 j1 j2 j3 j4) (h2:uu j0 j1 j2 j3 j4=true) (h3:j0<nx/\j1<nx/\j2<nx/\j3<nx/\j4<nx) (hK:K (.bool out.isSome) ⟨nx+4,wu out j0 nx++Gj m j0 j1 j2 j3 j4⟩)
  (hw:bK ((under t key u).at 5) af.body (j5 af (YE out)) (fF af (.ptr 0 10 0 0::apT)) ⟨5,YD x 0 1 2 3 4⟩):pc P ν c8 (under t key u) fid (.ptr j0 10 0 0::apT) ⟨nx,m⟩ K:=by
 have g3:gT 0 5 [(j0,0),(j1,1),(j2,2),(j3,3),(j4,4)]=true:=Xo h2 rfl aF;have g4:∀l i,(l,i)∈[(j0,0),(j1,1),(j2,2),(j3,3),(j4,4)]->look m l≠none:=by
  intro l i h;rcases J4 h with⟨rfl,_⟩|⟨rfl,_⟩|⟨rfl,_⟩|⟨rfl,_⟩|⟨rfl,_⟩
  .rw[h1.a0];simp
  .rw[h1.a1];simp
  .rw[h1.a2];simp
  .rw[h1.a3];simp
  .rw[h1.a4];simp
 have g5:=rd_m (b0:=0) (b1:=1) (b2:=2) (b3:=3) (b4:=4) h1 h2 rfl;refine yh (σi:=[(j0,0),(j1,1),(j2,2),(j3,3),(j4,4)]) (cs:=.ptr 0 10 0 0::apT) (fun q=>wg t key u q) hmix hC aJ ?_ (by simpa using hnp) g3 g4 g5 hw ?_
 .intro i hi
  match i with
  |0=>exact .inr (.inl (by simp[ra,CR,lU]))
  |i+1=>exact .inl ⟨rfl,dn has i⟩
 have hoff:∀l b,look (Gj m j0 j1 j2 j3 j4) l=some b->(∀i,(l,i)∉[(j0,0),(j1,1),(j2,2),(j3,3),(j4,4)])/\look m l=some b:=by
  intro l b h;obtain⟨⟨e0,e1,e2,e3,e4⟩,hl⟩:=ZM h;refine⟨fun i hi=>?_,hl⟩;rcases J4 hi with⟨h,_⟩|⟨h,_⟩|⟨h,_⟩|⟨h,_⟩|⟨h,_⟩<;>contradiction
 rintro d m1 ⟨rfl,hy⟩;cases out with
 |none=>
  refine⟨[],5,_,.bool false,⟨g3,by simp[gT],(Nat.le_add_right _ _:nx<=nx+4),g4,(fun _ _ h=>by cases h),g5, ?_⟩,.inl ⟨rfl,rfl⟩,hK⟩;intro l b h;obtain⟨k1,k2⟩:=hoff l b h;exact .inr ⟨rfl,k1,k2⟩
 |some y=>
  obtain⟨a1,a2,a3,a4,hf,hat⟩:=hy y rfl;have hg:uu j0 nx (nx+1) (nx+2) (nx+3)=true:=by
   simp only[uu,bd,de];refine⟨⟨⟨⟨⟨⟨⟨⟨⟨?_, ?_⟩, ?_⟩, ?_⟩, ?_⟩, ?_⟩, ?_⟩, ?_⟩, ?_⟩, ?_⟩<;>exact wB ae
  refine⟨[(0,j0),(a1,nx),(a2,nx+1),(a3,nx+2),(a4,nx+3)],5+a1+a2+a3+a4,_,.bool true,⟨g3,Xo hf hg dF,(Nat.le_add_right _ _:nx<=nx+4),g4, ?_,g5, ?_⟩,.inl ⟨rfl,rfl⟩,hK⟩
  .intro i l h;rcases J4 h with⟨rfl,rfl⟩|⟨rfl,rfl⟩|⟨rfl,rfl⟩|⟨rfl,rfl⟩|⟨rfl,rfl⟩
   .exact .inl (.head _)
   all_goals exact .inr dF
  .intro l b h;dsimp only at h;rw[Sk]at h;cases hl:look (wu (some y) j0 nx) l with
   |some c=>
    rw[hl]at h;obtain rfl:=bL h;exact .inl (rd_m hat hf rfl l c hl)
   |none=>
    rw[hl]at h;obtain⟨k1,k2⟩:=hoff l b h;refine .inr ⟨?_,k1,k2⟩;simp only[wu,YD,look]at hl;split at hl
    .cases hl
    .rename_i e0;split at hl
     .cases hl
     .rename_i e1;split at hl
      .cases hl
      .rename_i e2;split at hl
       .cases hl
       .rename_i e3;split at hl
        .cases hl
        .rename_i e4;simp only[me,ak e0,ak e1,ak e2,ak e3,ak e4,ak (Ne.symm e0),ak (Ne.symm e1),ak (Ne.symm e2),ak (Ne.symm e3),ak (Ne.symm e4)]
end
end
section
section
variable [dS] {P:Program} {ν:List (Nat×Nat)} {c8:List Nat} {t:List (Nat×rh)} {fid n key u k:Nat} {af:aC} {nx:Nat} {m:List (Nat×bX)} {K:D->St->Prop}
def Tc {s:fR}{r:Rec}(hmix:P.follows .mixedOrders=true)(hC:K0 P ν c8 fid af)(hnp:2=af.np)
  (hK1:¬(nD s r).2=0->K (.tup [.agg [.str [],.bq],.int .i64 (nD s r).2]) ⟨nx,m⟩)
  (hK2:(nD s r).2=0->K (.tup [.agg [.str s.name,.own nx 11 0 (oW s r).length],.int .i64 0]) ⟨nx+1,(nx,.buf 11 ((oW s r).map cx.D))::m⟩)
  (hw:bK ((under t key u).at 0) af.body (j5 af (PutQ s r)) (fF af [s.D,r.D]) ⟨0,[]⟩):pc P ν c8 (under t key u) fid [s.D,r.D] ⟨nx,m⟩ K:=by
 refine yh (σi:=[]) (m0:=[]) (cs:=[s.D,r.D]) (fun q=>wg t key u q) hmix hC rfl ?_ hnp rfl (fun _ _ h=>by cases h) (fun _ _ h=>by cases h) hw ?_
 .intro i hi
  match i,hi with
  |0,_=>exact .inl ⟨rfl,rfl⟩
  |1,_=>exact .inl ⟨rfl,rfl⟩
 .rintro d m1 (⟨h,rfl⟩|⟨h,j,rfl,hj⟩)
  .exact⟨[],0,_,_,⟨rfl,rfl,aL _,(fun _ _ h=>by cases h),(fun _ _ h=>by cases h),(fun _ _ h=>by cases h),fun l b h=>.inr ⟨rfl,(fun _ h=>by cases h),h⟩⟩,.inl ⟨rfl,rfl⟩,hK1 h⟩
  .refine⟨[(j,nx)],j+1,_,_,⟨rfl, ?_,Nat.le_succ _,(fun _ _ h=>by cases h), ?_,(fun _ _ h=>by cases h), ?_⟩,.inr (.inl (by simp[ra,oO,CR,lU])),hK2 h⟩
   .simp[gT]
   .intro i l h;obtain⟨rfl,rfl⟩:=Prod.mk.inj (cK.1 h);exact .inr (aL _)
   .intro l bb h;simp only[look]at h;split at h
    .rename_i e;subst e;obtain rfl:=bL h;exact .inl ⟨j,_,.head _,hj,rfl,.inl ⟨rfl,br (fun _=>rfl) _⟩⟩
    .rename_i hn;exact .inr ⟨by simp only[me,ak hn],(fun _ h=>by cases h),h⟩
def Q6 {nm t':au}{es:List cx}{y:cx}{lp ln:Nat}(hmix:P.follows .mixedOrders=true)(hC:K0 P ν c8 fid af)(hnp:3=af.np)
  (h1:look m lp=some (.buf 2 [.agg [.str nm,.own ln 11 0 es.length]])) (h2:look m ln=some (.buf 11 (es.map cx.D))) (h3:lp<nx) (h4:ln<nx)
  (hK1:¬(gJ es t' y.sum y.off).1=0->K (.int .i64 (gJ es t' y.sum y.off).1) ⟨nx,m⟩)
  (hK2:(gJ es t' y.sum y.off).1=0->K (.int .i64 0) ⟨nx+1,(nx,.buf 11 ((gJ es t' y.sum y.off).2.map cx.D))::dH (cJ m ln) lp (.buf 2 [.agg [.str nm,.own nx 11 0 (gJ es t' y.sum y.off).2.length]])⟩)
  (hw:bK ((under t key u).at 2) af.body (j5 af (AddQ nm es y t')) (fF af [.ptr 0 2 0 0,y.D,.str t']) ⟨2,[(0,.buf 2 [.agg [.str nm,.own 1 11 0 es.length]]),(1,.buf 11 (es.map cx.D))]⟩):pc P ν c8 (under t key u) fid [.ptr lp 2 0 0,y.D,.str t'] ⟨nx,m⟩ K:=by
 have hne:lp≠ln:=by
  rintro rfl;rw[h1]at h2;exact absurd (bX.buf.inj (bL h2)).1 aF
 have hb:=wB hne;have hb':=wB hne.symm;have hes:bH (es.map cx.D)=true:=br (fun _=>rfl) _;have g3:gT 0 2 [(lp,0),(ln,1)]=true:=by simp[gT,hb,hb'];rfl
 have g4:∀l i,(l,i)∈[(lp,0),(ln,1)]->look m l≠none:=fun l i h=>by
  rcases cb.1 h with h|h
  .obtain⟨rfl,rfl⟩:=Prod.mk.inj h;rw[h1];simp
  .obtain⟨rfl,rfl⟩:=Prod.mk.inj (cK.1 h);rw[h2];simp
 have g5:∀i bb,look [(0,.buf 2 [.agg [.str nm,.own 1 11 0 es.length]]),(1,.buf 11 (es.map cx.D))] i=some bb->∃l b',(l,i)∈[(lp,0),(ln,1)]/\look m l=some b'/\sS 0 [(lp,0),(ln,1)] b' bb:=fun i bb h=>by
  simp only[look]at h;split at h
  .rename_i e;subst e;obtain rfl:=bL h;exact⟨lp,_,.head _,h1,rfl,.inr (.inl (by simp[oO,ra,CR,lU,hb]))⟩
  .split at h
   .rename_i e;subst e;obtain rfl:=bL h;exact⟨ln,_,.tail _ (.head _),h2,rfl,.inl ⟨rfl,hes⟩⟩
   .cases h
 refine yh (σi:=[(lp,0),(ln,1)]) (cs:=[.ptr 0 2 0 0,y.D,.str t']) (fun q=>wg t key u q) hmix hC rfl ?_ hnp g3 g4 g5 hw ?_
 .intro i hi
  match i,hi with
  |0,_=>exact .inr (.inl (by simp[ra,CR,lU]))
  |1,_=>exact .inl ⟨rfl,rfl⟩
  |2,_=>exact .inl ⟨rfl,rfl⟩
 .rintro d m1 (⟨h,rfl,e0,e1⟩|⟨h,rfl,j,hj,e0,ej⟩)
  .refine⟨[(0,lp),(1,ln)],2,_,_,⟨g3, ?_,aL _,g4, ?_,g5, ?_⟩,.inl ⟨rfl,rfl⟩,hK1 h⟩
   .simp[gT,hb,hb'];exact⟨h3,rfl,h4⟩
   .intro i l h;rcases cb.1 h with h|h
    .obtain⟨rfl,rfl⟩:=Prod.mk.inj h;exact .inl (.head _)
    .obtain⟨rfl,rfl⟩:=Prod.mk.inj (cK.1 h);exact .inl (.tail _ (.head _))
   .intro l bb h;simp only at h;by_cases x1:l=lp
    .subst x1;rw[h1]at h;obtain rfl:=bL h;exact .inl ⟨0,_,.head _,e0,rfl,.inr (.inl (by simp only[oO,ra,CR,show lU 0 [(0,l),(1,ln)] 1=some ln from rfl]))⟩
    .by_cases x2:l=ln
     .subst x2;rw[h2]at h;obtain rfl:=bL h;exact .inl ⟨1,_,.tail _ (.head _),e1,rfl,.inl ⟨rfl,hes⟩⟩
     .exact .inr ⟨by simp only[me,ak (fun e=>x1 (Eq.symm e)),ak (fun e=>x2 (Eq.symm e))],(fun i hi=>by
       rcases cb.1 hi with hi|hi
       .exact x1 (Prod.mk.inj hi).1
       .exact x2 (Prod.mk.inj (cK.1 hi)).1),h⟩
  .have hj0:Nat.beq j 0=false:=by cases j<;>first|omega|rfl
   have h0j:Nat.beq 0 j=false:=by cases j<;>first|omega|rfl
   have hl1:Nat.beq lp nx=false:=wB ae;have hl2:Nat.beq nx lp=false:=wB ae;refine⟨[(0,lp),(j,nx)],j+1,_,_,⟨g3, ?_,Nat.le_succ _,g4, ?_,g5, ?_⟩,.inl ⟨rfl,rfl⟩,hK2 h⟩
   .simp[gT,hj0,h0j,hl1,hl2];omega
   .intro i l h;rcases cb.1 h with h|h
    .obtain⟨rfl,rfl⟩:=Prod.mk.inj h;exact .inl (.head _)
    .obtain⟨rfl,rfl⟩:=Prod.mk.inj (cK.1 h);exact .inr (aL _)
   .intro l bb h;simp only[look]at h;split at h
    .rename_i e;subst e;obtain rfl:=bL h;exact .inl ⟨j,_,.tail _ (.head _),ej,rfl,.inl ⟨rfl,br (fun _=>rfl) _⟩⟩
    .rename_i hln;rw[cL]at h;split at h
     .rename_i e;subst e;obtain rfl:=bL h;exact .inl ⟨0,_,.head _,e0,rfl,.inr (.inl (by simp[oO,ra,CR,lU,h0j]))⟩
     .rename_i hlp;rw[fV]at h;split at h
      .cases h
      .rename_i hl2;refine .inr ⟨by simp only[me,ak (fun e=>hlp (Eq.symm e)),ak hln],fun i hi=>?_,h⟩;rcases cb.1 hi with hi|hi
       .exact hlp (Prod.mk.inj hi).1
       .exact hl2 (Prod.mk.inj (cK.1 hi)).1
end
end
def Nq (T:List D->D->Prop):Prop:=∀(v:Int) (n:Int),(0<n/\n<=9223372036854775807)->T [.int .i64 v,.int .i64 n] (.int .i64 (v%n))
def N7 (Y:Ctx):Prop:=Nq (bz Y 478)
def Nr (T:List D->D->Prop):Prop:=∀(l:List Int) (i:Int),T [.sl 1 (l.map (D.int .i64)),.int .i64 i] (.int .i64 (kS l i))
def UC (Y:Ctx):Prop:=Nr (bz Y 479)
def MJ (T:List D->D->Prop):Prop:=∀(l:List Int) (i:Int) (n:Int),(0<n/\n<=9223372036854775807)->T [.sl 1 (l.map (D.int .i64)),.int .i64 i,.int .i64 n] (.int .i64 (fX l i n))
def Jb (Y:Ctx):Prop:=MJ (bz Y 228)
def MI (T:List D->D->Prop):Prop:=∀(n:Int),T [.int .i64 n] (.str (fh n))
def XE (Y:Ctx):Prop:=MI (bz Y 227)
def Nt (T:List D->D->Prop):Prop:=∀(n:Int),T [.int .i64 n] (.str (mW n))
def XW (Y:Ctx):Prop:=Nt (bz Y 481)
def ML (T:List D->D->Prop):Prop:=∀(l:List Int) (i:Int),(0<=i/\i<=4000000)->T [.sl 1 (l.map (D.int .i64)),.int .i64 i] (.str (uz l i))
def XF (Y:Ctx):Prop:=ML (bz Y 230)
def MM (T:List D->D->Prop):Prop:=∀(l:List Int) (i:Int),(0<=i/\i<=4000000)->T [.sl 1 (l.map (D.int .i64)),.int .i64 i] (.str (mU l i))
def XG (Y:Ctx):Prop:=MM (bz Y 231)
def Ns (T:List D->D->Prop):Prop:=∀(l:List Int) (i:Int) (own:Int) (alone:Bool),(0<=i/\i<=3000000)->(0<=own/\own<=1000000)->T [.sl 1 (l.map (D.int .i64)),.int .i64 i,.int .i64 own,.bool alone] (bT.D (mV l i own alone))
def C480 (Y:Ctx):Prop:=Ns (bz Y 480)
def MK (T:List D->D->Prop):Prop:=∀(l:List Int) (i:Int) (own:Int),(0<=i/\i<=2000000)->(0<=own/\own<=1000000)->T [.sl 1 (l.map (D.int .i64)),.int .i64 i,.int .i64 own] (bp.D (iu l i own))
def C229 (Y:Ctx):Prop:=MK (bz Y 229)
def Nu (T:List D->D->Prop):Prop:=∀(l:List au) (s:au),(l.length<=1000)->T [.sl 1 (l.map D.str),.str s] (.sl 1 ((ic l s).map D.str))
def C483 (Y:Ctx):Prop:=Nu (bz Y 483)
def MN (T:List D->D->Prop):Prop:=∀(l:List Int) (i:Int) (r:Rec),(0<=i/\i<=2000000)->(∀j:Nat,j<r.needs.length->r.needs[j]!.option.length<=100/\(r.needs[j]!.any.length=1->r.needs[j]!.any[0]!.name.length<=100))->T [.sl 1 (l.map (D.int .i64)),.int .i64 i,Rec.D r] (.sl 2 ((kp l i r).map b7.D))
def C232 (Y:Ctx):Prop:=MN (bz Y 232)
def Um (T:List D->D->Prop):Prop:=∀(l:List Int) (i:Int) (own:Int),(0<=i/\i<=1000000)->(0<=own/\own<=100000)->T [.sl 1 (l.map (D.int .i64)),.int .i64 i,.int .i64 own] (Rec.D (CF l i own))
def C79 (Y:Ctx):Prop:=Um (bz Y 79)
def NP (T:List D->D->Prop):Prop:=∀(x:Int),T [.int .i64 x] (.bool false)
def C714 (Y:Ctx):Prop:=NP (bz Y 714)
def NO (T:List D->D->Prop):Prop:=∀(x:au),T [.str x] (.bool false)
def C704 (Y:Ctx):Prop:=NO (bz Y 704)
def zU (T:List D->D->Prop):Prop:=∀(a:Int) (b:Int),T [.int .i64 a,.int .i64 b] (.int .i64 (fE a b))
def X0 (Y:Ctx):Prop:=zU (bz Y 532)
def zT (T:List D->D->Prop):Prop:=∀(a:au) (b:au),T [.str a,.str b] (.int .i64 (Cz a b))
def C516 (Y:Ctx):Prop:=zT (bz Y 516)
def Ny (T:List D->D->Prop):Prop:=∀(l:List Int),T [.sl 1 (l.map (D.int .i64))] (.int .i64 (fL (fun i=>l[i]!) 0 l.length))
def C531 (Y:Ctx):Prop:=Ny (bz Y 531)
def Nx (T:List D->D->Prop):Prop:=∀(v:cq),T [cq.D v] (cq.D (xZ v))
def C530 (Y:Ctx):Prop:=Nx (bz Y 530)
def zW (T:List D->D->Prop):Prop:=∀(a:au) (b:au),T [.str a,.str b] (.int .i64 (tN a b))
def C534 (Y:Ctx):Prop:=zW (bz Y 534)
def zG (T:List D->D->Prop):Prop:=∀(a:cq) (b:cq),(a.sm/\b.sm)->T [cq.D a,cq.D b] (.int .i64 (pR a b))
def XJ (Y:Ctx):Prop:=zG (bz Y 295)
def F3 (T:List D->D->Prop):Prop:=∀(r:Rec),(fC r)->T [Rec.D r] (.tup [.str (dw r).1,.int .i64 (dw r).2])
def C72 (Y:Ctx):Prop:=F3 (bz Y 72)
def F4 (T:List D->D->Prop):Prop:=∀(r:Rec),(fC r)->T [Rec.D r] (.tup [.int .u64 (m9 r),.int .i64 (dw r).2])
def C74 (Y:Ctx):Prop:=F4 (bz Y 74)
def Ac (T:List D->D->Prop):Prop:=∀(a:cq) (b:cq),(a.sm/\b.sm)->T [cq.D a,cq.D b] (.bool (Bn a b))
def C701 (Y:Ctx):Prop:=Ac (bz Y 701)
def NN (T:List D->D->Prop):Prop:=∀(x:cx) (nm:au) (v:cq),(x.r.v.sm/\v.sm)->T [cx.D x,.ref 1 [.str nm] 0 0,.ref 5 [cq.D v] 0 0] (.bool (Ha nm v x))
def C700 (Y:Ctx):Prop:=NN (bz Y 700)
def NM (T:List D->D->Prop):Prop:=∀(l:List cx) (nm:au) (v:cq),((∀x∈l,x.r.v.sm)/\v.sm)->T [.sl 11 (l.map cx.D),.fn 700 [.ref 1 [.str nm] 0 0,.ref 5 [cq.D v] 0 0]] (.int .i64 (tM l nm v 0))
def C699 (Y:Ctx):Prop:=NM (bz Y 699)
def zS (T:List D->D->Prop):Prop:=∀(l:List cx) (nm:au) (v:cq),((∀x∈l,x.r.v.sm)/\v.sm)->T [.sl 11 (l.map cx.D),.str nm,cq.D v] (.int .i64 (tM l nm v 0))
def C511 (Y:Ctx):Prop:=zS (bz Y 511)
def zI (T:List D->D->Prop):Prop:=∀(s:fR),(∀x∈s.es,fC x.r)->T [fR.D s] (.bool (kA s))
def C353 (Y:Ctx):Prop:=zI (bz Y 353)
def MO (T:List D->D->Prop):Prop:=∀(s:au),(s.length<=1048576)->T [.str s,.str [10]] (.sl 1 ((jL s).map D.str))
def C239 (Y:Ctx):Prop:=MO (bz Y 239)
def MU (T:List D->D->Prop):Prop:=∀(s:au),(s.length<=1048576)->T [.str s] (.sl 1 ((cD s).map D.str))
def C252 (Y:Ctx):Prop:=MU (bz Y 252)
def MV (T:List D->D->Prop):Prop:=∀(s:au),(s.length<=1048576)->T [.str s] (.tup [.str (bW s).1,.bool (bW s).2])
def Uw (Y:Ctx):Prop:=MV (bz Y 253)
def MY (T:List D->D->Prop):Prop:=∀(s:au),(s.length<=1048576)->T [.str s] (.bool (wN s))
def C256 (Y:Ctx):Prop:=MY (bz Y 256)
def MX (T:List D->D->Prop):Prop:=∀(s:au),(s.length<=1048576)->T [.str s] (.tup [.int .u64 (iN s).1,.bool (iN s).2.1,.bool (iN s).2.2])
def C255 (Y:Ctx):Prop:=MX (bz Y 255)
def MZ (T:List D->D->Prop):Prop:=∀(s:fR) (r:Rec) (n:Int),(fC r/\∀x∈s.es,x.r.v.sm)->T [fR.D s,Rec.D r,.int .u64 n] (.int .i64 (jg s.es r n))
def C257 (Y:Ctx):Prop:=MZ (bz Y 257)
def zF (T:List D->D->Prop):Prop:=∀(s:fR),(∀x∈s.es,fC x.r)->T [fR.D s] (.tup [.str (jd s).1,.int .i64 (jd s).2])
def C251 (Y:Ctx):Prop:=zF (bz Y 251)
def Un (T:List D->D->Prop):Prop:=T [] (.bool true)
def C85 (Y:Ctx):Prop:=Un (bz Y 85)
def UF (Y:Ctx):Prop:=zU (bz Y 630)
def C927 (Y:Ctx):Prop:=zT (bz Y 927)
def C783 (Y:Ctx):Prop:=zW (bz Y 783)
def NA (T:List D->D->Prop):Prop:=∀(a:au) (b:au),(a.length<=1048576/\b.length<=1048576)->T [.str a,.str b] (.int .i64 (xr a b))
def C631 (Y:Ctx):Prop:=NA (bz Y 631)
def C424 (Y:Ctx):Prop:=zG (bz Y 424)
def Ng (T:List D->D->Prop):Prop:=∀(w:bT),(w.fit)->T [bT.D w] (.str (jQ w))
def C461 (Y:Ctx):Prop:=Ng (bz Y 461)
def Nh (T:List D->D->Prop):Prop:=∀(s:au),(s.length<=1048576)->T [.str s] (.str (ix s))
def C462 (Y:Ctx):Prop:=Nh (bz Y 462)
def C73 (Y:Ctx):Prop:=F3 (bz Y 73)
def C75 (Y:Ctx):Prop:=F4 (bz Y 75)
def XY (Y:Ctx):Prop:=Ac (bz Y 501)
def X2 (Y:Ctx):Prop:=zS (bz Y 580)
def XK (Y:Ctx):Prop:=zI (bz Y 358)
def Np (T:List D->D->Prop):Prop:=∀(a:bT) (b:bT),T [bT.D a,bT.D b] (.bool (decide (a=b)))
def C477 (Y:Ctx):Prop:=Np (bz Y 477)
def MG (T:List D->D->Prop):Prop:=∀(a:bp) (b:bp),T [bp.D a,bp.D b] (.bool (decide (a=b)))
def C225 (Y:Ctx):Prop:=MG (bz Y 225)
def Ul (T:List D->D->Prop):Prop:=∀(a:Rec) (b:Rec),T [Rec.D a,Rec.D b] (.bool (decide (a=b)))
def C78 (Y:Ctx):Prop:=Ul (bz Y 78)
def M5 (T:List D->D->Prop):Prop:=∀(a:cx) (b:cx),T [cx.D a,cx.D b] (.bool (decide (a.sum=b.sum)&&decide (a.r=b.r)))
def C263 (Y:Ctx):Prop:=M5 (bz Y 263)
def Uo (T:List D->D->Prop):Prop:=∀(a:fR) (b:fR),T [fR.D a,fR.D b] (.bool (decide (a=b)))
def C88 (Y:Ctx):Prop:=Uo (bz Y 88)
def XZ (Y:Ctx):Prop:=∀(s:fR) (r:Rec),((∀x∈s.es,fC x.r)/\fC r)->∀(nx:Nat) (m:List (Nat×bX)) (K:D->St->Prop),(¬(nD s r).2=0->K (.tup [.agg [.str [],.bq],.int .i64 (nD s r).2]) ⟨nx,m⟩)->((nD s r).2=0->K (.tup [.agg [.str s.name,.own nx 11 0 (oW s r).length],.int .i64 0]) ⟨nx+1,(nx,.buf 11 ((oW s r).map cx.D))::m⟩)->Y.tr 504 [fR.D s,Rec.D r] ⟨nx,m⟩ K
def IZ (T:List D->D->Prop):Prop:=∀(l:List Int) (i:Int) (nm:au) (most:Nat),((0<=i/\i<=100000)/\most<=60/\dL nm=true)->T [.sl 1 (l.map (D.int .i64)),.int .i64 i,.str nm,.int .i64 (most:Nat)] (fR.D (Cu l i nm most))
def WK (Y:Ctx):Prop:=IZ (bz Y 1203)
def NL (T:List D->D->Prop):Prop:=∀(c:Int),(0<=c/\c<256)->T [.int .u8 c] (.int .i64 (if jI c=true then rp c else-1))
def C688 (Y:Ctx):Prop:=NL (bz Y 688)
def C500 (Y:Ctx):Prop:=zR (bz Y 500)
def F6 (T:List D->D->Prop):Prop:=∀(s:au),(s.length<=1048576)->T [.str s] (.tup [fR.D (hX s).1,.int .i64 (hX s).2.1,.int .i64 (hX s).2.2])
def C86 (Y:Ctx):Prop:=F6 (bz Y 86)
def M3 (T:List D->D->Prop):Prop:=∀(t:au),(t.length<=1048576)->T [.str t] (.str (fw t))
def C260 (Y:Ctx):Prop:=M3 (bz Y 260)
def M0 (T:List D->D->Prop):Prop:=∀(t:au),(t.length<=1048576)->T [.str t] (.tup [.str ((ib t).getD []),.bool (ib t).isSome])
def C258 (Y:Ctx):Prop:=M0 (bz Y 258)
def M1 (T:List D->D->Prop):Prop:=∀(t:au),(t.length<=1048576)->T [.str t] (.tup [cx.D (⟨hH,(fP t).1,(fP t).2.1⟩:cx),.bool (fP t).2.2])
def C259 (Y:Ctx):Prop:=M1 (bz Y 259)
def M4 (T:List D->D->Prop):Prop:=∀(l:List au) (en:Bool),((aS [10] l).length<=1099511627770)->T [.sl 1 (l.map D.str),.bool en] (.str (jO l en))
def C262 (Y:Ctx):Prop:=M4 (bz Y 262)
def XI (Y:Ctx):Prop:=∀(nm:au) (es:List cx) (x:cx) (t:au),Ua es->∀(nx lp ln:Nat) (m:List (Nat×bX)) (K:D->St->Prop),look m lp=some (.buf 2 [.agg [.str nm,.own ln 11 0 es.length]])->look m ln=some (.buf 11 (es.map cx.D))->lp<nx->ln<nx->(¬(gJ es t x.sum x.off).1=0->K (.int .i64 (gJ es t x.sum x.off).1) ⟨nx,m⟩)->((gJ es t x.sum x.off).1=0->K (.int .i64 0) ⟨nx+1,(nx,.buf 11 ((gJ es t x.sum x.off).2.map cx.D))::dH (cJ m ln) lp (.buf 2 [.agg [.str nm,.own nx 11 0 (gJ es t x.sum x.off).2.length]])⟩)->Y.tr 261 [.ptr lp 2 0 0,cx.D x,.str t] ⟨nx,m⟩ K
def C87 (Y:Ctx):Prop:=F6 (bz Y 87)
def WJ (Y:Ctx):Prop:=zF (bz Y 1202)
section
section
variable {Y:Ctx} {draw:Bool} {r:List GI} {env rs:List ch} {nx:Nat} {m:List (Nat×bX)} {K:List ch->St->Prop} {g:Option (Nat×Bool)} {f:Bool}
def r_mn {x y:Src}{fx fy:Bool}{k k2:IntKind}{a b:Int}(v:Int)(h:aM Y draw r env (⟨f,.int k v⟩::rs) nx m K)(hg:GF rs g f:=by first|exact rfl|exact⟨_,_,rfl,rfl⟩)(hx:cQ env rs x=⟨fx,.int k a⟩:=by exact rfl)(hy:cQ env rs y=⟨fy,.int k2 b⟩:=by exact rfl)(kx:f=true->fx=true:=by first|exact fun _=>rfl|exact fun h=>h|(intro h;simp_all))(ky:f=true->fy=true:=by first|exact fun _=>rfl|exact fun h=>h|(intro h;simp_all))(hv:f=true->(if b<a then b else a)=v):aM Y draw (⟨.mn x y,g⟩::r) env rs nx m K:=
 cg rfl hg _ (fun hf=>by simp[aV.eA,hx,hy,kx hf,ky hf]) (fun hf=>by simp only[aV.val,hx,hy];rw[hv hf]) (fun _=>h)
end
end
def IY (T:List D->D->Prop):Prop:=∀(l:List Int) (a:Int) (c:Int) (b:au),T [.sl 1 (l.map (D.int .i64)),.int .i64 a,.int .i64 c,.str b] (.bool true)
def bB {p:Prop}(h:p:=by((repeat intro _);exact okp Jr (.inl (by assumption)) fun T hT=>(by apply hT<;>assumption))):p:=h
def bm {t:List (Nat×rh)}{key u q:Nat}:((under t key u).at q).b8:=wg t key u q
section
def YQ:List D->Nat
 |_::.int _ (.ofNat 4)::_=>3
 |_=>1
def A124 (T:RT):Prop:=MB T/\I0 T
def A222 (T:FT):Prop:=∀(r:Ld),(r.sm)->T (Ld.D r) [] (.tup [Rec.D (gy r.rest).1,.bool (oX r.rest).isSome]) (Ld.D (r.to (gy r.rest).2))
def D222:Al (pJ A222):=U1
def A465 (T:FT):Prop:=∀(r:Ld) (w:au) (n:Nat) (op:Bool),(r.sm)->(n<=1000)->(op=true->1<=n)->T (Ld.D r) [.str w,.int .i64 (n:Nat),.bool op] (.tup [CL (cj w n op r.rest),.bool (cj w n op r.rest).isSome]) (Ld.D (r.after (cj w n op r.rest)))
def D465:Al (pJ A465):=U1
def A467 (T:FT):Prop:=∀(r:Ld),(r.sm)->T (Ld.D r) [] (bp.D (eR r.rest).1) (Ld.D (r.to (eR r.rest).2))
def D467:Al (pJ A467):=U1
def A468 (T:FT):Prop:=∀(r:Ld),(r.sm)->T (Ld.D r) [] (.str (cz r.rest).1) (Ld.D (r.to (cz r.rest).2))
def D468:Al (pJ A468):=U1
def u811:List D->Nat:=fun ds=>2*(match ds.getD 1 .any with| .int _ i=>i.toNat|_=>0)
def u951:List D->Nat:=fun ds=>2*(match ds.getD 1 .any with| .int _ i=>i.toNat|_=>0)+1
def u1036:List D->Nat:=fun ds=>2*(match ds.getD 1 .any with| .int _ i=>i.toNat|_=>0)
def D1197:Det (E9 IY):=Jr
def aY:List (Nat×rh):=[(70,rP 14 F2),(71,rP 14 F2),(72,rP 15 F3),(73,rP 15 F3),(74,rP 16 F4),(75,rP 16 F4),(76,rP 15 F5),(77,rP 15 F5),(78,rP 4 Ul),(79,rP 10 Um),(85,rP 19 Un),(86,rP 18 F6),(87,rP 18 F6),(88,rP 6 Uo),(124,rP 1 A124),(208,rP 1 zz),(209,rP 4 zA),(210,rP 13 zB),(211,rP 11 MC),(212,rP 6 zC),(213,rP 3 zO),(214,rP 3 MD),(215,rP 6 zD),(216,rP 2 zz),(217,rP 4 zA),(218,rP 13 ME),(219,rP 6 zD),(220,rP 2 zE),(221,rP 2 zE),(222,rF 7 A222),(223,rP 2 MF),(224,rG 7 XC),(225,rP 3 MG),(226,rP 1 MH),(227,rP 2 MI),(228,rP 2 MJ),(229,rP 9 MK),(230,rP 7 ML),(231,rP 3 MM),(232,rP 2 MN),(239,rP 2 MO),(242,rP 1 MP),(244,rP 1 MQ),(245,rP 1 MR),(246,rP 2 MS),(249,rP 1 MT),(251,rP 18 zF),(252,rP 3 MU),(253,rP 2 MV),(254,rP 1 MW),(255,rP 3 MX),(256,rP 3 MY),(257,rP 17 MZ),(258,rP 3 M0),(259,rP 3 M1),(260,rP 2 M3),(261,rG 17 XI),(262,rP 2 M4),(263,rP 5 M5),(295,rP 5 zG),(313,rP 1 zQ),(316,rP 5 zN),(331,rP 1 M6),(336,rP 1 tE),(349,rP 1 zH),(353,rP 17 zI),(357,rP 2 zH),(358,rP 17 zI),(424,rP 5 zG),(440,rP 1 zJ),(441,rP 3 M7),(442,rP 2 M8),(443,rP 12 zK),(444,rP 10 zX),(445,rP 5 zL),(446,rP 5 zM),(447,rP 1 Ag),(448,rP 2 z8),(449,rP 2 Ah),(450,rG 2 XN),(451,rP 5 zN),(452,rG 1 Ux),(453,rP 1 M9),(454,rP 1 Na),(455,rP 1 zJ),(456,rP 3 Nb),(457,rP 12 zB),(458,rP 11 Nc),(459,rP 5 zO),(460,rP 4 Nf),(461,rP 2 Ng),(462,rP 1 Nh),(463,rP 1 Ni),(464,rP 1 Nj),(465,rFG 3 A465 KZ),(466,rP 6 zP),(467,rF 5 A467),(468,rF 4 A468),(469,rP 1 Nk),(470,rP 1 zV),(471,rG 6 XR),(472,rG 3 XS),(473,rG 3 XT),(474,rP 1 Nl),(475,rP 2 Nn),(476,rG 2 XV),(477,rP 2 Np),(478,rP 1 Nq),(479,rP 1 Nr),(480,rP 8 Ns),(481,rP 2 Nt),(482,rP 6 Ai),(483,rP 1 Nu),(487,rP 1 Nv),(489,rG 1 UE),(494,rP 1 Nw),(495,rP 9 Ad),(496,rP 8 Ae),(497,rP 2 zQ),(499,rP 1 zR),(500,rP 2 zR),(501,rP 6 Ac),(504,rG 18 XZ),(511,rP 9 zS),(516,rP 2 zT),(530,rP 1 Nx),(531,rP 1 Ny),(532,rP 2 zU),(533,rP 1 zV),(534,rP 3 zW),(554,rP 3 Nz),(568,rP 5 zP),(572,rP 10 zX),(580,rP 7 zS),(630,rP 1 zU),(631,rP 4 NA),(658,rP 1 zY),(659,rP 1 zZ),(660,rG 4 X4 (Fc fun _=>4)),(661,rP 4 z6),(662,rP 3 z7),(663,rP 1 Ak),(664,rG 1 X7),(665,rP 2 tE),(666,rP 1 NB),(667,rP 2 zY),(668,rP 1 zZ),(669,rP 11 zK),(670,rP 7 zC),(671,rP 4 NC),(672,rP 3 z8),(673,rP 1 ND),(674,rP 1 NF),(675,rP 1 NG),(676,rP 5 Aa),(677,rG 3 Yd),(678,rP 1 Ab),(682,rP 8 NH),(683,rP 1 NI),(684,rP 7 NJ),(685,rP 8 Aj),(686,rP 1 NK),(688,rP 1 NL),(699,rP 8 NM),(700,rP 7 NN),(701,rP 6 Ac),(704,rP 1 NO),(714,rP 1 NP),(734,rP 2 tE),(741,rP 1 NQ),(742,rP 3 NR),(744,rP 8 Ad),(745,rP 9 Ae),(783,rP 3 zW),(808,rG 4 C808 (Fc YQ)),(809,rG 4 C809 (Fc fun _=>2)),(810,rP 2 NS),(811,rP 2 Af u811),(812,rP 3 NT),(813,rP 6 zL),(814,rP 6 zM),(815,rP 1 Ag),(816,rP 2 Ah),(819,rP 7 NU),(827,rP 5 Aa),(828,rP 6 Ai),(882,rP 1 NV),(896,rP 1 NW),(897,rP 7 NX),(898,rP 1 NY),(899,rP 6 NZ),(900,rP 7 N0),(901,rP 8 Aj),(927,rP 1 zT),(946,rP 1 N1),(947,rG 2 N9),(948,rG 1 QS),(949,rG 4 C949 (Fc fun _=>0)),(950,rP 1 N2),(951,rP 2 Wz u951),(952,rG 4 Yl (Fc fun _=>2)),(953,rP 5 z6),(954,rP 3 z7),(955,rP 1 Ak),(956,rP 1 wj),(957,rP 1 Ab),(1006,rP 2 IM),(1007,rP 1 IP),(1008,rP 3 IQ),(1031,rG 3 QH),(1032,rG 4 C1032 (Fc fun _=>1)),(1033,rG 1 Ge),(1034,rG 1 CW),(1035,rP 4 IU),(1036,rP 2 Af u1036),(1079,rP 1 wj),(1097,rG 4 C1097 (Fc fun _=>0)),(1098,rP 3 IV),(1099,rP 1 IW),(1100,rP 1 IX),(1126,rG 3 QL),(1141,rG 1 QM),(1197,rP 20 IY),(1202,rP 18 zF),(1203,rP 19 IZ)]
variable {k u v:Nat}
def G70 (hk:14<k:=by decide):C70 (under aY k u):=bB
def G71 (hk:14<k:=by decide):C71 (under aY k u):=bB
def G72 (hk:15<k:=by decide):C72 (under aY k u):=bB
def G73 (hk:15<k:=by decide):C73 (under aY k u):=bB
def G74 (hk:16<k:=by decide):C74 (under aY k u):=bB
def G75 (hk:16<k:=by decide):C75 (under aY k u):=bB
def G76 (hk:15<k:=by decide):C76 (under aY k u):=bB
def G77 (hk:15<k:=by decide):C77 (under aY k u):=bB
def G78 (hk:4<k:=by decide):C78 (under aY k u):=bB
def G79 (hk:10<k:=by decide):C79 (under aY k u):=bB
def G85 (hk:19<k:=by decide):C85 (under aY k u):=bB
def G86 (hk:18<k:=by decide):C86 (under aY k u):=bB
def G9086 (hk:18<k:=by decide):WM (under aY k u):=fun s h1 _=>G86 hk s h1
def G87 (hk:18<k:=by decide):C87 (under aY k u):=bB
def G88 (hk:6<k:=by decide):C88 (under aY k u):=bB
def QW (hk:1<k:=by decide):N4 (under aY k u):=fun s b hp=>okp Jr (.inl hk) fun T h=>h.1 s b hp
def G9124 (hk:1<k:=by decide):WN (under aY k u):=fun s hp=>okp Jr (.inl hk) fun T h=>h.2 s hp
def QX (hk:1<k:=by decide):N5 (under aY k u):=bB
def Ob (hk:4<k:=by decide):I8 (under aY k u):=bB
def G210 (hk:13<k:=by decide):C210 (under aY k u):=bB
def G211 (hk:11<k:=by decide):Xx (under aY k u):=bB
def G212 (hk:6<k:=by decide):Xy (under aY k u):=bB
def G213 (hk:3<k:=by decide):C213 (under aY k u):=bB
def G214 (hk:3<k:=by decide):C214 (under aY k u):=bB
def G215 (hk:6<k:=by decide):Xz (under aY k u):=bB
def Oc (hk:2<k:=by decide):I9 (under aY k u):=bB
def Od (hk:4<k:=by decide):Ja (under aY k u):=bB
def G218 (hk:13<k:=by decide):C218 (under aY k u):=bB
def G219 (hk:6<k:=by decide):XA (under aY k u):=bB
def G220 (hk:2<k:=by decide):C220 (under aY k u):=bB
def G221 (hk:2<k:=by decide):C221 (under aY k u):=bB
def G222 (hk:7<k:=by decide):C222 (under aY k u):=fun r hp0=>okf D222 hk fun T h=>h r hp0
def G223 (hk:2<k:=by decide):XB (under aY k u):=bB
def G224 (hk:7<k:=by decide):XC (under aY k u):=fun x t hp0 hp1 hp2 nx j0 j1 j2 j3 j4 m K h1 h2 h3 hK=>vj (.inl hk) fun T _ h=>h x t hp0 hp1 hp2 nx j0 j1 j2 j3 j4 m K h1 h2 h3 hK
def G225 (hk:3<k:=by decide):C225 (under aY k u):=bB
def G226 (hk:1<k:=by decide):XD (under aY k u):=bB
def G227 (hk:2<k:=by decide):XE (under aY k u):=bB
def Oe (hk:2<k:=by decide):Jb (under aY k u):=bB
def G229 (hk:9<k:=by decide):C229 (under aY k u):=bB
def G230 (hk:7<k:=by decide):XF (under aY k u):=bB
def G231 (hk:3<k:=by decide):XG (under aY k u):=bB
def G232 (hk:2<k:=by decide):C232 (under aY k u):=bB
def G239 (hk:2<k:=by decide):C239 (under aY k u):=bB
def UJ (hk:1<k:=by decide):QN (under aY k u):=bB
def G244 (hk:1<k:=by decide):C244 (under aY k u):=bB
def G245 (hk:1<k:=by decide):C245 (under aY k u):=bB
def G246 (hk:2<k:=by decide):C246 (under aY k u):=bB
def QY (hk:1<k:=by decide):N6 (under aY k u):=bB
def G251 (hk:18<k:=by decide):C251 (under aY k u):=bB
def G252 (hk:3<k:=by decide):C252 (under aY k u):=bB
def Yr (hk:2<k:=by decide):Uw (under aY k u):=bB
def G254 (hk:1<k:=by decide):XH (under aY k u):=bB
def G255 (hk:3<k:=by decide):C255 (under aY k u):=bB
def G256 (hk:3<k:=by decide):C256 (under aY k u):=bB
def G257 (hk:17<k:=by decide):C257 (under aY k u):=bB
def G258 (hk:3<k:=by decide):C258 (under aY k u):=bB
def G259 (hk:3<k:=by decide):C259 (under aY k u):=bB
def G260 (hk:2<k:=by decide):C260 (under aY k u):=bB
def G261 (hk:17<k:=by decide):XI (under aY k u):=fun nm es y t hp0 nx lp ln m K h1 h2 h3 h4 hK1 hK2=>vj (.inl hk) fun T _ h=>h nm es y t hp0 nx lp ln m K h1 h2 h3 h4 hK1 hK2
def G262 (hk:2<k:=by decide):C262 (under aY k u):=bB
def G263 (hk:5<k:=by decide):C263 (under aY k u):=bB
def G295 (hk:5<k:=by decide):XJ (under aY k u):=bB
def G313 (hk:1<k:=by decide):C313 (under aY k u):=bB
def G316 (hk:5<k:=by decide):C316 (under aY k u):=bB
def G331 (hk:1<k:=by decide):C331 (under aY k u):=bB
def G336 (hk:1<k:=by decide):C336 (under aY k u):=bB
def Of (hk:1<k:=by decide):Jc (under aY k u):=bB
def G353 (hk:17<k:=by decide):C353 (under aY k u):=bB
def Og (hk:2<k:=by decide):Jd (under aY k u):=bB
def G358 (hk:17<k:=by decide):XK (under aY k u):=bB
def G424 (hk:5<k:=by decide):C424 (under aY k u):=bB
def G440 (hk:1<k:=by decide):C440 (under aY k u):=bB
def G441 (hk:3<k:=by decide):C441 (under aY k u):=bB
def G442 (hk:2<k:=by decide):XL (under aY k u):=bB
def G443 (hk:12<k:=by decide):C443 (under aY k u):=bB
def G444 (hk:10<k:=by decide):C444 (under aY k u):=bB
def G445 (hk:5<k:=by decide):C445 (under aY k u):=bB
def G446 (hk:5<k:=by decide):C446 (under aY k u):=bB
def G447 (hk:1<k:=by decide):C447 (under aY k u):=bB
def G448 (hk:2<k:=by decide):XM (under aY k u):=bB
def G449 (hk:2<k:=by decide):C449 (under aY k u):=bB
def G450 (hk:2<k:=by decide):XN (under aY k u):=fun ws t l lw nx m K h1 h2 h3 h4 h5 hK=>vj (.inl hk) fun T _ h=>h ws t l lw nx m K h1 h2 h3 h4 h5 hK
def G451 (hk:5<k:=by decide):XO (under aY k u):=bB
def G452 (hk:1<k:=by decide):Ux (under aY k u):=fun ds st K h1=>vj (.inl hk) fun T _ h=>h ds st K h1
def G453 (hk:1<k:=by decide):XP (under aY k u):=bB
def Ys (hk:1<k:=by decide):Uy (under aY k u):=bB
def G455 (hk:1<k:=by decide):C455 (under aY k u):=bB
def G456 (hk:3<k:=by decide):C456 (under aY k u):=bB
def G457 (hk:12<k:=by decide):C457 (under aY k u):=bB
def G458 (hk:11<k:=by decide):C458 (under aY k u):=bB
def G459 (hk:5<k:=by decide):C459 (under aY k u):=bB
def G460 (hk:4<k:=by decide):C460 (under aY k u):=bB
def G461 (hk:2<k:=by decide):C461 (under aY k u):=bB
def G462 (hk:1<k:=by decide):C462 (under aY k u):=bB
def G463 (hk:1<k:=by decide):C463 (under aY k u):=bB
def G464 (hk:1<k:=by decide):C464 (under aY k u):=bB
def G465 (hk:3<k:=by decide):Uz (under aY k u):=fun r w n op hp0 hp1 hp2=>okf D465 hk fun T h=>h r w n op hp0 hp1 hp2
def G9465 (hk:3<k:=by decide):KZ (under aY k u):=fun r w n op l nx m K h1 h2 h3 h4 hK=>vj (.inl hk) fun T _ h=>h r w n op l nx m K h1 h2 h3 h4 hK
def G466 (hk:6<k:=by decide):C466 (under aY k u):=bB
def G467 (hk:5<k:=by decide):XQ (under aY k u):=fun r hp0=>okf D467 hk fun T h=>h r hp0
def G468 (hk:4<k:=by decide):UA (under aY k u):=fun r hp0=>okf D468 hk fun T h=>h r hp0
def G469 (hk:1<k:=by decide):C469 (under aY k u):=bB
def vl (hk:1<k:=by decide):tZ (under aY k u):=bB
def G471 (hk:6<k:=by decide):XR (under aY k u):=fun x l hp0 nx j0 j1 j2 j3 j4 m K h1 h2 h3 hK=>vj (.inl hk) fun T _ h=>h x l hp0 nx j0 j1 j2 j3 j4 m K h1 h2 h3 hK
def G472 (hk:3<k:=by decide):XS (under aY k u):=fun x t hp0 hp1 hp2 hp3 nx j0 j1 j2 j3 j4 m K h1 h2 h3 hK=>vj (.inl hk) fun T _ h=>h x t hp0 hp1 hp2 hp3 nx j0 j1 j2 j3 j4 m K h1 h2 h3 hK
def G473 (hk:3<k:=by decide):XT (under aY k u):=fun x t hp0 hp1 hp2 hp3 hp4 nx j0 j1 j2 j3 j4 m K h1 h2 h3 hK=>vj (.inl hk) fun T _ h=>h x t hp0 hp1 hp2 hp3 hp4 nx j0 j1 j2 j3 j4 m K h1 h2 h3 hK
def G474 (hk:1<k:=by decide):XU (under aY k u):=bB
def Yt (hk:2<k:=by decide):UB (under aY k u):=bB
def G476 (hk:2<k:=by decide):XV (under aY k u):=fun x l hp0 hp1 nx j0 j1 j2 j3 j4 m K h1 h2 h3 hK=>vj (.inl hk) fun T _ h=>h x l hp0 hp1 nx j0 j1 j2 j3 j4 m K h1 h2 h3 hK
def G477 (hk:2<k:=by decide):C477 (under aY k u):=bB
def QZ (hk:1<k:=by decide):N7 (under aY k u):=bB
def Yu (hk:1<k:=by decide):UC (under aY k u):=bB
def G480 (hk:8<k:=by decide):C480 (under aY k u):=bB
def G481 (hk:2<k:=by decide):XW (under aY k u):=bB
def Yv (hk:6<k:=by decide):UD (under aY k u):=bB
def G483 (hk:1<k:=by decide):C483 (under aY k u):=bB
def G487 (hk:1<k:=by decide):XX (under aY k u):=bB
def G489 (hk:1<k:=by decide):UE (under aY k u):=fun ds st K h1=>vj (.inl hk) fun T _ h=>h ds st K h1
def G494 (hk:1<k:=by decide):C494 (under aY k u):=bB
def G495 (hk:9<k:=by decide):C495 (under aY k u):=bB
def G496 (hk:8<k:=by decide):C496 (under aY k u):=bB
def G497 (hk:2<k:=by decide):C497 (under aY k u):=bB
def G499 (hk:1<k:=by decide):C499 (under aY k u):=bB
def G500 (hk:2<k:=by decide):C500 (under aY k u):=bB
def G501 (hk:6<k:=by decide):XY (under aY k u):=bB
def G504 (hk:18<k:=by decide):XZ (under aY k u):=fun s r hp0 nx m K hK1 hK2=>vj (.inl hk) fun T _ h=>h s r hp0 nx m K hK1 hK2
def G511 (hk:9<k:=by decide):C511 (under aY k u):=bB
def G516 (hk:2<k:=by decide):C516 (under aY k u):=bB
def G530 (hk:1<k:=by decide):C530 (under aY k u):=bB
def G531 (hk:1<k:=by decide):C531 (under aY k u):=bB
def G532 (hk:2<k:=by decide):X0 (under aY k u):=bB
def Q0 (hk:1<k:=by decide):N8 (under aY k u):=bB
def G534 (hk:3<k:=by decide):C534 (under aY k u):=bB
def G554 (hk:3<k:=by decide):C554 (under aY k u):=bB
def G568 (hk:5<k:=by decide):C568 (under aY k u):=bB
def G572 (hk:10<k:=by decide):X1 (under aY k u):=bB
def G580 (hk:7<k:=by decide):X2 (under aY k u):=bB
def Yw (hk:1<k:=by decide):UF (under aY k u):=bB
def G631 (hk:4<k:=by decide):C631 (under aY k u):=bB
def UK (hk:1<k:=by decide):QO (under aY k u):=bB
def G659 (hk:1<k:=by decide):X3 (under aY k u):=bB
def G660 (hk:4<k:=by decide):X4 (under aY k u):=fun w nd hp0 nx lp ln m K h1 h2 h3 h4 hK=>vj (.inl hk) fun T _ h=>h w nd hp0 nx lp ln m K h1 h2 h3 h4 hK
def G660u (hv:v<=u):WL (under aY 4 u) v:=fun w nd hp0 hu nx lp ln m K h1 h2 h3 h4 hK=>vj (.inr ⟨rfl,by rw[show(lk aY 660 nM).muE=Fc fun _=>4 from rfl,oF h1];exact fq hu hv⟩) fun T _ h=>h w nd hp0 nx lp ln m K h1 h2 h3 h4 hK
def G661 (hk:4<k:=by decide):X5 (under aY k u):=bB
def G662 (hk:3<k:=by decide):X6 (under aY k u):=bB
def G663 (hk:1<k:=by decide):C663 (under aY k u):=bB
def G664 (hk:1<k:=by decide):X7 (under aY k u):=fun ds st K h1=>vj (.inl hk) fun T _ h=>h ds st K h1
def G665 (hk:2<k:=by decide):X8 (under aY k u):=bB
def G666 (hk:1<k:=by decide):C666 (under aY k u):=bB
def UL (hk:2<k:=by decide):QP (under aY k u):=bB
def G668 (hk:1<k:=by decide):X9 (under aY k u):=bB
def G669 (hk:11<k:=by decide):C669 (under aY k u):=bB
def G670 (hk:7<k:=by decide):Ya (under aY k u):=bB
def G671 (hk:4<k:=by decide):C671 (under aY k u):=bB
def G672 (hk:3<k:=by decide):Yb (under aY k u):=bB
def G673 (hk:1<k:=by decide):C673 (under aY k u):=bB
def G674 (hk:1<k:=by decide):C674 (under aY k u):=bB
def G675 (hk:1<k:=by decide):C675 (under aY k u):=bB
def G676 (hk:5<k:=by decide):Yc (under aY k u):=bB
def G677 (hk:3<k:=by decide):Yd (under aY k u):=fun c hp0 nx m K hK=>vj (.inl hk) fun T _ h=>h c hp0 nx m K hK
def G678 (hk:1<k:=by decide):Ye (under aY k u):=bB
def G682 (hk:8<k:=by decide):C682 (under aY k u):=bB
def G683 (hk:1<k:=by decide):C683 (under aY k u):=bB
def Yx (hk:7<k:=by decide):UG (under aY k u):=bB
def G685 (hk:8<k:=by decide):C685 (under aY k u):=bB
def G686 (hk:1<k:=by decide):C686 (under aY k u):=bB
def G688 (hk:1<k:=by decide):C688 (under aY k u):=bB
def G699 (hk:8<k:=by decide):C699 (under aY k u):=bB
def G700 (hk:7<k:=by decide):C700 (under aY k u):=bB
def G701 (hk:6<k:=by decide):C701 (under aY k u):=bB
def G704 (hk:1<k:=by decide):C704 (under aY k u):=bB
def G714 (hk:1<k:=by decide):C714 (under aY k u):=bB
def G734 (hk:2<k:=by decide):Yf (under aY k u):=bB
def G741 (hk:1<k:=by decide):C741 (under aY k u):=bB
def G742 (hk:3<k:=by decide):C742 (under aY k u):=bB
def G744 (hk:8<k:=by decide):C744 (under aY k u):=bB
def G745 (hk:9<k:=by decide):C745 (under aY k u):=bB
def G783 (hk:3<k:=by decide):C783 (under aY k u):=bB
def WT (hv:v<=u):QQ (under aY 4 u) v:=⟨fun w nd hp0 hu nx lp ln m K h1 h2 h3 h4 hK=>vj (.inr ⟨rfl,by rw[show(lk aY 808 nM).muE=Fc YQ from rfl,oF h1];exact fq hu hv⟩) fun T _ h=>h.1 w nd hp0 nx lp ln m K h1 h2 h3 h4 hK,fun w nd hp0 hu nx lp ln m K h1 h2 h3 h4 hK=>vj (.inr ⟨rfl,by rw[show(lk aY 808 nM).muE=Fc YQ from rfl,oF h1];exact fq hu hv⟩) fun T _ h=>h.2 w nd hp0 nx lp ln m K h1 h2 h3 h4 hK⟩
def G809u (hv:v<=u):C809u (under aY 4 u) v:=fun w nd hp0 hu nx lp ln m K h1 h2 h3 h4 hK=>vj (.inr ⟨rfl,by rw[show(lk aY 809 nM).muE=Fc fun _=>2 from rfl,oF h1];exact fq hu hv⟩) fun T _ h=>h w nd hp0 nx lp ln m K h1 h2 h3 h4 hK
def G810 (hk:2<k:=by decide):C810 (under aY k u):=bB
def G811 (hk:2<k:=by decide):C811 (under aY k u):=bB
def WU (hv:v<=u):QR (under aY 2 u) v:=fun l i hp0 hu=>okp Jr (.inr ⟨rfl,fq hu hv⟩) fun T hT=>hT l i hp0
def G812 (hk:3<k:=by decide):C812 (under aY k u):=bB
def G813 (hk:6<k:=by decide):C813 (under aY k u):=bB
def G814 (hk:6<k:=by decide):C814 (under aY k u):=bB
def G815 (hk:1<k:=by decide):Yg (under aY k u):=bB
def G816 (hk:2<k:=by decide):C816 (under aY k u):=bB
def G819 (hk:7<k:=by decide):C819 (under aY k u):=bB
def Yy (hk:5<k:=by decide):UH (under aY k u):=bB
def G828 (hk:6<k:=by decide):Yh (under aY k u):=bB
def G882 (hk:1<k:=by decide):C882 (under aY k u):=bB
def G896 (hk:1<k:=by decide):C896 (under aY k u):=bB
def G897 (hk:7<k:=by decide):C897 (under aY k u):=bB
def G898 (hk:1<k:=by decide):C898 (under aY k u):=bB
def G899 (hk:6<k:=by decide):Yi (under aY k u):=bB
def Yz (hk:7<k:=by decide):UI (under aY k u):=bB
def G901 (hk:8<k:=by decide):C901 (under aY k u):=bB
def G927 (hk:1<k:=by decide):C927 (under aY k u):=bB
def YA (hk:1<k:=by decide):Yj (under aY k u):=bB
def UM (hk:2<k:=by decide):N9 (under aY k u):=fun w nd b nx lp ln m K h1 h2 h3 h4 hK=>vj (.inl hk) fun T _ h=>h w nd b nx lp ln m K h1 h2 h3 h4 hK
def UN (hk:1<k:=by decide):QS (under aY k u):=fun x w nd b hp0 nx lp ln m K h1 h2 h3 h4 hK=>vj (.inl hk) fun T _ h=>h x w nd b hp0 nx lp ln m K h1 h2 h3 h4 hK
def WV (hv:v<=u):WO (under aY 4 u) v:=fun w nd hp0 hu nx lp ln m K h1 h2 h3 h4 hK=>vj (.inr ⟨rfl,by rw[show(lk aY 949 nM).muE=Fc fun _=>0 from rfl,oF h1];exact fq hu hv⟩) fun T _ h=>h w nd hp0 nx lp ln m K h1 h2 h3 h4 hK
def G950 (hk:1<k:=by decide):Yk (under aY k u):=bB
def G951u (hv:v<=u):WQ (under aY 2 u) v:=fun l i b hp0 hu=>okp Jr (.inr ⟨rfl,fq hu hv⟩) fun T hT=>hT l i b hp0
def G952 (hk:4<k:=by decide):Yl (under aY k u):=fun W w nd hp0 hp1 nx lp ln m K h1 h2 h3 h4 hK=>vj (.inl hk) fun T _ h=>h W w nd hp0 hp1 nx lp ln m K h1 h2 h3 h4 hK
def G952u (hv:v<=u):WR (under aY 4 u) v:=fun W w nd hp0 hp1 hu nx lp ln m K h1 h2 h3 h4 hK=>vj (.inr ⟨rfl,by rw[show(lk aY 952 nM).muE=Fc fun _=>2 from rfl,uI hp0.1 h1];exact fq hu hv⟩) fun T _ h=>h W w nd hp0 hp1 nx lp ln m K h1 h2 h3 h4 hK
def G953 (hk:5<k:=by decide):Ym (under aY k u):=bB
def G954 (hk:3<k:=by decide):Yn (under aY k u):=bB
def G955 (hk:1<k:=by decide):C955 (under aY k u):=bB
def G956 (hk:1<k:=by decide):C956 (under aY k u):=bB
def G957 (hk:1<k:=by decide):Yo (under aY k u):=bB
def G1006 (hk:2<k:=by decide):WA (under aY k u):=bB
def G1007 (hk:1<k:=by decide):WB (under aY k u):=bB
def G1008 (hk:3<k:=by decide):WC (under aY k u):=bB
def G1031 (hk:3<k:=by decide):QH (under aY k u):=fun k w nd b hp0 nx lp ln m K h1 h2 h3 h4 hK=>vj (.inl hk) fun T _ h=>h k w nd b hp0 nx lp ln m K h1 h2 h3 h4 hK
def Yp (hv:v<=u):QI (under aY 4 u) v:=fun W w nd hp0 hp1 hu nx lp ln m K h1 h2 h3 h4 hK=>vj (.inr ⟨rfl,by rw[show(lk aY 1032 nM).muE=Fc fun _=>1 from rfl,uI hp0.1 h1];exact fq hu hv⟩) fun T _ h=>h W w nd hp0 hp1 nx lp ln m K h1 h2 h3 h4 hK
def QU (hk:1<k:=by decide):Ge (under aY k u):=fun s W w nd b hp0 nx lp ln m K h1 h2 h3 h4 hK=>vj (.inl hk) fun T _ h=>h s W w nd b hp0 nx lp ln m K h1 h2 h3 h4 hK
def K1 (hk:1<k:=by decide):CW (under aY k u):=fun x W w nd b hp0 nx lp ln m K h1 h2 h3 h4 hK=>vj (.inl hk) fun T _ h=>h x W w nd b hp0 nx lp ln m K h1 h2 h3 h4 hK
def G1035 (hk:4<k:=by decide):WD (under aY k u):=bB
def G1036 (hk:2<k:=by decide):WE (under aY k u):=bB
def Yq (hv:v<=u):QJ (under aY 2 u) v:=fun l i hp0 hu=>okp Jr (.inr ⟨rfl,fq hu hv⟩) fun T hT=>hT l i hp0
def G1079 (hk:1<k:=by decide):WG (under aY k u):=bB
def QV (hv:v<=u):I7 (under aY 4 u) v:=fun W w nd hp0 hp1 hu nx lp ln m K h1 h2 h3 h4 hK=>vj (.inr ⟨rfl,by rw[show(lk aY 1097 nM).muE=Fc fun _=>0 from rfl,uI hp0.1 h1];exact fq hu hv⟩) fun T _ h=>h W w nd hp0 hp1 nx lp ln m K h1 h2 h3 h4 hK
def G1098 (hk:3<k:=by decide):WH (under aY k u):=bB
def WS (hk:1<k:=by decide):QK (under aY k u):=bB
def G1100 (hk:1<k:=by decide):WI (under aY k u):=bB
def G1126 (hk:3<k:=by decide):QL (under aY k u):=fun W w nd hp0 hp1 nx lp ln m K h1 h2 h3 h4 hK=>vj (.inl hk) fun T _ h=>h W w nd hp0 hp1 nx lp ln m K h1 h2 h3 h4 hK
def G1141 (hk:1<k:=by decide):QM (under aY k u):=fun W w nd b hp0 nx lp ln m K h1 h2 h3 h4 hK=>vj (.inl hk) fun T _ h=>h W w nd b hp0 nx lp ln m K h1 h2 h3 h4 hK
def G1202 (hk:18<k:=by decide):WJ (under aY k u):=bB
def G1203 (hk:19<k:=by decide):WK (under aY k u):=bB
end
def bj:(Go.Proofs.Tryz.prog).follows .mixedOrders=true:=oV
abbrev Ow [dS](f n:Nat):Prop:=Z5 Go.Proofs.Tryz.prog yl OG aY f n
abbrev Cp (f:Nat)(a:aC):Prop:=K0 Go.Proofs.Tryz.prog yl OG f a
def ck {f:Nat}{a:aC}(h:((Go.Proofs.Tryz.prog).funcs[f]?).map (fun f=>(compile Go.Proofs.Tryz.prog yl OG f,f.name== "runtime.NumGoroutine"))=some (some a,false):=by kernel_rfl):Cp f a:=h
end Go.Abs
