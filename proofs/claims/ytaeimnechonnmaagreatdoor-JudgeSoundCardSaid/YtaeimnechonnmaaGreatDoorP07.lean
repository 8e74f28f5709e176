/- A part of the proofs. -/
import Derived.KernelRfl
import Derived.Test.YtaeimnechonnmaaGreatDoorProg
import Derived.Test.YtaeimnechonnmaaGreatDoorP06
set_option linter.all false
set_option maxRecDepth 4000
namespace Go.Abs
def eL (us:List bI)(l:List Want):List bB:=l.map fun x=>⟨x.u,eP us x⟩
structure yi where
 full:List Int
 needs:List (List (List (List bB)))
 bars:List (List (List bB))
 deriving Inhabited
def zm (l:List bB):D:=.sl 2 (l.map bB.D)
def mD (l:List (List bB)):D:=.sl 1 (l.map zm)
def lE (l:List (List (List bB))):D:=.sl 1 (l.map mD)
def yi.D (m:yi):D:=.agg [.sl 1 (m.full.map (D.int .i64)),.sl 1 (m.needs.map lE),.sl 1 (m.bars.map mD)]
def js (us:List bI)(l:List j8):List (List bB):=l.map (eL us)
def gA (us:List bI)(cs:List dJ):List (List (List bB)):=cs.map fun c=>js us c.needs
def jN (us:List bI)(cs:List dJ):List (List bB):=cs.map fun c=>eL us c.bars
def fO (us:List bI)(i:Nat):List (List (List (List bB))):=(us.take i).map fun u=>gA us u.cands
def iG (us:List bI)(i:Nat):List (List (List bB)):=(us.take i).map fun u=>jN us u.cands
def iX (us:List bI):yi:=⟨eV us us.length,fO us us.length,iG us us.length⟩
def sL (c:List Int)(x:bB):Bool:=decide (0<=c[x.u.toNat]!)&&decide (il x.m (2^(c[x.u.toNat]!.toNat+1))≠0)
def lz (c:List Int)(l:List bB):Bool:=qq (fun i=>sL c l[i]!) 0 l.length
def uK (m:yi)(c:List Int)(u:Nat):Bool:=decide (c[u]! <0) ||(dd (fun k=>lz c m.needs[u]![c[u]!.toNat]![k]!) 0 m.needs[u]![c[u]!.toNat]!.length&& !lz c m.bars[u]![c[u]!.toNat]!)
def qG (m:yi)(c:List Int):Bool:=decide (0<=c[0]!)&&dd (uK m c) 0 c.length
def lZ (us:List bI)(al c:List Int):Bool:=decide (al.length=0) ||dd (fun u=>decide (il (jG us c ((u:Nat):Int)) (wJ al ((u:Nat):Int))≠0)) 0 c.length
def nT (us:List bI)(n:Nat):Nat->Nat
 |0=>n
 |i+1=>nT us n i/(us[i]!.cands.length+1)
def Kb (us:List bI)(n i:Nat):List Int:=(List.range i).map fun u=>((nT us n u%(us[u]!.cands.length+1):Nat):Int) -1
def Dl (us:List bI)(n i:Nat):(Kb us n i).length=i:=by simp[Kb]
def KT (us:List bI)(n i:Nat):Kb us n i++[((nT us n i%(us[i]!.cands.length+1):Nat):Int) -1]=Kb us n (i+1):=by
 simp[Kb,List.range_succ]
def Ip (us:List bI)(n:Nat):∀i,nT us n i<=n
 |0=>aA _
 |i+1=>ea (Nat.div_le_self _ _) (Ip us n i)
def NW (us:List bI)(n:Nat):List Int:=Kb us n us.length
def O4 (us:List bI)(c:List Int):Prop:=c.length=us.length/\∀u,u<us.length->-1<=c[u]! /\c[u]! <us[u]!.cands.length
def My (us:List bI)(n:Nat):O4 us (NW us n):=by
 refine⟨Dl _ _ _,fun u hu=>?_⟩;have:(NW us n)[u]! =((nT us n u%(us[u]!.cands.length+1):Nat):Int) -1:=by
  unfold NW Kb;simp[hu]
 have h:=Nat.mod_lt (nT us n u) (show 0<us[u]!.cands.length+1 by omega);omega
def pE (us:List bI):Nat->Nat
 |0=>1
 |i+1=>pE us i*(us[i]!.cands.length+1)
def sR (us:List bI):Nat->Nat->Nat->Nat
 |0,_,n=>n
 |r+1,i,n=>if n<1000000 then sR us r (i+1) (n*(us[i]!.cands.length+1))else n
def JD (us:List bI):Nat:=sR us us.length 0 1
def wX (c:List Int)(u:Nat):Nat:=(c[u]! +1).toNat
def kN {α β:Type} [Inhabited α] [Inhabited β]{f:α->β}{l:List α}{i:Nat}(h:i<l.length):(l.map f)[i]! =f l[i]! :=by simp[h]
def Ag {us:List bI}{c:List Int}{x:Want}(hs:∀x∈us,x.cands.length<=16)(hc:O4 us c)(h0:0<=x.u)(h1:x.u<us.length):sL c ⟨x.u,eP us x⟩=true↔BB us (wX c) x:=by
 obtain⟨u,hu⟩:∃u:Nat,x.u=((u:Nat):Int):=⟨x.u.toNat,ae⟩
 have hul:u<us.length:=ae;have hcu:=hc.2 u hul;have h16:=hs _ (aj hul);unfold sL BB wX;dsimp only;rw[hu,Int.toNat_natCast,br,bC,bC,BL];constructor
 .rintro⟨h2,i,h3,h4⟩;rw[lI ae]at h4;obtain rfl:i=c[u]!.toNat+1:=by simpa using h4
  rw[show(c[u]! +1).toNat=c[u]!.toNat+1 by omega];exact h3
 .intro h2;have h3:=h2;rw[Hw hu hul hs]at h3;simp only[br,bC]at h3;refine⟨ae,(c[u]! +1).toNat,h2,KS ae ae⟩
def z7 {c:List Int}{l:List bB}:lz c l=true↔∃x∈l,sL c x=true:=by
 unfold lz;rw[Ho];constructor
 .rintro⟨j,_,h2,h3⟩;exact⟨_,aj h2,h3⟩
 .rintro⟨x,hx,h⟩;obtain⟨j,hj,rfl⟩:=List.mem_iff_getElem.1 hx;exact⟨j,Nat.zero_le _,hj,by simpa[hj]using h⟩
def JT {w:bH}(h:po w=true){u k:Nat}(hu:u<w.us.length)(hk:k<w.us[u]!.cands.length):(∀r∈w.us[u]!.cands[k]!.needs,∀x∈r,0<=x.u/\x.u<w.us.length)/\∀x∈w.us[u]!.cands[k]!.bars,0<=x.u/\x.u<w.us.length:=by
 unfold po at h;rw[br,cE]at h;have h3:=h.2 u ae hu;unfold sU at h3;rw[br,cE]at h3;have h4:=h3.2 k ae hk;unfold qC at h4;simp only[br]at h4;have h5:=h4.1.2;unfold nq at h5;simp only[br,bC]at h5;have hw:∀(l:List Want),nj (w.us.length:Int) l=true->∀x∈l,0<=x.u/\x.u<w.us.length:=by
  intro l hl x hx;unfold nj at hl;rw[cE]at hl;obtain⟨j,hj,rfl⟩:=List.mem_iff_getElem.1 hx;have:=hl j ae hj;unfold oF at this;simp only[hj,getElem!_pos,br,bC]at this;omega
 refine⟨fun r hr=>?_,hw _ h5.2⟩;have h6:=h5.1.2;rw[cE]at h6;obtain⟨j,hj,rfl⟩:=List.mem_iff_getElem.1 hr;have:=h6 j ae hj;unfold oz at this;simp only[hj,getElem!_pos,br]at this;exact hw _ this.1
def Aj {us:List bI}{u k:Nat}(hu:u<us.length)(hk:k<us[u]!.cands.length):(iX us).needs[u]![k]! =js us us[u]!.cands[k]!.needs:=by
 unfold iX fO gA;dsimp only;rw[List.take_length,kN hu,kN hk]
def Dd {us:List bI}{u k:Nat}(hu:u<us.length)(hk:k<us[u]!.cands.length):(iX us).bars[u]![k]! =eL us us[u]!.cands[k]!.bars:=by
 unfold iX iG jN;dsimp only;rw[List.take_length,kN hu,kN hk]
def OX {w:bH}{c:List Int}(hw:po w=true)(hs:∀x∈w.us,x.cands.length<=16)(hc:O4 w.us c)(h:qG (iX w.us) c=true):Hj w.us (wX c):=by
 have hpos:0<w.us.length:=by
  unfold po at hw;simp only[br,bC]at hw;omega
 unfold qG at h;rw[br,bC,cE,hc.1]at h;obtain⟨h0,hf⟩:=h;have hk:∀u,u<w.us.length->wX c u≠0->c[u]!.toNat=wX c u-1/\wX c u-1<w.us[u]!.cands.length/\dd (fun k=>lz c (js w.us w.us[u]!.cands[wX c u-1]!.needs)[k]!) 0 (js w.us w.us[u]!.cands[wX c u-1]!.needs).length=true/\lz c (eL w.us w.us[u]!.cands[wX c u-1]!.bars)=false:=by
  intro u hu hk;have hcu:=hc.2 u hu;have h1:=hf u (Nat.zero_le _) hu;have e:c[u]!.toNat=wX c u-1:=by unfold wX at*;omega
  have hl:wX c u-1<w.us[u]!.cands.length:=by unfold wX at*;omega
  unfold uK at h1;rw[dZ,bC]at h1;have h2:=h1.resolve_left (by unfold wX at hk;omega);rw[e,Aj hu hl,Dd hu hl]at h2;rw[br,ef]at h2;exact⟨e,hl,h2.1,h2.2⟩
 have hin:∀u,u<w.us.length->wX c u≠0->(∀r∈w.us[u]!.cands[wX c u-1]!.needs,∀x∈r,0<=x.u/\x.u<w.us.length)/\∀x∈w.us[u]!.cands[wX c u-1]!.bars,0<=x.u/\x.u<w.us.length:=fun u hu h=>JT hw hu (hk u hu h).2.1
 refine⟨hpos,by unfold wX;omega,fun u hu=>?_,fun u hu hk0 r hr=>?_,fun u hu hk0 x hx hm=>?_,hin⟩
 .have:=hc.2 u hu;unfold wX;omega
 .have h1:=(hk u hu hk0).2.2.1;rw[cE]at h1;obtain⟨j,hj,rfl⟩:=List.mem_iff_getElem.1 hr;have h2:=h1 j (Nat.zero_le _) (by unfold js;simpa using hj);unfold js at h2;rw[kN hj,z7]at h2;obtain⟨y,hy,hm⟩:=h2;unfold eL at hy;obtain⟨x,hx,rfl⟩:=eN.1 hy;simp only[hj,getElem!_pos]at hx;have:=(hin u hu hk0).1 _ hr x hx;exact⟨x,hx,(Ag hs hc this.1 this.2).1 hm⟩
 .have h1:=(hk u hu hk0).2.2.2;have hi:=(hin u hu hk0).2 x hx;have:lz c (eL w.us w.us[u]!.cands[wX c u-1]!.bars)=true:=z7.2 ⟨_,eN.2 ⟨x,hx,rfl⟩,(Ag hs hc hi.1 hi.2).2 hm⟩;rw[h1]at this;cases this
def Hn {w:bH}{al c:List Int}(hs:∀x∈w.us,x.cands.length<=16)(hc:O4 w.us c)(hal:al.length=0\/al.length=w.us.length)(h:lZ w.us al c=true):ye al (wX c):=by
 intro u hu;have hl:al.length=w.us.length:=ae;have hcu:=hc.2 u ae;have h16:=hs _ (aj (show u<w.us.length by omega));unfold lZ at h;rw[dZ,bC,cE,hc.1]at h;have h1:=h.resolve_left ae u (Nat.zero_le _) ae;rw[bC,BL]at h1;obtain⟨i,h2,h3⟩:=h1;unfold jG at h2;rw[ai (by rw[hc.1];omega),Int.toNat_natCast,ai ae,lI ae]at h2;obtain rfl:i=(c[u]! +1).toNat:=by simpa using h2
 unfold wJ at h3;rw[ai ae,Int.toNat_natCast]at h3;exact h3
def Ln {w:bH}{al:List Int}(h:okW w al=true):po w=true/\(al.length=0\/al.length=w.us.length):=by
 unfold okW at h;simp only[br,ef,fD,dc]at h;exact⟨h.1,by have:=h.2;omega⟩
def JE {w:bH}{al c:List Int}{rows:List ar}(hs:∀x∈w.us,x.cands.length<=16)(hc:O4 w.us c)(h:(gK (okW w al) (fun j=>dD ⟨w,al,rows⟩ ((j:Nat):Int)) rows).2=true)(hf:qG (iX w.us) c=true)(ha:lZ w.us al c=true):False:=by
 obtain⟨h1,h2⟩:=Ln (xg h).1;rw[HI hs (OX h1 hs hc hf) (Hn hs hc h2 ha)]at h;cases h
def ie (l k:Nat)(es:List D)(xs:List (List bB)):du l k es (xs.map zm)=xs.map zm:=fW l k es _ (bL (fun _=>rfl) _)
def fI (l k:Nat)(es:List D)(xs:List (List (List bB))):du l k es (xs.map mD)=xs.map mD:=fW l k es _ (bL (fun _=>rfl) _)
def eH (l k:Nat)(es:List D)(xs:List (List (List (List bB)))):du l k es (xs.map lE)=xs.map lE:=fW l k es _ (bL (fun _=>rfl) _)
def fH (l k:Nat)(es:List D)(xs:List Int):du l k es (xs.map (D.int .i64))=xs.map (D.int .i64):=fW l k es _ (bL (fun _=>rfl) _)
def GJ {us:List bI}{l:List Want}{i:Nat}(h:i<l.length):eL us (l.take i)++[⟨l[i]!.u,eP us l[i]!⟩]=eL us (l.take (i+1)):=by
 unfold eL;rw[<-dW h];simp
def GK (us:List bI)(l:List Want)(i:Nat):(eL us (l.take i)).length<=i:=by
 unfold eL;rw[aD,dM];omega
def Gu {us:List bI}{l:List j8}{i:Nat}(h:i<l.length):js us (l.take i)++[eL us l[i]!]=js us (l.take (i+1)):=by
 unfold js;rw[<-dW h];simp
def Gv (us:List bI)(l:List j8)(i:Nat):(js us (l.take i)).length<=i:=by
 unfold js;rw[aD,dM];omega
def Cg {us:List bI}{l:List dJ}{i:Nat}(h:i<l.length):gA us (l.take i)++[js us l[i]!.needs]=gA us (l.take (i+1)):=by
 unfold gA;rw[<-dW h];simp
def Ch (us:List bI)(l:List dJ)(i:Nat):(gA us (l.take i)).length<=i:=by
 unfold gA;rw[aD,dM];omega
def Fy {us:List bI}{l:List dJ}{i:Nat}(h:i<l.length):jN us (l.take i)++[eL us l[i]!.bars]=jN us (l.take (i+1)):=by
 unfold jN;rw[<-dW h];simp
def Fz (us:List bI)(l:List dJ)(i:Nat):(jN us (l.take i)).length<=i:=by
 unfold jN;rw[aD,dM];omega
def Ce {us:List bI}{i:Nat}(h:i<us.length):fO us i++[gA us us[i]!.cands]=fO us (i+1):=by
 unfold fO;rw[<-dW h];simp
def Cf (us:List bI)(i:Nat):(fO us i).length<=i:=by
 unfold fO;rw[aD,dM];omega
def Fw {us:List bI}{i:Nat}(h:i<us.length):iG us i++[jN us us[i]!.cands]=iG us (i+1):=by
 unfold iG;rw[<-dW h];simp
def Fx (us:List bI)(i:Nat):(iG us i).length<=i:=by
 unfold iG;rw[aD,dM];omega
def uu (c:List Int)(x:bB):Prop:=(0<=x.u/\x.u<c.length)/\c[x.u.toNat]! <=30
def Ha (m:yi)(c:List Int):Prop:=(0<c.length/\c.length<=1000/\m.needs.length=c.length/\m.bars.length=c.length)/\∀u,u<c.length->0<=c[u]! ->(c[u]!.toNat<m.needs[u]!.length/\c[u]!.toNat<m.bars[u]!.length)/\(∀r∈m.needs[u]![c[u]!.toNat]!,∀x∈r,uu c x)/\∀x∈m.bars[u]![c[u]!.toNat]!,uu c x
def HU {w:bH}{c:List Int}(hw:po w=true)(hs:∀x∈w.us,x.cands.length<=16)(hc:O4 w.us c):Ha (iX w.us) c:=by
 have hpos:0<w.us.length/\w.us.length<=48:=by
  unfold po at hw;simp only[br,bC]at hw;omega
 have hM:∀x:Want,0<=x.u/\x.u<w.us.length->uu c ⟨x.u,eP w.us x⟩:=fun x hx=>by
  have h1:=hc.2 x.u.toNat ae;have h2:=hs _ (aj (show x.u.toNat<w.us.length by omega));exact⟨by dsimp only;rw[hc.1];exact hx,e8⟩
 refine⟨⟨by rw[hc.1];exact hpos.1,by rw[hc.1];omega,by rw[hc.1];simp[iX,fO],by rw[hc.1];simp[iX,iG]⟩,fun u hu h0=>?_⟩;rw[hc.1]at hu;have hcu:=hc.2 u hu;have hk:c[u]!.toNat<w.us[u]!.cands.length:=ae;have hin:=JT hw hu hk;rw[Aj hu hk,Dd hu hk];refine⟨⟨?_, ?_⟩,fun r hr x hx=>?_,fun x hx=>?_⟩
 .unfold iX fO;dsimp only;rw[List.take_length,kN hu];simpa[gA]using hk
 .unfold iX iG;dsimp only;rw[List.take_length,kN hu];simpa[jN]using hk
 .unfold js at hr;obtain⟨r0,h1,rfl⟩:=eN.1 hr;unfold eL at hx;obtain⟨y,h2,rfl⟩:=eN.1 hx;exact hM y (hin.1 r0 h1 y h2)
 .unfold eL at hx;obtain⟨y,h2,rfl⟩:=eN.1 hx;exact hM y (hin.2 y h2)
def JC {us:List bI}{i n:Nat}(h:i<us.length)(hn:n<1000000):sR us (us.length-i) i n=sR us (us.length-(i+1)) (i+1) (n*(us[i]!.cands.length+1)):=by
 rw[show us.length-i=(us.length-(i+1))+1 by omega,sR,ax hn]
def Gz {us:List bI}{i n:Nat}(h:us.length<=i\/1000000<=n):sR us (us.length-i) i n=n:=by
 cases hk:us.length-i with
 |zero=>rfl
 |succ k=>rw[sR,ai ae]
def iTr (a b:List bB):zm a=zm b↔a=b:=by simp[zm,Dz]
def iTrL (a b:List (List bB)):a.map zm=b.map zm↔a=b:=p8 iTr a b
def iTrs (a b:List (List bB)):mD a=mD b↔a=b:=by simp[mD,iTrL]
def MD (a b:List (List (List bB))):a.map mD=b.map mD↔a=b:=p8 iTrs a b
def RB (a b:List (List (List bB))):lE a=lE b↔a=b:=by simp[lE,MD]
def N4 (a b:List (List (List (List bB)))):a.map lE=b.map lE↔a=b:=p8 RB a b
def iMsk (a b:yi):yi.D a=yi.D b↔a=b:=by
 obtain⟨x,y,z⟩:=a;obtain⟨x',y',z'⟩:=b;simp[yi.D,K8,N4,MD]
def ca {A:RT->Prop}(h:A (fun ds d=>A fun ds' d'=>ds'=ds->d=d'):=by
 (repeat' first|apply And.intro|intro _)
 all_goals rename_i e
 all_goals (try simp only[sy,D.str.injEq,D.int.injEq,D.bool.injEq,D.sl.injEq,D.ref.injEq,D.agg.injEq,D.fn.injEq,Rz,K8,iByt,iVer,Rx,Ry,MC,BV,iSet,ME,BW,MF,H8,Rw,MA,RC,DA,iWld,RA,Dz,MB,BU,N2,iKey,iTag,iGs,iPrv,iMsk,iU8,C1,N3,aQ,aP,reduceCtorEq,a7,aZ]at e)
 all_goals first|rfl|(simp only[e];done)|simp_all):O5 (u9 A):=HN h
section
section
variable [dw] {P:Program} {ν:List (Nat×Nat)} {cy:List Nat} {t:List (Nat×lH)} {fid n key u k:Nat} {af:aM} {nx:Nat} {m:List (Nat×bT)} {K:D->St->Prop}
def vG {a:D}{dv:Nat->D}{kk:Nat}{es:List D}{Q:D->List (Nat×bT)->Prop}(hmix:P.follows .mixedOrders=true)(hC:zn P ν cy fid af)(hnp:1=af.np)(ha:a.bm=true)(hes:aW es=true)
  (hd:∀j,jk 0 [(j,nx)] (dv j)=some (dv nx)) (hQ:∀d m,Q d m->∃j,d=dv j/\look m j=some (.buf kk es)) (hK:K (dv nx) ⟨nx+1,(nx,.buf kk es)::m⟩)
  (hw:cq ((under t key u).at 0) af.body (kn af Q) (fK af [a]) ⟨0,[]⟩):kJ P ν cy (under t key u) fid [a] ⟨nx,m⟩ K:=by
 refine pA (σi:=[]) (m0:=[]) (cs:=[a]) (fun q=>oE t key u q) hmix hC rfl ?_ hnp rfl (fun _ _ h=>by cases h) (fun _ _ h=>by cases h) hw ?_
 .intro i hi
  match i,hi with
  |0,_=>exact .inl ⟨rfl,ha⟩
 .intro d m1 h;obtain⟨j,rfl,hj⟩:=hQ d m1 h;refine⟨[(j,nx)],j+1,_,_,⟨rfl, ?_,Nat.le_succ _,(fun _ _ h=>by cases h), ?_,(fun _ _ h=>by cases h), ?_⟩,.inr (.inl (hd j)),hK⟩
  .simp[eQ]
  .intro i l h;obtain⟨rfl,rfl⟩:=Prod.mk.inj (bG.1 h);exact .inr (aA _)
  .intro l bb h;simp only[look]at h;split at h
   .rename_i e;subst e;obtain rfl:=bl h;exact .inl ⟨j,_,.head _,hj,rfl,.inl ⟨rfl,hes⟩⟩
   .rename_i hn;exact .inr ⟨by simp only[jx,ai hn],(fun _ h=>by cases h),h⟩
end
end
section
section
variable [dw] {P:Program} {ν:List (Nat×Nat)} {cy:List Nat} {t:List (Nat×lH)} {fid key u k:Nat} {af:aM} {nx:Nat} {m:List (Nat×bT)} {K:D->St->Prop}
def yV {lo kk n n':Nat}{es es':List D}{x y:D}{Q:D->List (Nat×bT)->Prop}(hes:aW es=true)(hes':aW es'=true)(hxn:x.bm=true)(hyn:y.bm=true)(hmix:P.follows .mixedOrders=true)(hC:zn P ν cy fid af)(hnp:3=af.np)
  (h1:look m lo=some (.buf k es)) (hlo:lo<nx) (hQ:∀d m,Q d m->∃j,d=.own j kk 0 n'/\look m j=some (.buf kk es')) (hK:K (.own nx kk 0 n') ⟨nx+1,(nx,.buf kk es')::bF m lo⟩)
  (hw:cq ((under t key u).at 1) af.body (kn af Q) (fK af [x,.own 0 k 0 n,y]) ⟨1,[(0,.buf k es)]⟩):kJ P ν cy (under t key u) fid [x,.own lo k 0 n,y] ⟨nx,m⟩ K:=by
 have g3:eQ 0 1 [(lo,0)]=true:=by simp[eQ]
 have g4:∀l i,(l,i)∈[(lo,0)]->look m l≠none:=by
  intro l i h;obtain⟨rfl,rfl⟩:=Prod.mk.inj (bG.1 h);rw[h1];simp
 have g5:∀i b,look [(0,bT.buf k es)] i=some b->∃l b',(l,i)∈[(lo,0)]/\look m l=some b'/\mH 0 [(lo,0)] b' b:=by
  intro i b h;simp only[look]at h;split at h
  .rename_i e;subst e;obtain rfl:=bl h;exact⟨lo,_,.head _,h1,rfl,.inl ⟨rfl,hes⟩⟩
  .cases h
 refine pA (σi:=[(lo,0)]) (cs:=[x,.own 0 k 0 n,y]) (fun q=>oE t key u q) hmix hC rfl ?_ hnp g3 g4 g5 hw ?_
 .intro i hi
  match i,hi with
  |0,_=>exact .inl ⟨rfl,hxn⟩
  |1,_=>exact .inr (.inl (by simp[jk,qg,e9]))
  |2,_=>exact .inl ⟨rfl,hyn⟩
 .intro d m1 h;obtain⟨j,rfl,hj⟩:=hQ d m1 h;refine⟨[(j,nx)],j+1,_,_,⟨g3, ?_,Nat.le_succ _,g4, ?_,g5, ?_⟩,.inr (.inl (by simp[jk,qg,e9])),hK⟩
  .simp[eQ]
  .intro i l h;obtain⟨rfl,rfl⟩:=Prod.mk.inj (bG.1 h);exact .inr (aA _)
  .intro l bb h;simp only[look]at h;split at h
   .rename_i e;subst e;obtain rfl:=bl h;exact .inl ⟨j,_,.head _,hj,rfl,.inl ⟨rfl,hes'⟩⟩
   .rename_i hn;rw[gr]at h;split at h
    .cases h
    .rename_i hl;refine .inr ⟨by simp only[jx,ai hn],fun i hi=>?_,h⟩;exact hl (Prod.mk.inj (bG.1 hi)).1
def Hh (w:bH)(facts:List ar)(r:Int×List ar):D->List (Nat×bT)->Prop:=fun d m=>d=.int .i64 r.1/\∃j,1<=j/\look m 0=some (.buf 3 [j5.D ⟨w,facts,.own j 5 0 r.2.length⟩])/\look m j=some (.buf 5 (r.2.map ar.D))
def An {w:bH}{facts rows:List ar}{r:Int×List ar}{lp ln:Nat}{m':List (Nat×bT)}(h1:look m lp=some (.buf 3 [j5.D ⟨w,facts,.own ln 5 0 rows.length⟩]))(hlp:lp<nx){d:D}{m1:List (Nat×bT)}(h:Hh w facts r d m1)
  (σi:List (Nat×Nat)) (q:Nat) (m0:List (Nat×bT)) (g3:eQ 0 q σi=true) (hmem:(lp,0)∈σi) (g4:∀l i,(l,i)∈σi->look m l≠none) (g5:∀i b,look m0 i=some b->∃l b',(l,i)∈σi/\look m l=some b'/\mH 0 σi b' b)
  (hm':∀l b,l≠lp->l≠nx->look m' l=some b->look m l=some b/\∀i,(l,i)∉σi) (hK:K (.int .i64 r.1) ⟨nx+1,(nx,.buf 5 (r.2.map ar.D))::cR m' lp (.buf 3 [j5.D ⟨w,facts,.own nx 5 0 r.2.length⟩])⟩):
  ∃(σo:List (Nat×Nat)) (q1:Nat) (st':St) (vd':D),Fr σi σo q q1 m0 m1 ⟨nx,m⟩ st'/\KJ 0 σo d vd'/\K vd' st':=by
 obtain⟨rfl,j,hj1,e0,ej⟩:=h;have a1:=eD (show j≠0 by omega);have a2:=eD (show 0≠j by omega);have a3:=eD (show lp≠nx by omega);have a4:=eD (show nx≠lp by omega);have r1:e9 0 [(0,lp),(j,nx)] j=some nx:=by simp only[e9,a2,cond_false,Nat.beq_refl,cond_true]
 refine⟨[(0,lp),(j,nx)],j+1,_,_,⟨g3, ?_,(Nat.le_succ _:nx<=nx+1),g4, ?_,g5, ?_⟩,.inl ⟨rfl,rfl⟩,hK⟩
 .simp only[eQ,List.all_cons,List.all_nil,a1,a2,a3,a4,Bool.not_false,eM,ik,Nat.blt,br,Nat.ble_eq];repeat' first|exact trivial|exact rfl|exact Nat.zero_le _|omega|refine And.intro ?_ ?_
 .intro i l h;simp only[dz,eg,ec,or_false]at h;rcases h with⟨rfl,rfl⟩|⟨rfl,rfl⟩
  .exact .inl hmem
  .exact .inr (aA _)
 .intro l bb h;simp only[look]at h;split at h
  .rename_i e;subst e;obtain rfl:=bl h;exact .inl ⟨j,_,.tail _ (.head _),ej,rfl,.inl ⟨rfl,bL (fun _=>rfl) _⟩⟩
  .rename_i n1;rw[di]at h;split at h
   .rename_i e;subst e;obtain rfl:=bl h;exact .inl ⟨0,_,.head _,e0,rfl,.inr (.inl (by simp only[j5.D,fk,jk,qg,r1]))⟩
   .rename_i n2;obtain⟨k1,k2⟩:=hm' l bb (fun e=>n2 (by first|exact e|exact e.symm)) (fun e=>n1 (by first|exact e|exact e.symm)) h;exact .inr ⟨by simp only[jx];rw[ai ae,ai ae],k2,k1⟩
def Iu {w:bH}{facts rows:List ar}{c:List Int}{r:Int×List ar}{lp ln lc:Nat}(hmix:P.follows .mixedOrders=true)(hC:zn P ν cy fid af)(hnp:2=af.np)
  (h1:look m lp=some (.buf 3 [j5.D ⟨w,facts,.own ln 5 0 rows.length⟩])) (h2:look m ln=some (.buf 5 (rows.map ar.D))) (h3:look m lc=some (.buf 1 (c.map (D.int .i64)))) (hx:lp<nx/\ln<nx/\lc<nx)
  (hK:K (.int .i64 r.1) ⟨nx+1,(nx,.buf 5 (r.2.map ar.D))::cR (bF (bF m ln) lc) lp (.buf 3 [j5.D ⟨w,facts,.own nx 5 0 r.2.length⟩])⟩)
  (hw:cq ((under t key u).at 3) af.body (kn af (Hh w facts r)) (fK af [.ptr 0 3 0 0,.own 2 1 0 c.length]) ⟨3,[(0,.buf 3 [j5.D ⟨w,facts,.own 1 5 0 rows.length⟩]),(1,.buf 5 (rows.map ar.D)),(2,.buf 1 (c.map (D.int .i64)))]⟩):kJ P ν cy (under t key u) fid [.ptr lp 3 0 0,.own lc 1 0 c.length] ⟨nx,m⟩ K:=by
 have n1:lp≠ln:=by
  rintro rfl;rw[h1]at h2;exact absurd (bT.buf.inj (bl h2)).1 bZ
 have n2:lp≠lc:=by
  rintro rfl;rw[h1]at h3;exact absurd (bT.buf.inj (bl h3)).1 bZ
 have n3:ln≠lc:=by
  rintro rfl;rw[h2]at h3;exact absurd (bT.buf.inj (bl h3)).1 bZ
 have b1:=eD n1;have b2:=eD n2;have b3:=eD n3;have b4:=eD n1.symm;have b5:=eD n2.symm;have b6:=eD n3.symm;have r1:e9 0 [(lp,0),(ln,1),(lc,2)] ln=some 1:=by simp only[e9,b1,cond_false,Nat.beq_refl,cond_true]
 have g3:eQ 0 3 [(lp,0),(ln,1),(lc,2)]=true:=by simp[eQ,b1,b2,b3,b4,b5,b6,Nat.blt];exact⟨⟨rfl,rfl⟩,rfl⟩
 have g4:∀l i,(l,i)∈[(lp,0),(ln,1),(lc,2)]->look m l≠none:=by
  intro l i h;simp only[dz,eg,ec,or_false]at h;rcases h with⟨rfl,_⟩|⟨rfl,_⟩|⟨rfl,_⟩<;>simp[h1,h2,h3]
 have g5:∀i b,look [(0,bT.buf 3 [j5.D ⟨w,facts,.own 1 5 0 rows.length⟩]),(1,.buf 5 (rows.map ar.D)),(2,.buf 1 (c.map (D.int .i64)))] i=some b->∃l b',(l,i)∈[(lp,0),(ln,1),(lc,2)]/\look m l=some b'/\mH 0 [(lp,0),(ln,1),(lc,2)] b' b:=by
  intro i b h;simp only[look]at h;split at h
  .rename_i e;subst e;obtain rfl:=bl h;exact⟨lp,_,.head _,h1,rfl,.inr (.inl (by simp only[j5.D,fk,jk,qg,r1]))⟩
  .split at h
   .rename_i e;subst e;obtain rfl:=bl h;exact⟨ln,_,.tail _ (.head _),h2,rfl,.inl ⟨rfl,bL (fun _=>rfl) _⟩⟩
   .split at h
    .rename_i e;subst e;obtain rfl:=bl h;exact⟨lc,_,.tail _ (.tail _ (.head _)),h3,rfl,.inl ⟨rfl,bL (fun _=>rfl) _⟩⟩
    .cases h
 refine pA (σi:=[(lp,0),(ln,1),(lc,2)]) (cs:=[.ptr 0 3 0 0,.own 2 1 0 c.length]) (fun q=>oE t key u q) hmix hC rfl ?_ hnp g3 g4 g5 hw fun d m1 h=>An h1 hx.1 h _ _ _ g3 (.head _) g4 g5 (fun l b hl hl2 h=>?_) hK
 .intro i hi
  match i,hi with
  |0,_=>exact .inr (.inl (by simp[jk,qg,e9]))
  |1,_=>exact .inr (.inl (by simp[jk,qg,e9,b2,b3]))
 .rw[gr]at h;split at h
  .cases h
  .rename_i e1;rw[gr]at h;split at h
   .cases h
   .rename_i e2;refine⟨h,fun i hi=>?_⟩;simp only[dz,eg,ec,or_false]at hi;rcases hi with⟨e,_⟩|⟨e,_⟩|⟨e,_⟩
    .exact hl e
    .exact e2 e
    .exact e1 e
def It {w:bH}{facts rows:List ar}{r:Int×List ar}{lp ln:Nat}(hmix:P.follows .mixedOrders=true)(hC:zn P ν cy fid af)(hnp:2=af.np)
  (h1:look m lp=some (.buf 3 [j5.D ⟨w,facts,.own ln 5 0 rows.length⟩])) (h2:look m ln=some (.buf 5 (rows.map ar.D))) (hx:lp<nx/\ln<nx)
  (hK:K (.int .i64 r.1) ⟨nx+1,(nx,.buf 5 (r.2.map ar.D))::cR (bF m ln) lp (.buf 3 [j5.D ⟨w,facts,.own nx 5 0 r.2.length⟩])⟩)
  (hw:cq ((under t key u).at 3) af.body (kn af (Hh w facts r)) (fK af [.ptr 0 3 0 0,.aG]) ⟨3,[(0,.buf 3 [j5.D ⟨w,facts,.own 1 5 0 rows.length⟩]),(1,.buf 5 (rows.map ar.D))]⟩):kJ P ν cy (under t key u) fid [.ptr lp 3 0 0,.aG] ⟨nx,m⟩ K:=by
 have n1:lp≠ln:=by
  rintro rfl;rw[h1]at h2;exact absurd (bT.buf.inj (bl h2)).1 bZ
 have b1:=eD n1;have b4:=eD n1.symm;have r1:e9 0 [(lp,0),(ln,1)] ln=some 1:=by simp only[e9,b1,cond_false,Nat.beq_refl,cond_true]
 have g3:eQ 0 3 [(lp,0),(ln,1)]=true:=by simp[eQ,b4,Nat.blt];exact rfl
 have g4:∀l i,(l,i)∈[(lp,0),(ln,1)]->look m l≠none:=by
  intro l i h;simp only[dz,eg,ec,or_false]at h;rcases h with⟨rfl,_⟩|⟨rfl,_⟩<;>simp[h1,h2]
 have g5:∀i b,look [(0,bT.buf 3 [j5.D ⟨w,facts,.own 1 5 0 rows.length⟩]),(1,.buf 5 (rows.map ar.D))] i=some b->∃l b',(l,i)∈[(lp,0),(ln,1)]/\look m l=some b'/\mH 0 [(lp,0),(ln,1)] b' b:=by
  intro i b h;simp only[look]at h;split at h
  .rename_i e;subst e;obtain rfl:=bl h;exact⟨lp,_,.head _,h1,rfl,.inr (.inl (by simp only[j5.D,fk,jk,qg,r1]))⟩
  .split at h
   .rename_i e;subst e;obtain rfl:=bl h;exact⟨ln,_,.tail _ (.head _),h2,rfl,.inl ⟨rfl,bL (fun _=>rfl) _⟩⟩
   .cases h
 refine pA (σi:=[(lp,0),(ln,1)]) (cs:=[.ptr 0 3 0 0,.aG]) (fun q=>oE t key u q) hmix hC rfl ?_ hnp g3 g4 g5 hw fun d m1 h=>An h1 hx.1 h _ _ _ g3 (.head _) g4 g5 (fun l b hl hl2 h=>?_) hK
 .intro i hi
  match i,hi with
  |0,_=>exact .inr (.inl (by simp[jk,qg,e9]))
  |1,_=>exact .inl ⟨rfl,rfl⟩
 .rw[gr]at h;split at h
  .cases h
  .rename_i e2;refine⟨h,fun i hi=>?_⟩;simp only[dz,eg,ec,or_false]at hi;rcases hi with⟨e,_⟩|⟨e,_⟩
   .exact hl e
   .exact e2 e
end
def Oe (ds:List D)(st:St):Nat:=match ds with
 |[.ptr l _ _ _,c]=>(match look st.m l with
  |some (.buf _ [.agg (.sl _ us::_)])=>us.length-(match c with
   | .own _ _ _ n=>n
   |_=>0)
  |_=>0)
 |_=>0
def DJ {w:bH}{facts:List ar}{x:D}{lp lc n nx:Nat}{m:List (Nat×bT)}(h:look m lp=some (.buf 3 [j5.D ⟨w,facts,x⟩])):Oe [.ptr lp 3 0 0,.own lc 1 0 n] ⟨nx,m⟩=w.us.length-n:=by
 simp only[Oe,h,j5.D,aD]
def DI {w:bH}{facts:List ar}{x:D}{lp nx:Nat}{m:List (Nat×bT)}(h:look m lp=some (.buf 3 [j5.D ⟨w,facts,x⟩])):Oe [.ptr lp 3 0 0,.aG] ⟨nx,m⟩=w.us.length:=by
 simp only[Oe,h,j5.D,aD,Nat.sub_zero]
def Lk {w:bH}{facts rows:List ar}{c:List Int}:ek 2 1 (c.map (D.int .i64)) (bF [(0,bT.buf 3 [j5.D ⟨w,facts,.own 1 5 0 rows.length⟩]),(1,.buf 5 (rows.map ar.D)),(2,.buf 1 (c.map (D.int .i64)))] 2)=[(0,bT.buf 3 [j5.D ⟨w,facts,.own 1 5 0 rows.length⟩]),(1,.buf 5 (rows.map ar.D))]:=by
 simp[bF,ek,eu,du,dy,j5.D,cV]
end
section
section
variable [dw] {P:Program} {ν:List (Nat×Nat)} {cy:List Nat} {t:List (Nat×lH)} {fid n key u k:Nat} {af:aM} {nx:Nat} {m:List (Nat×bT)} {K:D->St->Prop}
def Aw {lo kk n n':Nat}{es es' Z1:List D}{Q:D->List (Nat×bT)->Prop}(hes:aW es=true)(hes':aW es'=true)(has:aW Z1=true)(hmix:P.follows .mixedOrders=true)(hC:zn P ν cy fid af)(hnp:Z1.length+1=af.np)
  (h1:look m lo=some (.buf k es)) (hlo:lo<nx) (hQ:∀d m,Q d m->∃j,d=.own j kk 0 n'/\look m j=some (.buf kk es')) (hK:K (.own nx kk 0 n') ⟨nx+1,(nx,.buf kk es')::bF m lo⟩)
  (hw:cq ((under t key u).at 1) af.body (kn af Q) (fK af (.own 0 k 0 n::Z1)) ⟨1,[(0,.buf k es)]⟩):kJ P ν cy (under t key u) fid (.own lo k 0 n::Z1) ⟨nx,m⟩ K:=by
 have g3:eQ 0 1 [(lo,0)]=true:=by simp[eQ]
 have g4:∀l i,(l,i)∈[(lo,0)]->look m l≠none:=by
  intro l i h;obtain⟨rfl,rfl⟩:=Prod.mk.inj (bG.1 h);rw[h1];simp
 have g5:∀i b,look [(0,bT.buf k es)] i=some b->∃l b',(l,i)∈[(lo,0)]/\look m l=some b'/\mH 0 [(lo,0)] b' b:=by
  intro i b h;simp only[look]at h;split at h
  .rename_i e;subst e;obtain rfl:=bl h;exact⟨lo,_,.head _,h1,rfl,.inl ⟨rfl,hes⟩⟩
  .cases h
 refine pA (σi:=[(lo,0)]) (cs:=.own 0 k 0 n::Z1) (fun q=>oE t key u q) hmix hC bz ?_ (by simpa using hnp) g3 g4 g5 hw ?_
 .intro i hi
  match i with
  |0=>exact .inr (.inl (by simp[jk,qg,e9]))
  |i+1=>exact .inl ⟨rfl,cC has i⟩
 .intro d m1 h;obtain⟨j,rfl,hj⟩:=hQ d m1 h;refine⟨[(j,nx)],j+1,_,_,⟨g3, ?_,Nat.le_succ _,g4, ?_,g5, ?_⟩,.inr (.inl (by simp[jk,qg,e9])),hK⟩
  .simp[eQ]
  .intro i l h;obtain⟨rfl,rfl⟩:=Prod.mk.inj (bG.1 h);exact .inr (aA _)
  .intro l bb h;simp only[look]at h;split at h
   .rename_i e;subst e;obtain rfl:=bl h;exact .inl ⟨j,_,.head _,hj,rfl,.inl ⟨rfl,hes'⟩⟩
   .rename_i hn;rw[gr]at h;split at h
    .cases h
    .rename_i hl;refine .inr ⟨by simp only[jx,ai hn],fun i hi=>?_,h⟩;exact hl (Prod.mk.inj (bG.1 hi)).1
def yU {lo n:Nat}{es Z1:List D}{v:D}{Q:D->List (Nat×bT)->Prop}(hes:aW es=true)(hv:v.bm=true)(has:aW Z1=true)(hmix:P.follows .mixedOrders=true)(hC:zn P ν cy fid af)(hnp:Z1.length+1=af.np)
  (h1:look m lo=some (.buf k es)) (hlo:lo<nx) (hQ:∀d m,Q d m->d=v) (hK:K v ⟨nx,bF m lo⟩)
  (hw:cq ((under t key u).at 1) af.body (kn af Q) (fK af (.own 0 k 0 n::Z1)) ⟨1,[(0,.buf k es)]⟩):kJ P ν cy (under t key u) fid (.own lo k 0 n::Z1) ⟨nx,m⟩ K:=by
 have g3:eQ 0 1 [(lo,0)]=true:=by simp[eQ]
 have g4:∀l i,(l,i)∈[(lo,0)]->look m l≠none:=by
  intro l i h;obtain⟨rfl,rfl⟩:=Prod.mk.inj (bG.1 h);rw[h1];simp
 have g5:∀i b,look [(0,bT.buf k es)] i=some b->∃l b',(l,i)∈[(lo,0)]/\look m l=some b'/\mH 0 [(lo,0)] b' b:=by
  intro i b h;simp only[look]at h;split at h
  .rename_i e;subst e;obtain rfl:=bl h;exact⟨lo,_,.head _,h1,rfl,.inl ⟨rfl,hes⟩⟩
  .cases h
 refine pA (σi:=[(lo,0)]) (cs:=.own 0 k 0 n::Z1) (fun q=>oE t key u q) hmix hC bz ?_ (by simpa using hnp) g3 g4 g5 hw ?_
 .intro i hi
  match i with
  |0=>exact .inr (.inl (by simp[jk,qg,e9]))
  |i+1=>exact .inl ⟨rfl,cC has i⟩
 .intro d m1 h;have hd:=hQ d m1 h;refine⟨[],1,⟨nx,bF m lo⟩,v,⟨g3,rfl,aA _,g4,(fun _ _ h=>by cases h),g5, ?_⟩,.inl ⟨hd.symm,by rw[hd];exact hv⟩,hK⟩;intro l bb h;simp only at h;rw[gr]at h;split at h
  .cases h
  .rename_i hl;refine .inr ⟨rfl,fun i hi=>?_,h⟩;exact hl (Prod.mk.inj (bG.1 hi)).1
def Jy {g g':Gs}{xs:List CW}{kk lc:Nat}{E:List D}{v:D}{Q:D->List (Nat×bT)->Prop}(hv:v.bm=true)(hE:aW E=true)(hmix:P.follows .mixedOrders=true)(hC:zn P ν cy fid af)(hnp:2=af.np)
  (hn:lc≠0/\lc≠10/\lc<nx/\11<=nx) (h0:look m 0=some (.buf 2 [g.D])) (h1:look m lc=some (.buf 8 (xs.map (CW.D 10)))) (h10:look m 10=some (.buf kk E)) (hK:K v ⟨nx,cR m 0 (.buf 2 [g'.D])⟩)
  (hQ:∀d m1,Q d m1->d=v/\look m1 0=some (.buf 2 [g'.D])/\look m1 1=some (.buf 8 (xs.map (CW.D 10)))/\look m1 10=some (.buf kk E))
  (hw:cq ((under t key u).at 11) af.body (kn af Q) (fK af [.ptr 0 2 0 0,.own 1 8 0 xs.length]) ⟨11,[(0,.buf 2 [g.D]),(1,.buf 8 (xs.map (CW.D 10))),(10,.buf kk E)]⟩):kJ P ν cy (under t key u) fid [.ptr 0 2 0 0,.own lc 8 0 xs.length] ⟨nx,m⟩ K:=by
 have b1:=eD hn.1;have b2:=eD hn.2.1;have b3:=eD (Ne.symm hn.1);have b4:=eD (Ne.symm hn.2.1);have r10:e9 0 [(0,0),(lc,1),(10,10)] 10=some 10:=by simp only[e9,b2,cond_false];rfl
 have o10:e9 0 [(0,0),(1,lc),(10,10)] 10=some 10:=rfl;have g3:eQ 0 11 [(0,0),(lc,1),(10,10)]=true:=by simp[eQ,b1,b2,b3,b4,Nat.blt];exact⟨⟨rfl,rfl⟩,rfl⟩
 have g4:∀l i,(l,i)∈[(0,0),(lc,1),(10,10)]->look m l≠none:=by
  intro l i h;simp only[dz,eg,ec,or_false]at h;rcases h with⟨rfl,_⟩|⟨rfl,_⟩|⟨rfl,_⟩<;>simp[h0,h1,h10]
 have g5:∀i b,look [(0,bT.buf 2 [g.D]),(1,.buf 8 (xs.map (CW.D 10))),(10,.buf kk E)] i=some b->∃l b',(l,i)∈[(0,0),(lc,1),(10,10)]/\look m l=some b'/\mH 0 [(0,0),(lc,1),(10,10)] b' b:=by
  intro i b h;simp only[look]at h;split at h
  .rename_i e;subst e;obtain rfl:=bl h;exact⟨0,_,.head _,h0,rfl,.inl ⟨rfl,rfl⟩⟩
  .split at h
   .rename_i e;subst e;obtain rfl:=bl h;exact⟨lc,_,.tail _ (.head _),h1,rfl,.inr (.inl (dC r10 xs))⟩
   .split at h
    .rename_i e;subst e;obtain rfl:=bl h;exact⟨10,_,.tail _ (.tail _ (.head _)),h10,rfl,.inl ⟨rfl,hE⟩⟩
    .cases h
 refine pA (σi:=[(0,0),(lc,1),(10,10)]) (cs:=[.ptr 0 2 0 0,.own 1 8 0 xs.length]) (fun q=>oE t key u q) hmix hC rfl ?_ hnp g3 g4 g5 hw ?_
 .intro i hi
  match i,hi with
  |0,_=>exact .inr (.inl (by simp[jk,qg,e9]))
  |1,_=>exact .inr (.inl (by simp[jk,qg,e9,b3]))
 .intro d m1 h;obtain⟨hd,q0,q1,q10⟩:=hQ d m1 h;refine⟨[(0,0),(1,lc),(10,10)],11,⟨nx,cR m 0 (.buf 2 [g'.D])⟩,v,⟨g3, ?_,aA _,g4, ?_,g5, ?_⟩,.inl ⟨hd.symm,by rw[hd];exact hv⟩,hK⟩
  .simp only[eQ,List.all_cons,List.all_nil,b1,b2,b3,b4,Bool.not_false,eM,ik,Nat.blt,br,Nat.ble_eq];repeat' first|exact rfl|exact Nat.zero_le _|omega|refine And.intro ?_ ?_
  .intro i l h;simp only[dz,eg,ec,or_false]at h;rcases h with⟨rfl,rfl⟩|⟨rfl,rfl⟩|⟨rfl,rfl⟩
   .exact .inl (.head _)
   .exact .inl (.tail _ (.head _))
   .exact .inl (.tail _ (.tail _ (.head _)))
  .intro l bb h;simp only at h;rw[di]at h;split at h
   .rename_i e;subst e;obtain rfl:=bl h;exact .inl ⟨0,_,.head _,q0,rfl,.inl ⟨rfl,rfl⟩⟩
   .rename_i e0;by_cases e1:l=lc
    .subst e1;rw[h1]at h;obtain rfl:=bl h;exact .inl ⟨1,_,.tail _ (.head _),q1,rfl,.inr (.inl (dC o10 xs))⟩
    .by_cases e2:l=10
     .subst e2;rw[h10]at h;obtain rfl:=bl h;exact .inl ⟨10,_,.tail _ (.tail _ (.head _)),q10,rfl,.inl ⟨rfl,hE⟩⟩
     .refine .inr ⟨by simp only[jx,ai (fun e=>e0 (Eq.symm e)),ai (fun e=>e1 (Eq.symm e)),ai (fun e=>e2 (Eq.symm e))],fun i hi=>?_,h⟩;simp only[dz,eg,ec,or_false]at hi;rcases hi with⟨h,_⟩|⟨h,_⟩|⟨h,_⟩
      .exact e0 h
      .exact e1 h
      .exact e2 h
end
end
section
def GR:List (Nat×Nat):=[(0,0),(1,1),(2,2),(3,3),(4,4),(5,5),(6,6),(7,7),(8,8),(9,9),(10,10)]
def yC {l i:Nat}(h:(l,i)∈GR):i=l/\l<=10:=by
 simp only[GR,dz,eg,ec,or_false]at h;omega
def K7:∀l,l<11->(l,l)∈GR:=bZ
def uP {l:Nat}(h:l<=10):(l,l)∈GR:=K7 l ae
def wq {m:List (Nat×bT)}{g:Gs}{n:Nat}{nm ft:Nat->dF}{cs:Nat->List CW}{kk:Nat}{E:List D}(hn:n<=8)(hE:aW E=true)(h:KN m g n nm ft cs kk E){l:Nat}(h1:1<=l)(h10:l<=10):∃b,(∀m2 g2,KN m2 g2 n nm ft cs kk E->look m2 l=some b)/\mH 0 GR b b:=by
 rcases cT l 2 with h2|h2
 .obtain rfl:l=1:=ae;exact⟨_,fun m2 g2 w=>w.2.1,rfl,.inr (.inl (jm _ fun j hj=>eS ae))⟩
 .rcases cT l 10 with h3|h3
  .obtain⟨j,rfl⟩:∃j,l=2+j:=⟨l-2,ae⟩
   exact⟨_,fun m2 g2 w=>w.2.2.1 j ae,rfl,.inr (.inl (dC rfl _))⟩
  .obtain rfl:l=10:=ae;exact⟨_,fun m2 g2 w=>w.2.2.2,rfl,.inl ⟨rfl,hE⟩⟩
section
variable [dw] {P:Program} {ν:List (Nat×Nat)} {cy:List Nat} {t:List (Nat×lH)} {fid key u k:Nat} {af:aM} {nx:Nat} {m:List (Nat×bT)} {K:D->St->Prop}
def Bh {g g':Gs}{n c:Nat}{nm ft:Nat->dF}{cs:Nat->List CW}{kk:Nat}{E Z1:List D}{v:D}{m0:List (Nat×bT)}{Q:D->List (Nat×bT)->Prop}(hv:v.bm=true)(hE:aW E=true)(has:aW Z1=true)(hn:n<=8)(hmix:P.follows .mixedOrders=true)(hC:zn P ν cy fid af)(hnp:Z1.length+2=af.np)
  (hx:11<=nx) (hw:KN m g n nm ft cs kk E) (h0:KN m0 g n nm ft cs kk E) (hm0:∀i,11<=i->look m0 i=none) (hK:K v ⟨nx,cR m 0 (.buf 2 [g'.D])⟩) (hQ:∀d m1,Q d m1->d=v/\KN m1 g' n nm ft cs kk E)
  (hwp:cq ((under t key u).at 11) af.body (kn af Q) (fK af (.ptr 0 2 0 0::.own 1 3 0 c::Z1)) ⟨11,m0⟩):kJ P ν cy (under t key u) fid (.ptr 0 2 0 0::.own 1 3 0 c::Z1) ⟨nx,m⟩ K:=by
 have g4:∀l i,(l,i)∈GR->look m l≠none:=by
  intro l i h;obtain⟨_,hl⟩:=yC h;rcases Nat.eq_zero_or_pos l with rfl|hp
  .rw[hw.1];simp
  .obtain⟨b,hb,_⟩:=wq hn hE hw hp hl;rw[hb _ _ hw];simp
 have g5:∀i b,look m0 i=some b->∃l b',(l,i)∈GR/\look m l=some b'/\mH 0 GR b' b:=by
  intro i b h;rcases cT i 11 with hi|hi
  .rcases Nat.eq_zero_or_pos i with rfl|hp
   .rw[h0.1]at h;obtain rfl:=bl h;exact⟨0,_,uP ae,hw.1,rfl,.inl ⟨rfl,rfl⟩⟩
   .obtain⟨b2,hb,hr⟩:=wq hn hE hw hp ae;rw[hb _ _ h0]at h;obtain rfl:=bl h;exact⟨i,_,uP ae,hb _ _ hw,hr⟩
  .rw[hm0 i hi]at h;cases h
 refine pA (σi:=GR) (cs:=.ptr 0 2 0 0::.own 1 3 0 c::Z1) (fun q=>oE t key u q) hmix hC rfl ?_ (by simpa using hnp) rfl g4 g5 hwp ?_
 .intro i hi
  match i with
  |0=>exact .inr (.inl rfl)
  |1=>exact .inr (.inl rfl)
  |i+2=>exact .inl ⟨rfl,cC has i⟩
 .intro d m1 h;obtain⟨hd,q⟩:=hQ d m1 h;refine⟨GR,11,⟨nx,cR m 0 (.buf 2 [g'.D])⟩,v,⟨rfl, ?_,aA _,g4, ?_,g5, ?_⟩,.inl ⟨hd.symm,by rw[hd];exact hv⟩,hK⟩
  .simp only[GR,eQ,Nat.blt,br,Nat.ble_eq];repeat' first|exact rfl|exact Nat.zero_le _|omega|refine And.intro ?_ ?_
  .intro i l h;obtain⟨rfl,hl⟩:=yC h;exact .inl (uP hl)
  .intro l bb h;simp only at h;rw[di]at h;split at h
   .rename_i e;subst e;obtain rfl:=bl h;exact .inl ⟨0,_,uP ae,q.1,rfl,.inl ⟨rfl,rfl⟩⟩
   .rename_i e0;rcases cT l 11 with hl|hl
    .obtain⟨b2,hb,hr⟩:=wq hn hE hw (show 1<=l by omega) ae;rw[hb _ _ hw]at h;obtain rfl:=bl h;exact .inl ⟨l,_,uP ae,hb _ _ q,hr⟩
    .refine .inr ⟨?_,fun i hi=>by have:=(yC hi).2;omega,h⟩;simp only[GR,jx];repeat(rw[ai ae])
end
end
section
def Jz (nx:Nat):List (Nat×Nat):=[(0,0),(1,nx),(2,nx+1),(3,nx+2),(4,nx+3),(5,nx+4),(6,nx+5),(7,nx+6),(8,nx+7),(9,nx+8)]
def L1 {nx l i:Nat}(h:(i,l)∈Jz nx):i=0/\l=0\/nx<=l:=by
 simp only[Jz,dz,eg,ec,or_false]at h;omega
def OS {nx j:Nat}(h:j<8):e9 0 (Jz nx) (2+j)=some (nx+1+j):=by
 match j,h with
 |0,_|1,_|2,_|3,_|4,_|5,_|6,_|7,_=>rfl
def OR {nx j:Nat}(h:j<8):(2+j,nx+1+j)∈Jz nx:=by
 match j,h with
 |0,_|1,_|2,_|3,_|4,_|5,_|6,_|7,_=>simp[Jz]
def KL {nx:Nat}{us:List RU}(h:us.length<=8):fk 0 (Jz nx) (xd us)=some (O8 (nx+1) us):=by
 unfold xd UB O8;have h2:∀j∈List.range us.length,e9 0 (Jz nx) (2+j)=some (nx+1+j):=fun j hj=>OS (by have:=List.mem_range.1 hj;omega)
 revert h2;generalize List.range us.length=r;intro h2;induction r with
 |nil=>rfl
 |cons a r ih=>
  have:=h2 a (.head _);simp only[List.map_cons,fk,UD,jk,qg,this,ih fun j hj=>h2 j (.tail _ hj)]
def KM {g:Gs}{us:List RU}{j:Nat}(h:j<8):look (UM g us) (2+j)=some (.buf 8 (us[j]!.cs.map (CW.D 10))):=by
 match j,h with
 |0,_|1,_|2,_|3,_|4,_|5,_|6,_|7,_=>rfl
def Hl {nx l:Nat}{us:List RU}{r:List (Nat×bT)}{b:bT}(h:look (O9 nx us++r) l=some b):l=nx/\b=.buf 3 (O8 (nx+1) us)\/(∃j,j<8/\l=nx+1+j/\b=.buf 8 (us[j]!.cs.map (CW.D 10)))\/(l<nx\/nx+8<l)/\look r l=some b:=by
 simp only[O9,qn,wF,look]at h;split at h
 .exact .inl ⟨ae,(bl h).symm⟩
 split at h
 .exact .inr (.inl ⟨0,bZ,ae,(bl h).symm⟩)
 split at h
 .exact .inr (.inl ⟨1,bZ,ae,(bl h).symm⟩)
 split at h
 .exact .inr (.inl ⟨2,bZ,ae,(bl h).symm⟩)
 split at h
 .exact .inr (.inl ⟨3,bZ,ae,(bl h).symm⟩)
 split at h
 .exact .inr (.inl ⟨4,bZ,ae,(bl h).symm⟩)
 split at h
 .exact .inr (.inl ⟨5,bZ,ae,(bl h).symm⟩)
 split at h
 .exact .inr (.inl ⟨6,bZ,ae,(bl h).symm⟩)
 split at h
 .exact .inr (.inl ⟨7,bZ,ae,(bl h).symm⟩)
 exact .inr (.inr ⟨ae,h⟩)
def wi (g:Gs)(few:Int):(eA g few).1.length<=8/\∀u∈(eA g few).1,u.pl:=by
 obtain⟨more,e,hm,hl,_,_⟩:=xY (g:=g) (few:=few);rw[e];refine⟨by simp only[tw,cK,List.length_singleton];omega,fun u hu=>?_⟩;rcases List.mem_append.1 hu with h|h
 .obtain rfl:=bG.1 h;intro c hc;obtain rfl:=bG.1 hc;rfl
 .obtain⟨vs,e,_⟩:=hm u h;intro c hc;rw[e]at hc;exact fC vs c hc
def Bi {a b c d e f g h i j k:bT}{l:Nat}(hl:11<=l):look [(0,a),(1,b),(2,c),(3,d),(4,e),(5,f),(6,g),(7,h),(8,i),(9,j),(10,k)] l=none:=by
 simp only[look];repeat rw[ai ae]
section
variable [dw] {P:Program} {ν:List (Nat×Nat)} {cy:List Nat} {t:List (Nat×lH)} {fid key u k:Nat} {af:aM} {nx:Nat} {m:List (Nat×bT)} {K:D->St->Prop}
def CZ {g g1:Gs}{us:List RU}{Z1:List D}{Q:D->List (Nat×bT)->Prop}(has:aW Z1=true)(hpl:∀u∈us,u.pl)(hl8:us.length<=8)(hmix:P.follows .mixedOrders=true)(hC:zn P ν cy fid af)(hnp:Z1.length+1=af.np)
  (h0:look m 0=some (.buf 2 [g.D])) (hx:0<nx) (hQ:∀d m1,Q d m1->d=.own 1 3 0 us.length/\m1=UM g1 us) (hK:K (.own nx 3 0 us.length) ⟨nx+9,O9 nx us++cR m 0 (.buf 2 [g1.D])⟩)
  (hw:cq ((under t key u).at 1) af.body (kn af Q) (fK af (.ptr 0 2 0 0::Z1)) ⟨1,[(0,.buf 2 [g.D])]⟩):kJ P ν cy (under t key u) fid (.ptr 0 2 0 0::Z1) ⟨nx,m⟩ K:=by
 have g3:eQ 0 1 [(0,0)]=true:=rfl;have g4:∀l i,(l,i)∈[(0,0)]->look m l≠none:=by
  intro l i h;obtain⟨rfl,rfl⟩:=Prod.mk.inj (bG.1 h);rw[h0];simp
 have g5:∀i b,look [(0,bT.buf 2 [g.D])] i=some b->∃l b',(l,i)∈[(0,0)]/\look m l=some b'/\mH 0 [(0,0)] b' b:=by
  intro i b h;simp only[look]at h;split at h
  .rename_i e;subst e;obtain rfl:=bl h;exact⟨0,_,.head _,h0,rfl,.inl ⟨rfl,rfl⟩⟩
  .cases h
 refine pA (σi:=[(0,0)]) (cs:=.ptr 0 2 0 0::Z1) (fun q=>oE t key u q) hmix hC bz ?_ (by simpa using hnp) g3 g4 g5 hw ?_
 .intro i hi
  match i with
  |0=>exact .inr (.inl rfl)
  |i+1=>exact .inl ⟨rfl,cC has i⟩
 .intro d m1 h;obtain⟨rfl,rfl⟩:=hQ d m1 h;refine⟨Jz nx,10,⟨nx+9,O9 nx us++cR m 0 (.buf 2 [g1.D])⟩,_,⟨g3, ?_,(Nat.le_add_right _ _:nx<=nx+9),g4, ?_,g5, ?_⟩,.inr (.inl rfl),hK⟩
  .have z:∀i,Nat.beq 0 (i+1)=false:=fun i=>rfl
   simp only[Jz,eQ,List.all_cons,List.all_nil,br,ef,Nat.blt,Nat.ble_eq];repeat' first|exact trivial|exact rfl|exact Nat.zero_le _|(exact eD ae)|omega|refine And.intro ?_ ?_
  .intro i l h;rcases L1 h with⟨rfl,rfl⟩|h
   .exact .inl (.head _)
   .exact .inr h
  .intro l bb h5;rcases Hl h5 with⟨rfl,rfl⟩|⟨j,hj,rfl,rfl⟩|⟨hl,h6⟩
   .exact .inl ⟨1,.buf 3 (xd us),by simp[Jz],rfl,rfl,.inr (.inl (KL hl8))⟩
   .exact .inl ⟨2+j,_,OR hj,KM hj,rfl,.inl ⟨rfl,jh hpl j⟩⟩
   .clear h5;rw[di]at h6;split at h6
    .rename_i e;subst e;obtain rfl:=bl h6;exact .inl ⟨0,.buf 2 [g1.D],.head _,rfl,rfl,.inl ⟨rfl,rfl⟩⟩
    .rename_i e0;refine .inr ⟨?_,fun i hi=>?_,h6⟩
     .simp only[Jz,jx];repeat(rw[ai ae])
     .obtain⟨e,_⟩:=Prod.mk.inj (bG.1 hi);omega
end
end
end Go.Abs
section
namespace Go.Abs
def ah {p:Prop}(h:p:=by exact rfl):p:=h
def Lz {p:Prop}(h:p:=by repeat(first|exact aN.nil|refine aN.un ?_|refine aN.eq bX ?_)):p:=h
def cF {p:Prop}(h:p:=by first|exact rfl|exact bL (fun _=>rfl) _):p:=h
def qe {p:Prop}(h:p:=by repeat(first|exact aN.nil|refine aN.un ?_|refine aN.eq bX ?_|refine aN.nl bX bX ?_)):p:=h
def lQ {p:Prop}(h:p:=by repeat' first|exact trivial|exact rfl|refine And.intro ?_ ?_):p:=h
def AA {p:Prop}(h:p:=by repeat' first|exact trivial|exact rfl|exact aA _|refine And.intro ?_ ?_):p:=h
def qqq1 {p:Prop}(h:p:=by repeat(first|exact aK.nil|refine aK.gH bX bX (by first|exact rfl|exact bL (fun _=>rfl) _) ?_|refine aK.eF bX bX bX ?_|refine aK.qo bX bX bX bX ?_)):p:=h
def b0 {p:Prop} [Decidable p]:(decide p=true)=p:=bC
def b1 {p:Prop} [Decidable p]:decide p=false↔¬p:=dc
def b2 (b:Bool):((!b)=true)=(b=false):=ef b
def b3 (b:Bool):((!b)=false)=(b=true):=nw b
def b4 (b:Bool):(¬(b=false))=(b=true):=Bool.not_eq_false b
def b5 (a b:Bool):((a ||b)=true)=(a=true\/b=true):=dZ a b
def b6 {a b:Bool}:(a ||b)=false↔a=false/\b=false:=ig
end Go.Abs
namespace Go.Abs
abbrev dR (Y:Ctx)(a:aM)(d:D)(ds:List D):Prop:=cq (Y.at 0) a.body (O7 a d) (fK a ds) ⟨0,[]⟩
def cP {a:aM}{d d2:D}{e:Ex}{nx:Nat}{m:List (Nat×bT)}{env:List b7}(h:d2=d)(he:e.home:=by exact trivial)(h1:ow m env a.res:=by exact AA)(h2:Bn a env m:=by exact lQ)(h3:JW a env m=d2:=by exact rfl):O7 a d e env ⟨nx,m⟩:=Js he h1 h2 (h3.trans h)
def cg {a:aM}{d d2:Bool}{e:Ex}{nx:Nat}{m:List (Nat×bT)}{env:List b7}(h:d2=d)(he:e.home:=by exact trivial)(h1:ow m env a.res:=by exact AA)(h2:Bn a env m:=by exact lQ)(h3:JW a env m=.bool d2:=by exact rfl):O7 a (.bool d) e env ⟨nx,m⟩:=cP (b8 _ h) he h1 h2 h3
def de {a:aM}{d d2:Int}{e:Ex}{nx:Nat}{m:List (Nat×bT)}{env:List b7}(h:d2=d)(he:e.home:=by exact trivial)(h1:ow m env a.res:=by exact AA)(h2:Bn a env m:=by exact lQ)(h3:JW a env m=.int .i64 d2:=by exact rfl):O7 a (.int .i64 d) e env ⟨nx,m⟩:=cP (b8 _ h) he h1 h2 h3
def fo {lo c nx nx2:Nat}{env env2:List b7}{m m2:List (Nat×bT)}(σ:List (Nat×Nat))(hc:nx2=c:=by exact ah)(h:eQ lo c σ=true:=by exact ah)(he:aN lo σ env env2:=by exact qe)(hm:aK lo c σ m m2:=by exact qqq1):aU lo env ⟨nx,m⟩ env2 ⟨nx2,m2⟩:=aU.to σ hc h he hm
end Go.Abs
namespace Go.Abs
def jI {lo c l:Nat}{σ:List (Nat×Nat)}{m r:List (Nat×bT)}{b:bT}(h:aK lo c σ m r)(hh:aK lo c σ m [(l,b)]:=by(first|refine aK.gH bX bX (by first|exact rfl|exact bL (fun _=>rfl) _) ?_|refine aK.eF bX bX bX ?_|refine aK.qo bX bX bX bX ?_)<;>exact aK.nil):aK lo c σ m ((l,b)::r):=⟨hh.1,h⟩
end Go.Abs
namespace Go.Abs
section
variable {Y:Ctx} {Q:Ex->List b7->St->Prop}
def cmN {env rs:List b7}:HK env rs []=env:=rfl
def cmC {s p:Nat}{r:List (Nat×Nat)}{env rs env1 env':List b7}{f:Bool}{d:D}(e:cL [] rs (.l p)=⟨f,d⟩)(hs:env.set s ⟨f,d⟩=env1)(h:HK env1 rs r=env'):HK env rs ((s,p)::r)=env':=by
 simp only[HK,e,hs,h]
def rrrg {draw:Bool}{cm:List (Nat×Nat)}{b:AC}{nx nx':Nat}{m:List (Nat×bT)}{rs env fK env':List b7}(h:cq Y b Q env' ⟨nx',m⟩)
  (he:HK env rs cm=env':=by repeat(first|apply cmC bX (by simp only[List.set_cons_zero,List.set_cons_succ];exact rfl)|with_reducible exact cmN)) (hn:nx+rs.length=nx':=by simp only[aY,bg,Nat.reduceAdd];exact rfl):aJ Y draw [] fK rs nx m (fun vs st'=>cq Y b Q (fV env vs cm) st'):=
 lC h he hn
def rrrh {draw:Bool}{cm:List (Nat×Nat)}{nx nx':Nat}{m:List (Nat×bT)}{rs env fK env':List b7}(h:Q .normal env' ⟨nx',m⟩)
  (he:HK env rs cm=env':=by repeat(first|apply cmC bX (by simp only[List.set_cons_zero,List.set_cons_succ];exact rfl)|with_reducible exact cmN)) (hn:nx+rs.length=nx':=by simp only[aY,bg,Nat.reduceAdd];exact rfl):aJ Y draw [] fK rs nx m (fun vs st'=>Q .normal (fV env vs cm) st'):=
 qU h he hn
end
def Fam (_:Prop):Type:=Unit
def wR {q:Prop}:Fam q:=()
structure Hid (q:Prop)(f:Fam q):Prop where
 val:q
section
variable {Y:Ctx} {draw b1:Bool} {r:List GI} {env rs:List b7} {nx n0 n1:Nat} {m:List (Nat×bT)} {K:List b7->St->Prop} {g:Option (Nat×Bool)} {x0 x1 x2:Src}
def tg0 {Y:Ctx}{a:AC}{Q:Ex->List b7->St->Prop}{env:List b7}{st:St}(h:cq Y a Q env st):cq Y a Q env st:=h
def tg1 (h:aJ Y draw (⟨.mv x0,g⟩::r) env rs nx m K):aJ Y draw (⟨.mv x0,g⟩::r) env rs nx m K:=h
def tg2 (h:aJ Y draw [] env rs nx m K):aJ Y draw [] env rs nx m K:=h
def tg3 (h:aJ Y draw (⟨.fa n0 x1,g⟩::r) env rs nx m K):aJ Y draw (⟨.fa n0 x1,g⟩::r) env rs nx m K:=h
def tg4 (h:aJ Y draw (⟨.ld n0 b1 x2,g⟩::r) env rs nx m K):aJ Y draw (⟨.ld n0 b1 x2,g⟩::r) env rs nx m K:=h
def tg5 (h:aJ Y draw (⟨.bin .lss x0 x1,g⟩::r) env rs nx m K):aJ Y draw (⟨.bin .lss x0 x1,g⟩::r) env rs nx m K:=h
def tg6 (h:aJ Y draw (⟨.bin .eql x0 x1,g⟩::r) env rs nx m K):aJ Y draw (⟨.bin .eql x0 x1,g⟩::r) env rs nx m K:=h
def tg7 (h:aJ Y draw (⟨.bin .add x0 x1,g⟩::r) env rs nx m K):aJ Y draw (⟨.bin .add x0 x1,g⟩::r) env rs nx m K:=h
def tg8 (h:aJ Y draw (⟨.bin .gtr x0 x1,g⟩::r) env rs nx m K):aJ Y draw (⟨.bin .gtr x0 x1,g⟩::r) env rs nx m K:=h
def tg9 (h:aJ Y draw (⟨.bin .neq x0 x1,g⟩::r) env rs nx m K):aJ Y draw (⟨.bin .neq x0 x1,g⟩::r) env rs nx m K:=h
def tg10 (h:aJ Y draw (⟨.bin .leq x0 x1,g⟩::r) env rs nx m K):aJ Y draw (⟨.bin .leq x0 x1,g⟩::r) env rs nx m K:=h
def tg11 (h:aJ Y draw (⟨.bin .geq x0 x1,g⟩::r) env rs nx m K):aJ Y draw (⟨.bin .geq x0 x1,g⟩::r) env rs nx m K:=h
def tg12 (h:aJ Y draw (⟨.bin .sub x0 x1,g⟩::r) env rs nx m K):aJ Y draw (⟨.bin .sub x0 x1,g⟩::r) env rs nx m K:=h
def tg13 (h:aJ Y draw (⟨.ext x0 n1,g⟩::r) env rs nx m K):aJ Y draw (⟨.ext x0 n1,g⟩::r) env rs nx m K:=h
def tg14 (h:aJ Y draw (⟨.pick x0 x1 (.c (.bool false)),g⟩::r) env rs nx m K):aJ Y draw (⟨.pick x0 x1 (.c (.bool false)),g⟩::r) env rs nx m K:=h
def tg15 (h:aJ Y draw (⟨.pick x0 (.c (.bool true)) x1,g⟩::r) env rs nx m K):aJ Y draw (⟨.pick x0 (.c (.bool true)) x1,g⟩::r) env rs nx m K:=h
def tg16 (h:aJ Y draw (⟨.un .not x0,g⟩::r) env rs nx m K):aJ Y draw (⟨.un .not x0,g⟩::r) env rs nx m K:=h
def tg17 (h:aJ Y draw (⟨.nilck x0,g⟩::r) env rs nx m K):aJ Y draw (⟨.nilck x0,g⟩::r) env rs nx m K:=h
def tg18 (h:aJ Y draw (⟨.box n0 x1,g⟩::r) env rs nx m K):aJ Y draw (⟨.box n0 x1,g⟩::r) env rs nx m K:=h
def tg19 (h:aJ Y draw (⟨.ia n0 x1 x2,g⟩::r) env rs nx m K):aJ Y draw (⟨.ia n0 x1 x2,g⟩::r) env rs nx m K:=h
def tg20 (h:aJ Y draw (⟨.ixS x0 x1,g⟩::r) env rs nx m K):aJ Y draw (⟨.ixS x0 x1,g⟩::r) env rs nx m K:=h
def tg21 (h:aJ Y draw (⟨.st n0 x1 x2,g⟩::r) env rs nx m K):aJ Y draw (⟨.st n0 x1 x2,g⟩::r) env rs nx m K:=h
def tg22 (h:aJ Y draw (⟨.len x0,g⟩::r) env rs nx m K):aJ Y draw (⟨.len x0,g⟩::r) env rs nx m K:=h
def tg23 (h:aJ Y draw (⟨.lenS x0,g⟩::r) env rs nx m K):aJ Y draw (⟨.lenS x0,g⟩::r) env rs nx m K:=h
def tg24 (h:aJ Y draw (⟨.rng x0,g⟩::r) env rs nx m K):aJ Y draw (⟨.rng x0,g⟩::r) env rs nx m K:=h
def tg25 (h:aJ Y draw (⟨.s2b x0,g⟩::r) env rs nx m K):aJ Y draw (⟨.s2b x0,g⟩::r) env rs nx m K:=h
def tg26 (h:aJ Y draw (⟨.mkB,g⟩::r) env rs nx m K):aJ Y draw (⟨.mkB,g⟩::r) env rs nx m K:=h
def tg27 (h:aJ Y draw (⟨.app n0 x1 x2,g⟩::r) env rs nx m K):aJ Y draw (⟨.app n0 x1 x2,g⟩::r) env rs nx m K:=h
end
def av {p q:Prop}(k:q)(h:Hid q wR->p:=by
 intro h;first
 |((with_reducible refine tg0 ?_);first|with_reducible exact aq h.1|with_reducible exact wv h.1|with_reducible exact wA h.1|with_reducible exact wz h.1|with_reducible exact GQ h.1|with_reducible exact wp_ret h.1|with_reducible exact wp_skip h.1|with_reducible exact wx h.1|with_reducible exact wp_exit h.1|with_reducible exact sV h.1 hm|with_reducible exact GP h.1 hm)
 |((with_reducible refine tg1 ?_);(refine m9 ?_;exact h.1))
 |((with_reducible refine tg2 ?_);first|(refine rrrh ?_;exact h.1)|(refine rrrg ?_;exact h.1))
 |((with_reducible refine tg3 ?_);first|(refine IX ?_;exact h.1)|(refine RO ?_;exact h.1))
 |((with_reducible refine tg4 ?_);first|exact az (.int _ _) h.1|exact az (.str _) h.1|(refine bj (v:=.str _) ?_;exact h.1)|(refine fQ (v:=.str _) ?_;exact h.1)|(refine bj (v:=.int _ _) ?_;exact h.1)|(refine fQ (v:=.int _ _) ?_;exact h.1)|exact az (.sl _ _) h.1|exact az (.own _ _ _ _) h.1|exact az (.bool _) h.1|(refine bj (v:=.sl _ _) ?_;exact h.1)|(refine fQ (v:=.sl _ _) ?_;exact h.1)|(refine bj (v:=.bool _) ?_;exact h.1)|(refine fQ (v:=.bool _) ?_;exact h.1)|exact bd h.1|exact az .aG h.1)
 |((with_reducible refine tg5 ?_);first|(refine yZ ?_;exact h.1)|(refine OL ?_;exact h.1))
 |((with_reducible refine tg6 ?_);first|(refine Oz ?_;exact h.1)|(refine OA ?_;exact h.1))
 |((with_reducible refine tg7 ?_);(refine aL ?_;exact h.1))
 |((with_reducible refine tg8 ?_);first|(refine OD ?_;exact h.1)|(refine OE ?_;exact h.1))
 |((with_reducible refine tg9 ?_);first|(refine OM ?_;exact h.1)|(refine ON ?_;exact h.1))
 |((with_reducible refine tg10 ?_);first|(refine OJ ?_;exact h.1)|(refine OK ?_;exact h.1))
 |((with_reducible refine tg11 ?_);first|(refine OB ?_;exact h.1)|(refine OC ?_;exact h.1))
 |((with_reducible refine tg12 ?_);(refine fj ?_;exact h.1))
 |((with_reducible refine tg13 ?_);first|exact gR (.int _ _) h.1|exact gR (.str _) h.1|exact gR (.bool _) h.1)
 |((with_reducible refine tg14 ?_);(refine RN ?_;exact h.1))
 |((with_reducible refine tg15 ?_);(refine r_or ?_;exact h.1))
 |((with_reducible refine tg16 ?_);(refine RR ?_;exact h.1))
 |((with_reducible refine tg17 ?_);first|(refine OO ?_;exact h.1)|(refine OP ?_;exact h.1))
 |((with_reducible refine tg18 ?_);(refine MM ?_;exact h.1))
 |((with_reducible refine tg19 ?_);first|exact bn _ h.1|exact IZ h.1|exact gE _ h.1|exact OF h.1)
 |((with_reducible refine tg20 ?_);first|exact I0 _ h.1|exact OH h.1)
 |((with_reducible refine tg21 ?_);exact dm _ h.1)
 |((with_reducible refine tg22 ?_);first|exact Cq fun a=>(h.1:_->_) (a rfl rfl)|exact I3 fun a=>(h.1:_->_) (a rfl rfl)|(refine OI ?_;exact h.1))
 |((with_reducible refine tg23 ?_);exact I4 fun a=>(h.1:_->_) (a rfl rfl))
 |((with_reducible refine tg24 ?_);(refine RW ?_;exact h.1))
 |((with_reducible refine tg25 ?_);(refine RX ?_;exact h.1))
 |((with_reducible refine tg26 ?_);(refine RP ?_;exact h.1))
 |((with_reducible refine tg27 ?_);(refine ee ?_;exact h.1))
 |with_reducible exact BQ.normal h.1|with_reducible exact BQ.ret h.1|with_reducible exact LQ.normal h.1|with_reducible exact LQ.out h.1|with_reducible exact LQ.ret h.1|with_reducible exact BQ.out h.1|with_reducible exact Bv.normal h.1|with_reducible exact Bv.ret h.1|with_reducible exact Bw.normal h.1|with_reducible exact Bw.ret h.1|with_reducible exact Bv.out h.1|with_reducible exact Bw.out h.1|with_reducible exact CQ.normal h.1|with_reducible exact CQ.ret h.1|with_reducible exact CQ.other h.1|((with_reducible refine BQ.other ?_ h.1);exact rfl)|((with_reducible refine LQ.other ?_ h.1);exact rfl)|((with_reducible refine Bv.other ?_ h.1);exact rfl)|((with_reducible refine Bw.other ?_ h.1);exact rfl)):p:=h ⟨k⟩
def lY {p q:Prop}(k:q)(h:Hid q wR->p:=by intro h;first|exact Cq fun _=>h.1|exact I4 fun _=>h.1|exact I3 fun _=>h.1):p:=h ⟨k⟩
section
variable {Y:Ctx} {Q:Ex->List b7->St->Prop}
end
def qt:(∀{p:Prop} [Decidable p],(decide p=true)=p)/\(∀{p:Prop} [Decidable p],decide p=false↔¬p)/\(∀b:Bool,((!b)=true)=(b=false))/\(∀b:Bool,((!b)=false)=(b=true))/\(∀b:Bool,(¬(b=false))=(b=true))/\(∀a b:Bool,((a ||b)=true)=(a=true\/b=true))/\(∀{a b:Bool},(a ||b)=false↔a=false/\b=false)/\(∀a b:Bool,((a&&b)=true)=(a=true/\b=true))/\(∀{a b:Bool},(a&&b)=false↔a=false\/b=false)/\(∀b:Bool,(¬(b=true))=(b=false))/\(∀b:Bool,(true&&b)=b)/\∀b:Bool,(b&&true)=b:=
 ⟨bC,dc,ef,nw,Bool.not_eq_false,dZ,ig,br,fD,Bool.not_eq_true,ik,eM⟩
section
variable {Y:Ctx} {Q:Ex->List b7->St->Prop} {env:List b7} {st:St}
def dk {c:Src}{a b r:AC}{t:Bool}{c1 c2:Prop}(h1:c1->cq Y (.seq a r) Q env st)(h2:c2->cq Y (.seq b r) Q env st)(hc:cL env [] c=⟨true,.bool t⟩:=by exact rfl)(e1:t=true->c1:=by intro h;(try simp only[qt]at h);exact h)(e2:t=false->c2:=by intro h;(try simp only[qt]at h);exact h):cq Y (.seq (.cond c a b) r) Q env st:=bA (fun h=>h1 (e1 h)) (fun h=>h2 (e2 h)) hc
def im {c:Src}{a b:AC}{t:Bool}{c1 c2:Prop}(h1:c1->cq Y a Q env st)(h2:c2->cq Y b Q env st)(hc:cL env [] c=⟨true,.bool t⟩:=by exact rfl)(e1:t=true->c1:=by intro h;(try simp only[qt]at h);exact h)(e2:t=false->c2:=by intro h;(try simp only[qt]at h);exact h):cq Y (.cond c a b) Q env st:=wp_cond (fun h=>h1 (e1 h)) (fun h=>h2 (e2 h)) hc
end
end Go.Abs
namespace Go.Abs
def aC {p q:Prop}(k:q)(h:Hid q wR->p:=by intro h;(iterate 2 refine av ?_);exact h.1):p:=h ⟨k⟩
def aw {p q:Prop}(k:q)(h:Hid q wR->p:=by intro h;(iterate 3 refine av ?_);exact h.1):p:=h ⟨k⟩
def aT {p q:Prop}(k:q)(h:Hid q wR->p:=by intro h;(iterate 4 refine av ?_);exact h.1):p:=h ⟨k⟩
def aH {p q:Prop}(k:q)(h:Hid q wR->p:=by intro h;(iterate 5 refine av ?_);exact h.1):p:=h ⟨k⟩
def bw {p q:Prop}(k:q)(h:Hid q wR->p:=by intro h;(iterate 6 refine av ?_);exact h.1):p:=h ⟨k⟩
def cU {p q:Prop}(k:q)(h:Hid q wR->p:=by intro h;(iterate 7 refine av ?_);exact h.1):p:=h ⟨k⟩
def iO {p q:Prop}(k:q)(h:Hid q wR->p:=by intro h;(iterate 8 refine av ?_);exact h.1):p:=h ⟨k⟩
def jl {p q:Prop}(k:q)(h:Hid q wR->p:=by intro h;(iterate 9 refine av ?_);exact h.1):p:=h ⟨k⟩
def j4 {p q:Prop}(k:q)(h:Hid q wR->p:=by intro h;(iterate 10 refine av ?_);exact h.1):p:=h ⟨k⟩
def sX {p q:Prop}(k:q)(h:Hid q wR->p:=by intro h;(iterate 11 refine av ?_);exact h.1):p:=h ⟨k⟩
def lF {p q:Prop}(k:q)(h:Hid q wR->p:=by intro h;(iterate 12 refine av ?_);exact h.1):p:=h ⟨k⟩
def Fl {p q:Prop}(k:q)(h:Hid q wR->p:=by intro h;(iterate 13 refine av ?_);exact h.1):p:=h ⟨k⟩
def MU {p q:Prop}(k:q)(h:Hid q wR->p:=by intro h;(iterate 14 refine av ?_);exact h.1):p:=h ⟨k⟩
def MV {p q:Prop}(k:q)(h:Hid q wR->p:=by intro h;(iterate 15 refine av ?_);exact h.1):p:=h ⟨k⟩
def So {p q:Prop}(k:q)(h:Hid q wR->p:=by intro h;(iterate 16 refine av ?_);exact h.1):p:=h ⟨k⟩
def Sp {p q:Prop}(k:q)(h:Hid q wR->p:=by intro h;(iterate 18 refine av ?_);exact h.1):p:=h ⟨k⟩
def Sq {p q:Prop}(k:q)(h:Hid q wR->p:=by intro h;(iterate 21 refine av ?_);exact h.1):p:=h ⟨k⟩
def Sr {p q:Prop}(k:q)(h:Hid q wR->p:=by intro h;(iterate 26 refine av ?_);exact h.1):p:=h ⟨k⟩
def Ss {p q:Prop}(k:q)(h:Hid q wR->p:=by intro h;(iterate 28 refine av ?_);exact h.1):p:=h ⟨k⟩
end Go.Abs
namespace Go.Abs
abbrev s0:Src:=.s 0
abbrev s1:Src:=.s 1
abbrev s2:Src:=.s 2
abbrev s3:Src:=.s 3
abbrev s4:Src:=.s 4
abbrev s5:Src:=.s 5
abbrev s6:Src:=.s 6
abbrev s7:Src:=.s 7
abbrev s8:Src:=.s 8
abbrev s9:Src:=.s 9
abbrev jf:Src:=.s 10
abbrev pj:Src:=.s 11
abbrev mz:Src:=.s 12
abbrev tW:Src:=.s 13
abbrev zl:Src:=.s 14
abbrev Kg:Src:=.s 15
abbrev GY:Src:=.s 16
abbrev LR:Src:=.s 17
abbrev s18:Src:=.s 18
abbrev s19:Src:=.s 19
abbrev s20:Src:=.s 20
abbrev l0:Src:=.l 0
abbrev l1:Src:=.l 1
abbrev l2:Src:=.l 2
abbrev l3:Src:=.l 3
abbrev l4:Src:=.l 4
abbrev l5:Src:=.l 5
abbrev l6:Src:=.l 6
abbrev l7:Src:=.l 7
abbrev l8:Src:=.l 8
abbrev l9:Src:=.l 9
abbrev l10:Src:=.l 10
abbrev ib:Src:=.l 11
abbrev iP:Src:=.l 12
abbrev jL:Src:=.l 13
abbrev kR:Src:=.l 14
abbrev mG:Src:=.l 15
abbrev oS:Src:=.l 16
abbrev rQ:Src:=.l 17
abbrev uX:Src:=.l 18
abbrev zk:Src:=.l 19
abbrev DE:Src:=.l 20
abbrev DF:Src:=.l 21
abbrev FW:Src:=.l 22
abbrev Ke:Src:=.l 23
abbrev MH:Src:=.l 24
abbrev N9:Src:=.l 25
abbrev RG:Src:=.l 26
abbrev RH:Src:=.l 27
abbrev RI:Src:=.l 28
abbrev l29:Src:=.l 29
abbrev l30:Src:=.l 30
abbrev l31:Src:=.l 31
abbrev l32:Src:=.l 32
abbrev l33:Src:=.l 33
abbrev l34:Src:=.l 34
abbrev l35:Src:=.l 35
abbrev l36:Src:=.l 36
abbrev l37:Src:=.l 37
abbrev l38:Src:=.l 38
abbrev l39:Src:=.l 39
abbrev gm (x:Src):GI:=⟨.mv x,none⟩
abbrev gn (x:aI):GI:=⟨x,none⟩
abbrev i6 (n:Int):Src:=.c (.int .i64 n)
abbrev cs (s:List UInt8):Src:=.c (.str s)
abbrev gd (x:Src):GI:=⟨.ld 1 false x,none⟩
abbrev gk (n:Nat)(b:Bool)(x:Src):GI:=⟨.ld n b x,none⟩
abbrev gf (n:Nat)(x:Src):GI:=⟨.fa n x,none⟩
abbrev gl (x:Src):GI:=⟨.len x,none⟩
abbrev ga (n:Nat)(x y:Src):GI:=⟨.ia n x y,none⟩
abbrev ge (x:Src)(n:Nat):GI:=⟨.ext x n,none⟩
abbrev gb (n:Nat)(x:Src):GI:=⟨.box n x,none⟩
abbrev gc (x:Src):GI:=⟨.nilck x,none⟩
abbrev gt (n:Nat)(x y:Src):GI:=⟨.st n x y,none⟩
abbrev gx (n:Nat)(x:List Src)(y:List (List Sh)):GI:=⟨.call n x y,none⟩
abbrev rg (x:List GI)(y:List (Nat×Nat)):AC:=.reg false x y
abbrev rt (x:List GI)(y:List (Nat×Nat)):AC:=.reg true x y
abbrev jo (x y:Src):aI:=.bin .lss x y
abbrev fS (x y:Src):aI:=.bin .eql x y
abbrev fE (x y:Src):aI:=.bin .gtr x y
abbrev mc (x y:Src):aI:=.bin .neq x y
abbrev zF (x y:Src):aI:=.bin .leq x y
abbrev jn (x y:Src):aI:=.bin .geq x y
abbrev uy (x y:Src):aI:=.bin .sub x y
abbrev Hs (x y:Src):aI:=.bin .and x y
abbrev dK:Src:=.c (.bool false)
abbrev py:Src:=.c (.bool true)
abbrev cse:Src:=.c (.str [])
abbrev ch:Src:=.c (.int .i64 0)
abbrev cO:Src:=.c (.int .i64 1)
abbrev zj:Src:=.c (.int .i64 2)
abbrev H9:Src:=.c (.int .i64 3)
abbrev N5:Src:=.c (.int .i64 4)
abbrev ic5:Src:=.c (.int .i64 5)
abbrev ic6:Src:=.c (.int .i64 6)
abbrev ic7:Src:=.c (.int .i64 7)
abbrev ic8:Src:=.c (.int .i64 8)
abbrev ic9:Src:=.c (.int .i64 9)
abbrev gmt (n:Nat)(x:Src):GI:=⟨.mv x,some (n,true)⟩
abbrev j6 (n:Nat)(x:Src):GI:=⟨.ld 1 false x,some (n,true)⟩
abbrev gw (n o:Nat)(x:Src):GI:=⟨.fa o x,some (n,true)⟩
abbrev cN (n:Nat)(x:aI):GI:=⟨x,some (n,true)⟩
abbrev gB (n:Nat)(x:Src):GI:=⟨.mv x,some (n,false)⟩
abbrev lv (n:Nat)(x:Src):GI:=⟨.ld 1 false x,some (n,false)⟩
abbrev kO (n o:Nat)(x:Src):GI:=⟨.fa o x,some (n,false)⟩
abbrev dn (n:Nat)(x:aI):GI:=⟨x,some (n,false)⟩
abbrev sq (a b:AC):AC:=.seq a b
abbrev Kd (x:Src):AC:=.seq (.reg false [⟨.mv x,none⟩] [(1,0)]) .ret
abbrev BT (c x:Src):AC:=.cond c (.seq (.reg false [⟨.mv x,none⟩] [(1,0)]) .ret) .skip
abbrev dN:List (List Sh):=[[.a]]
abbrev ha2:List (List Sh):=[[.a,.a]]
abbrev oP:List (List Sh):=[[.a,.a,.a,.a,.a]]
abbrev xo:List (List Sh):=[[.a,.a,.a,.a,.a,.a,.a]]
abbrev lg:List (List Sh):=[[.a],[.a]]
abbrev gC (c x:Src):GI:=⟨.pick c (.c (.bool true)) x,none⟩
abbrev gX (c x:Src):GI:=⟨.pick c x (.c (.bool false)),none⟩
abbrev Rv (n:Nat)(c x:Src):GI:=⟨.pick c (.c (.bool true)) x,some (n,true)⟩
abbrev BS (n:Nat)(c x:Src):GI:=⟨.pick c x (.c (.bool false)),some (n,false)⟩
abbrev aS (x y:Src):GI:=⟨.bin .lss x y,none⟩
abbrev cr (x y:Src):GI:=⟨.bin .eql x y,none⟩
abbrev aV (x y:Src):GI:=⟨.bin .add x y,none⟩
abbrev iB (x y:Src):GI:=⟨.bin .gtr x y,none⟩
abbrev dT (x y:Src):GI:=⟨.bin .neq x y,none⟩
abbrev Cd (x y:Src):GI:=⟨.bin .leq x y,none⟩
abbrev lP (x y:Src):GI:=⟨.bin .geq x y,none⟩
abbrev fw (x y:Src):GI:=⟨.bin .sub x y,none⟩
abbrev iY (x y:Src):GI:=⟨.bin .and x y,none⟩
abbrev DK (x y:Src):GI:=⟨.bin .or x y,none⟩
abbrev fR (c:Src)(n:Nat):AC:=.cond c .skip (.exit n)
abbrev i8 (n:Int):Src:=.c (.int .u8 n)
abbrev i3 (n:Int):Src:=.c (.int .i32 n)
abbrev iu (n:Int):Src:=.c (.int .u64 n)
abbrev K5 (x:Src):GI:=⟨.lenS x,none⟩
abbrev nA (x:Src):GI:=⟨.un .not x,none⟩
abbrev N1 (x y:Src):GI:=⟨.ixS x y,none⟩
abbrev r1 (x:List GI)(a b:Nat):AC:=.reg false x [(a,b)]
abbrev r2 (x:List GI)(a b:Nat):AC:=.reg true x [(a,b)]
abbrev nr:List Bx:=[⟨1,none⟩]
end Go.Abs
end
namespace Go.Abs
def uj (T:List D->D->Prop):Prop:=∀(s:dF),T [.str s] (.tup [.int .i64 (tq s),.bool (kf s)])
def Nj (Y:Ctx):Prop:=uj (cd Y 658)
def ug (T:List D->D->Prop):Prop:=∀(s:dF) (b:Int),(s.length<=1048576)->T [.str s,.int .u8 b] (.sl 1 ((bM s b).map D.str))
def Ku (Y:Ctx):Prop:=ug (cd Y 533)
def uk (T:List D->D->Prop):Prop:=∀(t:dF),T [.str t] (.bool (cI t))
def Nk (Y:Ctx):Prop:=uk (cd Y 659)
def uc (T:List D->D->Prop):Prop:=∀(n:Int),T [.int .i64 n] (.bool (BP n))
def PA (Y:Ctx):Prop:=uc (cd Y 440)
def ED (T:List D->D->Prop):Prop:=∀(s:dF),(s.length<=1048576)->T [.str s] (.bool (mC s false))
def Nb (Y:Ctx):Prop:=ED (cd Y 442)
def E3 (T:List D->D->Prop):Prop:=∀(x:Int),T [.int .i64 x] (.bool false)
def P1 (Y:Ctx):Prop:=E3 (cd Y 714)
def E2 (T:List D->D->Prop):Prop:=∀(x:dF),T [.str x] (.bool false)
def PZ (Y:Ctx):Prop:=E2 (cd Y 704)
def uf (T:List D->D->Prop):Prop:=∀(a:Int) (b:Int),T [.int .i64 a,.int .i64 b] (.int .i64 (dp a b))
def Kt (Y:Ctx):Prop:=uf (cd Y 532)
def ud (T:List D->D->Prop):Prop:=∀(a:dF) (b:dF),T [.str a,.str b] (.int .i64 (lh a b))
def Nd (Y:Ctx):Prop:=ud (cd Y 516)
def EG (T:List D->D->Prop):Prop:=∀(l:List Int),T [.sl 1 (l.map (D.int .i64))] (.int .i64 (gM (fun i=>l[i]!) 0 l.length))
def Nf (Y:Ctx):Prop:=EG (cd Y 531)
def ue (T:List D->D->Prop):Prop:=∀(v:bp),T [bp.D v] (bp.D (jO v))
def PF (Y:Ctx):Prop:=ue (cd Y 530)
def uh (T:List D->D->Prop):Prop:=∀(a:dF) (b:dF),T [.str a,.str b] (.int .i64 (pn a b))
def PG (Y:Ctx):Prop:=uh (cd Y 534)
def Nc (Y:Ctx):Prop:=ug (cd Y 470)
def EE (T:List D->D->Prop):Prop:=∀(c:Int),T [.int .u8 c] (.bool (dj c))
def PC (Y:Ctx):Prop:=EE (cd Y 454)
def Nl (Y:Ctx):Prop:=uj (cd Y 667)
def Nn (Y:Ctx):Prop:=uk (cd Y 668)
def E1 (T:List D->D->Prop):Prop:=∀(t:dF),T [.str t] (.bool (pk t))
def PY (Y:Ctx):Prop:=E1 (cd Y 666)
def EF (T:List D->D->Prop):Prop:=∀(s:dF) (p:Bool),(s.length<=1048576)->T [.str s,.bool p] (.bool (sT s p))
def PE (Y:Ctx):Prop:=EF (cd Y 456)
def PD (Y:Ctx):Prop:=uc (cd Y 455)
def ua (T:List D->D->Prop):Prop:=∀(v:bp),(v.sm)->T [bp.D v] (.bool (j3 v))
def yg (Y:Ctx):Prop:=ua (cd Y 217)
def G4 (Y:Ctx):Prop:=uf (cd Y 630)
def Qd (Y:Ctx):Prop:=ud (cd Y 927)
def P6 (Y:Ctx):Prop:=uh (cd Y 783)
def ER (T:List D->D->Prop):Prop:=∀(a:dF) (b:dF),(a.length<=1048576/\b.length<=1048576)->T [.str a,.str b] (.int .i64 (rZ a b))
def PO (Y:Ctx):Prop:=ER (cd Y 631)
def ub (T:List D->D->Prop):Prop:=∀(a:bp) (b:bp),(a.sm/\b.sm)->T [bp.D a,bp.D b] (.int .i64 (kL a b))
def M8 (Y:Ctx):Prop:=ub (cd Y 424)
def rb (T:List D->D->Prop):Prop:=∀(c:Cut),(c.v.sm)->T [Cut.D c] (.bool (lj c))
def C4 (Y:Ctx):Prop:=rb (cd Y 1086)
def q9 (T:List D->D->Prop):Prop:=∀(a:Cut) (b:Cut),(a.v.sm/\b.v.sm)->T [Cut.D a,Cut.D b] (.int .i64 (gh a b))
def xa (Y:Ctx):Prop:=q9 (cd Y 1020)
def ra (T:List D->D->Prop):Prop:=∀(c:Cut) (v:bp),(c.v.sm/\v.sm)->T [Cut.D c,bp.D v] (.bool (gI c v))
def Mg (Y:Ctx):Prop:=ra (cd Y 1025)
def q7 (T:List D->D->Prop):Prop:=∀(s:Span),(s.sm)->T [Span.D s] (.bool (jZ s))
def C3 (Y:Ctx):Prop:=q7 (cd Y 1019)
def ur (T:List D->D->Prop):Prop:=∀(s:Span) (v:bp),(s.sm/\v.sm)->T [Span.D s,bp.D v] (.bool (lM s v))
def Qc (Y:Ctx):Prop:=ur (cd Y 926)
def uq (T:List D->D->Prop):Prop:=∀(l:List Span),(bW l)->T [.sl 14 (l.map Span.D)] (.bool (lS l))
def G6 (Y:Ctx):Prop:=uq (cd Y 916)
def uo (T:List D->D->Prop):Prop:=∀(l:List Span) (v:bp),(bW l/\v.sm)->T [.sl 14 (l.map Span.D),bp.D v] (.bool (na l v))
def P5 (Y:Ctx):Prop:=uo (cd Y 782)
def EI (T:List D->D->Prop):Prop:=∀(v:bp),T [bp.D v] (.bool (pY v))
def Nh (Y:Ctx):Prop:=EI (cd Y 600)
def E9 (T:List D->D->Prop):Prop:=∀(c:Cut),T [Cut.D c] (.bool (jE c))
def Qa (Y:Ctx):Prop:=E9 (cd Y 917)
def um (T:List D->D->Prop):Prop:=∀(s:bQ),(s.sm)->T [bQ.D s] (.bool (nd s))
def Kx (Y:Ctx):Prop:=um (cd Y 770)
def ui (T:List D->D->Prop):Prop:=∀(s:bQ) (v:bp),(s.sm/\v.sm)->T [bQ.D s,bp.D v] (.bool (nB s v))
def PN (Y:Ctx):Prop:=ui (cd Y 627)
def EJ (T:List D->D->Prop):Prop:=T [] (Cut.D mW)
def Kv (Y:Ctx):Prop:=EJ (cd Y 601)
def EL (T:List D->D->Prop):Prop:=T [] (Cut.D qN)
def Kw (Y:Ctx):Prop:=EL (cd Y 603)
def Ng (Y:Ctx):Prop:=ue (cd Y 599)
def El (T:List D->D->Prop):Prop:=∀(v:bp),T [bp.D v] (Cut.D (lr v))
def Ko (Y:Ctx):Prop:=El (cd Y 376)
def Em (T:List D->D->Prop):Prop:=∀(v:bp),T [bp.D v] (Cut.D (tJ v))
def Pq (Y:Ctx):Prop:=Em (cd Y 377)
def E4 (T:List D->D->Prop):Prop:=∀(v:bp) (p:Int),(v.sm)->T [bp.D v,.int .i64 p] (.tup [bp.D (fT v p).1,.bool (fT v p).2])
def P2 (Y:Ctx):Prop:=E4 (cd Y 769)
def EK (T:List D->D->Prop):Prop:=∀(v:bp),(v.sm)->T [bp.D v] (.tup [bp.D (iI v).1,.bool (iI v).2])
def PI (Y:Ctx):Prop:=EK (cd Y 602)
def Ek (T:List D->D->Prop):Prop:=T [] (bQ.D vE)
def G3 (Y:Ctx):Prop:=Ek (cd Y 375)
def EH (T:List D->D->Prop):Prop:=T [] (.sl 14 (qm.map Span.D))
def PH (Y:Ctx):Prop:=EH (cd Y 598)
def Ej (T:List D->D->Prop):Prop:=T [] (bQ.D wN)
def M5 (Y:Ctx):Prop:=Ej (cd Y 374)
def En (T:List D->D->Prop):Prop:=∀(v:bp),T [bp.D v] (Cut.D (nP v))
def Pr (Y:Ctx):Prop:=En (cd Y 378)
def Eo (T:List D->D->Prop):Prop:=∀(v:bp),T [bp.D v] (Cut.D (zH v))
def Ps (Y:Ctx):Prop:=Eo (cd Y 379)
def D9 (T:List D->D->Prop):Prop:=∀(v:bp),(v.sm)->T [bp.D v] (bQ.D (bY v))
def MY (Y:Ctx):Prop:=D9 (cd Y 156)
def Bp (T:List D->D->Prop):Prop:=∀(l:List Cut) (c:Cut),((nK l/\c.sm)/\l.length<=10000)->T [.sl 7 (l.map Cut.D),Cut.D c] (.sl 7 ((td l c).map Cut.D))
def Mf (Y:Ctx):Prop:=Bp (cd Y 1021)
def Fa (T:List D->D->Prop):Prop:=∀(l:List Span),(bW l/\l.length<=2000)->T [.sl 14 (l.map Span.D)] (.sl 7 ((cG l).map Cut.D))
def Nq (Y:Ctx):Prop:=Fa (cd Y 919)
def Fb (T:List D->D->Prop):Prop:=∀(l:List Span) (f:Cut) (t:Cut),(bW l/\f.sm/\t.sm)->T [.sl 14 (l.map Span.D),Cut.D f,Cut.D t] (.bool (pR l f t))
def Nr (Y:Ctx):Prop:=Fb (cd Y 920)
def Ky (Y:Ctx):Prop:=∀(out:List Span) (f t:Cut),((bW out/\f.sm/\t.sm)/\out.length<=100000)->∀(nx lo:Nat) (m:List (Nat×bT)) (K:D->St->Prop),look m lo=some (.buf 14 (out.map Span.D))->lo<nx->K (.own nx 14 0 (kQ out f t).length) ⟨nx+1,(nx,.buf 14 ((kQ out f t).map Span.D))::bF m lo⟩->Y.tr 921 [.own lo 14 0 out.length,Cut.D f,Cut.D t] ⟨nx,m⟩ K
def Np (Y:Ctx):Prop:=∀(l:List Span),(bW l/\l.length<=2000)->∀(nx lo:Nat) (m:List (Nat×bT)) (K:D->St->Prop),look m lo=some (.buf 14 (l.map Span.D))->lo<nx->K (.tup [.sl 14 ((og l).1.map Span.D),.bool (og l).2]) ⟨nx,bF m lo⟩->Y.tr 918 [.own lo 14 0 l.length] ⟨nx,m⟩ K
def E6 (T:List D->D->Prop):Prop:=∀(l:List Span),(bW l/\l.length<=2000)->T [.sl 14 (l.map Span.D)] (.sl 14 ((tp l).map Span.D))
def P4 (Y:Ctx):Prop:=E6 (cd Y 772)
section
section
variable {Y:Ctx} {draw:Bool} {r:List GI} {env rs:List b7} {nx:Nat} {m:List (Nat×bT)} {K:List b7->St->Prop} {f:Bool} {g:Option (Nat×Bool)}
def vR {n:Nat}{x:Src}{fx:Bool}{d:D}(k:Nat)(h:aJ Y draw r env (⟨f,.fn k [d]⟩::rs) nx m K)(hk:n+4000000=k:=by exact rfl)(hg:GF rs g f:=by first|exact rfl|exact⟨_,_,rfl,rfl⟩)(hx:cL env rs x=⟨fx,d⟩:=by exact rfl)(kx:f=true->fx=true:=by first|exact fun _=>rfl|exact fun h=>h|(intro h;simp_all)):aJ Y draw (⟨.mkI n x,g⟩::r) env rs nx m K:=
 cn rfl hg _ (fun hf=>by simp only[aI.dG,hx];exact kx hf) (fun hf=>by simp only[aI.val,hx,hk]) (fun _=>h)
def AD {x:Src}{fx:Bool}{k:Nat}{cs:List D}(b:Bool)(h:aJ Y draw r env (⟨f,.bool b⟩::rs) nx m K)(hx:cL env rs x=⟨fx,.fn k cs⟩:=by exact rfl)(hk:4000000<=k/\k<=4600000:=by decide)(hb:(k==4600000)=b:=by exact rfl)(hg:GF rs g f:=by first|exact rfl|exact⟨_,_,rfl,rfl⟩)(kx:f=true->fx=true:=by first|exact fun _=>rfl|exact fun h=>h|(intro h;simp_all)):aJ Y draw (⟨.isI x,g⟩::r) env rs nx m K:=
 cn rfl hg _ (fun hf=>by simp only[aI.dG,hx];exact⟨kx hf,hk⟩) (fun hf=>by simp only[aI.val,hx,hb]) (fun _=>h)
def y0 {n:Nat}{z:D}{x:Src}{fx:Bool}{k:Nat}{d:D}(h:aJ Y draw r env (⟨f,.tup [d,.bool true]⟩::rs) nx m K)(hx:cL env rs x=⟨fx,.fn k [d]⟩:=by exact rfl)(hk:4000000<=k/\k<=4600000:=by decide)(hb:(k==n+4000000)=true:=by exact rfl)(hg:GF rs g f:=by first|exact rfl|exact⟨_,_,rfl,rfl⟩)(kx:f=true->fx=true:=by first|exact fun _=>rfl|exact fun h=>h|(intro h;simp_all)):aJ Y draw (⟨.tas n z x,g⟩::r) env rs nx m K:=
 cn rfl hg _ (fun hf=>by simp only[aI.dG,hx];exact⟨kx hf,hk⟩) (fun hf=>by simp only[aI.val,hx,hb,cond_true,gW]) (fun _=>h)
def r7 {n:Nat}{z:D}{x:Src}{fx:Bool}{k:Nat}{cs:List D}(h:aJ Y draw r env (⟨f,.tup [z,.bool false]⟩::rs) nx m K)(hx:cL env rs x=⟨fx,.fn k cs⟩:=by exact rfl)(hk:4000000<=k/\k<=4600000:=by decide)(hb:(k==n+4000000)=false:=by exact rfl)(hg:GF rs g f:=by first|exact rfl|exact⟨_,_,rfl,rfl⟩)(kx:f=true->fx=true:=by first|exact fun _=>rfl|exact fun h=>h|(intro h;simp_all)):aJ Y draw (⟨.tas n z x,g⟩::r) env rs nx m K:=
 cn rfl hg _ (fun hf=>by simp only[aI.dG,hx];exact⟨kx hf,hk⟩) (fun hf=>by simp only[aI.val,hx,hb,cond_false]) (fun _=>h)
def yY {x:Src}{fx:Bool}{k:Nat}{cs Z1:List D}{v:D}(n:Nat)(h:aJ Y draw r env (⟨f,v⟩::rs) nx m K)(hc:Y.pre n Z1/\Y.val n Z1=v)(hx:cL env rs x=⟨fx,.fn k cs⟩:=by exact rfl)(hk:(4000000<=k/\k<4600000)/\k-4000000=n:=by decide)(ha:jC m [] cs=Z1:=by exact rfl)(hn:aW cs=true:=by exact rfl)(hg:GF rs g f:=by first|exact rfl|exact⟨_,_,rfl,rfl⟩)(kx:f=true->fx=true:=by first|exact fun _=>rfl|exact fun h=>h|(intro h;simp_all)):aJ Y draw (⟨.invk x,g⟩::r) env rs nx m K:=
 fA rfl hg _ (fun hf=>by simp only[aI.dG,hx,hk.2,(c9 _ _ _).1,ha];exact⟨kx hf,hk.1,hn,hc.1⟩) (fun hf=>by simp only[aI.val,hx,hk.2,(c9 _ _ _).1,ha,hc.2]) m rfl (fun _=>h)
def LB {x:Src}{j:Nat}{w:Bool}(d:D)(h:aJ Y draw r env (⟨false,d⟩::rs) nx m K)(hg:GF rs (some (j,w)) false:=by exact⟨_,_,rfl,rfl⟩):aJ Y draw (⟨.invk x,some (j,w)⟩::r) env rs nx m K:=
 fA rfl hg d (fun hf=>by cases hf) (fun hf=>by cases hf) m rfl (fun _=>h)
def xJ (h:aJ Y draw r env (⟨f,.fn 4700000 []⟩::rs) nx m K)(hg:GF rs g f:=by first|exact rfl|exact⟨_,_,rfl,rfl⟩):aJ Y draw (⟨.zal,g⟩::r) env rs nx m K:=
 fA rfl hg _ (fun _=>trivial) (fun _=>rfl) m rfl (fun _=>h)
def Jb {p v:Src}{fp fv:Bool}{cs:List D}(h:aJ Y draw r env (⟨f,.any⟩::rs) nx m K)(hx:cL env rs p=⟨fp,.fn 4700000 cs⟩:=by exact rfl)(hy:cL env rs v=⟨fv,.agg []⟩:=by exact rfl)(hg:GF rs g f:=by first|exact rfl|exact⟨_,_,rfl,rfl⟩)(kx:f=true->fp=true:=by first|exact fun _=>rfl|exact fun h=>h|(intro h;simp_all))(ky:f=true->fv=true:=by first|exact fun _=>rfl|exact fun h=>h|(intro h;simp_all)):aJ Y draw (⟨.zst p v,g⟩::r) env rs nx m K:=
 cn rfl hg _ (fun hf=>by simp only[aI.dG,hx,hy];exact⟨kx hf,ky hf,trivial⟩) (fun _=>rfl) (fun _=>h)
def yX {n:Nat}{args:List Src}{chk:List (Nat×Nat×Bool×Src)}{Z1:List D}{v:D}{nx':Nat}{m':List (Nat×bT)}(h:aJ Y draw r env (⟨true,v⟩::rs) nx' m' K)
  (hc:∀K':D->St->Prop,K' v ⟨nx'+rs.length,m'⟩->Y.tr n Z1 ⟨nx+rs.length,m⟩ K') (hn:nx<=nx')
  (hk:∀c∈chk,wK m' c.2.1 (Src.ev env (rs.reverse.take c.1) c.2.2.2).d/\tn m' c.2.1 c.2.2.1 (Src.ev env (rs.reverse.take c.1) c.2.2.2).d=(rs.reverse.getD c.1 .un).d) (ha:gL (cL env rs) args=Z1:=by exact rfl)
  (ho:sO (cL env rs) args:=by repeat' first|exact trivial|exact rfl|refine And.intro ?_ ?_):aJ Y draw (⟨.callL n args chk,none⟩::r) env rs nx m K:=by
 unfold aJ at h⊢;show none=none/\sO (Src.ev env rs.reverse) args/\Y.tr n (gL (Src.ev env rs.reverse) args) {nx:=nx+rs.reverse.length,m:=m} _;rw[kv,ha,List.length_reverse];refine⟨rfl,ho,hc _ ⟨fun c hcc _=>hk c hcc,by simp only;omega, ?_⟩⟩;simp only[Nat.add_sub_cancel];simpa using h
end
end
def E5 (T:List D->D->Prop):Prop:=∀(a:List Span) (b:List Span),(Fs a/\Fs b)->T [.sl 14 (a.map Span.D),.sl 14 (b.map Span.D)] (.sl 14 ((GX a b).map Span.D))
def P3 (Y:Ctx):Prop:=E5 (cd Y 771)
def EM (T:List D->D->Prop):Prop:=∀(a:bQ) (b:bQ),(BE a/\BE b)->T [bQ.D a,bQ.D b] (bQ.D (IG a b))
def PJ (Y:Ctx):Prop:=EM (cd Y 604)
def EN (T:List D->D->Prop):Prop:=∀(a:bQ),(BE a)->T [bQ.D a] (bQ.D (w6 a))
def PK (Y:Ctx):Prop:=EN (cd Y 605)
def EC (T:List D->D->Prop):Prop:=∀(s:dF),(s.length<=1048576)->T [.str s] (.bool (mC s true))
def PB (Y:Ctx):Prop:=EC (cd Y 441)
def By (Y:Ctx):Prop:=ua (cd Y 209)
def JY (T:List D->D->Prop):Prop:=∀(v:Int) (n:Int),(n<=9223372036854775807)->T [.int .i64 v,.int .i64 n] (.int .i64 (bO v n))
def C25 (Y:Ctx):Prop:=JY (cd Y 25)
def Eb (T:List D->D->Prop):Prop:=∀(l:List Int) (i:Int),T [.sl 1 (l.map (D.int .i64)),.int .i64 i] (.int .i64 (wJ l i))
def Km (Y:Ctx):Prop:=Eb (cd Y 159)
def Fm (Y:Ctx):Prop:=∀(g:Gs) (n:Int),(n<=9223372036854775807)->(0<=g.i/\g.i<=1000000)->Y.fp 109 (Gs.D g) [.int .i64 n]/\Y.fv 109 (Gs.D g) [.int .i64 n]=.int .i64 (g.val n)/\Y.fs 109 (Gs.D g) [.int .i64 n]=Gs.D g.bR
def D8 (T:List D->D->Prop):Prop:=T [] (.sl 5 (cJ.map bp.D))
def Pk (Y:Ctx):Prop:=D8 (cd Y 112)
def M6 (Y:Ctx):Prop:=∀(g:Gs) (xs:List CW),(((0<=g.i/\g.i<=900000)/\xs.length<=4)/\∀c∈xs,c.v.sm)->∀(kk:Nat) (E:List D),aW E=true->∀(nx lc:Nat) (m:List (Nat×bT)) (K:D->St->Prop),(lc≠0/\lc≠10/\lc<nx/\11<=nx)->look m 0=some (.buf 2 [Gs.D g])->look m lc=some (.buf 8 (xs.map (CW.D 10)))->look m 10=some (.buf kk E)->K (bQ.D (tv g (xs.map CW.v))) ⟨nx,cR m 0 (.buf 2 [Gs.D g.bR.bR])⟩->Y.tr 380 [.ptr 0 2 0 0,.own lc 8 0 xs.length] ⟨nx,m⟩ K
def Kl (Y:Ctx):Prop:=∀(g:Gs) (n:Nat) (nm ft:Nat->dF) (cs:Nat->List CW) (kk:Nat) (E:List D),aW E=true->((0<=g.i/\g.i<=800000)/\G9 n cs)->∀(nx:Nat) (m:List (Nat×bT)) (K:D->St->Prop),11<=nx->KN m g n nm ft cs kk E->K (Want.D (cD g n (gT cs))) ⟨nx,cR m 0 (.buf 2 [Gs.D g.eE])⟩->Y.tr 157 [.ptr 0 2 0 0,.own 1 3 0 n] ⟨nx,m⟩ K
def MX (Y:Ctx):Prop:=∀(g:Gs) (n:Nat) (nm ft:Nat->dF) (cs:Nat->List CW) (kk:Nat) (E:List D) (most:Int),aW E=true->((0<=g.i/\g.i<=700000)/\G9 n cs/\(0<=most/\most<=3))->∀(nx:Nat) (m:List (Nat×bT)) (K:D->St->Prop),11<=nx->KN m g n nm ft cs kk E->K (.sl 1 ((ay g n (gT cs) most).1.map dP)) ⟨nx,cR m 0 (.buf 2 [Gs.D (ay g n (gT cs) most).2])⟩->Y.tr 155 [.ptr 0 2 0 0,.own 1 3 0 n,.int .i64 most] ⟨nx,m⟩ K
def MW (Y:Ctx):Prop:=∀(g:Gs) (few:Int),((0<=g.i/\g.i<=600000)/\few<=1000)->∀(nx:Nat) (m:List (Nat×bT)) (K:D->St->Prop),look m 0=some (.buf 2 [Gs.D g])->0<nx->K (.own nx 3 0 (eA g few).1.length) ⟨nx+9,O9 nx (eA g few).1++cR m 0 (.buf 2 [Gs.D (eA g few).2])⟩->Y.tr 154 [.ptr 0 2 0 0,.int .i64 few] ⟨nx,m⟩ K
def JZ (T:List D->D->Prop):Prop:=∀(ks:List Int) (few:Int),(few<=1000)->T [.sl 1 (ks.map (D.int .i64)),.int .i64 few] (bH.D (cw ks few))
def C36 (Y:Ctx):Prop:=JZ (cd Y 36)
def Kn (Y:Ctx):Prop:=ub (cd Y 295)
def C5 (Y:Ctx):Prop:=rb (cd Y 1087)
def G1 (Y:Ctx):Prop:=q9 (cd Y 1024)
def Mj (Y:Ctx):Prop:=ra (cd Y 1055)
def G0 (Y:Ctx):Prop:=q7 (cd Y 1023)
def Qk (Y:Ctx):Prop:=ur (cd Y 980)
def Ns (Y:Ctx):Prop:=uq (cd Y 925)
def P9 (Y:Ctx):Prop:=uo (cd Y 861)
def Fc (T:List D->D->Prop):Prop:=∀(c:Cut),T [Cut.D c] (.bool (mA c))
def Qb (Y:Ctx):Prop:=Fc (cd Y 924)
def No (Y:Ctx):Prop:=um (cd Y 780)
def P0 (Y:Ctx):Prop:=ui (cd Y 712)
def Es (T:List D->D->Prop):Prop:=∀(a:Key) (b:Key),T [Key.D a,Key.D b] (.int .i64 (vK a b))
def Pt (Y:Ctx):Prop:=Es (cd Y 408)
def EP (T:List D->D->Prop):Prop:=∀(l:List Want) (n:Int),(∀x∈l,x.sm)->T [.sl 3 (l.map Want.D),.int .i64 n] (.bool (nj n l))
def PM (Y:Ctx):Prop:=EP (cd Y 622)
def Et (T:List D->D->Prop):Prop:=∀(c:dJ) (n:Int),(c.sm)->T [dJ.D c,.int .i64 n] (.bool (nq n c))
def Pu (Y:Ctx):Prop:=Et (cd Y 409)
def Ec (T:List D->D->Prop):Prop:=∀(w:bH),(w.sm)->T [bH.D w] (.bool (po w))
def Pl (Y:Ctx):Prop:=Ec (cd Y 175)
section
section
variable {Y:Ctx} {draw:Bool} {r:List GI} {env rs:List b7} {nx:Nat} {m:List (Nat×bT)} {K:List b7->St->Prop} {g:Option (Nat×Bool)} {f:Bool}
def RQ {x y:Src}{fx fy:Bool}{k k2:IntKind}{a b:Int}(v:Int)(h:aJ Y draw r env (⟨f,.int k v⟩::rs) nx m K)(hg:GF rs g f:=by first|exact rfl|exact⟨_,_,rfl,rfl⟩)(hx:cL env rs x=⟨fx,.int k a⟩:=by exact rfl)(hy:cL env rs y=⟨fy,.int k2 b⟩:=by exact rfl)(kx:f=true->fx=true:=by first|exact fun _=>rfl|exact fun h=>h|(intro h;simp_all))(ky:f=true->fy=true:=by first|exact fun _=>rfl|exact fun h=>h|(intro h;simp_all))(hv:f=true->(if b<a then b else a)=v):aJ Y draw (⟨.mn x y,g⟩::r) env rs nx m K:=
 cn rfl hg _ (fun hf=>by simp[aI.dG,hx,hy,kx hf,ky hf]) (fun hf=>by simp only[aI.val,hx,hy];rw[hv hf]) (fun _=>h)
end
end
def Ep (T:List D->D->Prop):Prop:=∀(n:Int),(0<=n/\n<=40)->T [.int .i64 n] (.int .i64 (2^n.toNat))
def Kq (Y:Ctx):Prop:=Ep (cd Y 381)
def Ea (T:List D->D->Prop):Prop:=∀(w:bH) (u:Int),(w.sm)->T [bH.D w,.int .i64 u] (.int .i64 (bN w.us u))
def yf (Y:Ctx):Prop:=Ea (cd Y 158)
def Eu (T:List D->D->Prop):Prop:=∀(w:bH) (x:Want),(w.sm/\x.sm)->T [bH.D w,Want.D x] (.int .i64 (eP w.us x))
def M7 (Y:Ctx):Prop:=Eu (cd Y 415)
def Er (T:List D->D->Prop):Prop:=∀(w:bH) (l:List bB) (u:Int),(w.sm)->T [bH.D w,.sl 2 (l.map bB.D),.int .i64 u] (.int .i64 (aR w.us l u))
def Kr (Y:Ctx):Prop:=Er (cd Y 406)
def EW (T:List D->D->Prop):Prop:=∀(c:bo) (u:Int),(c.w.sm)->T [bo.D c,.int .i64 u] (.int .i64 (bN c.w.us u))
def Fo (Y:Ctx):Prop:=EW (cd Y 636)
def EU (T:List D->D->Prop):Prop:=∀(c:bo) (l:List bB) (u:Int),(c.w.sm)->T [bo.D c,.sl 2 (l.map bB.D),.int .i64 u] (.int .i64 (aR c.w.us l u))
def G5 (Y:Ctx):Prop:=EU (cd Y 634)
def ES (T:List D->D->Prop):Prop:=∀(c:bo) (l:List bB),(c.w.sm/\∀t∈l,qp t.m)->T [bo.D c,.sl 2 (l.map bB.D)] (.bool (fm c.w.us l))
def Ni (Y:Ctx):Prop:=ES (cd Y 632)
def Br (T:List D->D->Prop):Prop:=∀(c:bo) (x:Want),(c.w.sm/\x.sm)->T [bo.D c,Want.D x] (.int .i64 (eP c.w.us x))
def G2 (Y:Ctx):Prop:=Br (cd Y 1027)
def Fk (T:List D->D->Prop):Prop:=∀(c:bo) (row:ar) (k:Int) (x:Want),((c.w.sm/\x.sm)/\0<=k/\k<=30)->T [bo.D c,ar.D row,.int .i64 k,Want.D x] (.bool (sK c.w.us row k x))
def Qj (Y:Ctx):Prop:=Fk (cd Y 934)
def Fg (T:List D->D->Prop):Prop:=∀(c:bo) (row:ar) (k:Int) (x:Want),((c.w.sm/\x.sm)/\0<=k/\k<=30)->T [bo.D c,ar.D row,.int .i64 k,Want.D x] (.bool (sS c.w.us row k x))
def Qf (Y:Ctx):Prop:=Fg (cd Y 930)
def Ff (T:List D->D->Prop):Prop:=∀(x:Want) (c:bo) (row:ar) (k:Int),((c.w.sm/\x.sm)/\0<=k/\k<=30)->T [Want.D x,.ref 3 [bo.D c] 0 0,.ref 5 [ar.D row] 0 0,.ref 1 [.int .i64 k] 0 0] (.bool (fB true c.w.us row k x))
def Qe (Y:Ctx):Prop:=Ff (cd Y 929)
def Fj (T:List D->D->Prop):Prop:=∀(x:Want) (c:bo) (row:ar) (k:Int),((c.w.sm/\x.sm)/\0<=k/\k<=30)->T [Want.D x,.ref 3 [bo.D c] 0 0,.ref 5 [ar.D row] 0 0,.ref 1 [.int .i64 k] 0 0] (.bool (fB false c.w.us row k x))
def Qi (Y:Ctx):Prop:=Fj (cd Y 933)
def Bq (T:List D->D->Prop):Prop:=∀(l:List Want) (b:Bool) (c:bo) (row:ar) (k:Int),((c.w.sm/\∀x∈l,x.sm)/\0<=k/\k<=30)->T [.sl 3 (l.map Want.D),.fn (bif b then 929 else 933) [.ref 3 [bo.D c] 0 0,.ref 5 [ar.D row] 0 0,.ref 1 [.int .i64 k] 0 0]] (.int .i64 (iV (fB b c.w.us row k) l 0))
def Mh (Y:Ctx):Prop:=Bq (cd Y 1026)
def Fe (T:List D->D->Prop):Prop:=∀(l:List Want) (b:Bool) (c:bo) (row:ar) (k:Int),((c.w.sm/\∀x∈l,x.sm)/\0<=k/\k<=30)->T [.sl 3 (l.map Want.D),.fn (bif b then 929 else 933) [.ref 3 [bo.D c] 0 0,.ref 5 [ar.D row] 0 0,.ref 1 [.int .i64 k] 0 0]] (.bool (l.any (fB b c.w.us row k)))
def Nt (Y:Ctx):Prop:=Fe (cd Y 928)
def Fi (T:List D->D->Prop):Prop:=∀(x:List Want) (c:bo) (row:ar) (k:Int),((c.w.sm/\∀w∈x,w.sm)/\0<=k/\k<=30)->T [.sl 3 (x.map Want.D),.ref 3 [bo.D c] 0 0,.ref 5 [ar.D row] 0 0,.ref 1 [.int .i64 k] 0 0] (.bool (gF c.w.us row k x))
def Qh (Y:Ctx):Prop:=Fi (cd Y 932)
def Bs (T:List D->D->Prop):Prop:=∀(l:List j8) (c:bo) (row:ar) (k:Int),((c.w.sm/\∀r∈l,∀x∈r,x.sm)/\0<=k/\k<=30)->T [.sl 1 (l.map dP),.fn 932 [.ref 3 [bo.D c] 0 0,.ref 5 [ar.D row] 0 0,.ref 1 [.int .i64 k] 0 0]] (.int .i64 (iV (gF c.w.us row k) l 0))
def Mi (Y:Ctx):Prop:=Bs (cd Y 1028)
def Fh (T:List D->D->Prop):Prop:=∀(l:List j8) (c:bo) (row:ar) (k:Int),((c.w.sm/\∀r∈l,∀x∈r,x.sm)/\0<=k/\k<=30)->T [.sl 1 (l.map dP),.fn 932 [.ref 3 [bo.D c] 0 0,.ref 5 [ar.D row] 0 0,.ref 1 [.int .i64 k] 0 0]] (.bool (l.any (gF c.w.us row k)))
def Qg (Y:Ctx):Prop:=Fh (cd Y 931)
def E8 (T:List D->D->Prop):Prop:=∀(c:bo) (row:ar) (k:Int) (mild:Bool),((c.w.sm/\0<=row.unit/\row.unit<c.w.us.length)/\0<=k/\k<c.w.us[row.unit.toNat]!.cands.length)->T [bo.D c,ar.D row,.int .i64 k,.bool mild] (.bool (kW c.w.us row k.toNat mild))
def P8 (Y:Ctx):Prop:=E8 (cd Y 785)
def E7 (T:List D->D->Prop):Prop:=∀(t:bB) (row:ar),T [bB.D t,.ref 5 [ar.D row] 0 0] (.bool (decide (t.u=row.unit)))
def P7 (Y:Ctx):Prop:=E7 (cd Y 784)
def EO (T:List D->D->Prop):Prop:=∀(l:List bB) (row:ar),T [.sl 2 (l.map bB.D),.fn 784 [.ref 5 [ar.D row] 0 0]] (.int .i64 (iV (fun t=>decide (t.u=row.unit)) l 0))
def PL (Y:Ctx):Prop:=EO (cd Y 615)
def EV (T:List D->D->Prop):Prop:=∀(c:bo) (row:ar) (mild:Bool),(c.w.sm/\fm c.w.us row.terms=true)->T [bo.D c,ar.D row,.bool mild] (.bool (iA c.w.us row mild))
def PR (Y:Ctx):Prop:=EV (cd Y 635)
def rh (T:List D->D->Prop):Prop:=T [.agg []] (.bool true)
def Mk (Y:Ctx):Prop:=rh (cd Y 1178)
def Bt (T:List D->D->Prop):Prop:=∀(b:Bool),T [.agg [.bool b]] (.bool true)
def Ml (Y:Ctx):Prop:=Bt (cd Y 1179)
def Mm (Y:Ctx):Prop:=rh (cd Y 1180)
def Bu (T:List D->D->Prop):Prop:=T [.agg []] (.bool false)
def Mn (Y:Ctx):Prop:=Bu (cd Y 1181)
def ET (T:List D->D->Prop):Prop:=∀(k:Int),T [.int .i64 k] (xD k)
def PQ (Y:Ctx):Prop:=ET (cd Y 633)
def EX (T:List D->D->Prop):Prop:=∀(c:bo) (row:ar) (i:Int),((c.w.sm/\RowsIn c.rows)/\i<=c.rows.length)->T [bo.D c,ar.D row,.int .i64 i] (.bool (nS c row i))
def PS (Y:Ctx):Prop:=EX (cd Y 637)
def Ew (T:List D->D->Prop):Prop:=∀(c:bo) (i:Int),(c.w.sm/\RowsIn c.rows)->T [bo.D c,.int .i64 i] (.bool (dD c i))
def Pw (Y:Ctx):Prop:=Ew (cd Y 425)
def Eh (T:List D->D->Prop):Prop:=∀(w:bH) (allow:List Int) (rows:List ar) (i:Int),(w.sm/\RowsIn rows)->T [bH.D w,.sl 1 (allow.map (D.int .i64)),.sl 5 (rows.map ar.D),.int .i64 i] (.bool (dD ⟨w,allow,rows⟩ i))
def M0 (Y:Ctx):Prop:=Eh (cd Y 198)
def J7 (T:List D->D->Prop):Prop:=∀(w:bH) (allow:List Int) (rows:List ar),(w.sm/\RowsIn rows)->T [bH.D w,.sl 1 (allow.map (D.int .i64)),.sl 5 (rows.map ar.D)] (.tup [.int .i64 (gK (okW w allow) (fun j=>dD ⟨w,allow,rows⟩ ((j:Nat):Int)) rows).1,.bool (gK (okW w allow) (fun j=>dD ⟨w,allow,rows⟩ ((j:Nat):Int)) rows).2])
def C65 (Y:Ctx):Prop:=J7 (cd Y 65)
def J0 (T:List D->D->Prop):Prop:=∀(w:bH) (ks:List Int),(w.sm/\w.us.length<=1000)->T [bH.D w,.sl 1 (ks.map (D.int .i64))] (.sl 1 ((j9 w.us ks).map (D.int .i64)))
def C37 (Y:Ctx):Prop:=J0 (cd Y 37)
def Eg (T:List D->D->Prop):Prop:=T [] (bH.D jF)
def Po (Y:Ctx):Prop:=Eg (cd Y 197)
section
def mw:List ar:=[⟨1,0,0,0,[⟨0,1⟩]⟩,⟨2,0,0,0,[⟨0,2⟩]⟩,⟨5,0,0,1,[]⟩]
def Rq (l:List ar):Int×Bool:=gK (okW jF []) (fun j=>dD ⟨jF,[],l⟩ ((j:Nat):Int)) l
set_option maxRecDepth 100000 in
theorem NP:Rq mw=(3,true):=by decide+kernel
set_option maxRecDepth 100000 in
theorem NQ:Rq (mw.drop 1)=(1,false):=by decide+kernel
set_option maxRecDepth 100000 in
theorem NR:dD ⟨jF,[],mw⟩ 2=true:=by decide+kernel
def kG:jF.sm:=by
 intro u hu;simp only[jF,dz,ec,or_false]at hu;rcases hu with rfl|rfl
 .refine⟨bZ,fun c hc=>?_⟩;obtain rfl:=bG.1 hc;refine⟨sW,fun r hr x hx=>?_,fun x hx=>by cases hx⟩;obtain rfl:=bG.1 hr;obtain rfl:=bG.1 hx;exact C8
 .exact⟨bZ,fun c hc=>by cases hc⟩
def oA:RowsIn mw:=by
 intro r hr t ht;simp only[mw,dz,ec,or_false]at hr;rcases hr with rfl|rfl|rfl
 .obtain rfl:=bG.1 ht;exact⟨bZ,bZ⟩
 .obtain rfl:=bG.1 ht;exact⟨bZ,bZ⟩
 .cases ht
def xP:RowsIn (mw.drop 1):=fun r hr=>oA r (List.mem_of_mem_drop hr)
end
def J6 (T:List D->D->Prop):Prop:=T [] (.bool true)
def C63 (Y:Ctx):Prop:=J6 (cd Y 63)
def Ks (Y:Ctx):Prop:=∀(w:bH),(w.sm/\w.us.length<=1000)->∀(nx:Nat) (m:List (Nat×bT)) (K:D->St->Prop),K (.own nx 1 0 w.us.length) ⟨nx+1,(nx,.buf 1 (((lL w.us)).map (D.int .i64)))::m⟩->Y.tr 436 [bH.D w] ⟨nx,m⟩ K
def Ez (T:List D->D->Prop):Prop:=∀(w:bH) (ms:List Int),(w.sm/\ms.length<=1000)->T [bH.D w,.sl 1 (ms.map (D.int .i64))] (.tup [.sl 2 ((iH w.us ms).1.map bB.D),.bool (iH w.us ms).2])
def Na (Y:Ctx):Prop:=Ez (cd Y 437)
def Ei (T:List D->D->Prop):Prop:=∀(w:bH) (l:List bB),(w.sm/\w.us.length<=1000)->T [bH.D w,.sl 2 (l.map bB.D)] (.tup [.sl 2 ((vu w.us l).1.map bB.D),.bool (vu w.us l).2])
def M3 (Y:Ctx):Prop:=Ei (cd Y 204)
def EB (T:List D->D->Prop):Prop:=∀(w:bH) (a:List bB) (b:List bB) (u:Int),(w.sm/\w.us.length<=1000)->T [bH.D w,.sl 2 (a.map bB.D),.sl 2 (b.map bB.D),.int .i64 u] (.tup [.sl 2 ((gP w.us a b u).1.map bB.D),.bool (gP w.us a b u).2])
def Pz (Y:Ctx):Prop:=EB (cd Y 439)
def C206 (Y:Ctx):Prop:=∀(o:Option (List ar)),((o.getD []).length<=100000/\∀r∈(o.getD []),r.terms.length<=1000)->∀(nx:Nat) (m:List (Nat×bT)) (K:D->St->Prop),K (.own nx 5 0 (o.getD []).length) ⟨nx+1,(nx,.buf 5 ((o.getD []).map ar.D))::m⟩->Y.tr 206 [pC o] ⟨nx,m⟩ K
def mi (l:Nat)(r:ar):D:=.agg [.int .i64 r.kind,.int .i64 r.unit,.int .i64 r.a,.int .i64 r.b,.own l 2 0 r.terms.length]
def cQ (l t:Nat)(r:ar)(xs:List ar):List D:=(xs.map ar.D).set t (mi l r)
def dV (l t:Nat)(r:ar)(xs:List ar):(cQ l t r xs).length=xs.length:=by rw[cQ,List.length_set,aD]
def LL (lo:Nat)(σ:List (Nat×Nat))(r:ar):jk lo σ r.D=some r.D:=by simp only[ar.D,jk,fk]
def AT (lo:Nat)(σ:List (Nat×Nat)):∀xs:List ar,fk lo σ (xs.map ar.D)=some (xs.map ar.D)
 |[]=>rfl
 |x::r=>by rw[List.map_cons,fk,LL,AT lo σ r]
def AS {lo:Nat}{σ:List (Nat×Nat)}{d d':D}(hd:jk lo σ d=some d'):∀(xs ys:List D) (t:Nat),fk lo σ xs=some ys->fk lo σ (xs.set t d)=some (ys.set t d')
 |[],ys,t,h=>by
  simp only[fk,bc]at h;subst h;rfl
 |x::r,ys,0,h=>by
  simp only[fk]at h;split at h
  .rename_i e1 e2;obtain rfl:=bl h;simp only[List.set_cons_zero,fk,hd,e2]
  .cases h
 |x::r,ys,t+1,h=>by
  simp only[fk]at h;split at h
  .rename_i e1 e2;obtain rfl:=bl h;simp only[List.set_cons_succ,fk,e1,AS hd _ _ t e2]
  .cases h
def vX {lo:Nat}{σ:List (Nat×Nat)}{l l':Nat}(h:e9 lo σ l=some l')(t:Nat)(r:ar)(xs:List ar):fk lo σ (cQ l t r xs)=some (cQ l' t r xs):=
 AS (by simp only[mi,jk,fk,qg,h]) _ _ t (AT lo σ xs)
def o8 {l t:Nat}{r:ar}{xs:List ar}(h:xs.length<=t):cQ l t r xs=xs.map ar.D:=by
 rw[cQ,List.set_eq_of_length_le (by rw[aD];exact h)]
def Gx {l t:Nat}{r e:ar}{xs:List ar}(h:t<xs.length):cQ l t r xs++[e.D]=cQ l t r (xs++[e]):=by
 unfold cQ;rw[List.map_append,List.set_append_left _ _ (by rw[aD];exact h)];rfl
def Gw {l:Nat}{e:ar}{xs:List ar}:xs.map ar.D++[mi l e]=cQ l xs.length e (xs++[e]):=by
 unfold cQ;rw[List.map_append,List.set_append_right _ _ (by rw[aD];exact aA _),aD,Nat.sub_self];rfl
def tP (l k:Nat)(es:List D)(d:D):∀(xs:List D) (t:Nat),du l k es (xs.set t d)=(du l k es xs).set t (dy l k es d)
 |[],_=>rfl
 |x::r,0=>by simp only[List.set_cons_zero,du]
 |x::r,t+1=>by simp only[List.set_cons_succ,du,tP l k es d r t]
def iU {l t:Nat}{r:ar}{xs:List ar}:du l 2 (r.terms.map bB.D) (cQ l t r xs)=(xs.set t r).map ar.D:=by
 unfold cQ;rw[tP,cV,List.map_set];congr 1;simp only[mi,dy,du,aX,aP,aB,aD,aA,aF,aO,ar.D];rw[eZ (by rw[aD];exact aA _)]
def sJ {l l' k t:Nat}{es:List D}{r:ar}{xs:List ar}(h:l≠l'):du l' k es (cQ l t r xs)=cQ l t r xs:=by
 unfold cQ;rw[tP,cV];congr 1;simp only[mi,dy,du,ai (fun e:l=l'/\2=k/\0+r.terms.length<=es.length=>h e.1)]
def GZ (t i:Nat)(r:ar):List D:=if t<i then r.terms.map bB.D else []
def CV (t i:Nat)(r:ar):aW (GZ t i r)=true:=by
 unfold GZ;split
 .exact bL (fun _=>rfl) _
 .rfl
def H3 (l k t i:Nat)(es:List D)(r:ar):du l k es (GZ t i r)=GZ t i r:=fW l k es _ (CV t i r)
def O0 {t i:Nat}{r:ar}(h:i≠t):GZ t (i+1) r=GZ t i r:=by
 unfold GZ;by_cases q:t<i
 .rw[ax q,ax ae]
 .rw[ai q,ai ae]
def D2 {t i:Nat}{r:ar}(h:t<i):GZ t i r=r.terms.map bB.D:=ax h
def CR {l t i:Nat}{r:ar}{rows:List ar}(hi:i<rows.length)(h:i≠t):cQ l t r (rows.take i)++[ar.D rows[i]!]=cQ l t r (rows.take (i+1)):=by
 have hl:(rows.take i).length=i:=by rw[dM];omega
 rw[<-dW hi];by_cases q:t<i
 .exact Gx ae
 .rw[o8 ae,o8 (by rw[cK,hl,List.length_singleton];omega),List.map_append];rfl
def CP {l i:Nat}{r:ar}{rows:List ar}{l2:Nat}(hi:i<rows.length):cQ l2 i r (rows.take i)++[mi l rows[i]!]=cQ l i rows[i]! (rows.take (i+1)):=by
 have hl:(rows.take i).length=i:=by rw[dM];omega
 rw[<-dW hi,o8 ae];have:=Gw (l:=l) (e:=rows[i]!) (xs:=rows.take i);rw[hl]at this;exact this
def tg {l t:Nat}{r:ar}{xs:List ar}(h:t<xs.length):(cQ l t r xs).getD t .any=mi l r:=by
 unfold cQ;simp[List.getD,h]
def Jx {l l' t:Nat}{r r':ar}{xs:List ar}:(cQ l t r xs).set t (mi l' r')=cQ l' t r' xs:=by
 unfold cQ;rw[List.set_set]
def stO0 {l t:Nat}{r:ar}{xs:List ar}{v:Int}(h:t<xs.length):(cQ l t r xs).set t (oC ((cQ l t r xs).getD t .any) 5 1 0 (.int .i64 v))=cQ l t ⟨v,r.unit,r.a,r.b,r.terms⟩ xs:=by
 rw[tg h];exact Jx (r':=⟨v,r.unit,r.a,r.b,r.terms⟩)
def stO1 {l t:Nat}{r:ar}{xs:List ar}{v:Int}(h:t<xs.length):(cQ l t r xs).set t (oC ((cQ l t r xs).getD t .any) 5 1 1 (.int .i64 v))=cQ l t ⟨r.kind,v,r.a,r.b,r.terms⟩ xs:=by
 rw[tg h];exact Jx (r':=⟨r.kind,v,r.a,r.b,r.terms⟩)
def stO2 {l t:Nat}{r:ar}{xs:List ar}{v:Int}(h:t<xs.length):(cQ l t r xs).set t (oC ((cQ l t r xs).getD t .any) 5 1 2 (.int .i64 v))=cQ l t ⟨r.kind,r.unit,v,r.b,r.terms⟩ xs:=by
 rw[tg h];exact Jx (r':=⟨r.kind,r.unit,v,r.b,r.terms⟩)
def stO3 {l t:Nat}{r:ar}{xs:List ar}{v:Int}(h:t<xs.length):(cQ l t r xs).set t (oC ((cQ l t r xs).getD t .any) 5 1 3 (.int .i64 v))=cQ l t ⟨r.kind,r.unit,r.a,v,r.terms⟩ xs:=by
 rw[tg h];exact Jx (r':=⟨r.kind,r.unit,r.a,v,r.terms⟩)
def R3 {l l' t k:Nat}{r:ar}{xs:List ar}{ts:List bB}(h:t<xs.length)(hk:k=ts.length):(cQ l t r xs).set t (oC ((cQ l t r xs).getD t .any) 5 1 4 (.own l' 2 0 k))=cQ l' t ⟨r.kind,r.unit,r.a,r.b,ts⟩ xs:=by
 subst hk;rw[tg h];exact Jx (r':=⟨r.kind,r.unit,r.a,r.b,ts⟩)
def AU {l t:Nat}{r:ar}{xs:List ar}{ts:List bB}(h:ts.length=r.terms.length):cQ l t r xs=cQ l t ⟨r.kind,r.unit,r.a,r.b,ts⟩ xs:=by
 unfold cQ mi;rw[h]
def zW {l t:Nat}{r:ar}{ts:List bB}{n:Nat}{xs:List ar}(hn:r.terms=ts.take n):du l 2 (ts.map bB.D) (cQ l t r xs)=(xs.set t r).map ar.D:=by
 unfold cQ;rw[tP,cV,List.map_set];congr 1;have hl:r.terms.length<=ts.length:=by rw[hn,dM];omega
 simp only[mi,dy,du,aX,aP,aB,aD,hl,aF,aO,ar.D];rw[<-List.map_take];congr 7;rw[hn,dM];rcases Nat.le_total n ts.length with h|h
 .rw[Nat.min_eq_left h]
 .rw[Nat.min_eq_right h,eZ (aA _),eZ h]
def me (n:Nat)(r:ar)(w c:Int):ar:=
 if w=0 then⟨bO c 8-1,r.unit,r.a,r.b,r.terms⟩
 else if w=1 then⟨r.kind,bO c 9-1,r.a,r.b,r.terms⟩
 else if w=2 then⟨r.kind,r.unit,bO c ((n:Int)+2) -1,r.b,r.terms⟩
 else if w=3 then⟨r.kind,r.unit,r.a,bO c ((n:Int)+2) -1,r.terms⟩
 else if w=4 then(if 0<r.terms.length then⟨r.kind,r.unit,r.a,r.b,r.terms.set (bO c r.terms.length).toNat ⟨r.terms[(bO c r.terms.length).toNat]!.u,bO c 70⟩⟩else r)
 else if w=5 then⟨r.kind,r.unit,r.a,r.b,r.terms.take (r.terms.length-1)⟩
 else⟨r.kind,r.unit,r.a,r.b,r.terms++[⟨bO c 9-1,bO c 33⟩]⟩
def uB (rows:List ar)(at_ w c:Int):List ar:=
 if rows.length=0 then []else rows.set (bO at_ rows.length).toNat (me rows.length rows[(bO at_ rows.length).toNat]! (bO w 7) c)
def ko {rows:List ar}{b w c:Int}{T:Nat}{r:ar}(h0:rows.length≠0)(hT:(bO b ((rows.length:Nat):Int)).toNat=T)(h:me rows.length rows[T]! (bO w 7) c=r):uB rows b w c=rows.set T r:=by
 subst hT;subst h;unfold uB;rw[ai h0]
def Ht {n:Nat}{r:ar}{w c:Int}(h:∀t∈r.terms,qp t.m)(h70:qp (bO c 70))(h33:qp (bO c 33)):∀t∈(me n r w c).terms,qp t.m:=by
 unfold me;repeat' split
 all_goals (intro t ht;try dsimp only at ht)
 all_goals first
  |exact h t ht
  |exact h t (C2 ht)
  |(rcases List.mem_or_eq_of_mem_set ht with e|e
    .exact h t e
    .subst e;exact h70)
  |(rcases List.mem_append.1 ht with e|e
    .exact h t e
    .rw[bG.1 e];exact h33)
def Hu {rows:List ar}{at_ w c:Int}(h:RowsIn rows)(h70:qp (bO c 70))(h33:qp (bO c 33)):RowsIn (uB rows at_ w c):=by
 unfold uB;split
 .intro r hr;cases hr
 .rename_i h0;intro r hr;rcases List.mem_or_eq_of_mem_set hr with e|e
  .exact h r e
  .subst e;refine Ht (fun t ht=>?_) h70 h33;have hp:=cX at_ rows.length ae;exact h _ (aj ae) t ht
def G7 (Y:Ctx):Prop:=∀(o:Option (List ar)) (t:Nat),((o.getD []).length<=100000/\∀r∈(o.getD []),r.terms.length<=1000)->∀(nx:Nat) (m:List (Nat×bT)) (K:D->St->Prop),K (.own nx 5 0 (o.getD []).length) ⟨nx+2,(nx,.buf 5 (cQ (nx+1) t (o.getD [])[t]! (o.getD [])))::(nx+1,.buf 2 (GZ t (o.getD []).length (o.getD [])[t]!))::m⟩->Y.tr 206 [pC o] ⟨nx,m⟩ K
def stT1 {ts:List bB}{k:Nat}{v:Int}(h:k<ts.length):(ts.map bB.D).set k (oC ((ts.map bB.D).getD k .any) 2 1 1 (.int .i64 v))=(ts.set k ⟨ts[k]!.u,v⟩).map bB.D:=by
 rw[getD_map h,List.map_set];rfl
def NS {r:ar}(h:¬0<r.terms.length):(⟨r.kind,r.unit,r.a,r.b,r.terms.take (r.terms.length-1)⟩:ar)=r:=by
 obtain⟨_,_,_,_,ts⟩:=r;cases ts with
 |nil=>rfl
 |cons x r=>exact absurd (Nat.succ_pos _) h
def pG {rows:List ar}{T:Nat}{r:ar}:((rows.set T r).map ar.D).take rows.length=(rows.set T r).map ar.D:=eZ (by rw[aD,List.length_set];exact aA _)
def J9 (T:List D->D->Prop):Prop:=∀(rows:List ar) (b:Int) (n:Int) (c:Int),(rows.length<=100000/\∀r∈rows,r.terms.length<=1000)->T [.sl 5 (rows.map ar.D),.int .i64 b,.int .i64 n,.int .i64 c] (.sl 5 ((uB rows b n c).map ar.D))
def C67 (Y:Ctx):Prop:=J9 (cd Y 67)
def Ef (T:List D->D->Prop):Prop:=∀(w:bH) (c:List Int) (u:Int),(w.sm)->T [bH.D w,.sl 1 (c.map (D.int .i64)),.int .i64 u] (.int .i64 (jG w.us c u))
def MZ (Y:Ctx):Prop:=Ef (cd Y 185)
def E0 (T:List D->D->Prop):Prop:=∀(w:bH) (t:bB) (c:List Int),(w.sm)->T [bH.D w,bB.D t,.sl 1 (c.map (D.int .i64))] (.bool (rD w.us c t))
def PX (Y:Ctx):Prop:=E0 (cd Y 657)
def EY (T:List D->D->Prop):Prop:=∀(a:List bB) (b:List bB),T [.sl 2 (a.map bB.D),.sl 2 (b.map bB.D)] (.bool (decide (a=b)))
def PT (Y:Ctx):Prop:=EY (cd Y 654)
def EZ (T:List D->D->Prop):Prop:=∀(l:List bB) (u:Int),(l.length<=10000)->T [.sl 2 (l.map bB.D),.int .i64 u] (.sl 2 ((lJ l u).map bB.D))
def PU (Y:Ctx):Prop:=EZ (cd Y 655)
def zh (T:List D->D->Prop):Prop:=∀(l:List bB),(l.length<=10000)->T [.sl 2 (l.map bB.D)] (.sl 2 ((xS l).map bB.D))
def PV (Y:Ctx):Prop:=zh (cd Y 656)
def Ed (T:List D->D->Prop):Prop:=∀(w:bH) (l:List Want),(w.sm/\(∀x∈l,x.sm)/\l.length<=1000)->T [bH.D w,.sl 3 (l.map Want.D)] (.sl 2 ((eL w.us l).map bB.D))
def Pm (Y:Ctx):Prop:=Ed (cd Y 183)
def Ev (T:List D->D->Prop):Prop:=∀(c:List Int) (x:bB),(uu c x)->T [.sl 1 (c.map (D.int .i64)),bB.D x] (.bool (sL c x))
def Pv (Y:Ctx):Prop:=Ev (cd Y 416)
def Ee (T:List D->D->Prop):Prop:=∀(c:List Int) (l:List bB),(∀x∈l,uu c x)->T [.sl 1 (c.map (D.int .i64)),.sl 2 (l.map bB.D)] (.bool (lz c l))
def Pn (Y:Ctx):Prop:=Ee (cd Y 184)
def J4 (T:List D->D->Prop):Prop:=∀(m:yi) (c:List Int),(Ha m c)->T [yi.D m,.sl 1 (c.map (D.int .i64))] (.bool (qG m c))
def C49 (Y:Ctx):Prop:=J4 (cd Y 49)
def J2 (T:List D->D->Prop):Prop:=∀(w:bH),(w.sm)->T [bH.D w] (.int .i64 ((JD w.us:Nat):Int))
def C47 (Y:Ctx):Prop:=J2 (cd Y 47)
def J3 (T:List D->D->Prop):Prop:=∀(w:bH) (n:Nat),(w.sm/\w.us.length<=1000/\n<=1000000)->T [bH.D w,.int .i64 ((n:Nat):Int)] (.sl 1 ((NW w.us n).map (D.int .i64)))
def C48 (Y:Ctx):Prop:=J3 (cd Y 48)
def J5 (T:List D->D->Prop):Prop:=∀(w:bH) (al:List Int) (c:List Int),(w.sm)->T [bH.D w,.sl 1 (al.map (D.int .i64)),.sl 1 (c.map (D.int .i64))] (.bool (lZ w.us al c))
def C50 (Y:Ctx):Prop:=J5 (cd Y 50)
def J1 (T:List D->D->Prop):Prop:=∀(w:bH),((w.sm/\w.us.length<=1000)/\Few w.us)->T [bH.D w] ((iX w.us).D)
def C46 (Y:Ctx):Prop:=J1 (cd Y 46)
def EA (T:List D->D->Prop):Prop:=∀(p:j5) (c:List Int),(p.w.sm)->T [.ref 3 [j5.D p] 0 0,.sl 1 (c.map (D.int .i64))] (.int .i64 (kr p.w.us p.facts c))
def Py (Y:Ctx):Prop:=EA (cd Y 438)
def M4 (Y:Ctx):Prop:=(∀(w:bH) (al:List Int) (facts:List ar) (c:List Int) (rows:List ar),sY w al facts c rows->∀(nx lp ln lc:Nat) (m:List (Nat×bT)) (K:D->St->Prop),look m lp=some (.buf 3 [j5.D ⟨w,facts,.own ln 5 0 rows.length⟩])->look m ln=some (.buf 5 (rows.map ar.D))->look m lc=some (.buf 1 (c.map (D.int .i64)))->(lp<nx/\ln<nx/\lc<nx)->K (.int .i64 (eO w.us facts c rows).1) ⟨nx+1,(nx,.buf 5 ((eO w.us facts c rows).2.map ar.D))::cR (bF (bF m ln) lc) lp (.buf 3 [j5.D ⟨w,facts,.own nx 5 0 (eO w.us facts c rows).2.length⟩])⟩->Y.tr 205 [.ptr lp 3 0 0,.own lc 1 0 c.length] ⟨nx,m⟩ K)/\(∀(w:bH) (al:List Int) (facts:List ar) (rows:List ar),sY w al facts [] rows->∀(nx lp ln:Nat) (m:List (Nat×bT)) (K:D->St->Prop),look m lp=some (.buf 3 [j5.D ⟨w,facts,.own ln 5 0 rows.length⟩])->look m ln=some (.buf 5 (rows.map ar.D))->(lp<nx/\ln<nx)->K (.int .i64 (eO w.us facts [] rows).1) ⟨nx+1,(nx,.buf 5 ((eO w.us facts [] rows).2.map ar.D))::cR (bF m ln) lp (.buf 3 [j5.D ⟨w,facts,.own nx 5 0 (eO w.us facts [] rows).2.length⟩])⟩->Y.tr 205 [.ptr lp 3 0 0,.aG] ⟨nx,m⟩ K)
def Mo (Y:Ctx)(u:Nat):Prop:=(∀(w:bH) (al:List Int) (facts:List ar) (c:List Int) (rows:List ar),sY w al facts c rows->(w.us.length-c.length)<u->∀(nx lp ln lc:Nat) (m:List (Nat×bT)) (K:D->St->Prop),look m lp=some (.buf 3 [j5.D ⟨w,facts,.own ln 5 0 rows.length⟩])->look m ln=some (.buf 5 (rows.map ar.D))->look m lc=some (.buf 1 (c.map (D.int .i64)))->(lp<nx/\ln<nx/\lc<nx)->K (.int .i64 (eO w.us facts c rows).1) ⟨nx+1,(nx,.buf 5 ((eO w.us facts c rows).2.map ar.D))::cR (bF (bF m ln) lc) lp (.buf 3 [j5.D ⟨w,facts,.own nx 5 0 (eO w.us facts c rows).2.length⟩])⟩->Y.tr 205 [.ptr lp 3 0 0,.own lc 1 0 c.length] ⟨nx,m⟩ K)/\(∀(w:bH) (al:List Int) (facts:List ar) (rows:List ar),sY w al facts [] rows->w.us.length<u->∀(nx lp ln:Nat) (m:List (Nat×bT)) (K:D->St->Prop),look m lp=some (.buf 3 [j5.D ⟨w,facts,.own ln 5 0 rows.length⟩])->look m ln=some (.buf 5 (rows.map ar.D))->(lp<nx/\ln<nx)->K (.int .i64 (eO w.us facts [] rows).1) ⟨nx+1,(nx,.buf 5 ((eO w.us facts [] rows).2.map ar.D))::cR (bF m ln) lp (.buf 3 [j5.D ⟨w,facts,.own nx 5 0 (eO w.us facts [] rows).2.length⟩])⟩->Y.tr 205 [.ptr lp 3 0 0,.aG] ⟨nx,m⟩ K)
def M9 (Y:Ctx):Prop:=∀(w:bH) (rows:List ar) (r:ar),((w.sm/\w.us.length<=48)/\((∀x∈rows,x.terms.length<=48)/\rows.length<=10000000)/\r.terms.length<=48)->∀(nx lo:Nat) (m:List (Nat×bT)) (K:D->St->Prop),look m lo=some (.buf 5 (rows.map ar.D))->lo<nx->K (.own nx 5 0 (m8 w.us rows r).length) ⟨nx+1,(nx,.buf 5 ((m8 w.us rows r).map ar.D))::bF m lo⟩->Y.tr 435 [bH.D w,.own lo 5 0 rows.length,ar.D r] ⟨nx,m⟩ K
def Ey (T:List D->D->Prop):Prop:=∀(w:bH) (u:Nat) (k:Nat) (l:List Want) (bar:Bool),((w.sm/\w.us.length<=1000)/\(∀x∈l,x.sm)/\l.length<=1000/\k<=30)->T [bH.D w,.int .i64 ((u:Nat):Int),.int .i64 ((k:Nat):Int),.sl 3 (l.map Want.D),.bool bar] (.tup [.sl 2 ((en w.us u k l bar).1.map bB.D),.bool (en w.us u k l bar).2])
def Px (Y:Ctx):Prop:=Ey (cd Y 434)
def M1 (Y:Ctx):Prop:=∀(w:bH),Mt w->∀(nx:Nat) (m:List (Nat×bT)) (K:D->St->Prop),K (.own nx 5 0 (lK w.us).length) ⟨nx+1,(nx,.buf 5 ((lK w.us).map ar.D))::m⟩->Y.tr 203 [bH.D w] ⟨nx,m⟩ K
def J8 (T:List D->D->Prop):Prop:=∀(w:bH) (allow:List Int),(Mt w)->T [bH.D w,.sl 1 (allow.map (D.int .i64))] (pC (jd w.us allow))
def C66 (Y:Ctx):Prop:=J8 (cd Y 66)
section
section
variable {Y:Ctx} {draw:Bool} {r:List GI} {env rs:List b7} {nx:Nat} {m:List (Nat×bT)} {K:List b7->St->Prop} {g:Option (Nat×Bool)} {f:Bool}
def OG {x:Src}{ng:Bool}{d:D}(h:∀b,Pf d b->aJ Y draw r env (⟨true,.bool (bif ng then !b else b)⟩::rs) nx m K)(hx:cL env rs x=⟨true,d⟩:=by exact rfl)(hs:Pg d:=by exact trivial):aJ Y draw (⟨.isNl x ng,none⟩::r) env rs nx m K:=by
 unfold aJ;show none=none/\(Src.ev env rs.reverse x).ok=true/\Pg (Src.ev env rs.reverse x).d/\∀b,Pf (Src.ev env rs.reverse x).d b->_
 rw[kv,hx];refine⟨rfl,rfl,hs,fun b hb=>?_⟩;have:=h b hb;unfold aJ at this;simpa using this
end
end
def shR (n:Nat)(r:ar):ar:=⟨r.kind,r.unit,r.a+n,r.b+n,r.terms⟩
def mvR (n:Nat)(r:ar):ar:=if r.kind=5 then shR n r else r
def pw (n:Nat)(L:List ar)(i:Nat)(R:List ar):Prop:=R.length=L.length/\∀k,k<L.length->R[k]! =if n<=k/\k<i then mvR n L[k]! else L[k]!
def pw.start (n:Nat)(L:List ar):pw n L n L:=⟨rfl,fun k hk=>by rw[ai ae]⟩
def pw.at {n i:Nat}{L R:List ar}(h:pw n L i R)(hi:i<L.length):R[i]! =L[i]! :=by rw[h.2 i hi,ai ae]
def pw.step {n i:Nat}{L R:List ar}(h:pw n L i R)(hn:n<=i)(hi:i<L.length)(hk:R[i]!.kind=5):pw n L (i+1) (R.set i (shR n R[i]!)):=by
 refine⟨by rw[List.length_set];exact h.1,fun k hk2=>?_⟩;have e:=h.at hi;rw[A2 (by rw[h.1];exact hk2)];split
 .rename_i e2;subst e2;rw[ax ae,e,mvR,ax (by rw[<-e];exact hk)]
 .rw[h.2 k hk2];by_cases q:n<=k/\k<i
  .rw[ax q,ax ae]
  .rw[ai q,ai ae]
def pw.skip {n i:Nat}{L R:List ar}(h:pw n L i R)(hi:i<L.length)(hk:R[i]!.kind≠5):pw n L (i+1) R:=by
 refine⟨h.1,fun k hk2=>?_⟩;have e:=h.at hi;rw[h.2 k hk2];by_cases q:k=i
 .subst q;rw[ai ae];split
  .rw[mvR,ai (by rw[<-e];exact hk)]
  .rfl
 .by_cases q2:n<=k/\k<i
  .rw[ax q2,ax ae]
  .rw[ai q2,ai ae]
def Lm:∀o:Option (List ar),Pg (pC o)
 |none=>trivial
 |some l=>trivial
def Ix {o:Option (List ar)}(h:Pf (pC o) false):∃B,o=some B:=by
 cases o with
 |none=>cases h
 |some B=>exact⟨B,rfl⟩
def JX (T:List D->D->Prop):Prop:=∀(a:List Int) (b:List Int) (d:List Int) (at1:Int) (wh:Int) (by1:Int),T [.sl 1 (a.map (D.int .i64)),.sl 1 (b.map (D.int .i64)),.sl 1 (d.map (D.int .i64)),.int .i64 at1,.int .i64 wh,.int .i64 by1] (.bool true)
section
section
variable [dw] {P:Program} {ν:List (Nat×Nat)} {cy:List Nat} {t:List (Nat×lH)} {fid n key u k:Nat} {af:aM} {nx:Nat} {m:List (Nat×bT)} {K:D->St->Prop}
def JN {a:D}{i:Nat}{r:ar}{rows:List ar}{es:List D}(hes:aW es=true)(hmix:P.follows .mixedOrders=true)(hC:zn P ν cy fid af)(hnp:1=af.np)(ha:a.bm=true)
  (hK:K (.own nx 5 0 rows.length) ⟨nx+2,(nx,.buf 5 (cQ (nx+1) i r rows))::(nx+1,.buf 2 es)::m⟩)
  (hw:cq ((under t key u).at 0) af.body (kn af (fun d m=>∃j k,j≠k/\d=.own j 5 0 rows.length/\look m j=some (.buf 5 (cQ k i r rows))/\look m k=some (.buf 2 es))) (fK af [a]) ⟨0,[]⟩):kJ P ν cy (under t key u) fid [a] ⟨nx,m⟩ K:=by
 refine pA (σi:=[]) (m0:=[]) (cs:=[a]) (fun q=>oE t key u q) hmix hC rfl ?_ hnp rfl (fun _ _ h=>by cases h) (fun _ _ h=>by cases h) hw ?_
 .intro i hi
  match i,hi with
  |0,_=>exact .inl ⟨rfl,ha⟩
 .intro d m1 h;obtain⟨j,k,hjk,rfl,hj,hk⟩:=h;have b1:=eD hjk;have b2:=eD hjk.symm;have b3:=eD (show nx≠nx+1 by omega);have b4:=eD (show nx+1≠nx by omega);have r1:e9 0 [(j,nx),(k,nx+1)] k=some (nx+1):=by simp only[e9,b1,b2,cond_false,Nat.beq_refl,cond_true]
  have r0:e9 0 [(j,nx),(k,nx+1)] j=some nx:=by simp only[e9,Nat.beq_refl,cond_true]
  refine⟨[(j,nx),(k,nx+1)],j+1,_,_,⟨rfl, ?_,(Nat.le_add_right _ 2:nx<=nx+2),(fun _ _ h=>by cases h), ?_,(fun _ _ h=>by cases h), ?_⟩,.inr (.inl (by simp only[jk,qg,r0])),hK⟩
  .simp only[eQ,List.all_cons,List.all_nil,b1,b2,b3,b4,Bool.not_false,eM,ik,Nat.blt,br,Nat.ble_eq];repeat' first|exact trivial|exact rfl|exact Nat.zero_le _|omega|refine And.intro ?_ ?_
  .intro i l h;simp only[dz,eg,ec,or_false]at h;rcases h with⟨rfl,rfl⟩|⟨rfl,rfl⟩
   .exact .inr (aA _)
   .exact .inr (Nat.le_succ _)
  .intro l bb h;simp only[look]at h;split at h
   .rename_i e;subst e;obtain rfl:=bl h;exact .inl ⟨j,_,.head _,hj,rfl,.inr (.inl (vX r1 _ _ _))⟩
   .rename_i n1;split at h
    .rename_i e;subst e;obtain rfl:=bl h;exact .inl ⟨k,_,.tail _ (.head _),hk,rfl,.inl ⟨rfl,hes⟩⟩
    .rename_i n2;exact .inr ⟨by simp only[jx,ai n1,ai n2],(fun _ h=>by cases h),h⟩
end
end
def bV {t:List (Nat×lH)}{key u q:Nat}:((under t key u).at q).cM:=oE t key u q
section
def D10:O5 (u9 JX):=ca
def Ph (T:FT):Prop:=∀(g:Gs) (n:Int),(n<=9223372036854775807)->(0<=g.i/\g.i<=1000000)->T (Gs.D g) [.int .i64 n] (.int .i64 (g.val n)) (Gs.D g.bR)
def Qm:Bz (uZ Ph):=Rr
def Pp (Y:Ctx):Prop:=C206 Y/\G7 Y
def NY:O5 (u9 zh):=HN (by intro l _ l2 _ e;simp only[sy,D.sl.injEq,Dz,aQ,aP]at e;rw[e])
def bP:List (Nat×lH):=[(10,rP 25 JX),(25,rP 1 JY),(36,rP 15 JZ),(37,rP 3 J0),(46,rP 13 J1),(47,rP 1 J2),(48,rP 1 J3),(49,rP 3 J4),(50,rP 3 J5),(63,rP 24 J6),(65,rP 23 J7),(66,rP 14 J8),(67,rP 2 J9),(109,rF 2 Ph),(112,rP 1 D8),(154,rG 3 MW),(155,rG 14 MX),(156,rP 8 D9),(157,rG 13 Kl),(158,rP 2 Ea),(159,rP 1 Eb),(175,rP 12 Ec),(183,rP 12 Ed),(184,rP 2 Ee),(185,rP 2 Ef),(197,rP 4 Eg),(198,rP 22 Eh),(203,rG 13 M1),(204,rP 4 Ei),(205,rG 5 M4 (Oe)),(206,rG 1 Pp),(209,rP 4 ua),(217,rP 4 ua),(295,rP 5 ub),(374,rP 3 Ej),(375,rP 1 Ek),(376,rP 2 El),(377,rP 2 Em),(378,rP 3 En),(379,rP 7 Eo),(380,rG 12 M6),(381,rP 1 Ep),(406,rP 3 Er),(408,rP 3 Es),(409,rP 11 Et),(415,rP 11 Eu),(416,rP 1 Ev),(424,rP 5 ub),(425,rP 21 Ew),(434,rP 12 Ey),(435,rG 4 M9),(436,rG 3 Ks),(437,rP 3 Ez),(438,rP 4 EA),(439,rP 4 EB),(440,rP 1 uc),(441,rP 3 EC),(442,rP 2 ED),(454,rP 1 EE),(455,rP 1 uc),(456,rP 3 EF),(470,rP 1 ug),(516,rP 2 ud),(530,rP 1 ue),(531,rP 1 EG),(532,rP 2 uf),(533,rP 1 ug),(534,rP 3 uh),(598,rP 2 EH),(599,rP 1 ue),(600,rP 1 EI),(601,rP 1 EJ),(602,rP 6 EK),(603,rP 1 EL),(604,rP 11 EM),(605,rP 10 EN),(615,rP 2 EO),(622,rP 10 EP),(627,rP 10 ui),(630,rP 1 uf),(631,rP 4 ER),(632,rP 2 ES),(633,rP 1 ET),(634,rP 2 EU),(635,rP 20 EV),(636,rP 1 EW),(637,rP 3 EX),(654,rP 1 EY),(655,rP 1 EZ),(656,rP 1 zh),(657,rP 3 E0),(658,rP 1 uj),(659,rP 1 uk),(666,rP 1 E1),(667,rP 2 uj),(668,rP 1 uk),(704,rP 1 E2),(712,rP 10 ui),(714,rP 1 E3),(769,rP 5 E4),(770,rP 9 um),(771,rP 10 E5),(772,rP 9 E6),(780,rP 9 um),(782,rP 9 uo),(783,rP 3 uh),(784,rP 1 E7),(785,rP 19 E8),(861,rP 9 uo),(916,rP 8 uq),(917,rP 2 E9),(918,rG 9 Np),(919,rP 8 Fa),(920,rP 7 Fb),(921,rG 7 Ky),(924,rP 1 Fc),(925,rP 8 uq),(926,rP 8 ur),(927,rP 1 ud),(928,rP 15 Fe),(929,rP 13 Ff),(930,rP 12 Fg),(931,rP 18 Fh),(932,rP 16 Fi),(933,rP 13 Fj),(934,rP 12 Fk),(980,rP 8 ur),(1019,rP 7 q7),(1020,rP 6 q9),(1021,rP 7 Bp),(1023,rP 7 q7),(1024,rP 6 q9),(1025,rP 6 ra),(1026,rP 14 Bq),(1027,rP 11 Br),(1028,rP 17 Bs),(1055,rP 6 ra),(1086,rP 5 rb),(1087,rP 5 rb),(1178,rP 1 rh),(1179,rP 1 Bt),(1180,rP 1 rh),(1181,rP 1 Bu)]
variable {k u v:Nat}
def G25 (hk:1<k:=by decide):C25 (under bP k u):=fun v n hp0=>dS ca (.inl hk) fun T hT=>hT v n hp0
def G36 (hk:15<k:=by decide):C36 (under bP k u):=fun ks few hp0=>dS ca (.inl hk) fun T hT=>hT ks few hp0
def G37 (hk:3<k:=by decide):C37 (under bP k u):=fun w ks hp0=>dS ca (.inl hk) fun T hT=>hT w ks hp0
def G46 (hk:13<k:=by decide):C46 (under bP k u):=fun w hp0=>dS ca (.inl hk) fun T hT=>hT w hp0
def G47 (hk:1<k:=by decide):C47 (under bP k u):=fun w hp0=>dS ca (.inl hk) fun T hT=>hT w hp0
def G48 (hk:1<k:=by decide):C48 (under bP k u):=fun w n hp0=>dS ca (.inl hk) fun T hT=>hT w n hp0
def G49 (hk:3<k:=by decide):C49 (under bP k u):=fun m c hp0=>dS ca (.inl hk) fun T hT=>hT m c hp0
def G50 (hk:3<k:=by decide):C50 (under bP k u):=fun w al c hp0=>dS ca (.inl hk) fun T hT=>hT w al c hp0
def G63 (hk:24<k:=by decide):C63 (under bP k u):=dS ca (.inl hk) fun T hT=>hT
def G65 (hk:23<k:=by decide):C65 (under bP k u):=fun w allow rows hp0=>dS ca (.inl hk) fun T hT=>hT w allow rows hp0
def G66 (hk:14<k:=by decide):C66 (under bP k u):=fun w allow hp0=>dS ca (.inl hk) fun T hT=>hT w allow hp0
def G67 (hk:2<k:=by decide):C67 (under bP k u):=fun rows b n c hp0=>dS ca (.inl hk) fun T hT=>hT rows b n c hp0
def He (hk:2<k:=by decide):Fm (under bP k u):=fun g n hp0 hp1=>okf Qm hk fun T h=>h g n hp0 hp1
def G112 (hk:1<k:=by decide):Pk (under bP k u):=dS ca (.inl hk) fun T hT=>hT
def G154 (hk:3<k:=by decide):MW (under bP k u):=fun g few hp0 nx m K h0 hx hK=>DP (.inl hk) fun T _ h=>h g few hp0 nx m K h0 hx hK
def G155 (hk:14<k:=by decide):MX (under bP k u):=fun g n nm ft cs kk E most hE hp0 nx m K hx hW hK=>DP (.inl hk) fun T _ h=>h g n nm ft cs kk E most hE hp0 nx m K hx hW hK
def Qw (hk:8<k:=by decide):MY (under bP k u):=fun v hp0=>dS ca (.inl hk) fun T hT=>hT v hp0
def Qx (hk:13<k:=by decide):Kl (under bP k u):=fun g n nm ft cs kk E hE hp0 nx m K hx hW hK=>DP (.inl hk) fun T _ h=>h g n nm ft cs kk E hE hp0 nx m K hx hW hK
def yh (hk:2<k:=by decide):yf (under bP k u):=fun w u hp0=>dS ca (.inl hk) fun T hT=>hT w u hp0
def Nu (hk:1<k:=by decide):Km (under bP k u):=fun l i=>dS ca (.inl hk) fun T hT=>hT l i
def G175 (hk:12<k:=by decide):Pl (under bP k u):=fun w hp0=>dS ca (.inl hk) fun T hT=>hT w hp0
def G183 (hk:12<k:=by decide):Pm (under bP k u):=fun w l hp0=>dS ca (.inl hk) fun T hT=>hT w l hp0
def G184 (hk:2<k:=by decide):Pn (under bP k u):=fun c l hp0=>dS ca (.inl hk) fun T hT=>hT c l hp0
def Qy (hk:2<k:=by decide):MZ (under bP k u):=fun w c u hp0=>dS ca (.inl hk) fun T hT=>hT w c u hp0
def G197 (hk:4<k:=by decide):Po (under bP k u):=dS ca (.inl hk) fun T hT=>hT
def Qz (hk:22<k:=by decide):M0 (under bP k u):=fun w allow rows i hp0=>dS ca (.inl hk) fun T hT=>hT w allow rows i hp0
def G203 (hk:13<k:=by decide):M1 (under bP k u):=fun w hp0 nx m K hK=>DP (.inl hk) fun T _ h=>h w hp0 nx m K hK
def QA (hk:4<k:=by decide):M3 (under bP k u):=fun w l hp0=>dS ca (.inl hk) fun T hT=>hT w l hp0
def G205 (hk:5<k:=by decide):M4 (under bP k u):=⟨fun w al facts c rows hp nx lp ln lc m K h1 h2 h3 hx hK=>DP (.inl hk) fun T _ h=>h.1 w al facts c rows hp nx lp ln lc m K h1 h2 h3 hx hK,fun w al facts rows hp nx lp ln m K h1 h2 hx hK=>DP (.inl hk) fun T _ h=>h.2 w al facts rows hp nx lp ln m K h1 h2 hx hK⟩
def Ms (hv:v<=u):Mo (under bP 5 u) v:=⟨fun w al facts c rows hp hu nx lp ln lc m K h1 h2 h3 hx hK=>DP (.inr ⟨rfl,by rw[show(lk bP 205 ll).muE=Oe from rfl,DJ h1];exact jH hu hv⟩) fun T _ h=>h.1 w al facts c rows hp nx lp ln lc m K h1 h2 h3 hx hK,fun w al facts rows hp hu nx lp ln m K h1 h2 hx hK=>DP (.inr ⟨rfl,by rw[show(lk bP 205 ll).muE=Oe from rfl,DI h1];exact jH hu hv⟩) fun T _ h=>h.2 w al facts rows hp nx lp ln m K h1 h2 hx hK⟩
def QW (hk:1<k:=by decide):G7 (under bP k u):=fun o t hp0 nx m K hK=>DP (.inl hk) fun T _ h=>h.2 o t hp0 nx m K hK
def Fq (hk:4<k:=by decide):By (under bP k u):=fun v hp0=>dS ca (.inl hk) fun T hT=>hT v hp0
def zt (hk:4<k:=by decide):yg (under bP k u):=fun v hp0=>dS ca (.inl hk) fun T hT=>hT v hp0
def Nv (hk:5<k:=by decide):Kn (under bP k u):=fun a b hp0=>dS ca (.inl hk) fun T hT=>hT a b hp0
def QB (hk:3<k:=by decide):M5 (under bP k u):=dS ca (.inl hk) fun T hT=>hT
def KA (hk:1<k:=by decide):G3 (under bP k u):=dS ca (.inl hk) fun T hT=>hT
def Nw (hk:2<k:=by decide):Ko (under bP k u):=fun v=>dS ca (.inl hk) fun T hT=>hT v
def G377 (hk:2<k:=by decide):Pq (under bP k u):=fun v=>dS ca (.inl hk) fun T hT=>hT v
def G378 (hk:3<k:=by decide):Pr (under bP k u):=fun v=>dS ca (.inl hk) fun T hT=>hT v
def G379 (hk:7<k:=by decide):Ps (under bP k u):=fun v=>dS ca (.inl hk) fun T hT=>hT v
def G380 (hk:12<k:=by decide):M6 (under bP k u):=fun g xs hp0 kk E hE nx lc m K hn h0 h1 h10 hK=>DP (.inl hk) fun T _ h=>h g xs hp0 kk E hE nx lc m K hn h0 h1 h10 hK
def Nx (hk:1<k:=by decide):Kq (under bP k u):=fun n hp0=>dS ca (.inl hk) fun T hT=>hT n hp0
def KB (hk:3<k:=by decide):Kr (under bP k u):=fun w l u hp0=>dS ca (.inl hk) fun T hT=>hT w l u hp0
def G408 (hk:3<k:=by decide):Pt (under bP k u):=fun a b=>dS ca (.inl hk) fun T hT=>hT a b
def G409 (hk:11<k:=by decide):Pu (under bP k u):=fun c n hp0=>dS ca (.inl hk) fun T hT=>hT c n hp0
def QC (hk:11<k:=by decide):M7 (under bP k u):=fun w x hp0=>dS ca (.inl hk) fun T hT=>hT w x hp0
def G416 (hk:1<k:=by decide):Pv (under bP k u):=fun c x hp0=>dS ca (.inl hk) fun T hT=>hT c x hp0
def QD (hk:5<k:=by decide):M8 (under bP k u):=fun a b hp0=>dS ca (.inl hk) fun T hT=>hT a b hp0
def G425 (hk:21<k:=by decide):Pw (under bP k u):=fun c i hp0=>dS ca (.inl hk) fun T hT=>hT c i hp0
def G434 (hk:12<k:=by decide):Px (under bP k u):=fun w u k l bar hp0=>dS ca (.inl hk) fun T hT=>hT w u k l bar hp0
def G435 (hk:4<k:=by decide):M9 (under bP k u):=fun w rows r hp0 nx lo m K h1 h2 hK=>DP (.inl hk) fun T _ h=>h w rows r hp0 nx lo m K h1 h2 hK
def QE (hk:3<k:=by decide):Ks (under bP k u):=fun w hp0 nx m K hK=>DP (.inl hk) fun T _ h=>h w hp0 nx m K hK
def QF (hk:3<k:=by decide):Na (under bP k u):=fun w ms hp0=>dS ca (.inl hk) fun T hT=>hT w ms hp0
def QG (hk:4<k:=by decide):Py (under bP k u):=fun p c hp0=>dS ca (.inl hk) fun T hT=>hT p c hp0
def QH (hk:4<k:=by decide):Pz (under bP k u):=fun w a b u hp0=>dS ca (.inl hk) fun T hT=>hT w a b u hp0
def G440 (hk:1<k:=by decide):PA (under bP k u):=fun n=>dS ca (.inl hk) fun T hT=>hT n
def G441 (hk:3<k:=by decide):PB (under bP k u):=fun s hp0=>dS ca (.inl hk) fun T hT=>hT s hp0
def QI (hk:2<k:=by decide):Nb (under bP k u):=fun s hp0=>dS ca (.inl hk) fun T hT=>hT s hp0
def G454 (hk:1<k:=by decide):PC (under bP k u):=fun c=>dS ca (.inl hk) fun T hT=>hT c
def G455 (hk:1<k:=by decide):PD (under bP k u):=fun n=>dS ca (.inl hk) fun T hT=>hT n
def G456 (hk:3<k:=by decide):PE (under bP k u):=fun s p hp0=>dS ca (.inl hk) fun T hT=>hT s p hp0
def QJ (hk:1<k:=by decide):Nc (under bP k u):=fun s b hp0=>dS ca (.inl hk) fun T hT=>hT s b hp0
def QK (hk:2<k:=by decide):Nd (under bP k u):=fun a b=>dS ca (.inl hk) fun T hT=>hT a b
def G530 (hk:1<k:=by decide):PF (under bP k u):=fun v=>dS ca (.inl hk) fun T hT=>hT v
def QL (hk:1<k:=by decide):Nf (under bP k u):=fun l=>dS ca (.inl hk) fun T hT=>hT l
def Ny (hk:2<k:=by decide):Kt (under bP k u):=fun a b=>dS ca (.inl hk) fun T hT=>hT a b
def Nz (hk:1<k:=by decide):Ku (under bP k u):=fun s b hp0=>dS ca (.inl hk) fun T hT=>hT s b hp0
def G534 (hk:3<k:=by decide):PG (under bP k u):=fun a b=>dS ca (.inl hk) fun T hT=>hT a b
def G598 (hk:2<k:=by decide):PH (under bP k u):=dS ca (.inl hk) fun T hT=>hT
def QM (hk:1<k:=by decide):Ng (under bP k u):=fun v=>dS ca (.inl hk) fun T hT=>hT v
def QN (hk:1<k:=by decide):Nh (under bP k u):=fun v=>dS ca (.inl hk) fun T hT=>hT v
def NA (hk:1<k:=by decide):Kv (under bP k u):=dS ca (.inl hk) fun T hT=>hT
def G602 (hk:6<k:=by decide):PI (under bP k u):=fun v hp0=>dS ca (.inl hk) fun T hT=>hT v hp0
def NB (hk:1<k:=by decide):Kw (under bP k u):=dS ca (.inl hk) fun T hT=>hT
def G604 (hk:11<k:=by decide):PJ (under bP k u):=fun a b hp0=>dS ca (.inl hk) fun T hT=>hT a b hp0
def G605 (hk:10<k:=by decide):PK (under bP k u):=fun a hp0=>dS ca (.inl hk) fun T hT=>hT a hp0
def G615 (hk:2<k:=by decide):PL (under bP k u):=fun l row=>dS ca (.inl hk) fun T hT=>hT l row
def G622 (hk:10<k:=by decide):PM (under bP k u):=fun l n hp0=>dS ca (.inl hk) fun T hT=>hT l n hp0
def G627 (hk:10<k:=by decide):PN (under bP k u):=fun s v hp0=>dS ca (.inl hk) fun T hT=>hT s v hp0
def KC (hk:1<k:=by decide):G4 (under bP k u):=fun a b=>dS ca (.inl hk) fun T hT=>hT a b
def G631 (hk:4<k:=by decide):PO (under bP k u):=fun a b hp0=>dS ca (.inl hk) fun T hT=>hT a b hp0
def QO (hk:2<k:=by decide):Ni (under bP k u):=fun c l hp0=>dS ca (.inl hk) fun T hT=>hT c l hp0
def G633 (hk:1<k:=by decide):PQ (under bP k u):=fun k=>dS ca (.inl hk) fun T hT=>hT k
def KD (hk:2<k:=by decide):G5 (under bP k u):=fun c l u hp0=>dS ca (.inl hk) fun T hT=>hT c l u hp0
def G635 (hk:20<k:=by decide):PR (under bP k u):=fun c row mild hp0=>dS ca (.inl hk) fun T hT=>hT c row mild hp0
def Hf (hk:1<k:=by decide):Fo (under bP k u):=fun c u hp0=>dS ca (.inl hk) fun T hT=>hT c u hp0
def G637 (hk:3<k:=by decide):PS (under bP k u):=fun c row i hp0=>dS ca (.inl hk) fun T hT=>hT c row i hp0
def G654 (hk:1<k:=by decide):PT (under bP k u):=fun a b=>dS ca (.inl hk) fun T hT=>hT a b
def G655 (hk:1<k:=by decide):PU (under bP k u):=fun l u hp0=>dS ca (.inl hk) fun T hT=>hT l u hp0
def G656 (hk:1<k:=by decide):PV (under bP k u):=fun l hp0=>dS NY (.inl hk) fun T hT=>hT l hp0
def G657 (hk:3<k:=by decide):PX (under bP k u):=fun w t c hp0=>dS ca (.inl hk) fun T hT=>hT w t c hp0
def QP (hk:1<k:=by decide):Nj (under bP k u):=fun s=>dS ca (.inl hk) fun T hT=>hT s
def QQ (hk:1<k:=by decide):Nk (under bP k u):=fun t=>dS ca (.inl hk) fun T hT=>hT t
def G666 (hk:1<k:=by decide):PY (under bP k u):=fun t=>dS ca (.inl hk) fun T hT=>hT t
def QR (hk:2<k:=by decide):Nl (under bP k u):=fun s=>dS ca (.inl hk) fun T hT=>hT s
def QS (hk:1<k:=by decide):Nn (under bP k u):=fun t=>dS ca (.inl hk) fun T hT=>hT t
def G704 (hk:1<k:=by decide):PZ (under bP k u):=fun x=>dS ca (.inl hk) fun T hT=>hT x
def G712 (hk:10<k:=by decide):P0 (under bP k u):=fun s v hp0=>dS ca (.inl hk) fun T hT=>hT s v hp0
def G714 (hk:1<k:=by decide):P1 (under bP k u):=fun x=>dS ca (.inl hk) fun T hT=>hT x
def G769 (hk:5<k:=by decide):P2 (under bP k u):=fun v p hp0=>dS ca (.inl hk) fun T hT=>hT v p hp0
def NC (hk:9<k:=by decide):Kx (under bP k u):=fun s hp0=>dS ca (.inl hk) fun T hT=>hT s hp0
def G771 (hk:10<k:=by decide):P3 (under bP k u):=fun a b hp0=>dS ca (.inl hk) fun T hT=>hT a b hp0
def G772 (hk:9<k:=by decide):P4 (under bP k u):=fun l hp0=>dS ca (.inl hk) fun T hT=>hT l hp0
def QT (hk:9<k:=by decide):No (under bP k u):=fun s hp0=>dS ca (.inl hk) fun T hT=>hT s hp0
def G782 (hk:9<k:=by decide):P5 (under bP k u):=fun l v hp0=>dS ca (.inl hk) fun T hT=>hT l v hp0
def G783 (hk:3<k:=by decide):P6 (under bP k u):=fun a b=>dS ca (.inl hk) fun T hT=>hT a b
def G784 (hk:1<k:=by decide):P7 (under bP k u):=fun t row=>dS ca (.inl hk) fun T hT=>hT t row
def G785 (hk:19<k:=by decide):P8 (under bP k u):=fun c row k mild hp0=>dS ca (.inl hk) fun T hT=>hT c row k mild hp0
def G861 (hk:9<k:=by decide):P9 (under bP k u):=fun l v hp0=>dS ca (.inl hk) fun T hT=>hT l v hp0
def KE (hk:8<k:=by decide):G6 (under bP k u):=fun l hp0=>dS ca (.inl hk) fun T hT=>hT l hp0
def G917 (hk:2<k:=by decide):Qa (under bP k u):=fun c=>dS ca (.inl hk) fun T hT=>hT c
def G918 (hk:9<k:=by decide):Np (under bP k u):=fun l hp0 nx lo m K h1 h2 hK=>DP (.inl hk) fun T _ h=>h l hp0 nx lo m K h1 h2 hK
def QU (hk:8<k:=by decide):Nq (under bP k u):=fun l hp0=>dS ca (.inl hk) fun T hT=>hT l hp0
def QV (hk:7<k:=by decide):Nr (under bP k u):=fun l f t hp0=>dS ca (.inl hk) fun T hT=>hT l f t hp0
def QX (hk:7<k:=by decide):Ky (under bP k u):=fun out f t hp0 nx lo m K h1 h2 hK=>DP (.inl hk) fun T _ h=>h out f t hp0 nx lo m K h1 h2 hK
def G924 (hk:1<k:=by decide):Qb (under bP k u):=fun c=>dS ca (.inl hk) fun T hT=>hT c
def QY (hk:8<k:=by decide):Ns (under bP k u):=fun l hp0=>dS ca (.inl hk) fun T hT=>hT l hp0
def G926 (hk:8<k:=by decide):Qc (under bP k u):=fun s v hp0=>dS ca (.inl hk) fun T hT=>hT s v hp0
def G927 (hk:1<k:=by decide):Qd (under bP k u):=fun a b=>dS ca (.inl hk) fun T hT=>hT a b
def QZ (hk:15<k:=by decide):Nt (under bP k u):=fun l b c row k hp0=>dS ca (.inl hk) fun T hT=>hT l b c row k hp0
def G929 (hk:13<k:=by decide):Qe (under bP k u):=fun x c row k hp0=>dS ca (.inl hk) fun T hT=>hT x c row k hp0
def G930 (hk:12<k:=by decide):Qf (under bP k u):=fun c row k x hp0=>dS ca (.inl hk) fun T hT=>hT c row k x hp0
def G931 (hk:18<k:=by decide):Qg (under bP k u):=fun l c row k hp0=>dS ca (.inl hk) fun T hT=>hT l c row k hp0
def G932 (hk:16<k:=by decide):Qh (under bP k u):=fun x c row k hp0=>dS ca (.inl hk) fun T hT=>hT x c row k hp0
def G933 (hk:13<k:=by decide):Qi (under bP k u):=fun x c row k hp0=>dS ca (.inl hk) fun T hT=>hT x c row k hp0
def G934 (hk:12<k:=by decide):Qj (under bP k u):=fun c row k x hp0=>dS ca (.inl hk) fun T hT=>hT c row k x hp0
def G980 (hk:8<k:=by decide):Qk (under bP k u):=fun s v hp0=>dS ca (.inl hk) fun T hT=>hT s v hp0
def Hb (hk:7<k:=by decide):C3 (under bP k u):=fun s hp0=>dS ca (.inl hk) fun T hT=>hT s hp0
def zr (hk:6<k:=by decide):xa (under bP k u):=fun a b hp0=>dS ca (.inl hk) fun T hT=>hT a b hp0
def Qn (hk:7<k:=by decide):Mf (under bP k u):=fun l c hp0=>dS ca (.inl hk) fun T hT=>hT l c hp0
def Mp (hk:7<k:=by decide):G0 (under bP k u):=fun s hp0=>dS ca (.inl hk) fun T hT=>hT s hp0
def Mq (hk:6<k:=by decide):G1 (under bP k u):=fun a b hp0=>dS ca (.inl hk) fun T hT=>hT a b hp0
def Qo (hk:6<k:=by decide):Mg (under bP k u):=fun c v hp0=>dS ca (.inl hk) fun T hT=>hT c v hp0
def Qp (hk:14<k:=by decide):Mh (under bP k u):=fun l b c row k hp0=>dS ca (.inl hk) fun T hT=>hT l b c row k hp0
def Mr (hk:11<k:=by decide):G2 (under bP k u):=fun c x hp0=>dS ca (.inl hk) fun T hT=>hT c x hp0
def Qq (hk:17<k:=by decide):Mi (under bP k u):=fun l c row k hp0=>dS ca (.inl hk) fun T hT=>hT l c row k hp0
def Qr (hk:6<k:=by decide):Mj (under bP k u):=fun c v hp0=>dS ca (.inl hk) fun T hT=>hT c v hp0
def Hc (hk:5<k:=by decide):C4 (under bP k u):=fun c hp0=>dS ca (.inl hk) fun T hT=>hT c hp0
def Hd (hk:5<k:=by decide):C5 (under bP k u):=fun c hp0=>dS ca (.inl hk) fun T hT=>hT c hp0
def Qs (hk:1<k:=by decide):Mk (under bP k u):=dS ca (.inl hk) fun T hT=>hT
def Qt (hk:1<k:=by decide):Ml (under bP k u):=fun b=>dS ca (.inl hk) fun T hT=>hT b
def Qu (hk:1<k:=by decide):Mm (under bP k u):=dS ca (.inl hk) fun T hT=>hT
def Qv (hk:1<k:=by decide):Mn (under bP k u):=dS ca (.inl hk) fun T hT=>hT
end
def Oh:List (Nat×Nat):=[(5,10),(9,63),(10,36),(11,37),(12,206),(13,198),(15,65),(17,66),(18,67),(19,25),(20,46),(21,47),(22,48),(23,49),(24,50),(26,197),(27,154),(28,155),(29,156),(30,109),(31,157),(32,158),(33,159),(34,425),(37,406),(39,175),(41,203),(42,204),(43,205),(44,183),(45,184),(46,185),(48,374),(49,112),(50,217),(51,375),(52,376),(53,377),(54,378),(55,379),(56,380),(57,381),(58,632),(59,633),(60,634),(61,635),(62,636),(63,637),(68,408),(69,209),(70,295),(71,409),(73,434),(74,435),(75,436),(76,437),(77,438),(78,439),(79,415),(80,416),(84,598),(85,455),(86,456),(87,599),(88,600),(89,601),(90,602),(91,603),(92,604),(93,605),(94,615),(95,784),(96,785),(99,531),(100,516),(101,440),(102,441),(103,442),(104,530),(105,532),(106,533),(107,534),(108,622),(111,424),(112,654),(113,655),(114,656),(115,657),(116,627),(120,470),(121,666),(122,667),(123,668),(124,769),(125,770),(126,771),(127,772),(128,928),(129,929),(130,930),(131,931),(132,932),(133,933),(134,934),(135,704),(136,658),(137,659),(138,714),(139,780),(142,630),(143,631),(144,782),(145,454),(146,916),(147,917),(148,918),(149,919),(150,920),(151,921),(152,1026),(153,1027),(154,1028),(155,924),(156,925),(157,783),(158,926),(159,1019),(160,1020),(161,1021),(162,712),(163,1023),(164,1024),(165,927),(166,1025),(167,1086),(168,861),(169,1087),(170,980),(171,1055),(187,1178),(188,1179),(189,1180),(190,1181),(1000000126,501178),(1000000129,501179),(1000000131,501180),(1000000132,501181)]
def FK:List Nat:=[219,1091,1354,1894,1896,1616,1320,1618,1898,2062,2066,2282,2068,2252,2194,2064,1904,900,931,937,935,445,978,1328,904,942,944,946,952,448,522,1008,1724,1726,1728,1430,486,500,1842,760,314,310,308,1836,872,870,406,410,412,103920080,500000000]
def bU:(Go.Proofs.Tryz.prog).follows .mixedOrders=true:=zzbk
abbrev Ow [dw](f n:Nat):Prop:=O6 Go.Proofs.Tryz.prog Oh FK bP f n
abbrev Cp (f:Nat)(a:aM):Prop:=zn Go.Proofs.Tryz.prog Oh FK f a
def ck {f:Nat}{a:aM}(h:((Go.Proofs.Tryz.prog).funcs[f]?).map (fun f=>(compile Go.Proofs.Tryz.prog Oh FK f,f.name== "runtime.NumGoroutine"))=some (some a,false):=by kernel_rfl):Cp f a:=h
end Go.Abs
