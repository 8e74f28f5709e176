/- A part of the proofs. -/
import Derived.Test.YtkmlboofmolbaaaGreatDoorP08
set_option linter.all false
set_option maxRecDepth 60000
set_option maxHeartbeats 2000000
namespace Go.Abs
variable(T:List D->D->Prop)(Z:Ctx){σ:List (Nat×Nat)}{c:List Int}{q:Prop}{shop:List bM}(us:List cJ){Q:Ex->List ba->St->Prop}{env:List ba}{fx:Bool}{ds es:List D}{w:bR}{ι α:Type}{k n nx lo l:Nat}{x:Src}{a d:D}{K:List Nat}{r:List (Nat×bn)}{F2:Nat->List ba}{st:St}
def adl {all:List Key}(hs:KS all){i j:Nat}(hij:i<j)(hj:j<all.length):e8 all[i]! all[j]! =true:=by
 have:=List.pairwise_iff_getElem.1 hs i j ae hj hij;rw[getElem!_pos all i ae,getElem!_pos all j hj];exact this
def Hi {all:List Key}(hs:KS all)(hz:fL∈all){i:Nat}(h1:1<=i)(hi:i<all.length):all[i]! ≠fL:=by
 intro e;have:=adl hs (i:=0) (j:=i) ae hi;rw[(all_zero hs hz).1,e,tw]at this;cases this
def K2 {y:cF}{all:List Key}{k:Key}(hk:k≠fL)(h:(ey y all k).2=true):(ey y all k).1=(eN y k).map (dV y all k):=by
 unfold ey at*
 rw[ai hk]at h⊢;split at h
 .cases h
 .rename_i h1;rw[ai h1]
def N9 {y:cF}(hy:GM y)(h:(ez y).2=true):yI (ez y).1:=by
 obtain⟨all,hr,hus,hc,hB⟩:=sZ hy.p.p h;obtain⟨hz,h48,hcl⟩:=sK hr;obtain⟨hs,hnm⟩:=HU hy.p.p hr;have hl:(ez y).1.us.length=all.length:=by rw[hus,aZ]
 have hat:∀i,i<all.length->(ez y).1.us[i]! =rN y all all[i]! :=λi hi=>by rw[hus,fK hi]
 refine⟨Ej hy.p h,λi h1 hi x hx=>?_,λi h1 hi hf x hx=>?_⟩
 .rw[hl]at hi;rw[hat i hi]at hx;have hne:=Hi hs hz h1 hi;have hx':x∈(ey y all all[i]!).1:=hx;rw[K2 hne (hc i hi)]at hx';obtain⟨r,hr',rfl⟩:=cg.1 hx';exact CT hy.p.p hy.p.v hy.p.m all[i]!.n _ (List.mem_filter.1 hr').1
 .rw[hl]at hi⊢;rw[hat i hi]at hx hf;have hne:=Hi hs hz h1 hi;have hx':x∈(ey y all all[i]!).1:=hx;rw[K2 hne (hc i hi)]at hx';obtain⟨r,hr',rfl⟩:=cg.1 hx';have hf':all[i]!.f≠[]:=hf;have hrn:r.r.name=all[i]!.n:=(LM hy.p all[i]!.n r (List.mem_filter.1 hr').1).1;have hrow:[(⟨⟨r.r.name,[]⟩,dJ r.r.v⟩:jq)]∈cQ r.r y.e all[i]!.f:=by
   unfold cQ;rw[ai hf'];simp
  have hin:(⟨r.r.name,[]⟩:Key)∈all:=hcl _ (aq hi) [⟨⟨r.r.name,[]⟩,dJ r.r.v⟩] (by unfold de;rw[ai hne];exact List.mem_flatMap.2 ⟨r,hr',hrow⟩) _ (aD.2 rfl);obtain⟨p1,p2⟩:=ze hin;have hk0:(⟨r.r.name,[]⟩:Key)≠fL:=by
   intro e;have e2:r.r.name=[]:=aw Key.n e;have:=(hnm _ (aq hi));rcases this with h5|h5
   .exact hne h5
   .rw[hrn]at e2;exact h5 e2
  have hj0:=tC hs hz hk0;obtain⟨j,hj⟩:∃j:Nat,ep all ⟨r.r.name,[]⟩=(j:Nat):=⟨(ep all ⟨r.r.name,[]⟩).toNat,ae⟩
  have hje:all[j]! =⟨r.r.name,[]⟩:=by
   have:=hj;unfold ep at this;rcases e7 (f:=λx=>decide (x=(⟨r.r.name,[]⟩:Key))) (l:=all) (k:=0)with⟨h6,_⟩|⟨q,h6,h7,h8,_⟩
   .omega
   .have:q=j:=ae;subst this;exact of_decide_eq_true h8
  refine⟨j,⟨ae,ae⟩, ?_, ?_⟩
  .rw[hat j ae,hat i hi];show all[j]!.n=all[i]!.n/\all[j]!.f=[];rw[hje,hrn];exact⟨rfl,rfl⟩
  .show _∈dH all (cQ r.r y.e all[i]!.f);refine cg.2 ⟨_,hrow, ?_⟩;show [(⟨ep all ⟨r.r.name,[]⟩,dJ r.r.v⟩:Want)]=_;rw[hj];rfl
def NV (w:bR):=∀i,1<=i->i<w.us.length->dn w.us[i]!.name=true/\(w.us[i]!.feat=[]\/w.us[i]!.feat=lv\/w.us[i]!.feat=fW)
def Tp {y:cF}(hy:GM y)(h:(ez y).2=true):NV (ez y).1:=by
 obtain⟨all,hr,hus,_,_⟩:=sZ hy.p.p h;obtain⟨hz,_,_⟩:=sK hr;obtain⟨hs,_⟩:=HU hy.p.p hr;have hk:=HV hy 49 (s:=nG) (all:=all) (λk hk=>.inl (by simpa[nG]using hk)) hr;intro i h1 hi;have hi':i<all.length:=by rw[hus,aZ]at hi;exact hi
 rw[hus,fK hi'];have hne:=Hi hs hz h1 hi';rcases hk _ (aq hi')with h5|h5
 .exact absurd h5 hne
 .exact h5
def Ld {w:bR}(hw:eE w=true){c:List Int}{nm:au}:∀n,n<=w.us.length->(fY w.us c nm n).Pairwise λa b=>Op.bytesLess a b=true
 |0,_=>by simp[fY]
 |n+1,hn=>by
  have ih:=Ld hw (c:=c) (nm:=nm) n ae;rw[fY];split
  .rename_i h;rw[List.pairwise_append];refine⟨ih,aB,λa ha b hb=>?_⟩;rw[aD.1 hb];obtain⟨i,hi,⟨hnm,hf,_⟩,_⟩:=nQ.1 ha;have h2:=tJ hw (i:=i) ae hi.2 ae;unfold jK at h2;rw[hnm,h.2.1.1,my,Bool.false_or,aC]at h2;rw[<-hf];exact h2.2
  .exact ih
def up_at {l:List au}(h:l.Pairwise λa b=>Op.bytesLess a b=true){i:Nat}(h0:0<i)(hi:i<l.length):Op.bytesLess l[i-1]! l[i]! =true:=by
 have:=List.pairwise_iff_getElem.1 h (i-1) i ae hi ae;rw[getElem!_pos l (i-1) ae,getElem!_pos l i hi];exact this
theorem aey {l:List au}(h:l.Pairwise λa b=>Op.bytesLess a b=true)(h2:∀f∈l,f=lv\/f=fW):l.length<=9:=by
 match l with
 |[]=>simp
 |[_]=>simp
 |[_,_]=>simp
 |a::b::d::r=>
  exfalso;have ne:∀x y:au,Op.bytesLess x y=true->x≠y:=by
   intro x y hxy e;rw[e,my]at hxy;cases hxy
  have p1:=List.pairwise_cons.1 h;have p2:=List.pairwise_cons.1 p1.2;have n1:=ne _ _ (p1.1 b aB);have n2:=ne _ _ (p1.1 d aB);have n3:=ne _ _ (p2.1 d aB);have a1:=h2 a aB;have a2:=h2 b aB;have a3:=h2 d aB
  grind
def adz {s:au}(h:dn s=true):s≠[]:=by
 rintro rfl;revert h;decide
def XJ (hq:yI w)(hn:NV w)(hs:eS shop=true)(hm:en w c=true){u:Nat}(hu:u<w.us.length)(hk:gP w.us c u=false)(h:(fo shop w.us c u (fO w.us c u)).2=0):Ho (fo shop w.us c u (fO w.us c u)).1=true:=by
 obtain⟨e1,e2,e3,_⟩:=j7 h;obtain⟨hl,hb⟩:=qJ hm;simp only[gP,eF,cy,dq,aV]at hk;obtain⟨⟨h0,hc⟩,hf⟩:=hk;have hin:c[u]!.toNat<w.us[u]!.cands.length:=by have:=(hb u hu).2;omega
 have hv:gQ (fO w.us c u).v=true:=by
  have hw:=hq.val;simp only[eE,aC,bD,lF,m6]at hw;exact((hw.2 u (Nat.zero_le _) hu).2 _ (Nat.zero_le _) hin).1.1
 have hnm:=(hn u ae hu).1;have hup:=Ld hq.val (c:=c) (nm:=w.us[u]!.name) w.us.length (aN _);have hfe:∀f∈mg w.us c u,f=lv\/f=fW:=by
  intro f hf;obtain⟨i,hi,⟨_,h2,h3⟩,_⟩:=nQ.1 hf;rcases(hn i ae hi.2).2 with h4|h4
  .rw[h4]at h2;exact absurd h2.symm h3
  .rw[<-h2];exact h4
 have h9:=aey hup hfe;have hsh:∀j,j<shop.length->dn shop[j]!.name=true:=by
  intro j hj;simp only[eS,aC,bD,Bi,ic]at hs;exact(hs.2 j (Nat.zero_le _) hj).1.1.1
 have hsf:(decide ((fo shop w.us c u (fO w.us c u)).1.shelf≠[])&& !dn (fo shop w.us c u (fO w.us c u)).1.shelf)=false/\(decide ((fo shop w.us c u (fO w.us c u)).1.shelf=[])&&decide ((fo shop w.us c u (fO w.us c u)).1.sum≠0))=false:=by
  unfold fo at h⊢;split
  .exact⟨rfl,rfl⟩
  .rename_i h1;rw[ai h1]at h;split at h
   .cases h
   .rename_i h2;rw[ai h2];split at h
    .cases h
    .rename_i h3;rw[ai h3];have h4:=hsh (fO w.us c u).sh.toNat ae;refine⟨by show(_&& !dn shop[(fO w.us c u).sh.toNat]!.name)=false;rw[h4];simp, ?_⟩;show(decide (shop[(fO w.us c u).sh.toNat]!.name=[])&&_)=false;rw[bN (adz h4)];rfl
 unfold Ho;rw[hsf.1,hsf.2,e1,e2,e3,hnm,hv,bA (show(mg w.us c u).length<=9 from h9)];simp only[Bool.and_self,eu,Bool.not_false];rw[bD];intro i _ hi;unfold zX;have hw:gT (mg w.us c u)[i]! =true:=by
  rcases hfe _ (aq hi)with h5|h5<;>rw[h5]<;>decide
 rw[hw,eu];by_cases hi0:0<i
 .rw[show Op.bytesLess (mg w.us c u)[i-1]! (mg w.us c u)[i]! =true from up_at hup hi0 hi];simp
 .simp[hi0]
theorem Ye {e:Env}(h:(jO shop e w c).2=0):((eE w=true/\eS shop=true)/\n6 e=true)/\en w c=true/\jf w c=[]/\(iW shop w c).2=0/\(jO shop e w c).1=⟨e,(iW shop w c).1⟩:=by
 unfold jO at h⊢;split at h
 .cases h
 .rename_i h1;rw[ai h1];split at h
  .cases h
  .rename_i h2;rw[ai h2];split at h
   .rename_i h3;exact absurd h h3
   .rename_i h3;rw[ai h3];refine⟨by grind,by grind,lh ae,ae,rfl⟩
section
variable {m:hR}{e:Env}{os:List Int}
def Nh (hy:GM (IB m shop e))(h:(aF m shop e os).2.2=true):yI (aF m shop e os).1/\NV (aF m shop e os).1/\en (aF m shop e os).1 (aF m shop e os).2.1=true/\jf (aF m shop e os).1 (aF m shop e os).2.1=[]:=by
 by_cases h0:(ew m shop e).2≠0\/5000<Dd (ew m shop e).1.us
 .rw[DV h0]at h;cases h
 .have h1:(ew m shop e).2=0/\¬5000<Dd (ew m shop e).1.us:=⟨Classical.not_not.1 λh2=>h0 (.inl h2),λh2=>h0 (.inr h2)⟩;cases hf:kN (ew m shop e).1.us (iU (ew m shop e).1.us os)with
  |none=>rw[DW h1 hf]at h;cases h
  |some c=>
   obtain⟨hb,hw⟩:=pK hy.p h1.1;have hc:=mG hb.msk (p9 os) _ _ (sE _) hf;have hs16:∀x∈(ew m shop e).1.us,x.cands.length<=16:=λx hx=>(hb.u x hx).1
   obtain⟨⟨g1,g3⟩,g2⟩:=Ck hw hs16 (QZ hc.2) hc.1;rw[DX h1 hf];have hq:yI (ew m shop e).1/\NV (ew m shop e).1:=by
    have h2:=h1.1;unfold ew gV at h2⊢;split at h2
    .cases h2
    .split at h2
     .cases h2
     .split at h2
      .cases h2
      .rename_i h3;rw[ai mc,ai mc,ai h3];exact⟨N9 hy (by simpa using h3),Tp hy (by simpa using h3)⟩
   exact⟨hq.1,hq.2,Nn g1,P8 (VH hw) g1 g3⟩
end
def pW (shop:List bM)(us:List cJ)(c:List Int)(K:List Nat):List dr:=K.map λu=>(fo shop us c u (fO us c u)).1
def K3 (c:List Int)(K:List Nat):List Int:=(List.range us.length).map λi:Nat=>if i=0 then(0:Int)else if(0:Int)<=c[i]! /\∃u∈K,us[u]!.name=us[i]!.name then c[i]! else-1
def K4 (c:List Int)(K:List Nat):(K3 us c K).length=us.length:=by simp[K3]
def Wk {us:List cJ}{i:Nat}(hi:i<us.length):(K3 us c K)[i]! =if i=0 then 0 else if 0<=c[i]! /\∃u∈K,us[u]!.name=us[i]!.name then c[i]! else-1:=by
 unfold K3;rw[getElem!_pos _ i j4,List.getElem_map,List.getElem_range]
theorem XI (hq:yI w)(hm:en w c=true)(hh:jf w c=[])(h:(iW shop w c).2=0)(hK:∀u∈K,u<w.us.length/\gP w.us c u=false):vT shop w.us (pW shop w.us c K) (Fl w.us.length w.us.length)=(K3 w.us c K,0,[]):=by
 obtain⟨hl,hb⟩:=qJ hm;obtain⟨_,e2⟩:=pX w.us.length h;have hK2:∀u∈K,1<=u/\w.us[u]!.feat=[]/\0<=c[u]! :=by
  intro u hu;have hs:=(hK u hu).2;simp only[gP,eF,cy,dq,aV]at hs;exact⟨ae,hs.2,ae⟩
 have hsay:∀x∈pW shop w.us c K,VN shop w.us c x:=by
  intro x hx;obtain⟨u,hu,rfl⟩:=cg.1 hx;exact XK hq hm hh (hK u hu).1 (hK u hu).2 (e2 u (hK u hu).1 (hK u hu).2)
 rw[Rs _ _ hsay];refine Prod.ext ?_ rfl;show Bd c _ _=_;have hun:∀u∈K,gw w.us w.us[u]!.name []=(u:Nat):=by
  intro u hu;have:=wA hq.val (hK2 u hu).1 (hK u hu).1;rw[(hK2 u hu).2.1]at this;exact this

 have hJ:∀i,i∈(pW shop w.us c K).flatMap (Rt w.us)↔(1<=i/\i<w.us.length)/\0<=c[i]! /\∃u∈K,w.us[u]!.name=w.us[i]!.name:=by
  intro i;constructor
  .intro hi;obtain⟨x,hx,hix⟩:=List.mem_flatMap.1 hi;obtain⟨u,hu,rfl⟩:=cg.1 hx;obtain⟨b1,_,b3,_⟩:=j7 (e2 u (hK u hu).1 (hK u hu).2);rcases bL.1 hix with h1|h1
   .rw[b1,hun u hu,Int.toNat_natCast]at h1;subst h1;exact⟨⟨(hK2 i hu).1,(hK i hu).1⟩,(hK2 i hu).2.2,i,hu,rfl⟩
   .obtain⟨f,hf,hfe⟩:=cg.1 h1;rw[b3]at hf;obtain⟨j,hj,⟨hjn,hjf,_⟩,hjc⟩:=nQ.1 hf;have:=wA hq.val (i:=j) ae hj.2;rw[b1,<-hjn,<-hjf,this,Int.toNat_natCast]at hfe;subst hfe;exact⟨⟨ae,hj.2⟩,hjc,u,hu,hjn.symm⟩
  .rintro⟨⟨h1,h2⟩,h3,u,hu,hn⟩;obtain⟨b1,_,b3,_⟩:=j7 (e2 u (hK u hu).1 (hK u hu).2);refine List.mem_flatMap.2 ⟨_,cg.2 ⟨u,hu,rfl⟩, ?_⟩;by_cases hf:w.us[i]!.feat=[]
   .have hi:=wA hq.val h1 h2;rw[hf,<-hn]at hi;exact bL.2 (.inl (by rw[b1,hi];simp))
   .refine bL.2 (.inr (cg.2 ⟨w.us[i]!.feat, ?_, ?_⟩))
    .rw[b3];exact nQ.2 ⟨i,⟨ae,h2⟩,⟨hn.symm,rfl,hf⟩,h3⟩
    .rw[b1,hn,wA hq.val h1 h2];simp
 apply List.ext_getElem
 .rw[Ml,Bt,K4]
 .intro i h1 h2;have hi:i<w.us.length:=by rw[K4]at h2;exact h2
  have h3:=Mk c ((pW shop w.us c K).flatMap (Rt w.us)) (Fl w.us.length w.us.length) i (λj hj=>by rw[Bt];exact((hJ j).1 hj).1.2);have h4:=Wk (c:=c) (K:=K) hi;rw[getElem!_pos _ i h1]at h3;rw[getElem!_pos _ i h2]at h4;rw[h3,h4,GZ hi];have:=hJ i
  grind
def Wl (hq:yI w)(hm:en w c=true)(hh:jf w c=[])(h0:c[0]! =0){g:au}(hK:∀u,u∈K↔(u<w.us.length/\gP w.us c u=false)/\w.us[u]!.name≠g):K3 w.us c K=(List.range w.us.length).map λi:Nat=>if 1<=i/\w.us[i]!.name=g then(-1:Int)else c[i]! :=by
 obtain⟨hl,hb⟩:=qJ hm;unfold K3;apply List.map_congr_left;intro i hi;have hi:=List.mem_range.1 hi;by_cases hi0:i=0
 .subst hi0;simp[h0]
 .rw[ai hi0];by_cases hg:w.us[i]!.name=g
  .rw[ai (by rintro⟨_,u,hu,hn⟩;exact((hK u).1 hu).2 (hn.trans hg)),ak ⟨ae,hg⟩]
  .rw[ai (show ¬(1<=i/\w.us[i]!.name=g)from λh=>hg h.2)];split
   .rfl
   .rename_i hn;by_cases hc:0<=c[i]!
    .exfalso;apply hn;refine⟨hc, ?_⟩;by_cases hf:w.us[i]!.feat=[]
     .exact⟨i,(hK i).2 ⟨⟨hi,Ss ae hc hf⟩,hg⟩,rfl⟩
     .obtain⟨j,hj,⟨hjn,hjf⟩,hjc,_⟩:=Rx hq hm hh (i:=i) ae hi hf hc;exact⟨j,(hK j).2 ⟨⟨hj.2,Ss hj.1 hjc hjf⟩,by rw[hjn];exact hg⟩,hjn⟩
    .have:=hb i hi;omega
def XE {e:Env}(hq:yI w)(hn:NV w)(hs:eS shop=true)(he:n6 e=true)(hm:en w c=true)(h:(iW shop w c).2=0)(hK:∀u∈K,u<w.us.length/\gP w.us c u=false)(hp:K.Pairwise (· < ·))(h48:K.length<=48):LF ⟨e,pW shop w.us c K⟩=true:=by
 obtain⟨_,e2⟩:=pX w.us.length h;unfold LF;show(n6 e&&decide ((pW shop w.us c K).length<=48)&&b9 (xq (pW shop w.us c K)) 0 (pW shop w.us c K).length)=true;rw[he,bA (show(pW shop w.us c K).length<=48 by unfold pW;rw[aZ];exact h48),eu,eu,bD];have hp2:(pW shop w.us c K).Pairwise λa b=>Op.bytesLess a.name b.name=true:=by
  unfold pW;rw[List.pairwise_map];refine List.Pairwise.imp_of_mem ?_ hp;intro a b ha hb hab;obtain⟨ha1,ha2⟩:=hK a ha;obtain⟨hb1,rT⟩:=hK b hb;rw[(j7 (e2 a ha1 ha2)).1,(j7 (e2 b hb1 rT)).1];simp only[gP,eF,cy,dq,aV]at ha2 rT;have h2:=tJ hq.val (i:=a) ae hab hb1;unfold jK at h2;rw[ha2.2,rT.2,my,Bool.and_false,Bool.or_false]at h2;exact h2
 intro i _ hi;unfold xq;have hx:Ho (pW shop w.us c K)[i]! =true:=by
  obtain⟨u,hu,hue⟩:=cg.1 (aq hi);rw[show(pW shop w.us c K)[i]! =_ from hue.symm];exact XJ hq hn hs hm (hK u hu).1 (hK u hu).2 (e2 u (hK u hu).1 (hK u hu).2)
 rw[hx,eu];by_cases hi0:0<i
 .have:=List.pairwise_iff_getElem.1 hp2 (i-1) i ae hi ae;rw[getElem!_pos _ (i-1) ae,getElem!_pos _ i hi,this];simp
 .simp[hi0]
def fT (c:List Int):List Nat:=(List.range us.length).filter λu=>!gP us c u
def nR {us:List cJ}{u:Nat}:u∈fT us c↔u<us.length/\gP us c u=false:=by
 unfold fT;rw[List.mem_filter,List.mem_range];simp
def LR (c:List Int):(fT us c).Pairwise (· < ·):=List.Pairwise.sublist List.filter_sublist List.pairwise_lt_range
def T2 (c:List Int):(fT us c).length<=us.length:=by
 have:=List.length_filter_le (λu=>!gP us c u) (List.range us.length);rw[List.length_range]at this;exact this
def XL (h:(iW shop w c).2=0):(iW shop w c).1=pW shop w.us c (fT w.us c):=(pX w.us.length h).1
def Da (c:List Int)(k:Nat):List Nat:=(fT us c).take k++(fT us c).drop (k+1)
def Yx (hq:yI w)(hk:k<(fT w.us c).length)(u:Nat):u∈Da w.us c k↔(u<w.us.length/\gP w.us c u=false)/\w.us[u]!.name≠w.us[(fT w.us c)[k]!]!.name:=by
 have hin:∀{p},(hp:p<(fT w.us c).length)->(fT w.us c)[p]! ∈fT w.us c:=λhp=>aq hp
 have hne:∀{p q},p<q->q<(fT w.us c).length->(fT w.us c)[p]! <(fT w.us c)[q]! :=by
  intro p q hpq hq';have:=List.pairwise_iff_getElem.1 (LR w.us c) p q ae hq' hpq;rw[getElem!_pos _ p ae,getElem!_pos _ q hq'];exact this
 have hname:∀{p q},p<q->q<(fT w.us c).length->w.us[(fT w.us c)[p]!]!.name≠w.us[(fT w.us c)[q]!]!.name:=by
  intro p q hpq hq' he;obtain⟨a1,a2⟩:=nR.1 (hin (p:=p) ae);obtain⟨b1,b2⟩:=nR.1 (hin hq');simp only[gP,eF,cy,dq,aV]at a2 b2;refine tI hq.val (a:=w.us[(fT w.us c)[q]!]!.name) (b:=[]) (i:=(fT w.us c)[p]!) (j:=(fT w.us c)[q]!) ae (hne hpq hq') b1 ?_ ?_
  .simp only[nE,aC,aV];exact⟨he,a2.2⟩
  .simp only[nE,aC,aV];exact⟨trivial,b2.2⟩
 constructor
 .intro hu;rcases List.mem_append.1 hu with h1|h1
  .obtain⟨p,hp,rfl⟩:=List.getElem_of_mem h1;rw[dQ]at hp;rw[List.getElem_take];have hp':p<(fT w.us c).length:=ae;rw[<-getElem!_pos (fT w.us c) p hp'];exact⟨nR.1 (hin hp'),hname ae hk⟩
  .obtain⟨p,hp,rfl⟩:=List.getElem_of_mem h1;rw[ix]at hp;rw[List.getElem_drop];have hp':k+1+p<(fT w.us c).length:=ae;rw[<-getElem!_pos (fT w.us c) (k+1+p) hp'];exact⟨nR.1 (hin hp'),λe=>hname (p:=k) (q:=k+1+p) ae hp' e.symm⟩
 .rintro⟨h1,h2⟩;obtain⟨p,hp,hpe⟩:=List.getElem_of_mem (nR.2 h1);unfold Da;rcases Nat.lt_trichotomy p k with h3|h3|h3
  .refine List.mem_append.2 (.inl ?_);rw[List.mem_iff_getElem];exact⟨p,by rw[dQ];omega,by rw[List.getElem_take];exact hpe⟩
  .subst h3;rw[getElem!_pos _ p hp,hpe]at h2;exact absurd rfl h2
  .refine List.mem_append.2 (.inr ?_);rw[List.mem_iff_getElem];exact⟨p-(k+1),by rw[ix];omega,by rw[List.getElem_drop,<-hpe];congr 1;omega⟩
def adP (c:List Int)(k:Nat):(Da us c k).Pairwise (· < ·):=by
 have:(Da us c k).Sublist (fT us c):=by
  have h1:((fT us c).take k++(fT us c).drop (k+1)).Sublist ((fT us c).take k++(fT us c).drop k):=List.Sublist.append (List.Sublist.refl _) (by rw[<-List.drop_drop];exact List.drop_sublist _ _);rw[List.take_append_drop]at h1;exact h1
 exact List.Pairwise.sublist this (LR us c)
def UY {e:Env}(hq:yI w)(hn:NV w)(h0:0<=c[0]!)(h:(jO shop e w c).2=0)(hk:k<(jO shop e w c).1.lines.length):
  rS shop e w ⟨e,(jO shop e w c).1.lines.take k++(jO shop e w c).1.lines.drop (k+1)⟩=if(jf w ((List.range w.us.length).map λi:Nat=>if 1<=i/\w.us[i]!.name=(jO shop e w c).1.lines[k]!.name then(-1:Int)else c[i]!)).length=0 then((0:Int),([]:au))else((35:Int),w.us[(jf w ((List.range w.us.length).map λi:Nat=>if 1<=i/\w.us[i]!.name=(jO shop e w c).1.lines[k]!.name then(-1:Int)else c[i]!))[0]!.unit.toNat]!.name):=by
 obtain⟨h1,hm,hh,hl,he⟩:=Ye h;rw[he]at hk⊢;have hk':k<(iW shop w c).1.length:=hk;have e0:=XL hl;obtain⟨_,e2⟩:=pX w.us.length hl;rw[e0]at hk';unfold pW at hk';rw[aZ]at hk';have eK:(iW shop w c).1.take k++(iW shop w c).1.drop (k+1)=pW shop w.us c (Da w.us c k):=by
  rw[e0];unfold pW Da;rw[List.map_append,List.map_take,List.map_drop]
 have hmem:=Yx hq hk';have hnm:(iW shop w c).1[k]!.name=w.us[(fT w.us c)[k]!]!.name:=by
  have hkm:=nR.1 (aq hk');rw[e0];unfold pW;rw[getElem!_pos _ k (by rw[aZ];exact hk'),List.getElem_map,<-getElem!_pos (fT w.us c) k hk'];exact(j7 (e2 _ hkm.1 hkm.2)).1
 have hb:=(qJ hm).2;have hz:c[0]! =0:=by
  have h00:w.us[0]!.cands.length=1:=by
   have:=hq.val;simp only[eE,uY,aC,aV]at this;exact this.1.2.2
  have:=hb 0 (by have:=(Eh hq.val).1;omega);omega
 have hKs:∀u∈Da w.us c k,u<w.us.length/\gP w.us c u=false:=λu hu=>((hmem u).1 hu).1
 have hlen:(Da w.us c k).length<=48:=by
  have h2:=T2 w.us c;have h3:=(Eh hq.val).2;unfold Da;rw[cu,dQ,ix];omega
 show rS shop e w ⟨e,(iW shop w c).1.take k++(iW shop w c).1.drop (k+1)⟩=_;have hmay:=XE (e:=e) hq hn h1.1.2 h1.2 hm hl hKs (adP _ _ _) hlen;have hc:jL shop e w ⟨e,pW shop w.us c (Da w.us c k)⟩=(K3 w.us c (Da w.us c k),0,[]):=by
  rw[ae8 h1 ⟨hmay,rfl⟩];exact XI hq hm hh hl hKs
 rw[eK];have hd:=Wl hq hm hh hz hmem;show rS shop e w _=if(jf w ((List.range w.us.length).map λi:Nat=>if 1<=i/\w.us[i]!.name=(iW shop w c).1[k]!.name then(-1:Int)else c[i]!)).length=0 then _ else _
 rw[hnm,<-hd];unfold rS;rw[hc,ai aB]
def V6 {l:kD}(a:Int)(h:l.lines≠[]):hY l a 6 0=⟨l.env,l.lines.take (bo a l.lines.length).toNat++l.lines.drop ((bo a l.lines.length).toNat+1)⟩:=by
 unfold hY;rw[ai h];have e:bo 6 8=6:=aU;simp only[e,Int.reduceEq,aW,a8]
def nI (w:bR)(c:List Int)(g:au)(u:Nat):List Int:=(List.range c.length).map λi:Nat=>if(1<=i/\i<u)/\w.us[i]!.name=g then(-1:Int)else c[i]!
section
variable {g:au}{u:Nat}
def jY:(nI w c g u).length=c.length:=by unfold nI;rw[aZ,List.length_range]
def sT {i:Nat}(h:i<c.length):(nI w c g u)[i]! =if(1<=i/\i<u)/\w.us[i]!.name=g then(-1:Int)else c[i]! :=by
 unfold nI;rw[getElem!_pos _ i (by rw[aZ,List.length_range];exact h),List.getElem_map,List.getElem_range]
def D4 {d:List Int}(hl:d.length=c.length)(h:∀i,i<c.length->d[i]! =if(1<=i/\i<u)/\w.us[i]!.name=g then(-1:Int)else c[i]!):nI w c g u=d:=by
 apply List.ext_getElem
 .rw[jY,hl]
 .intro i h1 h2;have h3:i<c.length:=ae;rw[<-getElem!_pos _ i h1,<-getElem!_pos d i h2,sT h3,h i h3]
def akZ:nI w c g 1=c:=D4 rfl λi _=>by rw[ai ae]
def ak0 (h:¬w.us[u]!.name=g):nI w c g u=nI w c g (u+1):=D4 jY λi hi=>by
 rw[sT hi];by_cases e:i=u
 .subst e;rw[ai (λh2=>h h2.2),ai (λh2=>h h2.2)]
 .have:((1<=i/\i<u+1)/\w.us[i]!.name=g)↔((1<=i/\i<u)/\w.us[i]!.name=g):=by constructor<;>(rintro⟨h1,h2⟩;exact⟨⟨ae,ae⟩,h2⟩)
  simp only[this]
def ak1 (h1:1<=u)(h:w.us[u]!.name=g):(nI w c g u).set u (-1)=nI w c g (u+1):=by
 symm;refine D4 (by rw[List.length_set,jY]) λi hi=>?_
 rw[getElem!_pos _ i (by rw[List.length_set,jY];exact hi),List.getElem_set];by_cases e:u=i
 .subst e;rw[ak rfl,ak ⟨⟨h1,ae⟩,h⟩]
 .rw[ai e,<-getElem!_pos _ i (by rw[jY];exact hi),sT hi];have:((1<=i/\i<u+1)/\w.us[i]!.name=g)↔((1<=i/\i<u)/\w.us[i]!.name=g):=by constructor<;>(rintro⟨h1,h2⟩;exact⟨⟨ae,ae⟩,h2⟩)
  simp only[this]
def aes (h1:1<=u)(h:w.us[u]!.name=g)(hl:u<c.length):((nI w c g u).map (D.int .i64)).set (0+u) (pA (((nI w c g u).map (D.int .i64)).getD (0+u) .any) 1 1 0 (.int .i64 (-1)))=(nI w c g (u+1)).map (D.int .i64):=by
 rw[bX,<-ak1 h1 h,List.map_set,List.getD_eq_getElem?_getD,List.getElem?_map,List.getElem?_eq_getElem (by rw[jY];exact hl)];rfl
def akY (hl:0<c.length):(nI w c g u)[0]! =c[0]! :=by rw[sT hl,ai ae]
def Z0 (hm:en w c=true):en w (nI w c g u)=true:=by
 have h2:=qJ hm;simp only[en,aC,sn,bD,aV]at hm⊢;refine⟨hm.1,by rw[jY];exact h2.1,λi _ hi=>?_⟩;rw[jY]at hi;have h3:=h2.2 i ae;unfold yU;rw[sT hi,aC,aV,aV];split
 .exact⟨ae,ae⟩
 .exact h3
end
def UZ {e:Env}(hq:yI w)(hn:NV w)(h0:0<=c[0]!)(h:(jO shop e w c).2=0)(at1:Int)(hne:¬(jO shop e w c).1.lines=[]):
  decide ((rS shop e w (hY (jO shop e w c).1 at1 6 0)).1=0)=(en w (nI w c (jO shop e w c).1.lines[(bo at1 (jO shop e w c).1.lines.length).toNat]!.name c.length)&&decide ((jf w (nI w c (jO shop e w c).1.lines[(bo at1 (jO shop e w c).1.lines.length).toNat]!.name c.length)).length=0))/\
  ((rS shop e w (hY (jO shop e w c).1 at1 6 0)).1=0\/(rS shop e w (hY (jO shop e w c).1 at1 6 0)).1=35):=by
 have hpos:0<(jO shop e w c).1.lines.length:=List.length_pos_iff.2 hne;have hr:=c9 at1 (jO shop e w c).1.lines.length ae;have hk:(bo at1 (jO shop e w c).1.lines.length).toNat<(jO shop e w c).1.lines.length:=ae;obtain⟨h1,hm,hh,hl,he⟩:=Ye h;have hs:=UY hq hn h0 h hk;have hee:(jO shop e w c).1.env=e:=by rw[he]
 rw[V6 at1 hne,hee,hs];have hd:(List.range w.us.length).map (λi:Nat=>if 1<=i/\w.us[i]!.name=(jO shop e w c).1.lines[(bo at1 (jO shop e w c).1.lines.length).toNat]!.name then(-1:Int)else c[i]!)=nI w c (jO shop e w c).1.lines[(bo at1 (jO shop e w c).1.lines.length).toNat]!.name c.length:=by
  unfold nI;rw[(qJ hm).1];apply List.map_congr_left;intro i hi;have hi:=List.mem_range.1 hi;have:((1<=i/\i<w.us.length)/\w.us[i]!.name=(jO shop e w c).1.lines[(bo at1 (jO shop e w c).1.lines.length).toNat]!.name)↔(1<=i/\w.us[i]!.name=(jO shop e w c).1.lines[(bo at1 (jO shop e w c).1.lines.length).toNat]!.name):=⟨λh=>⟨h.1.1,h.2⟩,λh=>⟨⟨h.1,hi⟩,h.2⟩⟩;simp only[this]
 rw[hd,Z0 hm,eu];split
 .rename_i h5;exact⟨by rw[h5];rfl,.inl rfl⟩
 .rename_i h5;exact⟨by rw[bN h5];rfl,.inr rfl⟩
def Qp:=∀(l:kD) (pa:Int) (pw:Int) (pb:Int),(l.sm)->T [kD.D l,.int .i64 pa,.int .i64 pw,.int .i64 pb] (kD.D (hY l pa pw pb))
def C93:Prop:=Qp (aH Z 93)
def ad9 (g:Gs)(nm:au)(v:ca):pe 60 g (py g nm v 3).2:=by
 have r:=(g.SD (3+1)).1 ae;have h1:=xD nm g.aS (g.val (3+1)).toNat;have h2:=GS (nS nm g.aS (g.val (3+1)).toNat).2 nm;have h3:=G4 (eH (nS nm g.aS (g.val (3+1)).toNat).2 nm).2 (nS nm g.aS (g.val (3+1)).toNat).1;show pe 60 g (lB (eH (nS nm g.aS (g.val (3+1)).toNat).2 nm).2 (nS nm g.aS (g.val (3+1)).toNat).1).2;rw[h1.2]at h3;have h4:=h1.1;unfold pe at*
 simp only[Gs.Yc]at*
 omega
section
variable {g:Gs}
def aj9 (h:g.val 4=0):kd g=([⟨cI[(g.aS.val 4).toNat]!,AP⟩],g.aS.aS):=ak h
def aj8 (h:¬g.val 4=0):kd g=([],g.aS):=ai h
def ac7 (h:g.val 4=0):Cy g=([⟨cI[(g.aS.val 4).toNat]!,kf[(g.aS.aS.val 8).toNat]!⟩],g.aS.aS.aS):=ak h
def ac6 (h:¬g.val 4=0):Cy g=([],g.aS):=ai h
def adS (g:Gs):pe 2 g (kd g).2:=by unfold kd pe;split<;>simp only[Gs.aS]<;>omega
end
def I4:=∀(l:List hR) (nm:au),T [.sl 11 (l.map hR.D),.str nm] (.int .i64 (lQ l nm))
def C356:Prop:=I4 (aH Z 356)
def I0:=∀(l:List iN),T [.sl 2 (l.map iN.D)] (.tup [.int .i64 (Dc l).1,.int .i64 (Dc l).2])
def C344:Prop:=I0 (aH Z 344)
def I1:=∀(l:List kJ),(∀x∈l,kA x.range)->T [.sl 2 (l.map kJ.D)] (.tup [.int .i64 (Cz l).1,.int .i64 (Cz l).2])
def C345:Prop:=I1 (aH Z 345)
def IF:=∀(m:hR),(XV m)->T [hR.D m] (.tup [.int .i64 (kL m).1,.int .i64 (kL m).2])
def C136:Prop:=IF (aH Z 136)
def Qi:=∀(ks:List Int),T [.sl 1 (ks.map (D.int .i64))] (.sl 11 ([bH ks].map hR.D))
def C28:Prop:=Qi (aH Z 28)
def Jb:=∀(c:List Int) (x:ea),(KL c x)->T [.sl 1 (c.map (D.int .i64)),ea.D x] (.bool (C1 c x))
def C416:Prop:=Jb (aH Z 416)
def IL:=∀(c:List Int) (l:List ea),(∀x∈l,KL c x)->T [.sl 1 (c.map (D.int .i64)),.sl 2 (l.map ea.D)] (.bool (kr c l))
def C184:Prop:=IL (aH Z 184)
def J1:=∀(al:List Int) (u:Int) (p:Int),(al=[])->T [.sl 1 (al.map (D.int .i64)),.int .i64 u,.int .i64 p] (.bool true)
def C829:Prop:=J1 (aH Z 829)
def JL:=∀(m:kn) (al:List Int) (c:List Int),((wJ m/\KA m c)/\al=[])->T [kn.D m,.sl 1 (al.map (D.int .i64)),.sl 1 (c.map (D.int .i64))] (.bool (yM m c))
def C692:Prop:=JL (aH Z 692)
def J2:=∀(od:List (List Int)) (u:Int) (n:Nat),(((0<=u/\u<=1000)/\n<=16)/\(cV od u).length<=16)->T [.sl 1 (od.map jS),.int .i64 u,.int .i64 ((n:Nat):Int)] (.sl 1 ((cK (cV od u) n n).map (D.int .i64)))
def C830:Prop:=J2 (aH Z 830)
def J3:=∀(l:List ea) (o:ea),T [.sl 2 (l.map ea.D),ea.D o] (.bool (offB l o))
def C831:Prop:=J3 (aH Z 831)
def JM:=∀(m:kn) (al:List Int) (c:List Int),((wJ m/\KA m c)/\al=[])->T [kn.D m,.sl 1 (al.map (D.int .i64)),.sl 1 (c.map (D.int .i64))] (.tup [.int .i64 (ef m c).1,.int .i64 (ef m c).2])
def C693:Prop:=JM (aH Z 693)
def JN:=∀(m:kn) (al:List Int) (od:List (List Int)) (c:List Int),((wJ m/\KA m c)/\al=[]/\yH m od)->T [kn.D m,.sl 1 (al.map (D.int .i64)),.sl 1 (od.map jS),.sl 1 (c.map (D.int .i64))] (.sl 2 ((eh m od c).map ea.D))
def C694:Prop:=JN (aH Z 694)
def S1:=∀(m:kn) (od:List (List Int)) (c:List Int),((wJ m/\KA m c)/\yH m od)->T [kn.D m,Ask.D ⟨[],od⟩,.sl 1 (c.map (D.int .i64))] (O2 (mH m od c))
def C505:Prop:=S1 (aH Z 505)
def aeW (Y:Ctx)(u:Nat):=∀(m:kn) (od:List (List Int)) (c:List Int),((wJ m/\KA m c)/\yH m od)->EZ c<u->Y.pre 505 [kn.D m,Ask.D ⟨[],od⟩,.sl 1 (c.map (D.int .i64))]/\Y.val 505 [kn.D m,Ask.D ⟨[],od⟩,.sl 1 (c.map (D.int .i64))]=O2 (mH m od c)
def IK:=∀(w:bR) (l:List Want),(w.sm/\(∀x∈l,x.sm)/\l.length<=1000)->T [bR.D w,.sl 3 (l.map Want.D)] (.sl 2 ((eD w.us l).map ea.D))
def C183:Prop:=IK (aH Z 183)
def Qk:=∀(w:bR),((w.sm/\w.us.length<=1000)/\Few w.us)->T [bR.D w] ((dz w.us).D)
def C46:Prop:=Qk (aH Z 46)
def IV:=∀(w:bR) (od:List (List Int)),((((w.sm/\w.us.length<=1000)/\Few w.us)/\eE w=true)/\yH (dz w.us) od)->T [bR.D w,Ask.D ⟨[],od⟩] (O2 (kN w.us od))
def C267:Prop:=IV (aH Z 267)
def IW:=∀(w:bR) (l:List Int),(w.sm/\w.us.length<=1000)->T [bR.D w,.sl 1 (l.map (D.int .i64))] (.sl 1 ((iU w.us l).map jS))
def C268:Prop:=IW (aH Z 268)
def IE:=∀(w:bR),(w.sm)->T [bR.D w] (.int .i64 ((Dd w.us:Nat):Int))
def C114:Prop:=IE (aH Z 114)
def Jz:=∀(l:List iN) (p:iN),(l.length<=10000)->T [.sl 2 (l.map iN.D),iN.D p] (.tup [.sl 2 ((lP l p).1.map iN.D),.bool (lP l p).2])
def C581:Prop:=Jz (aH Z 581)
def IG:=∀(l:List hR),(wL l)->T [.sl 11 (l.map hR.D)] (.tup [.int .i64 0,.int .i64 0])
def Vn:Prop:=IG (aH Z 143)
def Ep:=∀(l:List hR) (nm:au),(wL l)->T [.sl 11 (l.map hR.D),.str nm] (.int .i64 (lQ l nm))
def aeK:Prop:=Ep (aH Z 1012)
def Ez:=∀(s:bM) (nm:au),T [bM.D s,.str nm] (.bool (Cw nm s))
def aeV:Prop:=Ez (aH Z 1121)
def C361:Prop:=uc (aH Z 361)
def Ey:=∀(l:List iN),T [.sl 2 (l.map iN.D)] (.bool (Al l))
def aeU:Prop:=Ey (aH Z 1120)
def Ev:=∀(shop:List bM) (ps:List iN) (nm:au),(jl shop)->T [.sl 2 (shop.map bM.D),.sl 2 (ps.map iN.D),.str nm] (.tup [.int .i64 (gy shop ps nm).1,.int .i64 (gy shop ps nm).2])
def aeR:Prop:=Ev (aH Z 1083)
def Ew:=∀(s:bM) (nm:au),(∀x∈s.es,ir x.r)->T [bM.D s,.str nm] (.sl 1 ((ku s nm).map (D.int .i64)))
def aeS:Prop:=Ew (aH Z 1084)
def Er:=∀(shop:List bM) (ps:List iN) (nm:au),(jl shop)->T [.sl 2 (shop.map bM.D),.sl 2 (ps.map iN.D),.str nm] (.tup [.int .i64 (cO shop ps nm).1,.sl 1 ((cO shop ps nm).2.1.map (D.int .i64)),.int .i64 (cO shop ps nm).2.2])
def aeL:Prop:=Er (aH Z 1013)
def Es:=∀(l:List hR) (nm:au),(wL l)->T [.sl 11 (l.map hR.D),.str nm] (.tup [cA.D (kQ l nm),.int .i64 0])
def aeM:Prop:=Es (aH Z 1014)
def Et:=∀(y:cF) (ns:List au) (r:Rec),((∀k∈y.keeps,k.v.sm)/\r.v.sm)->T [cF.D y (fdR y ns),Rec.D r] (.bool (LA y.keeps r))
def aeN:Prop:=Et (aH Z 1015)
def C909:=∀(y:cF) (ns:List au) (nm:au),pG y->NS Z 909 y (λf=>[cF.D y f,.str nm]) ns ns (uM (dL y nm))
def C755:=∀(y:cF) (ns:List au) (nm:au),pG y->ns.length<=1000->NS Z 755 y (λf=>[cF.D y f,.str nm]) ns (eV ns nm) (uM (dL y nm))
def C752:=∀(y:cF) (ns:List au) (k:Key),pG y->ns.length<=999->NS Z 752 y (λf=>[cF.D y f,Key.D k]) ns (eV ns k.n) (uM (eN y k))
def C751:=∀(y:cF) (ns:List au),(∀m∈y.l,m.r.v∈bJ)->y.l.length<=1000->NS Z 751 y (λf=>[cF.D y f]) ns ns (.sl 1 ((eJ y.l).map dU))
def J5:=∀(a:Key) (b:Key),T [Key.D a,Key.D b] (.bool (e8 a b))
def C902:Prop:=J5 (aH Z 902)
def Eu:=∀(x:di),(x.feats.length<=10000)->T [di.D x] (.sl 2 ((fh x).map Key.D))
def aeQ:Prop:=Eu (aH Z 1080)
def Eo:=∀(n:bw),(wK n/\n.sm)->T [bw.D n] (.sl 1 ((iM n).map dU))
def Vk:Prop:=Eo (aH Z 1009)
def J9:=∀(r:Rec) (e:Env) (nm:au) (ft:au),(B0 r/\lz e)->T [Rec.D r,Env.D e,.str nm,.str ft] (.sl 1 ((iY r.needs e nm ft).map dU))
def C906:Prop:=J9 (aH Z 906)
def J7:=∀(r:Rec) (e:Env) (o:au),(B0 r/\lz e)->T [Rec.D r,Env.D e,.str o] (.sl 1 ((qS r.needs e o).map dU))
def C904:Prop:=J7 (aH Z 904)
def J8:=∀(l:List cn) (nm:au),T [.sl 2 (l.map cn.D),.str nm] (.sl 1 ((u6 l nm).map D.str))
def C905:Prop:=J8 (aH Z 905)
def JU:=∀(r:Rec) (e:Env) (ft:au),((B0 r/\r.v∈bJ)/\lz e)->T [Rec.D r,Env.D e,.str ft] (.sl 1 ((cQ r e ft).map dU))
def C753:Prop:=JU (aH Z 753)
def J6:=∀(l:List Key) (k:Key),T [.sl 2 (l.map Key.D),Key.D k] (.int .i64 (ep l k))
def C903:Prop:=J6 (aH Z 903)
def JT:=∀(all:List Key) (l:List fV),(l.length<=1000/\∀r∈l,r.length<=1000)->T [.sl 2 (all.map Key.D),.sl 1 (l.map dU)] (.sl 1 ((dH all l).map jI))
def C750:Prop:=JT (aH Z 750)
def JV:=∀(all:List Key) (r:Rec) (e:Env),(B0 r/\lz e)->T [.sl 2 (all.map Key.D),Rec.D r,Env.D e] (.sl 3 ((wR all r e).map Want.D))
def C754:Prop:=JV (aH Z 754)
def C583:=∀(y:cF) (ns:List au) (all:List Key) (k:Key),(qy y/\lz y.e)->ns.length<=990->NS Z 583 y (λf=>[cF.D y f,.sl 2 (all.map Key.D),Key.D k]) ns (jy ns k) (r9 y all k)
def C748:=∀(y:cF) (ns:List au) (k:Key),(qy y/\lz y.e)->ns.length<=998->NS Z 748 y (λf=>[cF.D y f,Key.D k]) ns (jy ns k) (.sl 1 ((de y k).map dU))
def JS:=∀(l:List Key) (k:Key),(l.length<=200000)->T [.sl 2 (l.map Key.D),Key.D k] (.sl 2 ((sH l k).map Key.D))
def C749:Prop:=JS (aH Z 749)
def C582:=∀(y:cF) (ns:List au),(qy y/\lz y.e)->ns.length<=900->NS Z 582 y (λf=>[cF.D y f]) ns (sJ y 49 nG ns) (qW y)
def C362:=∀(y:cF),(qy y/\lz y.e)->WldC Z 362 y (zB y)
def I5:=∀(l:List hR),(wL l)->T [.sl 11 (l.map hR.D)] (.tup [.sl 2 ((gN l).map iN.D),.int .i64 0])
def C360:Prop:=I5 (aH Z 360)
def IH:=∀(l:List hR) (shop:List bM) (e:Env) (ks:List Kp),(qy (yv l shop e ks)/\lz e)->T [.sl 11 (l.map hR.D),.sl 2 (shop.map bM.D),Env.D e,.sl 6 (ks.map Kp.D)] (.tup [bR.D (gV l shop e ks).1,.int .i64 (gV l shop e ks).2])
def C147:Prop:=IH (aH Z 147)
def Jq:=∀(w:bR) (c:List Int),(w.sm)->T [bR.D w,.sl 1 (c.map (D.int .i64))] (.sl 1 ((fw w c).map D.bool))
def C506:Prop:=Jq (aH Z 506)
def IX:=∀(w:bR) (c:List Int),(w.sm)->(c.length<=1000)->T [bR.D w,.sl 1 (c.map (D.int .i64))] (.sl 1 ((rL w c).map (D.int .i64)))
def C269:Prop:=IX (aH Z 269)
def Qn:=∀(m:hR) (shop:List bM) (e:Env) (os:List Int),(qy (IB m shop e)/\lz e)->T [.sl 11 ([m].map hR.D),.sl 2 (shop.map bM.D),Env.D e,.sl 1 (os.map (D.int .i64))] (.tup [bR.D (aF m shop e os).1,.sl 1 ((aF m shop e os).2.1.map (D.int .i64)),.bool (aF m shop e os).2.2])
def C91:Prop:=Qn (aH Z 91)
def Jr:=∀(w:bR) (c:List Int) (nm:au),((1<=w.us.length/\w.us.length<=1000)/\w.us.length<=c.length)->T [bR.D w,.sl 1 (c.map (D.int .i64)),.str nm] (.sl 1 ((fY w.us c nm w.us.length).map D.str))
def C507:Prop:=Jr (aH Z 507)
def IY:=∀(shop:List bM) (e:Env) (w:bR) (c:List Int),(OfP shop w c)->T [.sl 2 (shop.map bM.D),Env.D e,bR.D w,.sl 1 (c.map (D.int .i64))] (.tup [kD.D (jO shop e w c).1,.int .i64 (jO shop e w c).2])
def C270:Prop:=IY (aH Z 270)
def Qo:=∀(shop:List bM) (e:Env) (w:bR) (c:List Int),(OfP shop w c)->T [.sl 2 (shop.map bM.D),Env.D e,bR.D w,.sl 1 (c.map (D.int .i64))] (.tup [kD.D (jO shop e w c).1,.bool (decide ((jO shop e w c).2=0))])
def C92:Prop:=Qo (aH Z 92)
def EA:=∀(ys:List Int) (ss:List Int) (os:List Int) (n:Int) (at1:Int),T [.sl 1 (ys.map (D.int .i64)),.sl 1 (ss.map (D.int .i64)),.sl 1 (os.map (D.int .i64)),.int .i64 n,.int .i64 at1] (.bool true)
def aP {p:Prop}(h:p:=by((repeat intro _);exact okp Wq (.inl (by assumption)) λT hT=>(by apply hT<;>assumption))):p:=h
def aJ {t:List (Nat×mO)}{key u q:Nat}:((under t key u).at q).cb:=Gq t key u q
def dC {a:Option α}{b c:α}(h:a=some b)(e:b=c:=by kernel_rfl):a=some c:=h.trans (congrArg some e)
def zvI {k:IntKind}{n:Int}(h:a=.int k n):a=.int k n:=h
def zvS {s:List UInt8}(h:a=.str s):a=.str s:=h
def zvB {s:Bool}(h:a=.bool s):a=.bool s:=h
def zvL {s:List D}(h:a=.sl k s):a=.sl k s:=h
def zvO {i:Nat}(h:a=.own l k i n):a=.own l k i n:=h
def zvP {i:Nat}(h:a=.ptr l k i n):a=.ptr l k i n:=h
def zvN (h:a=.aL):a=.aL:=h
def zD (q:α->D){x:α}(h:a=q x):a=q x:=h
def zvW {e:D}{o:Nat}{ag:Bool}(h:kT e k n o ag=e):kT e k n o ag=e:=h
def fold {v:D}(h:a=v:=by first|exact zvW rfl|exact zvI rfl|exact zvS rfl|exact zvB rfl|exact zvL rfl|exact zvO rfl|exact zvN rfl|exact zvP rfl|exact zD ca.D rfl|exact zD Cut.D rfl|exact zD Span.D rfl|exact zD cA.D rfl|exact zD Want.D rfl|exact zD Key.D rfl|exact zD iN.D rfl|exact zD kJ.D rfl|exact zD di.D rfl|exact zD bw.D rfl|exact zD mM.D rfl|exact zD cn.D rfl|exact zD Rec.D rfl|exact zD kj.D rfl|exact zD bM.D rfl|exact zD uF.D rfl|exact zD hR.D rfl|exact zD eA.D rfl|exact zD cJ.D rfl|exact zD bR.D rfl|exact zD ea.D rfl|exact zD jr.D rfl|exact zD dr.D rfl|exact zD kD.D rfl|exact zD Env.D rfl|exact zD Kp.D rfl|exact zD jq.D rfl):a=v:=h
def pR {F R:Prop}(h:Hid (F->q) wE)(a:F)(k:Hid q wE->R):R:=k ⟨h.1 a⟩
structure Hol {α:Type}(a:α):Prop
section
variable {Y:Ctx}{draw:Bool}{r:List GI}{rs:List ba}{m:List (Nat×bn)}{K:List ba->St->Prop}{g:Option (Nat×Bool)}{f:Bool}
def akt {o:Nat}{ag:Bool}{v:D}(h:ay Y draw r env (⟨f,v⟩::rs) nx m K)(hg:GF rs g f:=by exact cH)(hx:bZ env rs x=⟨fx,.ptr l k 0 o⟩:=by exact rfl)(kx:f=true->fx=true:=by exact bz)(hl:f=true->look m l=some (.buf k [d]):=by exact λ_=>rfl)(hv:kT d k n o ag=v:=by exact fold)(ho:o+n<=k:=by omega):ay Y draw (⟨.ld n ag x,g⟩::r) env rs nx m K:=qc v h hg hx kx hl (λ_=>hv) ho
def akw {i o:Nat}{ag:Bool}{v:D}[Inhabited α]{q:α->D}{xs:List α}(h:ay Y draw r env (⟨f,v⟩::rs) nx m K)(hg:GF rs g f:=by exact cH)(hx:bZ env rs x=⟨fx,.ref k (xs.map q) i o⟩:=by exact rfl)(kx:f=true->fx=true:=by exact bz)(hi:f=true->i<xs.length:=by exact rV)(hv:kT (q xs[i]!) k n o ag=v:=by exact fold)(ho:o+n<=k:=by omega):ay Y draw (⟨.ld n ag x,g⟩::r) env rs nx m K:=dd v h hg hx kx hi (λ_=>hv) ho
def akv {i o:Nat}{ag:Bool}{v:D}(h:ay Y draw r env (⟨f,v⟩::rs) nx m K)(hg:GF rs g f:=by exact cH)(hx:bZ env rs x=⟨fx,.ref k es i o⟩:=by exact rfl)(kx:f=true->fx=true:=by exact bz)(hi:f=true->i<es.length:=by intro _;simp only[List.length_cons,List.length_nil];omega)(hv:kT (es.getD i .any) k n o ag=v:=by exact fold)(ho:o+n<=k:=by omega):ay Y draw (⟨.ld n ag x,g⟩::r) env rs nx m K:=r_ldQ v h hg hx kx hi (λ_=>hv) ho
def aku {i o:Nat}{ag:Bool}{v:D}[Inhabited α]{q:α->D}{xs:List α}(h:ay Y draw r env (⟨f,v⟩::rs) nx m K)(hg:GF rs g f:=by exact cH)(hx:bZ env rs x=⟨fx,.ptr l k i o⟩:=by exact rfl)(kx:f=true->fx=true:=by exact bz)(hl:f=true->look m l=some (.buf k (xs.map q)):=by exact λ_=>rfl)(hi:f=true->i<xs.length:=by exact rV)(hv:kT (q xs[i]!) k n o ag=v:=by exact fold)(ho:o+n<=k:=by omega):ay Y draw (⟨.ld n ag x,g⟩::r) env rs nx m K:=oX v h hg hx kx hl hi (λ_=>hv) ho
def ako {i:Nat}{v:D}(h:ay Y draw r env (⟨f,v⟩::rs) nx m K)(hg:GF rs g f:=by exact cH)(hx:bZ env rs x=⟨fx,.tup ds⟩:=by exact rfl)(kx:f=true->fx=true:=by exact bz)(hv:ds.getD i .any=v:=by simp only[List.getD_cons_zero,List.getD_cons_succ];exact rfl)(hb:f=true->i<ds.length:=by intro _;simp only[List.length_cons,List.length_nil];omega):ay Y draw (⟨.ext x i,g⟩::r) env rs nx m K:=kY v h hg hx kx (λ_=>hv) hb
def r_stW {o:Nat}{y:Src}{v:D}{m2:List (Nat×bn)}(h:ay Y draw r env (⟨true,.any⟩::rs) nx m2 K)(hx:bZ env rs x=⟨true,.ptr l k 0 o⟩:=by exact rfl)(hy:bZ env rs y=⟨true,v⟩:=by exact rfl)(hl:look m l=some (.buf k [d]):=by exact rfl)(hc:v.cells.length=n:=by exact rfl)(he:pA d k n o v=v:=by exact rfl)(ho:o+n<=k:=by omega)(hm:cX m l (.buf k [v])=m2:=by simp only[cX,cT,Nat.reduceEqDiff,if_true,if_false,Nat.reduceAdd,reduceCtorEq];exact rfl):ay Y draw (⟨.st n x y,none⟩::r) env rs nx m K:=bY v h hx hy hl hc he ho hm
def akn {y:Src}{fy:Bool}{ag:Bool}{ks:List CK}{b:D}{v:Bool}(h:ay Y draw r env (⟨f,.bool (v)⟩::rs) nx m K)(hg:GF rs g f:=by exact cH)(hx:bZ env rs x=⟨fx,a⟩:=by exact rfl)(hy:bZ env rs y=⟨fy,b⟩:=by exact rfl)(kx:f=true->fx=true:=by exact bz)(ky:f=true->fy=true:=by exact bz)(hb:ik a.cells b.cells=v:=by first|exact ca.eq _ _|exact Key.eqD _ _|exact eqBb _ _|exact iN.eq _ _|exact Env.eq _ _|exact Kp.eq _ _|exact mM.eq _ _|exact ea.eq _ _)(h1:f=true->a.isAgg=ag/\b.isAgg=ag/\fJ ks a.cells/\fJ ks b.cells:=by exact uP):ay Y draw (⟨.eqA false ag ks x y,g⟩::r) env rs nx m K:=r_eqP h hb hg hx hy kx ky h1
def akm {y:Src}{fy:Bool}{ag:Bool}{ks:List CK}{b:D}{v:Bool}(h:ay Y draw r env (⟨f,.bool (!v)⟩::rs) nx m K)(hg:GF rs g f:=by exact cH)(hx:bZ env rs x=⟨fx,a⟩:=by exact rfl)(hy:bZ env rs y=⟨fy,b⟩:=by exact rfl)(kx:f=true->fx=true:=by exact bz)(ky:f=true->fy=true:=by exact bz)(hb:ik a.cells b.cells=v:=by first|exact ca.eq _ _|exact Key.eqD _ _|exact eqBb _ _|exact iN.eq _ _|exact Env.eq _ _|exact Kp.eq _ _|exact mM.eq _ _|exact ea.eq _ _)(h1:f=true->a.isAgg=ag/\b.isAgg=ag/\fJ ks a.cells/\fJ ks b.cells:=by exact uP):ay Y draw (⟨.eqA true ag ks x y,g⟩::r) env rs nx m K:=r_eqN h hb hg hx hy kx ky h1
def ad3 {y:Src}{fy:Bool}{a b:List UInt8}(h:ay Y draw r env (⟨f,.str (a++b)⟩::rs) nx m K)(hg:GF rs g f:=by exact cH)(hx:bZ env rs x=⟨fx,.str a⟩:=by exact rfl)(hy:bZ env rs y=⟨fy,.str b⟩:=by exact rfl)(kx:f=true->fx=true:=by exact bz)(ky:f=true->fy=true:=by exact bz)(hb:f=true->a.length+b.length<=9223372036854775807:=by intro _;simp only[List.length_append,List.length_cons,List.length_nil];omega):ay Y draw (⟨.bin .add x y,g⟩::r) env rs nx m K:=Pc h hg hx hy kx ky hb
theorem ad4 {args:List Src}{sh:List (List Sh)}{v:D}(h:ay Y draw r env (⟨f,v⟩::rs) nx m K)(hg:GF rs g f:=by exact cH)(hc:f=true->Y.pre n (jj m sh (iR (bZ env rs) args))/\Y.val n (jj m sh (iR (bZ env rs) args))=v:=by intro hf;apply_assumption (transparency:=.default) (exfalso:=false) (symm:=false) only[*];(all_goals first|assumption|omega|(simp at hf;omega)|grind))(ho:f=true->BJ (bZ env rs) args:=by exact uP)(hp:f=true->iZ m sh (iR (bZ env rs) args):=by exact uP)(hk:f=true->qB (iR (bZ env rs) args) v=true:=by exact λ_=>rfl):ay Y draw (⟨.call n args sh,g⟩::r) env rs nx m K:=cB h hg hc (λ_=>rfl) ho hp hk
end
section
variable {Y:Ctx}{draw:Bool}{r:List GI}{rs:List ba}{m:List (Nat×bn)}{K:List ba->St->Prop}{g:GI}
def tgW {a:AC}(h:dx Y a Q env st):dx Y a Q env st:=h
def tgR (h:ay Y draw (g::r) env rs nx m K):ay Y draw (g::r) env rs nx m K:=h
def tgS {a:aj}(h:dx Y a.body (NX a d) (fU a ds) ⟨0,[]⟩):dx Y a.body (NX a d) (fU a ds) ⟨0,[]⟩:=h
def tgE (h:ay Y draw [] env rs nx m K):ay Y draw [] env rs nx m K:=h
def tgl1 {id:Nat}{a b:AC}(h:dx Y (.seq (.block id (.loop a)) b) Q env st):dx Y (.seq (.block id (.loop a)) b) Q env st:=h
def tgl2 {id:Nat}{a:AC}(h:dx Y (.block id (.loop a)) Q env st):dx Y (.block id (.loop a)) Q env st:=h
end
inductive Lc:List D->Nat->List ba->Prop
 |A {d:D} {ds:List D} {n:Nat} {e:List ba} (h:Lc ds n e):Lc (d::ds) n (⟨true,d⟩::e)
 |U {n n':Nat} {e:List ba} (hn:n=n'+1) (h:Lc [] n' e):Lc [] n (.un::e)
 |N {n:Nat} (hn:n=0):Lc [] n []
def Lc.eq {e:List ba}(h:Lc ds n e):(ds.map λd=>⟨true,d⟩)++List.replicate n .un=e:=by
 induction h with
 |A _ ih=>simp[ih]
 |U hn _ ih=>subst hn;simpa[List.replicate_succ]using ih
 |N hn=>subst hn;rfl
def zst0 {Y:Ctx}{a:aj}{e:List ba}(h:dx (Y.at 0) a.body (NX a d) e ⟨0,[]⟩)(he:Lc ds (a.ns-a.np) e:=by repeat(first|apply Lc.A|apply Lc.U (by exact rfl)|exact Lc.N (by exact rfl))):dx (Y.at 0) a.body (NX a d) (fU a ds) ⟨0,[]⟩:=by
 unfold fU;rw[he.eq];exact h
def zsx {Y:Ctx}{a:aj}(k:q)(h:Hid q wE->dx (Y.at 0) a.body (NX a d) (fU a ds) ⟨0,[]⟩:=by intro h;refine zst0 ?_;(first|refine aQ ?_|refine gh ?_|refine gr ?_|refine pC ?_|refine Gy ?_|refine wp_ret ?_|refine mJ ?_ hm|refine lS ?_ hm|skip);exact h.1):dx (Y.at 0) a.body (NX a d) (fU a ds) ⟨0,[]⟩:=h ⟨k⟩
def cN {p:Prop}(k:q)(h:Hid q wE->p:=by
 intro h;first
 |((with_reducible refine tgR ?_);first|(refine bK ?_;exact h.1)|(refine mB ?_;exact h.1)|(refine akt ?_;exact h.1)|(refine akw ?_;exact h.1)|(refine akv ?_;exact h.1)|(refine aku ?_;exact h.1)|(refine zk ?_;exact h.1)|(refine akz ?_;exact h.1)|(refine Pd ?_;exact h.1)|(refine Y3 ?_;exact h.1)|(refine ad4 ?_;exact h.1)|(refine xW ?_;exact h.1)|(refine R5 ?_;exact h.1)|(refine Ao ?_;exact h.1)|(refine u7 ?_;exact h.1)|(refine Mn ?_;exact h.1)|exact HN λa=>(h.1:_->_) (a rfl rfl)|exact Pg λa=>(h.1:_->_) (a rfl rfl)|exact HN λ_=>h.1|exact Pg λ_=>h.1|(refine akx ?_;exact h.1)|exact cM _ h.1|exact akr h.1|exact sI _ h.1|exact aks h.1|(refine R7 ?_;exact h.1)|(refine lZ ?_;exact h.1)|(refine ad3 ?_;exact h.1)|(refine BN ?_;exact h.1)|(refine r_stW ?_;exact h.1)|exact bY _ h.1|(refine pn ?_;exact h.1)|(refine akq ?_;exact h.1)|(refine po ?_;exact h.1)|(refine akA ?_;exact h.1)|(refine HO ?_;exact h.1)|(refine aky ?_;exact h.1)|(refine HM ?_;exact h.1)|(refine akp ?_;exact h.1)|(refine ako ?_;exact h.1)|(refine akB ?_;exact h.1)|(refine akC ?_;exact h.1)|exact Dn λa=>(h.1:_->_) (a rfl rfl)|exact Dn λ_=>h.1|exact Ap _ h.1|exact Y6 h.1|(refine cL ?_;exact h.1)|(refine akn ?_;exact h.1)|(refine akm ?_;exact h.1)|(refine r_rng ?_;exact h.1)|(refine r_s2b ?_;exact h.1)|(refine r_mkB ?_;exact h.1)|exact Za _ h.1|exact Zd _ h.1|exact Zc _ h.1|exact Dp _ h.1|exact Zb _ _ h.1|exact Ze _ _ h.1|exact Zf _ h.1|exact Zh _ h.1|exact Zg _ _ h.1)
 |((with_reducible refine tgW ?_);first|((with_reducible refine tgS ?_);exact zsx h.1)|with_reducible exact aQ h.1|with_reducible exact gh h.1|with_reducible exact gr h.1|with_reducible exact pC h.1|with_reducible exact Gy h.1|with_reducible exact wp_ret h.1|with_reducible exact wp_skip h.1|with_reducible exact oG h.1|with_reducible exact wp_exit h.1|((fail_if_success with_reducible refine tgl1 ?_);with_reducible exact mJ h.1 hm)|((fail_if_success with_reducible refine tgl2 ?_);with_reducible exact lS h.1 hm))
 |((with_reducible refine tgE ?_);first|(refine rrrh ?_;exact h.1)|(refine rrrg ?_;exact h.1))
 |with_reducible exact BQ.normal h.1|with_reducible exact BQ.ret h.1|with_reducible exact LQ.normal h.1|with_reducible exact LQ.out h.1|with_reducible exact LQ.ret h.1|with_reducible exact BQ.out h.1|with_reducible exact NM.normal h.1|with_reducible exact NM.ret h.1|with_reducible exact Bq.normal h.1|with_reducible exact Bq.ret h.1|with_reducible exact NM.out h.1|with_reducible exact Bq.out h.1|with_reducible exact CQ.normal h.1|with_reducible exact CQ.ret h.1|with_reducible exact CQ.other h.1|((with_reducible refine BQ.other ?_ h.1);exact rfl)|((with_reducible refine LQ.other ?_ h.1);exact rfl)|((with_reducible refine NM.other ?_ h.1);exact rfl)|((with_reducible refine Bq.other ?_ h.1);exact rfl)):p:=h ⟨k⟩
def zg {p:Prop}(k:q)(h:Hid q wE->p:=by intro h;(repeat(refine cN ?_;try(intro a;apply pR h a;intro h)));exact h.1):p:=h ⟨k⟩
def zc {p q1 q2 c1 c2:Prop}(k1:c1->q1)(k2:c2->q2)(h:Hid (c1->q1) wE->Hid (c2->q2) wE->p:=by intro h1 h2;(repeat(refine cN ?_;try intro _));first|exact dN h1.1 h2.1|exact Bv h1.1 h2.1):p:=h ⟨k1⟩ ⟨k2⟩
def Xv (σ:List (Nat×Nat))(l:Nat):Option Nat:=match σ with
 |[]=>none
 |(a,b)::r=>bif Nat.beq b l then some a else Xv r l
def bp.nlx {c l':Nat}{m:List (Nat×bn)}{es':List D}(h:bp lo c σ m r)(hi:Xv σ l'=some l:=by exact rfl)(hl:mN lo σ l=some l':=by exact rfl)(hm:look m l=some (.buf k es):=by exact rfl)(he:es'=es:=by exact rfl)(hn:aM es=true:=by first|exact rfl|exact bQ (λ_=>rfl) _):bp lo c σ m ((l',.buf k es')::r):=.nl l hl hm he hn h
def bp.eqx {c l':Nat}{m:List (Nat×bn)}{es':List D}(h:bp lo c σ m r)(hi:Xv σ l'=some l:=by exact rfl)(hl:mN lo σ l=some l':=by exact rfl)(hm:look m l=some (.buf k es):=by exact rfl)(he:oB lo σ es=some es':=by exact rfl):bp lo c σ m ((l',.buf k es')::r):=.eq l hl hm he h
def bp.rwx {c l':Nat}{m:List (Nat×bn)}{s s':List UInt8}(h:bp lo c σ m r)(hi:Xv σ l'=some l:=by exact rfl)(hl:mN lo σ l=some l':=by exact rfl)(hm:look m l=some (.row s):=by exact rfl)(hs:s'=s:=by exact rfl):bp lo c σ m ((l',.row s')::r):=.rw l hl hm hs h
def bp.blx {c l' l1 l2 n':Nat}{u u':Bool}{m:List (Nat×bn)}(h:bp lo c σ m r)(hi:Xv σ l'=some l:=by exact rfl)(hl:mN lo σ l=some l':=by exact rfl)(hm:look m l=some (.bld (some l1) n u):=by exact rfl)(h1:mN lo σ l1=some l2:=by exact rfl)(hn:n'=n:=by exact rfl)(hu:u'=u:=by exact rfl):bp lo c σ m ((l',.bld (some l2) n' u')::r):=.bl l hl hm h1 hn hu h
def zge {a b:List ba}(h:fH lo σ a b:=by repeat(first|exact fH.nil|refine fH.un ?_|refine fH.eq (by exact rfl) ?_|refine fH.nl (by exact rfl) (by exact rfl) ?_|refine fH.ni (Or.inr ⟨_,_,_,rfl⟩) ?_)):fH lo σ a b:=h
def zgm {c:Nat}{m m':List (Nat×bn)}(h:bp lo c σ m m':=by repeat(first|exact bp.nil|refine bp.vO (by exact rfl) (by exact rfl) (by first|exact rfl|exact bQ (λ_=>rfl) _) ?_|refine bp.KD (by exact rfl) (by exact rfl) (by exact rfl) ?_|refine bp.NN (by exact rfl) (by exact rfl) (by exact rfl) (by exact rfl) ?_|refine bp.nlx ?_|refine bp.eqx ?_|refine bp.rwx ?_|refine bp.blx ?_|refine bp.mt (by exact rfl) (by exact rfl) (by exact rfl) (by exact rfl) ?_)):bp lo c σ m m':=h
def zl0 {c nx2:Nat}{m:List (Nat×bn)}{F:ι->List ba}{G:ι->List (Nat×bn)}{P:ι->Prop}{μ:ι->Nat}{i j:ι}(_:Hol j)(_:Hol σ)(hP:P j)(hm:μ j<μ i:=by(try dsimp only);omega)(hc:nx2=c:=by exact rfl)(h:gU lo c σ=true:=by exact rfl)(he:fH lo σ env (F j):=by exact zge)(hg:bp lo c σ m (G j):=by exact zgm):∃j,P j/\μ j<μ i/\aY lo env ⟨nx,m⟩ (F j) ⟨nx2,G j⟩:=⟨j,hP,hm,aY.to σ hc h he hg⟩
def zl {p:Prop}(j:ι)(σ:List (Nat×Nat))(k:q)(h:Hid q wE->Hol j->Hol σ->p:=by intro h a b;(repeat(refine cN ?_;try intro _));exact zl0 a b h.1):p:=h ⟨k⟩ ⟨⟩ ⟨⟩
def gI {p:Prop}(j:ι)(σ:List (Nat×Nat))(k:q)(h:Hid q wE->Hol j->Hol σ->p:=by intro h a b;(repeat(refine cN ?_;try intro _));exact zl0 a b ⟨by(try dsimp only);omega,h.1⟩):p:=h ⟨k⟩ ⟨⟩ ⟨⟩
def iC {p:Prop}(j:ι)(σ:List (Nat×Nat))(h:Hol j->Hol σ->p:=by intro a b;(repeat(refine cN ?_;try intro _));exact zl0 a b (by(try dsimp only);omega)):p:=h ⟨⟩ ⟨⟩
def zro {a:aj}{d2:D}{e:Ex}{m:List (Nat×bn)}(h:d2=d)(he:e.home:=by exact trivial)(h1:oA m env a.res:=by repeat' first|exact trivial|exact rfl|exact Nat.le_refl _|refine And.intro ?_ ?_)(h2:AR a env m:=by repeat' first|exact trivial|exact rfl|refine And.intro ?_ ?_)(h3:NK a env m=d2:=by exact rfl):NX a d e env ⟨nx,m⟩:=PV he h1 h2 (h3.trans h)
def zrb {a:aj}{d d2:Bool}{e:Ex}{m:List (Nat×bn)}(h:d2=d)(he:e.home:=by exact trivial)(h1:oA m env a.res:=by repeat' first|exact trivial|exact rfl|exact Nat.le_refl _|refine And.intro ?_ ?_)(h2:AR a env m:=by repeat' first|exact trivial|exact rfl|refine And.intro ?_ ?_)(h3:NK a env m=.bool d2:=by exact rfl):NX a (.bool d) e env ⟨nx,m⟩:=zro (congrArg _ h) he h1 h2 h3
def zrs {a:aj}{d d2:List UInt8}{e:Ex}{m:List (Nat×bn)}(h:d2=d)(he:e.home:=by exact trivial)(h1:oA m env a.res:=by repeat' first|exact trivial|exact rfl|exact Nat.le_refl _|refine And.intro ?_ ?_)(h2:AR a env m:=by repeat' first|exact trivial|exact rfl|refine And.intro ?_ ?_)(h3:NK a env m=.str d2:=by exact rfl):NX a (.str d) e env ⟨nx,m⟩:=zro (congrArg _ h) he h1 h2 h3
def zri {a:aj}{d d2:Int}{e:Ex}{m:List (Nat×bn)}(h:d2=d)(he:e.home:=by exact trivial)(h1:oA m env a.res:=by repeat' first|exact trivial|exact rfl|exact Nat.le_refl _|refine And.intro ?_ ?_)(h2:AR a env m:=by repeat' first|exact trivial|exact rfl|refine And.intro ?_ ?_)(h3:NK a env m=.int .i64 d2:=by exact rfl):NX a (.int .i64 d) e env ⟨nx,m⟩:=zro (congrArg _ h) he h1 h2 h3
def zr {p:Prop}(k:q)(h:Hid q wE->p:=by intro h;(repeat(refine cN ?_;try intro _));first|exact zrb h.1|exact zrs h.1|exact zri h.1|exact zro h.1):p:=h ⟨k⟩
def mK {p:Prop}(h:p:=by(repeat(refine cN ?_;try intro _));first|exact zrb rfl|exact zrs rfl|exact zri rfl|exact zro rfl):p:=h
def uns:Nat->List ba->List ba
 |0,r=>r
 |n+1,r=>.un::uns n r
def SE:=List ba->List ba
def SE.u (n:Nat):SE:=uns n
def SE.e (d:D):SE:=λr=>⟨true,d⟩::r
def SE.i (n:Int):SE:=λr=>⟨true,.int .i64 n⟩::r
def SE.p (l k:Nat):SE:=λr=>⟨true,.ptr l k 0 0⟩::r
def SE.o (l k n:Nat):SE:=λr=>⟨true,.own l k 0 n⟩::r
def SE.m (k:Nat)(xs:List α)(q:α->D):SE:=λr=>⟨true,.sl k (xs.map q)⟩::r
def spE:List SE->List ba
 |[]=>[]
 |f::r=>f (spE r)
section
variable {Y:Ctx}{a r:AC}{id:Nat}{m:List (Nat×bn)}
def zf (htr:Y.cb)(F:Nat->List SE)(G:Nat->List (Nat×bn))(c:Nat)(P:Nat->Prop)(μ:Nat->Nat)(hP:P 0)(σ:List (Nat×Nat))(hr:∀i,P i->dx Y a (LQ Y id r (λenv2 st2=>∃j,P j/\μ j<μ i/\aY Y.lo env2 st2 (F2 j) ⟨c,G j⟩) Q) (F2 i) ⟨c,G i⟩)(hF:∀i,spE (F i)=F2 i:=by intro i;simp only[spE,SE.u,SE.e,SE.i,SE.p,SE.o,SE.m,uns];exact rfl)(h:gU Y.lo c σ=true:=by exact rfl)(he:fH Y.lo σ env (F2 0):=by exact zge)(hg:bp Y.lo c σ m (G 0):=by exact zgm):dx Y (.seq (.block id (.loop a)) r) Q env ⟨nx,m⟩:=gp htr F2 G c P μ 0 hP (aY.to σ rfl h he hg) hr
def zfx (htr:Y.cb)(i0:ι)(F:ι->List SE)(G:ι->List (Nat×bn))(c:Nat)(P:ι->Prop)(μ:ι->Nat)(hP:P i0)(σ:List (Nat×Nat)){F2:ι->List ba}(hr:∀i,P i->dx Y a (LQ Y id r (λenv2 st2=>∃j,P j/\μ j<μ i/\aY Y.lo env2 st2 (F2 j) ⟨c,G j⟩) Q) (F2 i) ⟨c,G i⟩)(hF:∀i,spE (F i)=F2 i:=by intro i;simp only[spE,SE.u,SE.e,SE.i,SE.p,SE.o,SE.m,uns];exact rfl)(h:gU Y.lo c σ=true:=by exact rfl)(he:fH Y.lo σ env (F2 i0):=by exact zge)(hg:bp Y.lo c σ m (G i0):=by exact zgm):dx Y (.seq (.block id (.loop a)) r) Q env ⟨nx,m⟩:=gp htr F2 G c P μ i0 hP (aY.to σ rfl h he hg) hr
def zfL (htr:Y.cb)(F:Nat->List SE)(G:Nat->List (Nat×bn))(c:Nat)(P:Nat->Prop)(μ:Nat->Nat)(hP:P 0)(σ:List (Nat×Nat))(hr:∀i,P i->dx Y a (Bq id (λenv2 st2=>∃j,P j/\μ j<μ i/\aY Y.lo env2 st2 (F2 j) ⟨c,G j⟩) Q) (F2 i) ⟨c,G i⟩)(hF:∀i,spE (F i)=F2 i:=by intro i;simp only[spE,SE.u,SE.e,SE.i,SE.p,SE.o,SE.m,uns];exact rfl)(h:gU Y.lo c σ=true:=by exact rfl)(he:fH Y.lo σ env (F2 0):=by exact zge)(hg:bp Y.lo c σ m (G 0):=by exact zgm):dx Y (.block id (.loop a)) Q env ⟨nx,m⟩:=IA htr F2 G c P μ 0 hP (aY.to σ rfl h he hg) hr
def zfxL (htr:Y.cb)(i0:ι)(F:ι->List SE)(G:ι->List (Nat×bn))(c:Nat)(P:ι->Prop)(μ:ι->Nat)(hP:P i0)(σ:List (Nat×Nat)){F2:ι->List ba}(hr:∀i,P i->dx Y a (Bq id (λenv2 st2=>∃j,P j/\μ j<μ i/\aY Y.lo env2 st2 (F2 j) ⟨c,G j⟩) Q) (F2 i) ⟨c,G i⟩)(hF:∀i,spE (F i)=F2 i:=by intro i;simp only[spE,SE.u,SE.e,SE.i,SE.p,SE.o,SE.m,uns];exact rfl)(h:gU Y.lo c σ=true:=by exact rfl)(he:fH Y.lo σ env (F2 i0):=by exact zge)(hg:bp Y.lo c σ m (G i0):=by exact zgm):dx Y (.block id (.loop a)) Q env ⟨nx,m⟩:=IA htr F2 G c P μ i0 hP (aY.to σ rfl h he hg) hr
end
abbrev cz (Y:Ctx)(a:aj)(ds:List D)(d:D):Prop:=wkk Y a d ds
def zk1 {p:Prop}(k:q)(h:Hid q wE->p:=by intro h;(iterate 1(refine cN ?_;try(intro a;apply pR h a;intro h)));exact h.1):p:=h ⟨k⟩
def cC {p:Prop}(k:q)(h:Hid q wE->p:=by intro h;(iterate 2(refine cN ?_;try(intro a;apply pR h a;intro h)));exact h.1):p:=h ⟨k⟩
def dI {p:Prop}(k:q)(h:Hid q wE->p:=by intro h;(iterate 3(refine cN ?_;try(intro a;apply pR h a;intro h)));exact h.1):p:=h ⟨k⟩
def eX {p:Prop}(k:q)(h:Hid q wE->p:=by intro h;(iterate 4(refine cN ?_;try(intro a;apply pR h a;intro h)));exact h.1):p:=h ⟨k⟩
def kI {p:Prop}(k:q)(h:Hid q wE->p:=by intro h;(iterate 5(refine cN ?_;try(intro a;apply pR h a;intro h)));exact h.1):p:=h ⟨k⟩
def kF {p:Prop}(k:q)(h:Hid q wE->p:=by intro h;(iterate 6(refine cN ?_;try(intro a;apply pR h a;intro h)));exact h.1):p:=h ⟨k⟩
def qo {p:Prop}(k:q)(h:Hid q wE->p:=by intro h;(iterate 7(refine cN ?_;try(intro a;apply pR h a;intro h)));exact h.1):p:=h ⟨k⟩
def qx {p:Prop}(k:q)(h:Hid q wE->p:=by intro h;(iterate 8(refine cN ?_;try(intro a;apply pR h a;intro h)));exact h.1):p:=h ⟨k⟩
def yx {p:Prop}(k:q)(h:Hid q wE->p:=by intro h;(iterate 9(refine cN ?_;try(intro a;apply pR h a;intro h)));exact h.1):p:=h ⟨k⟩
def uQ {p:Prop}(k:q)(h:Hid q wE->p:=by intro h;(iterate 10(refine cN ?_;try(intro a;apply pR h a;intro h)));exact h.1):p:=h ⟨k⟩
def Fb {p:Prop}(k:q)(h:Hid q wE->p:=by intro h;(iterate 11(refine cN ?_;try(intro a;apply pR h a;intro h)));exact h.1):p:=h ⟨k⟩
def ID {p:Prop}(k:q)(h:Hid q wE->p:=by intro h;(iterate 12(refine cN ?_;try(intro a;apply pR h a;intro h)));exact h.1):p:=h ⟨k⟩
def Fc {p:Prop}(k:q)(h:Hid q wE->p:=by intro h;(iterate 13(refine cN ?_;try(intro a;apply pR h a;intro h)));exact h.1):p:=h ⟨k⟩
def iw {p:Prop}(k:q)(h:Hid q wE->p:=by intro h;(iterate 14(refine cN ?_;try(intro a;apply pR h a;intro h)));exact h.1):p:=h ⟨k⟩
def En {p:Prop}(k:q)(h:Hid q wE->p:=by intro h;(iterate 15(refine cN ?_;try(intro a;apply pR h a;intro h)));exact h.1):p:=h ⟨k⟩
def zk17 {p:Prop}(k:q)(h:Hid q wE->p:=by intro h;(iterate 17(refine cN ?_;try(intro a;apply pR h a;intro h)));exact h.1):p:=h ⟨k⟩
def zk18 {p:Prop}(k:q)(h:Hid q wE->p:=by intro h;(iterate 18(refine cN ?_;try(intro a;apply pR h a;intro h)));exact h.1):p:=h ⟨k⟩
def zk20 {p:Prop}(k:q)(h:Hid q wE->p:=by intro h;(iterate 20(refine cN ?_;try(intro a;apply pR h a;intro h)));exact h.1):p:=h ⟨k⟩
def zk21 {p:Prop}(k:q)(h:Hid q wE->p:=by intro h;(iterate 21(refine cN ?_;try(intro a;apply pR h a;intro h)));exact h.1):p:=h ⟨k⟩
end Go.Abs
