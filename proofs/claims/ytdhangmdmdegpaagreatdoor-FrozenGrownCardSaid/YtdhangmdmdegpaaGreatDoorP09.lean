/- A part of the proofs. -/
import Derived.Test.YtdhangmdmdegpaaGreatDoorP08
set_option linter.all false
set_option maxRecDepth 60000
set_option maxHeartbeats 2000000
namespace Go.Abs
variable(T:Θ->Abs.D->Prop)(Z:Ctx){σ:Ξ}{q:Prop}{Q:Ex->Φ->St->Prop}{env:Φ}{fx:Bool}{ds es:Θ}{ι α:Type}{x:Src}{a d:Abs.D}{n k nx lo l c j:Nat}{ps:π}{r:Γ}{F2:Nat->Φ}{b:Β}{st:St}
structure F4 (y:cu)(all:Α):Prop where
 us:(az y).1.us=all.map (oR y all)
 ok:∀i,i<all.length->(dW y all all[i]!).2=true
 z:eV∈all
 cl:∀k∈all,∀row∈cJ y k,∀a∈row,a.k∈all
 ks:KS all
def Xs {y:cu}(hy:nD y)(h:(az y).2=true):∃all,F4 y all:=by
 obtain⟨all,hr,hus,hc,_⟩:=mO hy.p.p h;obtain⟨hz,_,hcl⟩:=oL hr;exact⟨all,hus,hc,hz,hcl,(yo hy.p.p hr).1⟩
def eX (y:cu)(all:Α)(c:Δ)(i:Nat):qM:=(ei y all[i]!)[c[i]!.toNat]!
section
variable {y z:cu}{all al2:Α}{c:Δ}
def F4.len (B:F4 y all):(az y).1.us.length=all.length:=by rw[B.us,bj]
def F4.at (B:F4 y all){i:Nat}(hi:i<all.length):(az y).1.us[i]! =oR y all all[i]! :=by rw[B.us,eu hi]
def F4.ar (B:F4 y all){i:Nat}(h1:1<=i)(hi:i<all.length):(az y).1.us[i]!.ar=(ei y all[i]!).map (cS y all all[i]!):=by
 rw[B.at hi,<-xp (mg B.ks B.z h1 hi) (B.ok i hi)];rfl
def F4.root (B:F4 y all):(az y).1.us[0]!.ar=[⟨zV,-1,dr all (eH y.l),[]⟩]:=by
 obtain⟨h1,h2⟩:=all_zero B.ks B.z;rw[B.at h2,h1];show(dW y all eV).1=_;unfold dW;rw[ak rfl]
def F4.uniq (B:F4 y all){i:Nat}(hi:i<all.length)(hj:j<all.length)(e:all[i]! =all[j]!):i=j:=by
 rcases Nat.lt_trichotomy i j with h|h|h
 .have:=H9 B.ks h hj;rw[e,px]at this;cases this
 .exact h
 .have:=H9 B.ks h hi;rw[e,px]at this;cases this
theorem oJ {k:Key}(h:0<=cz all k):∃j:Nat,cz all k=(j:Int)/\j<all.length/\all[j]! =k:=by
 grind [cz,ew]
def F4.place (B:F4 y all)(hj:j<all.length):cz all all[j]! =(j:Int):=by
 obtain⟨i,h1,h2,h3⟩:=oJ (jH (aq hj)).1;rw[h1,B.uniq h2 hj h3]
def fY (B:F4 y all)(hm:dw (az y).1 c=true){i:Nat}(h1:1<=i)(hi:i<all.length)(hc:0<=c[i]!):
  c[i]!.toNat<(ei y all[i]!).length/\aW (az y).1 c i=cS y all all[i]! (eX y all c i):=by
 have h2:=((pK hm).2 i (by rw[B.len];exact hi)).2;rw[B.ar h1 hi,bj]at h2;have h3:c[i]!.toNat<(ei y all[i]!).length:=ae;refine⟨h3, ?_⟩;unfold aW eX;rw[B.ar h1 hi,eu h3]
def vM (y:cu)(all:Α)(c:Δ)(i:Nat):ο:=if i=0 then eH y.l else cL (eX y all c i).r y.e all[i]!.f
def su (B:F4 y all)(hm:dw (az y).1 c=true){i:Nat}(hi:i<all.length)(hc:0<=c[i]!):(aW (az y).1 c i).needs=dr all (vM y all c i)/\∀q∈vM y all c i,∀a∈q,a.k∈all:=by
 unfold vM;by_cases h0:i=0
 .subst h0;rw[ak rfl];refine⟨?_,λq hq a ha=>B.cl eV B.z q (by unfold cJ;rw[ak rfl];exact hq) a ha⟩;have h2:=((pK hm).2 0 (by rw[B.len];exact hi)).2;rw[B.root]at h2;unfold aW;have h2:c[0]! <1:=h2;have:c[0]!.toNat=0:=ae;rw[B.root,this];rfl
 .obtain⟨h1,h2⟩:=fY B hm ae hi hc;rw[ah h0];refine⟨by rw[h2];rfl,λq hq a ha=>B.cl _ (aq hi) q ?_ a ha⟩;unfold cJ;rw[ah (mg B.ks B.z ae hi)];exact List.mem_flatMap.2 ⟨_,aq h1,hq⟩
structure Grw (y z:cu)(all:Α)(c:Δ):Prop where
 l:z.l=y.l
 e:z.e=y.e
 p:z.pins=y.pins
 g:W2 y.shop z.shop
 s:ea z.shop=true
 k:∀i,1<=i->i<all.length->0<=c[i]! ->(eX y all c i).sh=-1\/AE z.keeps (eX y all c i).r=true/\dy z.shop y.pins all[i]!.n=dy y.shop y.pins all[i]!.n
def aki (B:F4 y all)(B2:F4 z al2)(hI:InW (az y).1){c0:Δ}(hm0:dw (az y).1 c0=true)(G:Grw y z all (ir (az y).1 c0)):
  ∀i,i<all.length->0<=(ir (az y).1 c0)[i]! ->i=0\/all[i]! ∈al2/\eX y all (ir (az y).1 c0) i∈ei z all[i]! :=by
 have hm:=ET hm0;have hl0:=(pK hm0).1;intro i hi h0;refine abp hI hm0 (P:=λi=>i=0\/all[i]! ∈al2/\eX y all (ir (az y).1 c0) i∈ei z all[i]!) (.inl rfl) (λi hi hP hc row hrow x hx hxc=>?_) i (by rw[hl0,B.len];exact hi) h0;rw[hl0,B.len]at hi;obtain⟨e1,e2⟩:=su B hm hi hc;rw[e1]at hrow;obtain⟨q,hq,rfl⟩:=oQ hrow;obtain⟨a,ha,rfl⟩:=bI.1 hx;have hka:=e2 q hq a ha;obtain⟨j,hj,hjl,hje⟩:=oJ (jH hka).1;show(cz all a.k).toNat=0\/_;have hxc:0<=(ir (az y).1 c0)[(cz all a.k).toNat]! :=hxc;rw[hj,Int.toNat_natCast]at hxc⊢;by_cases hj0:j=0
 .exact .inl hj0
 refine .inr ⟨?_, ?_⟩
 .rw[hje];rcases hP with h|⟨h1,h2⟩
  .subst h;refine B2.cl eV B2.z q ?_ a ha;unfold cJ;rw[ak rfl,G.l];unfold vM at hq;rw[ak rfl]at hq;exact hq
  .by_cases hi0:i=0
   .subst hi0;refine B2.cl eV B2.z q ?_ a ha;unfold cJ;rw[ak rfl,G.l];unfold vM at hq;rw[ak rfl]at hq;exact hq
   .refine B2.cl _ h1 q ?_ a ha;unfold cJ;rw[ah (mg B.ks B.z ae hi)];unfold vM at hq;rw[ah hi0]at hq;exact List.mem_flatMap.2 ⟨_,h2,by rw[G.e];exact hq⟩
 .have h3:=aq (fY B hm ae hjl hxc).1;have h4:=List.mem_filter.1 (show eX y all (ir (az y).1 c0) j∈(dc y all[j]!.n).filter (Tb all[j]!.f)from h3);exact List.mem_filter.2 ⟨Zd G.l G.p G.g G.s h4.1 (G.k j ae hjl hxc),h4.2⟩
end
def jR (y z:cu)(all al2:Α)(c:Δ):Δ:=(List.range al2.length).map λi:Nat=>if i=0 then(0:Int)else if 0<=cz all al2[i]! /\0<=c[(cz all al2[i]!).toNat]! then gp (λq=>decide (q.r.v=(eX y all c (cz all al2[i]!).toNat).r.v)) (ei z al2[i]!) 0 else-1
structure y2 (y z:cu)(all al2:Α)(c:Δ):Prop where
 B:F4 y all
 B2:F4 z al2
 hy:nD y
 hz:nD z
 w2:(az z).2=true
 hm:dw (az y).1 c=true
 hh:iX (az y).1 c=[]
 c0:0<=c[0]!
 G:Grw y z all c
 inn:∀i,i<all.length->0<=c[i]! ->i=0\/all[i]! ∈al2/\eX y all c i∈ei z all[i]!
theorem ae2 {z:cu}(hz:nD z){k:Key}{x:qM}(hx:x∈ei z k):∃t:Nat,gp (λq=>decide (q.r.v=x.r.v)) (ei z k) 0=(t:Int)/\t<(ei z k).length/\(ei z k)[t]! =x:=by
 obtain⟨s,hs,hse⟩:=ff hx;rcases ew (f:=λq:qM=>decide (q.r.v=x.r.v)) (l:=ei z k) (k:=0)with⟨_,h2⟩|⟨t,h1,h2,h3,h4⟩
 .have:=h2 s hs;rw[hse]at this;simp at this
 .refine⟨t,by rw[h1,cG],h2, ?_⟩;have hv:=of_decide_eq_true h3;rcases Nat.lt_trichotomy t s with h|h|h
  .have h5:=List.pairwise_iff_getElem.1 (Tc hz.p.p hz.p.v k) t s h2 hs h;unfold RcLt at h5;rw[<-getElem!_pos _ t h2,<-getElem!_pos _ s hs,hse,hv]at h5;have h6:=qm hz.p.p hz.p.v hz.p.m k.n x (List.mem_filter.1 hx).1;rw[Jp _ h6]at h5;omega
  .rw[h];exact hse
  grind
section
variable {y z:cu}{all al2:Α}{c:Δ}
theorem SA:(jR y z all al2 c).length=al2.length:=by grind [jR]
theorem Ca {i:Nat}(hi:i<al2.length):(jR y z all al2 c)[i]! =if i=0 then(0:Int)else if 0<=cz all al2[i]! /\0<=c[(cz all al2[i]!).toNat]! then gp (λq=>decide (q.r.v=(eX y all c (cz all al2[i]!).toNat).r.v)) (ei z al2[i]!) 0 else-1:=by
 grind [jR]
theorem Cb (X:y2 y z all al2 c)(h1:1<=j)(hj:j<all.length)(hc:0<=c[j]!):
  ∃i,(1<=i/\i<al2.length)/\al2[i]! =all[j]! /\(0<=(jR y z all al2 c)[i]! /\(jR y z all al2 c)[i]!.toNat<(ei z al2[i]!).length)/\eX z al2 (jR y z all al2 c) i=eX y all c j:=by
 obtain⟨hin,hof⟩:=(X.inn j hj hc).resolve_left ae;obtain⟨i,hi,hil,hie⟩:=oJ (jH hin).1;have hne:=mg X.B.ks X.B.z h1 hj;have hi0:i≠0:=λe=>by rw[e,(all_zero X.B2.ks X.B2.z).1]at hie;exact hne hie.symm
 obtain⟨t,ht,htl,hte⟩:=ae2 X.hz hof;have e:(jR y z all al2 c)[i]! =(t:Int):=by
  rw[Ca hil,ah hi0,hie,X.B.place hj,Int.toNat_natCast,ak ⟨ae,hc⟩,ht]
 grind [eX]
theorem Db (X:y2 y z all al2 c){i:Nat}(h1:1<=i)(hi:i<al2.length)(hd:0<=(jR y z all al2 c)[i]!):
  ∃j,(1<=j/\j<all.length)/\all[j]! =al2[i]! /\0<=c[j]! /\(jR y z all al2 c)[i]!.toNat<(ei z al2[i]!).length/\eX z al2 (jR y z all al2 c) i=eX y all c j:=by
 have h2:=hd;rw[Ca hi,ah ae]at h2;split at h2
 .rename_i h3;obtain⟨j,hj,hjl,hje⟩:=oJ h3.1;rw[hj,Int.toNat_natCast]at h3;have hj0:j≠0:=λe=>by rw[e,(all_zero X.B.ks X.B.z).1]at hje;exact mg X.B2.ks X.B2.z h1 hi hje.symm
  obtain⟨i2,⟨_,h5⟩,h6,h7,h8⟩:=Cb X (j:=j) ae hjl h3.2;have:=X.B2.uniq h5 hi (h6.trans hje)
  grind
 .exact absurd h2 aX
def sJ (X:y2 y z all al2 c):(jR y z all al2 c)[0]! =0:=by rw[Ca (all_zero X.B2.ks X.B2.z).2,ak rfl]
theorem xN (X:y2 y z all al2 c):dw (az z).1 (jR y z all al2 c)=true:=by
 have hq:=oe X.hz X.w2;unfold dw sF;rw[hq.val,eh,aD,aT,bw,SA,X.B2.len];refine⟨rfl,λi _ hi=>?_⟩;unfold zj;rw[aD,aT,aT];by_cases h0:i=0
 .subst h0;rw[sJ X,X.B2.root];exact⟨aX,aJ⟩
 .by_cases hd:0<=(jR y z all al2 c)[i]!
  .obtain⟨_,_,_,_,h5,_⟩:=Db X ae hi hd;rw[X.B2.ar ae hi,bj];exact⟨ae,ae⟩
  grind [Ca,ew,eX,cz,ei]
def CM {c:Δ}(B:F4 y all)(h:c[0]! =0):aW (az y).1 c 0=⟨zV,-1,dr all (eH y.l),[]⟩:=by unfold aW;rw[h,B.root];rfl
def XA (X:y2 y z all al2 c):c[0]! =0:=by
 have h2:=((pK X.hm).2 0 (by rw[X.B.len];exact(all_zero X.B.ks X.B.z).2)).2;rw[X.B.root]at h2;have h2:c[0]! <1:=h2;have:=X.c0;omega
def Zn (w:bP)(c:Δ)(u:Int)(s:cy):iy w c ⟨u,s⟩=(decide (0<=c[u.toNat]!)&&pg s (aW w c u.toNat).v):=rfl
theorem SB (X:y2 y z all al2 c){k:Key}(s:cy)(ha:k∈all)(SC:k∈al2):iy (az z).1 (jR y z all al2 c) ⟨cz al2 k,s⟩=iy (az y).1 c ⟨cz all k,s⟩:=by
 obtain⟨j,hj,hjl,hje⟩:=oJ (jH ha).1;obtain⟨i,hi,hil,hie⟩:=oJ (jH SC).1;have hmz:=xN X;rw[Zn,Zn];rw[hi,hj,Int.toNat_natCast,Int.toNat_natCast];by_cases h0:j=0
 .subst h0;rw[(all_zero X.B.ks X.B.z).1]at hje;have:i=0:=X.B2.uniq hil (all_zero X.B2.ks X.B2.z).2 (by rw[hie,<-hje,(all_zero X.B2.ks X.B2.z).1]);subst this;rw[sJ X,XA X,CM X.B (XA X),CM X.B2 (sJ X)]
 .have hi0:i≠0:=λe=>by
   rw[e,(all_zero X.B2.ks X.B2.z).1]at hie;exact mg X.B.ks X.B.z ae hjl (hje.trans hie.symm)
  by_cases hc:0<=c[j]!
  .obtain⟨i2,⟨_,h5⟩,h6,h7,h8⟩:=Cb X (j:=j) ae hjl hc;have:=X.B2.uniq h5 hil (by rw[h6,hje,hie]);subst this;rw[(fY X.B X.hm ae hjl hc).2,(fY X.B2 hmz ae hil h7.1).2,h8,aY hc,aY h7.1,eh,eh];rfl
  .have hd:¬0<=(jR y z all al2 c)[i]! :=λhd=>by
    obtain⟨j2,⟨_,h5⟩,h6,h7,_⟩:=Db X ae hil hd;have:=X.B.uniq h5 hjl (by rw[h6,hie,hje]);subst this;exact hc h7
   rw[bA hc,bA hd,Bool.false_and,Bool.false_and]
theorem aeq (X:y2 y z all al2 c){q:fS}(ha:∀a∈q,a.k∈all)(SC:∀a∈q,a.k∈al2):yL (az z).1 (jR y z all al2 c) (q.map λa=>⟨cz al2 a.k,a.s⟩)=yL (az y).1 c (q.map λa=>⟨cz all a.k,a.s⟩):=by
 unfold yL;induction q with
 |nil=>rw[List.map_nil,List.map_nil,List.any_nil,List.any_nil]
 |cons a r ih=>
  grind [SB]
def Mn (X:y2 y z all al2 c){i:Nat}(hi:i<al2.length)(hd:0<=(jR y z all al2 c)[i]!):∃j,j<all.length/\all[j]! =al2[i]! /\0<=c[j]! /\vM z al2 (jR y z all al2 c) i=vM y all c j/\(1<=i->1<=j/\eX z al2 (jR y z all al2 c) i=eX y all c j):=by
 by_cases h0:i=0
 .subst h0;refine⟨0,(all_zero X.B.ks X.B.z).2,by rw[(all_zero X.B.ks X.B.z).1,(all_zero X.B2.ks X.B2.z).1],X.c0, ?_,λh=>absurd h ae⟩;unfold vM;rw[ak rfl,ak rfl,X.G.l]
 .obtain⟨j,⟨h1,h2⟩,h3,h4,_,h6⟩:=Db X ae hi hd;refine⟨j,h2,h3,h4, ?_,λ_=>⟨h1,h6⟩⟩;unfold vM;rw[ah h0,ah ae,h6,h3,X.G.e]
def U3 (X:y2 y z all al2 c):iX (az z).1 (jR y z all al2 c)=[]:=by
 have hmz:=xN X;rw[uc hmz];intro u hu hd;rw[SA]at hu;obtain⟨j,hjl,hje,hc,hr,hrec⟩:=Mn X hu hd;obtain⟨n1,a1⟩:=su X.B X.hm hjl hc;obtain⟨n2,a2⟩:=su X.B2 hmz hu hd;obtain⟨w1,w2⟩:=(uc X.hm).1 X.hh j (by rw[(pK X.hm).1,X.B.len];exact hjl) hc;refine⟨λk hk=>?_,λk hk=>?_⟩
 .rw[n2]at hk⊢;rw[n1]at w1;rw[hr]at hk⊢a2;unfold dr at hk w1⊢;rw[bj]at hk w1;have:=w1 k hk;rw[eu hk]at this⊢;rw[aeq X (a1 _ (aq hk)) (a2 _ (aq hk))];exact this
 .by_cases h0:u=0
  .subst h0;rw[CM X.B2 (sJ X)]at hk;exact absurd hk aJ
  obtain⟨hj1,hre⟩:=hrec ae;have e2:=(fY X.B2 hmz ae hu hd).2;have e1:=(fY X.B X.hm hj1 hjl hc).2;have hmem:=aq hk;rw[e2,hre]at hmem;rw[e2,hre];have hmem:(cS z al2 al2[u]! (eX y all c j)).bars[k]! ∈(if al2[u]!.f=[]then si al2 (eX y all c j).r z.e else []):=hmem;split at hmem
  .rename_i hf;obtain⟨b,hb,hbm⟩:=List.mem_flatMap.1 hmem;unfold pJ at hbm;split at hbm
   .rename_i hon;rw[aF.1 hbm];cases hmet:iy (az z).1 (jR y z all al2 c) ⟨cz al2 ⟨b.name,[]⟩,eY b.range⟩with
    |false=>rfl
    |true=>
     exfalso;obtain⟨i2,hi2,hi2l,hi2e⟩:=oJ hon.1;have hk2:(⟨b.name,[]⟩:Key)∈al2:=by rw[<-hi2e];exact aq hi2l
     have hk1:(⟨b.name,[]⟩:Key)∈all:=by
      have hd2:=hmet;simp only[iy,aD,aT]at hd2;have hd2:=hd2.1;rw[hi2,Int.toNat_natCast]at hd2;obtain⟨j2,h5,h6,_⟩:=Mn X hi2l hd2;rw[<-hi2e,<-h6];exact aq h5
     rw[SB X _ hk1 hk2]at hmet;have hin:(⟨cz all ⟨b.name,[]⟩,eY b.range⟩:Want)∈(aW (az y).1 c j).bars:=by
      rw[e1];show _∈(if all[j]!.f=[]then si all (eX y all c j).r y.e else []);rw[hje,ak hf];refine List.mem_flatMap.2 ⟨b,hb, ?_⟩;unfold pJ;rw[ak ⟨(jH hk1).1,by rw[<-X.G.e];exact hon.2⟩];exact aF.2 rfl
     obtain⟨t,ht,hte⟩:=ff hin;have:=w2 t ht;rw[hte,hmet]at this;cases this
   .cases hbm
  .cases hmem
end
theorem abF {α:Type}{R:α->α->Prop}(hn:∀a b,R a b->R b a->False):∀{a b:List α},a.Pairwise R->b.Pairwise R->(∀x,x∈a↔x∈b)->a=b
 |[],[],_,_,_=>rfl
 |[],y::b,_,_,h=>by have:=(h y).2 (.head _);cases this
 |x::a,[],_,_,h=>by have:=(h x).1 (.head _);cases this
 |x::a,y::b,ha,hb,h=>by
  obtain⟨H0,SC⟩:=List.pairwise_cons.1 ha;obtain⟨hb1,pw⟩:=List.pairwise_cons.1 hb;have e:x=y:=by
   rcases bH.1 ((h x).1 (.head _))with e|h1
   .exact e
   rcases bH.1 ((h y).2 (.head _))with e|h2
   .exact e.symm
   exact(hn _ _ (H0 y h2) (hb1 x h1)).elim
  subst e;refine ay (x::·) (abF hn SC pw λq=>⟨λhq=>?_,λhq=>?_⟩)
  .grind
  grind
theorem SM {a b:aw}(h1:Op.bytesLess a b=true)(h2:Op.bytesLess b a=true):False:=by
 grind [tN,jY]
theorem afd {a b:ω}(hl:a.length<=b.length)(h:∀i,i<a.length->b[i]!.r=a[i]!.r){nm:aw}{v:b6}(hp:qt a nm v 0=(n:Int)):qt b nm v 0=(n:Int):=by
 obtain⟨h1,h2,h3⟩:=alE hp;have hE:∀i,i<a.length->BA nm v b[i]! =BA nm v a[i]! :=λi hi=>by unfold BA;rw[h i hi]
 unfold qt;rw[dN];have hf:b.findIdx? (BA nm v)=some n:=by
  rw[List.findIdx?_eq_some_iff_getElem]
  grind
 rw[hf];simp
section
variable {y z:cu}{all al2:Α}{c:Δ}
def U1 (X:y2 y z all al2 c)(nm:aw):fI (az z).1.us (jR y z all al2 c) nm (az z).1.us.length=fI (az y).1.us c nm (az y).1.us.length:=by
 have q1:=oe X.hz X.w2;have q2:=X.hm;unfold dw at q2;rw[aD]at q2;refine abF (R:=λa b=>Op.bytesLess a b=true) (λa b=>SM) (xE q1.val _ (aR _)) (xE q2.1 _ (aR _)) λf=>?_
 rw[lN,lN,X.B.len,X.B2.len];constructor
 .rintro⟨i,⟨hi0,hi⟩,⟨h1,h2,h3⟩,hd⟩;obtain⟨j,hj,hje,hc,_⟩:=Db X ae hi hd;rw[X.B2.at hi]at h1 h2;refine⟨j,⟨ae,hj.2⟩, ?_,hc⟩;rw[X.B.at hj.2];exact⟨by rw[<-h1];show all[j]!.n=al2[i]!.n;rw[hje],by rw[<-h2];show all[j]!.f=al2[i]!.f;rw[hje],h3⟩
 .rintro⟨j,⟨hj0,hj⟩,⟨h1,h2,h3⟩,hc⟩;obtain⟨i,hi,hie,hd,_⟩:=Cb X ae hj hc;rw[X.B.at hj]at h1 h2;refine⟨i,⟨ae,hi.2⟩, ?_,hd.1⟩;rw[X.B2.at hi.2];exact⟨by rw[<-h1];show al2[i]!.n=all[j]!.n;rw[hie],by rw[<-h2];show al2[i]!.f=all[j]!.f;rw[hie],h3⟩
def Mm (X:y2 y z all al2 c){i:Nat}(hi:1<=i/\i<al2.length)(hj:1<=j/\j<all.length)(e:al2[i]! =all[j]!)(hd:0<=(jR y z all al2 c)[i]!)(hc:0<=c[j]!)(hr:eX z al2 (jR y z all al2 c) i=eX y all c j)(h:(dq y.shop (az y).1.us c j (ec (az y).1.us c j)).2=0):dq z.shop (az z).1.us (jR y z all al2 c) i (ec (az z).1.us (jR y z all al2 c) i)=dq y.shop (az y).1.us c j (ec (az y).1.us c j):=by
 have e1:ec (az y).1.us c j=cS y all all[j]! (eX y all c j):=(fY X.B X.hm hj.1 hj.2 hc).2;have e2:ec (az z).1.us (jR y z all al2 c) i=cS z al2 al2[i]! (eX z al2 (jR y z all al2 c) i):=(fY X.B2 (xN X) hi.1 hi.2 hd).2;have n1:(az y).1.us[j]!.name=all[j]!.n:=by rw[X.B.at hj.2];rfl
 have n2:(az z).1.us[i]!.name=all[j]!.n:=by rw[X.B2.at hi.2,e];rfl
 have f2:kC (az z).1.us (jR y z all al2 c) i=kC (az y).1.us c j:=by unfold kC;rw[n1,n2];exact U1 X _
 rw[e1]at h⊢;rw[e2,hr];have s1:(cS y all all[j]! (eX y all c j)).sh=(eX y all c j).sh:=rfl;have s2:(cS z al2 al2[i]! (eX y all c j)).sh=(eX y all c j).sh:=rfl;have v1:(cS y all all[j]! (eX y all c j)).v=(eX y all c j).r.v:=rfl;have v2:(cS z al2 al2[i]! (eX y all c j)).v=(eX y all c j).r.v:=rfl;unfold dq at h⊢;rw[s1,v1]at h;rw[s1,s2,v1,v2,n1,n2,f2];rw[n1]at h;by_cases h1:(eX y all c j).sh=-1
 .rw[ak h1,ak h1]
 rw[ah h1]at h;by_cases h2:(eX y all c j).sh<0\/(y.shop.length:Int)<=(eX y all c j).sh
 .rw[ak h2]at h;cases h
 rw[ah h2]at h;by_cases h3:iA y.shop[(eX y all c j).sh.toNat]! all[j]!.n (eX y all c j).r.v<0
 .rw[ak h3]at h;cases h
 obtain⟨gl,gs⟩:=X.G.g;obtain⟨g1,g2,g3⟩:=gs (eX y all c j).sh.toNat ae;have hzB:=tZ X.G.s (show(eX y all c j).sh.toNat<z.shop.length by omega);obtain⟨n,hn,hnl⟩:=(tH (s:=y.shop[(eX y all c j).sh.toNat]!) (nm:=all[j]!.n) (v:=(eX y all c j).r.v)).resolve_left ae;have hn2:iA z.shop[(eX y all c j).sh.toNat]! all[j]!.n (eX y all c j).r.v=(n:Int):=by
  unfold iA at hn⊢;rw[ah (by rw[hzB];simp)];split at hn
  .omega
  .exact afd g2 (λi hi=>(g3 i hi).1) hn
 rw[ah h1,ah (by rw[gl];exact h2),ah ae,ah h1,ah h2,ah h3,hn,hn2,Int.toNat_natCast,g1,(g3 n hnl).2]
theorem Y5 {shop:Β}{w:bP}(hq:eK w=true)(h:(dQ shop w c).2=0):(linK shop w.us c (MO w.us c)).Pairwise λa b=>Op.bytesLess a.name b.name=true:=by
 obtain⟨_,e2⟩:=lQ w.us.length h;unfold linK;rw[List.pairwise_map];refine List.Pairwise.imp_of_mem ?_ (Zi w.us c);intro a b ha hb hab;obtain⟨H0,SC⟩:=lR.1 ha;obtain⟨hb1,pw⟩:=lR.1 hb;rw[(iI (e2 a H0 SC)).1,(iI (e2 b hb1 pw)).1];simp only[fu,eg,bR,cF,aT]at SC pw;have h2:=qB hq (i:=a) ae hab hb1
 grind [jh,jY]
def Yw (X:y2 y z all al2 c)(h:(dQ y.shop (az y).1 c).2=0):dQ z.shop (az z).1 (jR y z all al2 c)=dQ y.shop (az y).1 c:=by
 have hmz:=xN X;have hz2:(dQ z.shop (az z).1 (jR y z all al2 c)).2=0:=MF _ λu hu hsk=>Vn X.hz X.w2 hmz hu hsk
 have q1:=(oe X.hz X.w2).val;have q2:=X.hm;unfold dw at q2;rw[aD]at q2;obtain⟨_,e2⟩:=lQ (az y).1.us.length h;refine Prod.ext ?_ (hz2.trans h.symm);rw[Dx hz2,Dx h];refine abF (R:=λa b:dI=>Op.bytesLess a.name b.name=true) (λa b=>SM) (Y5 q1 hz2) (Y5 q2.1 h) λx=>?_
 unfold linK;rw[bI,bI];have hsk:∀{u:Nat} {us:Η} {d:Δ},fu us d u=false↔(1<=u/\0<=d[u]!)/\us[u]!.feat=[]:=by
  intro u us d;simp only[fu,eg,bR,cF,aT];exact⟨λh=>⟨⟨ae,ae⟩,h.2⟩,λh=>⟨⟨ae,ae⟩,h.2⟩⟩
 constructor
 .rintro⟨i,hi,rfl⟩;obtain⟨hi1,hi2⟩:=lR.1 hi;obtain⟨⟨h1,h2⟩,h3⟩:=hsk.1 hi2;rw[X.B2.len]at hi1;obtain⟨j,hj,hje,hc,_,hr⟩:=Db X h1 hi1 h2;have hjm:fu (az y).1.us c j=false:=hsk.2 ⟨⟨hj.1,hc⟩,by
   rw[X.B.at hj.2];rw[X.B2.at hi1]at h3;show all[j]!.f=[];rw[hje];exact h3⟩
  have hjl:j<(az y).1.us.length:=by rw[X.B.len];exact hj.2
  exact⟨j,lR.2 ⟨hjl,hjm⟩,by rw[Mm X ⟨h1,hi1⟩ hj hje.symm h2 hc hr (e2 j hjl hjm)]⟩
 .rintro⟨j,hj,rfl⟩;obtain⟨hj1,hj2⟩:=lR.1 hj;obtain⟨⟨h1,h2⟩,h3⟩:=hsk.1 hj2;have hjl:=hj1;rw[X.B.len]at hj1;obtain⟨i,hi,hie,hd,hr⟩:=Cb X h1 hj1 h2;refine⟨i,lR.2 ⟨by rw[X.B2.len];exact hi.2,hsk.2 ⟨⟨hi.1,hd.1⟩, ?_⟩⟩,by rw[Mm X hi ⟨h1,hj1⟩ hie hd.1 h2 hr (e2 j hjl hj2)]⟩;rw[X.B2.at hi.2];rw[X.B.at hj1]at h3;show al2[i]!.f=[];rw[hie];exact h3
end
section
variable {m:gI}{shop more:Β}{e:Env}{os:Δ}
def Ot (hy:nD (ve m shop e))(h:(cM m shop e os).2.2=true):∃c0,dw (cM m shop e os).1 c0=true/\(cM m shop e os).2.1=ir (cM m shop e os).1 c0:=by
 by_cases h0:(dt m shop e).2≠0\/5000<wC (dt m shop e).1.us
 .rw[tf h0]at h;cases h
 .have h1:(dt m shop e).2=0/\¬5000<wC (dt m shop e).1.us:=⟨Classical.not_not.1 λh2=>h0 (.inl h2),λh2=>h0 (.inr h2)⟩;cases hf:jA (dt m shop e).1.us (iq (dt m shop e).1.us os)with
  |none=>rw[tg h1 hf]at h;cases h
  |some c=>
   obtain⟨hb,hw⟩:=oc hy.p h1.1;have hc:=kJ hb.msk (nY os) _ _ (qp _) hf;have hs16:∀x∈(dt m shop e).1.us,x.ar.length<=16:=λx hx=>(hb.u x hx).1
   obtain⟨⟨g1,_⟩,_⟩:=wc hw hs16 (HP hc.2) hc.1;rw[th h1 hf];exact⟨c,g1,rfl⟩
def vN (a b:Β)(pins:π)(x:dI):Bool:=decide (x.shelf=[]) ||(decide ((dy a pins x.name).2=0)&&decide ((dy b pins x.name).2=0)&&decide ((dy a pins x.name).1=(dy b pins x.name).1))
def Ez (a b:Β)(pins:π)(l:Laa):Bool:=l.all (vN a b pins)
theorem Ze {y:cu}{nm:aw}{x x2:qM}(hx:x∈dc y nm)(hx2:x2∈dc y nm)(h:x2.sh=-1):x.sh=-1:=by
 grind [dc,oA,cA]
theorem PC {y z:cu}{c c0:Δ}(hy:nD y)(hz:nD z)(hw:(az y).2=true)(w2:(az z).2=true)(hzl:z.l=y.l)(hze:z.e=y.e)(hzp:z.pins=y.pins)(hG:W2 y.shop z.shop)(hmB:ea z.shop=true)(hsB:ea y.shop=true)(heB:mw y.e=true)(hq:CD (az y).1)(hm0:dw (az y).1 c0=true)(hct:c=ir (az y).1 c0)(hm:dw (az y).1 c=true)(hh:iX (az y).1 c=[])(hc0:0<=c[0]!)(hlin:(dQ y.shop (az y).1 c).2=0)(hkeeps:z.keeps=eU (dQ y.shop (az y).1 c).1)(hs:Ez y.shop z.shop y.pins (dQ y.shop (az y).1 c).1=true):
  ∃d,(je z.shop y.e (az z).1 ⟨y.e,(dQ y.shop (az y).1 c).1⟩=(d,0,[])/\xu z.shop y.e (az z).1 ⟨y.e,(dQ y.shop (az y).1 c).1⟩=(0,[]))/\
   (dw (az z).1 d=true/\iX (az z).1 d=[])/\0<=d[0]! /\BE z.shop y.e (az z).1 d=(⟨y.e,(dQ y.shop (az y).1 c).1⟩,0):=by
 obtain⟨all,B⟩:=Xs hy hw;obtain⟨al2,B2⟩:=Xs hz w2;have hin2:=lQ (az y).1.us.length hlin;have G:Grw y z all c:=by
  refine⟨hzl,hze,hzp,hG,hmB,λi h1 hi hc=>?_⟩;obtain⟨r1,r2⟩:=fY B hm h1 hi hc;have hof:=aq r1;have hlk:=(List.mem_filter.1 (show eX y all c i∈(dc y all[i]!.n).filter (Tb all[i]!.f)from hof)).1;by_cases hsh:(eX y all c i).sh=-1
  .exact .inl hsh
  refine .inr ?_;have hrn:=(sN hy.p all[i]!.n _ hlk).1;have hrv:=qm hy.p.p hy.p.v hy.p.m all[i]!.n _ hlk;have hnm:(az y).1.us[i]!.name=all[i]!.n:=by rw[B.at hi];rfl

  have hmain:∃j,(1<=j/\j<all.length)/\(all[j]!.n=all[i]!.n/\all[j]!.f=[])/\0<=c[j]! /\(eX y all c j).r.v=(eX y all c i).r.v:=by
   by_cases hf:all[i]!.f=[]
   .exact⟨i,⟨h1,hi⟩,⟨rfl,hf⟩,hc,rfl⟩
   .obtain⟨j,hj,⟨hjn,hjf⟩,hjc,hjv⟩:=Ij hq hm hh h1 (by rw[B.len];exact hi) (by rw[B.at hi];exact hf) hc;rw[B.len]at hj;rw[B.at hj.2]at hjn hjf;rw[hnm]at hjn;have e1:ec (az y).1.us c i=_:=r2;have e2:ec (az y).1.us c j=_:=(fY B hm hj.1 hj.2 hjc).2;rw[e1,e2]at hjv;exact⟨j,hj,⟨hjn,hjf⟩,hjc,hjv⟩
  obtain⟨j,hj,⟨hjn,hjf⟩,hjc,hjv⟩:=hmain;obtain⟨s1,s2⟩:=fY B hm hj.1 hj.2 hjc;have hlk2:=(List.mem_filter.1 (show eX y all c j∈(dc y all[j]!.n).filter (Tb all[j]!.f)from aq s1)).1;rw[hjn]at hlk2;have hsk:fu (az y).1.us c j=false:=Co hj.1 hjc (by rw[B.at hj.2];exact hjf);have hjl:j<(az y).1.us.length:=by rw[B.len];exact hj.2
  have hline:=hin2.2 j hjl hsk;have hmem:(dq y.shop (az y).1.us c j (ec (az y).1.us c j)).1∈(dQ y.shop (az y).1 c).1:=by
   rw[Dx hlin];exact bI.2 ⟨j,lR.2 ⟨hjl,hsk⟩,rfl⟩
  obtain⟨q1,q2,_⟩:=iI hline;have e2:ec (az y).1.us c j=cS y all all[j]! (eX y all c j):=s2;have hshj:¬(eX y all c j).sh=-1:=λh2=>hsh (Ze hlk hlk2 h2)
  have hshp:0<=(eX y all c j).sh:=by
   rcases(sN hy.p _ _ hlk2).2 with h2|⟨k,_,h2,_⟩
   .exact absurd h2 hshj
   .omega
  have hne:(dq y.shop (az y).1.us c j (ec (az y).1.us c j)).1.shelf≠[]:=by
   have h3:=PT hsB hline;rw[show decide (0<=(ec (az y).1.us c j).sh)=true by rw[e2];exact aY hshp]at h3;exact of_decide_eq_true h3
  have hlname:(dq y.shop (az y).1.us c j (ec (az y).1.us c j)).1.name=all[i]!.n:=by rw[q1,B.at hj.2];exact hjn
  have hlv:(dq y.shop (az y).1.us c j (ec (az y).1.us c j)).1.v=(eX y all c i).r.v:=by rw[q2,e2];exact hjv
  refine⟨?_, ?_⟩
  .rw[hkeeps];unfold AE;rw[List.any_eq_true];refine⟨⟨all[i]!.n,(eX y all c i).r.v⟩, ?_, ?_⟩
   .refine bI.2 ⟨_,List.mem_filter.2 ⟨hmem,aY hne⟩, ?_⟩;rw[hlname,hlv]
   .rw[aY hrn.symm,alf _ hrv];rfl
  .have h3:=hs;unfold Ez at h3;rw[List.all_eq_true]at h3;have h4:=h3 _ hmem;unfold vN at h4;rw[bA hne,Bool.false_or,aD,aD,aT,aT,aT,hlname]at h4;exact Prod.ext h4.2.symm (h4.1.2.trans h4.1.1.symm)
 have X:y2 y z all al2 c:=by
  refine⟨B,B2,hy,hz,w2,hm,hh,hc0,G, ?_⟩;subst hct;exact aki B B2 (O5 hq.val) hm0 G
 have hmz:=xN X;have hhz:=U3 X;have hlz:=Yw X hlin;have hz0:=sJ X;have q:=oe hz w2;generalize jR y z all al2 c=d at hmz hhz hlz hz0;have hof:BE z.shop y.e (az z).1 d=(⟨y.e,(dQ y.shop (az y).1 c).1⟩,0):=by
  unfold BE;rw[ah (by rw[q.val,hmB,heB,hmz];simp),ah (by rw[hhz];simp),hlz,ah (λh2=>h2 hlin)]
 obtain⟨k1,k2⟩:=XG q (Gd hz w2) (by rw[hz0];exact Int.le_refl _) (by rw[hof]);rw[hof]at k1 k2;exact⟨d,⟨k1,k2⟩,⟨hmz,hhz⟩,by rw[hz0];exact Int.le_refl _,hof⟩
theorem Sa {l:φ}{ks:List Kp}(h:(dK l more e ks).2=0):(ea more=true/\mw e=true)/\(az ⟨l,more,e,ks,fm l⟩).2=true/\dK l more e ks=((az ⟨l,more,e,ks,fm l⟩).1,0):=by
 grind [dK]
theorem U0 (hy:nD (ve m shop e))(h:(cM m shop e os).2.2=true)(hmo:Hz more)(hms:fq more)(hG:W2 shop more){l:j8}(hl:BE shop e (cM m shop e os).1 (cM m shop e os).2.1=(l,0))(hL:Up 48 l)(hs:Ez shop more (fm [m]) l.lines=true)(hb:(dK [m] more e (eU l.lines)).2=0):
  ∃d,(je more e (dK [m] more e (eU l.lines)).1 l=(d,0,[])/\xu more e (dK [m] more e (eU l.lines)).1 l=(0,[]))/\
   (dw (dK [m] more e (eU l.lines)).1 d=true/\iX (dK [m] more e (eU l.lines)).1 d=[])/\0<=d[0]! /\BE more e (dK [m] more e (eU l.lines)).1 d=(l,0):=by
 obtain⟨c0,hm0,hct⟩:=Ot hy h;obtain⟨⟨hsB,heB⟩,hw,hwe⟩:=Ra hy h;obtain⟨hq,hn,hm,hh⟩:=Oq hy h;obtain⟨_,hc0⟩:=G5 hy h;obtain⟨_,_,_,hlin,hle⟩:=ZE (ay Prod.snd hl);have hle:l=⟨e,(dQ shop (cM m shop e os).1 (cM m shop e os).2.1).1⟩:=(ay Prod.fst hl).symm.trans hle;generalize (cM m shop e os).2.1=c at hct hm hh hc0 hlin hle;rw[hwe]at hm0 hct hq hm hh hlin hle;obtain⟨⟨hmB,_⟩,w2,hx⟩:=Sa hb;have hK:∀k∈eU l.lines,k.v.sm:=λk hk=>by
  obtain⟨x,hx,rfl⟩:=bI.1 hk;exact(hL.lines x (List.mem_filter.1 hx).1).v
 have hKl:(eU l.lines).length<=1000:=by
  have h1:=hL.len;have h2:=List.length_filter_le (λx:dI=>decide (x.shelf≠[])) l.lines;unfold eU;rw[bj];omega
 have hz:nD ⟨[m],more,e,eU l.lines,fm [m]⟩:=⟨⟨⟨⟨hy.p.p.1.1,hms⟩,hKl,hK,hy.p.p.2.2.2⟩,C9 hmo,hy.p.m⟩,hmo,hy.gm⟩
 grind [eU,fm,dQ,az,PC]
end
def UY (g:Gs)(shop:Β):Nat->Β×Gs
 |0=>(shop,g)
 |i+1=>lD (UY g shop i).2 (UY g shop i).1
def Yu (shop:Β)(ks:Δ)(n:Nat):Β:=(UY ⟨ks,0⟩ shop n).1
theorem PA (g:Gs){shop:Β}(h:fq shop)(h2:shop.length=2):∀i:Nat,(o8 (34*i) g (UY g shop i).2/\(UY g shop i).1.length=2)/\fq (UY g shop i).1
 |0=>⟨⟨by simp[o8,UY],h2⟩,h⟩
 |i+1=>by
  obtain⟨h1,h4⟩:=PA g h h2 i
  grind [aaf,UY,Tm,aae,o8]
def Sz {g:Gs}{shop:Β}(h:Hz shop):∀i:Nat,Hz (UY g shop i).1
 |0=>h
 |i+1=>ag2 (Sz h i) λh nm v hv _=>IU h nm hv 2
def sI (a b:bz):Bool:=(((gA a&&gA b)&&decide (a.name=b.name))&&decide (a.es.length<=b.es.length))&&bK (λi=>decide (a.es[i]!.sum=b.es[i]!.sum)&&decide (a.es[i]!.r=b.es[i]!.r)) 0 a.es.length
theorem Yt {a b:bz}(h:sI a b=true):GrwS a b:=by
 simp only[sI,aD,aT,bw]at h;exact⟨h.1.1.2.symm,h.1.2,λi hi=>⟨(h.2 i (Nat.zero_le _) hi).2.symm,(h.2 i (Nat.zero_le _) hi).1.symm⟩⟩
theorem aep {a:Β}(ha:a.length=2)(hb:b.length=2)(h0:sI a[0]! b[0]! =true)(h1:sI a[1]! b[1]! =true):W2 a b:=by
 refine⟨ae,λj hj=>?_⟩
 grind [Yt]
theorem afC {a:Β}{x:dI}(h:x.shelf=[]):vN a b ps x=true:=by grind [vN]
theorem afB {a:Β}{x:dI}(h:((dy a ps x.name).2=0/\(dy b ps x.name).2=0)/\(dy a ps x.name).1=(dy b ps x.name).1):vN a b ps x=true:=by grind [vN]
theorem afA {a:Β}{x:dI}(h1:¬x.shelf=[])(h:(¬(dy a ps x.name).2=0\/¬(dy b ps x.name).2=0)\/¬(dy a ps x.name).1=(dy b ps x.name).1):vN a b ps x=false:=by grind [vN]
theorem Wd {a:Β}{l:Laa}:Ez a b ps l=bK (λi=>vN a b ps l[i]!) 0 l.length:=by
 grind [bw,Ez,aq,ff]
section
variable {m:gI}{shop more:Β}{e:Env}{l:j8}
theorem aeo (hy:nD (ve m shop e))(hmo:Hz more)(hms:fq more)(hL:Up 48 l):nD (tq [m] more e (eU l.lines)):=by
 have hK:∀k∈eU l.lines,k.v.sm:=λk hk=>by
  obtain⟨x,hx,rfl⟩:=bI.1 hk;exact(hL.lines x (List.mem_filter.1 hx).1).v
 have hKl:(eU l.lines).length<=1000:=by
  have h1:=hL.len
  grind [eU]
 exact⟨⟨⟨⟨hy.p.p.1.1,hms⟩,hKl,hK,hy.p.p.2.2.2⟩,C9 hmo,hy.p.m⟩,hmo,hy.gm⟩
def Yv {ks:List Kp}(hz:nD (tq [m] more e ks))(h:(dK [m] more e ks).2=0):(dK [m] more e ks).1.sm:=by
 obtain⟨_,w2,hx⟩:=Sa h;rw[hx];obtain⟨_,_,_,_,hB⟩:=mO hz.p.p w2;exact hB.sm
end
def afv (g:Gs)(nm:aw)(v:b6):o8 60 g (pR g nm v 3).2:=by
 have r:=(g.TS (3+1)).1 ae;have h1:=x5 nm g.aU (g.val (3+1)).toNat;have h2:=HH (nS nm g.aU (g.val (3+1)).toNat).2 nm;have h3:=HU (eP (nS nm g.aU (g.val (3+1)).toNat).2 nm).2 (nS nm g.aU (g.val (3+1)).toNat).1;show o8 60 g (lG (eP (nS nm g.aU (g.val (3+1)).toNat).2 nm).2 (nS nm g.aU (g.val (3+1)).toNat).1).2;rw[h1.2]at h3;have h4:=h1.1;unfold o8 at*
 simp only[Gs.ZD]at*
 omega
section
variable {g:Gs}
def alD (h:g.val 4=0):ko g=([⟨cI[(g.aU.val 4).toNat]!,EF⟩],g.aU.aU):=ak h
def alC (h:¬g.val 4=0):ko g=([],g.aU):=ah h
def aeu (h:g.val 4=0):De g=([⟨cI[(g.aU.val 4).toNat]!,kr[(g.aU.aU.val 8).toNat]!⟩],g.aU.aU.aU):=ak h
def aet (h:¬g.val 4=0):De g=([],g.aU):=ah h
def afc (g:Gs):o8 2 g (ko g).2:=by unfold ko o8;split<;>simp only[Gs.aU]<;>omega
end
def J0:=∀(l:φ) (nm:aw),T [.sl 11 (l.map gI.D),.str nm] (.int .i64 (k8 l nm))
def C356:Prop:=J0 (aH Z 356)
def JW:=∀(l:π),T [.sl 2 (l.map gY.D)] (.tup [.int .i64 (DS l).1,.int .i64 (DS l).2])
def C344:Prop:=JW (aH Z 344)
def JX:=∀(l:List kP),(∀x∈l,kI x.range)->T [.sl 2 (l.map kP.D)] (.tup [.int .i64 (Df l).1,.int .i64 (Df l).2])
def C345:Prop:=JX (aH Z 345)
def Jz:=∀(m:gI),(Zl m)->T [gI.D m] (.tup [.int .i64 (kR m).1,.int .i64 (kR m).2])
def C136:Prop:=Jz (aH Z 136)
def Rt:=∀(ks:Δ),T [.sl 1 (ks.map (D.int .i64))] (.sl 11 ([qE ks].map gI.D))
def C28:Prop:=Rt (aH Z 28)
def J7:=∀(c:Δ) (x:ek),(LL c x)->T [.sl 1 (c.map (D.int .i64)),ek.D x] (.bool (DH c x))
def C416:Prop:=J7 (aH Z 416)
def JF:=∀(c:Δ) (l:ρ),(∀x∈l,LL c x)->T [.sl 1 (c.map (D.int .i64)),.sl 2 (l.map ek.D)] (.bool (kF c l))
def C184:Prop:=JF (aH Z 184)
def K2:=∀(al:Δ) (u:Int) (p:Int),(al=[])->T [.sl 1 (al.map (D.int .i64)),.int .i64 u,.int .i64 p] (.bool true)
def C829:Prop:=K2 (aH Z 829)
def KL:=∀(m:kB) (al:Δ) (c:Δ),((xa m/\LB m c)/\al=[])->T [kB.D m,.sl 1 (al.map (D.int .i64)),.sl 1 (c.map (D.int .i64))] (.bool (y7 m c))
def C692:Prop:=KL (aH Z 692)
def K3:=∀(od:Ο) (u:Int) (n:Nat),(((0<=u/\u<=1000)/\n<=16)/\(cU od u).length<=16)->T [.sl 1 (od.map jW),.int .i64 u,.int .i64 ((n:Nat):Int)] (.sl 1 ((cK (cU od u) n n).map (D.int .i64)))
def C830:Prop:=K3 (aH Z 830)
def K4:=∀(l:ρ) (o:ek),T [.sl 2 (l.map ek.D),ek.D o] (.bool (offB l o))
def C831:Prop:=K4 (aH Z 831)
def KM:=∀(m:kB) (al:Δ) (c:Δ),((xa m/\LB m c)/\al=[])->T [kB.D m,.sl 1 (al.map (D.int .i64)),.sl 1 (c.map (D.int .i64))] (.tup [.int .i64 (ey m c).1,.int .i64 (ey m c).2])
def C693:Prop:=KM (aH Z 693)
def KN:=∀(m:kB) (al:Δ) (od:Ο) (c:Δ),((xa m/\LB m c)/\al=[]/\y3 m od)->T [kB.D m,.sl 1 (al.map (D.int .i64)),.sl 1 (od.map jW),.sl 1 (c.map (D.int .i64))] (.sl 2 ((eA m od c).map ek.D))
def C694:Prop:=KN (aH Z 694)
def Ue:=∀(m:kB) (od:Ο) (c:Δ),((xa m/\LB m c)/\y3 m od)->T [kB.D m,Ask.D ⟨[],od⟩,.sl 1 (c.map (D.int .i64))] (Qa (mM m od c))
def C505:Prop:=Ue (aH Z 505)
def ago (Y:Ctx)(u:Nat):=∀(m:kB) (od:Ο) (c:Δ),((xa m/\LB m c)/\y3 m od)->FN c<u->Y.pre 505 [kB.D m,Ask.D ⟨[],od⟩,.sl 1 (c.map (D.int .i64))]/\Y.val 505 [kB.D m,Ask.D ⟨[],od⟩,.sl 1 (c.map (D.int .i64))]=Qa (mM m od c)
def JE:=∀(w:bP) (l:θ),(w.sm/\(∀x∈l,x.sm)/\l.length<=1000)->T [bP.D w,.sl 3 (l.map Want.D)] (.sl 2 ((eN w.us l).map ek.D))
def C183:Prop:=JE (aH Z 183)
def Rv:=∀(w:bP),((w.sm/\w.us.length<=1000)/\Few w.us)->T [bP.D w] ((dG w.us).D)
def C46:Prop:=Rv (aH Z 46)
def JP:=∀(w:bP) (od:Ο),((((w.sm/\w.us.length<=1000)/\Few w.us)/\eK w=true)/\y3 (dG w.us) od)->T [bP.D w,Ask.D ⟨[],od⟩] (Qa (jA w.us od))
def C267:Prop:=JP (aH Z 267)
def JQ:=∀(w:bP) (l:Δ),(w.sm/\w.us.length<=1000)->T [bP.D w,.sl 1 (l.map (D.int .i64))] (.sl 1 ((iq w.us l).map jW))
def C268:Prop:=JQ (aH Z 268)
def Jx:=∀(w:bP),(w.sm)->T [bP.D w] (.int .i64 ((wC w.us:Nat):Int))
def C114:Prop:=Jx (aH Z 114)
def Ky:=∀(l:π) (p:gY),(l.length<=10000)->T [.sl 2 (l.map gY.D),gY.D p] (.tup [.sl 2 ((lX l p).1.map gY.D),.bool (lX l p).2])
def C581:Prop:=Ky (aH Z 581)
def JA:=∀(l:φ),(xc l)->T [.sl 11 (l.map gI.D)] (.tup [.int .i64 0,.int .i64 0])
def WI:Prop:=JA (aH Z 143)
def Fc:=∀(l:φ) (nm:aw),(xc l)->T [.sl 11 (l.map gI.D),.str nm] (.int .i64 (k8 l nm))
def af9:Prop:=Fc (aH Z 1012)
def Fl:=∀(s:bz) (nm:aw),T [bz.D s,.str nm] (.bool (Dc nm s))
def agk:Prop:=Fl (aH Z 1121)
def C361:Prop:=ux (aH Z 361)
def Fk:=∀(l:π),T [.sl 2 (l.map gY.D)] (.bool (AO l))
def agj:Prop:=Fk (aH Z 1120)
def Fi:=∀(shop:Β) (ps:π) (nm:aw),(fq shop)->T [.sl 2 (shop.map bz.D),.sl 2 (ps.map gY.D),.str nm] (.tup [.int .i64 (dy shop ps nm).1,.int .i64 (dy shop ps nm).2])
def WH:Prop:=Fi (aH Z 1083)
def Fj:=∀(s:bz) (nm:aw),(∀x∈s.es,gM x.r)->T [bz.D s,.str nm] (.sl 1 ((jk s nm).map (D.int .i64)))
def agh:Prop:=Fj (aH Z 1084)
def Fe:=∀(shop:Β) (ps:π) (nm:aw),(fq shop)->T [.sl 2 (shop.map bz.D),.sl 2 (ps.map gY.D),.str nm] (.tup [.int .i64 (cA shop ps nm).1,.sl 1 ((cA shop ps nm).2.1.map (D.int .i64)),.int .i64 (cA shop ps nm).2.2])
def aga:Prop:=Fe (aH Z 1013)
def Ff:=∀(l:φ) (nm:aw),(xc l)->T [.sl 11 (l.map gI.D),.str nm] (.tup [cy.D (kW l nm),.int .i64 0])
def agb:Prop:=Ff (aH Z 1014)
def Fg:=∀(y:cu) (ns:Ψ) (r:Rec),((∀k∈y.keeps,k.v.sm)/\r.v.sm)->T [cu.D y (fdR y ns),Rec.D r] (.bool (AE y.keeps r))
def agc:Prop:=Fg (aH Z 1015)
def C909:=∀(y:cu) (ns:Ψ) (nm:aw),p0 y->O3 Z 909 y (λf=>[cu.D y f,.str nm]) ns ns (u7 (dc y nm))
def C755:=∀(y:cu) (ns:Ψ) (nm:aw),p0 y->ns.length<=1000->O3 Z 755 y (λf=>[cu.D y f,.str nm]) ns (fe ns nm) (u7 (dc y nm))
def C752:=∀(y:cu) (ns:Ψ) (k:Key),p0 y->ns.length<=999->O3 Z 752 y (λf=>[cu.D y f,Key.D k]) ns (fe ns k.n) (u7 (ei y k))
def C751:=∀(y:cu) (ns:Ψ),(∀m∈y.l,m.r.v∈bQ)->y.l.length<=1000->O3 Z 751 y (λf=>[cu.D y f]) ns ns (.sl 1 ((eH y.l).map ed))
def K6:=∀(a:Key) (b:Key),T [Key.D a,Key.D b] (.bool (fj a b))
def C902:Prop:=K6 (aH Z 902)
def Fh:=∀(x:cP),(x.feats.length<=10000)->T [cP.D x] (.sl 2 ((fw x).map Key.D))
def agf:Prop:=Fh (aH Z 1080)
def Fb:=∀(n:bn),(xb n/\n.sm)->T [bn.D n] (.sl 1 ((iQ n).map ed))
def WD:Prop:=Fb (aH Z 1009)
def La:=∀(r:Rec) (e:Env) (nm:aw) (ft:aw),(CA r/\kS e)->T [Rec.D r,Env.D e,.str nm,.str ft] (.sl 1 ((ja r.needs e nm ft).map ed))
def C906:Prop:=La (aH Z 906)
def K8:=∀(r:Rec) (e:Env) (o:aw),(CA r/\kS e)->T [Rec.D r,Env.D e,.str o] (.sl 1 ((rj r.needs e o).map ed))
def C904:Prop:=K8 (aH Z 904)
def K9:=∀(l:γ) (nm:aw),T [.sl 2 (l.map b7.D),.str nm] (.sl 1 ((vy l nm).map D.str))
def C905:Prop:=K9 (aH Z 905)
def KV:=∀(r:Rec) (e:Env) (ft:aw),((CA r/\r.v∈bQ)/\kS e)->T [Rec.D r,Env.D e,.str ft] (.sl 1 ((cL r e ft).map ed))
def C753:Prop:=KV (aH Z 753)
def K7:=∀(l:Α) (k:Key),T [.sl 2 (l.map Key.D),Key.D k] (.int .i64 (cz l k))
def C903:Prop:=K7 (aH Z 903)
def KU:=∀(all:Α) (l:ο),(l.length<=1000/\∀r∈l,r.length<=1000)->T [.sl 2 (all.map Key.D),.sl 1 (l.map ed)] (.sl 1 ((dr all l).map jP))
def C750:Prop:=KU (aH Z 750)
def KW:=∀(all:Α) (r:Rec) (e:Env),(CA r/\kS e)->T [.sl 2 (all.map Key.D),Rec.D r,Env.D e] (.sl 3 ((si all r e).map Want.D))
def C754:Prop:=KW (aH Z 754)
def C583:=∀(y:cu) (ns:Ψ) (all:Α) (k:Key),(qP y/\kS y.e)->ns.length<=990->O3 Z 583 y (λf=>[cu.D y f,.sl 2 (all.map Key.D),Key.D k]) ns (jD ns k) (sn y all k)
def C748:=∀(y:cu) (ns:Ψ) (k:Key),(qP y/\kS y.e)->ns.length<=998->O3 Z 748 y (λf=>[cu.D y f,Key.D k]) ns (jD ns k) (.sl 1 ((cJ y k).map ed))
def KT:=∀(l:Α) (k:Key),(l.length<=200000)->T [.sl 2 (l.map Key.D),Key.D k] (.sl 2 ((sT l k).map Key.D))
def C749:Prop:=KT (aH Z 749)
def C582:=∀(y:cu) (ns:Ψ),(qP y/\kS y.e)->ns.length<=900->O3 Z 582 y (λf=>[cu.D y f]) ns (sV y 49 nM ns) (rp y)
def C362:=∀(y:cu),(qP y/\kS y.e)->WldC Z 362 y (Aa y)
def J1:=∀(l:φ),(xc l)->T [.sl 11 (l.map gI.D)] (.tup [.sl 2 ((fm l).map gY.D),.int .i64 0])
def C360:Prop:=J1 (aH Z 360)
def JB:=∀(l:φ) (shop:Β) (e:Env) (ks:List Kp),(qP (tq l shop e ks)/\kS e)->T [.sl 11 (l.map gI.D),.sl 2 (shop.map bz.D),Env.D e,.sl 6 (ks.map Kp.D)] (.tup [bP.D (dK l shop e ks).1,.int .i64 (dK l shop e ks).2])
def C147:Prop:=JB (aH Z 147)
def Ko:=∀(w:bP) (c:Δ),(w.sm)->T [bP.D w,.sl 1 (c.map (D.int .i64))] (.sl 1 ((dC w c).map D.bool))
def C506:Prop:=Ko (aH Z 506)
def JR:=∀(w:bP) (c:Δ),(w.sm)->(c.length<=1000)->T [bP.D w,.sl 1 (c.map (D.int .i64))] (.sl 1 ((ir w c).map (D.int .i64)))
def C269:Prop:=JR (aH Z 269)
def Rz:=∀(m:gI) (shop:Β) (e:Env) (os:Δ),(qP (ve m shop e)/\kS e)->T [.sl 11 ([m].map gI.D),.sl 2 (shop.map bz.D),Env.D e,.sl 1 (os.map (D.int .i64))] (.tup [bP.D (cM m shop e os).1,.sl 1 ((cM m shop e os).2.1.map (D.int .i64)),.bool (cM m shop e os).2.2])
def C91:Prop:=Rz (aH Z 91)
def Kq:=∀(w:bP) (c:Δ) (nm:aw),((1<=w.us.length/\w.us.length<=1000)/\w.us.length<=c.length)->T [bP.D w,.sl 1 (c.map (D.int .i64)),.str nm] (.sl 1 ((fI w.us c nm w.us.length).map D.str))
def C507:Prop:=Kq (aH Z 507)
def JS:=∀(shop:Β) (e:Env) (w:bP) (c:Δ),(OfP shop w c)->T [.sl 2 (shop.map bz.D),Env.D e,bP.D w,.sl 1 (c.map (D.int .i64))] (.tup [j8.D (BE shop e w c).1,.int .i64 (BE shop e w c).2])
def C270:Prop:=JS (aH Z 270)
def RA:=∀(shop:Β) (e:Env) (w:bP) (c:Δ),(OfP shop w c)->T [.sl 2 (shop.map bz.D),Env.D e,bP.D w,.sl 1 (c.map (D.int .i64))] (.tup [j8.D (BE shop e w c).1,.bool (decide ((BE shop e w c).2=0))])
def C92:Prop:=RA (aH Z 92)
def Fm:=∀(shop:Β) (ks:Δ) (most:Int),((fq shop/\shop.length=2)/\0<=most/\most<=100)->T [.sl 2 (shop.map bz.D),.sl 1 (ks.map (D.int .i64)),.int .i64 most] (.sl 2 ((Yu shop ks most.toNat).map bz.D))
def agl:Prop:=Fm (aH Z 1220)
def Fo:=∀(a:Β) (b:Β) (ps:π) (l:j8),(fq a/\fq b)->T [.sl 2 (a.map bz.D),.sl 2 (b.map bz.D),.sl 2 (ps.map gY.D),j8.D l] (.bool (Ez a b ps l.lines))
def agm:Prop:=Fo (aH Z 1221)
theorem cP.Bi (a b:cP):decide (a=b)=(((decide (a.name=b.name)&&decide (a.range=b.range))&&decide (a.bare=b.bare))&&decide (a.feats=b.feats)):=by
 obtain⟨a1,a2,a3,a4⟩:=a;obtain⟨b1,b2,b3,b4⟩:=b
 grind
theorem bn.Bi (a b:bn):decide (a=b)=((decide (a.when'=b.when')&&decide (a.option=b.option))&&decide (a.any=b.any)):=by
 obtain⟨a1,a2,a3⟩:=a;obtain⟨b1,b2,b3⟩:=b
 grind
theorem bn.same3 {a b:bn}(e1:a.when'=b.when')(e2:a.option=b.option)(e3:a.any.length=b.any.length):decide (a=b)=bK (λi=>decide (a.any[i]! =b.any[i]!)) 0 a.any.length:=by
 grind [bn.Bi,oP]
theorem Rec.Bi (a b:Rec):decide (a=b)=((((decide (a.name=b.name)&&decide (a.v=b.v))&&decide (a.needs=b.needs))&&decide (a.bars=b.bars))&&decide (a.feats=b.feats)):=by
 obtain⟨a1,a2,a3,a4,a5⟩:=a;obtain⟨b1,b2,b3,b4,b5⟩:=b
 grind
theorem b7.eq2 {a b:b7}(h1:a.name=b.name)(h2:a.of=b.of):a=b:=by
 obtain⟨a1,a2⟩:=a;obtain⟨b1,b2⟩:=b
 grind
def JK:=∀(a:Ψ) (b:Ψ),T [.sl 1 (a.map D.str),.sl 1 (b.map D.str)] (.bool (decide (a=b)))
def C226:Prop:=JK (aH Z 226)
def Kl:=∀(a:cP) (b:cP),T [cP.D a,cP.D b] (.bool (decide (a=b)))
def C477:Prop:=Kl (aH Z 477)
def JJ:=∀(a:bn) (b:bn),T [bn.D a,bn.D b] (.bool (decide (a=b)))
def C225:Prop:=JJ (aH Z 225)
def Rx:=∀(a:Rec) (b:Rec),T [Rec.D a,Rec.D b] (.bool (decide (a=b)))
def C78:Prop:=Rx (aH Z 78)
def JM:=∀(a:ju) (b:ju),T [ju.D a,ju.D b] (.bool (decide (a.sum=b.sum)&&decide (a.r=b.r)))
def C263:Prop:=JM (aH Z 263)
def Fp:=∀(a:bz) (b:bz),((∀x∈a.es,gM x.r)/\∀x∈b.es,gM x.r)->T [bz.D a,bz.D b] (.bool (sI a b))
def agn:Prop:=Fp (aH Z 1222)
def JU:=∀(a:dI) (b:dI),T [dI.D a,dI.D b] (.bool (decide (a=b)))
def C311:Prop:=JU (aH Z 311)
def JT:=∀(a:Laa) (b:Laa),T [.sl 9 (a.map dI.D),.sl 9 (b.map dI.D)] (.bool (decide (a=b)))
def C310:Prop:=JT (aH Z 310)
def Jy:=∀(a:j8) (b:j8),T [j8.D a,j8.D b] (.bool (decide (a=b)))
def C117:Prop:=Jy (aH Z 117)
def Kz:=∀(l:j8),(l.sm)->T [j8.D l] (.sl 6 ((eU l.lines).map Kp.D))
def C594:Prop:=Kz (aH Z 594)
def Fq:=∀(ys:Δ) (ss:Δ) (os:Δ) (n:Int) (ms:Δ) (mst:Int),T [.sl 1 (ys.map (D.int .i64)),.sl 1 (ss.map (D.int .i64)),.sl 1 (os.map (D.int .i64)),.int .i64 n,.sl 1 (ms.map (D.int .i64)),.int .i64 mst] (.bool true)
def aM {p:Prop}(h:p:=by((repeat intro _);exact okp XL (.inl (by assumption)) λT hT=>(by apply hT<;>assumption))):p:=h
def aI {t:τ}{key u q:Nat}:((under t key u).at q).bU:=Hj t key u q
def dJ {a:Option α}{b c:α}(h:a=some b)(e:b=c:=by kernel_rfl):a=some c:=h.trans (congrArg some e)
def zvI {k:IntKind}{n:Int}(h:a=.int k n):a=.int k n:=h
def zvS {s:Ω}(h:a=.str s):a=.str s:=h
def zvB {s:Bool}(h:a=.bool s):a=.bool s:=h
def zvL {s:Θ}(h:a=.sl k s):a=.sl k s:=h
def zvO {i:Nat}(h:a=.own l k i n):a=.own l k i n:=h
def zvP {i:Nat}(h:a=.ptr l k i n):a=.ptr l k i n:=h
def zvN (h:a=.aO):a=.aO:=h
def Ac (q:α->D){x:α}(h:a=q x):a=q x:=h
def zvW {e:D}{o:Nat}{ag:Bool}(h:lC e k n o ag=e):lC e k n o ag=e:=h
def fold {v:D}(h:a=v:=by first|exact zvW rfl|exact zvI rfl|exact zvS rfl|exact zvB rfl|exact zvL rfl|exact zvO rfl|exact zvN rfl|exact zvP rfl|exact Ac b6.D rfl|exact Ac Cut.D rfl|exact Ac Span.D rfl|exact Ac cy.D rfl|exact Ac Want.D rfl|exact Ac Key.D rfl|exact Ac gY.D rfl|exact Ac kP.D rfl|exact Ac cP.D rfl|exact Ac bn.D rfl|exact Ac mR.D rfl|exact Ac b7.D rfl|exact Ac Rec.D rfl|exact Ac ju.D rfl|exact Ac bz.D rfl|exact Ac qM.D rfl|exact Ac gI.D rfl|exact Ac eI.D rfl|exact Ac cN.D rfl|exact Ac bP.D rfl|exact Ac ek.D rfl|exact Ac jx.D rfl|exact Ac dI.D rfl|exact Ac j8.D rfl|exact Ac Env.D rfl|exact Ac Kp.D rfl|exact Ac jv.D rfl):a=v:=h
def qg {F R:Prop}(h:Hid (F->q) wW)(a:F)(k:Hid q wW->R):R:=k ⟨h.1 a⟩
structure Hol {α:Type}(a:α):Prop
section
variable {Y:Ctx}{draw:Bool}{r:Υ}{rs:Φ}{m:Γ}{K:Φ->St->Prop}{g:Ν}{f:Bool}
def alW {o:Nat}{ag:Bool}{v:D}(h:aC Y draw r env (⟨f,v⟩::rs) nx m K)(hg:GF rs g f:=by exact cH)(hx:bV env rs x=⟨fx,.ptr l k 0 o⟩:=by exact rfl)(kx:f=true->fx=true:=by exact bD)(hl:f=true->look m l=some (.buf k [d]):=by exact λ_=>rfl)(hv:lC d k n o ag=v:=by exact fold)(ho:o+n<=k:=by omega):aC Y draw (⟨.ld n ag x,g⟩::r) env rs nx m K:=qv v h hg hx kx hl (λ_=>hv) ho
def alZ {i o:Nat}{ag:Bool}{v:D}[Inhabited α]{q:α->D}{xs:List α}(h:aC Y draw r env (⟨f,v⟩::rs) nx m K)(hg:GF rs g f:=by exact cH)(hx:bV env rs x=⟨fx,.ref k (xs.map q) i o⟩:=by exact rfl)(kx:f=true->fx=true:=by exact bD)(hi:f=true->i<xs.length:=by exact sc)(hv:lC (q xs[i]!) k n o ag=v:=by exact fold)(ho:o+n<=k:=by omega):aC Y draw (⟨.ld n ag x,g⟩::r) env rs nx m K:=dj v h hg hx kx hi (λ_=>hv) ho
def alY {i o:Nat}{ag:Bool}{v:D}(h:aC Y draw r env (⟨f,v⟩::rs) nx m K)(hg:GF rs g f:=by exact cH)(hx:bV env rs x=⟨fx,.ref k es i o⟩:=by exact rfl)(kx:f=true->fx=true:=by exact bD)(hi:f=true->i<es.length:=by intro _;simp only[List.length_cons,List.length_nil];omega)(hv:lC (es.getD i .any) k n o ag=v:=by exact fold)(ho:o+n<=k:=by omega):aC Y draw (⟨.ld n ag x,g⟩::r) env rs nx m K:=r_ldQ v h hg hx kx hi (λ_=>hv) ho
def alX {i o:Nat}{ag:Bool}{v:D}[Inhabited α]{q:α->D}{xs:List α}(h:aC Y draw r env (⟨f,v⟩::rs) nx m K)(hg:GF rs g f:=by exact cH)(hx:bV env rs x=⟨fx,.ptr l k i o⟩:=by exact rfl)(kx:f=true->fx=true:=by exact bD)(hl:f=true->look m l=some (.buf k (xs.map q)):=by exact λ_=>rfl)(hi:f=true->i<xs.length:=by exact sc)(hv:lC (q xs[i]!) k n o ag=v:=by exact fold)(ho:o+n<=k:=by omega):aC Y draw (⟨.ld n ag x,g⟩::r) env rs nx m K:=ym v h hg hx kx hl hi (λ_=>hv) ho
def alR {i:Nat}{v:D}(h:aC Y draw r env (⟨f,v⟩::rs) nx m K)(hg:GF rs g f:=by exact cH)(hx:bV env rs x=⟨fx,.tup ds⟩:=by exact rfl)(kx:f=true->fx=true:=by exact bD)(hv:ds.getD i .any=v:=by simp only[List.getD_cons_zero,List.getD_cons_succ];exact rfl)(hb:f=true->i<ds.length:=by intro _;simp only[List.length_cons,List.length_nil];omega):aC Y draw (⟨.ext x i,g⟩::r) env rs nx m K:=lh v h hg hx kx (λ_=>hv) hb
def r_stW {o:Nat}{y:Src}{v:D}{m2:Γ}(h:aC Y draw r env (⟨true,.any⟩::rs) nx m2 K)(hx:bV env rs x=⟨true,.ptr l k 0 o⟩:=by exact rfl)(hy:bV env rs y=⟨true,v⟩:=by exact rfl)(hl:look m l=some (.buf k [d]):=by exact rfl)(hc:v.cells.length=n:=by exact rfl)(he:tj d k n o v=v:=by exact rfl)(ho:o+n<=k:=by omega)(hm:cW m l (.buf k [v])=m2:=by simp only[cW,de,Nat.reduceEqDiff,if_true,if_false,Nat.reduceAdd,reduceCtorEq];exact rfl):aC Y draw (⟨.st n x y,none⟩::r) env rs nx m K:=cE v h hx hy hl hc he ho hm
def alQ {y:Src}{fy:Bool}{ag:Bool}{ks:Lah}{b:D}{v:Bool}(h:aC Y draw r env (⟨f,.bool (v)⟩::rs) nx m K)(hg:GF rs g f:=by exact cH)(hx:bV env rs x=⟨fx,a⟩:=by exact rfl)(hy:bV env rs y=⟨fy,b⟩:=by exact rfl)(kx:f=true->fx=true:=by exact bD)(ky:f=true->fy=true:=by exact bD)(hb:ig a.cells b.cells=v:=by first|exact b6.eq _ _|exact Key.eqD _ _|exact eqBb _ _|exact gY.eq _ _|exact Env.eq _ _|exact Kp.eq _ _|exact mR.eq _ _|exact ek.eq _ _)(h1:f=true->a.isAgg=ag/\b.isAgg=ag/\fP ks a.cells/\fP ks b.cells:=by exact vg):aC Y draw (⟨.eqA false ag ks x y,g⟩::r) env rs nx m K:=r_eqP h hb hg hx hy kx ky h1
def alP {y:Src}{fy:Bool}{ag:Bool}{ks:Lah}{b:D}{v:Bool}(h:aC Y draw r env (⟨f,.bool (!v)⟩::rs) nx m K)(hg:GF rs g f:=by exact cH)(hx:bV env rs x=⟨fx,a⟩:=by exact rfl)(hy:bV env rs y=⟨fy,b⟩:=by exact rfl)(kx:f=true->fx=true:=by exact bD)(ky:f=true->fy=true:=by exact bD)(hb:ig a.cells b.cells=v:=by first|exact b6.eq _ _|exact Key.eqD _ _|exact eqBb _ _|exact gY.eq _ _|exact Env.eq _ _|exact Kp.eq _ _|exact mR.eq _ _|exact ek.eq _ _)(h1:f=true->a.isAgg=ag/\b.isAgg=ag/\fP ks a.cells/\fP ks b.cells:=by exact vg):aC Y draw (⟨.eqA true ag ks x y,g⟩::r) env rs nx m K:=r_eqN h hb hg hx hy kx ky h1
def afo {y:Src}{fy:Bool}{a b:Ω}(h:aC Y draw r env (⟨f,.str (a++b)⟩::rs) nx m K)(hg:GF rs g f:=by exact cH)(hx:bV env rs x=⟨fx,.str a⟩:=by exact rfl)(hy:bV env rs y=⟨fy,.str b⟩:=by exact rfl)(kx:f=true->fx=true:=by exact bD)(ky:f=true->fy=true:=by exact bD)(hb:f=true->a.length+b.length<=9223372036854775807:=by intro _;simp only[List.length_append,List.length_cons,List.length_nil];omega):aC Y draw (⟨.bin .add x y,g⟩::r) env rs nx m K:=Qj h hg hx hy kx ky hb
theorem afp {args:ς}{sh:Ι}{v:D}(h:aC Y draw r env (⟨f,v⟩::rs) nx m K)(hg:GF rs g f:=by exact cH)(hc:f=true->Y.pre n (jn m sh (iU (bV env rs) args))/\Y.val n (jn m sh (iU (bV env rs) args))=v:=by intro hf;apply_assumption (transparency:=.default) (exfalso:=false) (symm:=false) only[*];(all_goals first|assumption|omega|(simp at hf;omega)|grind))(ho:f=true->Ci (bV env rs) args:=by exact vg)(hp:f=true->jb m sh (iU (bV env rs) args):=by exact vg)(hk:f=true->qR (iU (bV env rs) args) v=true:=by exact λ_=>rfl):aC Y draw (⟨.call n args sh,g⟩::r) env rs nx m K:=ca h hg hc (λ_=>rfl) ho hp hk
end
section
variable {Y:Ctx}{draw:Bool}{r:Υ}{rs:Φ}{m:Γ}{K:Φ->St->Prop}{g:GI}
def tgW {a:AC}(h:dD Y a Q env st):dD Y a Q env st:=h
def tgR (h:aC Y draw (g::r) env rs nx m K):aC Y draw (g::r) env rs nx m K:=h
def tgS {a:aj}(h:dD Y a.body (O7 a d) (fV a ds) ⟨0,[]⟩):dD Y a.body (O7 a d) (fV a ds) ⟨0,[]⟩:=h
def tgE (h:aC Y draw [] env rs nx m K):aC Y draw [] env rs nx m K:=h
def tgl1 {id:Nat}{a b:AC}(h:dD Y (.seq (.block id (.loop a)) b) Q env st):dD Y (.seq (.block id (.loop a)) b) Q env st:=h
def tgl2 {id:Nat}{a:AC}(h:dD Y (.block id (.loop a)) Q env st):dD Y (.block id (.loop a)) Q env st:=h
end
inductive Lc:Θ->Nat->Φ->Prop
 |A {d:D} {ds:Θ} {n:Nat} {e:Φ} (h:Lc ds n e):Lc (d::ds) n (⟨true,d⟩::e)
 |U {n n':Nat} {e:Φ} (hn:n=n'+1) (h:Lc [] n' e):Lc [] n (.un::e)
 |N {n:Nat} (hn:n=0):Lc [] n []
def Lc.eq {e:Φ}(h:Lc ds n e):(ds.map λd=>⟨true,d⟩)++List.replicate n .un=e:=by
 induction h with
 |A _ ih=>simp[ih]
 |U hn _ ih=>subst hn;simpa[List.replicate_succ]using ih
 |N hn=>subst hn;rfl
def zst0 {Y:Ctx}{a:aj}{e:Φ}(h:dD (Y.at 0) a.body (O7 a d) e ⟨0,[]⟩)(he:Lc ds (a.ns-a.np) e:=by repeat(first|apply Lc.A|apply Lc.U (by exact rfl)|exact Lc.N (by exact rfl))):dD (Y.at 0) a.body (O7 a d) (fV a ds) ⟨0,[]⟩:=by
 unfold fV;rw[he.eq];exact h
def zsx {Y:Ctx}{a:aj}(k:q)(h:Hid q wW->dD (Y.at 0) a.body (O7 a d) (fV a ds) ⟨0,[]⟩:=by intro h;refine zst0 ?_;(first|refine aS ?_|refine gu ?_|refine gv ?_|refine pV ?_|refine Hq ?_|refine wp_ret ?_|refine mP ?_ hm|refine lY ?_ hm|skip);exact h.1):dD (Y.at 0) a.body (O7 a d) (fV a ds) ⟨0,[]⟩:=h ⟨k⟩
def c9 {p:Prop}(k:q)(h:Hid q wW->p:=by
 intro h;first
 |((with_reducible refine tgR ?_);first|(refine bL ?_;exact h.1)|(refine mH ?_;exact h.1)|(refine alW ?_;exact h.1)|(refine alZ ?_;exact h.1)|(refine alY ?_;exact h.1)|(refine alX ?_;exact h.1)|(refine zN ?_;exact h.1)|(refine al3 ?_;exact h.1)|(refine Qk ?_;exact h.1)|(refine aau ?_;exact h.1)|(refine afp ?_;exact h.1)|(refine yl ?_;exact h.1)|(refine Tp ?_;exact h.1)|(refine AR ?_;exact h.1)|(refine vz ?_;exact h.1)|(refine Nq ?_;exact h.1)|exact IJ λa=>(h.1:_->_) (a rfl rfl)|exact Qn λa=>(h.1:_->_) (a rfl rfl)|exact IJ λ_=>h.1|exact Qn λ_=>h.1|(refine al0 ?_;exact h.1)|exact cD _ h.1|exact alU h.1|exact GQ _ h.1|exact alV h.1|(refine Tr ?_;exact h.1)|(refine mh ?_;exact h.1)|(refine afo ?_;exact h.1)|(refine Cn ?_;exact h.1)|(refine r_stW ?_;exact h.1)|exact cE _ h.1|(refine pP ?_;exact h.1)|(refine alT ?_;exact h.1)|(refine oK ?_;exact h.1)|(refine al4 ?_;exact h.1)|(refine IK ?_;exact h.1)|(refine al1 ?_;exact h.1)|(refine II ?_;exact h.1)|(refine alS ?_;exact h.1)|(refine alR ?_;exact h.1)|(refine al5 ?_;exact h.1)|(refine al6 ?_;exact h.1)|exact D2 λa=>(h.1:_->_) (a rfl rfl)|exact D2 λ_=>h.1|exact AS _ h.1|exact aax h.1|(refine cQ ?_;exact h.1)|(refine alQ ?_;exact h.1)|(refine alP ?_;exact h.1)|(refine r_rng ?_;exact h.1)|(refine r_s2b ?_;exact h.1)|(refine r_mkB ?_;exact h.1)|exact aaB _ h.1|exact aaE _ h.1|exact aaD _ h.1|exact Nr _ h.1|exact aaC _ _ h.1|exact aaF _ _ h.1|exact aaG _ h.1|exact aaI _ h.1|exact aaH _ _ h.1)
 |((with_reducible refine tgW ?_);first|((with_reducible refine tgS ?_);exact zsx h.1)|with_reducible exact aS h.1|with_reducible exact gu h.1|with_reducible exact gv h.1|with_reducible exact pV h.1|with_reducible exact Hq h.1|with_reducible exact wp_ret h.1|with_reducible exact wp_skip h.1|with_reducible exact oV h.1|with_reducible exact wp_exit h.1|((fail_if_success with_reducible refine tgl1 ?_);with_reducible exact mP h.1 hm)|((fail_if_success with_reducible refine tgl2 ?_);with_reducible exact lY h.1 hm))
 |((with_reducible refine tgE ?_);first|(refine rrrh ?_;exact h.1)|(refine rrrg ?_;exact h.1))
 |with_reducible exact BQ.normal h.1|with_reducible exact BQ.ret h.1|with_reducible exact LQ.normal h.1|with_reducible exact LQ.out h.1|with_reducible exact LQ.ret h.1|with_reducible exact BQ.out h.1|with_reducible exact OU.normal h.1|with_reducible exact OU.ret h.1|with_reducible exact BZ.normal h.1|with_reducible exact BZ.ret h.1|with_reducible exact OU.out h.1|with_reducible exact BZ.out h.1|with_reducible exact CQ.normal h.1|with_reducible exact CQ.ret h.1|with_reducible exact CQ.other h.1|((with_reducible refine BQ.other ?_ h.1);exact rfl)|((with_reducible refine LQ.other ?_ h.1);exact rfl)|((with_reducible refine OU.other ?_ h.1);exact rfl)|((with_reducible refine BZ.other ?_ h.1);exact rfl)):p:=h ⟨k⟩
def zg {p:Prop}(k:q)(h:Hid q wW->p:=by intro h;(repeat(refine c9 ?_;try(intro a;apply qg h a;intro h)));exact h.1):p:=h ⟨k⟩
def zc {p q1 q2 c1 c2:Prop}(k1:c1->q1)(k2:c2->q2)(h:Hid (c1->q1) wW->Hid (c2->q2) wW->p:=by intro h1 h2;(repeat(refine c9 ?_;try intro _));first|exact dF h1.1 h2.1|exact B5 h1.1 h2.1):p:=h ⟨k1⟩ ⟨k2⟩
def YS (σ:Ξ)(l:Nat):Lad:=match σ with
 |[]=>none
 |(a,b)::r=>bif Nat.beq b l then some a else YS r l
def bB.nlx {l':Nat}{m:Γ}{es':Θ}(h:bB lo c σ m r)(hi:YS σ l'=some l:=by exact rfl)(hl:m8 lo σ l=some l':=by exact rfl)(hm:look m l=some (.buf k es):=by exact rfl)(he:es'=es:=by exact rfl)(hn:aP es=true:=by first|exact rfl|exact cg (λ_=>rfl) _):bB lo c σ m ((l',.buf k es')::r):=.nl l hl hm he hn h
def bB.eqx {l':Nat}{m:Γ}{es':Θ}(h:bB lo c σ m r)(hi:YS σ l'=some l:=by exact rfl)(hl:m8 lo σ l=some l':=by exact rfl)(hm:look m l=some (.buf k es):=by exact rfl)(he:ru lo σ es=some es':=by exact rfl):bB lo c σ m ((l',.buf k es')::r):=.eq l hl hm he h
def bB.rwx {l':Nat}{m:Γ}{s s':Ω}(h:bB lo c σ m r)(hi:YS σ l'=some l:=by exact rfl)(hl:m8 lo σ l=some l':=by exact rfl)(hm:look m l=some (.row s):=by exact rfl)(hs:s'=s:=by exact rfl):bB lo c σ m ((l',.row s')::r):=.rw l hl hm hs h
def bB.blx {l' l1 l2 n':Nat}{u u':Bool}{m:Γ}(h:bB lo c σ m r)(hi:YS σ l'=some l:=by exact rfl)(hl:m8 lo σ l=some l':=by exact rfl)(hm:look m l=some (.bld (some l1) n u):=by exact rfl)(h1:m8 lo σ l1=some l2:=by exact rfl)(hn:n'=n:=by exact rfl)(hu:u'=u:=by exact rfl):bB lo c σ m ((l',.bld (some l2) n' u')::r):=.bl l hl hm h1 hn hu h
def zge {a b:Φ}(h:fN lo σ a b:=by repeat(first|exact fN.nil|refine fN.un ?_|refine fN.eq (by exact rfl) ?_|refine fN.nl (by exact rfl) (by exact rfl) ?_|refine fN.ni (Or.inr ⟨_,_,_,rfl⟩) ?_)):fN lo σ a b:=h
def zgm {m m':Γ}(h:bB lo c σ m m':=by repeat(first|exact bB.nil|refine bB.By (by exact rfl) (by exact rfl) (by first|exact rfl|exact cg (λ_=>rfl) _) ?_|refine bB.OW (by exact rfl) (by exact rfl) (by exact rfl) ?_|refine bB.OX (by exact rfl) (by exact rfl) (by exact rfl) (by exact rfl) ?_|refine bB.nlx ?_|refine bB.eqx ?_|refine bB.rwx ?_|refine bB.blx ?_|refine bB.mt (by exact rfl) (by exact rfl) (by exact rfl) (by exact rfl) ?_)):bB lo c σ m m':=h
def zl0 {nx2:Nat}{m:Γ}{F:ι->Φ}{G:ι->Γ}{P:ι->Prop}{μ:ι->Nat}{i j:ι}(_:Hol j)(_:Hol σ)(hP:P j)(hm:μ j<μ i:=by(try dsimp only);omega)(hc:nx2=c:=by exact rfl)(h:gQ lo c σ=true:=by exact rfl)(he:fN lo σ env (F j):=by exact zge)(hg:bB lo c σ m (G j):=by exact zgm):∃j,P j/\μ j<μ i/\a8 lo env ⟨nx,m⟩ (F j) ⟨nx2,G j⟩:=⟨j,hP,hm,a8.to σ hc h he hg⟩
def zl {p:Prop}(j:ι)(σ:Ξ)(k:q)(h:Hid q wW->Hol j->Hol σ->p:=by intro h a b;(repeat(refine c9 ?_;try intro _));exact zl0 a b h.1):p:=h ⟨k⟩ ⟨⟩ ⟨⟩
def fX {p:Prop}(j:ι)(σ:Ξ)(k:q)(h:Hid q wW->Hol j->Hol σ->p:=by intro h a b;(repeat(refine c9 ?_;try intro _));exact zl0 a b ⟨by(try dsimp only);omega,h.1⟩):p:=h ⟨k⟩ ⟨⟩ ⟨⟩
def iw {p:Prop}(j:ι)(σ:Ξ)(h:Hol j->Hol σ->p:=by intro a b;(repeat(refine c9 ?_;try intro _));exact zl0 a b (by(try dsimp only);omega)):p:=h ⟨⟩ ⟨⟩
def zro {a:aj}{d2:D}{e:Ex}{m:Γ}(h:d2=d)(he:e.home:=by exact trivial)(h1:oO m env a.res:=by repeat' first|exact trivial|exact rfl|exact Nat.le_refl _|refine And.intro ?_ ?_)(h2:Bl a env m:=by repeat' first|exact trivial|exact rfl|refine And.intro ?_ ?_)(h3:OS a env m=d2:=by exact rfl):O7 a d e env ⟨nx,m⟩:=Q4 he h1 h2 (h3.trans h)
def zrb {a:aj}{d d2:Bool}{e:Ex}{m:Γ}(h:d2=d)(he:e.home:=by exact trivial)(h1:oO m env a.res:=by repeat' first|exact trivial|exact rfl|exact Nat.le_refl _|refine And.intro ?_ ?_)(h2:Bl a env m:=by repeat' first|exact trivial|exact rfl|refine And.intro ?_ ?_)(h3:OS a env m=.bool d2:=by exact rfl):O7 a (.bool d) e env ⟨nx,m⟩:=zro (congrArg _ h) he h1 h2 h3
def zrs {a:aj}{d d2:Ω}{e:Ex}{m:Γ}(h:d2=d)(he:e.home:=by exact trivial)(h1:oO m env a.res:=by repeat' first|exact trivial|exact rfl|exact Nat.le_refl _|refine And.intro ?_ ?_)(h2:Bl a env m:=by repeat' first|exact trivial|exact rfl|refine And.intro ?_ ?_)(h3:OS a env m=.str d2:=by exact rfl):O7 a (.str d) e env ⟨nx,m⟩:=zro (congrArg _ h) he h1 h2 h3
def zri {a:aj}{d d2:Int}{e:Ex}{m:Γ}(h:d2=d)(he:e.home:=by exact trivial)(h1:oO m env a.res:=by repeat' first|exact trivial|exact rfl|exact Nat.le_refl _|refine And.intro ?_ ?_)(h2:Bl a env m:=by repeat' first|exact trivial|exact rfl|refine And.intro ?_ ?_)(h3:OS a env m=.int .i64 d2:=by exact rfl):O7 a (.int .i64 d) e env ⟨nx,m⟩:=zro (congrArg _ h) he h1 h2 h3
def zr {p:Prop}(k:q)(h:Hid q wW->p:=by intro h;(repeat(refine c9 ?_;try intro _));first|exact zrb h.1|exact zrs h.1|exact zri h.1|exact zro h.1):p:=h ⟨k⟩
def lL {p:Prop}(h:p:=by(repeat(refine c9 ?_;try intro _));first|exact zrb rfl|exact zrs rfl|exact zri rfl|exact zro rfl):p:=h
def uns:Nat->Φ->Φ
 |0,r=>r
 |n+1,r=>.un::uns n r
def SE:=Φ->Φ
def SE.u (n:Nat):SE:=uns n
def SE.e (d:D):SE:=λr=>⟨true,d⟩::r
def SE.i (n:Int):SE:=λr=>⟨true,.int .i64 n⟩::r
def SE.p (l k:Nat):SE:=λr=>⟨true,.ptr l k 0 0⟩::r
def SE.o (l k n:Nat):SE:=λr=>⟨true,.own l k 0 n⟩::r
def SE.m (k:Nat)(xs:List α)(q:α->D):SE:=λr=>⟨true,.sl k (xs.map q)⟩::r
def spE:List SE->Φ
 |[]=>[]
 |f::r=>f (spE r)
section
variable {Y:Ctx}{a r:AC}{id:Nat}{m:Γ}
def zf (htr:Y.bU)(F:Nat->List SE)(G:Nat->Γ)(c:Nat)(P:Lab)(μ:Nat->Nat)(hP:P 0)(σ:Ξ)(hr:∀i,P i->dD Y a (LQ Y id r (λenv2 st2=>∃j,P j/\μ j<μ i/\a8 Y.lo env2 st2 (F2 j) ⟨c,G j⟩) Q) (F2 i) ⟨c,G i⟩)(hF:∀i,spE (F i)=F2 i:=by intro i;simp only[spE,SE.u,SE.e,SE.i,SE.p,SE.o,SE.m,uns];exact rfl)(h:gQ Y.lo c σ=true:=by exact rfl)(he:fN Y.lo σ env (F2 0):=by exact zge)(hg:bB Y.lo c σ m (G 0):=by exact zgm):dD Y (.seq (.block id (.loop a)) r) Q env ⟨nx,m⟩:=gE htr F2 G c P μ 0 hP (a8.to σ rfl h he hg) hr
def zfx (htr:Y.bU)(i0:ι)(F:ι->List SE)(G:ι->Γ)(c:Nat)(P:ι->Prop)(μ:ι->Nat)(hP:P i0)(σ:Ξ){F2:ι->Φ}(hr:∀i,P i->dD Y a (LQ Y id r (λenv2 st2=>∃j,P j/\μ j<μ i/\a8 Y.lo env2 st2 (F2 j) ⟨c,G j⟩) Q) (F2 i) ⟨c,G i⟩)(hF:∀i,spE (F i)=F2 i:=by intro i;simp only[spE,SE.u,SE.e,SE.i,SE.p,SE.o,SE.m,uns];exact rfl)(h:gQ Y.lo c σ=true:=by exact rfl)(he:fN Y.lo σ env (F2 i0):=by exact zge)(hg:bB Y.lo c σ m (G i0):=by exact zgm):dD Y (.seq (.block id (.loop a)) r) Q env ⟨nx,m⟩:=gE htr F2 G c P μ i0 hP (a8.to σ rfl h he hg) hr
def zfL (htr:Y.bU)(F:Nat->List SE)(G:Nat->Γ)(c:Nat)(P:Lab)(μ:Nat->Nat)(hP:P 0)(σ:Ξ)(hr:∀i,P i->dD Y a (BZ id (λenv2 st2=>∃j,P j/\μ j<μ i/\a8 Y.lo env2 st2 (F2 j) ⟨c,G j⟩) Q) (F2 i) ⟨c,G i⟩)(hF:∀i,spE (F i)=F2 i:=by intro i;simp only[spE,SE.u,SE.e,SE.i,SE.p,SE.o,SE.m,uns];exact rfl)(h:gQ Y.lo c σ=true:=by exact rfl)(he:fN Y.lo σ env (F2 0):=by exact zge)(hg:bB Y.lo c σ m (G 0):=by exact zgm):dD Y (.block id (.loop a)) Q env ⟨nx,m⟩:=Ju htr F2 G c P μ 0 hP (a8.to σ rfl h he hg) hr
def zfxL (htr:Y.bU)(i0:ι)(F:ι->List SE)(G:ι->Γ)(c:Nat)(P:ι->Prop)(μ:ι->Nat)(hP:P i0)(σ:Ξ){F2:ι->Φ}(hr:∀i,P i->dD Y a (BZ id (λenv2 st2=>∃j,P j/\μ j<μ i/\a8 Y.lo env2 st2 (F2 j) ⟨c,G j⟩) Q) (F2 i) ⟨c,G i⟩)(hF:∀i,spE (F i)=F2 i:=by intro i;simp only[spE,SE.u,SE.e,SE.i,SE.p,SE.o,SE.m,uns];exact rfl)(h:gQ Y.lo c σ=true:=by exact rfl)(he:fN Y.lo σ env (F2 i0):=by exact zge)(hg:bB Y.lo c σ m (G i0):=by exact zgm):dD Y (.block id (.loop a)) Q env ⟨nx,m⟩:=Ju htr F2 G c P μ i0 hP (a8.to σ rfl h he hg) hr
end
abbrev ct (Y:Ctx)(a:aj)(ds:Θ)(d:D):Prop:=wkk Y a d ds
def zk1 {p:Prop}(k:q)(h:Hid q wW->p:=by intro h;(iterate 1(refine c9 ?_;try(intro a;apply qg h a;intro h)));exact h.1):p:=h ⟨k⟩
def c7 {p:Prop}(k:q)(h:Hid q wW->p:=by intro h;(iterate 2(refine c9 ?_;try(intro a;apply qg h a;intro h)));exact h.1):p:=h ⟨k⟩
def dR {p:Prop}(k:q)(h:Hid q wW->p:=by intro h;(iterate 3(refine c9 ?_;try(intro a;apply qg h a;intro h)));exact h.1):p:=h ⟨k⟩
def fA {p:Prop}(k:q)(h:Hid q wW->p:=by intro h;(iterate 4(refine c9 ?_;try(intro a;apply qg h a;intro h)));exact h.1):p:=h ⟨k⟩
def j7 {p:Prop}(k:q)(h:Hid q wW->p:=by intro h;(iterate 5(refine c9 ?_;try(intro a;apply qg h a;intro h)));exact h.1):p:=h ⟨k⟩
def kv {p:Prop}(k:q)(h:Hid q wW->p:=by intro h;(iterate 6(refine c9 ?_;try(intro a;apply qg h a;intro h)));exact h.1):p:=h ⟨k⟩
def pW {p:Prop}(k:q)(h:Hid q wW->p:=by intro h;(iterate 7(refine c9 ?_;try(intro a;apply qg h a;intro h)));exact h.1):p:=h ⟨k⟩
def qH {p:Prop}(k:q)(h:Hid q wW->p:=by intro h;(iterate 8(refine c9 ?_;try(intro a;apply qg h a;intro h)));exact h.1):p:=h ⟨k⟩
def yZ {p:Prop}(k:q)(h:Hid q wW->p:=by intro h;(iterate 9(refine c9 ?_;try(intro a;apply qg h a;intro h)));exact h.1):p:=h ⟨k⟩
def se {p:Prop}(k:q)(h:Hid q wW->p:=by intro h;(iterate 10(refine c9 ?_;try(intro a;apply qg h a;intro h)));exact h.1):p:=h ⟨k⟩
def Jw {p:Prop}(k:q)(h:Hid q wW->p:=by intro h;(iterate 11(refine c9 ?_;try(intro a;apply qg h a;intro h)));exact h.1):p:=h ⟨k⟩
def F1 {p:Prop}(k:q)(h:Hid q wW->p:=by intro h;(iterate 12(refine c9 ?_;try(intro a;apply qg h a;intro h)));exact h.1):p:=h ⟨k⟩
def F3 {p:Prop}(k:q)(h:Hid q wW->p:=by intro h;(iterate 13(refine c9 ?_;try(intro a;apply qg h a;intro h)));exact h.1):p:=h ⟨k⟩
def iz {p:Prop}(k:q)(h:Hid q wW->p:=by intro h;(iterate 14(refine c9 ?_;try(intro a;apply qg h a;intro h)));exact h.1):p:=h ⟨k⟩
def Fa {p:Prop}(k:q)(h:Hid q wW->p:=by intro h;(iterate 15(refine c9 ?_;try(intro a;apply qg h a;intro h)));exact h.1):p:=h ⟨k⟩
def zk17 {p:Prop}(k:q)(h:Hid q wW->p:=by intro h;(iterate 17(refine c9 ?_;try(intro a;apply qg h a;intro h)));exact h.1):p:=h ⟨k⟩
def zk18 {p:Prop}(k:q)(h:Hid q wW->p:=by intro h;(iterate 18(refine c9 ?_;try(intro a;apply qg h a;intro h)));exact h.1):p:=h ⟨k⟩
def zk20 {p:Prop}(k:q)(h:Hid q wW->p:=by intro h;(iterate 20(refine c9 ?_;try(intro a;apply qg h a;intro h)));exact h.1):p:=h ⟨k⟩
def zk21 {p:Prop}(k:q)(h:Hid q wW->p:=by intro h;(iterate 21(refine c9 ?_;try(intro a;apply qg h a;intro h)));exact h.1):p:=h ⟨k⟩
end Go.Abs
