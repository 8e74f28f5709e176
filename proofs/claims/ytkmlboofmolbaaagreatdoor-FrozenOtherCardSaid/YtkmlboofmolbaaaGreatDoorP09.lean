/- A part of the proofs. -/
import Derived.Test.YtkmlboofmolbaaaGreatDoorP08
set_option linter.all false
set_option maxRecDepth 60000
set_option maxHeartbeats 2000000
namespace Go.Abs
variable(T:List D->D->Prop)(Z:Ctx){σ:List (Nat×Nat)}{q:Prop}{Q:Ex->List aY->St->Prop}{env:List aY}{fx:Bool}{ds es:List D}{ι α:Type}{x:Src}{a d:D}{n k nx lo l j c:Nat}(shop:List bA){r:List (Nat×bj)}{F2:Nat->List aY}{nm:au}{st:St}
def Yr:∀a∈bF,∀b∈bF,A4 a b=true->a=b:=by decide+kernel
def Yt:∀a∈bF,A4 a a=true:=by decide+kernel
def Fg (a b:List iQ):Prop:=a.length=b.length/\∀i,i<b.length->a[i]!.r.name=b[i]!.r.name/\a[i]!.r.v=b[i]!.r.v
def LO {v:bV}:∀(a b:List iQ),Fg a b->qo a nm v 0=qo b nm v 0:=by
 have key:∀(a b:List iQ),Fg a b->a.findIdx? (yz nm v)=b.findIdx? (yz nm v):=by
  intro a;induction a with
  |nil=>intro b h;have:=h.1;cases b with
   |nil=>rfl
   |cons=>simp at this
  |cons x r ih=>
   intro b h;cases b with
   |nil=>have:=h.1;simp at this
   |cons y s=>
    have h0:=h.2 0 aC;have hr:Fg r s:=⟨by have:=h.1;simpa using this,λi hi=>by have:=h.2 (i+1) fh;simpa using this⟩;have e:yz nm v x=yz nm v y:=by
     have h1:x.r.name=y.r.name:=by simpa using h0.1
     have h2:x.r.v=y.r.v:=by simpa using h0.2
     unfold yz;rw[h1,h2]
    rw[List.findIdx?_cons,List.findIdx?_cons,e,ih s hr]
 intro a b h;unfold qo;rw[cY,cY,key a b h]
def T7 {a b:List iQ}(h:Fg a b)(n:Nat):Fg (a.take n) (b.take n):=by
 refine⟨by rw[dF,dF,h.1],λi hi=>?_⟩;rw[dF]at hi;have h1:=h.2 i ae;have ha:(a.take n)[i]! =a[i]! :=by rw[getElem!_pos _ i (by rw[dF,h.1];omega),getElem!_pos a i (by rw[h.1];omega),List.getElem_take]
 have hb:(b.take n)[i]! =b[i]! :=by rw[getElem!_pos _ i (by rw[dF];omega),getElem!_pos b i ae,List.getElem_take]
 rw[ha,hb];exact h1
structure Oth (shop:List bA)(k n:Nat)(x:iQ):Prop where
 hk:k<shop.length
 hn:n<shop[k]!.es.length
 nm:x.r.name=shop[k]!.es[n]!.r.name
 v:x.r.v=shop[k]!.es[n]!.r.v
 p:(ez x.r).2=0
 s:qY x.r=x.sum
 d:x.sum≠shop[k]!.es[n]!.sum
def lj (k n:Nat)(x:iQ):List bA:=shop.set k ⟨shop[k]!.name,shop[k]!.es.set n x⟩
section
variable {shop:List bA}{x:iQ}
def Mg (h:Oth shop k n x):Fg (shop[k]!.es.set n x) shop[k]!.es:=by
 refine⟨List.length_set ..,λi hi=>?_⟩;by_cases e:n=i
 .subst e;rw[getElem!_pos _ n (by rw[List.length_set];exact hi),List.getElem_set_self];exact⟨h.nm,h.v⟩
 .rw[getElem!_pos _ i (by rw[List.length_set];exact hi),List.getElem_set_ne e,<-getElem!_pos _ i hi];exact⟨rfl,rfl⟩
def BD:(lj shop k n x).length=shop.length:=List.length_set ..
def HL (h:Oth shop k n x)(hj:j<shop.length):(lj shop k n x)[j]! =if j=k then⟨shop[k]!.name,shop[k]!.es.set n x⟩else shop[j]! :=by
 unfold lj;rw[getElem!_pos _ j (by rw[List.length_set];exact hj),List.getElem_set];by_cases e:j=k
 .rw[ak e.symm,ak e]
 .rw[ah (λh=>e h.symm),ah e,getElem!_pos shop j hj]
def Sa (h:Oth shop k n x)(hs:fO shop[k]! =true):fO ⟨shop[k]!.name,shop[k]!.es.set n x⟩=true:=by
 simp only[fO,aA,bd,aT,List.length_set]at hs⊢;refine⟨hs.1,λi h0 hi=>?_⟩;have h1:=hs.2 i h0 hi;simp only[pJ,aA,aT]at h1⊢;have hl:=Mg h;have he:=hl.2 i hi;rw[he.1,he.2,LO _ _ (T7 hl i)];refine⟨?_,h1.2⟩;by_cases e:n=i
 .subst e;rw[getElem!_pos _ n (by rw[List.length_set];exact hi),List.getElem_set_self];exact⟨h.p,h.s⟩
 .rw[getElem!_pos _ i (by rw[List.length_set];exact hi),List.getElem_set_ne e,<-getElem!_pos _ i hi];exact h1.1
def Da (h:Oth shop k n x)(hj:j<shop.length):(lj shop k n x)[j]!.name=shop[j]!.name:=by
 rw[HL h hj];split
 .rename_i e;rw[e]
 .rfl
def YI (h:Oth shop k n x)(hs:dr shop=true)(hj:j<shop.length)(nm:au)(v:bV):fG (lj shop k n x)[j]! nm v=fG shop[j]! nm v:=by
 rw[HL h hj];split
 .rename_i e;subst e;simp only[dr,aA,bd,sL]at hs;have h1:=(hs.2 j (Nat.zero_le _) hj).1;unfold fG;rw[h1,Sa h h1,LO _ _ (Mg h)]
 .rfl
def YJ (h:Oth shop k n x)(hs:dr shop=true):dr (lj shop k n x)=true:=by
 have hs':=hs;simp only[dr,aA,bd,aT,BD,sL]at hs⊢;refine⟨hs.1,λi h0 hi=>?_⟩;have h1:=hs.2 i h0 hi;refine⟨?_, ?_⟩
 .rw[HL h hi];split
  .rename_i e;subst e;exact Sa h h1.1
  .exact h1.1
 .rw[Da h hi];have e:lq (lj shop k n x) shop[i]!.name=lq shop shop[i]!.name:=by
   have key:∀(a b:List bA) (q:Nat) (nm:au),a.length=b.length->(∀j,j<b.length->a[j]!.name=b[j]!.name)->fR (AZ nm) a q=fR (AZ nm) b q:=by
    intro a;induction a with
    |nil=>intro b q nm hl _;cases b with
     |nil=>rfl
     |cons=>simp at hl
    |cons y r ih=>
     intro b q nm hl hn;cases b with
     |nil=>simp at hl
     |cons z s=>
      have e0:=hn 0 aC;have e0:y.name=z.name:=by simpa using e0
      rw[fR,fR,ih s (q+1) nm (by simpa using hl) (λj hj=>by have:=hn (j+1) fh;simpa using this)];have:AZ nm y=AZ nm z:=by unfold AZ;rw[e0]
      rw[this]
   exact key _ _ _ _ BD (λj hj=>Da h hj)
  rw[e];exact h1.2
def VU (shop:List bA)(us:List cI)(c:List Int)(k n u:Nat):Prop:=(cj us c u).sh=(k:Int)/\fG shop[k]! us[u]!.name (cj us c u).v=(n:Int)
def ad2 (h:Oth shop k n x)(hs:dr shop=true){us:List cI}{c:List Int}{u:Nat}(hl:(c9 shop us c u (cj us c u)).2=0):
  (VU shop us c k n u->ll (lj shop k n x) (cj us c u) (c9 shop us c u (cj us c u)).1=13)/\(¬VU shop us c k n u->ll (lj shop k n x) (cj us c u) (c9 shop us c u (cj us c u)).1=0):=by
 unfold VU;unfold c9 at hl⊢;split
 .rename_i h1;refine⟨λh2=>by rw[h1]at h2;omega,λ_=>?_⟩;unfold ll;rw[ak h1,ah aC,ah aC]
 .rename_i h1;rw[ah h1]at hl;split at hl
  .cases hl
  .rename_i h2;rw[ah h2];split at hl
   .cases hl
   .rename_i h3;rw[ah h3];have hj:(cj us c u).sh.toNat<shop.length:=ae;have e:ll (lj shop k n x) (cj us c u) ⟨us[u]!.name,(cj us c u).v,shop[(cj us c u).sh.toNat]!.name,shop[(cj us c u).sh.toNat]!.es[(fG shop[(cj us c u).sh.toNat]! us[u]!.name (cj us c u).v).toNat]!.sum,lB us c u⟩=if(lj shop k n x)[(cj us c u).sh.toNat]!.es[(fG shop[(cj us c u).sh.toNat]! us[u]!.name (cj us c u).v).toNat]!.sum≠shop[(cj us c u).sh.toNat]!.es[(fG shop[(cj us c u).sh.toNat]! us[u]!.name (cj us c u).v).toNat]!.sum then 13 else 0:=by
     unfold ll;rw[ah h1,ah (by rw[BD,Da h hj];simp only[ne_eq,not_true_eq_false,or_false];exact h2),YI h hs hj];by_cases hd:(lj shop k n x)[(cj us c u).sh.toNat]!.es[(fG shop[(cj us c u).sh.toNat]! us[u]!.name (cj us c u).v).toNat]!.sum=shop[(cj us c u).sh.toNat]!.es[(fG shop[(cj us c u).sh.toNat]! us[u]!.name (cj us c u).v).toNat]!.sum
     .rw[ah (by rintro(h4|h4);exact h3 h4;exact h4 hd),ah (λh4=>h4 hd)]
     .rw[ak (.inr hd),ak hd]
    rw[e,HL h hj];constructor
    .rintro⟨h4,h5⟩;rw[h4,Int.toNat_natCast,h5,Int.toNat_natCast,ak rfl];refine ak ?_;show((shop[k]!.es.set n x)[n]!).sum≠_;rw[getElem!_pos _ n (by rw[List.length_set];exact h.hn),List.getElem_set_self];exact h.d
    .intro h4;refine ah (λh5=>h5 ?_);split
     .rename_i hk;have hkk:(cj us c u).sh=(k:Int):=ae;rw[hkk,Int.toNat_natCast];obtain⟨q,hq,hql⟩:∃q:Nat,fG shop[k]! us[u]!.name (cj us c u).v=(q:Int)/\q<shop[k]!.es.length:=by
       rcases tf (s:=shop[k]!) (nm:=us[u]!.name) (v:=(cj us c u).v)with h6|h6
       .rw[hkk,Int.toNat_natCast]at h3;omega
       .exact h6
      have hqn:n≠q:=λe=>h4 ⟨hkk,by rw[hq,e]⟩
      rw[hq,Int.toNat_natCast];show((shop[k]!.es.set n x)[q]!).sum=_;rw[getElem!_pos _ q (by rw[List.length_set];exact hql),List.getElem_set_ne hqn,<-getElem!_pos _ q hql]
     .rfl
def RF (h:Oth shop k n x)(hs:dr shop=true){w:bP}{c:List Int}(hq:wC w)(hm:ey w c=true)(hh:jh w c=[])(hl:(dx shop w c).2=0){g:au}:∀(K:List Nat) (s:List Int),(∀u∈K,u<w.us.length/\fq w.us c u=false)->(∀u∈K,VU shop w.us c k n u->w.us[u]!.name=g)->
  ((∀u∈K,¬VU shop w.us c k n u)->mz (lj shop k n x) w.us (vM shop w.us c K) s=mz shop w.us (vM shop w.us c K) s)/\((∃u∈K,VU shop w.us c k n u)->mz (lj shop k n x) w.us (vM shop w.us c K) s=([],13,g))
 |[],s,_,_=>⟨λ_=>rfl,λ⟨_,h,_⟩=>bZ⟩
 |u::r,s,hK,hg=>by
  obtain⟨_,e2⟩:=lL w.us.length hl;have hu:=hK u aC;have e3:=e2 u hu.1 hu.2;obtain⟨⟨a1,a2,a3⟩,a4,a5⟩:=LU hq hm hh hu.1 hu.2 e3;obtain⟨b1,b2,b3,_⟩:=fw e3;have ih:=RF h hs hq hm hh hl (g:=g) r (vW c s (CR w.us (c9 shop w.us c u (cj w.us c u)).1)) (λv hv=>hK v (by simp[hv])) (λv hv=>hg v (by simp[hv]));have hx:=ad2 h hs e3;have hun:fM w.us w.us[u]!.name []=(u:Nat):=by
   have hsk:=hu.2;simp only[fq,ec,ct,cZ,aT]at hsk;have:=pk hq.val (i:=u) ae hu.1;rw[hsk.2]at this;exact this
  have hcu:w.us[(fM w.us (c9 shop w.us c u (cj w.us c u)).1.name []).toNat]!.cands[c[(fM w.us (c9 shop w.us c u (cj w.us c u)).1.name []).toNat]!.toNat]! =cj w.us c u:=by
   rw[b1,hun,Int.toNat_natCast];rfl
  have hput:kT shop w.us (c9 shop w.us c u (cj w.us c u)).1 s=(0,vW c s (CR w.us (c9 shop w.us c u (cj w.us c u)).1)):=HS ⟨⟨a1,a2,a3⟩,a4,a5⟩;show((∀v∈u::r,¬VU shop w.us c k n v)->mz (lj shop k n x) w.us ((c9 shop w.us c u (cj w.us c u)).1::vM shop w.us c r) s=mz shop w.us ((c9 shop w.us c u (cj w.us c u)).1::vM shop w.us c r) s)/\((∃v∈u::r,VU shop w.us c k n v)->mz (lj shop k n x) w.us ((c9 shop w.us c u (cj w.us c u)).1::vM shop w.us c r) s=([],13,g));by_cases hh1:VU shop w.us c k n u
  .refine⟨λh1=>absurd hh1 (h1 u aC),λ_=>?_⟩;have hp:kT (lj shop k n x) w.us (c9 shop w.us c u (cj w.us c u)).1 s=(13,s):=by
    rw[kT,ah ae,a2,hcu,hx.1 hh1,ak aV]
   rw[mz,hp,ak (by show(13:Int)≠0;decide),b1,hg u aC hh1]
  .have hp:kT (lj shop k n x) w.us (c9 shop w.us c u (cj w.us c u)).1 s=(0,vW c s (CR w.us (c9 shop w.us c u (cj w.us c u)).1)):=HS ⟨⟨a1,a2,a3⟩,by rw[hcu];exact hx.2 hh1,a5⟩;constructor
   .intro h1;rw[mz,hp,ah aC,mz,hput,ah aC];exact ih.1 (λv hv=>h1 v (by simp[hv]))
   .rintro⟨v,hv,hv2⟩;rw[mz,hp,ah aC];refine ih.2 ⟨v, ?_,hv2⟩;rcases bG.1 hv with rfl|h5
    .exact absurd hv2 hh1
    .exact h5
end
def YP {l:List iQ}{v:bV}(h:qo l nm v 0=(n:Int)):n<l.length/\yz nm v l[n]! =true/\∀q,q<n->yz nm v l[q]! =false:=by
 unfold qo at h;rw[cY]at h;cases hf:l.findIdx? (yz nm v)with
 |none=>rw[hf]at h;simp at h
 |some k=>
  rw[hf]at h;have hkn:k=n:=by simp only[cr]at h;omega
  subst hkn;obtain⟨h1,h2,h3⟩:=List.findIdx?_eq_some_iff_getElem.1 hf;refine⟨h1,by rw[getElem!_pos l k h1];exact h2,λq hq=>?_⟩;rw[getElem!_pos l q ae];have:=h3 q hq;simpa using this
section
variable {shop:List bA}{x:iQ}{w:bP}{c:List Int}
def aeD (hs:dr shop=true){i:Nat}(hi:i<shop.length)(hj:j<shop.length)(e:shop[i]!.name=shop[j]!.name):i=j:=by
 simp only[dr,aA,bd,aT,sL]at hs;have h1:=(hs.2 i (Nat.zero_le _) hi).2;have h2:=(hs.2 j (Nat.zero_le _) hj).2;rw[e,h2]at h1;omega
def Lz (hk:k<shop.length){u:Nat}(h:VU shop w.us c k n u):w.us[u]!.name=shop[k]!.es[n]!.r.name/\A4 shop[k]!.es[n]!.r.v (cj w.us c u).v=true:=by
 obtain⟨_,h2⟩:=h;unfold fG at h2;split at h2
 .omega
 .obtain⟨_,h3,_⟩:=YP h2;simp only[yz,aA,aT]at h3;exact⟨h3.1.symm,h3.2⟩
def Fh (shop:List bA)(k n:Nat)(ls:List ea):Prop:=0<=iX ls shop[k]!.es[n]!.r.name 0/\ls[(iX ls shop[k]!.es[n]!.r.name 0).toNat]!.shelf=shop[k]!.name/\A4 ls[(iX ls shop[k]!.es[n]!.r.name 0).toNat]!.v shop[k]!.es[n]!.r.v=true
def XW (hq:wC w)(hm:ey w c=true)(hh:jh w c=[])(hl:(dx shop w c).2=0)(hs:dr shop=true)(hk:k<shop.length)(hn:n<shop[k]!.es.length)(hV:∀s∈shop,∀y∈s.es,y.r.v∈bF):
  Fh shop k n (dx shop w c).1↔∃u∈er w.us c,VU shop w.us c k n u:=by
 obtain⟨_,e2⟩:=lL w.us.length hl;have hvn:shop[k]!.es[n]!.r.v∈bF:=hV _ (aq hk) _ (aq hn);have hsB:fO shop[k]! =true:=by
  simp only[dr,aA,bd,sL]at hs;exact(hs.2 k (Nat.zero_le _) hk).1
 have hcv:∀u∈er w.us c,(cj w.us c u).v∈bF:=λu hu=>by
  obtain⟨h1,h2⟩:=kr.1 hu;simp only[fq,ec,ct,cZ,aT]at h2;have:=((Cr hm).2 u h1).2;exact hq.ver u ae h1 _ (aq ae)
 constructor
 .rintro⟨h1,h2,h3⟩

  have hex:∃p:Nat,p<(er w.us c).length/\iX (dx shop w c).1 shop[k]!.es[n]!.r.name 0=(p:Int)/\w.us[(er w.us c)[p]!]!.name=shop[k]!.es[n]!.r.name:=by
   have hll:(dx shop w c).1.length=(er w.us c).length:=by rw[mA hl];unfold vM;rw[a8]
   unfold iX at h1⊢;rw[cY]at h1⊢;cases hf:(dx shop w c).1.findIdx? (λy=>decide (y.name=shop[k]!.es[n]!.r.name))with
   |none=>rw[hf]at h1;simp at h1
   |some p=>
    obtain⟨g1,g2,_⟩:=List.findIdx?_eq_some_iff_getElem.1 hf;refine⟨p,ae,aC, ?_⟩;have g3:(dx shop w c).1[p]!.name=shop[k]!.es[n]!.r.name:=by rw[getElem!_pos _ p g1];simpa using g2
    have hp:p<(er w.us c).length:=ae;have hkm:=kr.1 (aq hp);rw[mA hl,tn hp,(fw (e2 _ hkm.1 hkm.2)).1]at g3;exact g3
  obtain⟨p,hp,hpf,hpn⟩:=hex;have hmem:=aq hp;have hkm:=kr.1 hmem;have e3:=e2 _ hkm.1 hkm.2;rw[hpf,Int.toNat_natCast,mA hl,tn hp]at h2 h3;refine⟨(er w.us c)[p]!,hmem, ?_⟩;rw[(fw e3).2.1]at h3;have hvv:(cj w.us c (er w.us c)[p]!).v=shop[k]!.es[n]!.r.v:=Yr _ (hcv _ hmem) _ hvn h3;unfold c9 at h2 e3;have hnk:df shop[k]!.name=true:=by
   simp only[fO,aA]at hsB;exact hsB.1.1
  split at h2
  .exact absurd h2.symm (RQ hnk)
  .rename_i h4;rw[ah h4]at e3;split at e3
   .cases e3
   .rename_i h5;rw[ah h5]at h2;split at e3
    .cases e3
    .rename_i h6;rw[ah h6]at h2;have h2:shop[(cj w.us c (er w.us c)[p]!).sh.toNat]!.name=shop[k]!.name:=h2;have hjk:=aeD hs ae hk h2;have hsh:(cj w.us c (er w.us c)[p]!).sh=(k:Int):=ae;refine⟨hsh, ?_⟩;rw[hsh,Int.toNat_natCast]at h6;rw[hpn,hvv]at h6⊢;obtain⟨q,hq2,hql⟩:=(tf (s:=shop[k]!) (nm:=shop[k]!.es[n]!.r.name) (v:=shop[k]!.es[n]!.r.v)).resolve_left ae;rw[hq2];unfold fG at hq2;rw[ah (by rw[hsB];simp)]at hq2;obtain⟨_,g1,g2⟩:=YP hq2;have hin:yz shop[k]!.es[n]!.r.name shop[k]!.es[n]!.r.v shop[k]!.es[n]! =true:=by
      unfold yz;rw[Yt _ hvn];simp
     rcases Nat.lt_trichotomy q n with g3|g3|g3
     .exfalso

      simp only[fO,aA,bd]at hsB;have hen:=hsB.2 n (Nat.zero_le _) hn;simp only[pJ,aA,aT]at hen;have h7:=Pg.1 hen.2 shop[k]!.es[q]! (by
       rw[List.mem_iff_getElem];exact⟨q,by rw[dF];omega,by rw[List.getElem_take,getElem!_pos _ q hql]⟩)
      rw[g1]at h7;cases h7
     .rw[g3]
     .have:=g2 n g3;rw[hin]at this;cases this
 .rintro⟨u,hu,hhit⟩;obtain⟨h1,h2⟩:=Lz hk hhit;have hkm:=kr.1 hu;have hsk:=hkm.2;simp only[fq,ec,ct,cZ,aT]at hsk;obtain⟨p,hp,hpf,hpv⟩:=(Qm hq hm hh hl (u:=u) ae hkm.1).2 ae;unfold Fh;rw[<-h1,hpf,Int.toNat_natCast];have hll:(dx shop w c).1.length=(er w.us c).length:=by rw[mA hl];unfold vM;rw[a8]
  have hp':p<(er w.us c).length:=ae;have hm2:=kr.1 (aq hp')

  have hpn:w.us[(er w.us c)[p]!]!.name=w.us[u]!.name:=by
   have g1:=hpf;unfold iX at g1;rw[cY]at g1;cases hf:(dx shop w c).1.findIdx? (λy=>decide (y.name=w.us[u]!.name))with
   |none=>rw[hf]at g1;simp at g1
   |some p2=>
    rw[hf]at g1;have hpe:p2=p:=by simp only[cr]at g1;omega
    subst hpe;obtain⟨g2,g3,_⟩:=List.findIdx?_eq_some_iff_getElem.1 hf;have g4:(dx shop w c).1[p2]!.name=w.us[u]!.name:=by rw[getElem!_pos _ p2 g2];simpa using g3
    rw[mA hl,tn hp',(fw (e2 _ hm2.1 hm2.2)).1]at g4;exact g4
  have hpu:(er w.us c)[p]! =u:=by
   have hs2:=hm2.2;simp only[fq,ec,ct,cZ,aT]at hs2;have a1:=pk hq.val (i:=(er w.us c)[p]!) ae hm2.1;have a2:=pk hq.val (i:=u) ae hkm.1;rw[hs2.2,hpn]at a1;rw[hsk.2]at a2;omega
  refine⟨ae, ?_, ?_⟩
  .rw[mA hl,tn hp',hpu];have e3:=e2 u hkm.1 hkm.2;unfold c9 at e3⊢;rw[ah (by rw[hhit.1];omega)]at e3⊢;split at e3
   .cases e3
   .rename_i h5;rw[ah h5];split at e3
    .cases e3
    .rename_i h6;rw[ah h6];show shop[(cj w.us c u).sh.toNat]!.name=_;rw[hhit.1,Int.toNat_natCast]
  .rw[hpv];have:=Yr _ hvn _ (hcv u hu) h2;rw[<-this];exact Yt _ hvn
def Us {e:Env}(hq:wC w)(hn:N2 w)(h0:0<=c[0]!)(h:(wv shop e w c).2=0)(ho:Oth shop k n x)(hV:∀s∈shop,∀y∈s.es,y.r.v∈bF):
  (Fh shop k n (wv shop e w c).1.lines->wQ (lj shop k n x) e w (wv shop e w c).1=(13,shop[k]!.es[n]!.r.name))/\(¬Fh shop k n (wv shop e w c).1.lines->wQ (lj shop k n x) e w (wv shop e w c).1=(0,[])):=by
 obtain⟨h1,hm,hh,hl,he⟩:=Pb h;rw[he];have hmay:=RB (e:=e) hq hn h1.1.2 h1.2 hm hl;have hhit:=XW hq hm hh hl h1.1.2 ho.hk ho.hn hV;have hc:jk (lj shop k n x) e w ⟨e,(dx shop w c).1⟩=mz (lj shop k n x) w.us (dx shop w c).1 (EH w.us.length w.us.length):=Wy ⟨⟨h1.1.1,YJ ho h1.1.2⟩,h1.2⟩ ⟨hmay,rfl⟩;have hlin:=RF ho h1.1.2 hq hm hh hl (g:=shop[k]!.es[n]!.r.name) (er w.us c) (EH w.us.length w.us.length) (λu hu=>kr.1 hu) (λu hu hx=>(Lz ho.hk hx).1);rw[<-mA hl]at hlin;constructor
 .intro hL;have h3:=hlin.2 (hhit.1 hL);rw[h3]at hc;rw[afl (by rw[hc];show ¬((13:Int)=0);decide),hc]
 .intro hL;have h3:=hlin.1 (λu hu hx=>hL (hhit.2 ⟨u,hu,hx⟩));rw[h3,LS hq hm hh h0 hl]at hc;exact Ww (by rw[hc]) (by rw[hc];show(jh w c).length=0;rw[hh];rfl)
end
def aaI:lu:=⟨[122,111,111],[42],[]⟩
def Eo (r:Rec):Rec:={r with bars:=r.bars++[aaI]}
def Qr (x:iQ):iQ:=⟨Eo x.r,qY (Eo x.r),x.off⟩
def aaK {r:Rec}(h:gI r):gI (Eo r):=by
 obtain⟨h1,h2,h3,h4⟩:=h;refine⟨h1,h2,λb hb=>?_,h4⟩;rcases List.mem_append.1 hb with h|h
 .exact h3 b h
 .rw[aD.1 h];exact⟨aV,by unfold jX;decide,by unfold og;decide⟩
section
variable {shop:List bA}
def aeS (hk:k<shop.length)(hn:n<shop[k]!.es.length)(hp:(ez (Eo shop[k]!.es[n]!.r)).2=0)(hs:¬qY (Eo shop[k]!.es[n]!.r)=shop[k]!.es[n]!.sum):Oth shop k n (Qr shop[k]!.es[n]!):=⟨hk,hn,rfl,rfl,hp,rfl,hs⟩
def aaJ (h:iH shop)(hk:k<shop.length)(hn:n<shop[k]!.es.length):iH (lj shop k n (Qr shop[k]!.es[n]!)):=by
 intro s hs y hy;unfold lj at hs;rcases List.mem_or_eq_of_mem_set hs with h1|rfl
 .exact h s h1 y hy
 .rcases List.mem_or_eq_of_mem_set hy with h2|rfl
  .exact h _ (aq hk) y h2
  .exact aaK (h _ (aq hk) _ (aq hn))
def Z8 (hs:dr shop=true)(hk:k<shop.length):shop[k]!.es.length<=64/\∀n,n<shop[k]!.es.length->shop[k]!.es[n]!.r.bars.length<=8:=by
 simp only[dr,aA,bd,sL]at hs;have h1:=(hs.2 k (Nat.zero_le _) hk).1;simp only[fO,aA,bd,aT]at h1;refine⟨h1.1.2,λn hn=>?_⟩;have h2:=h1.2 n (Nat.zero_le _) hn;simp only[pJ,aA,aT]at h2;have h3:(cQ shop[k]!.es[n]!.r).1=0:=by
  have:=h2.1.1;unfold ez at this;split at this
  .assumption
  .rename_i h;simpa using h
 exact(ki h3).2.1.2
def U7 (ks:List Int)(most:Int):(b8 ks most).length=2:=(HP _ _).2
def W9 {l:List ea}(h:0<=iX l nm 0):(iX l nm 0).toNat<l.length:=by
 unfold iX at h⊢;rw[cY]at h⊢;cases hf:l.findIdx? (λy=>decide (y.name=nm))with
 |none=>rw[hf]at h;simp at h
 |some p=>obtain⟨g1,_⟩:=List.findIdx?_eq_some_iff_getElem.1 hf;simp;omega
def akd (hk:k<shop.length)(X c:Nat):(shop.map bA.D).set (0+k) (rO ((shop.map bA.D).getD (0+k) .any) 2 1 1 (.own X 11 0 c))=(shop.map bA.D).set k (.agg [.str shop[k]!.name,.own X 11 0 c]):=by
 rw[cr,getD_map hk];rfl
def akc (hk:k<shop.length)(v:D):((shop.map bA.D).set k (.agg [.str shop[k]!.name,v])).getD (0+k) .any=.agg [.str shop[k]!.name,v]:=by
 rw[cr,List.getD_eq_getElem?_getD,List.getElem?_set_self (by rw[a8];exact hk)];rfl
def Rs (l c:Nat)(es:List D)(d:D):∀(xs:List D) (t:Nat),mN l c es (xs.set t d)=(mN l c es xs).set t (iY l c es d)
 |[],_=>rfl
 |_::_,0=>rfl
 |x::xs,t+1=>by simp only[List.set_cons_succ,mN,Rs l c es d xs t]
def akb (X:Nat)(z:iQ):mN X 11 ((shop[k]!.es.set n z).map iQ.D) ((shop.map bA.D).set k (.agg [.str shop[k]!.name,.own X 11 0 (shop[k]!.es.set n z).length]))=(lj shop k n z).map bA.D:=by
 rw[Rs,jM X 11 _ _ (bX (λs=>by simp only[bA.D,D.aR,aK,gC]) _)];unfold lj;generalize shop[k]!.es.set n z=q;rw[List.map_set];simp only[iY,mN,cr,a8,aN,ir,bh,cY,bH];rfl
end
def aem (g:Gs)(nm:au)(v:bV):oX 60 g (ph g nm v 3).2:=by
 have r:=(g.SN (3+1)).1 ae;have h1:=xw nm g.aS (g.val (3+1)).toNat;have h2:=GX (nS nm g.aS (g.val (3+1)).toNat).2 nm;have h3:=G8 (eJ (nS nm g.aS (g.val (3+1)).toNat).2 nm).2 (nS nm g.aS (g.val (3+1)).toNat).1;show oX 60 g (lC (eJ (nS nm g.aS (g.val (3+1)).toNat).2 nm).2 (nS nm g.aS (g.val (3+1)).toNat).1).2;rw[h1.2]at h3;have h4:=h1.1;unfold oX at*
 simp only[Gs.Ym]at*
 omega
section
variable {g:Gs}
def akj (h:g.val 4=0):j8 g=([⟨cF[(g.aS.val 4).toNat]!,DU⟩],g.aS.aS):=ak h
def aki (h:¬g.val 4=0):j8 g=([],g.aS):=ah h
def adn (h:g.val 4=0):Cx g=([⟨cF[(g.aS.val 4).toNat]!,kd[(g.aS.aS.val 8).toNat]!⟩],g.aS.aS.aS):=ak h
def adm (h:¬g.val 4=0):Cx g=([],g.aS):=ah h
def ad5 (g:Gs):oX 2 g (j8 g).2:=by unfold j8 oX;split<;>simp only[Gs.aS]<;>omega
end
def Jb:=∀(l:List gW) (nm:au),T [.sl 11 (l.map gW.D),.str nm] (.int .i64 (lR l nm))
def C356:Prop:=Jb (aG Z 356)
def I7:=∀(l:List iN),T [.sl 2 (l.map iN.D)] (.tup [.int .i64 (Dc l).1,.int .i64 (Dc l).2])
def C344:Prop:=I7 (aG Z 344)
def I8:=∀(l:List kE),(∀x∈l,jX x.range)->T [.sl 2 (l.map kE.D)] (.tup [.int .i64 (Cy l).1,.int .i64 (Cy l).2])
def C345:Prop:=I8 (aG Z 345)
def IL:=∀(m:gW),(X5 m)->T [gW.D m] (.tup [.int .i64 (kH m).1,.int .i64 (kH m).2])
def C136:Prop:=IL (aG Z 136)
def Qt:=∀(ks:List Int),T [.sl 1 (ks.map (D.int .i64))] (.sl 11 ([gu ks].map gW.D))
def C28:Prop:=Qt (aG Z 28)
def Ji:=∀(c:List Int) (x:dY),(KR c x)->T [.sl 1 (c.map (D.int .i64)),dY.D x] (.bool (C1 c x))
def C416:Prop:=Ji (aG Z 416)
def IU:=∀(c:List Int) (l:List dY),(∀x∈l,KR c x)->T [.sl 1 (c.map (D.int .i64)),.sl 2 (l.map dY.D)] (.bool (ko c l))
def C184:Prop:=IU (aG Z 184)
def J8:=∀(al:List Int) (u:Int) (p:Int),(al=[])->T [.sl 1 (al.map (D.int .i64)),.int .i64 u,.int .i64 p] (.bool true)
def C829:Prop:=J8 (aG Z 829)
def JS:=∀(m:kg) (al:List Int) (c:List Int),((wA m/\KG m c)/\al=[])->T [kg.D m,.sl 1 (al.map (D.int .i64)),.sl 1 (c.map (D.int .i64))] (.bool (yG m c))
def C692:Prop:=JS (aG Z 692)
def J9:=∀(od:List (List Int)) (u:Int) (n:Nat),(((0<=u/\u<=1000)/\n<=16)/\(cR od u).length<=16)->T [.sl 1 (od.map jS),.int .i64 u,.int .i64 ((n:Nat):Int)] (.sl 1 ((cG (cR od u) n n).map (D.int .i64)))
def C830:Prop:=J9 (aG Z 830)
def Ka:=∀(l:List dY) (o:dY),T [.sl 2 (l.map dY.D),dY.D o] (.bool (offB l o))
def C831:Prop:=Ka (aG Z 831)
def JT:=∀(m:kg) (al:List Int) (c:List Int),((wA m/\KG m c)/\al=[])->T [kg.D m,.sl 1 (al.map (D.int .i64)),.sl 1 (c.map (D.int .i64))] (.tup [.int .i64 (ef m c).1,.int .i64 (ef m c).2])
def C693:Prop:=JT (aG Z 693)
def JU:=∀(m:kg) (al:List Int) (od:List (List Int)) (c:List Int),((wA m/\KG m c)/\al=[]/\yC m od)->T [kg.D m,.sl 1 (al.map (D.int .i64)),.sl 1 (od.map jS),.sl 1 (c.map (D.int .i64))] (.sl 2 ((eh m od c).map dY.D))
def C694:Prop:=JU (aG Z 694)
def Ta:=∀(m:kg) (od:List (List Int)) (c:List Int),((wA m/\KG m c)/\yC m od)->T [kg.D m,Ask.D ⟨[],od⟩,.sl 1 (c.map (D.int .i64))] (O9 (mH m od c))
def C505:Prop:=Ta (aG Z 505)
def afa (Y:Ctx)(u:Nat):=∀(m:kg) (od:List (List Int)) (c:List Int),((wA m/\KG m c)/\yC m od)->E2 c<u->Y.pre 505 [kg.D m,Ask.D ⟨[],od⟩,.sl 1 (c.map (D.int .i64))]/\Y.val 505 [kg.D m,Ask.D ⟨[],od⟩,.sl 1 (c.map (D.int .i64))]=O9 (mH m od c)
def IS:=∀(w:bP) (l:List Want),(w.sm/\(∀x∈l,x.sm)/\l.length<=1000)->T [bP.D w,.sl 3 (l.map Want.D)] (.sl 2 ((eF w.us l).map dY.D))
def C183:Prop:=IS (aG Z 183)
def Qv:=∀(w:bP),((w.sm/\w.us.length<=1000)/\Few w.us)->T [bP.D w] ((dy w.us).D)
def C46:Prop:=Qv (aG Z 46)
def I2:=∀(w:bP) (od:List (List Int)),((((w.sm/\w.us.length<=1000)/\Few w.us)/\eG w=true)/\yC (dy w.us) od)->T [bP.D w,Ask.D ⟨[],od⟩] (O9 (kJ w.us od))
def C267:Prop:=I2 (aG Z 267)
def I3:=∀(w:bP) (l:List Int),(w.sm/\w.us.length<=1000)->T [bP.D w,.sl 1 (l.map (D.int .i64))] (.sl 1 ((iV w.us l).map jS))
def C268:Prop:=I3 (aG Z 268)
def IK:=∀(w:bP),(w.sm)->T [bP.D w] (.int .i64 ((Dd w.us:Nat):Int))
def C114:Prop:=IK (aG Z 114)
def JG:=∀(l:List iN) (p:iN),(l.length<=10000)->T [.sl 2 (l.map iN.D),iN.D p] (.tup [.sl 2 ((lQ l p).1.map iN.D),.bool (lQ l p).2])
def C581:Prop:=JG (aG Z 581)
def IM:=∀(l:List gW),(wD l)->T [.sl 11 (l.map gW.D)] (.tup [.int .i64 0,.int .i64 0])
def Vz:Prop:=IM (aG Z 143)
def Er:=∀(l:List gW) (nm:au),(wD l)->T [.sl 11 (l.map gW.D),.str nm] (.int .i64 (lR l nm))
def aeY:Prop:=Er (aG Z 1012)
def EA:=∀(s:bA) (nm:au),T [bA.D s,.str nm] (.bool (Cv nm s))
def ae9:Prop:=EA (aG Z 1121)
def C361:Prop:=tW (aG Z 361)
def Ez:=∀(l:List iN),T [.sl 2 (l.map iN.D)] (.bool (Ad l))
def ae8:Prop:=Ez (aG Z 1120)
def Ew:=∀(shop:List bA) (ps:List iN) (nm:au),(iH shop)->T [.sl 2 (shop.map bA.D),.sl 2 (ps.map iN.D),.str nm] (.tup [.int .i64 (gr shop ps nm).1,.int .i64 (gr shop ps nm).2])
def ae5:Prop:=Ew (aG Z 1083)
def Ey:=∀(s:bA) (nm:au),(∀x∈s.es,gI x.r)->T [bA.D s,.str nm] (.sl 1 ((kq s nm).map (D.int .i64)))
def ae6:Prop:=Ey (aG Z 1084)
def Es:=∀(shop:List bA) (ps:List iN) (nm:au),(iH shop)->T [.sl 2 (shop.map bA.D),.sl 2 (ps.map iN.D),.str nm] (.tup [.int .i64 (cJ shop ps nm).1,.sl 1 ((cJ shop ps nm).2.1.map (D.int .i64)),.int .i64 (cJ shop ps nm).2.2])
def aeZ:Prop:=Es (aG Z 1013)
def Et:=∀(l:List gW) (nm:au),(wD l)->T [.sl 11 (l.map gW.D),.str nm] (.tup [cx.D (kM l nm),.int .i64 0])
def ae0:Prop:=Et (aG Z 1014)
def Eu:=∀(y:cC) (ns:List au) (r:Rec),((∀k∈y.keeps,k.v.sm)/\r.v.sm)->T [cC.D y (fdR y ns),Rec.D r] (.bool (LI y.keeps r))
def ae1:Prop:=Eu (aG Z 1015)
def C909:=∀(y:cC) (ns:List au) (nm:au),pB y->N0 Z 909 y (λf=>[cC.D y f,.str nm]) ns ns (uG (dL y nm))
def C755:=∀(y:cC) (ns:List au) (nm:au),pB y->ns.length<=1000->N0 Z 755 y (λf=>[cC.D y f,.str nm]) ns (eU ns nm) (uG (dL y nm))
def C752:=∀(y:cC) (ns:List au) (k:Key),pB y->ns.length<=999->N0 Z 752 y (λf=>[cC.D y f,Key.D k]) ns (eU ns k.n) (uG (eO y k))
def C751:=∀(y:cC) (ns:List au),(∀m∈y.l,m.r.v∈bF)->y.l.length<=1000->N0 Z 751 y (λf=>[cC.D y f]) ns ns (.sl 1 ((eL y.l).map dS))
def Kd:=∀(a:Key) (b:Key),T [Key.D a,Key.D b] (.bool (eY a b))
def C902:Prop:=Kd (aG Z 902)
def Ev:=∀(x:de),(x.feats.length<=10000)->T [de.D x] (.sl 2 ((ff x).map Key.D))
def ae4:Prop:=Ev (aG Z 1080)
def Ep:=∀(n:bn),(wB n/\n.sm)->T [bn.D n] (.sl 1 ((iM n).map dS))
def Vw:Prop:=Ep (aG Z 1009)
def Kh:=∀(r:Rec) (e:Env) (nm:au) (ft:au),(BX r/\lz e)->T [Rec.D r,Env.D e,.str nm,.str ft] (.sl 1 ((ja r.needs e nm ft).map dS))
def C906:Prop:=Kh (aG Z 906)
def Kf:=∀(r:Rec) (e:Env) (o:au),(BX r/\lz e)->T [Rec.D r,Env.D e,.str o] (.sl 1 ((qM r.needs e o).map dS))
def C904:Prop:=Kf (aG Z 904)
def Kg:=∀(l:List b6) (nm:au),T [.sl 2 (l.map b6.D),.str nm] (.sl 1 ((uT l nm).map D.str))
def C905:Prop:=Kg (aG Z 905)
def J1:=∀(r:Rec) (e:Env) (ft:au),((BX r/\r.v∈bF)/\lz e)->T [Rec.D r,Env.D e,.str ft] (.sl 1 ((cM r e ft).map dS))
def C753:Prop:=J1 (aG Z 753)
def Ke:=∀(l:List Key) (k:Key),T [.sl 2 (l.map Key.D),Key.D k] (.int .i64 (eo l k))
def C903:Prop:=Ke (aG Z 903)
def J0:=∀(all:List Key) (l:List fS),(l.length<=1000/\∀r∈l,r.length<=1000)->T [.sl 2 (all.map Key.D),.sl 1 (l.map dS)] (.sl 1 ((dG all l).map jJ))
def C750:Prop:=J0 (aG Z 750)
def J2:=∀(all:List Key) (r:Rec) (e:Env),(BX r/\lz e)->T [.sl 2 (all.map Key.D),Rec.D r,Env.D e] (.sl 3 ((wJ all r e).map Want.D))
def C754:Prop:=J2 (aG Z 754)
def C583:=∀(y:cC) (ns:List au) (all:List Key) (k:Key),(qq y/\lz y.e)->ns.length<=990->N0 Z 583 y (λf=>[cC.D y f,.sl 2 (all.map Key.D),Key.D k]) ns (jz ns k) (rW y all k)
def C748:=∀(y:cC) (ns:List au) (k:Key),(qq y/\lz y.e)->ns.length<=998->N0 Z 748 y (λf=>[cC.D y f,Key.D k]) ns (jz ns k) (.sl 1 ((dc y k).map dS))
def JZ:=∀(l:List Key) (k:Key),(l.length<=200000)->T [.sl 2 (l.map Key.D),Key.D k] (.sl 2 ((sA l k).map Key.D))
def C749:Prop:=JZ (aG Z 749)
def C582:=∀(y:cC) (ns:List au),(qq y/\lz y.e)->ns.length<=900->N0 Z 582 y (λf=>[cC.D y f]) ns (sB y 49 nE ns) (qQ y)
def C362:=∀(y:cC),(qq y/\lz y.e)->WldC Z 362 y (zt y)
def Jc:=∀(l:List gW),(wD l)->T [.sl 11 (l.map gW.D)] (.tup [.sl 2 ((gG l).map iN.D),.int .i64 0])
def C360:Prop:=Jc (aG Z 360)
def IN:=∀(l:List gW) (shop:List bA) (e:Env) (ks:List Kp),(qq (yp l shop e ks)/\lz e)->T [.sl 11 (l.map gW.D),.sl 2 (shop.map bA.D),Env.D e,.sl 6 (ks.map Kp.D)] (.tup [bP.D (gP l shop e ks).1,.int .i64 (gP l shop e ks).2])
def C147:Prop:=IN (aG Z 147)
def Jx:=∀(w:bP) (c:List Int),(w.sm)->T [bP.D w,.sl 1 (c.map (D.int .i64))] (.sl 1 ((fo w c).map D.bool))
def C506:Prop:=Jx (aG Z 506)
def I4:=∀(w:bP) (c:List Int),(w.sm)->(c.length<=1000)->T [bP.D w,.sl 1 (c.map (D.int .i64))] (.sl 1 ((rI w c).map (D.int .i64)))
def C269:Prop:=I4 (aG Z 269)
def Qy:=∀(m:gW) (shop:List bA) (e:Env) (os:List Int),(qq (IH m shop e)/\lz e)->T [.sl 11 ([m].map gW.D),.sl 2 (shop.map bA.D),Env.D e,.sl 1 (os.map (D.int .i64))] (.tup [bP.D (cB m shop e os).1,.sl 1 ((cB m shop e os).2.1.map (D.int .i64)),.bool (cB m shop e os).2.2])
def C91:Prop:=Qy (aG Z 91)
def Jy:=∀(w:bP) (c:List Int) (nm:au),((1<=w.us.length/\w.us.length<=1000)/\w.us.length<=c.length)->T [bP.D w,.sl 1 (c.map (D.int .i64)),.str nm] (.sl 1 ((fU w.us c nm w.us.length).map D.str))
def C507:Prop:=Jy (aG Z 507)
def I5:=∀(shop:List bA) (e:Env) (w:bP) (c:List Int),(OfP shop w c)->T [.sl 2 (shop.map bA.D),Env.D e,bP.D w,.sl 1 (c.map (D.int .i64))] (.tup [lI.D (wv shop e w c).1,.int .i64 (wv shop e w c).2])
def C270:Prop:=I5 (aG Z 270)
def Qz:=∀(shop:List bA) (e:Env) (w:bP) (c:List Int),(OfP shop w c)->T [.sl 2 (shop.map bA.D),Env.D e,bP.D w,.sl 1 (c.map (D.int .i64))] (.tup [lI.D (wv shop e w c).1,.bool (decide ((wv shop e w c).2=0))])
def C92:Prop:=Qz (aG Z 92)
def EB:=∀(ys:List Int) (ss:List Int) (os:List Int) (n:Int) (at1:Int),T [.sl 1 (ys.map (D.int .i64)),.sl 1 (ss.map (D.int .i64)),.sl 1 (os.map (D.int .i64)),.int .i64 n,.int .i64 at1] (.bool true)
def aO {p:Prop}(h:p:=by((repeat intro _);exact okp WD (.inl (by assumption)) λT hT=>(by apply hT<;>assumption))):p:=h
def aI {t:List (Nat×mL)}{key u q:Nat}:((under t key u).at q).bU:=Gu t key u q
def dA {a:Option α}{b c:α}(h:a=some b)(e:b=c:=by kernel_rfl):a=some c:=h.trans (congrArg some e)
def zvI {k:IntKind}{n:Int}(h:a=.int k n):a=.int k n:=h
def zvS {s:List UInt8}(h:a=.str s):a=.str s:=h
def zvB {s:Bool}(h:a=.bool s):a=.bool s:=h
def zvL {s:List D}(h:a=.sl k s):a=.sl k s:=h
def zvO {i:Nat}(h:a=.own l k i n):a=.own l k i n:=h
def zvP {i:Nat}(h:a=.ptr l k i n):a=.ptr l k i n:=h
def zvN (h:a=.aL):a=.aL:=h
def zw (q:α->D){x:α}(h:a=q x):a=q x:=h
def zvW {e:D}{o:Nat}{ag:Bool}(h:kP e k n o ag=e):kP e k n o ag=e:=h
def fold {v:D}(h:a=v:=by first|exact zvW rfl|exact zvI rfl|exact zvS rfl|exact zvB rfl|exact zvL rfl|exact zvO rfl|exact zvN rfl|exact zvP rfl|exact zw bV.D rfl|exact zw Cut.D rfl|exact zw Span.D rfl|exact zw cx.D rfl|exact zw Want.D rfl|exact zw Key.D rfl|exact zw iN.D rfl|exact zw kE.D rfl|exact zw de.D rfl|exact zw bn.D rfl|exact zw lu.D rfl|exact zw b6.D rfl|exact zw Rec.D rfl|exact zw iQ.D rfl|exact zw bA.D rfl|exact zw uz.D rfl|exact zw gW.D rfl|exact zw eB.D rfl|exact zw cI.D rfl|exact zw bP.D rfl|exact zw dY.D rfl|exact zw jt.D rfl|exact zw ea.D rfl|exact zw lI.D rfl|exact zw Env.D rfl|exact zw Kp.D rfl|exact zw js.D rfl):a=v:=h
def pO {F R:Prop}(h:Hid (F->q) wu)(a:F)(k:Hid q wu->R):R:=k ⟨h.1 a⟩
structure Hol {α:Type}(a:α):Prop
section
variable {Y:Ctx}{draw:Bool}{r:List GI}{rs:List aY}{m:List (Nat×bj)}{K:List aY->St->Prop}{g:Option (Nat×Bool)}{f:Bool}
def akD {o:Nat}{ag:Bool}{v:D}(h:ay Y draw r env (⟨f,v⟩::rs) nx m K)(hg:GF rs g f:=by exact cD)(hx:bQ env rs x=⟨fx,.ptr l k 0 o⟩:=by exact rfl)(kx:f=true->fx=true:=by exact bp)(hl:f=true->look m l=some (.buf k [d]):=by exact λ_=>rfl)(hv:kP d k n o ag=v:=by exact fold)(ho:o+n<=k:=by omega):ay Y draw (⟨.ld n ag x,g⟩::r) env rs nx m K:=oR v h hg hx kx hl (λ_=>hv) ho
def akG {i o:Nat}{ag:Bool}{v:D}[Inhabited α]{q:α->D}{xs:List α}(h:ay Y draw r env (⟨f,v⟩::rs) nx m K)(hg:GF rs g f:=by exact cD)(hx:bQ env rs x=⟨fx,.ref k (xs.map q) i o⟩:=by exact rfl)(kx:f=true->fx=true:=by exact bp)(hi:f=true->i<xs.length:=by exact rR)(hv:kP (q xs[i]!) k n o ag=v:=by exact fold)(ho:o+n<=k:=by omega):ay Y draw (⟨.ld n ag x,g⟩::r) env rs nx m K:=dh v h hg hx kx hi (λ_=>hv) ho
def akF {i o:Nat}{ag:Bool}{v:D}(h:ay Y draw r env (⟨f,v⟩::rs) nx m K)(hg:GF rs g f:=by exact cD)(hx:bQ env rs x=⟨fx,.ref k es i o⟩:=by exact rfl)(kx:f=true->fx=true:=by exact bp)(hi:f=true->i<es.length:=by intro _;simp only[List.length_cons,List.length_nil];omega)(hv:kP (es.getD i .any) k n o ag=v:=by exact fold)(ho:o+n<=k:=by omega):ay Y draw (⟨.ld n ag x,g⟩::r) env rs nx m K:=r_ldQ v h hg hx kx hi (λ_=>hv) ho
def akE {i o:Nat}{ag:Bool}{v:D}[Inhabited α]{q:α->D}{xs:List α}(h:ay Y draw r env (⟨f,v⟩::rs) nx m K)(hg:GF rs g f:=by exact cD)(hx:bQ env rs x=⟨fx,.ptr l k i o⟩:=by exact rfl)(kx:f=true->fx=true:=by exact bp)(hl:f=true->look m l=some (.buf k (xs.map q)):=by exact λ_=>rfl)(hi:f=true->i<xs.length:=by exact rR)(hv:kP (q xs[i]!) k n o ag=v:=by exact fold)(ho:o+n<=k:=by omega):ay Y draw (⟨.ld n ag x,g⟩::r) env rs nx m K:=xQ v h hg hx kx hl hi (λ_=>hv) ho
def aky {i:Nat}{v:D}(h:ay Y draw r env (⟨f,v⟩::rs) nx m K)(hg:GF rs g f:=by exact cD)(hx:bQ env rs x=⟨fx,.tup ds⟩:=by exact rfl)(kx:f=true->fx=true:=by exact bp)(hv:ds.getD i .any=v:=by simp only[List.getD_cons_zero,List.getD_cons_succ];exact rfl)(hb:f=true->i<ds.length:=by intro _;simp only[List.length_cons,List.length_nil];omega):ay Y draw (⟨.ext x i,g⟩::r) env rs nx m K:=kV v h hg hx kx (λ_=>hv) hb
def r_stW {o:Nat}{y:Src}{v:D}{m2:List (Nat×bj)}(h:ay Y draw r env (⟨true,.any⟩::rs) nx m2 K)(hx:bQ env rs x=⟨true,.ptr l k 0 o⟩:=by exact rfl)(hy:bQ env rs y=⟨true,v⟩:=by exact rfl)(hl:look m l=some (.buf k [d]):=by exact rfl)(hc:v.cells.length=n:=by exact rfl)(he:rO d k n o v=v:=by exact rfl)(ho:o+n<=k:=by omega)(hm:cT m l (.buf k [v])=m2:=by simp only[cT,c7,Nat.reduceEqDiff,if_true,if_false,Nat.reduceAdd,reduceCtorEq];exact rfl):ay Y draw (⟨.st n x y,none⟩::r) env rs nx m K:=cy v h hx hy hl hc he ho hm
def akx {y:Src}{fy:Bool}{ag:Bool}{ks:List CK}{b:D}{v:Bool}(h:ay Y draw r env (⟨f,.bool (v)⟩::rs) nx m K)(hg:GF rs g f:=by exact cD)(hx:bQ env rs x=⟨fx,a⟩:=by exact rfl)(hy:bQ env rs y=⟨fy,b⟩:=by exact rfl)(kx:f=true->fx=true:=by exact bp)(ky:f=true->fy=true:=by exact bp)(hb:ib a.cells b.cells=v:=by first|exact bV.eq _ _|exact Key.eqD _ _|exact eqBb _ _|exact iN.eq _ _|exact Env.eq _ _|exact Kp.eq _ _|exact lu.eq _ _|exact dY.eq _ _)(h1:f=true->a.isAgg=ag/\b.isAgg=ag/\fH ks a.cells/\fH ks b.cells:=by exact uJ):ay Y draw (⟨.eqA false ag ks x y,g⟩::r) env rs nx m K:=r_eqP h hb hg hx hy kx ky h1
def akw {y:Src}{fy:Bool}{ag:Bool}{ks:List CK}{b:D}{v:Bool}(h:ay Y draw r env (⟨f,.bool (!v)⟩::rs) nx m K)(hg:GF rs g f:=by exact cD)(hx:bQ env rs x=⟨fx,a⟩:=by exact rfl)(hy:bQ env rs y=⟨fy,b⟩:=by exact rfl)(kx:f=true->fx=true:=by exact bp)(ky:f=true->fy=true:=by exact bp)(hb:ib a.cells b.cells=v:=by first|exact bV.eq _ _|exact Key.eqD _ _|exact eqBb _ _|exact iN.eq _ _|exact Env.eq _ _|exact Kp.eq _ _|exact lu.eq _ _|exact dY.eq _ _)(h1:f=true->a.isAgg=ag/\b.isAgg=ag/\fH ks a.cells/\fH ks b.cells:=by exact uJ):ay Y draw (⟨.eqA true ag ks x y,g⟩::r) env rs nx m K:=r_eqN h hb hg hx hy kx ky h1
def aeg {y:Src}{fy:Bool}{a b:List UInt8}(h:ay Y draw r env (⟨f,.str (a++b)⟩::rs) nx m K)(hg:GF rs g f:=by exact cD)(hx:bQ env rs x=⟨fx,.str a⟩:=by exact rfl)(hy:bQ env rs y=⟨fy,.str b⟩:=by exact rfl)(kx:f=true->fx=true:=by exact bp)(ky:f=true->fy=true:=by exact bp)(hb:f=true->a.length+b.length<=9223372036854775807:=by intro _;simp only[List.length_append,List.length_cons,List.length_nil];omega):ay Y draw (⟨.bin .add x y,g⟩::r) env rs nx m K:=Pk h hg hx hy kx ky hb
theorem aeh {args:List Src}{sh:List (List Sh)}{v:D}(h:ay Y draw r env (⟨f,v⟩::rs) nx m K)(hg:GF rs g f:=by exact cD)(hc:f=true->Y.pre n (jm m sh (iS (bQ env rs) args))/\Y.val n (jm m sh (iS (bQ env rs) args))=v:=by intro hf;apply_assumption (transparency:=.default) (exfalso:=false) (symm:=false) only[*];(all_goals first|assumption|omega|(simp at hf;omega)|grind))(ho:f=true->BB (bQ env rs) args:=by exact uJ)(hp:f=true->jb m sh (iS (bQ env rs) args):=by exact uJ)(hk:f=true->qv (iS (bQ env rs) args) v=true:=by exact λ_=>rfl):ay Y draw (⟨.call n args sh,g⟩::r) env rs nx m K:=cv h hg hc (λ_=>rfl) ho hp hk
end
section
variable {Y:Ctx}{draw:Bool}{r:List GI}{rs:List aY}{m:List (Nat×bj)}{K:List aY->St->Prop}{g:GI}
def tgW {a:AC}(h:du Y a Q env st):du Y a Q env st:=h
def tgR (h:ay Y draw (g::r) env rs nx m K):ay Y draw (g::r) env rs nx m K:=h
def tgS {a:aj}(h:du Y a.body (N4 a d) (fQ a ds) ⟨0,[]⟩):du Y a.body (N4 a d) (fQ a ds) ⟨0,[]⟩:=h
def tgE (h:ay Y draw [] env rs nx m K):ay Y draw [] env rs nx m K:=h
def tgl1 {id:Nat}{a b:AC}(h:du Y (.seq (.block id (.loop a)) b) Q env st):du Y (.seq (.block id (.loop a)) b) Q env st:=h
def tgl2 {id:Nat}{a:AC}(h:du Y (.block id (.loop a)) Q env st):du Y (.block id (.loop a)) Q env st:=h
end
inductive Lc:List D->Nat->List aY->Prop
 |A {d:D} {ds:List D} {n:Nat} {e:List aY} (h:Lc ds n e):Lc (d::ds) n (⟨true,d⟩::e)
 |U {n n':Nat} {e:List aY} (hn:n=n'+1) (h:Lc [] n' e):Lc [] n (.un::e)
 |N {n:Nat} (hn:n=0):Lc [] n []
def Lc.eq {e:List aY}(h:Lc ds n e):(ds.map λd=>⟨true,d⟩)++List.replicate n .un=e:=by
 induction h with
 |A _ ih=>simp[ih]
 |U hn _ ih=>subst hn;simpa[List.replicate_succ]using ih
 |N hn=>subst hn;rfl
def zst0 {Y:Ctx}{a:aj}{e:List aY}(h:du (Y.at 0) a.body (N4 a d) e ⟨0,[]⟩)(he:Lc ds (a.ns-a.np) e:=by repeat(first|apply Lc.A|apply Lc.U (by exact rfl)|exact Lc.N (by exact rfl))):du (Y.at 0) a.body (N4 a d) (fQ a ds) ⟨0,[]⟩:=by
 unfold fQ;rw[he.eq];exact h
def zsx {Y:Ctx}{a:aj}(k:q)(h:Hid q wu->du (Y.at 0) a.body (N4 a d) (fQ a ds) ⟨0,[]⟩:=by intro h;refine zst0 ?_;(first|refine aP ?_|refine fY ?_|refine fZ ?_|refine po ?_|refine GB ?_|refine wp_ret ?_|refine mJ ?_ hm|refine lT ?_ hm|skip);exact h.1):du (Y.at 0) a.body (N4 a d) (fQ a ds) ⟨0,[]⟩:=h ⟨k⟩
def cO {p:Prop}(k:q)(h:Hid q wu->p:=by
 intro h;first
 |((with_reducible refine tgR ?_);first|(refine bI ?_;exact h.1)|(refine kW ?_;exact h.1)|(refine akD ?_;exact h.1)|(refine akG ?_;exact h.1)|(refine akF ?_;exact h.1)|(refine akE ?_;exact h.1)|(refine y9 ?_;exact h.1)|(refine akJ ?_;exact h.1)|(refine Pl ?_;exact h.1)|(refine Zg ?_;exact h.1)|(refine aeh ?_;exact h.1)|(refine xP ?_;exact h.1)|(refine Sg ?_;exact h.1)|(refine Ag ?_;exact h.1)|(refine uU ?_;exact h.1)|(refine Mt ?_;exact h.1)|exact HV λa=>(h.1:_->_) (a rfl rfl)|exact Po λa=>(h.1:_->_) (a rfl rfl)|exact HV λ_=>h.1|exact Po λ_=>h.1|(refine akH ?_;exact h.1)|exact cK _ h.1|exact akB h.1|exact F0 _ h.1|exact akC h.1|(refine Sj ?_;exact h.1)|(refine mb ?_;exact h.1)|(refine aeg ?_;exact h.1)|(refine BI ?_;exact h.1)|(refine r_stW ?_;exact h.1)|exact cy _ h.1|(refine pe ?_;exact h.1)|(refine akA ?_;exact h.1)|(refine pf ?_;exact h.1)|(refine akK ?_;exact h.1)|(refine HW ?_;exact h.1)|(refine akI ?_;exact h.1)|(refine HU ?_;exact h.1)|(refine akz ?_;exact h.1)|(refine aky ?_;exact h.1)|(refine akL ?_;exact h.1)|(refine akM ?_;exact h.1)|exact Dn λa=>(h.1:_->_) (a rfl rfl)|exact Dn λ_=>h.1|exact Ah _ h.1|exact Zj h.1|(refine cH ?_;exact h.1)|(refine akx ?_;exact h.1)|(refine akw ?_;exact h.1)|(refine r_rng ?_;exact h.1)|(refine r_s2b ?_;exact h.1)|(refine r_mkB ?_;exact h.1)|exact Zn _ h.1|exact Zq _ h.1|exact Zp _ h.1|exact Mu _ h.1|exact Zo _ _ h.1|exact Zr _ _ h.1|exact Zs _ h.1|exact Zu _ h.1|exact Zt _ _ h.1)
 |((with_reducible refine tgW ?_);first|((with_reducible refine tgS ?_);exact zsx h.1)|with_reducible exact aP h.1|with_reducible exact fY h.1|with_reducible exact fZ h.1|with_reducible exact po h.1|with_reducible exact GB h.1|with_reducible exact wp_ret h.1|with_reducible exact wp_skip h.1|with_reducible exact oA h.1|with_reducible exact wp_exit h.1|((fail_if_success with_reducible refine tgl1 ?_);with_reducible exact mJ h.1 hm)|((fail_if_success with_reducible refine tgl2 ?_);with_reducible exact lT h.1 hm))
 |((with_reducible refine tgE ?_);first|(refine rrrh ?_;exact h.1)|(refine rrrg ?_;exact h.1))
 |with_reducible exact BQ.normal h.1|with_reducible exact BQ.ret h.1|with_reducible exact LQ.normal h.1|with_reducible exact LQ.out h.1|with_reducible exact LQ.ret h.1|with_reducible exact BQ.out h.1|with_reducible exact NT.normal h.1|with_reducible exact NT.ret h.1|with_reducible exact Bj.normal h.1|with_reducible exact Bj.ret h.1|with_reducible exact NT.out h.1|with_reducible exact Bj.out h.1|with_reducible exact CQ.normal h.1|with_reducible exact CQ.ret h.1|with_reducible exact CQ.other h.1|((with_reducible refine BQ.other ?_ h.1);exact rfl)|((with_reducible refine LQ.other ?_ h.1);exact rfl)|((with_reducible refine NT.other ?_ h.1);exact rfl)|((with_reducible refine Bj.other ?_ h.1);exact rfl)):p:=h ⟨k⟩
def zg {p:Prop}(k:q)(h:Hid q wu->p:=by intro h;(repeat(refine cO ?_;try(intro a;apply pO h a;intro h)));exact h.1):p:=h ⟨k⟩
def zc {p q1 q2 c1 c2:Prop}(k1:c1->q1)(k2:c2->q2)(h:Hid (c1->q1) wu->Hid (c2->q2) wu->p:=by intro h1 h2;(repeat(refine cO ?_;try intro _));first|exact dP h1.1 h2.1|exact Bo h1.1 h2.1):p:=h ⟨k1⟩ ⟨k2⟩
def XG (σ:List (Nat×Nat))(l:Nat):Option Nat:=match σ with
 |[]=>none
 |(a,b)::r=>bif Nat.beq b l then some a else XG r l
def bo.nlx {l':Nat}{m:List (Nat×bj)}{es':List D}(h:bo lo c σ m r)(hi:XG σ l'=some l:=by exact rfl)(hl:mT lo σ l=some l':=by exact rfl)(hm:look m l=some (.buf k es):=by exact rfl)(he:es'=es:=by exact rfl)(hn:aK es=true:=by first|exact rfl|exact bX (λ_=>rfl) _):bo lo c σ m ((l',.buf k es')::r):=.nl l hl hm he hn h
def bo.eqx {l':Nat}{m:List (Nat×bj)}{es':List D}(h:bo lo c σ m r)(hi:XG σ l'=some l:=by exact rfl)(hl:mT lo σ l=some l':=by exact rfl)(hm:look m l=some (.buf k es):=by exact rfl)(he:qT lo σ es=some es':=by exact rfl):bo lo c σ m ((l',.buf k es')::r):=.eq l hl hm he h
def bo.rwx {l':Nat}{m:List (Nat×bj)}{s s':List UInt8}(h:bo lo c σ m r)(hi:XG σ l'=some l:=by exact rfl)(hl:mT lo σ l=some l':=by exact rfl)(hm:look m l=some (.row s):=by exact rfl)(hs:s'=s:=by exact rfl):bo lo c σ m ((l',.row s')::r):=.rw l hl hm hs h
def bo.blx {l' l1 l2 n':Nat}{u u':Bool}{m:List (Nat×bj)}(h:bo lo c σ m r)(hi:XG σ l'=some l:=by exact rfl)(hl:mT lo σ l=some l':=by exact rfl)(hm:look m l=some (.bld (some l1) n u):=by exact rfl)(h1:mT lo σ l1=some l2:=by exact rfl)(hn:n'=n:=by exact rfl)(hu:u'=u:=by exact rfl):bo lo c σ m ((l',.bld (some l2) n' u')::r):=.bl l hl hm h1 hn hu h
def zge {a b:List aY}(h:fD lo σ a b:=by repeat(first|exact fD.nil|refine fD.un ?_|refine fD.eq (by exact rfl) ?_|refine fD.nl (by exact rfl) (by exact rfl) ?_|refine fD.ni (Or.inr ⟨_,_,_,rfl⟩) ?_)):fD lo σ a b:=h
def zgm {m m':List (Nat×bj)}(h:bo lo c σ m m':=by repeat(first|exact bo.nil|refine bo.AW (by exact rfl) (by exact rfl) (by first|exact rfl|exact bX (λ_=>rfl) _) ?_|refine bo.NU (by exact rfl) (by exact rfl) (by exact rfl) ?_|refine bo.NV (by exact rfl) (by exact rfl) (by exact rfl) (by exact rfl) ?_|refine bo.nlx ?_|refine bo.eqx ?_|refine bo.rwx ?_|refine bo.blx ?_|refine bo.mt (by exact rfl) (by exact rfl) (by exact rfl) (by exact rfl) ?_)):bo lo c σ m m':=h
def zl0 {nx2:Nat}{m:List (Nat×bj)}{F:ι->List aY}{G:ι->List (Nat×bj)}{P:ι->Prop}{μ:ι->Nat}{i j:ι}(_:Hol j)(_:Hol σ)(hP:P j)(hm:μ j<μ i:=by(try dsimp only);omega)(hc:nx2=c:=by exact rfl)(h:gN lo c σ=true:=by exact rfl)(he:fD lo σ env (F j):=by exact zge)(hg:bo lo c σ m (G j):=by exact zgm):∃j,P j/\μ j<μ i/\aZ lo env ⟨nx,m⟩ (F j) ⟨nx2,G j⟩:=⟨j,hP,hm,aZ.to σ hc h he hg⟩
def zl {p:Prop}(j:ι)(σ:List (Nat×Nat))(k:q)(h:Hid q wu->Hol j->Hol σ->p:=by intro h a b;(repeat(refine cO ?_;try intro _));exact zl0 a b h.1):p:=h ⟨k⟩ ⟨⟩ ⟨⟩
def gM {p:Prop}(j:ι)(σ:List (Nat×Nat))(k:q)(h:Hid q wu->Hol j->Hol σ->p:=by intro h a b;(repeat(refine cO ?_;try intro _));exact zl0 a b ⟨by(try dsimp only);omega,h.1⟩):p:=h ⟨k⟩ ⟨⟩ ⟨⟩
def iy {p:Prop}(j:ι)(σ:List (Nat×Nat))(h:Hol j->Hol σ->p:=by intro a b;(repeat(refine cO ?_;try intro _));exact zl0 a b (by(try dsimp only);omega)):p:=h ⟨⟩ ⟨⟩
def zro {a:aj}{d2:D}{e:Ex}{m:List (Nat×bj)}(h:d2=d)(he:e.home:=by exact trivial)(h1:ow m env a.res:=by repeat' first|exact trivial|exact rfl|exact Nat.le_refl _|refine And.intro ?_ ?_)(h2:AI a env m:=by repeat' first|exact trivial|exact rfl|refine And.intro ?_ ?_)(h3:NR a env m=d2:=by exact rfl):N4 a d e env ⟨nx,m⟩:=P3 he h1 h2 (h3.trans h)
def zrb {a:aj}{d d2:Bool}{e:Ex}{m:List (Nat×bj)}(h:d2=d)(he:e.home:=by exact trivial)(h1:ow m env a.res:=by repeat' first|exact trivial|exact rfl|exact Nat.le_refl _|refine And.intro ?_ ?_)(h2:AI a env m:=by repeat' first|exact trivial|exact rfl|refine And.intro ?_ ?_)(h3:NR a env m=.bool d2:=by exact rfl):N4 a (.bool d) e env ⟨nx,m⟩:=zro (congrArg _ h) he h1 h2 h3
def zrs {a:aj}{d d2:List UInt8}{e:Ex}{m:List (Nat×bj)}(h:d2=d)(he:e.home:=by exact trivial)(h1:ow m env a.res:=by repeat' first|exact trivial|exact rfl|exact Nat.le_refl _|refine And.intro ?_ ?_)(h2:AI a env m:=by repeat' first|exact trivial|exact rfl|refine And.intro ?_ ?_)(h3:NR a env m=.str d2:=by exact rfl):N4 a (.str d) e env ⟨nx,m⟩:=zro (congrArg _ h) he h1 h2 h3
def zri {a:aj}{d d2:Int}{e:Ex}{m:List (Nat×bj)}(h:d2=d)(he:e.home:=by exact trivial)(h1:ow m env a.res:=by repeat' first|exact trivial|exact rfl|exact Nat.le_refl _|refine And.intro ?_ ?_)(h2:AI a env m:=by repeat' first|exact trivial|exact rfl|refine And.intro ?_ ?_)(h3:NR a env m=.int .i64 d2:=by exact rfl):N4 a (.int .i64 d) e env ⟨nx,m⟩:=zro (congrArg _ h) he h1 h2 h3
def zr {p:Prop}(k:q)(h:Hid q wu->p:=by intro h;(repeat(refine cO ?_;try intro _));first|exact zrb h.1|exact zrs h.1|exact zri h.1|exact zro h.1):p:=h ⟨k⟩
def lU {p:Prop}(h:p:=by(repeat(refine cO ?_;try intro _));first|exact zrb rfl|exact zrs rfl|exact zri rfl|exact zro rfl):p:=h
def uns:Nat->List aY->List aY
 |0,r=>r
 |n+1,r=>.un::uns n r
def SE:=List aY->List aY
def SE.u (n:Nat):SE:=uns n
def SE.e (d:D):SE:=λr=>⟨true,d⟩::r
def SE.i (n:Int):SE:=λr=>⟨true,.int .i64 n⟩::r
def SE.p (l k:Nat):SE:=λr=>⟨true,.ptr l k 0 0⟩::r
def SE.o (l k n:Nat):SE:=λr=>⟨true,.own l k 0 n⟩::r
def SE.m (k:Nat)(xs:List α)(q:α->D):SE:=λr=>⟨true,.sl k (xs.map q)⟩::r
def spE:List SE->List aY
 |[]=>[]
 |f::r=>f (spE r)
section
variable {Y:Ctx}{a r:AC}{id:Nat}{m:List (Nat×bj)}
def zf (htr:Y.bU)(F:Nat->List SE)(G:Nat->List (Nat×bj))(c:Nat)(P:Nat->Prop)(μ:Nat->Nat)(hP:P 0)(σ:List (Nat×Nat))(hr:∀i,P i->du Y a (LQ Y id r (λenv2 st2=>∃j,P j/\μ j<μ i/\aZ Y.lo env2 st2 (F2 j) ⟨c,G j⟩) Q) (F2 i) ⟨c,G i⟩)(hF:∀i,spE (F i)=F2 i:=by intro i;simp only[spE,SE.u,SE.e,SE.i,SE.p,SE.o,SE.m,uns];exact rfl)(h:gN Y.lo c σ=true:=by exact rfl)(he:fD Y.lo σ env (F2 0):=by exact zge)(hg:bo Y.lo c σ m (G 0):=by exact zgm):du Y (.seq (.block id (.loop a)) r) Q env ⟨nx,m⟩:=gy htr F2 G c P μ 0 hP (aZ.to σ rfl h he hg) hr
def zfx (htr:Y.bU)(i0:ι)(F:ι->List SE)(G:ι->List (Nat×bj))(c:Nat)(P:ι->Prop)(μ:ι->Nat)(hP:P i0)(σ:List (Nat×Nat)){F2:ι->List aY}(hr:∀i,P i->du Y a (LQ Y id r (λenv2 st2=>∃j,P j/\μ j<μ i/\aZ Y.lo env2 st2 (F2 j) ⟨c,G j⟩) Q) (F2 i) ⟨c,G i⟩)(hF:∀i,spE (F i)=F2 i:=by intro i;simp only[spE,SE.u,SE.e,SE.i,SE.p,SE.o,SE.m,uns];exact rfl)(h:gN Y.lo c σ=true:=by exact rfl)(he:fD Y.lo σ env (F2 i0):=by exact zge)(hg:bo Y.lo c σ m (G i0):=by exact zgm):du Y (.seq (.block id (.loop a)) r) Q env ⟨nx,m⟩:=gy htr F2 G c P μ i0 hP (aZ.to σ rfl h he hg) hr
def zfL (htr:Y.bU)(F:Nat->List SE)(G:Nat->List (Nat×bj))(c:Nat)(P:Nat->Prop)(μ:Nat->Nat)(hP:P 0)(σ:List (Nat×Nat))(hr:∀i,P i->du Y a (Bj id (λenv2 st2=>∃j,P j/\μ j<μ i/\aZ Y.lo env2 st2 (F2 j) ⟨c,G j⟩) Q) (F2 i) ⟨c,G i⟩)(hF:∀i,spE (F i)=F2 i:=by intro i;simp only[spE,SE.u,SE.e,SE.i,SE.p,SE.o,SE.m,uns];exact rfl)(h:gN Y.lo c σ=true:=by exact rfl)(he:fD Y.lo σ env (F2 0):=by exact zge)(hg:bo Y.lo c σ m (G 0):=by exact zgm):du Y (.block id (.loop a)) Q env ⟨nx,m⟩:=IG htr F2 G c P μ 0 hP (aZ.to σ rfl h he hg) hr
def zfxL (htr:Y.bU)(i0:ι)(F:ι->List SE)(G:ι->List (Nat×bj))(c:Nat)(P:ι->Prop)(μ:ι->Nat)(hP:P i0)(σ:List (Nat×Nat)){F2:ι->List aY}(hr:∀i,P i->du Y a (Bj id (λenv2 st2=>∃j,P j/\μ j<μ i/\aZ Y.lo env2 st2 (F2 j) ⟨c,G j⟩) Q) (F2 i) ⟨c,G i⟩)(hF:∀i,spE (F i)=F2 i:=by intro i;simp only[spE,SE.u,SE.e,SE.i,SE.p,SE.o,SE.m,uns];exact rfl)(h:gN Y.lo c σ=true:=by exact rfl)(he:fD Y.lo σ env (F2 i0):=by exact zge)(hg:bo Y.lo c σ m (G i0):=by exact zgm):du Y (.block id (.loop a)) Q env ⟨nx,m⟩:=IG htr F2 G c P μ i0 hP (aZ.to σ rfl h he hg) hr
end
abbrev cw (Y:Ctx)(a:aj)(ds:List D)(d:D):Prop:=wkk Y a d ds
def zk1 {p:Prop}(k:q)(h:Hid q wu->p:=by intro h;(iterate 1(refine cO ?_;try(intro a;apply pO h a;intro h)));exact h.1):p:=h ⟨k⟩
def cX {p:Prop}(k:q)(h:Hid q wu->p:=by intro h;(iterate 2(refine cO ?_;try(intro a;apply pO h a;intro h)));exact h.1):p:=h ⟨k⟩
def dJ {p:Prop}(k:q)(h:Hid q wu->p:=by intro h;(iterate 3(refine cO ?_;try(intro a;apply pO h a;intro h)));exact h.1):p:=h ⟨k⟩
def fE {p:Prop}(k:q)(h:Hid q wu->p:=by intro h;(iterate 4(refine cO ?_;try(intro a;apply pO h a;intro h)));exact h.1):p:=h ⟨k⟩
def k9 {p:Prop}(k:q)(h:Hid q wu->p:=by intro h;(iterate 5(refine cO ?_;try(intro a;apply pO h a;intro h)));exact h.1):p:=h ⟨k⟩
def kB {p:Prop}(k:q)(h:Hid q wu->p:=by intro h;(iterate 6(refine cO ?_;try(intro a;apply pO h a;intro h)));exact h.1):p:=h ⟨k⟩
def qp {p:Prop}(k:q)(h:Hid q wu->p:=by intro h;(iterate 7(refine cO ?_;try(intro a;apply pO h a;intro h)));exact h.1):p:=h ⟨k⟩
def pA {p:Prop}(k:q)(h:Hid q wu->p:=by intro h;(iterate 8(refine cO ?_;try(intro a;apply pO h a;intro h)));exact h.1):p:=h ⟨k⟩
def yr {p:Prop}(k:q)(h:Hid q wu->p:=by intro h;(iterate 9(refine cO ?_;try(intro a;apply pO h a;intro h)));exact h.1):p:=h ⟨k⟩
def rb {p:Prop}(k:q)(h:Hid q wu->p:=by intro h;(iterate 10(refine cO ?_;try(intro a;apply pO h a;intro h)));exact h.1):p:=h ⟨k⟩
def Em {p:Prop}(k:q)(h:Hid q wu->p:=by intro h;(iterate 11(refine cO ?_;try(intro a;apply pO h a;intro h)));exact h.1):p:=h ⟨k⟩
def Ff {p:Prop}(k:q)(h:Hid q wu->p:=by intro h;(iterate 12(refine cO ?_;try(intro a;apply pO h a;intro h)));exact h.1):p:=h ⟨k⟩
def IJ {p:Prop}(k:q)(h:Hid q wu->p:=by intro h;(iterate 13(refine cO ?_;try(intro a;apply pO h a;intro h)));exact h.1):p:=h ⟨k⟩
def gZ {p:Prop}(k:q)(h:Hid q wu->p:=by intro h;(iterate 14(refine cO ?_;try(intro a;apply pO h a;intro h)));exact h.1):p:=h ⟨k⟩
def En {p:Prop}(k:q)(h:Hid q wu->p:=by intro h;(iterate 15(refine cO ?_;try(intro a;apply pO h a;intro h)));exact h.1):p:=h ⟨k⟩
def zk17 {p:Prop}(k:q)(h:Hid q wu->p:=by intro h;(iterate 17(refine cO ?_;try(intro a;apply pO h a;intro h)));exact h.1):p:=h ⟨k⟩
def zk18 {p:Prop}(k:q)(h:Hid q wu->p:=by intro h;(iterate 18(refine cO ?_;try(intro a;apply pO h a;intro h)));exact h.1):p:=h ⟨k⟩
def zk20 {p:Prop}(k:q)(h:Hid q wu->p:=by intro h;(iterate 20(refine cO ?_;try(intro a;apply pO h a;intro h)));exact h.1):p:=h ⟨k⟩
def zk21 {p:Prop}(k:q)(h:Hid q wu->p:=by intro h;(iterate 21(refine cO ?_;try(intro a;apply pO h a;intro h)));exact h.1):p:=h ⟨k⟩
end Go.Abs
