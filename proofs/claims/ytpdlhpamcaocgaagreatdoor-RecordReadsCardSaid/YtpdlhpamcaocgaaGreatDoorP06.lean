/- A part of the proofs of the statements: RSpec10, RSpec11, RSpec12, RSpec13, RBldC, RSpec14, LQ, U1, T6, T7, LExt, T8, T9, T10, T1, T2, T3, T4, T5, T11, T12, T13. -/
import Derived.Test.YtpdlhpamcaocgaaGreatDoorP05
set_option linter.all false
set_option maxRecDepth 4000
namespace Go.Abs
def uL {f:Nat→Int}:∀{k i:Nat},sa f i k=0→∀j,i≤j→j<i+k→f j=0
 |0,i,_,j,h1,h2=>absurd h2 (by omega)
 |k+1,i,h,j,h1,h2=>by
  simp only[sa]at h;by_cases hf:f i=0
  ·rw[if_pos hf]at h;by_cases hj:j=i
   ·rw[hj];exact hf
   ·exact uL h j (by omega) (by omega)
  ·rw[if_neg hf]at h;exact absurd h hf
def B0 {f:Nat→Int}{n:Nat}(h:iW f 0 n=0)(j:Nat)(hj:j<n):f j=0:=uL h j (by omega) (by omega)
def uM {f:Nat→Int}:∀{k i:Nat},(nt f i k).1=0→∀j,i≤j→j<i+k→f j=0
 |0,i,_,j,h1,h2=>absurd h2 (by omega)
 |k+1,i,h,j,h1,h2=>by
  simp only[nt]at h;by_cases hf:f i=0
  ·rw[if_pos hf]at h;by_cases hj:j=i
   ·rw[hj];exact hf
   ·exact uM h j (by omega) (by omega)
  ·rw[if_neg hf]at h;exact absurd h hf
def BZ {f:Nat→Int}{n:Nat}(h:(gr f 0 n).1=0)(j:Nat)(hj:j<n):f j=0:=uM h j (by omega) (by omega)
def bm.fit (w:bm):Prop:=w.sm∧(w.feats.length≤6∧∀t∈w.feats,t.length≤12)
def aP.fit (n:aP):Prop:=(n.any.length≤3∧∀w∈n.any,w.fit)∧n.when'.length≤1048576∧n.option.length≤1048576
def bd.fit (x:bd):Prop:=x.sm∧x.of.length≤6
structure Rec.fit (r:Rec):Prop where
 nm:r.name.length≤1048576
 v:r.v.sm
 ns:r.needs.length≤8
 n:∀x∈r.needs,x.fit
 bs:r.bars.length≤8
 b:∀x∈r.bars,x.sm
 fs:r.feats.length≤8
 f:∀x∈r.feats,x.fit
def rl {α:Type} [Inhabited α]{l:List α}{x:α}(h:x∈l):∃i,i<l.length∧l[i]! =x:=by
 obtain⟨i,hi,e⟩:=List.mem_iff_getElem.1 h;exact⟨i,hi,by rw[←e];simp[hi]⟩
def Ik {r:Rec}{w:bm}{al:Bool}(h:gY r w al=0)(hs:w.sm):w.fit:=by
 refine⟨hs, ?_⟩;unfold gY at h;split at h
 ·rename_i h1;exact absurd h h1
 ·split at h
  ·cases h
  ·rename_i h2;simp only[jl,Bool.not_eq_false,Bool.and_eq_true,decide_eq_true_eq,dS]at h2;refine⟨h2.1.1,fun t ht=>?_⟩;obtain⟨i,hi,rfl⟩:=rl ht;have:=h2.2 i (by omega) hi;simp only[J1,bV,Bool.and_eq_true,decide_eq_true_eq]at this;exact this.1.1.2
def G4 {r:Rec}{n:aP}(h:fJ r n=0)(hs:n.sm):n.fit:=by
 unfold fJ at h;split at h
 ·cases h
 split at h
 ·cases h
 rename_i h1 h2;split at h
 ·rename_i h3;exact absurd h h3
 rename_i h3;refine⟨⟨by omega,fun w hw=>?_⟩,hs.2⟩;obtain⟨i,hi,rfl⟩:=rl hw;exact Ik (B0 (Classical.not_not.1 h3) i hi) (hs.1 _ hw)
def xw {r:Rec}(h:pW r∧gA r):r.fit:=by
 obtain⟨⟨_,⟨h1,h2⟩,hp⟩,⟨s1,s2⟩,s3,s4,s5⟩:=h;have h0:(lW r).1=0∧fo r.feats=true:=by
  unfold dh at hp;split at hp
  ·rename_i h;rw[hp]at h;exact absurd rfl h
  split at hp
  ·rename_i h;rw[hp]at h;exact absurd rfl h
  split at hp
  ·cases hp
  rename_i a b c;exact⟨Classical.not_not.1 a,by simpa using c⟩
 obtain⟨h3,h4⟩:=h0;simp only[fo,Bool.and_eq_true,decide_eq_true_eq,dS]at h4;refine⟨s1,s2,h1,fun x hx=>?_,h2,s4,h4.1,fun x hx=>⟨s5 x hx, ?_⟩⟩
 ·obtain⟨i,hi,rfl⟩:=rl hx;exact G4 (BZ h3 i hi) (s3 _ hx)
 ·obtain⟨i,hi,rfl⟩:=rl hx;have:=h4.2 i (by omega) hi;simp only[iv,jJ,Bool.and_eq_true,decide_eq_true_eq]at this;exact this.2.1.1
def mP (x:UInt8)(B:Nat):∀l:List ai,(∀t∈l,t.length≤B)→(aM [x] l).length≤l.length*(B+1)
 |[],_=>by simp[aM]
 |[t],h=>by have:=h t (.head _);simp only[aM,List.length_cons,List.length_nil];omega
 |t::u::r,h=>by
  have h1:=h t (.head _);have h2:=mP x B (u::r) fun y hy=>h y (.tail _ hy)
  simp only[aM,List.length_append,List.length_cons,List.length_nil,Nat.succ_mul]at h2⊢;omega
def wx {w:bm}(h:w.fit):(aM [44] w.feats).length≤6291462:=by
 have h1:=mP 44 1048576 w.feats h.1.2;have h2:=Nat.mul_le_mul_right (1048576+1) h.2.1;omega
def zD {w:bm}(h:w.fit):(aM [44] w.feats).length≤78:=by
 have h1:=mP 44 12 w.feats h.2.2;have h2:=Nat.mul_le_mul_right (12+1) h.2.1;omega
def gE (w:bm):ai:=bY (oX w)
def sO {w:bm}(h:w.fit):(gE w).length≤8400000:=by
 have h1:=wx h;have h2:=h.1.1;simp only[gE,bY,oX,aM,List.length_append,List.length_cons,List.length_nil];split<;>split<;>simp only[fj,cV,kt,List.length_append,List.length_cons,List.length_nil]<;>omega
def lH {s:ai}(h:s.length≤1048576):(gX s).length≤1048590:=by
 unfold gX;split
 ·simp
 ·simp only[bY,aM,ek,List.length_append,List.length_cons,List.length_nil];omega
def Hi {s:ai}(h:s.length≤1048576):(ru s).length≤1048590:=by
 unfold ru;split
 ·simp
 ·simp only[bY,aM,cr,List.length_append,List.length_cons,List.length_nil];omega
def ra {α:Type}(q:α→ai)(B:Nat){l:List α}(h:∀x∈l,(q x).length≤B)(i:Nat):(((l.take i).map q).flatten).length≤i*B:=by
 have h1:=ow q B (l.take i) fun x hx=>h x (List.mem_of_mem_take hx)
 have h2:=Nat.mul_le_mul_right B (List.length_take_le i l);omega
def po {α:Type} [Inhabited α](q:α→ai){l:List α}{i:Nat}(h:i<l.length):((l.take (i+1)).map q).flatten=((l.take i).map q).flatten++q l[i]! :=by
 rw[List.take_add_one,List.getElem?_eq_getElem h,List.map_append,List.flatten_append];simp[h]
def EZ {n:aP}(h:n.fit):(tc n).length≤27400000:=by
 have h1:=ow gE 8400000 n.any fun w hw=>sO (h.1.2 w hw)
 have h2:=Nat.mul_le_mul_right 8400000 h.1.1;have h3:=lH h.2.1;have h4:=Hi h.2.2;have h5:(bY [dJ]).length=5:=rfl;unfold gE at h1;simp only[tc,List.length_append];omega
def Ge {b:ec}(h:b.sm):(yB b).length≤3145800:=by
 have h1:=lH h.2.2;have h2:=h.1;have h3:=h.2.1;simp only[yB,bY,aM,fE,List.length_append,List.length_cons,List.length_nil];omega
def xo {x:bd}(h:x.fit):(qZ x).length≤8400000:=by
 have h1:=mP 32 1048576 ([bQ,x.name]++x.of) (by
  intro t ht;simp only[List.cons_append,List.nil_append,List.mem_cons]at ht;rcases ht with rfl|rfl|ht
  ·simp[bQ]
  ·exact h.1.1
  ·exact h.1.2.2 _ ht)
 have h2:=h.2;have h3:([bQ,x.name]++x.of).length≤8:=by simp only[List.length_append,List.length_cons,List.length_nil];omega
 have h4:=Nat.mul_le_mul_right (1048576+1) h3;simp only[qZ,bY,List.length_append,List.length_cons,List.length_nil]at h1 h4⊢;omega
def EK {r:Rec}(h1:r.name.length≤1048576)(h2:r.v.sm):(pX r).length≤3145800:=by
 have h3:=wm r.v h2;simp only[pX,bY,aM,cL,List.length_append,List.length_cons,List.length_nil];omega
def cQ (n:aP)(j:Nat):ai:=bY [dJ]++((n.any.take j).map gE).flatten
def Jx (n:aP):cQ n 0=[110,101,101,100,10]:=rfl
def lV {n:aP}{j:Nat}(h:j<n.any.length):cQ n (j+1)=cQ n j++gE n.any[j]! :=by simp only[cQ,po gE h,List.append_assoc]
def sj {n:aP}{j:Nat}(h:n.any.length≤j):tc n=cQ n j++gX n.when'++ru n.option:=by
 rw[cQ,List.take_of_length_le h];rfl
def xF {n:aP}(h:n.fit)(j:Nat)(hj:j≤3):(cQ n j).length≤25200005:=by
 have h1:=ra gE 8400000 (fun w hw=>sO (h.1.2 w hw)) j;have h2:=Nat.mul_le_mul_right 8400000 hj;have h5:(bY [dJ]).length=5:=rfl;simp only[cQ,List.length_append];omega
def iR (r:Rec)(i:Nat):ai:=pX r++((r.needs.take i).map tc).flatten
def wh (r:Rec)(i:Nat):ai:=iR r r.needs.length++((r.bars.take i).map yB).flatten
def yl (r:Rec)(i:Nat):ai:=wh r r.bars.length++((r.feats.take i).map qZ).flatten
def Ic (r:Rec):iR r 0=pX r:=by simp[iR]
def Ie (r:Rec):wh r 0=iR r r.needs.length:=by simp[wh]
def Ig (r:Rec):yl r 0=wh r r.bars.length:=by simp[yl]
def zA (r:Rec):yl r r.feats.length=nN r:=by simp only[yl,wh,iR,List.take_length,nN]
def kr {r:Rec}{i:Nat}(h:i<r.needs.length):iR r (i+1)=iR r i++tc r.needs[i]! :=by simp only[iR,po tc h,List.append_assoc]
def Bo {r:Rec}{i:Nat}(h:i<r.bars.length):wh r (i+1)=wh r i++yB r.bars[i]! :=by simp only[wh,po yB h,List.append_assoc]
def Bp {r:Rec}{i:Nat}(h:i<r.feats.length):yl r (i+1)=yl r i++qZ r.feats[i]! :=by simp only[yl,po qZ h,List.append_assoc]
def zy {r:Rec}(h:r.fit)(i:Nat)(hi:i≤r.needs.length):(iR r i).length≤222400000:=by
 have a0:=EK h.nm h.v;have a1:=ra tc 27400000 (fun x hx=>EZ (h.n x hx)) i;have b1:=Nat.mul_le_mul_right 27400000 (Nat.le_trans hi h.ns);simp only[iR,List.length_append];omega
def zz {r:Rec}(h:r.fit)(i:Nat)(hi:i≤r.bars.length):(wh r i).length≤247600000:=by
 have a0:=zy h r.needs.length (Nat.le_refl _);have a1:=ra yB 3145800 (fun x hx=>Ge (h.b x hx)) i;have b1:=Nat.mul_le_mul_right 3145800 (Nat.le_trans hi h.bs);simp only[wh,List.length_append];omega
def Ec {r:Rec}(h:r.fit)(i:Nat)(hi:i≤r.feats.length):(yl r i).length≤314800000:=by
 have a0:=zz h r.bars.length (Nat.le_refl _);have a1:=ra qZ 8400000 (fun x hx=>xo (h.f x hx)) i;have b1:=Nat.mul_le_mul_right 8400000 (Nat.le_trans hi h.fs);simp only[yl,List.length_append];omega
def z6 {r:Rec}(h:(bX r).1=0):pW r:=by
 unfold bX at h;split at h
 ·cases h
 split at h
 ·cases h
 split at h
 ·cases h
 rename_i a b c;split at h
 ·rename_i d;exact absurd h d
 rename_i d;exact⟨⟨by simpa using a,by simpa using b⟩,⟨by omega,by omega⟩,AI (Classical.not_not.1 d)⟩
def cF (l:List ai):b7×Bool:=if l.length=3 then(⟨cT l[0]!,cT l[1]!,cT l[2]!,[],[]⟩,(dQ l[0]! &&dQ l[1]!)&&dQ l[2]!)else(dY,false)
def Gt {c:UInt8}(h:aZ c.toNat=true):dg (c.toNat-48)=c:=by
 simp only[aZ,Bool.and_eq_true,decide_eq_true_eq]at h;have h1:48≤c.toNat:=by omega
 have h2:c.toNat≤57:=by omega
 apply UInt8.toNat_inj.1;simp only[dg];simp;omega
def sT (s:ai)(h0:s≠[])(hd:∀c∈s,aZ c.toNat=true)(hz:1<s.length→at8 s 0≠48):cW (cJ s)=s:=by
 obtain⟨r,c,rfl⟩:∃r c,s=r++[c]:=⟨s.dropLast,s.getLast h0,(List.dropLast_concat_getLast h0).symm⟩
 have hc:=hd c (by simp);have hc2:=hc;simp only[aZ,Bool.and_eq_true,decide_eq_true_eq]at hc2;rw[Cl];by_cases hr:r=[]
 ·subst hr;have:cJ ([]:ai)=0:=rfl;rw[this,nn (by omega)];simp[Gt hc]
 ·have hz0:at8 (r++[c]) 0≠48:=hz (by have:=List.length_pos_iff.2 hr;simp only[List.length_append,List.length_singleton];omega);have e0:at8 (r++[c]) 0=at8 r 0:=by
   cases r with
   |nil=>exact absurd rfl hr
   |cons b q=>rfl
  have ih:=sT r hr (fun x hx=>hd x (by simp[hx])) (fun _=>by rw[←e0];exact hz0);have hn:1≤cJ r:=by
   cases r with
   |nil=>exact absurd rfl hr
   |cons b q=>
    have hb:=hd b (by simp);simp only[aZ,Bool.and_eq_true,decide_eq_true_eq]at hb;have hb0:at8 (b::q) 0=b.toNat:=rfl;rw[e0,hb0]at hz0;have:=xN (b:=b) (r:=q) (by omega);have hp:0<10^q.length:=Nat.pow_pos (by omega);omega
  rw[nk (by omega),show(cJ r*10+(c.toNat-48)) /10=cJ r by omega,show(cJ r*10+(c.toNat-48))%10=c.toNat-48 by omega,ih,Gt hc]
termination_by s.length
decreasing_by all_goals simp_all
def rZ {t:ai}(h:dQ t=true):cW (cT t).toNat=t:=by
 have h2:=h;simp only[dQ,Bool.and_eq_true,decide_eq_true_eq,dS,Bool.not_eq_true',Bool.and_eq_false_iff,decide_eq_false_iff_not]at h2;obtain⟨⟨⟨⟨h3,_⟩,h4⟩,h5⟩,_⟩:=h2;rw[cT,if_pos h,Int.toNat_natCast];refine sT t (by rintro rfl;simp at h3) (fun c hc=>?_) (fun h=>?_)
 ·obtain⟨i,hi,rfl⟩:=List.mem_iff_getElem.1 hc;have:=h5 i (by omega) hi;simpa[at8,hi]using this
 ·rcases h4 with h4|h4
  ·omega
  ·exact h4
def nD (s:ai)(b:Int):s.take (aw s b).2.length=(aw s b).2:=by
 unfold aw gK;split
 ·rename_i k h;simp only[List.length_take];rw[List.take_eq_take_iff];simp
 ·simp
def jQ (s:ai)(b:Int):(s.drop (aw s b).2.length=[]∧(aw s b).1=[])∨∃x:UInt8,(x.toNat:Int)=b∧s.drop (aw s b).2.length=x::(aw s b).1:=by
 unfold aw gK;split
 ·rename_i k h;right;obtain⟨hk,hx,_⟩:=List.findIdx?_eq_some_iff_getElem.1 h;simp only[List.drop_zero]at hk hx;refine⟨s[k],by simpa using hx, ?_⟩;simp only[List.length_take,Nat.zero_add];rw[show min k s.length=k by omega,List.drop_eq_getElem_cons hk]
 ·left;simp
def cw (s:ai):b7:=⟨(cF (ah (aw (aw s 43).2 45).2 46)).1.major,(cF (ah (aw (aw s 43).2 45).2 46)).1.minor,(cF (ah (aw (aw s 43).2 45).2 46)).1.patch,(aw (aw s 43).2 45).1,(aw s 43).1⟩
def Aa {s:ai}{b:Int}{a r:ai}(h:(s.drop (aw s b).2.length=[]∧(aw s b).1=[])∨∃x:UInt8,(x.toNat:Int)=b∧s.drop (aw s b).2.length=x::(aw s b).1)(x:UInt8)(hx:(x.toNat:Int)=b):((s.drop (aw s b).2.length).length≠1→s.drop (aw s b).2.length=if(aw s b).1=[]then []else x::(aw s b).1)∧((s.drop (aw s b).2.length).length=1→(aw s b).1=[]):=by
 rcases h with⟨h1,h2⟩|⟨y,hy,h1⟩
 ·rw[h1,h2];simp
 ·have:y=x:=UInt8.toNat_inj.1 (by omega);subst this;rw[h1];refine⟨fun h=>?_,fun h=>?_⟩
  ·rw[if_neg];intro e;rw[e]at h;simp at h
  ·simpa using h
def Ii (s:ai):ee s=if(((cF (ah (aw (aw s 43).2 45).2 46)).2=true∧((aw s 43).2.drop (aw (aw s 43).2 45).2.length).length≠1)∧(s.drop (aw s 43).2.length).length≠1)∧iF (cw s)=true then some (cw s)else none:=by
 have t1:=nD s 43;have d1:=Aa (a:=[]) (r:=[]) (jQ s 43) 43 rfl;have t2:=nD (aw s 43).2 45;have d2:=Aa (a:=[]) (r:=[]) (jQ (aw s 43).2 45) 45 rfl;have e1:=List.take_append_drop (aw s 43).2.length s;have e2:=List.take_append_drop (aw (aw s 43).2 45).2.length (aw s 43).2;rw[t1]at e1;rw[t2]at e2;unfold ee cw;dsimp only;generalize aw s 43=A at*
 generalize aw A.2 45=B at*
 have hj:=iI (b:=46) (x:=46) rfl B.2;generalize ah B.2 46=L at*
 unfold cF;by_cases hT:L.length=3∧dQ L[0]! =true∧dQ L[1]! =true∧dQ L[2]! =true
 ·rw[if_pos hT];obtain⟨h3,n0,n1,n2⟩:=hT;rw[if_pos h3];simp only[n0,n1,n2,Bool.and_self,true_and];by_cases hv:iF ⟨cT L[0]!,cT L[1]!,cT L[2]!,B.1,A.1⟩=true
  ·simp only[hv,true_and,and_true,lv,if_true,wo,rZ n0,rZ n1,rZ n2];have hB:L[0]! ++([46]:ai)++L[1]! ++([46]:ai)++L[2]! =B.2:=by
    rw[←hj]
    match L,h3 with
    |[a,b,c],_=>simp[aM]
   rw[hB];by_cases c1:(s.drop A.2.length).length=1
   ·have h1:=d1.2 c1;rw[if_neg,if_neg (fun h=>h.2 c1)];intro h;have h':=congrArg List.length h;have h2:=congrArg List.length e1;have h4:=congrArg List.length e2;simp only[h1,if_true,List.length_append,List.length_nil]at h' h2 h4;by_cases c2:(A.2.drop B.2.length).length=1
    ·rw[if_pos (d2.2 c2)]at h';simp only[List.length_nil]at h';omega
    ·rw[←d2.1 c2]at h';omega
   ·by_cases c2:(A.2.drop B.2.length).length=1
    ·have h1:=d2.2 c2;rw[if_neg,if_neg (fun h=>h.1 c2)];intro h;have h':=congrArg List.length h;have h2:=congrArg List.length e1;have h4:=congrArg List.length e2;rw[←d1.1 c1]at h';simp only[h1,if_true,List.length_append,List.length_nil]at h' h2 h4;omega
    ·rw[←d1.1 c1,←d2.1 c2,e2,e1,if_pos rfl,if_pos ⟨c2,c1⟩]
  ·rw[if_neg (fun h=>hv h.1),if_neg (fun h=>hv h.2)]
 ·rw[if_neg hT,if_neg];rintro⟨⟨⟨h,_⟩,_⟩,_⟩;split at h
  ·rename_i h3;simp only[Bool.and_eq_true]at h;exact hT ⟨h3,h.1.1,h.1.2,h.2⟩
  ·cases h
def C6 {s:ai}{b:Int}(h:s.drop (aw s b).2.length≠[]):1≤(s.drop (aw s b).2.length).length∧(s.drop (aw s b).2.length).drop 1=(aw s b).1:=by
 rcases jQ s b with⟨h1,_⟩|⟨x,_,h1⟩
 ·exact absurd h1 h
 ·rw[h1];simp
def C5 {s:ai}{b:Int}(h:s.drop (aw s b).2.length=[]):(aw s b).1=[]:=by
 rcases jQ s b with⟨_,h1⟩|⟨x,_,h1⟩
 ·exact h1
 ·rw[h1]at h;cases h
def C7 (l:List ai):(cF l).1=⟨(cF l).1.major,(cF l).1.minor,(cF l).1.patch,[],[]⟩:=by
 unfold cF;split<;>rfl
def rh (l:List ai)(x:ai)(i:Nat):Int:=match(l.drop i).findIdx? (fun t=>decide (x=t))with
 |some k=>((i+k:Nat):Int)
 |none=>-1
def Jk {l:List ai}{x:ai}{i:Nat}(h:i<l.length)(he:x=l[i]!):rh l x i=(i:Nat):=by
 unfold rh;rw[List.drop_eq_getElem_cons h,List.findIdx?_cons];have:x=l[i]:=by simpa[h]using he
 simp[←this]
def Jl {l:List ai}{x:ai}{i:Nat}(h:i<l.length)(he:¬x=l[i]!):rh l x i=rh l x (i+1):=by
 unfold rh;have:¬x=l[i]:=by simpa[h]using he
 rw[List.drop_eq_getElem_cons h,List.findIdx?_cons];simp only[this,decide_false,Bool.false_eq_true,if_false];cases(l.drop (i+1)).findIdx? (fun t=>decide (x=t))with
 |none=>rfl
 |some k=>simp only[Option.map_some];congr 1;omega
def GK {l:List ai}{x:ai}{i:Nat}(h:l.length≤i):rh l x i=-1:=by
 unfold rh;rw[List.drop_eq_nil_of_le h];rfl
def GL (l:List ai)(x:ai):decide (0≤rh l x 0)=decide (x∈l):=by
 unfold rh;rw[List.drop_zero];cases h:l.findIdx? (fun t=>decide (x=t))with
 |none=>
  have:=List.findIdx?_eq_none_iff.1 h;have hn:x∉l:=fun hm=>by have:=this x hm;simp at this
  simp[hn]
 |some k=>
  obtain⟨hk,hx,_⟩:=List.findIdx?_eq_some_iff_getElem.1 h;have hm:x∈l:=by
   have:x=l[k]:=by simpa using hx
   rw[this];exact List.getElem_mem hk
  simp[hm]
structure Ld where
 ls:List ai
 at':Nat
 deriving Inhabited,DecidableEq
def Ld.D (r:Ld):D:=.agg [.sl 1 (r.ls.map D.str),.int .i64 (r.at':Nat)]
def Ld.rest (r:Ld):List ai:=r.ls.drop r.at'
def Ld.sm (r:Ld):Prop:=(r.at'≤r.ls.length∧r.ls.length≤1048577)∧∀t∈r.ls,t.length≤1048576
def Ld.to (r:Ld)(q:List ai):Ld:=⟨r.ls,r.ls.length-q.length⟩
def jm (n:Int)(t:ai):List ai:=if n<0 then ah t 32 else nS n.toNat (ah t 32)
def ym (n:Nat)(op:Bool)(t:ai):jm (if op=true then(n:Int)else-1) t=dx n op t:=by
 unfold jm dx;cases op
 ·rfl
 ·have:¬(n:Int)<0:=by omega
  simp[this]
def wT:Option (List ai×List ai)→D
 |none=>.az
 |some (l,_)=>.sl 1 (l.map D.str)
def Ld.after (r:Ld)(o:Option (List ai×List ai)):Ld:=match o with
 |none=>r
 |some _=>⟨r.ls,r.at'+1⟩
def Ld.HW {r:Ld}(h:r.ls.length≤r.at'):r.rest=[]:=List.drop_eq_nil_of_le h
def Ld.pD {r:Ld}(h:r.at'<r.ls.length):r.rest=r.ls[r.at']! ::r.ls.drop (r.at'+1):=by
 unfold Ld.rest;rw[List.drop_eq_getElem_cons h];simp[h]
def FC (n:Nat)(op:Bool)(t:ai)(h:op=true→1≤n):1≤(dx n op t).length:=by
 have hs:1≤(ah t 32).length:=by
  exact dR 32 t []
 unfold dx;split
 ·rename_i ho;have:=h ho;unfold nS;split
  ·exact hs
  ·simp
 ·exact hs
def Ay {w:ai}{n:Nat}{op:Bool}{t:ai}(h:((¬(dx n op t)[0]! =w∨((dx n op t).length:Int)<1)∨((0:Int)<n∧¬((dx n op t).length:Int)=n))∨[]∈dx n op t)(h1:1≤(dx n op t).length):dd w n op t=none:=by
 rw[dd,if_neg];rintro⟨a,b,c⟩;rcases h with((h|h)|h)|h
 ·exact h a
 ·omega
 ·rcases b with b|b<;>omega
 ·exact c h
def xK {w:ai}{n:Nat}{op:Bool}{t:ai}(h:(((dx n op t)[0]! =w∧¬((dx n op t).length:Int)<1)∧(¬(0:Int)<n∨((dx n op t).length:Int)=n))∧¬[]∈dx n op t):dd w n op t=some (dx n op t):=by
 rw[dd,if_pos ⟨h.1.1.1,by rcases h.1.2 with h|h<;>omega,h.2⟩]
def jW (x:fX):List ai→fX×List ai
 |[]=>(x,[])
 |t::r=>match c8 x t with
  |some y=>jW y r
  |none=>(x,t::r)
def fN {x y:fX}{t:ai}{r:List ai}(h:c8 x t=some y):jW x (t::r)=jW y r:=by simp only[jW,h]
def pE {x:fX}{t:ai}{r:List ai}(h:c8 x t=none):jW x (t::r)=(x,t::r):=by simp only[jW,h]
def m7 {α:Type} [Inhabited α]{l:List α}{n:Nat}(h:1≤n):(l.take n)[0]! =l[0]! :=by
 match l,n,h with
 |[],n+1,_=>simp
 |a::r,n+1,_=>simp
def GO (b:ai)(hb:b≠[]):∀l:List ai,2≤l.length→aM b l≠[]
 |[],h=>by simp at h
 |[a],h=>by simp at h
 |a::c::r,_=>by
  rw[fu b a (c::r) (by simp)];intro h;have:=List.append_eq_nil_iff.1 h;have:=List.append_eq_nil_iff.1 this.1;exact hb this.2
def drop_one {α:Type} [Inhabited α]{l:List α}{n:Nat}(h:l.length=n+1):l.drop n=[l[n]!]∧l=l.take n++[l[n]!]:=by
 have h1:l.drop n=[l[n]!]:=by
  rw[List.drop_eq_getElem_cons (by omega),List.drop_eq_nil_of_le (by omega)];simp[show n<l.length by omega]
 exact⟨h1,by rw[←h1,List.take_append_drop]⟩
def sw {w:ai}{n:Nat}(h1:1≤n)(t:ai):
  dd w (n+1) true t=(match kV t n with
   |some (l,u)=>if l[0]! =w then some (l++[u])else none
   |none=>none):=by
 unfold dd kV dx;simp only[if_true];generalize ah t 32=l;rcases Nat.lt_trichotomy l.length (n+1)with h|h|h
 ·have hc:nS (n+1) l=l:=if_pos (by omega);rw[hc,if_neg (by rintro⟨_,h|h,_⟩<;>omega),if_neg (by rintro⟨a,_⟩;omega)]
 ·have hc:nS (n+1) l=l:=if_pos (by omega);obtain⟨d1,d2⟩:=drop_one h;rw[hc,d1];by_cases hc:[]∉l
  ·have hn:[]∉l.take n:=fun hm=>hc (List.mem_of_mem_take hm)
   have hl:l[n]! ≠[]:=fun e=>hc (by rw[d2,e];simp)
   rw[if_pos (c:=n<l.length∧[]∉l.take n∧aM [32] [l[n]!]≠[]) ⟨by omega,hn,hl⟩];simp only[m7 h1,aM,←d2];by_cases hw:l[0]! =w
   ·rw[if_pos ⟨hw,.inr h,hc⟩,if_pos hw]
   ·rw[if_neg (fun hh=>hw hh.1),if_neg hw]
  ·rw[if_neg (fun hh=>hc hh.2.2),if_neg];rintro⟨_,h2,h3⟩;refine hc (fun hm=>?_);rw[d2,List.mem_append]at hm;rcases hm with hm|hm
   ·exact h2 hm
   ·simp only[List.mem_singleton]at hm;exact h3 hm.symm
 ·have hc:nS (n+1) l=l.take n++[aM [32] (l.drop n)]:=if_neg (by omega);rw[hc];have hj:aM [32] (l.drop n)≠[]:=GO [32] (by simp) _ (by rw[List.length_drop];omega);have hlen:(l.take n++[aM [32] (l.drop n)]).length=n+1:=by simp;omega
  have h0:(l.take n++[aM [32] (l.drop n)])[0]! =l[0]! :=by
   match l,n,h,h1 with
   |a::r,n+1,_,_=>simp
  rw[h0];by_cases hn:[]∉l.take n
  ·rw[if_pos (c:=n<l.length∧[]∉l.take n∧aM [32] (l.drop n)≠[]) ⟨by omega,hn,hj⟩];simp only[m7 h1];by_cases hw:l[0]! =w
   ·rw[if_pos ⟨hw,.inr hlen,fun hm=>by
     rw[List.mem_append]at hm;rcases hm with hm|hm
     ·exact hn hm
     ·simp only[List.mem_singleton]at hm;exact hj hm.symm⟩,if_pos hw]
   ·rw[if_neg (fun hh=>hw hh.1),if_neg hw]
  ·rw[if_neg (fun hh=>hn (fun hm=>hh.2.2 (List.mem_append_left _ hm))),if_neg (fun hh=>hn hh.2.1)]
def sG {t:ai}{n:Nat}{l:List ai}{u:ai}(h:kV t n=some (l,u)):l=(ah t 32).take n∧u=aM [32] ((ah t 32).drop n)∧n<(ah t 32).length∧[]∉l∧u≠[]:=by
 unfold kV at h;split at h
 ·rename_i hc;simp only[Option.some.injEq,Prod.mk.injEq]at h;obtain⟨rfl,rfl⟩:=h;exact⟨rfl,rfl,hc.1,hc.2.1,hc.2.2⟩
 ·cases h
def pz {w:ai}{n:Nat}{t:ai}{q:List ai}(h1:1≤n)(h:dd w (n+1) true t=some q):∃l u,kV t n=some (l,u)∧(ah t 32)[0]! =w∧q=l++[u]∧l.length=n:=by
 rw[sw h1]at h;cases hr:kV t n with
 |none=>rw[hr]at h;cases h
 |some p=>
  obtain⟨l,u⟩:=p;rw[hr]at h;simp only at h;split at h
  ·rename_i hw;obtain⟨e1,e2,e3,_⟩:=sG hr;refine⟨l,u,rfl, ?_,(Option.some.inj h).symm,by rw[e1,List.length_take];omega⟩;rw[←hw,e1,m7 h1]
  ·cases h
def DU {w:ai}{n:Nat}{t:ai}(h1:1≤n)(h:dd w (n+1) true t=none)(hw:(ah t 32)[0]! =w):kV t n=none:=by
 rw[sw h1]at h;cases hr:kV t n with
 |none=>rfl
 |some p=>
  obtain⟨l,u⟩:=p;rw[hr]at h;obtain⟨e1,_⟩:=sG hr;simp only at h;rw[if_pos (by rw[e1,m7 h1];exact hw)]at h;cases h
def nv {α:Type} [Inhabited α]{l r:List α}{i:Nat}(h:i<l.length):(l++r)[i]! =l[i]! :=by
 simp[List.getElem!_eq_getElem?_getD,List.getElem?_append_left h]
def rb {α:Type} [Inhabited α]{l:List α}{u:α}{i:Nat}(h:l.length=i):(l++[u])[i]! =u:=by
 subst h;simp
def vl {w:ai}{n:Nat}{t:ai}:dd w n false t=if(ah t 32)[0]! =w∧(n=0∨(ah t 32).length=n)∧[]∉ah t 32 then some (ah t 32)else none:=by
 unfold dd dx;simp only[Bool.false_eq_true,if_false]
def mT {l:List ai}{n:Nat}:rr l n=true↔l.length=n∧[]∉l:=by
 unfold rr;simp
def wI (t:ai):Option (List ai):=match dd fj 5 true t with
 |some l=>if js l=true then some l else none
 |none=>none
def qY (t:ai):Option (List ai):=match dd bQ 0 false t with
 |some l=>if 2≤l.length then some l else none
 |none=>none
def No (p:ai→Option (List ai))(ls:List ai):Prop:=∀t r,ls=t::r→p t=none
def dw {α:Type}(l:List α)(a:α)(f:α→α):ep (l++[a]) f=l++[f a]:=by
 unfold ep;simp
def wu:dJ≠fj∧dJ≠ek∧dJ≠cr∧dJ≠fE∧dJ≠bQ∧fj≠ek∧fj≠cr∧fj≠fE∧fj≠bQ∧ek≠cr∧ek≠fE∧ek≠bQ∧cr≠fE∧cr≠bQ∧fE≠bQ:=by decide
def Fx {x:fX}{t:ai}{q:List ai}(h0:x.st≠0)(h5:x.st<5)(h:dd dJ 1 false t=some q):c8 x t=some ⟨{x.r with needs:=x.r.needs++[⟨[],[],[]⟩]},2⟩:=by
 rw[vl]at h;split at h
 ·rename_i hc;obtain⟨e1,e2,e3⟩:=hc;have e2:(ah t 32).length=1:=by rcases e2 with h|h<;>omega
  unfold c8;simp only[h0,if_false,e1,if_true,e2,h5,and_self]
 ·cases h
def H3 {x:fX}{t:ai}{q:List ai}(h2:x.st=2)(h:wI t=some q):c8 x t=some ⟨{x.r with needs:=ep x.r.needs fun n=>{n with any:=n.any++[e7 q]}},2⟩:=by
 unfold wI at h;cases hn:dd fj 5 true t with
 |none=>rw[hn]at h;cases h
 |some l=>
  rw[hn]at h;simp only at h;split at h
  ·rename_i ho;obtain rfl:=Option.some.inj h;obtain⟨l0,u,e1,e2,rfl,e4⟩:=pz (by omega) hn;have ho':js l0=true:=by
    unfold js at ho⊢;rw[nv (by omega)]at ho;exact ho
   have hw:=wu;unfold c8;simp only[h2,e2,Ne.symm hw.1,if_false,if_true,show ¬(2:Nat)=0 by omega];unfold rU;simp only[e1,h2,ho',and_self,if_true];unfold e7;rw[nv (i:=1) (by omega),nv (i:=2) (by omega),nv (i:=3) (by omega),rb e4]
  ·cases h
def C3 {x:fX}{t:ai}{q:List ai}(h2:x.st=2)(h:dd ek 2 true t=some q):c8 x t=some ⟨{x.r with needs:=ep x.r.needs fun n=>{n with when':=q[1]!}},3⟩:=by
 obtain⟨l0,u,e1,e2,rfl,e4⟩:=pz (n:=1) (by omega) h;have hw:=wu;unfold c8;simp only[h2,e2,Ne.symm hw.2.1,Ne.symm hw.2.2.2.2.2.1,if_false,if_true,show ¬(2:Nat)=0 by omega];unfold mw;simp only[e1,h2,if_true];rw[rb e4]
def C4 {x:fX}{t:ai}{q:List ai}(h2:x.st=5)(h:dd ek 2 true t=some q):c8 x t=some ⟨{x.r with bars:=ep x.r.bars fun n=>{n with when':=q[1]!}},6⟩:=by
 obtain⟨l0,u,e1,e2,rfl,e4⟩:=pz (n:=1) (by omega) h;have hw:=wu;unfold c8;simp only[h2,e2,Ne.symm hw.2.1,Ne.symm hw.2.2.2.2.2.1,if_false,if_true,show ¬(5:Nat)=0 by omega];unfold mw;simp only[e1,h2,if_true,show ¬(5:Nat)=2 by omega,if_false];rw[rb e4]
def Bj {x:fX}{t:ai}{q:List ai}(h2:x.st=2∨x.st=3)(h:dd cr 2 false t=some q):c8 x t=some ⟨{x.r with needs:=ep x.r.needs fun n=>{n with option:=q[1]!}},4⟩:=by
 rw[vl]at h;split at h
 ·rename_i hc;obtain⟨e1,e2,e3⟩:=hc;obtain rfl:=Option.some.inj h;have e2:(ah t 32).length=2:=by rcases e2 with h|h<;>omega
  have hw:=wu;have h0:¬x.st=0:=by omega
  unfold c8;simp only[h0,e1,Ne.symm hw.2.2.1,Ne.symm hw.2.2.2.2.2.2.1,Ne.symm hw.2.2.2.2.2.2.2.2.2.1,if_false,if_true,mT.2 ⟨e2,e3⟩,h2,and_self]
 ·cases h
def H4 {x:fX}{t:ai}{q:List ai}(h0:x.st≠0)(h6:x.st≤6)(h:dd fE 3 true t=some q):c8 x t=some ⟨{x.r with bars:=x.r.bars++[⟨q[1]!,q[2]!,[]⟩]},5⟩:=by
 obtain⟨l0,u,e1,e2,rfl,e4⟩:=pz (n:=2) (by omega) h;have hw:=wu;unfold c8;simp only[h0,e2,Ne.symm hw.2.2.2.1,Ne.symm hw.2.2.2.2.2.2.2.1,Ne.symm hw.2.2.2.2.2.2.2.2.2.2.1,Ne.symm hw.2.2.2.2.2.2.2.2.2.2.2.2.1,if_false,if_true,e1,h6];rw[nv (by omega),rb e4]
def Fw {x:fX}{t:ai}{q:List ai}(h0:x.st≠0)(h:qY t=some q):c8 x t=some ⟨{x.r with feats:=x.r.feats++[⟨q[1]!,q.drop 2⟩]},7⟩:=by
 unfold qY at h;rw[vl]at h;split at h
 ·rename_i l hl;split at hl
  ·rename_i hc;obtain rfl:=Option.some.inj hl;split at h
   ·rename_i h2;obtain rfl:=Option.some.inj h;obtain⟨e1,_,e3⟩:=hc;have hw:=wu;unfold c8;simp only[h0,e1,Ne.symm hw.2.2.2.2.1,Ne.symm hw.2.2.2.2.2.2.2.2.1,Ne.symm hw.2.2.2.2.2.2.2.2.2.2.2.1,Ne.symm hw.2.2.2.2.2.2.2.2.2.2.2.2.2.1,Ne.symm hw.2.2.2.2.2.2.2.2.2.2.2.2.2.2,if_false,if_true,h2,mT.2 ⟨rfl,e3⟩,and_self]
   ·cases h
  ·cases hl
 ·cases h
def JW {x:fX}{t:ai}(h0:x.st≠0)(h1:x.st<5→dd dJ 1 false t=none)(h2:x.st=2→wI t=none)(h3:x.st=2∨x.st=5→dd ek 2 true t=none)
  (h4:x.st=2∨x.st=3→dd cr 2 false t=none) (h5:x.st≤6→dd fE 3 true t=none) (h6:qY t=none) (hne:(ah t 32).length=1→(ah t 32)[0]! =dJ→[]∉ah t 32):c8 x t=none:=by
 unfold c8;simp only[h0,if_false];split
 ·rename_i e1;rw[if_neg];rintro⟨e2,e3⟩;have:=h1 e3;rw[vl,if_pos ⟨e1,.inr e2,hne e2 e1⟩]at this;cases this
 ·split
  ·rename_i e1;unfold rU;cases hr:kV t 4 with
   |none=>rfl
   |some p=>
    obtain⟨l,u⟩:=p;simp only;rw[if_neg];rintro⟨e2,e3⟩;have:=h2 e2;unfold wI at this;rw[sw (n:=4) (by omega),hr]at this;obtain⟨q1,_,q3,_⟩:=sG hr;have hl4:l.length=4:=by rw[q1,List.length_take];omega
    simp only at this;rw[if_pos (by rw[q1,m7 (by omega)];exact e1)]at this;simp only at this;have hh:js (l++[u])=true:=by unfold js at e3⊢;rw[nv (by omega)];exact e3
    rw[if_pos hh]at this;cases this
  ·split
   ·rename_i e1;unfold mw;cases hr:kV t 1 with
    |none=>rfl
    |some p=>
     obtain⟨l,u⟩:=p;simp only;by_cases hs:x.st=2∨x.st=5
     ·rw[DU (n:=1) (by omega) (h3 hs) e1]at hr;cases hr
     ·rw[if_neg (fun h=>hs (.inl h)),if_neg (fun h=>hs (.inr h))]
   ·split
    ·rename_i e1;rw[if_neg];rintro⟨e2,e3⟩;have:=h4 e3;rw[mT]at e2;rw[vl,if_pos ⟨e1,.inr e2.1,e2.2⟩]at this;cases this
    ·split
     ·rename_i e1;cases hr:kV t 2 with
      |none=>rfl
      |some p=>
       obtain⟨l,u⟩:=p;simp only;by_cases hs:x.st≤6
       ·rw[DU (n:=2) (by omega) (h5 hs) e1]at hr;cases hr
       ·rw[if_neg hs]
     ·split
      ·rename_i e1;rw[if_neg];rintro⟨e2,e3⟩;rw[mT]at e3;unfold qY at h6;rw[vl,if_pos ⟨e1,.inl rfl,e3.2⟩]at h6;simp only at h6;rw[if_pos e2]at h6;cases h6
      ·rfl
def jM {w:ai}{n:Nat}{op:Bool}{ls:List ai}(h:bI w n op ls=none):No (dd w n op) ls:=by
 rintro t r rfl;simp only[bI]at h;split at h
 ·cases h
 ·assumption
def cI {w:ai}{n:Nat}{op:Bool}{ls l r:List ai}(h:bI w n op ls=some (l,r)):∃t,ls=t::r∧dd w n op t=some l:=by
 match ls,h with
 |[],h=>cases h
 |t::q,h=>
  simp only[bI]at h;split at h
  ·rename_i l' hl;simp only[Option.some.injEq,Prod.mk.injEq]at h;obtain⟨rfl,rfl⟩:=h;exact⟨t,rfl,hl⟩
  ·cases h
def vV (R:Rec)(N:List aP):∀(ls:List ai)(A:List bm),jW ⟨{R with needs:=N++[⟨A,[],[]⟩]},2⟩ ls=jW ⟨{R with needs:=N++[⟨A++(bL ls).1,[],[]⟩]},2⟩ (bL ls).2∧No wI (bL ls).2
 |[],A=>⟨by simp[bL],fun t r h=>by simp[bL]at h⟩
 |t::r,A=>by
  have key:∀{l},dd fj 5 true t=some l→js l=true→wI t=some l:=fun h1 h2=>by simp only[wI,h1,h2,if_true]
  cases hn:dd fj 5 true t with
  |none=>
   have e:bL (t::r)=([],t::r):=by simp only[bL,hn]
   rw[e];refine⟨by simp,fun t' r' h=>?_⟩;simp only[List.cons.injEq]at h;rw[←h.1];simp only[wI,hn]
  |some l=>
   by_cases ho:js l=true
   ·have e:bL (t::r)=(e7 l::(bL r).1,(bL r).2):=by simp only[bL,hn,ho,if_true]
    rw[e];obtain⟨i1,i2⟩:=vV R N r (A++[e7 l]);refine⟨?_,i2⟩;rw[fN (H3 rfl (key hn ho)),dw];simp only[i1,List.append_assoc,List.singleton_append]
   ·have e:bL (t::r)=([],t::r):=by simp only[bL,hn,ho,Bool.false_eq_true,if_false]
    rw[e];refine⟨by simp,fun t' r' h=>?_⟩;simp only[List.cons.injEq]at h;rw[←h.1];simp only[wI,hn,ho,Bool.false_eq_true,if_false]
def Stop (s:Nat)(ls:List ai):Prop:=(s=2→No wI ls∧No (dd ek 2 true) ls)∧(s=2∨s=3→No (dd cr 2 false) ls)∧(s=5→No (dd ek 2 true) ls)
def H0 (R:Rec)(N:List aP)(ls:List ai):∃s,(s=2∨s=3∨s=4)∧jW ⟨{R with needs:=N++[⟨[],[],[]⟩]},2⟩ ls=jW ⟨{R with needs:=N++[(dA ls).1]},s⟩ (dA ls).2∧Stop s (dA ls).2:=by
 obtain⟨a1,a2⟩:=vV R N ls [];rw[a1];unfold dA;generalize bL ls=p at a2⊢;obtain⟨W,l1⟩:=p;simp only[List.nil_append]at a2⊢;cases hw:bI ek 2 true l1 with
 |none=>
  have ew:bG l1=([],l1):=by simp only[bG,hw]
  rw[ew];simp only;cases ho:bI cr 2 false l1 with
  |none=>
   have eo:mH l1=([],l1):=by simp only[mH,ho]
   rw[eo];exact⟨2,.inl rfl,rfl,fun _=>⟨a2,jM hw⟩,fun _=>jM ho,fun h=>by omega⟩
  |some q=>
   obtain⟨l,r⟩:=q;have eo:mH l1=(l[1]!,r):=by simp only[mH,ho]
   rw[eo];obtain⟨t,rfl,ht⟩:=cI ho;refine⟨4,.inr (.inr rfl), ?_,fun h=>by omega,fun h=>by omega,fun h=>by omega⟩;rw[fN (Bj (.inl rfl) ht),dw]
 |some q=>
  obtain⟨l,r⟩:=q;have ew:bG l1=(l[1]!,r):=by simp only[bG,hw]
  rw[ew];simp only;obtain⟨t,rfl,ht⟩:=cI hw;rw[fN (C3 rfl ht),dw];simp only;cases ho:bI cr 2 false r with
  |none=>
   have eo:mH r=([],r):=by simp only[mH,ho]
   rw[eo];exact⟨3,.inr (.inl rfl),rfl,fun h=>by omega,fun _=>jM ho,fun h=>by omega⟩
  |some q=>
   obtain⟨l',r'⟩:=q;have eo:mH r=(l'[1]!,r'):=by simp only[mH,ho]
   rw[eo];obtain⟨t',rfl,ht'⟩:=cI ho;refine⟨4,.inr (.inr rfl), ?_,fun h=>by omega,fun h=>by omega,fun h=>by omega⟩;rw[fN (Bj (.inr rfl) ht'),dw]
def Fp (R:Rec):∀(f:Nat)(ls:List ai)(N:List aP)(s:Nat),ls.length≤f→1≤s→s<5→Stop s ls→
  ∃s',1≤s'∧s'<5∧jW ⟨{R with needs:=N},s⟩ ls=jW ⟨{R with needs:=N++(df ls).1},s'⟩ (df ls).2∧Stop s' (df ls).2∧No (dd dJ 1 false) (df ls).2:=by
 intro f;induction f with
 |zero=>
  intro ls N s hl h1 h5 hs;have:ls=[]:=List.length_eq_zero_iff.1 (by omega);subst this;rw[oD (by rfl)];exact⟨s,h1,h5,by simp,hs,fun t r h=>by cases h⟩
 |succ f ih=>
  intro ls N s hl h1 h5 hs;cases hn:bI dJ 1 false ls with
  |none=>
   rw[oD hn];exact⟨s,h1,h5,by simp,hs,jM hn⟩
  |some q=>
   obtain⟨l,r⟩:=q;rw[td hn];have hlen:=gS hn;obtain⟨t,rfl,ht⟩:=cI hn;rw[fN (Fx (by simp only;omega) (by simpa using h5) ht)];obtain⟨s1,b1,b2,b3⟩:=H0 R N r;simp only;rw[b2];have:=sk r;obtain⟨s2,c1,c2,c3,c4,c5⟩:=ih (dA r).2 (N++[(dA r).1]) s1 (by simp only[List.length_cons]at hl;omega) (by omega) (by omega) b3;exact⟨s2,c1,c2,by rw[c3];simp,c4,c5⟩
def HY (R:Rec):∀(f:Nat)(ls:List ai)(B:List ec)(s:Nat),ls.length≤f→1≤s→s≤6→Stop s ls→(s<5→No (dd dJ 1 false) ls)→
  ∃s',1≤s'∧s'≤6∧jW ⟨{R with bars:=B},s⟩ ls=jW ⟨{R with bars:=B++(fQ ls).1},s'⟩ (fQ ls).2∧Stop s' (fQ ls).2∧(s'<5→No (dd dJ 1 false) (fQ ls).2)∧No (dd fE 3 true) (fQ ls).2:=by
 intro f;induction f with
 |zero=>
  intro ls B s hl h1 h5 hs hnd;have:ls=[]:=List.length_eq_zero_iff.1 (by omega);subst this;rw[p9 (by rfl)];exact⟨s,h1,h5,by simp,hs,fun _ t r h=>by(cases h),fun t r h=>by cases h⟩
 |succ f ih=>
  intro ls B s hl h1 h5 hs hnd;cases hn:bI fE 3 true ls with
  |none=>
   rw[p9 hn];exact⟨s,h1,h5,by simp,hs,hnd,jM hn⟩
  |some q=>
   obtain⟨l,r⟩:=q;rw[ux hn];have hlen:=gS hn;obtain⟨t,rfl,ht⟩:=cI hn;rw[fN (H4 (by simp only;omega) (by simpa using h5) ht)];have hwl:=pH r;simp only[List.length_cons]at hl;cases hw:bI ek 2 true r with
   |none=>
    have ew:bG r=([],r):=by simp only[bG,hw]
    rw[ew]at hwl⊢;simp only;obtain⟨s2,c1,c2,c3,c4,c5,c6⟩:=ih r (B++[⟨l[1]!,l[2]!,[]⟩]) 5 (by omega) (by omega) (by omega) ⟨fun h=>by omega,fun h=>by omega,fun _=>jM hw⟩ (fun h=>by omega);exact⟨s2,c1,c2,by rw[c3];simp,c4,c5,c6⟩
   |some q=>
    obtain⟨l',r'⟩:=q;have ew:bG r=(l'[1]!,r'):=by simp only[bG,hw]
    rw[ew]at hwl⊢;obtain⟨t',rfl,ht'⟩:=cI hw;rw[fN (C4 rfl ht'),dw];simp only at hwl⊢;obtain⟨s2,c1,c2,c3,c4,c5,c6⟩:=ih r' (B++[⟨l[1]!,l[2]!,l'[1]!⟩]) 6 (by simp only[List.length_cons]at hl;omega) (by omega) (by omega) ⟨fun h=>by omega,fun h=>by omega,fun h=>by omega⟩ (fun h=>by omega);exact⟨s2,c1,c2,by rw[c3];simp,c4,c5,c6⟩
def xY (R:Rec):∀(ls:List ai)(F:List bd)(s:Nat),1≤s→
  ∃s',(s'=7∨(s'=s∧(cA ls).2=ls))∧jW ⟨{R with feats:=F},s⟩ ls=jW ⟨{R with feats:=F++(cA ls).1},s'⟩ (cA ls).2∧No qY (cA ls).2
 |[],F,s,h=>⟨s,.inr ⟨rfl,rfl⟩,by simp[cA],fun t r h=>by simp[cA]at h⟩
 |t::r,F,s,h=>by
  cases hn:dd bQ 0 false t with
  |none=>
   have e:cA (t::r)=([],t::r):=by simp only[cA,hn]
   rw[e];refine⟨s,.inr ⟨rfl,rfl⟩,by simp,fun t' r' h=>?_⟩;simp only[List.cons.injEq]at h;rw[←h.1];simp only[qY,hn]
  |some l=>
   by_cases ho:2≤l.length
   ·have e:cA (t::r)=(⟨l[1]!,l.drop 2⟩::(cA r).1,(cA r).2):=by simp only[cA,hn,ho,if_true]
    rw[e];have hf:qY t=some l:=by simp only[qY,hn,ho,if_true]
    rw[fN (Fw (by simp only;omega) hf)];obtain⟨s',i1,i2,i3⟩:=xY R r (F++[⟨l[1]!,l.drop 2⟩]) 7 (by omega);refine⟨7,.inl rfl, ?_,i3⟩;have:s'=7:=by rcases i1 with h|h;exact h;exact h.1
    subst this;simp only[i2,List.append_assoc,List.singleton_append]
   ·have e:cA (t::r)=([],t::r):=by simp only[cA,hn,ho,if_false]
    rw[e];refine⟨s,.inr ⟨rfl,rfl⟩,by simp,fun t' r' h=>?_⟩;simp only[List.cons.injEq]at h;rw[←h.1];simp only[qY,hn,ho,if_false]
def Jz {t:ai}(h1:(ah t 32).length=1)(h2:(ah t 32)[0]! =dJ):[]∉ah t 32:=by
 obtain⟨a,ha⟩:=List.length_eq_one_iff.1 h1;rw[ha]at h2⊢;simp only[List.getElem!_cons_zero]at h2;subst h2;decide
def HZ (nm:ai)(v:b7)(ls:List ai):∃s,1≤s∧jW ⟨⟨nm,v,[],[],[]⟩,1⟩ ls=(⟨(pU nm v ls).1,s⟩,(pU nm v ls).2):=by
 obtain⟨s1,a1,a2,a3,a4,a5⟩:=Fp ⟨nm,v,[],[],[]⟩ ls.length ls [] 1 (Nat.le_refl _) (by omega) (by omega) ⟨fun h=>by omega,fun h=>by omega,fun h=>by omega⟩;obtain⟨s2,b1,b2,b3,b4,b5,b6⟩:=HY ⟨nm,v,(df ls).1,[],[]⟩ (df ls).2.length (df ls).2 [] s1 (Nat.le_refl _) a1 (by omega) a4 (fun _=>a5);obtain⟨s3,c1,c2,c3⟩:=xY ⟨nm,v,(df ls).1,(fQ (df ls).2).1,[]⟩ (fQ (df ls).2).2 [] s2 b1;simp only[List.nil_append]at a3 b3 c2;have hs3:1≤s3:=by rcases c1 with h|h<;>omega
 refine⟨s3,hs3, ?_⟩;rw[a3,b3,c2];unfold pU;generalize hR:(⟨nm,v,(df ls).1,(fQ (df ls).2).1,(cA (fQ (df ls).2).2).1⟩:Rec)=R
 match hq:(cA (fQ (df ls).2).2).2 with
 |[]=>rfl
 |t::r=>
  refine pE (JW (by simp only;omega) ?_ ?_ ?_ ?_ ?_ (c3 t r hq) Jz);all_goals
   intro h;simp only at h;rcases c1 with h7|⟨rfl,e⟩
   ·omega
   rw[e]at hq
  ·exact b5 h t r hq
  ·exact(b4.1 h).1 t r hq
  ·rcases h with h|h
   ·exact(b4.1 h).2 t r hq
   ·exact b4.2.2 h t r hq
  ·exact b4.2.1 h t r hq
  ·exact b6 t r hq
def head_eq {t:ai}:uP (ah t 32)=(match dd cL 3 false t with
  |some l=>(match ee l[2]! with
   |some v=>some ⟨⟨l[1]!,v,[],[],[]⟩,1⟩
   |none=>none)
  |none=>none):=by
 rw[vl];unfold uP;generalize ah t 32=l;by_cases h1:l.length=3∧l[0]! =cL
 ·obtain⟨a,b,c,rfl⟩:∃a b c,l=[a,b,c]:=by
   match l,h1.1 with
   |[a,b,c],_=>exact⟨a,b,c,rfl⟩
  have h2:=h1.2;simp only[List.getElem!_cons_zero]at h2;subst h2;by_cases hb:b=[]
  ·subst hb;rw[if_neg (by simp),if_neg (by simp)]
  ·rw[if_pos ⟨h1,by simpa using hb⟩];by_cases hc:c=[]
   ·subst hc;rw[if_neg (by simp)];rfl
   ·have hm:[]∉[cL,b,c]:=by
     simp only[List.mem_cons,List.not_mem_nil,or_false,not_or];exact⟨by decide,fun h=>hb h.symm,fun h=>hc h.symm⟩
    rw[if_pos ⟨h1.2,.inr rfl,hm⟩];cases hq:ee [cL,b,c][2]! <;>simp only[hq]
 ·rw[if_neg (fun h=>h1 h.1),if_neg];rintro⟨a,b,_⟩;exact h1 ⟨by rcases b with b|b<;>omega,a⟩
def rH:fX:=⟨ik,0⟩
def ML (t:ai):c8 rH t=uP (ah t 32):=by unfold c8 rH;simp
def zt (ls:List ai):match mY ls with
  |some (r,rest)=>∃s,1≤s∧jW rH ls=(⟨r,s⟩,rest)
  |none=>jW rH ls=(rH,ls):=by
 match ls with
 |[]=>rfl
 |t::q=>
  have hs:=ML t;rw[head_eq]at hs;cases hn:dd cL 3 false t with
  |none=>
   rw[hn]at hs;simp only[mY,bI,hn];exact pE hs
  |some l=>
   rw[hn]at hs;simp only[mY,bI,hn];cases hv:ee l[2]! with
   |none=>
    simp only[hv]at hs;exact pE hs
   |some v=>
    simp only[hv]at hs;obtain⟨s,h1,h2⟩:=HZ l[1]! v q;exact⟨s,h1,by rw[fN hs,h2];rfl⟩
def pQ (m:List (Nat×bo))(l:Nat)(t:List UInt8):Prop:=(∃u,look m l=some (.bld none 0 u)∧t=[])∨(∃l2 u,look m l=some (.bld (some l2) t.length u)∧look m l2=some (.row t))
@[go_sem] def eA (m:List (Nat×bo))(l:Nat):List (Nat×bo):=match look m l with
 |some (.bld (some l2) _ _)=>bS m l2
 |_=>m
@[go_sem] def od (m:List (Nat×bo))(l L:Nat)(t:List UInt8):List (Nat×bo):=(L,.row t)::cE (eA m l) l (.bld (some L) t.length true)
def TrW (aaz:D)(s:List UInt8)(ds:List D)(st:St)(K:D→St→Prop):Prop:=∃l t,ds=[.ptr l 2 0 0,aaz]∧pQ st.m l t∧l<st.nx∧s≠[]∧t.length+s.length≤1099511627776∧K .any ⟨st.nx+1,od st.m l st.nx (t++s)⟩
def Qp (ds:List D)(st:St)(K:D→St→Prop):Prop:=∃s,TrW (.str s) s ds st K
def Qo (ds:List D)(st:St)(K:D→St→Prop):Prop:=∃c,TrW (.int .u8 c.toNat) [c] ds st K
def Qn (ds:List D)(st:St)(K:D→St→Prop):Prop:=∃l t,ds=[.ptr l 2 0 0]∧pQ st.m l t∧t≠[]∧K (.str t) ⟨st.nx,bS (eA st.m l) l⟩
def K2 (Γ:Ctx):Prop:=∀(ds:List D)(st:St)(K:D→St→Prop),Qp ds st K→Γ.tr 489 ds st K
def K7 (Γ:Ctx):Prop:=∀(ds:List D)(st:St)(K:D→St→Prop),Qo ds st K→Γ.tr 664 ds st K
def KT (Γ:Ctx):Prop:=∀(ds:List D)(st:St)(K:D→St→Prop),Qn ds st K→Γ.tr 452 ds st K
def EO (b a:ai)(l:List ai)(h:a≠[]):aM b (a::l)≠[]:=by
 match l with
 |[]=>exact h
 |c::r=>
  rw[fu b a (c::r) (by simp)];intro e;have:=List.append_eq_nil_iff.1 e;exact h (List.append_eq_nil_iff.1 this.1).1
def yt (ws:List ai)(t:ai):Prop:=(aM [32] ws≠[]∧ws.length≤1048600)∧(∀w∈ws,w.length≤2097200)∧t.length+(aM [32] ws).length+1≤1099511627776
def yt.mk {a:ai}{l:List ai}{t:ai}(h1:a≠[])(h2:l.length≤99)(h3:∀w∈a::l,w.length≤2097200)(h4:t.length≤1000000000):yt (a::l) t:=by
 have h5:=mP 32 2097200 (a::l) h3;have h6:(a::l).length≤100:=by simp only[List.length_cons];omega
 have h7:=Nat.mul_le_mul_right (2097200+1) h6;exact⟨⟨EO _ _ _ h1,by omega⟩,h3,by omega⟩
def KR (Γ:Ctx):Prop:=∀(ws:List ai)(t:ai)(l lw nx:Nat)(m:List (Nat×bo))(K:D→St→Prop),pQ m l t→look m lw=some (.buf 1 (ws.map D.str))→l<nx→lw<nx→yt ws t→
 K (.tup []) ⟨nx+1,od (bS m lw) l nx (t++bY ws)⟩→Γ.tr 450 [.ptr l 2 0 0,.own lw 1 0 ws.length] ⟨nx,m⟩ K
def si {m:List (Nat×bo)}{l L:Nat}{t:List UInt8}(h:l≠L):look (od m l L t) l=some (.bld (some L) t.length true)∧look (od m l L t) L=some (.row t):=by
 constructor
 ·simp only[od,look,if_neg (fun e=>h (Eq.symm e))]
  haveI:cz:={gd:=fun _=>True,le:=fun _ _ _ _ _=>trivial}
  rw[bP,if_pos rfl]
 ·simp only[od,look,if_pos]
def IZ {m:List (Nat×bo)}{l L:Nat}{t:List UInt8}(h:l≠L):pQ (od m l L t) l t:=.inr ⟨L,true,si h⟩
end Go.Abs
section
namespace Go.Abs
def ae {p:Prop}(h:p:=by exact rfl):p:=h
def Hx {p:Prop}(h:p:=by repeat(first|exact de.nil|refine de.un ?_|refine de.eq (by exact rfl) ?_)):p:=h
def cN {p:Prop}(h:p:=by first|exact rfl|exact bg (fun _=>rfl) _):p:=h
def dt {p:Prop}(h:p:=by repeat(first|exact de.nil|refine de.un ?_|refine de.eq (by exact rfl) ?_|refine de.nl (by exact rfl) (by exact rfl) ?_)):p:=h
def di {p:Prop}(h:p:=by repeat' first|exact trivial|exact rfl|refine And.intro ?_ ?_):p:=h
def tK {p:Prop}(h:p:=by repeat' first|exact trivial|exact rfl|exact Nat.le_refl _|refine And.intro ?_ ?_):p:=h
def qy {p:Prop}(h:p:=by repeat(first|exact aO.nil|refine aO.eS (by exact rfl) (by exact rfl) (by first|exact rfl|exact bg (fun _=>rfl) _) ?_|refine aO.lg (by exact rfl) (by exact rfl) (by exact rfl) ?_|refine aO.mb (by exact rfl) (by exact rfl) (by exact rfl) (by exact rfl) ?_)):p:=h
def b0 {p:Prop} [Decidable p]:(decide p=true)=p:=decide_eq_true_eq
def b1 {p:Prop} [Decidable p]:decide p=false↔¬p:=decide_eq_false_iff_not
def b2 (b:Bool):((!b)=true)=(b=false):=Bool.not_eq_true' b
def b3 (b:Bool):((!b)=false)=(b=true):=Bool.not_eq_false' b
def b4 (b:Bool):(¬(b=false))=(b=true):=Bool.not_eq_false b
def b5 (a b:Bool):((a ||b)=true)=(a=true∨b=true):=Bool.or_eq_true a b
def b6 {a b:Bool}:(a ||b)=false↔a=false∧b=false:=Bool.or_eq_false_iff
end Go.Abs
namespace Go.Abs
abbrev dq (Γ:Ctx)(a:aB)(d:D)(ds:List D):Prop:=bz (Γ.at 0) a.body (LI a d) (ed a ds) ⟨0,[]⟩
def bC {a:aB}{d d2:D}{e:Ex}{nx:Nat}{m:List (Nat×bo)}{env:List bx}(h:d2=d)(he:e.home:=by exact trivial)(h1:nX m env a.res:=by exact tK)(h2:yq a env m:=by exact di)(h3:FF a env m=d2:=by exact rfl):LI a d e env ⟨nx,m⟩:=MG he h1 h2 (h3.trans h)
def br {a:aB}{d d2:Bool}{e:Ex}{nx:Nat}{m:List (Nat×bo)}{env:List bx}(h:d2=d)(he:e.home:=by exact trivial)(h1:nX m env a.res:=by exact tK)(h2:yq a env m:=by exact di)(h3:FF a env m=.bool d2:=by exact rfl):LI a (.bool d) e env ⟨nx,m⟩:=bC (congrArg _ h) he h1 h2 h3
def ch {a:aB}{d d2:List UInt8}{e:Ex}{nx:Nat}{m:List (Nat×bo)}{env:List bx}(h:d2=d)(he:e.home:=by exact trivial)(h1:nX m env a.res:=by exact tK)(h2:yq a env m:=by exact di)(h3:FF a env m=.str d2:=by exact rfl):LI a (.str d) e env ⟨nx,m⟩:=bC (congrArg _ h) he h1 h2 h3
def eB {a:aB}{d d2:Int}{e:Ex}{nx:Nat}{m:List (Nat×bo)}{env:List bx}(h:d2=d)(he:e.home:=by exact trivial)(h1:nX m env a.res:=by exact tK)(h2:yq a env m:=by exact di)(h3:FF a env m=.int .i64 d2:=by exact rfl):LI a (.int .i64 d) e env ⟨nx,m⟩:=bC (congrArg _ h) he h1 h2 h3
def cS {lo c nx nx2:Nat}{env env2:List bx}{m m2:List (Nat×bo)}(σ:List (Nat×Nat))(hc:nx2=c:=by exact ae)(h:fG lo c σ=true:=by exact ae)(he:de lo σ env env2:=by exact dt)(hm:aO lo c σ m m2:=by exact qy):aX lo env ⟨nx,m⟩ env2 ⟨nx2,m2⟩:=aX.to σ hc h he hm
def eM {Γ:Ctx}{draw f:Bool}{r:List GI}{env rs:List bx}{nx:Nat}{m:List (Nat×bo)}{K:List bx→St→Prop}{g:Option (Nat×Bool)}{x y:Src}{fx fy:Bool}{a b:List UInt8}(h:aD Γ draw r env (⟨f,.str (a++b)⟩::rs) nx m K)(hg:GF rs g f:=by first|exact rfl|exact⟨_,_,rfl,rfl⟩)(hx:cb env rs x=⟨fx,.str a⟩:=by exact rfl)(hy:cb env rs y=⟨fy,.str b⟩:=by exact rfl)(kx:f=true→fx=true:=by first|exact fun _=>rfl|exact fun h=>h|(intro h;simp_all))(ky:f=true→fy=true:=by first|exact fun _=>rfl|exact fun h=>h|(intro h;simp_all))(hb:f=true→a.length+b.length≤9223372036854775807:=by intro _;simp only[List.length_append,List.length_cons,List.length_nil];omega):aD Γ draw (⟨.bin .add x y,g⟩::r) env rs nx m K:=cO h hg hx hy kx ky hb
end Go.Abs
namespace Go.Abs
section
variable {Γ:Ctx} {Q:Ex→List bx→St→Prop}
def cmN {env rs:List bx}:Gj env rs []=env:=rfl
def cmC {s p:Nat}{r:List (Nat×Nat)}{env rs env1 env':List bx}{f:Bool}{d:D}(e:cb [] rs (.l p)=⟨f,d⟩)(hs:env.set s ⟨f,d⟩=env1)(h:Gj env1 rs r=env'):Gj env rs ((s,p)::r)=env':=by
 simp only[Gj,e,hs,h]
def rrrg {draw:Bool}{cm:List (Nat×Nat)}{b:AC}{nx nx':Nat}{m:List (Nat×bo)}{rs env ed env':List bx}(h:bz Γ b Q env' ⟨nx',m⟩)
  (he:Gj env rs cm=env':=by repeat(first|apply cmC (by exact rfl) (by simp only[List.set_cons_zero,List.set_cons_succ];exact rfl)|with_reducible exact cmN)) (hn:nx+rs.length=nx':=by simp only[List.length_cons,List.length_nil,Nat.reduceAdd];exact rfl):aD Γ draw [] ed rs nx m (fun vs st'=>bz Γ b Q (gh env vs cm) st'):=
 JO h he hn
def rrrh {draw:Bool}{cm:List (Nat×Nat)}{nx nx':Nat}{m:List (Nat×bo)}{rs env ed env':List bx}(h:Q .normal env' ⟨nx',m⟩)
  (he:Gj env rs cm=env':=by repeat(first|apply cmC (by exact rfl) (by simp only[List.set_cons_zero,List.set_cons_succ];exact rfl)|with_reducible exact cmN)) (hn:nx+rs.length=nx':=by simp only[List.length_cons,List.length_nil,Nat.reduceAdd];exact rfl):aD Γ draw [] ed rs nx m (fun vs st'=>Q .normal (gh env vs cm) st'):=
 JP h he hn
end
def Fam (_:Prop):Type:=Unit
def rM {q:Prop}:Fam q:=()
structure Hid (q:Prop)(f:Fam q):Prop where
 val:q
section
variable {Γ:Ctx} {draw b1:Bool} {r:List GI} {env rs:List bx} {nx n0 n1:Nat} {m:List (Nat×bo)} {K:List bx→St→Prop} {g:Option (Nat×Bool)} {x0 x1 x2:Src}
def tg0 {Γ:Ctx}{a:AC}{Q:Ex→List bx→St→Prop}{env:List bx}{st:St}(h:bz Γ a Q env st):bz Γ a Q env st:=h
def tg1 (h:aD Γ draw (⟨.mv x0,g⟩::r) env rs nx m K):aD Γ draw (⟨.mv x0,g⟩::r) env rs nx m K:=h
def tg2 (h:aD Γ draw [] env rs nx m K):aD Γ draw [] env rs nx m K:=h
def tg3 (h:aD Γ draw (⟨.fa n0 x1,g⟩::r) env rs nx m K):aD Γ draw (⟨.fa n0 x1,g⟩::r) env rs nx m K:=h
def tg4 (h:aD Γ draw (⟨.ld n0 b1 x2,g⟩::r) env rs nx m K):aD Γ draw (⟨.ld n0 b1 x2,g⟩::r) env rs nx m K:=h
def tg5 (h:aD Γ draw (⟨.bin .lss x0 x1,g⟩::r) env rs nx m K):aD Γ draw (⟨.bin .lss x0 x1,g⟩::r) env rs nx m K:=h
def tg6 (h:aD Γ draw (⟨.bin .eql x0 x1,g⟩::r) env rs nx m K):aD Γ draw (⟨.bin .eql x0 x1,g⟩::r) env rs nx m K:=h
def tg7 (h:aD Γ draw (⟨.bin .add x0 x1,g⟩::r) env rs nx m K):aD Γ draw (⟨.bin .add x0 x1,g⟩::r) env rs nx m K:=h
def tg8 (h:aD Γ draw (⟨.bin .gtr x0 x1,g⟩::r) env rs nx m K):aD Γ draw (⟨.bin .gtr x0 x1,g⟩::r) env rs nx m K:=h
def tg9 (h:aD Γ draw (⟨.bin .neq x0 x1,g⟩::r) env rs nx m K):aD Γ draw (⟨.bin .neq x0 x1,g⟩::r) env rs nx m K:=h
def tg10 (h:aD Γ draw (⟨.bin .leq x0 x1,g⟩::r) env rs nx m K):aD Γ draw (⟨.bin .leq x0 x1,g⟩::r) env rs nx m K:=h
def tg11 (h:aD Γ draw (⟨.bin .geq x0 x1,g⟩::r) env rs nx m K):aD Γ draw (⟨.bin .geq x0 x1,g⟩::r) env rs nx m K:=h
def tg12 (h:aD Γ draw (⟨.bin .sub x0 x1,g⟩::r) env rs nx m K):aD Γ draw (⟨.bin .sub x0 x1,g⟩::r) env rs nx m K:=h
def tg13 (h:aD Γ draw (⟨.ext x0 n1,g⟩::r) env rs nx m K):aD Γ draw (⟨.ext x0 n1,g⟩::r) env rs nx m K:=h
def tg14 (h:aD Γ draw (⟨.pick x0 x1 (.c (.bool false)),g⟩::r) env rs nx m K):aD Γ draw (⟨.pick x0 x1 (.c (.bool false)),g⟩::r) env rs nx m K:=h
def tg15 (h:aD Γ draw (⟨.pick x0 (.c (.bool true)) x1,g⟩::r) env rs nx m K):aD Γ draw (⟨.pick x0 (.c (.bool true)) x1,g⟩::r) env rs nx m K:=h
def tg16 (h:aD Γ draw (⟨.un .not x0,g⟩::r) env rs nx m K):aD Γ draw (⟨.un .not x0,g⟩::r) env rs nx m K:=h
def tg17 (h:aD Γ draw (⟨.nilck x0,g⟩::r) env rs nx m K):aD Γ draw (⟨.nilck x0,g⟩::r) env rs nx m K:=h
def tg18 (h:aD Γ draw (⟨.box n0 x1,g⟩::r) env rs nx m K):aD Γ draw (⟨.box n0 x1,g⟩::r) env rs nx m K:=h
def tg19 (h:aD Γ draw (⟨.ia n0 x1 x2,g⟩::r) env rs nx m K):aD Γ draw (⟨.ia n0 x1 x2,g⟩::r) env rs nx m K:=h
def tg20 (h:aD Γ draw (⟨.ixS x0 x1,g⟩::r) env rs nx m K):aD Γ draw (⟨.ixS x0 x1,g⟩::r) env rs nx m K:=h
def tg21 (h:aD Γ draw (⟨.st n0 x1 x2,g⟩::r) env rs nx m K):aD Γ draw (⟨.st n0 x1 x2,g⟩::r) env rs nx m K:=h
def tg22 (h:aD Γ draw (⟨.len x0,g⟩::r) env rs nx m K):aD Γ draw (⟨.len x0,g⟩::r) env rs nx m K:=h
def tg23 (h:aD Γ draw (⟨.lenS x0,g⟩::r) env rs nx m K):aD Γ draw (⟨.lenS x0,g⟩::r) env rs nx m K:=h
def tg24 (h:aD Γ draw (⟨.rng x0,g⟩::r) env rs nx m K):aD Γ draw (⟨.rng x0,g⟩::r) env rs nx m K:=h
def tg25 (h:aD Γ draw (⟨.s2b x0,g⟩::r) env rs nx m K):aD Γ draw (⟨.s2b x0,g⟩::r) env rs nx m K:=h
def tg26 (h:aD Γ draw (⟨.mkB,g⟩::r) env rs nx m K):aD Γ draw (⟨.mkB,g⟩::r) env rs nx m K:=h
def tg27 (h:aD Γ draw (⟨.app n0 x1 x2,g⟩::r) env rs nx m K):aD Γ draw (⟨.app n0 x1 x2,g⟩::r) env rs nx m K:=h
end
def aC {p q:Prop}(k:q)(h:Hid q rM→p:=by
 intro h;first
 |((with_reducible refine tg0 ?_);first|with_reducible exact aj h.1|with_reducible exact Im h.1|with_reducible exact Db h.1|with_reducible exact MQ h.1|with_reducible exact FE h.1|with_reducible exact wp_ret h.1|with_reducible exact wp_skip h.1|with_reducible exact Da h.1|with_reducible exact wp_exit h.1|with_reducible exact Bw h.1 hm|with_reducible exact FD h.1 hm)
 |((with_reducible refine tg1 ?_);(refine r_mv ?_;exact h.1))
 |((with_reducible refine tg2 ?_);first|(refine rrrh ?_;exact h.1)|(refine rrrg ?_;exact h.1))
 |((with_reducible refine tg3 ?_);first|(refine P7 ?_;exact h.1)|(refine P8 ?_;exact h.1))
 |((with_reducible refine tg4 ?_);first|exact bc (.int _ _) h.1|exact bc (.str _) h.1|(refine bD (v:=.str _) ?_;exact h.1)|(refine dM (v:=.str _) ?_;exact h.1)|(refine bD (v:=.int _ _) ?_;exact h.1)|(refine dM (v:=.int _ _) ?_;exact h.1)|exact bc (.sl _ _) h.1|exact bc (.own _ _ _ _) h.1|exact bc (.bool _) h.1|(refine bD (v:=.sl _ _) ?_;exact h.1)|(refine dM (v:=.sl _ _) ?_;exact h.1)|(refine bD (v:=.bool _) ?_;exact h.1)|(refine dM (v:=.bool _) ?_;exact h.1)|exact cG h.1|exact bc .az h.1)
 |((with_reducible refine tg5 ?_);first|(refine My ?_;exact h.1)|(refine Mz ?_;exact h.1))
 |((with_reducible refine tg6 ?_);first|(refine Mo ?_;exact h.1)|(refine Mp ?_;exact h.1))
 |((with_reducible refine tg7 ?_);(refine JJ ?_;exact h.1))
 |((with_reducible refine tg8 ?_);first|(refine Cq ?_;exact h.1)|(refine Cr ?_;exact h.1))
 |((with_reducible refine tg9 ?_);first|(refine MA ?_;exact h.1)|(refine MB ?_;exact h.1))
 |((with_reducible refine tg10 ?_);first|(refine Mw ?_;exact h.1)|(refine Mx ?_;exact h.1))
 |((with_reducible refine tg11 ?_);first|(refine Mq ?_;exact h.1)|(refine Mr ?_;exact h.1))
 |((with_reducible refine tg12 ?_);(refine JK ?_;exact h.1))
 |((with_reducible refine tg13 ?_);first|exact dU (.int _ _) h.1|exact dU (.str _) h.1|exact dU (.bool _) h.1)
 |((with_reducible refine tg14 ?_);(refine Hz ?_;exact h.1))
 |((with_reducible refine tg15 ?_);(refine Qe ?_;exact h.1))
 |((with_reducible refine tg16 ?_);(refine Qc ?_;exact h.1))
 |((with_reducible refine tg17 ?_);first|(refine MC ?_;exact h.1)|(refine MD ?_;exact h.1))
 |((with_reducible refine tg18 ?_);(refine P5 ?_;exact h.1))
 |((with_reducible refine tg19 ?_);first|exact bJ _ h.1|exact Ms h.1|exact gW _ h.1|exact Mt h.1)
 |((with_reducible refine tg20 ?_);first|exact mX _ h.1|exact Mu h.1)
 |((with_reducible refine tg21 ?_);exact aL _ h.1)
 |((with_reducible refine tg22 ?_);first|exact HG fun a=>(h.1:_→_) (a rfl rfl)|exact HH fun a=>(h.1:_→_) (a rfl rfl)|(refine Mv ?_;exact h.1))
 |((with_reducible refine tg23 ?_);exact HI fun a=>(h.1:_→_) (a rfl rfl))
 |((with_reducible refine tg24 ?_);(refine Qg ?_;exact h.1))
 |((with_reducible refine tg25 ?_);(refine Qh ?_;exact h.1))
 |((with_reducible refine tg26 ?_);(refine P9 ?_;exact h.1))
 |((with_reducible refine tg27 ?_);(refine kM ?_;exact h.1))
 |with_reducible exact BQ.normal h.1|with_reducible exact BQ.ret h.1|with_reducible exact LQ.normal h.1|with_reducible exact LQ.out h.1|with_reducible exact LQ.ret h.1|with_reducible exact BQ.out h.1|with_reducible exact By.normal h.1|with_reducible exact By.ret h.1|with_reducible exact BA.normal h.1|with_reducible exact BA.ret h.1|with_reducible exact By.out h.1|with_reducible exact BA.out h.1|with_reducible exact CQ.normal h.1|with_reducible exact CQ.ret h.1|with_reducible exact CQ.other h.1|((with_reducible refine BQ.other ?_ h.1);exact rfl)|((with_reducible refine LQ.other ?_ h.1);exact rfl)|((with_reducible refine By.other ?_ h.1);exact rfl)|((with_reducible refine BA.other ?_ h.1);exact rfl)):p:=h ⟨k⟩
def gT {p q:Prop}(k:q)(h:Hid q rM→p:=by intro h;first|exact HG fun _=>h.1|exact HI fun _=>h.1|exact HH fun _=>h.1):p:=h ⟨k⟩
section
variable {Γ:Ctx} {Q:Ex→List bx→St→Prop}
end
def gJ:(∀{p:Prop} [Decidable p],(decide p=true)=p)∧(∀{p:Prop} [Decidable p],decide p=false↔¬p)∧(∀b:Bool,((!b)=true)=(b=false))∧(∀b:Bool,((!b)=false)=(b=true))∧(∀b:Bool,(¬(b=false))=(b=true))∧(∀a b:Bool,((a ||b)=true)=(a=true∨b=true))∧(∀{a b:Bool},(a ||b)=false↔a=false∧b=false)∧(∀a b:Bool,((a&&b)=true)=(a=true∧b=true))∧(∀{a b:Bool},(a&&b)=false↔a=false∨b=false)∧(∀b:Bool,(¬(b=true))=(b=false))∧(∀b:Bool,(true&&b)=b)∧∀b:Bool,(b&&true)=b:=
 ⟨decide_eq_true_eq,decide_eq_false_iff_not,Bool.not_eq_true',Bool.not_eq_false',Bool.not_eq_false,Bool.or_eq_true,Bool.or_eq_false_iff,Bool.and_eq_true,Bool.and_eq_false_iff,Bool.not_eq_true,Bool.true_and,Bool.and_true⟩
section
variable {Γ:Ctx} {Q:Ex→List bx→St→Prop} {env:List bx} {st:St}
def cd {c:Src}{a b r:AC}{t:Bool}{c1 c2:Prop}(h1:c1→bz Γ (.seq a r) Q env st)(h2:c2→bz Γ (.seq b r) Q env st)(hc:cb env [] c=⟨true,.bool t⟩:=by exact rfl)(e1:t=true→c1:=by intro h;(try simp only[gJ]at h);exact h)(e2:t=false→c2:=by intro h;(try simp only[gJ]at h);exact h):bz Γ (.seq (.cond c a b) r) Q env st:=aq (fun h=>h1 (e1 h)) (fun h=>h2 (e2 h)) hc
def fm {c:Src}{a b:AC}{t:Bool}{c1 c2:Prop}(h1:c1→bz Γ a Q env st)(h2:c2→bz Γ b Q env st)(hc:cb env [] c=⟨true,.bool t⟩:=by exact rfl)(e1:t=true→c1:=by intro h;(try simp only[gJ]at h);exact h)(e2:t=false→c2:=by intro h;(try simp only[gJ]at h);exact h):bz Γ (.cond c a b) Q env st:=wp_cond (fun h=>h1 (e1 h)) (fun h=>h2 (e2 h)) hc
end
end Go.Abs
namespace Go.Abs
def ar {p q:Prop}(k:q)(h:Hid q rM→p:=by intro h;(iterate 2 refine aC ?_);exact h.1):p:=h ⟨k⟩
def av {p q:Prop}(k:q)(h:Hid q rM→p:=by intro h;(iterate 3 refine aC ?_);exact h.1):p:=h ⟨k⟩
def ax {p q:Prop}(k:q)(h:Hid q rM→p:=by intro h;(iterate 4 refine aC ?_);exact h.1):p:=h ⟨k⟩
def aJ {p q:Prop}(k:q)(h:Hid q rM→p:=by intro h;(iterate 5 refine aC ?_);exact h.1):p:=h ⟨k⟩
def aA {p q:Prop}(k:q)(h:Hid q rM→p:=by intro h;(iterate 6 refine aC ?_);exact h.1):p:=h ⟨k⟩
def aV {p q:Prop}(k:q)(h:Hid q rM→p:=by intro h;(iterate 7 refine aC ?_);exact h.1):p:=h ⟨k⟩
def bB {p q:Prop}(k:q)(h:Hid q rM→p:=by intro h;(iterate 8 refine aC ?_);exact h.1):p:=h ⟨k⟩
def cR {p q:Prop}(k:q)(h:Hid q rM→p:=by intro h;(iterate 9 refine aC ?_);exact h.1):p:=h ⟨k⟩
def gF {p q:Prop}(k:q)(h:Hid q rM→p:=by intro h;(iterate 10 refine aC ?_);exact h.1):p:=h ⟨k⟩
def fM {p q:Prop}(k:q)(h:Hid q rM→p:=by intro h;(iterate 11 refine aC ?_);exact h.1):p:=h ⟨k⟩
def gZ {p q:Prop}(k:q)(h:Hid q rM→p:=by intro h;(iterate 12 refine aC ?_);exact h.1):p:=h ⟨k⟩
def kv {p q:Prop}(k:q)(h:Hid q rM→p:=by intro h;(iterate 13 refine aC ?_);exact h.1):p:=h ⟨k⟩
def p8 {p q:Prop}(k:q)(h:Hid q rM→p:=by intro h;(iterate 14 refine aC ?_);exact h.1):p:=h ⟨k⟩
def wB {p q:Prop}(k:q)(h:Hid q rM→p:=by intro h;(iterate 15 refine aC ?_);exact h.1):p:=h ⟨k⟩
def wC {p q:Prop}(k:q)(h:Hid q rM→p:=by intro h;(iterate 16 refine aC ?_);exact h.1):p:=h ⟨k⟩
def wD {p q:Prop}(k:q)(h:Hid q rM→p:=by intro h;(iterate 17 refine aC ?_);exact h.1):p:=h ⟨k⟩
def KG {p q:Prop}(k:q)(h:Hid q rM→p:=by intro h;(iterate 18 refine aC ?_);exact h.1):p:=h ⟨k⟩
def QM {p q:Prop}(k:q)(h:Hid q rM→p:=by intro h;(iterate 20 refine aC ?_);exact h.1):p:=h ⟨k⟩
def QN {p q:Prop}(k:q)(h:Hid q rM→p:=by intro h;(iterate 21 refine aC ?_);exact h.1):p:=h ⟨k⟩
def KH {p q:Prop}(k:q)(h:Hid q rM→p:=by intro h;(iterate 22 refine aC ?_);exact h.1):p:=h ⟨k⟩
def QO {p q:Prop}(k:q)(h:Hid q rM→p:=by intro h;(iterate 24 refine aC ?_);exact h.1):p:=h ⟨k⟩
def KI {p q:Prop}(k:q)(h:Hid q rM→p:=by intro h;(iterate 25 refine aC ?_);exact h.1):p:=h ⟨k⟩
def QP {p q:Prop}(k:q)(h:Hid q rM→p:=by intro h;(iterate 26 refine aC ?_);exact h.1):p:=h ⟨k⟩
def Ip {p q:Prop}(k:q)(h:Hid q rM→p:=by intro h;(iterate 28 refine aC ?_);exact h.1):p:=h ⟨k⟩
def QQ {p q:Prop}(k:q)(h:Hid q rM→p:=by intro h;(iterate 29 refine aC ?_);exact h.1):p:=h ⟨k⟩
def KJ {p q:Prop}(k:q)(h:Hid q rM→p:=by intro h;(iterate 36 refine aC ?_);exact h.1):p:=h ⟨k⟩
end Go.Abs
namespace Go.Abs
abbrev s0:Src:=.s 0
abbrev s1:Src:=.s 1
abbrev s2:Src:=.s 2
abbrev s3:Src:=.s 3
abbrev s4:Src:=.s 4
abbrev s5:Src:=.s 5
abbrev s6:Src:=.s 6
abbrev s7:Src:=.s 7
abbrev s8:Src:=.s 8
abbrev s9:Src:=.s 9
abbrev jx:Src:=.s 10
abbrev mc:Src:=.s 11
abbrev lY:Src:=.s 12
abbrev pP:Src:=.s 13
abbrev tn:Src:=.s 14
abbrev vW:Src:=.s 15
abbrev BF:Src:=.s 16
abbrev Bc:Src:=.s 17
abbrev Fq:Src:=.s 18
abbrev MH:Src:=.s 19
abbrev Is:Src:=.s 20
abbrev s21:Src:=.s 21
abbrev s22:Src:=.s 22
abbrev s23:Src:=.s 23
abbrev MZ:Src:=.s 24
abbrev M0:Src:=.s 25
abbrev Qk:Src:=.s 26
abbrev s27:Src:=.s 27
abbrev s28:Src:=.s 28
abbrev s29:Src:=.s 29
abbrev KD:Src:=.s 30
abbrev s31:Src:=.s 31
abbrev s32:Src:=.s 32
abbrev s33:Src:=.s 33
abbrev s34:Src:=.s 34
abbrev s35:Src:=.s 35
abbrev s36:Src:=.s 36
abbrev s37:Src:=.s 37
abbrev s38:Src:=.s 38
abbrev l0:Src:=.l 0
abbrev l1:Src:=.l 1
abbrev l2:Src:=.l 2
abbrev l3:Src:=.l 3
abbrev l4:Src:=.l 4
abbrev l5:Src:=.l 5
abbrev l6:Src:=.l 6
abbrev l7:Src:=.l 7
abbrev l8:Src:=.l 8
abbrev l9:Src:=.l 9
abbrev l10:Src:=.l 10
abbrev fI:Src:=.l 11
abbrev gV:Src:=.l 12
abbrev iQ:Src:=.l 13
abbrev jt:Src:=.l 14
abbrev kB:Src:=.l 15
abbrev mE:Src:=.l 16
abbrev nU:Src:=.l 17
abbrev oB:Src:=.l 18
abbrev pY:Src:=.l 19
abbrev ua:Src:=.l 20
abbrev wP:Src:=.l 21
abbrev xA:Src:=.l 22
abbrev BC:Src:=.l 23
abbrev BD:Src:=.l 24
abbrev B8:Src:=.l 25
abbrev FK:Src:=.l 26
abbrev GQ:Src:=.l 27
abbrev Jt:Src:=.l 28
abbrev Ju:Src:=.l 29
abbrev L6:Src:=.l 30
abbrev MV:Src:=.l 31
abbrev MW:Src:=.l 32
abbrev l33:Src:=.l 33
abbrev l34:Src:=.l 34
abbrev l35:Src:=.l 35
abbrev l36:Src:=.l 36
abbrev l37:Src:=.l 37
abbrev gm (x:Src):GI:=⟨.mv x,none⟩
abbrev gn (x:aI):GI:=⟨x,none⟩
abbrev i6 (n:Int):Src:=.c (.int .i64 n)
abbrev cs (s:List UInt8):Src:=.c (.str s)
abbrev gd (x:Src):GI:=⟨.ld 1 false x,none⟩
abbrev gk (n:Nat)(b:Bool)(x:Src):GI:=⟨.ld n b x,none⟩
abbrev gf (n:Nat)(x:Src):GI:=⟨.fa n x,none⟩
abbrev gl (x:Src):GI:=⟨.len x,none⟩
abbrev ga (n:Nat)(x y:Src):GI:=⟨.ia n x y,none⟩
abbrev ge (x:Src)(n:Nat):GI:=⟨.ext x n,none⟩
abbrev gb (n:Nat)(x:Src):GI:=⟨.box n x,none⟩
abbrev gc (x:Src):GI:=⟨.nilck x,none⟩
abbrev gt (n:Nat)(x y:Src):GI:=⟨.st n x y,none⟩
abbrev gx (n:Nat)(x:List Src)(y:List (List Sh)):GI:=⟨.call n x y,none⟩
abbrev rg (x:List GI)(y:List (Nat×Nat)):AC:=.reg false x y
abbrev rt (x:List GI)(y:List (Nat×Nat)):AC:=.reg true x y
abbrev pT (x y:Src):aI:=.bin .lss x y
abbrev ca (x y:Src):aI:=.bin .eql x y
abbrev Ko (x y:Src):aI:=.bin .add x y
abbrev dz (x y:Src):aI:=.bin .gtr x y
abbrev dC (x y:Src):aI:=.bin .neq x y
abbrev mh (x y:Src):aI:=.bin .leq x y
abbrev sR (x y:Src):aI:=.bin .geq x y
abbrev iG (x y:Src):aI:=.bin .sub x y
abbrev ct:Src:=.c (.bool false)
abbrev me:Src:=.c (.bool true)
abbrev cse:Src:=.c (.str [])
abbrev bh:Src:=.c (.int .i64 0)
abbrev bR:Src:=.c (.int .i64 1)
abbrev jF:Src:=.c (.int .i64 2)
abbrev jG:Src:=.c (.int .i64 3)
abbrev tA:Src:=.c (.int .i64 4)
abbrev B4:Src:=.c (.int .i64 5)
abbrev tY:Src:=.c (.int .i64 6)
abbrev FJ:Src:=.c (.int .i64 7)
abbrev B5:Src:=.c (.int .i64 8)
abbrev EM:Src:=.c (.int .i64 9)
abbrev gmt (n:Nat)(x:Src):GI:=⟨.mv x,some (n,true)⟩
abbrev iO (n:Nat)(x:Src):GI:=⟨.ld 1 false x,some (n,true)⟩
abbrev kA (n o:Nat)(x:Src):GI:=⟨.fa o x,some (n,true)⟩
abbrev bZ (n:Nat)(x:aI):GI:=⟨x,some (n,true)⟩
abbrev dH (n:Nat)(x:Src):GI:=⟨.mv x,some (n,false)⟩
abbrev hY (n:Nat)(x:Src):GI:=⟨.ld 1 false x,some (n,false)⟩
abbrev hH (n o:Nat)(x:Src):GI:=⟨.fa o x,some (n,false)⟩
abbrev bT (n:Nat)(x:aI):GI:=⟨x,some (n,false)⟩
abbrev sq (a b:AC):AC:=.seq a b
abbrev uO (x:Src):AC:=.seq (.reg false [⟨.mv x,none⟩] [(1,0)]) .ret
abbrev lA (c x:Src):AC:=.cond c (.seq (.reg false [⟨.mv x,none⟩] [(1,0)]) .ret) .skip
abbrev bO:List (List Sh):=[[.a]]
abbrev EJ:List (List Sh):=[[.a,.a,.a,.a,.a]]
abbrev Jg:List (List Sh):=[[.a,.a,.a,.a,.a,.a,.a]]
abbrev gQ:List (List Sh):=[[.a],[.a]]
abbrev Jh:List (List Sh):=[[.a],[.a],[.a]]
abbrev ea (c x:Src):GI:=⟨.pick c (.c (.bool true)) x,none⟩
abbrev dZ (c x:Src):GI:=⟨.pick c x (.c (.bool false)),none⟩
abbrev LZ (n:Nat)(c x:Src):GI:=⟨.pick c (.c (.bool true)) x,some (n,true)⟩
abbrev yP (n:Nat)(c x:Src):GI:=⟨.pick c x (.c (.bool false)),some (n,false)⟩
abbrev aN (x y:Src):GI:=⟨.bin .lss x y,none⟩
abbrev aG (x y:Src):GI:=⟨.bin .eql x y,none⟩
abbrev au (x y:Src):GI:=⟨.bin .add x y,none⟩
abbrev cB (x y:Src):GI:=⟨.bin .gtr x y,none⟩
abbrev bN (x y:Src):GI:=⟨.bin .neq x y,none⟩
abbrev vg (x y:Src):GI:=⟨.bin .leq x y,none⟩
abbrev gv (x y:Src):GI:=⟨.bin .geq x y,none⟩
abbrev dP (x y:Src):GI:=⟨.bin .sub x y,none⟩
abbrev eN (c:Src)(n:Nat):AC:=.cond c .skip (.exit n)
abbrev i8 (n:Int):Src:=.c (.int .u8 n)
abbrev i3 (n:Int):Src:=.c (.int .i32 n)
abbrev iu (n:Int):Src:=.c (.int .u64 n)
abbrev m9 (x:Src):GI:=⟨.lenS x,none⟩
abbrev ix (x:Src):GI:=⟨.un .not x,none⟩
abbrev Dv (x y:Src):GI:=⟨.ixS x y,none⟩
abbrev r1 (x:List GI)(a b:Nat):AC:=.reg false x [(a,b)]
abbrev r2 (x:List GI)(a b:Nat):AC:=.reg true x [(a,b)]
abbrev gG:List BG:=[⟨1,none⟩]
end Go.Abs
end
section
namespace Go.Abs
open Go
def Ff:aB:=⟨2,7,[⟨2,none⟩],bO,(sq (r1 [gm cse] 2 0) (sq (r1 [gm cse] 6 0) (sq (sq (r1 [gm bh] 3 0) (.block 0 (.loop (sq (sq (r1 [gm s3,gm s0,gl l1,aN l0 l2] 4 3) (eN s4 0)) (sq (.block 1 (sq (sq (r1 [gm s3,cB l0 bh] 5 1) (.cond s5 (r1 [gm s6,gm s1,gn (.bsl 1 (.int .u8 0) 1 [(0,l1)]),gn (.b2s l2),au l0 l3,gm l4] 6 5) .skip)) (r1 [gm s6,gm s0,gm s3,ga 1 l1 l2,gd l3,au l0 l4,gm l5] 6 6))) (r1 [gm s3,au l0 bR,gm l1] 3 2)))))) (sq (r1 [gm s6,gm l0] 2 1) .ret))))⟩
def w249 {Γ:Ctx}(hm:(Γ.at 0).a8)  (l:List ai)(x:UInt8)  (hp0:(aM [x] l).length≤1099511627776):dq Γ Ff (.str (aM [x] l)) [.sl 1 (l.map D.str),.int .u8 (x.toNat:Nat)]:=by
 show bz _ _ _ [⟨_,_⟩,⟨_,_⟩,_,_,_,_,_] _;refine aj ?_;refine cR ?_;refine aY hm (ι:=Nat) (fun i=>[⟨true,.sl 1 (l.map D.str)⟩,⟨true,.int .u8 (x.toNat:Nat)⟩,.un,⟨true,.int .i64 (i:Nat)⟩,.un,.un,⟨true,.str (aM [x] (l.take i))⟩]) (fun i=>[]) 3 (fun i=>i≤l.length) (fun i=>l.length-i) 0 (by omega) (cS []) ?_;intro i hi;refine aJ ?_;intro u0;refine ar ?_;refine cd (fun hc0=>?_) fun hc0=>?_
 ·refine ax ?_;have hj:=pr [x] l (i+1);refine av ?_;refine aq (fun hc1=>?_) (fun hc1=>?_)
  ·simp only[decide_eq_true_eq]at hc1;have ht:=nw [x] l i (by omega);rw[if_pos (by omega)]at ht;have htl:=congrArg List.length ht;simp only[List.length_append,List.length_singleton]at htl;refine av ?_;refine cx [.int .u8 _] ?_;refine HB [x] (he:=fun _=>rQ.all ae rfl) (hs:=fun _=>rfl) ?_;refine cO (hb:=fun _=>by simp only[List.length_singleton];omega) ?_;refine bB ?_;refine cO (hb:=fun _=>by first|(simp only[List.length_append,List.length_singleton];omega)|(subst hi0;simp only[List.take_zero,aM,List.length_nil]at htl⊢;omega)) ?_;refine cR ?_;exact⟨i+1,(by omega),by omega,(aX.to [] ae ae (by repeat(first|exact de.nil|refine de.un ?_|refine de.eq ae ?_|refine de.nl (congrArg D.str (by rw[ht])) ae ?_)) qy)⟩
  simp only[decide_eq_false_iff_not]at hc1;have ht:=nw [x] l i (by omega);rw[if_neg (by omega)]at ht;have htl:=congrArg List.length ht;simp only[List.length_append,List.length_nil]at htl;have hi0:i=0:=by omega
  refine aV ?_;refine cO (hb:=fun _=>by first|(simp only[List.length_append,List.length_singleton];omega)|(subst hi0;simp only[List.take_zero,aM,List.length_nil]at htl⊢;omega)) ?_;refine cR ?_;exact⟨i+1,(by omega),by omega,(aX.to [] ae ae (by repeat(first|exact de.nil|refine de.un ?_|refine de.eq ae ?_|refine de.nl (congrArg D.str (by rw[ht];subst hi0;rfl)) ae ?_)) qy)⟩
 refine aV ?_;refine ch ?_;rw[List.take_of_length_le (by omega)]
def FZ (Γ:Ctx):Prop:=∀(l:List ai)(x:UInt8),((aM [x] l).length≤1099511627776)→Γ.pre 249 [.sl 1 (l.map D.str),.int .u8 (x.toNat:Nat)]∧Γ.val 249 [.sl 1 (l.map D.str),.int .u8 (x.toNat:Nat)]=.str (aM [x] l)
def vN:aB:=⟨2,7,[⟨2,none⟩],bO,(sq (r1 [gm ct] 2 0) (sq (sq (r1 [gm s0,gl l0,gm s1,gl l2,bN l1 l3] 3 4) (.cond s3 (sq (r1 [gm ct] 2 0) .ret) .skip)) (sq (sq (r1 [gm bh] 4 0) (.block 0 (.loop (sq (sq (r1 [gm s4,gm s0,gl l1,aN l0 l2] 5 3) (eN s5 0)) (sq (.block 1 (sq (r2 [gm s0,gm s4,ga 1 l0 l1,gd l2,gm s1,gm s4,ga 1 l4 l5,gd l6,bN l3 l7] 6 8) (.cond s6 (sq (r1 [gm ct] 2 0) .ret) .skip))) (r1 [gm s4,au l0 bR,gm l1] 4 2)))))) (sq (r1 [gm me] 2 0) .ret))))⟩
def w226 {Γ:Ctx}(hm:(Γ.at 0).a8)  (a:List ai)(b:List ai)   :dq Γ vN (.bool (decide (a=b))) [.sl 1 (a.map D.str),.sl 1 (b.map D.str)]:=by
 show bz _ _ _ [⟨_,_⟩,⟨_,_⟩,_,_,_,_,_] _;refine aj ?_;refine aA ?_;intro u0;refine ar ?_;intro u1;refine ar ?_;refine cd (fun hc0=>?_) fun hc0=>?_
 ·refine aJ ?_;refine br ?_;symm;rw[decide_eq_false_iff_not];rintro rfl;exact hc0 rfl
 refine aJ ?_;have hab:a.length=b.length:=by omega
 have hb:=m3 hab;refine aY hm (ι:=Nat) (fun i=>[⟨true,.sl 1 (a.map D.str)⟩,⟨true,.sl 1 (b.map D.str)⟩,.un,.un,⟨true,.int .i64 (i:Nat)⟩,.un,.un]) (fun i=>[]) 7 (fun i=>i≤a.length∧decide (a=b)=b8 (fun i=>decide (a[i]! =b[i]!)) i a.length) (fun i=>a.length-i) 0 ⟨by omega,hb⟩ (cS []) ?_;rintro i ⟨hi,hr⟩;refine aJ ?_;intro u2;refine ar ?_;refine cd (fun hc1=>?_) fun hc1=>?_
 ·refine kv ?_;refine wp_cond (fun hc2=>?_) (fun hc2=>?_)
  ·simp only[Bool.not_eq_true',decide_eq_false_iff_not]at hc2;refine aA ?_;refine br ?_;rw[hr,aH (by omega),decide_eq_false hc2];rfl
  simp only[Bool.not_eq_false',decide_eq_true_eq]at hc2;refine bB ?_;exact⟨i+1,⟨by omega,by rw[hr,aH (by omega),decide_eq_true hc2];rfl⟩,by omega,(cS [])⟩
 refine aA ?_;refine br ?_;rw[hr,bE (by omega)]
def KO (Γ:Ctx):Prop:=∀(a:List ai)(b:List ai),Γ.pre 226 [.sl 1 (a.map D.str),.sl 1 (b.map D.str)]∧Γ.val 226 [.sl 1 (a.map D.str),.sl 1 (b.map D.str)]=.bool (decide (a=b))
def A5:aB:=⟨1,5,gG,bO,(sq (r1 [gm ct] 1 0) (sq (sq (r1 [gm bR] 2 0) (.block 0 (.loop (sq (sq (r1 [gm s2,gm s0,gl l1,aN l0 l2] 3 3) (eN s3 0)) (sq (.block 1 (sq (r2 [gm s0,gm s2,dP l1 bR,ga 1 l0 l2,gd l3,gm s0,gm s2,ga 1 l5 l6,gd l7,gv l4 l8] 4 9) (lA s4 ct))) (r1 [gm s2,au l0 bR,gm l1] 2 2)))))) (uO me)))⟩
def w815 {Γ:Ctx}(hm:(Γ.at 0).a8)  (l:List ai)   :dq Γ A5 (.bool (rising l)) [.sl 1 (l.map D.str)]:=by
 show bz _ _ _ [⟨_,_⟩,_,_,_,_] _;refine aj ?_;refine aA ?_;refine aY hm (ι:=Nat) (fun i=>[⟨true,.sl 1 (l.map D.str)⟩,.un,⟨true,.int .i64 (i:Nat)⟩,.un,.un]) (fun i=>[]) 2 (fun i=>1≤i∧(i≤l.length∨i=1)∧rising l=b8 (fun i=>Op.bytesLess l[i-1]! l[i]!) i l.length) (fun i=>l.length-i) 1 ⟨by omega,by omega,rfl⟩ (cS []) ?_;rintro i ⟨h1,hi,hr⟩;refine aJ ?_;intro u0;refine ar ?_;refine cd (fun hc0=>?_) fun hc0=>?_
 ·refine aA ?_;refine bJ (i-1) ?_;refine aV ?_;refine wp_cond (fun hc1=>?_) (fun hc1=>?_)
  ·simp only[Bool.not_eq_true']at hc1;refine aA ?_;refine br ?_;rw[hr,aH (by omega),hc1];rfl
  simp only[Bool.not_eq_false']at hc1;refine bB ?_;exact⟨i+1,⟨by omega,by omega,by rw[hr,aH (by omega),hc1];rfl⟩,by omega,(cS [])⟩
 refine aA ?_;refine br ?_;rw[hr,bE (by omega)]
def Li (Γ:Ctx):Prop:=∀(l:List ai),Γ.pre 815 [.sl 1 (l.map D.str)]∧Γ.val 815 [.sl 1 (l.map D.str)]=.bool (rising l)
def wN:aB:=⟨1,5,gG,bO,(sq (r1 [gm ct] 1 0) (sq (sq (r1 [gm bR] 2 0) (.block 0 (.loop (sq (sq (r1 [gm s2,gm s0,gl l1,aN l0 l2] 3 3) (eN s3 0)) (sq (.block 1 (sq (r2 [gm s0,gm s2,dP l1 bR,ga 1 l0 l2,gd l3,gm s0,gm s2,ga 1 l5 l6,gd l7,gv l4 l8] 4 9) (lA s4 ct))) (r1 [gm s2,au l0 bR,gm l1] 2 2)))))) (uO me)))⟩
def w447 {Γ:Ctx}(hm:(Γ.at 0).a8)  (l:List ai)   :dq Γ wN (.bool (rising l)) [.sl 1 (l.map D.str)]:=by
 show bz _ _ _ [⟨_,_⟩,_,_,_,_] _;refine aj ?_;refine aA ?_;refine aY hm (ι:=Nat) (fun i=>[⟨true,.sl 1 (l.map D.str)⟩,.un,⟨true,.int .i64 (i:Nat)⟩,.un,.un]) (fun i=>[]) 2 (fun i=>1≤i∧(i≤l.length∨i=1)∧rising l=b8 (fun i=>Op.bytesLess l[i-1]! l[i]!) i l.length) (fun i=>l.length-i) 1 ⟨by omega,by omega,rfl⟩ (cS []) ?_;rintro i ⟨h1,hi,hr⟩;refine aJ ?_;intro u0;refine ar ?_;refine cd (fun hc0=>?_) fun hc0=>?_
 ·refine aA ?_;refine bJ (i-1) ?_;refine aV ?_;refine wp_cond (fun hc1=>?_) (fun hc1=>?_)
  ·simp only[Bool.not_eq_true']at hc1;refine aA ?_;refine br ?_;rw[hr,aH (by omega),hc1];rfl
  simp only[Bool.not_eq_false']at hc1;refine bB ?_;exact⟨i+1,⟨by omega,by omega,by rw[hr,aH (by omega),hc1];rfl⟩,by omega,(cS [])⟩
 refine aA ?_;refine br ?_;rw[hr,bE (by omega)]
def NH (Γ:Ctx):Prop:=∀(l:List ai),Γ.pre 447 [.sl 1 (l.map D.str)]∧Γ.val 447 [.sl 1 (l.map D.str)]=.bool (rising l)
end Go.Abs
end
section
namespace Go.Abs
open Go
def B7:aB:=⟨1,8,gG,bO,(sq (r1 [gm ct] 1 0) (sq (sq (r1 [gm s0,aG l0 cse,gm l1,dH 2 s0,bT 2 (.lenS l3),bT 2 (dz l4 (i6 12)),ea l2 l5] 2 6) (lA s2 ct)) (sq (sq (r1 [gm s0,gn (.rng l0)] 3 1) (.block 0 (.loop (sq (rg [gn (.wF s3),ge l0 0] [(5,0),(4,1)]) (sq (eN s4 0) (.block 1 (sq (r1 [ge s5 2,gm l0] 6 1) (.block 2 (sq (sq (r1 [gm s6,gv l0 (i3 97),gm l1,gmt 2 s6,bZ 2 (mh l3 (i3 122)),dZ l2 l4,gm l5] 7 6) (.cond s7 .skip (sq (r1 [gm s6,gv l0 (i3 48),gm l1,gmt 2 s6,bZ 2 (mh l3 (i3 57)),dZ l2 l4,gm l5] 7 6) (.cond s7 .skip (r1 [gm s6,aG l0 (i3 95),gm l1] 7 2))))) (.cond s7 .skip (uO ct))))))))))) (uO me))))⟩
def w349 {Γ:Ctx}(hm:(Γ.at 0).a8)  (s:ai)   :dq Γ B7 (.bool (bV s)) [.str s]:=by
 show bz _ _ _ [⟨_,_⟩,_,_,_,_,_,_,_] _;refine aj ?_;refine bB ?_;refine gT ?_;refine av ?_;refine cd (fun hc0=>?_) fun hc0=>?_
 ·refine aJ ?_;refine br ?_;symm;simp only[bV,Bool.and_eq_false_iff,decide_eq_false_iff_not];rcases hc0 with h|h
  ·subst h;exact Or.inl (Or.inl (by simp))
  ·exact Or.inl (by omega)
 refine aA ?_;have hP:bV s=b8 (fun i=>wv (at8 s i)) 0 s.length:=by
  have:=List.length_pos_iff.2 hc0.1;simp only[bV];rw[decide_eq_true (by omega),decide_eq_true (by omega)];rfl
 refine aY hm (ι:=Nat) (fun i=>[⟨true,.str s⟩,.un,.un,⟨true,.it 9⟩,.un,.un,.un,.un]) (fun i=>[(9,.iter s i)]) 10 (fun i=>i≤s.length∧bV s=b8 (fun i=>wv (at8 s i)) i s.length) (fun i=>s.length-i) 0 ⟨by omega,hP⟩ (cS [(9,9)]) ?_;rintro i ⟨hi,hr⟩;refine aC ?_;by_cases hnx:i<s.length
 ·obtain⟨c,w,hdec,hw,hcw⟩:=qR s i hnx;refine zg c w (hp:=hnx) (hc:=hdec) ?_;refine ar ?_;refine aq (t:=true) (fun _=>?_) (fun h=>by cases h);refine wD ?_;refine cd (fun hc2=>?_) fun hc2=>?_
  ·refine aC ?_;refine fm (fun hc4=>?_) fun hc4=>?_
   ·refine ax ?_;obtain⟨rfl,hat,-⟩:w=1∧(c:Int)=at8 s i∧c<128:=by
     rcases hcw with h|h
     ·exact h
     ·omega
    have hz:wv (at8 s i)=true:=by
     simp only[wv,gu,aZ,Bool.or_eq_true,Bool.and_eq_true,decide_eq_true_eq];omega
    exact⟨i+1,⟨by omega,by rw[hr,aH hnx,hz];rfl⟩,by omega,(cS [(9,9)])⟩
   refine aV ?_;refine br ?_;first
    |(exfalso;omega)
    |(rw[hr,bE (by omega)];done)
    |(
     have hz:wv (at8 s i)=false:=by
      rcases hcw with⟨_,h,_⟩|⟨_,h⟩<;>(simp only[wv,gu,aZ,Bool.or_eq_false_iff,Bool.and_eq_false_iff,decide_eq_false_iff_not];omega)
     rw[hr,aH hnx,hz];rfl)
  refine gF ?_;refine cd (fun hc3=>?_) fun hc3=>?_
  ·refine aC ?_;refine fm (fun hc4=>?_) fun hc4=>?_
   ·refine ax ?_;obtain⟨rfl,hat,-⟩:w=1∧(c:Int)=at8 s i∧c<128:=by
     rcases hcw with h|h
     ·exact h
     ·omega
    have hz:wv (at8 s i)=true:=by
     simp only[wv,gu,aZ,Bool.or_eq_true,Bool.and_eq_true,decide_eq_true_eq];omega
    exact⟨i+1,⟨by omega,by rw[hr,aH hnx,hz];rfl⟩,by omega,(cS [(9,9)])⟩
   refine aV ?_;refine br ?_;first
    |(exfalso;omega)
    |(rw[hr,bE (by omega)];done)
    |(
     have hz:wv (at8 s i)=false:=by
      rcases hcw with⟨_,h,_⟩|⟨_,h⟩<;>(simp only[wv,gu,aZ,Bool.or_eq_false_iff,Bool.and_eq_false_iff,decide_eq_false_iff_not];omega)
     rw[hr,aH hnx,hz];rfl)
  refine aJ ?_;refine fm (fun hc4=>?_) fun hc4=>?_
  ·refine ax ?_;obtain⟨rfl,hat,-⟩:w=1∧(c:Int)=at8 s i∧c<128:=by
    rcases hcw with h|h
    ·exact h
    ·omega
   have hz:wv (at8 s i)=true:=by
    simp only[wv,gu,aZ,Bool.or_eq_true,Bool.and_eq_true,decide_eq_true_eq];omega
   exact⟨i+1,⟨by omega,by rw[hr,aH hnx,hz];rfl⟩,by omega,(cS [(9,9)])⟩
  refine aV ?_;refine br ?_;first
   |(exfalso;omega)
   |(rw[hr,bE (by omega)];done)
   |(
    have hz:wv (at8 s i)=false:=by
     rcases hcw with⟨_,h,_⟩|⟨_,h⟩<;>(simp only[wv,gu,aZ,Bool.or_eq_false_iff,Bool.and_eq_false_iff,decide_eq_false_iff_not];omega)
    rw[hr,aH hnx,hz];rfl)
 ·refine zf (hp:=hnx) ?_;refine ar ?_;refine aq (t:=false) (fun h=>by cases h) (fun _=>?_);refine aA ?_;refine br ?_;first
   |(exfalso;omega)
   |(rw[hr,bE (by omega)];done)
   |(
    have hz:wv (at8 s i)=false:=by
     rcases hcw with⟨_,h,_⟩|⟨_,h⟩<;>(simp only[wv,gu,aZ,Bool.or_eq_false_iff,Bool.and_eq_false_iff,decide_eq_false_iff_not];omega)
    rw[hr,aH hnx,hz];rfl)
def BI (Γ:Ctx):Prop:=∀(s:ai),Γ.pre 349 [.str s]∧Γ.val 349 [.str s]=.bool (bV s)
def B6:aB:=⟨1,13,gG,bO,(sq (r1 [gm ct] 1 0) (sq (sq (r1 [gm s0,aG l0 cse,gm l1,dH 2 s0,bT 2 (.lenS l3),bT 2 (dz l4 (i6 16)),ea l2 l5] 2 6) (lA s2 ct)) (sq (sq (r1 [gm s0,gn (.rng l0)] 3 1) (.block 0 (.loop (sq (rg [gn (.wF s3),ge l0 0] [(5,0),(4,1)]) (sq (eN s4 0) (.block 1 (sq (rg [ge s5 1,ge s5 2,gm l0,gm l1] [(9,2),(6,3)]) (.block 2 (sq (r1 [gm s6,gv l0 (i3 97),gm l1,gmt 2 s6,bZ 2 (mh l3 (i3 122)),dZ l2 l4,gm l5] 7 6) (.cond s7 .skip (sq (r1 [gm s6,gv l0 (i3 48),gm l1,gmt 2 s6,bZ 2 (mh l3 (i3 57)),dZ l2 l4,gm l5] 8 6) (.cond s8 (sq (r1 [gm s9,aG l0 bh] 10 1) (lA jx ct)) (sq (r1 [gm s6,aG l0 (i3 45),gm l1] 11 2) (.cond mc (sq (r1 [gm s9,aG l0 bh,gm l1,dH 2 s9,dH 2 s0,bT 2 (.lenS l4),bT 2 (iG l5 bR),bT 2 (ca l3 l6),ea l2 l7,gm l8,dH 9 s0,dH 9 s9,bT 9 (iG fI bR),bT 9 (.ixS l10 gV),bT 9 (ca iQ (i8 45)),ea l9 jt] 12 15) (lA lY ct)) (uO ct))))))))))))))) (uO me))))⟩
def w208 {Γ:Ctx}(hm:(Γ.at 0).a8)  (s:ai)   :dq Γ B6 (.bool (eY s)) [.str s]:=by
 show bz _ _ _ [⟨_,_⟩,_,_,_,_,_,_,_,_,_,_,_,_] _;refine aj ?_;refine bB ?_;refine gT ?_;refine av ?_;refine cd (fun hc0=>?_) fun hc0=>?_
 ·refine aJ ?_;refine br ?_;symm;simp only[eY];rcases hc0 with h|h
  ·subst h;simp
  ·rw[decide_eq_false (by omega:¬s.length≤16)];simp
 refine aA ?_;have h0:=List.length_pos_iff.2 hc0.1;have hP:=Jw s (by omega) (by omega);refine aY hm (ι:=Nat) (fun i=>[⟨true,.str s⟩,.un,.un,⟨true,.it 9⟩,.un,.un,.un,.un,.un,.un,.un,.un,.un]) (fun i=>[(9,.iter s i)]) 10 (fun i=>i≤s.length∧eY s=b8 (mG s) i s.length) (fun i=>s.length-i) 0 ⟨by omega,hP⟩ (cS [(9,9)]) ?_;rintro i ⟨hi,hr⟩;refine aC ?_;by_cases hnx:i<s.length
 ·obtain⟨c,w,hdec,hw,hcw⟩:=qR s i hnx;refine zg c w (hp:=hnx) (hc:=hdec) ?_;refine ar ?_;refine aq (t:=true) (fun _=>?_) (fun h=>by cases h);refine KG ?_;refine fm (fun hc2=>?_) fun hc2=>?_
  ·refine ax ?_;obtain⟨rfl,hat,-⟩:w=1∧(c:Int)=at8 s i∧c<128:=by
    rcases hcw with h|h
    ·exact h
    ·omega
   have hz:mG s i=true:=by
    simp only[mG,gu,aZ,Bool.or_eq_true,Bool.and_eq_true,Bool.not_eq_true',decide_eq_true_eq,decide_eq_false_iff_not];omega
   exact⟨i+1,⟨by omega,by rw[hr,aH hnx,hz];rfl⟩,by omega,(cS [(9,9)])⟩
  refine cR ?_;refine fm (fun hc3=>?_) fun hc3=>?_
  ·refine ax ?_;refine fm (fun hc4=>?_) fun hc4=>?_
   ·refine aV ?_;refine br ?_;first
     |(exfalso;omega)
     |(rw[hr,bE (by omega)];done)
     |(have hz:mG s i=false:=by
        rcases hcw with⟨_,h,_⟩|⟨_,h⟩<;>(simp only[mG,gu,aZ,Bool.or_eq_false_iff,Bool.and_eq_false_iff,Bool.not_eq_false',decide_eq_true_eq,decide_eq_false_iff_not];omega)
       rw[hr,aH hnx,hz];rfl)
   refine ax ?_;obtain⟨rfl,hat,-⟩:w=1∧(c:Int)=at8 s i∧c<128:=by
    rcases hcw with h|h
    ·exact h
    ·omega
   have hz:mG s i=true:=by
    simp only[mG,gu,aZ,Bool.or_eq_true,Bool.and_eq_true,Bool.not_eq_true',decide_eq_true_eq,decide_eq_false_iff_not];omega
   exact⟨i+1,⟨by omega,by rw[hr,aH hnx,hz];rfl⟩,by omega,(cS [(9,9)])⟩
  refine aJ ?_;refine fm (fun hc5=>?_) fun hc5=>?_
  ·refine aA ?_;refine gT ?_;refine aV ?_;refine mX (i-1) ?_;refine av ?_;refine fm (fun hc6=>?_) fun hc6=>?_
   ·refine aV ?_;refine br ?_;first
     |(exfalso;omega)
     |(rw[hr,bE (by omega)];done)
     |(have hz:mG s i=false:=by
        rcases hcw with⟨_,h,_⟩|⟨_,h⟩<;>(simp only[mG,gu,aZ,Bool.or_eq_false_iff,Bool.and_eq_false_iff,Bool.not_eq_false',decide_eq_true_eq,decide_eq_false_iff_not];omega)
       rw[hr,aH hnx,hz];rfl)
   refine ax ?_;obtain⟨rfl,hat,-⟩:w=1∧(c:Int)=at8 s i∧c<128:=by
    rcases hcw with h|h
    ·exact h
    ·omega
   have hz:mG s i=true:=by
    simp only[mG,gu,aZ,Bool.or_eq_true,Bool.and_eq_true,Bool.not_eq_true',decide_eq_true_eq,decide_eq_false_iff_not];omega
   exact⟨i+1,⟨by omega,by rw[hr,aH hnx,hz];rfl⟩,by omega,(cS [(9,9)])⟩
  refine aV ?_;refine br ?_;first
   |(exfalso;omega)
   |(rw[hr,bE (by omega)];done)
   |(have hz:mG s i=false:=by
      rcases hcw with⟨_,h,_⟩|⟨_,h⟩<;>(simp only[mG,gu,aZ,Bool.or_eq_false_iff,Bool.and_eq_false_iff,Bool.not_eq_false',decide_eq_true_eq,decide_eq_false_iff_not];omega)
     rw[hr,aH hnx,hz];rfl)
 ·refine zf (hp:=hnx) ?_;refine ar ?_;refine aq (t:=false) (fun h=>by cases h) (fun _=>?_);refine aA ?_;refine br ?_;first
   |(exfalso;omega)
   |(rw[hr,bE (by omega)];done)
   |(have hz:mG s i=false:=by
      rcases hcw with⟨_,h,_⟩|⟨_,h⟩<;>(simp only[mG,gu,aZ,Bool.or_eq_false_iff,Bool.and_eq_false_iff,Bool.not_eq_false',decide_eq_true_eq,decide_eq_false_iff_not];omega)
     rw[hr,aH hnx,hz];rfl)
def Iw (Γ:Ctx):Prop:=∀(s:ai),Γ.pre 208 [.str s]∧Γ.val 208 [.str s]=.bool (eY s)
def yR:aB:=⟨1,10,[⟨1,none⟩,⟨2,none⟩],gQ,(sq (rg [gm bh,gm ct] [(1,0),(2,1)]) (sq (sq (r1 [gm s0,aG l0 cse,gm l1,dH 2 s0,bT 2 (.lenS l3),bT 2 (dz l4 tA),ea l2 l5,gm l6,dH 7 s0,bT 7 (.ixS l8 bh),bT 7 (ca l9 (i8 48)),dH 7 l10,gmt 11 s0,bZ 11 (.lenS gV),bZ 11 (dz iQ bR),yP 7 fI jt,ea l7 kB] 3 16) (.cond s3 (sq (rg [gm bh,gm ct] [(1,0),(2,1)]) .ret) .skip)) (sq (r1 [gm bh] 9 0) (sq (sq (r1 [gm s0,gn (.rng l0)] 4 1) (.block 0 (.loop (sq (rg [gn (.wF s4),ge l0 0] [(6,0),(5,1)]) (sq (eN s5 0) (.block 1 (sq (r1 [ge s6 2,gm l0] 7 1) (.block 2 (sq (r1 [gm s7,gv l0 (i3 48),gm l1,gmt 2 s7,bZ 2 (mh l3 (i3 57)),dZ l2 l4,gm l5] 8 6) (.cond s8 (r1 [gm s9,gn (.bin .mul (i6 10) l0),gm s7,dP l2 (i3 48),gn (.cvi .i64 l3),au l1 l4,gm l5] 9 6) (sq (rg [gm bh,gm ct] [(1,0),(2,1)]) .ret))))))))))) (sq (rg [gm s9,gm s9,vg l1 (i6 9999),gm l0,gm l2] [(1,3),(2,4)]) .ret)))))⟩
def w658 {Γ:Ctx}(hm:(Γ.at 0).a8)  (s:ai)   :dq Γ yR (.tup [.int .i64 (cT s),.bool (dQ s)]) [.str s]:=by
 show bz _ _ _ [⟨_,_⟩,_,_,_,_,_,_,_,_,_] _;refine aj ?_;refine cR ?_;refine gT ?_;refine ax ?_;refine mX 0 (hb:=fun h=>by simp at h;exact List.length_pos_iff.2 h.1) ?_;refine av ?_;refine gT ?_;refine ax ?_;refine cd (fun hc0=>?_) fun hc0=>?_
 ·refine aA ?_;refine bC (aF (congrArg (D.int .i64) ?_) (congrArg D.bool ?_));all_goals
   have:dQ s=false:=by
    rw[Ck];rcases hc0 with(h|h)|h
    ·subst h;simp
    ·rw[decide_eq_false (by omega:¬s.length≤4)];simp
    ·rw[decide_eq_true (by omega:1<s.length),decide_eq_true h.1];simp
   simp[cT,this]
 refine cR ?_;have h0:=List.length_pos_iff.2 hc0.1.1;have hP:dQ s=b8 (fun i=>aZ (at8 s i)) 0 s.length:=by
  rw[Ck,decide_eq_true (by omega:1≤s.length),decide_eq_true (by omega:s.length≤4)];rcases hc0.2 with h|h
  ·rw[decide_eq_false h,Bool.and_false];rfl
  ·rw[decide_eq_false (by omega:¬1<s.length)];rfl
 refine aY hm (ι:=Nat) (fun i=>[⟨true,.str s⟩,.un,.un,.un,⟨true,.it 21⟩,.un,.un,.un,.un,⟨true,.int .i64 (cJ (s.take i):Nat)⟩]) (fun i=>[(21,.iter s i)]) 22 (fun i=>i≤s.length∧s.length≤4∧dQ s=b8 (fun i=>aZ (at8 s i)) i s.length) (fun i=>s.length-i) 0 ⟨by omega,by omega,hP⟩ (cS [(21,21)]) ?_;rintro i ⟨hi,h9,hr⟩;refine aC ?_;by_cases hnx:i<s.length
 ·obtain⟨c,w,hdec,hw,hcw⟩:=qR s i hnx;refine zg c w (hp:=hnx) (hc:=hdec) ?_;refine ar ?_;refine aq (t:=true) (fun _=>?_) (fun h=>by cases h);refine wC ?_;refine fm (fun hc2=>?_) fun hc2=>?_
  ·refine aC ?_;obtain⟨rfl,hat,-⟩:w=1∧(c:Int)=at8 s i∧c<128:=by
    rcases hcw with h|h
    ·exact h
    ·omega
   have hn:=rq s i (by omega);have hn2:=tf s i (by omega);have h256:=Gc s i;refine aC ?_;refine D2 ?_;refine aC ?_;refine HJ ((c:Int) -48) (hb:=fun _=>IntWalk.i32_in _ (by omega)) ?_;refine AK ((c:Int) -48) (hb:=fun _=>IntWalk.i64_in _ (by omega)) ?_;refine av ?_;rw[show 10*(cJ (s.take i):Int)+((c:Int) -48)=(cJ (s.take (i+1)):Nat)by omega];refine av ?_;have hz:aZ (at8 s i)=true:=by
    simp only[aZ,Bool.and_eq_true,decide_eq_true_eq];omega
   exact⟨i+1,⟨by omega,h9,by rw[hr,aH (by omega),hz];rfl⟩,by omega,(cS [(21,21)])⟩
  refine bB ?_;refine bC (aF (congrArg (D.int .i64) ?_) (congrArg D.bool ?_));all_goals
   have hz:aZ (at8 s i)=false:=by
    rcases hcw with⟨_,h,_⟩|⟨_,h⟩<;>(simp only[aZ,Bool.and_eq_false_iff,decide_eq_false_iff_not];omega)
   have:dQ s=false:=by rw[hr,aH (by omega),hz];rfl
   simp[cT,this]
 ·refine zf (hp:=hnx) ?_;refine ar ?_;refine aq (t:=false) (fun h=>by cases h) (fun _=>?_);refine gF ?_;refine bC (aF (congrArg (D.int .i64) ?_) (congrArg D.bool ?_));all_goals
   have this:dQ s=true:=by rw[hr,bE (by omega)]
   have ht:s.take i=s:=List.take_of_length_le (by omega);have h9:=this;simp only[dQ,Bool.and_eq_true,decide_eq_true_eq]at h9;have h99:=h9.2;rw[ht];first
   |(simp only[cT,this];rfl)
   |(rw[this,decide_eq_true_eq];omega)
def IC (Γ:Ctx):Prop:=∀(s:ai),Γ.pre 658 [.str s]∧Γ.val 658 [.str s]=.tup [.int .i64 (cT s),.bool (dQ s)]
end Go.Abs
end
section
namespace Go.Abs
open Go
def Ao:aB:=⟨2,10,[⟨2,none⟩],[[.sl 1 [.a]]],(sq (r1 [gm (.c (.az))] 2 0) (sq (r1 [gm (.c (.az))] 8 0) (sq (r1 [gm bh] 9 0) (sq (sq (rg [gm s0,m9 l0,gm bh] [(4,1),(3,2)]) (.block 0 (.loop (sq (r1 [aN s3 s4] 5 0) (sq (eN s5 0) (sq (.block 1 (sq (r1 [gm s3,gm l0] 6 1) (sq (r1 [gm s0,gm s6,Dv l0 l1,gm s1,aG l2 l3] 7 4) (.cond s7 (sq (r1 [gm s8,gm s0,gm s9,gm s6,gn (.slS l1 (some l2) (some l3)),gn (.bsl 1 (.str []) 1 [(0,l4)]),gn (.app 1 l0 l5),gm l6] 8 7) (r1 [gm s6,au l0 bR,gm l1] 9 2)) .skip)))) (r1 [au s3 bR,gm l0] 3 1))))))) (sq (r1 [gm s8,gm s0,gm s9,gn (.slS l1 (some l2) none),gn (.bsl 1 (.str []) 1 [(0,l3)]),gn (.app 1 l0 l4),gm l5] 2 6) .ret)))))⟩
def w533 {Γ:Ctx}(hm:(Γ.at 0).a8)  (s:ai)(b:Int)  (hp0:s.length≤1048576):dq Γ Ao (.sl 1 ((ah s b).map D.str)) [.str s,.int .u8 b]:=by
 show bz _ _ _ [⟨_,_⟩,⟨_,_⟩,_,_,_,_,_,_,_,_] _;refine aj ?_;refine gZ ?_;intro u0;refine ar ?_;refine aY hm (ι:=(Nat×Nat×List ai)) (fun p:Nat×Nat×List ai=>[⟨true,.str s⟩,⟨true,.int .u8 b⟩,.un,⟨true,.int .i64 (p.1:Nat)⟩,⟨true,.int .i64 (s.length:Nat)⟩,.un,.un,.un,⟨true,.own 0 1 0 p.2.2.length⟩,⟨true,.int .i64 (p.2.1:Nat)⟩]) (fun p=>[(0,.buf 1 (p.2.2.map D.str))]) 6 (fun p=>p.1≤s.length∧p.2.1≤p.1∧p.2.2.length≤p.1∧ah s b=p.2.2++bK b (s.drop p.1) ((s.take p.1).drop p.2.1)) (fun p=>s.length-p.1) (0,0,[]) ⟨by simp,by simp,by simp,rfl⟩ (aX.to [] ae ae (by repeat(first|exact de.nil|refine de.un ?_|refine de.eq ae ?_|refine de.nl ae ae ?_|refine de.ni (Or.inr ⟨0,1,0,rfl⟩) ?_)) (by repeat(first|exact aO.nil|refine aO.mt ae ae ae ae ?_))) ?_;rintro⟨i,fr,acc⟩ ⟨hi,hf,ha,hr⟩;dsimp only at hi hf ha hr⊢;refine av ?_;refine cd (fun hc0=>?_) fun hc0=>?_
 ·refine kv ?_;refine wp_cond (fun hc1=>?_) (fun hc1=>?_)
  ·try simp only[gJ]at hc1
   refine aJ ?_;refine vH _ _ ?_;refine cx [(.str _)] ?_;refine p8 ?_;exact⟨(i+1,i+1,acc++[(s.take i).drop fr]),⟨by dsimp only;omega,by dsimp only;omega,by simp;omega,by rw[hr,yd (by omega) hc1];simp⟩,by dsimp only;omega,(aX.to [(20,0)] ae ae Hx (by refine aO.nl 20 ae ae ae cN ?_;exact aO.nil))⟩
  simp only[decide_eq_false_iff_not]at hc1;refine aV ?_;exact⟨(i+1,fr,acc),⟨by dsimp only;omega,by dsimp only;omega,by dsimp only;omega,by rw[hr,ye (by omega) (by omega) hc1]⟩,by dsimp only;omega,(aX.to [(0,0)] ae ae Hx (by refine aO.nl 0 ae ae ae cN ?_;exact aO.nil))⟩
 refine aA ?_;refine dV _ ?_;refine cx [(.str _)] ?_;refine av ?_;refine eu 12 ?_;refine aC ?_;refine bC (?_);have hs:ah s b=acc++[s.drop fr]:=by rw[hr,v8 (by omega)]
 rw[hs];exact rfl
def F0 (Γ:Ctx):Prop:=∀(s:ai)(b:Int),(s.length≤1048576)→Γ.pre 533 [.str s,.int .u8 b]∧Γ.val 533 [.str s,.int .u8 b]=.sl 1 ((ah s b).map D.str)
def tN:aB:=⟨1,7,gG,bO,(sq (r1 [gm ct] 1 0) (sq (sq (rg [gm s0,m9 l0,gm bh] [(3,1),(2,2)]) (.block 0 (.loop (sq (r1 [aN s2 s3] 4 0) (sq (eN s4 0) (sq (.block 1 (sq (r1 [gm s2,gm l0] 5 1) (sq (r1 [gm s0,gm s5,Dv l0 l1,aN l2 (i8 48),gm l3,dH 4 s0,dH 4 s5,bT 4 (.ixS l5 l6),bT 4 (dz l7 (i8 57)),ea l4 l8] 6 9) (lA s6 ct)))) (r1 [au s2 bR,gm l0] 2 1))))))) (sq (r1 [gm s0,bN l0 cse,gm l1] 1 2) .ret)))⟩
def w659 {Γ:Ctx}(hm:(Γ.at 0).a8)  (t:ai)   :dq Γ tN (.bool (eh t)) [.str t]:=by
 show bz _ _ _ [⟨_,_⟩,_,_,_,_,_,_] _;refine aj ?_;refine aA ?_;intro u0;refine ar ?_;refine aY hm (ι:=Nat) (fun i=>[⟨true,.str t⟩,.un,⟨true,.int .i64 (i:Nat)⟩,⟨true,.int .i64 (t.length:Nat)⟩,.un,.un,.un]) (fun i=>[]) 4 (fun i=>i≤t.length∧b8 (fun i=>aZ (at8 t i)) 0 t.length=b8 (fun i=>aZ (at8 t i)) i t.length) (fun i=>t.length-i) 0 ⟨by omega,rfl⟩ (cS []) ?_;rintro i ⟨hi,hr⟩;refine av ?_;refine cd (fun hc0=>?_) fun hc0=>?_
 ·refine KG ?_;refine fm (fun hc1=>?_) fun hc1=>?_
  ·refine aA ?_;refine br ?_;simp only[eh];rw[hr,aH (by omega)];rcases hc1 with h|h<;>simp[aZ]<;>omega
  refine aV ?_;exact⟨i+1,⟨by omega,by rw[hr,aH (by omega)];rw[show aZ (at8 t i)=true by simp only[aZ,Bool.and_eq_true,decide_eq_true_eq];omega];rfl⟩,by omega,(cS [])⟩
 refine bB ?_;refine br ?_;simp only[eh];rw[hr,bE (by omega)];cases t<;>simp
def N0 (Γ:Ctx):Prop:=∀(t:ai),Γ.pre 659 [.str t]∧Γ.val 659 [.str t]=.bool (eh t)
def zB:aB:=⟨1,2,gG,bO,(sq (r1 [gm ct] 1 0) (sq (r1 [gm s0,gv l0 bh,gm l1,gmt 2 s0,bZ 2 (mh l3 (i6 9999)),dZ l2 l4,gm l5] 1 6) .ret))⟩
def w440 {Γ:Ctx}(hm:(Γ.at 0).a8)  (n:Int)   :dq Γ zB (.bool (lM n)) [.int .i64 n]:=by
 show bz _ _ _ [⟨_,_⟩,_] _;refine aj ?_;refine gZ ?_;exact br rfl
def NA (Γ:Ctx):Prop:=∀(n:Int),Γ.pre 440 [.int .i64 n]∧Γ.val 440 [.int .i64 n]=.bool (lM n)
def wq:aB:=⟨2,9,[⟨2,none⟩,⟨3,none⟩],gQ,(sq (rg [gm cse,gm cse] [(2,0),(3,1)]) (sq (sq (rg [gm s0,m9 l0,gm bh] [(5,1),(4,2)]) (.block 0 (.loop (sq (r1 [aN s4 s5] 6 0) (sq (eN s6 0) (sq (.block 1 (sq (r1 [gm s4,gm l0] 7 1) (sq (r1 [gm s0,gm s7,Dv l0 l1,gm s1,aG l2 l3] 8 4) (.cond s8 (sq (rt [gm s0,gm s7,au l1 bR,gn (.slS l0 (some l2) none),gm s0,gm s7,gn (.slS l4 none (some l5)),gm l3,gm l6] [(2,7),(3,8)]) .ret) .skip)))) (r1 [au s4 bR,gm l0] 4 1))))))) (sq (rg [gm s0,gm cse,gm l0] [(2,1),(3,2)]) .ret)))⟩
def w675 {Γ:Ctx}(hm:(Γ.at 0).a8)  (s:ai)(b:Int)   :dq Γ wq (.tup [.str (aw s b).1,.str (aw s b).2]) [.str s,.int .u8 b]:=by
 show bz _ _ _ [⟨_,_⟩,⟨_,_⟩,_,_,_,_,_,_,_] _;refine aj ?_;refine aV ?_;intro u0;refine ar ?_;refine aY hm (ι:=Nat) (fun i=>[⟨true,.str s⟩,⟨true,.int .u8 b⟩,.un,.un,⟨true,.int .i64 (i:Nat)⟩,⟨true,.int .i64 (s.length:Nat)⟩,.un,.un,.un]) (fun i=>[]) 5 (fun i=>i≤s.length∧aw s b=gK s b i) (fun i=>s.length-i) 0 ⟨by omega,rfl⟩ (cS []) ?_;rintro i ⟨hi,hr⟩;refine av ?_;refine cd (fun hc0=>?_) fun hc0=>?_
 ·refine kv ?_;refine fm (fun hc1=>?_) fun hc1=>?_
  ·refine ax ?_;refine dV (i+1) ?_;refine ar ?_;refine ko _ ?_;refine aA ?_;refine bC (aF (congrArg D.str ?_) (congrArg D.str ?_));all_goals rw[hr,uy (by omega) hc1]
  refine aV ?_;exact⟨i+1,⟨by omega,by rw[hr,uz (by omega) hc1]⟩,by omega,(cS [])⟩
 refine bB ?_;refine bC (aF (congrArg D.str ?_) (congrArg D.str ?_));all_goals rw[hr,sS (by omega)]
def N8 (Γ:Ctx):Prop:=∀(s:ai)(b:Int),Γ.pre 675 [.str s,.int .u8 b]∧Γ.val 675 [.str s,.int .u8 b]=.tup [.str (aw s b).1,.str (aw s b).2]
def zC:aB:=⟨1,15,gG,bO,(sq (r1 [gm ct] 1 0) (sq (r1 [gm s0,gx 533 [l0,(i8 46)] gQ,gm l1] 2 2) (sq (r1 [gm s2,gl l0,vg l1 tA,gm l2] 14 3) (sq .skip (sq (sq (rg [gm s2,gl l0,gm bh] [(6,0),(4,1),(3,2)]) (.block 0 (.loop (sq (r1 [aN s3 s4] 5 0) (sq (eN s5 0) (sq (.block 1 (sq (r1 [ga 1 s6 s3,gd l0,gm l1] 7 2) (sq (sq (r1 [gm s7,aG l0 cse,gm l1,dH 2 s7,bT 2 (.lenS l3),bT 2 (dz l4 B5),ea l2 l5] 8 6) (.cond s8 (sq (r1 [gm ct] 14 0) (.exit 0)) .skip)) (sq (r1 [gm s7,gn (.rng l0)] 9 1) (.block 2 (.loop (sq (rg [gn (.wF s9),ge l0 0] [(11,0),(10,1)]) (sq (eN jx 2) (.block 3 (sq (r1 [ge mc 2,gm l0] 12 1) (sq (r1 [gm lY,aN l0 (i3 97),gm l1,dH 2 lY,bT 2 (dz l3 (i3 122)),ea l2 l4,gm l5,gmt 6 lY,bZ 6 (pT l7 (i3 48)),gmt 6 l8,dH 9 lY,bT 9 (dz l10 (i3 57)),LZ 6 l9 fI,dZ l6 gV,gm iQ,gmt 14 lY,bZ 14 (dC kB (i3 45)),dZ jt mE] 13 17) (.cond pP (sq (r1 [gm ct] 14 0) (.exit 0)) .skip)))))))))))) (r1 [au s3 bR,gm l0] 3 1))))))) (sq (r1 [gm tn,gm l0] 1 1) .ret))))))⟩
def w442 {Γ:Ctx}(hm:(Γ.at 0).a8)(h533:F0 Γ)(s:ai)  (hp0:s.length≤1048576):dq Γ zC (.bool (kW s false)) [.str s]:=by
 show bz _ _ _ [⟨_,_⟩,_,_,_,_,_,_,_,_,_,_,_,_,_,_] _;refine aj ?_;refine ax ?_;refine ak (hc:=h533 _ _ ?_) ?_;rotate_left;first|assumption|omega;have hlen:=cn s 46
 refine aJ ?_;intro u0;refine bB ?_;intro u1;refine ar ?_;refine aY hm (ι:=Nat) (fun i=>[.un,.un,⟨true,.sl 1 ((ah s 46).map D.str)⟩,⟨true,.int .i64 (i:Nat)⟩,⟨true,.int .i64 ((ah s 46).length:Nat)⟩,.un,⟨true,.sl 1 ((ah s 46).map D.str)⟩,.un,.un,.un,.un,.un,.un,.un,⟨true,.bool (decide (((ah s 46).length:Int)≤4))⟩]) (fun i=>[]) 11 (fun i=>i≤(ah s 46).length∧kW s false=(decide ((ah s 46).length≤4)&&b8 (fun i=>fL false (ah s 46)[i]!) i (ah s 46).length)) (fun i=>(ah s 46).length-i) 0 ⟨by omega,rfl⟩ (cS []) ?_;rintro i ⟨hi,hr⟩;refine av ?_;refine cd (fun hc0=>?_) fun hc0=>?_
 ·refine cR ?_;generalize ht:(ah s 46)[i]! =t;refine ax ?_;refine gT ?_;refine av ?_;refine cd (fun hc1=>?_) fun hc1=>?_
  ·refine gZ ?_;refine br ?_;first
    |(rw[hr,bE (by omega),Bool.and_true];exact decide_eq_decide.2 (by omega))
    |(have hb:nZ t=false:=by
       first
       |(simp only[nZ];rcases hc1 with h|h
         ·subst h;simp
         ·rw[decide_eq_false (by omega:¬t.length≤8)];simp)
       |(have hz:lG (at8 t j)=false:=by
          rcases hcw with⟨_,h,_⟩|⟨_,h⟩<;>(simp only[lG,gu,aZ,Bool.or_eq_false_iff,Bool.and_eq_false_iff,decide_eq_false_iff_not];omega)
         rw[hj,aH hnx,hz];rfl)
      rw[hr,aH (by omega),show fL false (ah s 46)[i]! =false from(by simp only[fL,ht,hb,Bool.false_and])];simp)
  refine aJ ?_;have hT:nZ t=b8 (fun i=>lG (at8 t i)) 0 t.length:=by
   have:=List.length_pos_iff.2 hc1.1;simp only[nZ];rw[decide_eq_true (by omega),decide_eq_true (by omega)];rfl
  refine nI hm (ι:=Nat) (fun j=>[.un,.un,⟨true,.sl 1 ((ah s 46).map D.str)⟩,⟨true,.int .i64 (i:Nat)⟩,⟨true,.int .i64 ((ah s 46).length:Nat)⟩,.un,⟨true,.sl 1 ((ah s 46).map D.str)⟩,.un,.un,⟨true,.it 23⟩,.un,.un,.un,.un,⟨true,.bool (decide (((ah s 46).length:Int)≤4))⟩]) (fun j=>[(23,.iter t j)]) 24 (fun j=>j≤t.length∧nZ t=b8 (fun i=>lG (at8 t i)) j t.length) (fun j=>t.length-j) 0 ⟨by omega,hT⟩ (cS [(23,23)]) ?_;rintro j ⟨hj0,hj⟩;refine aC ?_;by_cases hnx:j<t.length
  ·obtain⟨c,w,hdec,hw,hcw⟩:=qR t j hnx;refine zg c w (hp:=hnx) (hc:=hdec) ?_;refine ar ?_;refine aq (t:=true) (fun _=>?_) (fun h=>by cases h);refine QP ?_;refine fm (fun hc3=>?_) fun hc3=>?_
   ·refine kv ?_;refine br ?_;first
     |(rw[hr,bE (by omega),Bool.and_true];exact decide_eq_decide.2 (by omega))
     |(have hb:nZ t=false:=by
        first
        |(simp only[nZ];rcases hc1 with h|h
          ·subst h;simp
          ·rw[decide_eq_false (by omega:¬t.length≤8)];simp)
        |(have hz:lG (at8 t j)=false:=by
           rcases hcw with⟨_,h,_⟩|⟨_,h⟩<;>(simp only[lG,gu,aZ,Bool.or_eq_false_iff,Bool.and_eq_false_iff,decide_eq_false_iff_not];omega)
          rw[hj,aH hnx,hz];rfl)
       rw[hr,aH (by omega),show fL false (ah s 46)[i]! =false from(by simp only[fL,ht,hb,Bool.false_and])];simp)
   refine av ?_;obtain⟨rfl,hat,-⟩:w=1∧(c:Int)=at8 t j∧c<128:=by
    rcases hcw with h|h
    ·exact h
    ·omega
   have hz:lG (at8 t j)=true:=by
    simp only[lG,gu,aZ,Bool.or_eq_true,Bool.and_eq_true,decide_eq_true_eq];omega
   exact⟨j+1,⟨by omega,by rw[hj,aH hnx,hz];rfl⟩,by omega,(cS [(23,23)])⟩
  ·refine zf (hp:=hnx) ?_;refine ar ?_;refine aq (t:=false) (fun h=>by cases h) (fun _=>?_);refine bB ?_;exact⟨i+1,⟨by omega,by rw[hr,aH (by omega)];rw[show fL false (ah s 46)[i]! =true from(by simp only[fL,Bool.false_and,Bool.not_false,Bool.and_true];rw[ht,hj,bE (by omega)])];rfl⟩,by omega,(cS [])⟩
 refine aV ?_;refine br ?_;first
  |(rw[hr,bE (by omega),Bool.and_true];exact decide_eq_decide.2 (by omega))
  |(have hb:nZ t=false:=by
     first
     |(simp only[nZ];rcases hc1 with h|h
       ·subst h;simp
       ·rw[decide_eq_false (by omega:¬t.length≤8)];simp)
     |(have hz:lG (at8 t j)=false:=by
        rcases hcw with⟨_,h,_⟩|⟨_,h⟩<;>(simp only[lG,gu,aZ,Bool.or_eq_false_iff,Bool.and_eq_false_iff,decide_eq_false_iff_not];omega)
       rw[hj,aH hnx,hz];rfl)
    rw[hr,aH (by omega),show fL false (ah s 46)[i]! =false from(by simp only[fL,ht,hb,Bool.false_and])];simp)
def KP (Γ:Ctx):Prop:=∀(s:ai),(s.length≤1048576)→Γ.pre 442 [.str s]∧Γ.val 442 [.str s]=.bool (kW s false)
end Go.Abs
end
section
namespace Go.Abs
open Go
def Nz (Γ:Ctx):Prop:=∀(n:Int),(0≤n∧n≤9999)→Γ.pre 336 [.int .i64 n]∧Γ.val 336 [.int .i64 n]=.str (cW n.toNat)
def Ix (Γ:Ctx):Prop:=∀(l:List ai)(sep:ai),(l.length≤1048600)→(sep.length≤4)→(∀t∈l,t.length≤2097200)→Γ.pre 242 [.sl 1 (l.map D.str),.str sep]∧Γ.val 242 [.sl 1 (l.map D.str),.str sep]=.str (aM sep l)
def FV (Γ:Ctx):Prop:=∀(s:ai)(b:UInt8),(s.length≤1048576)→Γ.pre 124 [.str s,.str [b]]∧Γ.val 124 [.str s,.str [b]]=.sl 1 ((ah s b.toNat).map D.str)
def NU (Γ:Ctx):Prop:=∀(s:ai)(b:UInt8),(s.length≤1048576)→Γ.pre 487 [.str s,.str [b]]∧Γ.val 487 [.str s,.str [b]]=.tup [.str (fg s b).1,.str (fg s b).2.1,.bool (fg s b).2.2]
def Nx (Γ:Ctx):Prop:=∀(s:ai)(p:ai),(s.length≤1048576)→(p.length≤1048576)→Γ.pre 254 [.str s,.str p]∧Γ.val 254 [.str s,.str p]=.tup [.str (dN s p).1,.bool (dN s p).2]
end Go.Abs
end
section
namespace Go.Abs
open Go
def Br:aB:=⟨1,10,gG,bO,(sq (r1 [gm ct] 1 0) (sq (sq (r1 [gm s0,gx 442 [l0] bO,ix l1] 2 2) (lA s2 ct)) (sq (sq (rg [gm s0,gx 533 [l0,(i8 46)] gQ,gl l1,gm bh] [(6,1),(4,2),(3,3)]) (.block 0 (.loop (sq (r1 [aN s3 s4] 5 0) (sq (eN s5 0) (sq (.block 1 (sq (r1 [ga 1 s6 s3,gd l0,gm l1] 7 2) (sq (r1 [gm s7,gx 658 [l0] bO,gm l1,ge l2 0,ge l2 1,gm l3,gm l4] 8 6) (sq (r1 [gm s7,gx 659 [l0] bO,gm l1,gmt 2 s8,bZ 2 (.un .not l3),dZ l2 l4] 9 5) (lA s9 ct))))) (r1 [au s3 bR,gm l0] 3 1))))))) (uO me))))⟩
def w441 {Γ:Ctx}(hm:(Γ.at 0).a8)(h442:KP Γ)(h533:F0 Γ)(h658:IC Γ)(h659:N0 Γ)(s:ai)  (hp0:s.length≤1048576):dq Γ Br (.bool (kW s true)) [.str s]:=by
 show bz _ _ _ [⟨_,_⟩,_,_,_,_,_,_,_,_,_] _;refine aj ?_;refine aJ ?_;refine ak (hc:=h442 _ ?_) ?_;rotate_left;first|assumption|omega
 refine ar ?_;refine aq (fun hc0=>?_) (fun hc0=>?_)
 ·simp only[Bool.not_eq_true']at hc0;refine aJ ?_;refine br ?_;symm;simp only[kW]at hc0⊢;rw[Bool.and_eq_false_iff]at hc0⊢;rcases hc0 with h|h
  ·exact Or.inl h
  ·right;rw[Bool.eq_false_iff]at h⊢;intro h2;apply h;rw[dS]at h2⊢;intro j a b;have:=h2 j a b;simp only[fL,Bool.and_eq_true]at this⊢;exact⟨this.1,rfl⟩
 simp only[Bool.not_eq_false']at hc0;refine ax ?_;refine ak (hc:=h533 _ _ ?_) ?_;rotate_left;first|assumption|omega;have hlen:=cn s 46
 refine aC ?_;intro u0;refine ar ?_;have hT:=hc0;simp only[kW,Bool.and_eq_true,decide_eq_true_eq]at hT;obtain⟨hT4,hTa⟩:=hT;rw[dS]at hTa;have hP:kW s true=b8 (fun i=>fL true (ah s 46)[i]!) 0 (ah s 46).length:=by
  simp only[kW];rw[decide_eq_true hT4];rfl
 refine aY hm (ι:=Nat) (fun i=>[.un,.un,.un,⟨true,.int .i64 (i:Nat)⟩,⟨true,.int .i64 ((ah s 46).length:Nat)⟩,.un,⟨true,.sl 1 ((ah s 46).map D.str)⟩,.un,.un,.un]) (fun i=>[]) 8 (fun i=>i≤(ah s 46).length∧kW s true=b8 (fun i=>fL true (ah s 46)[i]!) i (ah s 46).length) (fun i=>(ah s 46).length-i) 0 ⟨by omega,hP⟩ (cS []) ?_;rintro i ⟨hi,hr⟩;refine av ?_;refine cd (fun hc1=>?_) fun hc1=>?_
 ·refine cR ?_;refine ak (hc:=h658 _) ?_;refine bB ?_;refine ak (hc:=h659 _) ?_;refine aJ ?_;refine wp_cond (fun hc2=>?_) (fun hc2=>?_)
  ·skip
   refine aA ?_;refine br ?_;have hz:fL true (ah s 46)[i]! =false:=by
    simp only[fL];revert hc2;generalize nZ (ah s 46)[i]! =c;generalize eh (ah s 46)[i]! =a;generalize dQ (ah s 46)[i]! =b;cases a<;>cases b<;>cases c<;>simp
   rw[hr,aH (by omega),hz];rfl
  skip
  refine aV ?_;have hz:fL true (ah s 46)[i]! =true:=by
   have:=hTa i (by omega) (by omega);simp only[fL,Bool.false_and,Bool.not_false,Bool.and_true]at this;simp only[fL,this];revert hc2;generalize eh (ah s 46)[i]! =a;generalize dQ (ah s 46)[i]! =b;cases a<;>cases b<;>simp
  exact⟨i+1,⟨by omega,by rw[hr,aH (by omega),hz];rfl⟩,by omega,(cS [])⟩
 refine aA ?_;refine br ?_;rw[hr,bE (by omega)]
def NB (Γ:Ctx):Prop:=∀(s:ai),(s.length≤1048576)→Γ.pre 441 [.str s]∧Γ.val 441 [.str s]=.bool (kW s true)
def Bq:aB:=⟨1,3,gG,bO,(sq (rg [gb 5 s0,gm ct] [(2,0),(1,1)]) (sq (r1 [gf 0 s2,gd l0,gx 440 [l1] bO,gm l2,kA 3 1 s2,iO 3 l4,bZ 3 (.call 440 [l5] bO),dZ l3 l6,gm l7,kA 8 2 s2,iO 8 l9,bZ 8 (.call 440 [l10] bO),dZ l8 fI,gm gV,kA 13 3 s2,iO 13 jt,bZ 13 (ca kB cse),gmt 13 mE,hH 17 3 s2,hY 17 oB,bT 17 (.call 441 [pY] bO),LZ 13 nU ua,dZ iQ wP,gm xA,kA 23 4 s2,iO 23 BD,bZ 23 (ca B8 cse),gmt 23 FK,hH 27 4 s2,hY 27 Jt,bT 27 (.call 442 [Ju] bO),LZ 23 GQ L6,dZ BC MV,gm MW] 1 33) .ret))⟩
def w209 {Γ:Ctx}(hm:(Γ.at 0).a8)(h440:NA Γ)(h441:NB Γ)(h442:KP Γ)(v:b7)  (hp0:v.sm):dq Γ Bq (.bool (iF v)) [b7.D v]:=by
 show bz _ _ _ [⟨_,_⟩,_,_] _;refine aj ?_;refine aA ?_;refine ak (hc:=h440 _) ?_;refine av ?_;refine ak (hc:=h440 _) ?_;refine ax ?_;refine ak (hc:=h440 _) ?_;refine bB ?_;refine fB (hc:=fun hf=>h441 v.pre hp0.1) ?_;refine cR ?_;refine fB (hc:=fun hf=>h442 v.build hp0.2) ?_;refine aJ ?_;exact br rfl
def FW (Γ:Ctx):Prop:=∀(v:b7),(v.sm)→Γ.pre 209 [b7.D v]∧Γ.val 209 [b7.D v]=.bool (iF v)
def yQ:aB:=⟨1,2,gG,bO,(sq (r1 [gm cse] 1 0) (sq (r1 [gm s0,gx 336 [l0] bO,gm l1] 1 2) .ret))⟩
def w665 {Γ:Ctx}(hm:(Γ.at 0).a8)(h336:Nz Γ)(n:Int)  (hp0:0≤n∧n≤9999):dq Γ yQ (.str (cW n.toNat)) [.int .i64 n]:=by
 show bz _ _ _ [⟨_,_⟩,_] _;refine aj ?_;refine ax ?_;refine ak (hc:=h336 _ ?_) ?_;rotate_left;first|assumption|omega
 refine av ?_;exact ch rfl
def K8 (Γ:Ctx):Prop:=∀(n:Int),(0≤n∧n≤9999)→Γ.pre 665 [.int .i64 n]∧Γ.val 665 [.int .i64 n]=.str (cW n.toNat)
def wZ:aB:=⟨1,7,gG,bO,(sq (rg [gb 5 s0,gm cse] [(2,0),(1,1)]) (sq (sq (r1 [gk 5 true s2,gx 209 [l0] EJ,ix l1] 3 2) (lA s3 cse)) (sq (r2 [gf 0 s2,gd l0,gx 665 [l1] bO,au l2 (cs [46]),gf 1 s2,gd l4,gx 665 [l5] bO,au l3 l6,au l7 (cs [46]),gf 2 s2,gd l9,gx 665 [l10] bO,au l8 fI,gm gV] 5 13) (sq (sq (r1 [gf 3 s2,gd l0,bN l1 cse] 4 2) (.cond s4 (r1 [gm s5,gf 3 s2,gd l1,au (cs [45]) l2,au l0 l3,gm l4] 5 5) .skip)) (sq (sq (r1 [gf 4 s2,gd l0,bN l1 cse] 6 2) (.cond s6 (r1 [gm s5,gf 4 s2,gd l1,au (cs [43]) l2,au l0 l3,gm l4] 5 5) .skip)) (sq (r1 [gm s5,gm l0] 1 1) .ret))))))⟩
def w451 {Γ:Ctx}(hm:(Γ.at 0).a8)(h209:FW Γ)(h665:K8 Γ)(v:b7)  (hp0:v.sm):dq Γ wZ (.str (lv v)) [b7.D v]:=by
 show bz _ _ _ [⟨_,_⟩,_,_,_,_,_,_] _;obtain⟨hs1,hs2⟩:=hp0;have hp0:v.sm:=⟨hs1,hs2⟩;refine aj ?_;refine aA ?_;refine ak (hc:=h209 _ ?_) ?_;rotate_left;first|assumption|omega
 refine ar ?_;refine aq (fun hc0=>?_) (fun hc0=>?_)
 ·simp only[Bool.not_eq_true']at hc0;refine aJ ?_;refine ch ?_;simp[lv,hc0]
 simp only[Bool.not_eq_false']at hc0;refine ar ?_;have hv:=hc0;simp only[iF,Bool.and_eq_true]at hv;obtain⟨⟨⟨⟨hv1,hv2⟩,hv3⟩,_⟩,_⟩:=hv;have hq1:=hv1;have hq2:=hv2;have hq3:=hv3;simp only[lM,Bool.and_eq_true,decide_eq_true_eq]at hq1 hq2 hq3;have hl1:=dT 4 v.major.toNat (by omega) (by omega);have hl2:=dT 4 v.minor.toNat (by omega) (by omega);have hl3:=dT 4 v.patch.toNat (by omega) (by omega);refine ar ?_;refine ak (hc:=h665 _ ?_) ?_;rotate_left;first|assumption|omega
 refine cO (hb:=fun _=>by simp;omega) ?_;refine ar ?_;refine ak (hc:=h665 _ ?_) ?_;rotate_left;first|assumption|omega
 refine cO (hb:=fun _=>by simp;omega) ?_;refine cO (hb:=fun _=>by simp;omega) ?_;refine ar ?_;refine ak (hc:=h665 _ ?_) ?_;rotate_left;first|assumption|omega
 refine cO (hb:=fun _=>by simp;omega) ?_;refine bB ?_;refine cd (fun hc1=>?_) fun hc1=>?_
 ·refine ax ?_;refine cO (hb:=fun _=>by simp;omega) ?_;refine cO (hb:=fun _=>by simp;omega) ?_;refine bB ?_;refine cd (fun hc2=>?_) fun hc2=>?_
  ·refine ax ?_;refine cO (hb:=fun _=>by simp;omega) ?_;refine cO (hb:=fun _=>by simp;omega) ?_;refine aV ?_;refine ch ?_;simp[lv,wo,hc0,hc1,hc2]
  refine aA ?_;refine ch ?_;simp[lv,wo,hc0,hc1,hc2]
 refine aV ?_;refine cd (fun hc2=>?_) fun hc2=>?_
 ·refine ax ?_;refine cO (hb:=fun _=>by simp;omega) ?_;refine cO (hb:=fun _=>by simp;omega) ?_;refine aV ?_;refine ch ?_;simp[lv,wo,hc0,hc1,hc2]
 refine aA ?_;refine ch ?_;simp[lv,wo,hc0,hc1,hc2]
def KS (Γ:Ctx):Prop:=∀(v:b7),(v.sm)→Γ.pre 451 [b7.D v]∧Γ.val 451 [b7.D v]=.str (lv v)
end Go.Abs
end
section
namespace Go.Abs
open Go
end Go.Abs
end
section
namespace Go.Abs
open Go
end Go.Abs
end
section
namespace Go.Abs
open Go
def CJ:aB:=⟨1,4,gG,bO,(sq (r1 [gm cse] 1 0) (sq (r1 [gm s0,gn (.bin .rem l0 (iu 10)),gn (.cvi .u8 l1),au (i8 48) l2,gn (.bsl 1 (.int .u8 0) 1 [(0,l3)]),gn (.b2s l4),gm l5] 3 6) (sq (.block 0 (.loop (sq (sq (r1 [gm s0,cB l0 (iu 9)] 2 1) (eN s2 0)) (.block 1 (sq (r1 [gm s0,gn (.bin .quo l0 (iu 10)),gm l1] 0 2) (r1 [gm s0,gn (.bin .rem l0 (iu 10)),gn (.cvi .u8 l1),au (i8 48) l2,gn (.bsl 1 (.int .u8 0) 1 [(0,l3)]),gn (.b2s l4),gm s3,au l5 l6,gm l7] 3 8)))))) (sq (r1 [gm s3,gm l0] 1 1) .ret))))⟩
def w882 {Γ:Ctx}(hm:(Γ.at 0).a8)  (n:Nat)  (hp0:n≤9999):dq Γ CJ (.str (cW n)) [.int .u64 (n:Nat)]:=by
 show bz _ _ _ [⟨_,_⟩,_,_,_] _;refine aj ?_;refine ax ?_;refine KB ((n%10:Nat):Int) (hn:=by intro _;omega) (hb:=fun _=>rfl) ?_;refine AK ((n%10:Nat):Int) (hb:=fun _=>IntWalk.u8_in _ (by omega)) ?_;refine Hy (((dg (n%10)).toNat:Nat):Int) (hb:=fun _=>by rw[Gr (by omega)];exact IntWalk.u8_in _ (by omega)) ?_;refine cx [.int .u8 _] ?_;refine HB [dg (n%10)] (he:=fun _=>rQ.all ae rfl) (hs:=fun _=>rfl) ?_;refine ar ?_;have h0:cW n=(if n<10 then []else cW (n/10))++[dg (n%10)]:=by
  split
  ·rename_i h;rw[nn h,Nat.mod_eq_of_lt h];rfl
  ·rw[nk (by omega)]
 refine aY hm (ι:=(Nat×ai)) (fun p=>[⟨true,.int .u64 (p.1:Nat)⟩,.un,.un,⟨true,.str p.2⟩]) (fun p=>[]) 8 (fun p=>p.1≤9999∧p.2.length≤9999-p.1+1∧cW n=(if p.1<10 then []else cW (p.1/10))++p.2) (fun p=>p.1) (n,[dg (n%10)]) ⟨hp0,by simp,h0⟩ (cS []) ?_;rintro⟨k,s⟩ ⟨hk,hs,hr⟩;dsimp only at hk hs hr⊢;refine aJ ?_;refine cd (fun hc0=>?_) fun hc0=>?_
 ·refine ax ?_;refine Qf ((k/10:Nat):Int) (hn:=by intro _;omega) (hb:=fun _=>by rw[show((k:Int).tdiv 10)=((k/10:Nat):Int)from rfl,IntKind.wrap_u64];omega) ?_;refine ax ?_;refine KB (((k/10)%10:Nat):Int) (hn:=by intro _;omega) (hb:=fun _=>rfl) ?_;refine AK (((k/10)%10:Nat):Int) (hb:=fun _=>IntWalk.u8_in _ (by omega)) ?_;refine Hy (((dg ((k/10)%10)).toNat:Nat):Int) (hb:=fun _=>by rw[Gr (by omega)];exact IntWalk.u8_in _ (by omega)) ?_;refine cx [.int .u8 _] ?_;refine HB [dg ((k/10)%10)] (he:=fun _=>rQ.all ae rfl) (hs:=fun _=>rfl) ?_;refine aC ?_;refine cO (hb:=fun _=>by simp;omega) ?_;refine ax ?_;have h1:cW n=(if k/10<10 then []else cW (k/10/10))++([dg (k/10%10)]++s):=by
   rw[hr,if_neg (by omega)];split
   ·rename_i h;rw[nn h,Nat.mod_eq_of_lt h];rfl
   ·rw[nk (by omega),List.append_assoc]
  exact⟨(k/10,[dg (k/10%10)]++s),⟨by dsimp only;omega,by simp;omega,h1⟩,by dsimp only;omega,(cS [])⟩
 refine aV ?_;refine ch ?_;rw[hr,if_pos (by omega)];rfl
def Oq (Γ:Ctx):Prop:=∀(n:Nat),(n≤9999)→Γ.pre 882 [.int .u64 (n:Nat)]∧Γ.val 882 [.int .u64 (n:Nat)]=.str (cW n)
def A3:aB:=⟨1,3,gG,bO,(sq (r1 [gm cse] 1 0) (sq (sq (r1 [gm s0,aN l0 bh] 2 1) (.cond s2 (sq (r1 [gm s0,au l0 bR,gn (.un .neg l1),gn (.cvi .u64 l2),au l3 (iu 1),gx 882 [l4] bO,au (cs [45]) l5,gm l6] 1 7) .ret) .skip)) (sq (r1 [gm s0,gn (.cvi .u64 l0),gx 882 [l1] bO,gm l2] 1 3) .ret)))⟩
def w734 {Γ:Ctx}(hm:(Γ.at 0).a8)(h882:Oq Γ)(n:Int)  (hp0:0≤n∧n≤9999):dq Γ A3 (.str (cW n.toNat)) [.int .i64 n]:=by
 show bz _ _ _ [⟨_,_⟩,_,_] _;refine aj ?_;refine aV ?_;refine cd (fun hc0=>?_) fun hc0=>?_
 ·omega
 refine ar ?_;obtain⟨k,rfl⟩:∃k:Nat,n=k:=⟨n.toNat,by omega⟩
 refine aC ?_;refine AK (k:Int) (hb:=fun _=>by rw[IntKind.wrap_u64];omega) ?_;refine ak (hc:=h882 _ ?_) ?_;rotate_left;first|assumption|omega
 refine av ?_;exact ch rfl
def Lh (Γ:Ctx):Prop:=∀(n:Int),(0≤n∧n≤9999)→Γ.pre 734 [.int .i64 n]∧Γ.val 734 [.int .i64 n]=.str (cW n.toNat)
def CH:aB:=⟨2,8,[⟨2,none⟩],[[.sl 1 [.a]]],(sq (r1 [gm (.c (.az))] 2 0) (sq (r1 [gm (.c (.az))] 6 0) (sq (r1 [gm bh] 7 0) (sq (sq (r1 [gm bh] 3 0) (.block 0 (.loop (sq (sq (r1 [gm s3,gm s0,m9 l1,aN l0 l2] 4 3) (eN s4 0)) (sq (.block 1 (sq (r1 [gm s0,gm s3,Dv l0 l1,gm s1,aG l2 l3] 5 4) (.cond s5 (sq (r1 [gm s6,gm s0,gm s7,gm s3,gn (.slS l1 (some l2) (some l3)),gn (.bsl 1 (.str []) 1 [(0,l4)]),gn (.app 1 l0 l5),gm l6] 6 7) (r1 [gm s3,au l0 bR,gm l1] 7 2)) .skip))) (r1 [gm s3,au l0 bR,gm l1] 3 2)))))) (sq (r1 [gm s6,gm s0,gm s7,gn (.slS l1 (some l2) none),gn (.bsl 1 (.str []) 1 [(0,l3)]),gn (.app 1 l0 l4),gm l5] 2 6) .ret)))))⟩
def w470 {Γ:Ctx}(hm:(Γ.at 0).a8)  (s:ai)(b:Int)  (hp0:s.length≤1048576):dq Γ CH (.sl 1 ((ah s b).map D.str)) [.str s,.int .u8 b]:=by
 show bz _ _ _ [⟨_,_⟩,⟨_,_⟩,_,_,_,_,_,_] _;refine aj ?_;refine gZ ?_;refine aY hm (ι:=(Nat×Nat×List ai)) (fun p:Nat×Nat×List ai=>[⟨true,.str s⟩,⟨true,.int .u8 b⟩,.un,⟨true,.int .i64 (p.1:Nat)⟩,.un,.un,⟨true,.own 0 1 0 p.2.2.length⟩,⟨true,.int .i64 (p.2.1:Nat)⟩]) (fun p=>[(0,.buf 1 (p.2.2.map D.str))]) 4 (fun p=>p.1≤s.length∧p.2.1≤p.1∧p.2.2.length≤p.1∧ah s b=p.2.2++bK b (s.drop p.1) ((s.take p.1).drop p.2.1)) (fun p=>s.length-p.1) (0,0,[]) ⟨by simp,by simp,by simp,rfl⟩ (aX.to [] ae ae (by repeat(first|exact de.nil|refine de.un ?_|refine de.eq ae ?_|refine de.nl ae ae ?_|refine de.ni (Or.inr ⟨0,1,0,rfl⟩) ?_)) (by repeat(first|exact aO.nil|refine aO.mt ae ae ae ae ?_))) ?_;rintro⟨i,fr,acc⟩ ⟨hi,hf,ha,hr⟩;dsimp only at hi hf ha hr⊢;refine aJ ?_;intro u0;refine ar ?_;refine cd (fun hc0=>?_) fun hc0=>?_
 ·refine cR ?_;refine wp_cond (fun hc1=>?_) (fun hc1=>?_)
  ·try simp only[gJ]at hc1
   refine aJ ?_;refine vH _ _ ?_;refine cx [(.str _)] ?_;refine wB ?_;exact⟨(i+1,i+1,acc++[(s.take i).drop fr]),⟨by dsimp only;omega,by dsimp only;omega,by simp;omega,by rw[hr,yd (by omega) hc1];simp⟩,by dsimp only;omega,(aX.to [(19,0)] ae ae Hx (by refine aO.nl 19 ae ae ae cN ?_;exact aO.nil))⟩
  simp only[decide_eq_false_iff_not]at hc1;refine bB ?_;exact⟨(i+1,fr,acc),⟨by dsimp only;omega,by dsimp only;omega,by dsimp only;omega,by rw[hr,ye (by omega) (by omega) hc1]⟩,by dsimp only;omega,(aX.to [(0,0)] ae ae Hx (by refine aO.nl 0 ae ae ae cN ?_;exact aO.nil))⟩
 refine aA ?_;refine dV _ ?_;refine cx [(.str _)] ?_;refine av ?_;refine eu 13 ?_;refine aC ?_;refine bC (?_);have hs:ah s b=acc++[s.drop fr]:=by rw[hr,v8 (by omega)]
 rw[hs];exact rfl
def uk (Γ:Ctx):Prop:=∀(s:ai)(b:Int),(s.length≤1048576)→Γ.pre 470 [.str s,.int .u8 b]∧Γ.val 470 [.str s,.int .u8 b]=.sl 1 ((ah s b).map D.str)
end Go.Abs
end
section
namespace Go.Abs
open Go
def HN:aB:=⟨1,2,gG,bO,(sq (r1 [gm ct] 1 0) (sq (r1 [gm s0,gv l0 (i8 97),gm l1,gmt 2 s0,bZ 2 (mh l3 (i8 122)),dZ l2 l4,gm l5] 1 6) .ret))⟩
def w453 {Γ:Ctx}(hm:(Γ.at 0).a8)  (c:Int)   :dq Γ HN (.bool (gu c)) [.int .u8 c]:=by
 show bz _ _ _ [⟨_,_⟩,_] _;refine aj ?_;refine gZ ?_;exact br rfl
def KU (Γ:Ctx):Prop:=∀(c:Int),Γ.pre 453 [.int .u8 c]∧Γ.val 453 [.int .u8 c]=.bool (gu c)
def CI:aB:=⟨1,2,gG,bO,(sq (r1 [gm ct] 1 0) (sq (r1 [gm s0,gv l0 (i8 48),gm l1,gmt 2 s0,bZ 2 (mh l3 (i8 57)),dZ l2 l4,gm l5] 1 6) .ret))⟩
def w454 {Γ:Ctx}(hm:(Γ.at 0).a8)  (c:Int)   :dq Γ CI (.bool (aZ c)) [.int .u8 c]:=by
 show bz _ _ _ [⟨_,_⟩,_] _;refine aj ?_;refine gZ ?_;exact br rfl
def Iy (Γ:Ctx):Prop:=∀(c:Int),Γ.pre 454 [.int .u8 c]∧Γ.val 454 [.int .u8 c]=.bool (aZ c)
def Fh:aB:=⟨1,6,gG,bO,(sq (r1 [gm ct] 1 0) (sq (sq (r1 [gm s0,m9 l0,aN l1 bR,gm l2,dH 3 s0,bT 3 (.lenS l4),bT 3 (dz l5 (i6 12)),ea l3 l6] 2 7) (lA s2 ct)) (sq (sq (r1 [gm bh] 3 0) (.block 0 (.loop (sq (sq (r1 [gm s3,gm s0,m9 l1,aN l0 l2] 4 3) (eN s4 0)) (sq (.block 1 (sq (r1 [gm s0,gm s3,Dv l0 l1,gx 453 [l2] bO,ix l3,gm l4,gmt 5 s0,gmt 5 s3,bZ 5 (.ixS l6 l7),bZ 5 (.call 454 [l8] bO),bZ 5 (.un .not l9),dZ l5 l10,gm fI,gmt 12 s0,gmt 12 s3,bZ 12 (.ixS iQ jt),bZ 12 (dC kB (i8 95)),dZ gV mE] 5 17) (lA s5 ct))) (r1 [gm s3,au l0 bR,gm l1] 3 2)))))) (uO me))))⟩
def w357 {Γ:Ctx}(hm:(Γ.at 0).a8)(h453:KU Γ)(h454:Iy Γ)(s:ai)   :dq Γ Fh (.bool (bV s)) [.str s]:=by
 show bz _ _ _ [⟨_,_⟩,_,_,_,_,_] _;refine aj ?_;refine aA ?_;intro u0;refine av ?_;refine gT ?_;refine av ?_;refine cd (fun hc0=>?_) fun hc0=>?_
 ·refine aJ ?_;refine br ?_;symm;simp only[bV,Bool.and_eq_false_iff,decide_eq_false_iff_not];exact Or.inl (by omega)
 refine aJ ?_;refine aY hm (ι:=Nat) (fun i=>[⟨true,.str s⟩,.un,.un,⟨true,.int .i64 (i:Nat)⟩,.un,.un]) (fun i=>[]) 10 (fun i=>i≤s.length∧bV s=b8 (fun i=>wv (at8 s i)) i s.length) (fun i=>s.length-i) 0 ⟨by omega,by simp only[bV];rw[decide_eq_true (by omega),decide_eq_true (by omega)];rfl⟩ (cS []) ?_;rintro i ⟨hi,hr⟩;refine aJ ?_;intro u1;refine ar ?_;refine cd (fun hc1=>?_) fun hc1=>?_
 ·refine aA ?_;refine ak (hc:=h453 _) ?_;refine aJ ?_;refine ak (hc:=h454 _) ?_;refine cR ?_;refine fm (fun hc2=>?_) fun hc2=>?_
  ·refine aA ?_;refine br ?_;rw[hr,aH (by omega)];simp[wv,hc2]
  refine bB ?_;exact⟨i+1,⟨by omega,by rw[hr,aH (by omega)];simp[wv,hc2]⟩,by omega,(cS [])⟩
 refine aA ?_;refine br ?_;rw[hr,bE (by omega)]
def BJ (Γ:Ctx):Prop:=∀(s:ai),Γ.pre 357 [.str s]∧Γ.val 357 [.str s]=.bool (bV s)
def Fg:aB:=⟨1,6,gG,bO,(sq (r1 [gm ct] 1 0) (sq (sq (r1 [gm s0,m9 l0,aN l1 bR,gm l2,dH 3 s0,bT 3 (.lenS l4),bT 3 (dz l5 (i6 16)),ea l3 l6,gm l7,dH 8 s0,bT 8 (.ixS l9 bh),bT 8 (.call 453 [l10] bO),bT 8 (.un .not fI),ea l8 gV,gm iQ,dH 14 s0,dH 14 s0,bT 14 (.lenS mE),bT 14 (iG nU bR),bT 14 (.ixS kB oB),bT 14 (ca pY (i8 45)),ea jt ua] 2 21) (lA s2 ct)) (sq (sq (r1 [gm bR] 3 0) (.block 0 (.loop (sq (sq (r1 [gm s3,gm s0,m9 l1,aN l0 l2] 4 3) (eN s4 0)) (sq (.block 1 (sq (r1 [gm s0,gm s3,Dv l0 l1,gx 453 [l2] bO,ix l3,gm l4,gmt 5 s0,gmt 5 s3,bZ 5 (.ixS l6 l7),bZ 5 (.call 454 [l8] bO),bZ 5 (.un .not l9),dZ l5 l10,gm fI,gmt 12 s0,gmt 12 s3,bZ 12 (.ixS iQ jt),bZ 12 (dC kB (i8 45)),dZ gV mE,gm nU,dH 18 s0,dH 18 s3,bT 18 (.ixS pY ua),bT 18 (ca wP (i8 45)),dH 18 xA,gmt 23 s0,gmt 23 s3,bZ 23 (iG B8 bR),bZ 23 (.ixS BD FK),bZ 23 (ca GQ (i8 45)),yP 18 BC Jt,ea oB Ju] 5 30) (lA s5 ct))) (r1 [gm s3,au l0 bR,gm l1] 3 2)))))) (uO me))))⟩
def w216 {Γ:Ctx}(hm:(Γ.at 0).a8)(h453:KU Γ)(h454:Iy Γ)(s:ai)   :dq Γ Fg (.bool (eY s)) [.str s]:=by
 show bz _ _ _ [⟨_,_⟩,_,_,_,_,_] _;refine aj ?_;refine aA ?_;intro u0;refine av ?_;refine gT ?_;refine ax ?_;refine mX 0 ?_;refine ak (hc:=h453 _) ?_;refine aJ ?_;refine gT ?_;refine aC ?_;refine mX (s.length-1) ?_;refine av ?_;refine cd (fun hc0=>?_) fun hc0=>?_
 ·refine aJ ?_;refine br ?_;symm;simp only[eY];rcases hc0 with(h|h)|h
  ·rcases h with h|h<;>simp<;>omega
  ·simp[h]
  ·simp[h]
 refine aJ ?_;refine aY hm (ι:=Nat) (fun i=>[⟨true,.str s⟩,.un,.un,⟨true,.int .i64 (i:Nat)⟩,.un,.un]) (fun i=>[]) 24 (fun i=>i≤s.length∧1≤i∧eY s=b8 (MY s) i s.length) (fun i=>s.length-i) 1 ⟨by omega,by omega,by simp only[eY];rw[decide_eq_true (by omega),decide_eq_true (by omega),hc0.1.2,decide_eq_false hc0.2];rfl⟩ (cS []) ?_;rintro i ⟨hi,hi1,hr⟩;refine aJ ?_;intro u1;refine ar ?_;refine cd (fun hc1=>?_) fun hc1=>?_
 ·refine aA ?_;refine ak (hc:=h453 _) ?_;refine aJ ?_;refine ak (hc:=h454 _) ?_;refine wD ?_;refine mX (i-1) ?_;refine ax ?_;refine fm (fun hc2=>?_) fun hc2=>?_
  ·refine aA ?_;refine br ?_;rw[hr,aH (by omega)];simp only[MY];revert hc2;generalize gu (at8 s i)=x;generalize aZ (at8 s i)=y;by_cases h1:at8 s i=45<;>by_cases h2:at8 s (i-1)=45<;>cases x<;>cases y<;>simp_all
  refine bB ?_;exact⟨i+1,⟨by omega,by omega,by rw[hr,aH (by omega)];simp only[MY];revert hc2;generalize gu (at8 s i)=x;generalize aZ (at8 s i)=y;by_cases h1:at8 s i=45<;>by_cases h2:at8 s (i-1)=45<;>cases x<;>cases y<;>simp_all⟩,by omega,(cS [])⟩
 refine aA ?_;refine br ?_;rw[hr,bE (by omega)]
def FX (Γ:Ctx):Prop:=∀(s:ai),Γ.pre 216 [.str s]∧Γ.val 216 [.str s]=.bool (eY s)
def A4:aB:=⟨1,9,[⟨1,none⟩,⟨2,none⟩],gQ,(sq (rg [gm bh,gm ct] [(1,0),(2,1)]) (sq (sq (r1 [gm s0,m9 l0,aN l1 bR,gm l2,dH 3 s0,bT 3 (.lenS l4),bT 3 (dz l5 EM),ea l3 l6,gm l7,dH 8 s0,bT 8 (.lenS l9),bT 8 (dz l10 bR),dH 8 fI,gmt 12 s0,bZ 12 (.ixS iQ bh),bZ 12 (ca jt (i8 48)),yP 8 gV kB,ea l8 mE] 3 17) (.cond s3 (sq (rg [gm bh,gm ct] [(1,0),(2,1)]) .ret) .skip)) (sq (r1 [gm bh] 7 0) (sq (sq (r1 [gm bh] 4 0) (.block 0 (.loop (sq (sq (r1 [gm s4,gm s0,m9 l1,aN l0 l2] 5 3) (eN s5 0)) (sq (.block 1 (sq (sq (r1 [gm s0,gm s4,Dv l0 l1,gx 454 [l2] bO,ix l3] 6 4) (.cond s6 (sq (rg [gm bh,gm ct] [(1,0),(2,1)]) .ret) .skip)) (r1 [gm s7,gn (.bin .mul l0 (i6 10)),gm s0,gm s4,Dv l2 l3,dP l4 (i8 48),gn (.cvi .i64 l5),au l1 l6,gm l7] 7 8))) (r1 [gm s4,au l0 bR,gm l1] 4 2)))))) (sq (sq (r1 [gm s7,cB l0 (i6 9999)] 8 1) (.cond s8 (sq (rg [gm bh,gm ct] [(1,0),(2,1)]) .ret) .skip)) (sq (rg [gm s7,gm l0,gm me] [(1,1),(2,2)]) .ret))))))⟩
def w667 {Γ:Ctx}(hm:(Γ.at 0).a8)(h454:Iy Γ)(s:ai)   :dq Γ A4 (.tup [.int .i64 (cT s),.bool (dQ s)]) [.str s]:=by
 show bz _ _ _ [⟨_,_⟩,_,_,_,_,_,_,_,_] _;refine aj ?_;refine aV ?_;intro u0;refine av ?_;refine gT ?_;refine ax ?_;refine gT ?_;refine av ?_;refine mX 0 ?_;refine ax ?_;refine cd (fun hc0=>?_) fun hc0=>?_
 ·refine aA ?_;refine bC (aF (congrArg (D.int .i64) ?_) (congrArg D.bool ?_));all_goals
   have:dQ s=false:=by
    simp only[dQ];rcases hc0 with(h|h)|h
    ·rw[decide_eq_false (by omega:¬1≤s.length)];rfl
    ·rw[decide_eq_false (by omega:¬s.length≤9)];simp
    ·rw[decide_eq_true (by omega:1<s.length),decide_eq_true h.2];simp
   simp[cT,this]
 refine bB ?_;have hP:dQ s=(b8 (fun i=>aZ (at8 s i)) 0 s.length&&decide (cJ s≤9999)):=by
  simp only[dQ];rw[decide_eq_true (by omega:1≤s.length),decide_eq_true (by omega:s.length≤9)];rcases hc0.2 with h|h
  ·rw[decide_eq_false (by omega:¬1<s.length)];rfl
  ·rw[decide_eq_false h,Bool.and_false];rfl
 refine aY hm (ι:=Nat) (fun i=>[⟨true,.str s⟩,.un,.un,.un,⟨true,.int .i64 (i:Nat)⟩,.un,.un,⟨true,.int .i64 (cJ (s.take i):Nat)⟩,.un]) (fun i=>[]) 22 (fun i=>i≤s.length∧s.length≤9∧dQ s=(b8 (fun i=>aZ (at8 s i)) i s.length&&decide (cJ s≤9999))) (fun i=>s.length-i) 0 ⟨by omega,by omega,hP⟩ (cS []) ?_;rintro i ⟨hi,h9,hr⟩;refine aJ ?_;intro u1;refine ar ?_;refine cd (fun hc1=>?_) fun hc1=>?_
 ·refine aV ?_;refine ak (hc:=h454 _) ?_;refine ar ?_;refine aq (fun hc2=>?_) (fun hc2=>?_)
  ·try simp only[gJ]at hc2
   refine bB ?_;refine bC (aF (congrArg (D.int .i64) ?_) (congrArg D.bool ?_));all_goals
    have:dQ s=false:=by rw[hr,aH (by omega),hc2];rfl
    simp[cT,this]
  simp only[Bool.not_eq_false']at hc2;refine ar ?_;have h48:=hc2;simp only[aZ,Bool.and_eq_true,decide_eq_true_eq]at h48;have hn:=rq s i (by omega);have hn2:=tf s i (by omega);have h256:=Gc s i;refine aC ?_;refine D2 ?_;refine av ?_;refine HJ (at8 s i-48) (hb:=fun _=>IntWalk.u8_in _ (by omega)) ?_;refine AK (at8 s i-48) (hb:=fun _=>IntWalk.i64_in _ (by omega)) ?_;refine av ?_;rw[show(cJ (s.take i):Int)*10+(at8 s i-48)=(cJ (s.take (i+1)):Nat)by omega];refine aV ?_;exact⟨i+1,⟨by omega,h9,by rw[hr,aH (by omega),hc2];rfl⟩,by omega,(cS [])⟩
 refine ax ?_;have ht:s.take i=s:=List.take_of_length_le (by omega);rw[ht];refine av ?_;refine cd (fun hc3=>?_) fun hc3=>?_
 ·refine aA ?_;refine bC (aF (congrArg (D.int .i64) ?_) (congrArg D.bool ?_));all_goals
   have:dQ s=false:=by rw[hr,decide_eq_false (by omega),Bool.and_false]
   simp[cT,this]
 refine aV ?_;refine bC (aF (congrArg (D.int .i64) ?_) (congrArg D.bool ?_));all_goals
  have:dQ s=true:=by rw[hr,bE (by omega),decide_eq_true (by omega)];rfl
  simp[cT,this]
def ID (Γ:Ctx):Prop:=∀(s:ai),Γ.pre 667 [.str s]∧Γ.val 667 [.str s]=.tup [.int .i64 (cT s),.bool (dQ s)]
def zo:aB:=⟨1,5,gG,bO,(sq (r1 [gm ct] 1 0) (sq (sq (r1 [gm bh] 2 0) (.block 0 (.loop (sq (sq (r1 [gm s2,gm s0,m9 l1,aN l0 l2] 3 3) (eN s3 0)) (sq (.block 1 (sq (r1 [gm s0,gm s2,Dv l0 l1,aN l2 (i8 48),gm l3,dH 4 s0,dH 4 s2,bT 4 (.ixS l5 l6),bT 4 (dz l7 (i8 57)),ea l4 l8] 4 9) (lA s4 ct))) (r1 [gm s2,au l0 bR,gm l1] 2 2)))))) (sq (r1 [gm s0,m9 l0,cB l1 bh,gm l2] 1 3) .ret)))⟩
def w668 {Γ:Ctx}(hm:(Γ.at 0).a8)  (t:ai)   :dq Γ zo (.bool (eh t)) [.str t]:=by
 show bz _ _ _ [⟨_,_⟩,_,_,_,_] _;refine aj ?_;refine aA ?_;refine aY hm (ι:=Nat) (fun i=>[⟨true,.str t⟩,.un,⟨true,.int .i64 (i:Nat)⟩,.un,.un]) (fun i=>[]) 2 (fun i=>i≤t.length∧b8 (fun i=>aZ (at8 t i)) 0 t.length=b8 (fun i=>aZ (at8 t i)) i t.length) (fun i=>t.length-i) 0 ⟨by omega,rfl⟩ (cS []) ?_;rintro i ⟨hi,hr⟩;refine aJ ?_;intro u0;refine ar ?_;refine cd (fun hc0=>?_) fun hc0=>?_
 ·refine p8 ?_;refine fm (fun hc1=>?_) fun hc1=>?_
  ·refine aA ?_;refine br ?_;simp only[eh];rw[hr,aH (by omega)];rcases hc1 with h|h<;>simp[aZ]<;>omega
  refine bB ?_;exact⟨i+1,⟨by omega,by rw[hr,aH (by omega)];rw[show aZ (at8 t i)=true by simp only[aZ,Bool.and_eq_true,decide_eq_true_eq];omega];rfl⟩,by omega,(cS [])⟩
 refine aJ ?_;intro u1;refine ax ?_;refine br ?_;simp only[eh];rw[hr,bE (by omega)];simp
def N3 (Γ:Ctx):Prop:=∀(t:ai),Γ.pre 668 [.str t]∧Γ.val 668 [.str t]=.bool (eh t)
def HQ:aB:=⟨1,7,gG,bO,(sq (r1 [gm ct] 1 0) (sq (sq (r1 [gm s0,m9 l0,aN l1 bR,gm l2,dH 3 s0,bT 3 (.lenS l4),bT 3 (dz l5 B5),ea l3 l6] 2 7) (lA s2 ct)) (sq (sq (r1 [gm bh] 3 0) (.block 0 (.loop (sq (sq (r1 [gm s3,gm s0,m9 l1,aN l0 l2] 4 3) (eN s4 0)) (sq (.block 1 (sq (r1 [gm s0,gm s3,Dv l0 l1,gm l2] 5 3) (sq (r1 [gm s5,aN l0 (i8 97),gm l1,dH 2 s5,bT 2 (dz l3 (i8 122)),ea l2 l4,gm l5,gmt 6 s5,bZ 6 (pT l7 (i8 48)),gmt 6 l8,dH 9 s5,bT 9 (dz l10 (i8 57)),LZ 6 l9 fI,dZ l6 gV,gm iQ,gmt 14 s5,bZ 14 (dC kB (i8 45)),dZ jt mE] 6 17) (lA s6 ct)))) (r1 [gm s3,au l0 bR,gm l1] 3 2)))))) (uO me))))⟩
def w666 {Γ:Ctx}(hm:(Γ.at 0).a8)  (t:ai)   :dq Γ HQ (.bool (nZ t)) [.str t]:=by
 show bz _ _ _ [⟨_,_⟩,_,_,_,_,_,_] _;refine aj ?_;refine aA ?_;intro u0;refine av ?_;refine gT ?_;refine av ?_;refine cd (fun hc0=>?_) fun hc0=>?_
 ·refine aJ ?_;refine br ?_;symm;simp only[nZ,Bool.and_eq_false_iff,decide_eq_false_iff_not];exact Or.inl (by omega)
 refine aJ ?_;refine aY hm (ι:=Nat) (fun i=>[⟨true,.str t⟩,.un,.un,⟨true,.int .i64 (i:Nat)⟩,.un,.un,.un]) (fun i=>[]) 10 (fun i=>i≤t.length∧nZ t=b8 (fun i=>lG (at8 t i)) i t.length) (fun i=>t.length-i) 0 ⟨by omega,by simp only[nZ];rw[decide_eq_true (by omega),decide_eq_true (by omega)];rfl⟩ (cS []) ?_;rintro i ⟨hi,hr⟩;refine aJ ?_;intro u1;refine ar ?_;refine cd (fun hc1=>?_) fun hc1=>?_
 ·refine Ip ?_;refine fm (fun hc2=>?_) fun hc2=>?_
  ·refine aA ?_;refine br ?_;rw[hr,aH (by omega)];have:lG (at8 t i)=false:=(by simp only[lG,gu,aZ,Bool.or_eq_false_iff,Bool.and_eq_false_iff,decide_eq_false_iff_not];omega);rw[this];rfl
  refine bB ?_;exact⟨i+1,⟨by omega,by rw[hr,aH (by omega)];have:lG (at8 t i)=true:=(by simp only[lG,gu,aZ,Bool.or_eq_true,Bool.and_eq_true,decide_eq_true_eq];omega);rw[this];rfl⟩,by omega,(cS [])⟩
 refine aA ?_;refine br ?_;rw[hr,bE (by omega)]
def N2 (Γ:Ctx):Prop:=∀(t:ai),Γ.pre 666 [.str t]∧Γ.val 666 [.str t]=.bool (nZ t)
def Fi:aB:=⟨2,11,[⟨2,none⟩],bO,(sq (r1 [gm ct] 2 0) (sq (sq (r1 [gm s0,aG l0 cse] 3 1) (.cond s3 (sq (r1 [gm me] 2 0) .ret) .skip)) (sq (r1 [gm s0,gx 470 [l0,(i8 46)] gQ,gm l1] 4 2) (sq (sq (r1 [gm s4,gl l0,cB l1 tA] 5 2) (.cond s5 (sq (r1 [gm ct] 2 0) .ret) .skip)) (sq (sq (r1 [gm bh] 6 0) (.block 0 (.loop (sq (sq (r1 [gm s6,gm s4,gl l1,aN l0 l2] 7 3) (eN s7 0)) (sq (.block 1 (sq (sq (r1 [gm s4,gm s6,ga 1 l0 l1,gd l2,gx 666 [l3] bO,ix l4] 8 5) (.cond s8 (sq (r1 [gm ct] 2 0) .ret) .skip)) (sq (r1 [gm s4,gm s6,ga 1 l0 l1,gd l2,gx 667 [l3] bO,gm l4,ge l5 0,ge l5 1,gm l6,gm l7] 9 9) (sq (r1 [gm s1,gm l0,gmt 1 s4,gmt 1 s6,bZ 1 (.ia 1 l2 l3),iO 1 l4,bZ 1 (.call 668 [l5] bO),dZ l1 l6,gm l7,gmt 8 s9,bZ 8 (.un .not l9),dZ l8 l10] 10 11) (.cond jx (sq (r1 [gm ct] 2 0) .ret) .skip))))) (r1 [gm s6,au l0 bR,gm l1] 6 2)))))) (sq (r1 [gm me] 2 0) .ret))))))⟩
def w456 {Γ:Ctx}(hm:(Γ.at 0).a8)(h470:uk Γ)(h666:N2 Γ)(h667:ID Γ)(h668:N3 Γ)(s:ai)(p:Bool)  (hp0:s.length≤1048576):dq Γ Fi (.bool (oT s p)) [.str s,.bool p]:=by
 show bz _ _ _ [⟨_,_⟩,⟨_,_⟩,_,_,_,_,_,_,_,_,_] _;refine aj ?_;refine aV ?_;refine cd (fun hc0=>?_) fun hc0=>?_
 ·refine aJ ?_;refine br ?_;simp[oT,hc0]
 refine av ?_;refine ak (hc:=h470 _ _ ?_) ?_;rotate_left;first|assumption|omega;have hlen:=cn s 46
 refine aA ?_;intro u0;refine ar ?_;refine aq (fun hc1=>?_) (fun hc1=>?_)
 ·try simp only[gJ]at hc1
  refine aJ ?_;refine br ?_;simp only[oT,kW];rw[decide_eq_false hc0,decide_eq_false (by omega)];rfl
 simp only[decide_eq_false_iff_not]at hc1;refine aJ ?_;refine aY hm (ι:=Nat) (fun i=>[⟨true,.str s⟩,⟨true,.bool p⟩,.un,.un,⟨true,.sl 1 ((ah s 46).map D.str)⟩,.un,⟨true,.int .i64 (i:Nat)⟩,.un,.un,.un,.un]) (fun i=>[]) 10 (fun i=>i≤(ah s 46).length∧oT s p=b8 (fun i=>fL p (ah s 46)[i]!) i (ah s 46).length) (fun i=>(ah s 46).length-i) 0 ⟨by omega,by simp only[oT,kW];rw[decide_eq_false hc0,decide_eq_true (by omega)];rfl⟩ (cS []) ?_;rintro i ⟨hi,hr⟩;refine aJ ?_;intro u1;refine ar ?_;refine cd (fun hc2=>?_) fun hc2=>?_
 ·refine bB ?_;refine ak (hc:=h666 _) ?_;refine ar ?_;refine aq (fun hc3=>?_) (fun hc3=>?_)
  ·simp only[Bool.not_eq_true']at hc3;refine aV ?_;refine br ?_;rw[hr,aH (by omega)];simp only[fL,hc3];rfl
  simp only[Bool.not_eq_false']at hc3;refine aA ?_;refine ak (hc:=h667 _) ?_;refine kv ?_;refine ak (hc:=h668 _) ?_;refine aA ?_;refine wp_cond (fun hc4=>?_) (fun hc4=>?_)
  ·skip
   refine aA ?_;refine br ?_;have h5:fL p (ah s 46)[i]! =false:=(by simp only[fL,hc3];revert hc4;generalize eh (ah s 46)[i]! =a;generalize dQ (ah s 46)[i]! =b;cases p<;>cases a<;>cases b<;>simp);rw[hr,aH (by omega),h5];rfl
  skip
  refine bB ?_;exact⟨i+1,⟨by omega,by rw[hr,aH (by omega)];have h5:fL p (ah s 46)[i]! =true:=(by simp only[fL,hc3];revert hc4;generalize eh (ah s 46)[i]! =a;generalize dQ (ah s 46)[i]! =b;cases p<;>cases a<;>cases b<;>simp);rw[h5];rfl⟩,by omega,(cS [])⟩
 refine aA ?_;refine br ?_;rw[hr,bE (by omega)]
def NK (Γ:Ctx):Prop:=∀(s:ai)(p:Bool),(s.length≤1048576)→Γ.pre 456 [.str s,.bool p]∧Γ.val 456 [.str s,.bool p]=.bool (oT s p)
def HP:aB:=⟨1,2,gG,bO,(sq (r1 [gm ct] 1 0) (sq (r1 [gm s0,gv l0 bh,gm l1,gmt 2 s0,bZ 2 (mh l3 (i6 9999)),dZ l2 l4,gm l5] 1 6) .ret))⟩
def w455 {Γ:Ctx}(hm:(Γ.at 0).a8)  (n:Int)   :dq Γ HP (.bool (lM n)) [.int .i64 n]:=by
 show bz _ _ _ [⟨_,_⟩,_] _;refine aj ?_;refine gZ ?_;exact br rfl
def NJ (Γ:Ctx):Prop:=∀(n:Int),Γ.pre 455 [.int .i64 n]∧Γ.val 455 [.int .i64 n]=.bool (lM n)
def HO:aB:=⟨1,3,gG,bO,(sq (rg [gb 5 s0,gm ct] [(2,0),(1,1)]) (sq (r1 [gf 0 s2,gd l0,gx 455 [l1] bO,gm l2,kA 3 1 s2,iO 3 l4,bZ 3 (.call 455 [l5] bO),dZ l3 l6,gm l7,kA 8 2 s2,iO 8 l9,bZ 8 (.call 455 [l10] bO),dZ l8 fI,gm gV,kA 13 3 s2,iO 13 jt,bZ 13 (.call 456 [kB,me] gQ),dZ iQ mE,gm nU,kA 18 4 s2,iO 18 pY,bZ 18 (.call 456 [ua,ct] gQ),dZ oB wP,gm xA] 1 23) .ret))⟩
def w217 {Γ:Ctx}(hm:(Γ.at 0).a8)(h455:NJ Γ)(h456:NK Γ)(v:b7)  (hp0:v.sm):dq Γ HO (.bool (iF v)) [b7.D v]:=by
 show bz _ _ _ [⟨_,_⟩,_,_] _;refine aj ?_;refine aA ?_;refine ak (hc:=h455 _) ?_;refine av ?_;refine ak (hc:=h455 _) ?_;refine ax ?_;refine ak (hc:=h455 _) ?_;refine ax ?_;refine fB (hc:=fun hf=>h456 v.pre true hp0.1) ?_;refine ax ?_;refine fB (hc:=fun hf=>h456 v.build false hp0.2) ?_;refine ax ?_;exact br rfl
def FY (Γ:Ctx):Prop:=∀(v:b7),(v.sm)→Γ.pre 217 [b7.D v]∧Γ.val 217 [b7.D v]=.bool (iF v)
end Go.Abs
end
section
namespace Go.Abs
open Go
def zn:aB:=⟨1,4,gG,bO,(sq (rg [gb 5 s0,gm cse] [(2,0),(1,1)]) (sq (r2 [gf 0 s2,gd l0,gx 734 [l1] bO,au l2 (cs [46]),gf 1 s2,gd l4,gx 734 [l5] bO,au l3 l6,gm l7] 3 8) (sq (r1 [gm s3,au l0 (cs [46]),gf 2 s2,gd l2,gx 734 [l3] bO,au l1 l4,gm l5] 1 6) .ret)))⟩
def w554 {Γ:Ctx}(hm:(Γ.at 0).a8)(h734:Lh Γ)(v:b7)  (hp0:lM v.major=true∧lM v.minor=true∧lM v.patch=true):dq Γ zn (.str (cW v.major.toNat++[46]++cW v.minor.toNat++[46]++cW v.patch.toNat)) [b7.D v]:=by
 show bz _ _ _ [⟨_,_⟩,_,_,_] _;obtain⟨hq1,hq2,hq3⟩:=hp0;simp only[lM,Bool.and_eq_true,decide_eq_true_eq]at hq1 hq2 hq3;have hl1:=dT 4 v.major.toNat (by omega) (by omega);have hl2:=dT 4 v.minor.toNat (by omega) (by omega);have hl3:=dT 4 v.patch.toNat (by omega) (by omega);refine aj ?_;refine aA ?_;refine ak (hc:=h734 _ ?_) ?_;rotate_left;first|assumption|omega
 refine cO (hb:=fun _=>by simp;omega) ?_;refine ar ?_;refine ak (hc:=h734 _ ?_) ?_;rotate_left;first|assumption|omega
 refine cO (hb:=fun _=>by simp;omega) ?_;refine ax ?_;refine cO (hb:=fun _=>by simp;omega) ?_;refine ar ?_;refine ak (hc:=h734 _ ?_) ?_;rotate_left;first|assumption|omega
 refine cO (hb:=fun _=>by simp;omega) ?_;refine av ?_;exact ch rfl
def NY (Γ:Ctx):Prop:=∀(v:b7),(lM v.major=true∧lM v.minor=true∧lM v.patch=true)→Γ.pre 554 [b7.D v]∧Γ.val 554 [b7.D v]=.str (cW v.major.toNat++[46]++cW v.minor.toNat++[46]++cW v.patch.toNat)
def CM:aB:=⟨1,7,gG,bO,(sq (rg [gb 5 s0,gm cse] [(2,0),(1,1)]) (sq (sq (r1 [gk 5 true s2,gx 217 [l0] EJ,ix l1] 3 2) (lA s3 cse)) (sq (r1 [gk 5 true s2,gx 554 [l0] EJ,gm l1] 5 2) (sq (sq (r1 [gf 3 s2,gd l0,bN l1 cse] 4 2) (.cond s4 (r1 [gm s5,au l0 (cs [45]),gf 3 s2,gd l2,au l1 l3,gm l4] 5 5) .skip)) (sq (sq (r1 [gf 4 s2,gd l0,bN l1 cse] 6 2) (.cond s6 (r1 [gm s5,au l0 (cs [43]),gf 4 s2,gd l2,au l1 l3,gm l4] 5 5) .skip)) (sq (r1 [gm s5,gm l0] 1 1) .ret))))))⟩
def w316 {Γ:Ctx}(hm:(Γ.at 0).a8)(h217:FY Γ)(h554:NY Γ)(v:b7)  (hp0:v.sm):dq Γ CM (.str (lv v)) [b7.D v]:=by
 show bz _ _ _ [⟨_,_⟩,_,_,_,_,_,_] _;obtain⟨hs1,hs2⟩:=hp0;have hp0:v.sm:=⟨hs1,hs2⟩;refine aj ?_;refine aA ?_;refine ak (hc:=h217 _ ?_) ?_;rotate_left;first|assumption|omega
 refine ar ?_;refine aq (fun hc0=>?_) (fun hc0=>?_)
 ·simp only[Bool.not_eq_true']at hc0;refine aJ ?_;refine ch ?_;simp[lv,hc0]
 simp only[Bool.not_eq_false']at hc0;refine ar ?_;have hv:=hc0;simp only[iF,Bool.and_eq_true]at hv;obtain⟨⟨⟨⟨hv1,hv2⟩,hv3⟩,_⟩,_⟩:=hv;have hq1:=hv1;have hq2:=hv2;have hq3:=hv3;simp only[lM,Bool.and_eq_true,decide_eq_true_eq]at hq1 hq2 hq3;have hl1:=dT 4 v.major.toNat (by omega) (by omega);have hl2:=dT 4 v.minor.toNat (by omega) (by omega);have hl3:=dT 4 v.patch.toNat (by omega) (by omega);refine aC ?_;refine ak (hc:=h554 v ⟨hv1,hv2,hv3⟩) ?_;refine bB ?_;refine cd (fun hc1=>?_) fun hc1=>?_
 ·refine ar ?_;refine cO (hb:=fun _=>by simp;omega) ?_;refine ar ?_;refine cO (hb:=fun _=>by simp;omega) ?_;refine bB ?_;refine cd (fun hc2=>?_) fun hc2=>?_
  ·refine ar ?_;refine cO (hb:=fun _=>by simp;omega) ?_;refine ar ?_;refine cO (hb:=fun _=>by simp;omega) ?_;refine aV ?_;refine ch ?_;simp[lv,wo,hc0,hc1,hc2]
  refine aA ?_;refine ch ?_;simp[lv,wo,hc0,hc1,hc2]
 refine aV ?_;refine cd (fun hc2=>?_) fun hc2=>?_
 ·refine ar ?_;refine cO (hb:=fun _=>by simp;omega) ?_;refine ar ?_;refine cO (hb:=fun _=>by simp;omega) ?_;refine aV ?_;refine ch ?_;simp[lv,wo,hc0,hc1,hc2]
 refine aA ?_;refine ch ?_;simp[lv,wo,hc0,hc1,hc2]
def Ny (Γ:Ctx):Prop:=∀(v:b7),(v.sm)→Γ.pre 316 [b7.D v]∧Γ.val 316 [b7.D v]=.str (lv v)
end Go.Abs
end
section
namespace Go.Abs
open Go
end Go.Abs
end
section
namespace Go.Abs
open Go
end Go.Abs
end
section
namespace Go.Abs
open Go
end Go.Abs
end
section
namespace Go.Abs
open Go
end Go.Abs
end
section
namespace Go.Abs
open Go
end Go.Abs
end
