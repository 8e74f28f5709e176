/- A part of the proofs. -/
import Derived.KernelRfl
import Derived.Test.YtaeimnechonnmaaGreatDoorProg
import Derived.Test.YtaeimnechonnmaaGreatDoorP06
set_option linter.all false
set_option maxRecDepth 4000
namespace Go.Abs
def eA (us:List bQ)(l:List Want):List a8:=l.map fun x=>⟨x.u,eQ us x⟩
structure gX where
 full:List Int
 needs:List (List (List (List a8)))
 bars:List (List (List a8))
 deriving Inhabited
def za (l:List a8):D:=.sl 2 (l.map a8.D)
def lB (l:List (List a8)):D:=.sl 1 (l.map za)
def kg (l:List (List (List a8))):D:=.sl 1 (l.map lB)
def gX.D (m:gX):D:=.agg [.sl 1 (m.full.map (D.int .i64)),.sl 1 (m.needs.map kg),.sl 1 (m.bars.map lB)]
def jz (us:List bQ)(l:List ko):List (List a8):=l.map (eA us)
def eW (us:List bQ)(cs:List dI):List (List (List a8)):=cs.map fun c=>jz us c.needs
def iY (us:List bQ)(cs:List dI):List (List a8):=cs.map fun c=>eA us c.bars
def eJ (us:List bQ)(i:Nat):List (List (List (List a8))):=(us.take i).map fun u=>eW us u.cands
def iP (us:List bQ)(i:Nat):List (List (List a8)):=(us.take i).map fun u=>iY us u.cands
def eP (us:List bQ):gX:=⟨eO us us.length,eJ us us.length,iP us us.length⟩
def sR (c:List Int)(x:a8):Bool:=decide (0<=c[x.u.toNat]!)&&decide (iF x.m (2^(c[x.u.toNat]!.toNat+1))≠0)
def ix (c:List Int)(l:List a8):Bool:=pf (fun i=>sR c l[i]!) 0 l.length
def H7 (m:gX)(c:List Int)(u:Nat):Bool:=decide (c[u]! <0) ||(dj (fun k=>ix c m.needs[u]![c[u]!.toNat]![k]!) 0 m.needs[u]![c[u]!.toNat]!.length&& !ix c m.bars[u]![c[u]!.toNat]!)
def zQ (m:gX)(c:List Int):Bool:=decide (0<=c[0]!)&&dj (H7 m c) 0 c.length
def ChP (us:List bQ)(c:List Int):Prop:=c.length=us.length/\∀u,u<us.length->-1<=c[u]! /\c[u]! <us[u]!.cands.length
def xn (c:List Int)(u:Nat):Nat:=(c[u]! +1).toNat
def j5 {α β:Type} [Inhabited α] [Inhabited β]{f:α->β}{l:List α}{i:Nat}(h:i<l.length):(l.map f)[i]! =f l[i]! :=by simp[h]
def Af {us:List bQ}{c:List Int}{x:Want}(hs:∀x∈us,x.cands.length<=16)(hc:ChP us c)(h0:0<=x.u)(h1:x.u<us.length):sR c ⟨x.u,eQ us x⟩=true↔BD us (xn c) x:=by
 obtain⟨u,hu⟩:∃u:Nat,x.u=((u:Nat):Int):=⟨x.u.toNat,ae⟩
 have hul:u<us.length:=ae;have hcu:=hc.2 u hul;have h16:=hs _ (aj hul);unfold sR BD xn;dsimp only;rw[hu,Int.toNat_natCast,bm,bL,bL,HN];constructor
 .rintro⟨h2,i,h3,h4⟩;rw[mR ae]at h4;obtain rfl:i=c[u]!.toNat+1:=by simpa using h4
  rw[show(c[u]! +1).toNat=c[u]!.toNat+1 by omega];exact h3
 .intro h2;have h3:=h2;rw[HH hu hul hs]at h3;simp only[bm,bL]at h3;refine⟨ae,(c[u]! +1).toNat,h2,KU ae ae⟩
def z7 {c:List Int}{l:List a8}:ix c l=true↔∃x∈l,sR c x=true:=by
 unfold ix;rw[HC];constructor
 .rintro⟨j,_,h2,h3⟩;exact⟨_,aj h2,h3⟩
 .rintro⟨x,hx,h⟩;obtain⟨j,hj,rfl⟩:=List.mem_iff_getElem.1 hx;exact⟨j,Nat.zero_le _,hj,by simpa[hj]using h⟩
def C2 {w:bT}(h:nH w=true){u k:Nat}(hu:u<w.us.length)(hk:k<w.us[u]!.cands.length):(∀r∈w.us[u]!.cands[k]!.needs,∀x∈r,0<=x.u/\x.u<w.us.length)/\∀x∈w.us[u]!.cands[k]!.bars,0<=x.u/\x.u<w.us.length:=by
 unfold nH at h;rw[bm,cA]at h;have h3:=h.2 u ae hu;unfold sZ at h3;rw[bm,cA]at h3;have h4:=h3.2 k ae hk;unfold qG at h4;simp only[bm]at h4;have h5:=h4.1.2;unfold nq at h5;simp only[bm,bL]at h5;have hw:∀(l:List Want),nj (w.us.length:Int) l=true->∀x∈l,0<=x.u/\x.u<w.us.length:=by
  intro l hl x hx;unfold nj at hl;rw[cA]at hl;obtain⟨j,hj,rfl⟩:=List.mem_iff_getElem.1 hx;have:=hl j ae hj;unfold oF at this;simp only[hj,getElem!_pos,bm,bL]at this;omega
 refine⟨fun r hr=>?_,hw _ h5.2⟩;have h6:=h5.1.2;rw[cA]at h6;obtain⟨j,hj,rfl⟩:=List.mem_iff_getElem.1 hr;have:=h6 j ae hj;unfold oB at this;simp only[hj,getElem!_pos,bm]at this;exact hw _ this.1
def ID {us:List bQ}{u k:Nat}(hu:u<us.length)(hk:k<us[u]!.cands.length):(eP us).needs[u]![k]! =jz us us[u]!.cands[k]!.needs:=by
 unfold eP eJ eW;dsimp only;rw[List.take_length,j5 hu,j5 hk]
def KR {us:List bQ}{u k:Nat}(hu:u<us.length)(hk:k<us[u]!.cands.length):(eP us).bars[u]![k]! =eA us us[u]!.cands[k]!.bars:=by
 unfold eP iP iY;dsimp only;rw[List.take_length,j5 hu,j5 hk]
def O0 {w:bT}{c:List Int}(hw:nH w=true)(hs:∀x∈w.us,x.cands.length<=16)(hc:ChP w.us c)(h:zQ (eP w.us) c=true):Hy w.us (xn c):=by
 have hpos:0<w.us.length:=by
  unfold nH at hw;simp only[bm,bL]at hw;omega
 unfold zQ at h;rw[bm,bL,cA,hc.1]at h;obtain⟨h0,hf⟩:=h;have hk:∀u,u<w.us.length->xn c u≠0->c[u]!.toNat=xn c u-1/\xn c u-1<w.us[u]!.cands.length/\dj (fun k=>ix c (jz w.us w.us[u]!.cands[xn c u-1]!.needs)[k]!) 0 (jz w.us w.us[u]!.cands[xn c u-1]!.needs).length=true/\ix c (eA w.us w.us[u]!.cands[xn c u-1]!.bars)=false:=by
  intro u hu hk;have hcu:=hc.2 u hu;have h1:=hf u (Nat.zero_le _) hu;have e:c[u]!.toNat=xn c u-1:=by unfold xn at*;omega
  have hl:xn c u-1<w.us[u]!.cands.length:=by unfold xn at*;omega
  unfold H7 at h1;rw[en,bL]at h1;have h2:=h1.resolve_left (by unfold xn at hk;omega);rw[e,ID hu hl,KR hu hl]at h2;rw[bm,eB]at h2;exact⟨e,hl,h2.1,h2.2⟩
 have hin:∀u,u<w.us.length->xn c u≠0->(∀r∈w.us[u]!.cands[xn c u-1]!.needs,∀x∈r,0<=x.u/\x.u<w.us.length)/\∀x∈w.us[u]!.cands[xn c u-1]!.bars,0<=x.u/\x.u<w.us.length:=fun u hu h=>C2 hw hu (hk u hu h).2.1
 refine⟨hpos,by unfold xn;omega,fun u hu=>?_,fun u hu hk0 r hr=>?_,fun u hu hk0 x hx hm=>?_,hin⟩
 .have:=hc.2 u hu;unfold xn;omega
 .have h1:=(hk u hu hk0).2.2.1;rw[cA]at h1;obtain⟨j,hj,rfl⟩:=List.mem_iff_getElem.1 hr;have h2:=h1 j (Nat.zero_le _) (by unfold jz;simpa using hj);unfold jz at h2;rw[j5 hj,z7]at h2;obtain⟨y,hy,hm⟩:=h2;unfold eA at hy;obtain⟨x,hx,rfl⟩:=ec.1 hy;simp only[hj,getElem!_pos]at hx;have:=(hin u hu hk0).1 _ hr x hx;exact⟨x,hx,(Af hs hc this.1 this.2).1 hm⟩
 .have h1:=(hk u hu hk0).2.2.2;have hi:=(hin u hu hk0).2 x hx;have:ix c (eA w.us w.us[u]!.cands[xn c u-1]!.bars)=true:=z7.2 ⟨_,ec.2 ⟨x,hx,rfl⟩,(Af hs hc hi.1 hi.2).2 hm⟩;rw[h1]at this;cases this
def ik (l k:Nat)(es:List D)(xs:List (List a8)):eD l k es (xs.map za)=xs.map za:=gw l k es _ (bW (fun _=>rfl) _)
def fD (l k:Nat)(es:List D)(xs:List (List (List a8))):eD l k es (xs.map lB)=xs.map lB:=gw l k es _ (bW (fun _=>rfl) _)
def eE (l k:Nat)(es:List D)(xs:List (List (List (List a8)))):eD l k es (xs.map kg)=xs.map kg:=gw l k es _ (bW (fun _=>rfl) _)
def fC (l k:Nat)(es:List D)(xs:List Int):eD l k es (xs.map (D.int .i64))=xs.map (D.int .i64):=gw l k es _ (bW (fun _=>rfl) _)
def GZ {us:List bQ}{l:List Want}{i:Nat}(h:i<l.length):eA us (l.take i)++[⟨l[i]!.u,eQ us l[i]!⟩]=eA us (l.take (i+1)):=by
 unfold eA;rw[<-ez h];simp
def G0 (us:List bQ)(l:List Want)(i:Nat):(eA us (l.take i)).length<=i:=by
 unfold eA;rw[aK,fo];omega
def GO {us:List bQ}{l:List ko}{i:Nat}(h:i<l.length):jz us (l.take i)++[eA us l[i]!]=jz us (l.take (i+1)):=by
 unfold jz;rw[<-ez h];simp
def GP (us:List bQ)(l:List ko)(i:Nat):(jz us (l.take i)).length<=i:=by
 unfold jz;rw[aK,fo];omega
def Cj {us:List bQ}{l:List dI}{i:Nat}(h:i<l.length):eW us (l.take i)++[jz us l[i]!.needs]=eW us (l.take (i+1)):=by
 unfold eW;rw[<-ez h];simp
def Ck (us:List bQ)(l:List dI)(i:Nat):(eW us (l.take i)).length<=i:=by
 unfold eW;rw[aK,fo];omega
def FN {us:List bQ}{l:List dI}{i:Nat}(h:i<l.length):iY us (l.take i)++[eA us l[i]!.bars]=iY us (l.take (i+1)):=by
 unfold iY;rw[<-ez h];simp
def FO (us:List bQ)(l:List dI)(i:Nat):(iY us (l.take i)).length<=i:=by
 unfold iY;rw[aK,fo];omega
def Ch {us:List bQ}{i:Nat}(h:i<us.length):eJ us i++[eW us us[i]!.cands]=eJ us (i+1):=by
 unfold eJ;rw[<-ez h];simp
def Ci (us:List bQ)(i:Nat):(eJ us i).length<=i:=by
 unfold eJ;rw[aK,fo];omega
def FL {us:List bQ}{i:Nat}(h:i<us.length):iP us i++[iY us us[i]!.cands]=iP us (i+1):=by
 unfold iP;rw[<-ez h];simp
def FM (us:List bQ)(i:Nat):(iP us i).length<=i:=by
 unfold iP;rw[aK,fo];omega
def uw (c:List Int)(x:a8):Prop:=(0<=x.u/\x.u<c.length)/\c[x.u.toNat]! <=30
def QA (m:gX)(c:List Int):Prop:=(0<c.length/\c.length<=1000/\m.needs.length=c.length/\m.bars.length=c.length)/\∀u,u<c.length->0<=c[u]! ->(c[u]!.toNat<m.needs[u]!.length/\c[u]!.toNat<m.bars[u]!.length)/\(∀r∈m.needs[u]![c[u]!.toNat]!,∀x∈r,uw c x)/\∀x∈m.bars[u]![c[u]!.toNat]!,uw c x
structure Ask where
 allow:List Int
 order:List (List Int)
 deriving Inhabited
def k9 (l:List Int):D:=.sl 1 (l.map (D.int .i64))
def Ask.D (a:Ask):D:=.agg [.sl 1 (a.allow.map (D.int .i64)),.sl 1 (a.order.map k9)]
def Co:Option (List Int)->D
 |none=>.aB
 |some c=>.sl 1 (c.map (D.int .i64))
def pd (m:gX):Prop:=(0<m.needs.length/\m.needs.length<=48/\m.bars.length=m.needs.length/\m.full.length=m.needs.length)/\∀u,u<m.needs.length->(m.bars[u]!.length=m.needs[u]!.length/\m.needs[u]!.length<=16)/\
 (∀c∈m.needs[u]!,∀r∈c,r.length<=1000/\∀x∈r,0<=x.u/\x.u<m.needs.length)/\∀r∈m.bars[u]!,∀x∈r,0<=x.u/\x.u<m.needs.length
def wB (m:gX)(c:List Int):Prop:=c.length=m.needs.length/\∀u,u<m.needs.length->-1<=c[u]! /\c[u]! <m.needs[u]!.length
def zR {m:gX}{c:List Int}(hm:pd m)(hc:wB m c):QA m c:=by
 obtain⟨h1,h2⟩:=hm;have hcl:=hc.1;refine⟨ae,fun u hu h0=>?_⟩;have hun:u<m.needs.length:=ae;have hcu:=hc.2 u hun;obtain⟨h3,h4,h5⟩:=h2 u hun;have hk:c[u]!.toNat<m.needs[u]!.length:=ae;have hM:∀x:a8,0<=x.u/\x.u<m.needs.length->uw c x:=fun x hx=>by
  have a:=hc.2 x.u.toNat ae;have b:=(h2 x.u.toNat ae).1;exact⟨ae,ae⟩
 exact⟨⟨hk,ae⟩,fun r hr x hx=>hM x ((h4 _ (aj hk) r hr).2 x hx),fun x hx=>hM x (h5 _ (aj ae) x hx)⟩
def pM (m:gX)(c:List Int)(u:Nat):Bool:=decide (c[u]! <0) ||!ix c m.bars[u]![c[u]!.toNat]!
def pL (m:gX)(c:List Int):Bool:=dj (pM m c) 0 c.length
def y6 (m:gX)(c:List Int)(u:Nat):Nat:=fw (fun k=>ix c m.needs[u]![c[u]!.toNat]![k]!) m.needs[u]![c[u]!.toNat]!.length 0
def qZ (m:gX)(c:List Int)(u:Nat):Bool:=decide (c[u]! <0) ||decide (y6 m c u=m.needs[u]![c[u]!.toNat]!.length)
def kD (m:gX)(c:List Int):Nat:=fw (qZ m c) c.length 0
def dR (m:gX)(c:List Int):Int×Int:=if c[0]! <0 then(0,-1)else if kD m c<c.length then(((kD m c:Nat):Int),((y6 m c (kD m c):Nat):Int))else(-1,-1)
def Dh {f:Nat->Bool}:∀k i,i<=fw f k i/\fw f k i<=i+k
 |0,i=>by simp[fw]
 |k+1,i=>by
  have:=Dh (f:=f) k (i+1);rw[fw];split<;>omega
def zD {f:Nat->Bool}:∀k i,fw f k i<i+k->f (fw f k i)=false
 |0,i,h=>by simp[fw]at h
 |k+1,i,h=>by
  rw[fw]at h⊢;split
  .rename_i e;rw[aw e]at h;exact zD k (i+1) ae
  .rename_i e;simpa using e
def K2 {m:gX}{c:List Int}(h1:pL m c=true)(h2:(dR m c).1<0):zQ m c=true:=by
 unfold dR at h2;split at h2
 .exact absurd h2 b7
 .rename_i h0;split at h2
  .exact absurd h2 eF
  .rename_i hi;unfold zQ;rw[cv (show 0<=c[0]! by omega),jQ,cA];intro u _ hu;unfold pL at h1;rw[cA]at h1;have e1:=h1 u (Nat.zero_le _) hu;have e2:=qv c.length 0 (by rw[aO];exact hi) u (Nat.zero_le _) ae;unfold pM at e1;unfold qZ at e2;unfold H7;by_cases hc:c[u]! <0
   .rw[cv hc];rfl
   .rw[cE hc,Bool.false_or]at e1 e2⊢;rw[e1,eZ,cA];intro k _ hk;rw[bL]at e2;have e3:=qv (f:=fun k=>ix c m.needs[u]![c[u]!.toNat]![k]!) m.needs[u]![c[u]!.toNat]!.length 0 (by unfold y6 at e2;omega) k (Nat.zero_le _) ae;exact e3
def im (n:Nat):Nat->List Int
 |0=>[]
 |i+1=>im n i++[(n:Int) -1-(i:Int)]
def bR (n:Nat):List Int:=im n n
def iL (n:Nat):∀i,(im n i).length=i
 |0=>rfl
 |i+1=>by rw[im,cK,iL n i];rfl
def lA (n:Nat):∀i j,j<i->(im n i)[j]! =(n:Int) -1-(j:Int)
 |0,j,h=>ae
 |i+1,j,h=>by
  rw[im];have hl:=iL n i;rcases cQ j i with h1|h1
  .have:=lA n i j h1;rw[List.getElem!_eq_getElem?_getD,List.getElem?_append_left ae,<-List.getElem!_eq_getElem?_getD];exact this
  .obtain rfl:j=i:=ae;rw[List.getElem!_eq_getElem?_getD,List.getElem?_append_right ae,hl,Nat.sub_self];rfl
def Lp (l:List a8)(o:a8):Bool:=pf (fun i=>decide (l[i]! =o)) 0 l.length
def Cr (mask u p:Int)(out:List a8):List a8:=if(decide (iF mask (2^(p.toNat+1))≠0)&& !Lp out ⟨u,p⟩)=true then out++[⟨u,p⟩]else out
def iG (mask u:Int)(ts:List Int):Nat->List a8->List a8
 |0,out=>out
 |i+1,out=>Cr mask u ts[i]! (iG mask u ts i out)
def wa (m:gX)(u:Int):List Int:=bR m.needs[u.toNat]!.length
def Gp (m:gX)(c:List Int)(x:a8)(out:List a8):List a8:=if 0<=c[x.u.toNat]! then out else iG x.m x.u (wa m x.u) (wa m x.u).length out
def fg (m:gX)(c:List Int)(l:List a8):Nat->List a8
 |0=>[]
 |k+1=>Gp m c l[k]! (fg m c l k)
def b9 (m:gX)(c:List Int):List a8:=if 0<=(dR m c).2 then m.needs[(dR m c).1.toNat]![c[(dR m c).1.toNat]!.toNat]![(dR m c).2.toNat]! else [⟨(dR m c).1,m.full[(dR m c).1.toNat]!⟩]
def dt (m:gX)(c:List Int):List a8:=if(dR m c).1<0 then []else fg m c (b9 m c) (b9 m c).length
def vD (mask u:Int)(ts:List Int):∀i out,(iG mask u ts i out).length<=out.length+i
 |0,out=>aE _
 |i+1,out=>by
  have:=vD mask u ts i out;rw[iG];unfold Cr;split
  .rw[cK,List.length_singleton];omega
  .omega
def Hw (m:gX)(c:List Int)(o:a8):Prop:=(0<=o.u/\o.u<m.needs.length)/\c[o.u.toNat]! <0/\0<=o.m/\o.m<m.needs[o.u.toNat]!.length
def DQ {m:gX}{c:List Int}{mask u:Int}(hu:(0<=u/\u<m.needs.length)/\c[u.toNat]! <0):∀i out,i<=(wa m u).length->(∀o∈out,Hw m c o)->(∀o∈iG mask u (wa m u) i out,Hw m c o)/\(iG mask u (wa m u) i out).length<=out.length+i
 |0,out,_,h=>⟨h,aE _⟩
 |i+1,out,hi,h=>by
  obtain⟨h1,h2⟩:=DQ (mask:=mask) hu i out ae h;have hl:(wa m u).length=m.needs[u.toNat]!.length:=iL _ _;have hg:(wa m u)[i]! =(m.needs[u.toNat]!.length:Int) -1-(i:Int):=lA _ _ _ ae;rw[iG];unfold Cr;split
  .refine⟨fun o ho=>?_,by rw[cK,List.length_singleton];omega⟩;rcases List.mem_append.1 ho with ho|ho
   .exact h1 o ho
   .obtain rfl:=bo.1 ho;exact⟨hu.1,hu.2,eF,eF⟩
  .exact⟨h1,ae⟩
def tV {m:gX}{c:List Int}{l:List a8}(h16:∀u,u<m.needs.length->m.needs[u]!.length<=16)(hl:∀x∈l,0<=x.u/\x.u<m.needs.length):∀k,k<=l.length->(∀o∈fg m c l k,Hw m c o)/\(fg m c l k).length<=16*k
 |0,_=>⟨fun o ho=>(by cases ho),Nat.zero_le _⟩
 |k+1,hk=>by
  obtain⟨h1,h2⟩:=tV h16 hl k ae;have hx:=hl _ (aj (show k<l.length by omega));rw[fg];unfold Gp;split
  .exact⟨h1,ae⟩
  .have ht:(wa m l[k]!.u).length=m.needs[l[k]!.u.toNat]!.length:=iL _ _;have h3:=h16 l[k]!.u.toNat ae;obtain⟨h4,h5⟩:=DQ (mask:=l[k]!.m) ⟨hx,ae⟩ (wa m l[k]!.u).length (fg m c l k) (aE _) h1;exact⟨h4,ae⟩
def DT {m:gX}{c:List Int}(hc:wB m c)(h0:0<m.needs.length)(h:¬(dR m c).1<0):(0<=(dR m c).1/\(dR m c).1<c.length)/\(0<=(dR m c).2->0<=c[(dR m c).1.toNat]! /\(dR m c).2<m.needs[(dR m c).1.toNat]![c[(dR m c).1.toNat]!.toNat]!.length):=by
 have hl:=hc.1;unfold dR at*
 split
 .exact⟨⟨b7,eF⟩,fun h=>absurd h b7⟩
 .rename_i h1;rw[ai h1]at h;split
  .rename_i h2;have h3:=zD (f:=qZ m c) c.length 0 (by rw[aO];exact h2);have h4:=(Dh (f:=fun k=>ix c m.needs[kD m c]![c[kD m c]!.toNat]![k]!) m.needs[kD m c]![c[kD m c]!.toNat]!.length 0).2;rw[show fw (qZ m c) c.length 0=kD m c from rfl]at h3;rw[aO,show fw (fun k=>ix c m.needs[kD m c]![c[kD m c]!.toNat]![k]!) m.needs[kD m c]![c[kD m c]!.toNat]!.length 0=y6 m c (kD m c)from rfl]at h4;unfold qZ at h3;rw[iM,dA,dA]at h3;dsimp only;rw[Int.toNat_natCast];exact⟨⟨ae,ae⟩,fun _=>⟨ae,ae⟩⟩
  .rename_i h2;rw[ai h2]at h;exact absurd (by decide:((-1:Int),(-1:Int)).1<0) h
def Ba {m:gX}{c:List Int}(hm:pd m)(hc:wB m c)(h:¬(dR m c).1<0):(∀x∈b9 m c,0<=x.u/\x.u<m.needs.length)/\(b9 m c).length<=1000:=by
 obtain⟨⟨h0,_⟩,hM⟩:=hm;obtain⟨h1,h2⟩:=DT hc h0 h;have hl:=hc.1;unfold b9;split
 .rename_i h3;obtain⟨h4,h5⟩:=h2 h3;have hu:=hc.2 (dR m c).1.toNat ae;have h6:=(hM (dR m c).1.toNat ae).2.1 _ (aj (show c[(dR m c).1.toNat]!.toNat<m.needs[(dR m c).1.toNat]!.length by omega)) _ (aj (show(dR m c).2.toNat<m.needs[(dR m c).1.toNat]![c[(dR m c).1.toNat]!.toNat]!.length by omega));exact⟨h6.2,h6.1⟩
 .refine⟨fun x hx=>?_,bh⟩;obtain rfl:=bo.1 hx;exact⟨eF,eF⟩
def oW {m:gX}{c:List Int}(hm:pd m)(hc:wB m c):(∀o∈dt m c,Hw m c o)/\(dt m c).length<=16000:=by
 unfold dt;split
 .exact⟨fun o ho=>(by cases ho),bh⟩
 .rename_i h;obtain⟨h1,h2⟩:=Ba hm hc h;obtain⟨h3,h4⟩:=tV (c:=c) (fun u hu=>(hm.2 u hu).1.2) h1 (b9 m c).length (aE _);exact⟨h3,ae⟩
def gv (f:a8->Option (List Int)):List a8->Option (List Int)
 |[]=>none
 |o::r=>match f o with
  |some c=>some c
  |none=>gv f r
def wR (c:List Int):Nat:=c.countP fun x=>decide (x<0)
def qg (c:List Int)(o:a8):List Int:=c.set o.u.toNat o.m
def A0 (m:gX):Nat->List Int->Option (List Int)
 |0,_=>none
 |f+1,c=>if pL m c=false then none else if(dR m c).1<0 then some c else gv (fun o=>A0 m f (qg c o)) (dt m c)
def ke (m:gX)(c:List Int):Option (List Int):=A0 m (wR c+1) c
def Ai:∀{c:List Int}{i:Nat}{v:Int},i<c.length->c[i]! <0->0<=v->wR (c.set i v)+1=wR c
 |[],i,v,h,_,_=>by simp at h
 |x::r,0,v,_,h1,h2=>by
  have h1:x<0:=h1;simp[wR,List.countP_cons,h1,show ¬v<0 by omega]
 |x::r,i+1,v,h,h1,h2=>by
  have:=Ai (c:=r) (i:=i) (v:=v) (by simpa using h) (by simpa using h1) h2;simp only[wR,List.set_cons_succ,List.countP_cons]at this⊢;omega
def yM {m:gX}{c:List Int}{o:a8}(hc:wB m c)(ho:Hw m c o):wB m (qg c o)/\wR (qg c o)+1=wR c:=by
 obtain⟨h1,h2,h3,h4⟩:=ho;have hl:=hc.1;refine⟨⟨by unfold qg;rw[List.length_set];exact hl,fun u hu=>?_⟩,Ai ae h2 h3⟩;unfold qg;by_cases e:o.u.toNat=u
 .subst e;rw[List.getElem!_eq_getElem?_getD,List.getElem?_set_self ae];exact⟨by dsimp only[Option.getD_some];omega,h4⟩
 .rw[List.getElem!_eq_getElem?_getD,List.getElem?_set_ne e,<-List.getElem!_eq_getElem?_getD];exact hc.2 u hu
def qK {f g:a8->Option (List Int)}:∀{l:List a8},(∀o∈l,f o=g o)->gv f l=gv g l
 |[],_=>rfl
 |o::r,h=>by
  rw[gv,gv,h o (.head _),qK (l:=r) fun o ho=>h o (.tail _ ho)]
def y8 {m:gX}{c:List Int}(hm:pd m)(hc:wB m c):ke m c=if pL m c=false then none else if(dR m c).1<0 then some c else gv (fun o=>ke m (qg c o)) (dt m c):=by
 rw[ke,A0];congr 2;refine qK fun o ho=>?_
 have:=(yM hc ((oW hm hc).1 o ho)).2;rw[ke,this]
def sN {f:a8->Option (List Int)}{d:List Int}:∀{l:List a8},gv f l=some d->∃o∈l,f o=some d
 |[],h=>by cases h
 |o::r,h=>by
  rw[gv]at h;split at h
  .rename_i c e;obtain rfl:=bg h;exact⟨o,.head _,e⟩
  .obtain⟨o',h1,h2⟩:=sN h;exact⟨o',.tail _ h1,h2⟩
def qm {m:gX}(hm:pd m){d:List Int}:∀(f:Nat) (c:List Int),wB m c->A0 m f c=some d->zQ m d=true/\wB m d
 |0,c,_,h=>by cases h
 |f+1,c,hc,h=>by
  rw[A0]at h;split at h
  .cases h
  .rename_i h1;split at h
   .rename_i h2;obtain rfl:=bg h;exact⟨K2 (by simpa using h1) h2,hc⟩
   .obtain⟨o,h3,h4⟩:=sN h;exact qm hm f _ (yM hc ((oW hm hc).1 o h3)).1 h4
def lh (n:Nat):List Int:=List.replicate n (-1)
def yt (us:List bQ):Option (List Int):=ke (eP us) (lh us.length)
def Ix {w:bT}(hw:nH w=true)(hs:∀x∈w.us,x.cands.length<=16)(hf:Mt w.us):pd (eP w.us):=by
 have hpos:0<w.us.length/\w.us.length<=48:=by
  unfold nH at hw;simp only[bm,bL]at hw;omega
 have hn:(eP w.us).needs.length=w.us.length:=by simp[eP,eJ]
 have hb:(eP w.us).bars.length=w.us.length:=by simp[eP,iP]
 have hfu:(eP w.us).full.length=w.us.length:=by simp[eP,eO]
 refine⟨⟨ae,ae,ae,ae⟩,fun u hu=>?_⟩;rw[hn]at hu⊢;have e1:(eP w.us).needs[u]! =eW w.us w.us[u]!.cands:=by unfold eP eJ;dsimp only;rw[List.take_length,j5 hu]
 have e2:(eP w.us).bars[u]! =iY w.us w.us[u]!.cands:=by unfold eP iP;dsimp only;rw[List.take_length,j5 hu]
 have h16:=hs _ (aj hu);rw[e1,e2];refine⟨⟨by simp[eW,iY],by simpa[eW]using h16⟩,fun c hc r hr=>?_,fun r hr x hx=>?_⟩
 .unfold eW at hc;obtain⟨cd,h1,rfl⟩:=ec.1 hc;obtain⟨k,hk,rfl⟩:=List.mem_iff_getElem.1 h1;unfold jz at hr;obtain⟨r0,h2,rfl⟩:=ec.1 hr;have hfw:=(hf _ (aj hu) _ h1).2.2 r0 h2;refine⟨by simpa[eA]using hfw,fun x hx=>?_⟩;unfold eA at hx;obtain⟨y,h3,rfl⟩:=ec.1 hx;exact(C2 hw hu (k:=k) hk).1 r0 (by rw[getElem!_pos w.us[u]!.cands k hk];exact h2) y h3
 .unfold iY at hr;obtain⟨cd,h1,rfl⟩:=ec.1 hr;obtain⟨k,hk,rfl⟩:=List.mem_iff_getElem.1 h1;unfold eA at hx;obtain⟨y,h3,rfl⟩:=ec.1 hx;exact(C2 hw hu (k:=k) hk).2 y (by rw[getElem!_pos w.us[u]!.cands k hk];exact h3)
def vA (us:List bQ):wB (eP us) (lh us.length):=by
 refine⟨by simp[lh,eP,eJ],fun u hu=>?_⟩;have hul:u<us.length:=by simpa[eP,eJ]using hu
 rw[show(lh us.length)[u]! =-1 by unfold lh;simp[hul]];exact⟨b7,ae⟩
def KV {us:List bQ}{c:List Int}(h:wB (eP us) c):ChP us c:=by
 have hn:(eP us).needs.length=us.length:=by simp[eP,eJ]
 refine⟨by rw[h.1,hn],fun u hu=>?_⟩;have h1:=h.2 u ae;have e1:(eP us).needs[u]!.length=us[u]!.cands.length:=by unfold eP eJ;dsimp only;rw[List.take_length,j5 hu];simp[eW]
 rw[e1]at h1;exact h1
def vI {w:bT}{rows:List av}{d:List Int}(hw:nH w=true)(hs:∀x∈w.us,x.cands.length<=16)(hf:Mt w.us)(h:yt w.us=some d):(ig (okW w []) (fun j=>dE ⟨w,[],rows⟩ ((j:Nat):Int)) rows).2=false:=by
 obtain⟨h1,h2⟩:=qm (Ix hw hs hf) _ _ (vA w.us) h;exact HU hs (O0 hw hs (KV h2) h1) (fun u hu=>by cases hu)
def DO:∀o:Option (List Int),MU (Co o)
 |none=>trivial
 |some _=>trivial
def r8 {m:gX}{c:List Int}{b:Bool}(hm:pd m)(hc:wB m c)(h:MM (Co (ke m c)) b):(b=true->ke m c=none)/\(b=false->∃d,ke m c=some d):=by
 cases e:ke m c with
 |none=>rw[e]at h;exact⟨fun _=>rfl,fun hb=>by rw[hb]at h;cases h⟩
 |some d=>
  have h2:=(qm hm _ _ hc e).2.1;have h3:=hm.1.1;refine⟨fun hb=>?_,fun _=>⟨d,rfl⟩⟩;rw[e]at h;have h4:d.map (D.int .i64)=[]:=h hb;have h5:=bS List.length h4;simp only[aK,bK]at h5;omega
def GQ {B:List av}{b:Bool}(h0:0<B.length)(h:MM (.sl 5 (B.map av.D)) b):b=false:=by
 cases b with
 |false=>rfl
 |true=>
  have h4:B.map av.D=[]:=h rfl;have h5:=bS List.length h4;simp only[aK,bK]at h5;omega
def BS {f:a8->Option (List Int)}{l:List a8}{i:Nat}{d:List Int}(hi:i<l.length)(h:f l[i]! =some d):gv f (l.drop i)=some d:=by
 rw[jP hi,gv,<-getElem!_pos l i hi,h]
def zS {f:a8->Option (List Int)}{l:List a8}{i:Nat}(hi:i<l.length)(h:f l[i]! =none):gv f (l.drop i)=gv f (l.drop (i+1)):=by
 rw[jP hi,gv,<-getElem!_pos l i hi,h]
def BR {f:a8->Option (List Int)}{l:List a8}{i:Nat}(hi:l.length<=i):gv f (l.drop i)=none:=by
 rw[mf hi,gv]
def Gk (i:Nat):lh i++[-1]=lh (i+1):=by unfold lh;rw[List.replicate_succ']
def Gl (i:Nat):(lh i).length=i:=by unfold lh;exact List.length_replicate
def Oi (ds:List D):Nat:=match ds.getD 2 .any with
 | .sl _ es=>es.countP fun d=>match d with
  | .int _ x=>decide (x<0)
  |_=>false
 |_=>0
def DM {a b:D}{c:List Int}:Oi [a,b,.sl 1 (c.map (D.int .i64))]=wR c:=by
 show(c.map (D.int .i64)).countP _=_;rw[List.countP_map];rfl
def iTr (a b:List a8):za a=za b↔a=b:=by simp[za,DC]
def iTrL (a b:List (List a8)):a.map za=b.map za↔a=b:=pj iTr a b
def iTrs (a b:List (List a8)):lB a=lB b↔a=b:=by simp[lB,iTrL]
def MG (a b:List (List (List a8))):a.map lB=b.map lB↔a=b:=pj iTrs a b
def RV (a b:List (List (List a8))):kg a=kg b↔a=b:=by simp[kg,MG]
def N8 (a b:List (List (List (List a8)))):a.map kg=b.map kg↔a=b:=pj RV a b
def iMsk (a b:gX):gX.D a=gX.D b↔a=b:=by
 obtain⟨x,y,z⟩:=a;obtain⟨x',y',z'⟩:=b;simp[gX.D,Ga,N8,MG]
def Il (a b:List (List Int)):a.map k9=b.map k9↔a=b:=pj (fun x y=>by simp[k9,Ga]) a b
def iAsk (a b:Ask):Ask.D a=Ask.D b↔a=b:=by
 obtain⟨x,y⟩:=a;obtain⟨x',y'⟩:=b;simp[Ask.D,Ga,Il]
def ca {A:RT->Prop}(h:A (fun ds d=>A fun ds' d'=>ds'=ds->d=d'):=by
 (repeat' first|apply And.intro|intro _)
 all_goals rename_i e
 all_goals (try simp only[sE,D.str.injEq,D.int.injEq,D.bool.injEq,D.sl.injEq,D.ref.injEq,D.agg.injEq,D.fn.injEq,RR,Ga,iByt,iVer,RP,RQ,MF,BX,iSet,MH,BY,MI,Im,RO,MD,RW,DE,iWld,RS,DC,ME,BW,N6,iKey,iTag,iGs,iPrv,iMsk,iAsk,Il,iU8,C5,N7,bz,bC,reduceCtorEq,bY,bX]at e)
 all_goals first|rfl|(simp only[e];done)|simp_all):O7 (uW A):=HZ h
section
section
variable [dq] {P:Program} {ν:List (Nat×Nat)} {cC:List Nat} {t:List (Nat×mi)} {fid n key u k:Nat} {af:aJ} {nx:Nat} {m:List (Nat×bM)} {K:D->St->Prop}
def Ap {a:D}{dv:Nat->D}{kk:Nat}{es:List D}{Q:D->List (Nat×bM)->Prop}(hmix:P.follows .mixedOrders=true)(hC:Bt P ν cC fid af)(hnp:1=af.np)(ha:a.bc=true)(hes:aV es=true)
  (hd:∀j,kv 0 [(j,nx)] (dv j)=some (dv nx)) (hQ:∀d m,Q d m->∃j,d=dv j/\look m j=some (.buf kk es)) (hK:K (dv nx) ⟨nx+1,(nx,.buf kk es)::m⟩)
  (hw:cr ((under t key u).at 0) af.body (lP af Q) (fZ af [a]) ⟨0,[]⟩):lG P ν cC (under t key u) fid [a] ⟨nx,m⟩ K:=by
 refine qO (σi:=[]) (m0:=[]) (cs:=[a]) (fun q=>pF t key u q) hmix hC rfl ?_ hnp rfl (fun _ _ h=>by cases h) (fun _ _ h=>by cases h) hw ?_
 .intro i hi
  match i,hi with
  |0,_=>exact .inl ⟨rfl,ha⟩
 .intro d m1 h;obtain⟨j,rfl,hj⟩:=hQ d m1 h;refine⟨[(j,nx)],j+1,_,_,⟨rfl, ?_,Nat.le_succ _,(fun _ _ h=>by cases h), ?_,(fun _ _ h=>by cases h), ?_⟩,.inr (.inl (hd j)),hK⟩
  .simp[eU]
  .intro i l h;obtain⟨rfl,rfl⟩:=Prod.mk.inj (bo.1 h);exact .inr (aE _)
  .intro l bb h;simp only[look]at h;split at h
   .rename_i e;subst e;obtain rfl:=bg h;exact .inl ⟨j,_,.head _,hj,rfl,.inl ⟨rfl,hes⟩⟩
   .rename_i hn;exact .inr ⟨by simp only[j6,ai hn],(fun _ h=>by cases h),h⟩
end
end
section
section
variable [dq] {P:Program} {ν:List (Nat×Nat)} {cC:List Nat} {t:List (Nat×mi)} {fid key u k:Nat} {af:aJ} {nx:Nat} {m:List (Nat×bM)} {K:D->St->Prop}
def yL {lo kk n n':Nat}{es es':List D}{x y:D}{Q:D->List (Nat×bM)->Prop}(hes:aV es=true)(hes':aV es'=true)(hxn:x.bc=true)(hyn:y.bc=true)(hmix:P.follows .mixedOrders=true)(hC:Bt P ν cC fid af)(hnp:3=af.np)
  (h1:look m lo=some (.buf k es)) (hlo:lo<nx) (hQ:∀d m,Q d m->∃j,d=.own j kk 0 n'/\look m j=some (.buf kk es')) (hK:K (.own nx kk 0 n') ⟨nx+1,(nx,.buf kk es')::ct m lo⟩)
  (hw:cr ((under t key u).at 1) af.body (lP af Q) (fZ af [x,.own 0 k 0 n,y]) ⟨1,[(0,.buf k es)]⟩):lG P ν cC (under t key u) fid [x,.own lo k 0 n,y] ⟨nx,m⟩ K:=by
 have g3:eU 0 1 [(lo,0)]=true:=by simp[eU]
 have g4:∀l i,(l,i)∈[(lo,0)]->look m l≠none:=by
  intro l i h;obtain⟨rfl,rfl⟩:=Prod.mk.inj (bo.1 h);rw[h1];simp
 have g5:∀i b,look [(0,bM.buf k es)] i=some b->∃l b',(l,i)∈[(lo,0)]/\look m l=some b'/\mK 0 [(lo,0)] b' b:=by
  intro i b h;simp only[look]at h;split at h
  .rename_i e;subst e;obtain rfl:=bg h;exact⟨lo,_,.head _,h1,rfl,.inl ⟨rfl,hes⟩⟩
  .cases h
 refine qO (σi:=[(lo,0)]) (cs:=[x,.own 0 k 0 n,y]) (fun q=>pF t key u q) hmix hC rfl ?_ hnp g3 g4 g5 hw ?_
 .intro i hi
  match i,hi with
  |0,_=>exact .inl ⟨rfl,hxn⟩
  |1,_=>exact .inr (.inl (by simp[kv,rr,fH]))
  |2,_=>exact .inl ⟨rfl,hyn⟩
 .intro d m1 h;obtain⟨j,rfl,hj⟩:=hQ d m1 h;refine⟨[(j,nx)],j+1,_,_,⟨g3, ?_,Nat.le_succ _,g4, ?_,g5, ?_⟩,.inr (.inl (by simp[kv,rr,fH])),hK⟩
  .simp[eU]
  .intro i l h;obtain⟨rfl,rfl⟩:=Prod.mk.inj (bo.1 h);exact .inr (aE _)
  .intro l bb h;simp only[look]at h;split at h
   .rename_i e;subst e;obtain rfl:=bg h;exact .inl ⟨j,_,.head _,hj,rfl,.inl ⟨rfl,hes'⟩⟩
   .rename_i hn;rw[gu]at h;split at h
    .cases h
    .rename_i hl;refine .inr ⟨by simp only[j6,ai hn],fun i hi=>?_,h⟩;exact hl (Prod.mk.inj (bo.1 hi)).1
def Hv (w:bT)(facts:List av)(r:Int×List av):D->List (Nat×bM)->Prop:=fun d m=>d=.int .i64 r.1/\∃j,1<=j/\look m 0=some (.buf 3 [kj.D ⟨w,facts,.own j 5 0 r.2.length⟩])/\look m j=some (.buf 5 (r.2.map av.D))
def Am {w:bT}{facts rows:List av}{r:Int×List av}{lp ln:Nat}{m':List (Nat×bM)}(h1:look m lp=some (.buf 3 [kj.D ⟨w,facts,.own ln 5 0 rows.length⟩]))(hlp:lp<nx){d:D}{m1:List (Nat×bM)}(h:Hv w facts r d m1)
  (σi:List (Nat×Nat)) (q:Nat) (m0:List (Nat×bM)) (g3:eU 0 q σi=true) (hmem:(lp,0)∈σi) (g4:∀l i,(l,i)∈σi->look m l≠none) (g5:∀i b,look m0 i=some b->∃l b',(l,i)∈σi/\look m l=some b'/\mK 0 σi b' b)
  (hm':∀l b,l≠lp->l≠nx->look m' l=some b->look m l=some b/\∀i,(l,i)∉σi) (hK:K (.int .i64 r.1) ⟨nx+1,(nx,.buf 5 (r.2.map av.D))::cS m' lp (.buf 3 [kj.D ⟨w,facts,.own nx 5 0 r.2.length⟩])⟩):
  ∃(σo:List (Nat×Nat)) (q1:Nat) (st':St) (vd':D),Fr σi σo q q1 m0 m1 ⟨nx,m⟩ st'/\KK 0 σo d vd'/\K vd' st':=by
 obtain⟨rfl,j,hj1,e0,ej⟩:=h;have a1:=eM (show j≠0 by omega);have a2:=eM (show 0≠j by omega);have a3:=eM (show lp≠nx by omega);have a4:=eM (show nx≠lp by omega);have r1:fH 0 [(0,lp),(j,nx)] j=some nx:=by simp only[fH,a2,cond_false,Nat.beq_refl,cond_true]
 refine⟨[(0,lp),(j,nx)],j+1,_,_,⟨g3, ?_,(Nat.le_succ _:nx<=nx+1),g4, ?_,g5, ?_⟩,.inl ⟨rfl,rfl⟩,hK⟩
 .simp only[eU,List.all_cons,List.all_nil,a1,a2,a3,a4,Bool.not_false,eZ,jQ,Nat.blt,bm,Nat.ble_eq];repeat' first|exact trivial|exact rfl|exact Nat.zero_le _|omega|refine And.intro ?_ ?_
 .intro i l h;simp only[dx,ea,dX,or_false]at h;rcases h with⟨rfl,rfl⟩|⟨rfl,rfl⟩
  .exact .inl hmem
  .exact .inr (aE _)
 .intro l bb h;simp only[look]at h;split at h
  .rename_i e;subst e;obtain rfl:=bg h;exact .inl ⟨j,_,.tail _ (.head _),ej,rfl,.inl ⟨rfl,bW (fun _=>rfl) _⟩⟩
  .rename_i n1;rw[dh]at h;split at h
   .rename_i e;subst e;obtain rfl:=bg h;exact .inl ⟨0,_,.head _,e0,rfl,.inr (.inl (by simp only[kj.D,iA,kv,rr,r1]))⟩
   .rename_i n2;obtain⟨k1,k2⟩:=hm' l bb (fun e=>n2 (by first|exact e|exact e.symm)) (fun e=>n1 (by first|exact e|exact e.symm)) h;exact .inr ⟨by simp only[j6];rw[ai ae,ai ae],k2,k1⟩
def IH {w:bT}{facts rows:List av}{c:List Int}{r:Int×List av}{lp ln lc:Nat}(hmix:P.follows .mixedOrders=true)(hC:Bt P ν cC fid af)(hnp:2=af.np)
  (h1:look m lp=some (.buf 3 [kj.D ⟨w,facts,.own ln 5 0 rows.length⟩])) (h2:look m ln=some (.buf 5 (rows.map av.D))) (h3:look m lc=some (.buf 1 (c.map (D.int .i64)))) (hx:lp<nx/\ln<nx/\lc<nx)
  (hK:K (.int .i64 r.1) ⟨nx+1,(nx,.buf 5 (r.2.map av.D))::cS (ct (ct m ln) lc) lp (.buf 3 [kj.D ⟨w,facts,.own nx 5 0 r.2.length⟩])⟩)
  (hw:cr ((under t key u).at 3) af.body (lP af (Hv w facts r)) (fZ af [.ptr 0 3 0 0,.own 2 1 0 c.length]) ⟨3,[(0,.buf 3 [kj.D ⟨w,facts,.own 1 5 0 rows.length⟩]),(1,.buf 5 (rows.map av.D)),(2,.buf 1 (c.map (D.int .i64)))]⟩):lG P ν cC (under t key u) fid [.ptr lp 3 0 0,.own lc 1 0 c.length] ⟨nx,m⟩ K:=by
 have n1:lp≠ln:=by
  rintro rfl;rw[h1]at h2;exact absurd (bM.buf.inj (bg h2)).1 b7
 have n2:lp≠lc:=by
  rintro rfl;rw[h1]at h3;exact absurd (bM.buf.inj (bg h3)).1 b7
 have n3:ln≠lc:=by
  rintro rfl;rw[h2]at h3;exact absurd (bM.buf.inj (bg h3)).1 b7
 have b1:=eM n1;have b2:=eM n2;have b3:=eM n3;have b4:=eM n1.symm;have b5:=eM n2.symm;have b6:=eM n3.symm;have r1:fH 0 [(lp,0),(ln,1),(lc,2)] ln=some 1:=by simp only[fH,b1,cond_false,Nat.beq_refl,cond_true]
 have g3:eU 0 3 [(lp,0),(ln,1),(lc,2)]=true:=by simp[eU,b1,b2,b3,b4,b5,b6,Nat.blt];exact⟨⟨rfl,rfl⟩,rfl⟩
 have g4:∀l i,(l,i)∈[(lp,0),(ln,1),(lc,2)]->look m l≠none:=by
  intro l i h;simp only[dx,ea,dX,or_false]at h;rcases h with⟨rfl,_⟩|⟨rfl,_⟩|⟨rfl,_⟩<;>simp[h1,h2,h3]
 have g5:∀i b,look [(0,bM.buf 3 [kj.D ⟨w,facts,.own 1 5 0 rows.length⟩]),(1,.buf 5 (rows.map av.D)),(2,.buf 1 (c.map (D.int .i64)))] i=some b->∃l b',(l,i)∈[(lp,0),(ln,1),(lc,2)]/\look m l=some b'/\mK 0 [(lp,0),(ln,1),(lc,2)] b' b:=by
  intro i b h;simp only[look]at h;split at h
  .rename_i e;subst e;obtain rfl:=bg h;exact⟨lp,_,.head _,h1,rfl,.inr (.inl (by simp only[kj.D,iA,kv,rr,r1]))⟩
  .split at h
   .rename_i e;subst e;obtain rfl:=bg h;exact⟨ln,_,.tail _ (.head _),h2,rfl,.inl ⟨rfl,bW (fun _=>rfl) _⟩⟩
   .split at h
    .rename_i e;subst e;obtain rfl:=bg h;exact⟨lc,_,.tail _ (.tail _ (.head _)),h3,rfl,.inl ⟨rfl,bW (fun _=>rfl) _⟩⟩
    .cases h
 refine qO (σi:=[(lp,0),(ln,1),(lc,2)]) (cs:=[.ptr 0 3 0 0,.own 2 1 0 c.length]) (fun q=>pF t key u q) hmix hC rfl ?_ hnp g3 g4 g5 hw fun d m1 h=>Am h1 hx.1 h _ _ _ g3 (.head _) g4 g5 (fun l b hl hl2 h=>?_) hK
 .intro i hi
  match i,hi with
  |0,_=>exact .inr (.inl (by simp[kv,rr,fH]))
  |1,_=>exact .inr (.inl (by simp[kv,rr,fH,b2,b3]))
 .rw[gu]at h;split at h
  .cases h
  .rename_i e1;rw[gu]at h;split at h
   .cases h
   .rename_i e2;refine⟨h,fun i hi=>?_⟩;simp only[dx,ea,dX,or_false]at hi;rcases hi with⟨e,_⟩|⟨e,_⟩|⟨e,_⟩
    .exact hl e
    .exact e2 e
    .exact e1 e
def IG {w:bT}{facts rows:List av}{r:Int×List av}{lp ln:Nat}(hmix:P.follows .mixedOrders=true)(hC:Bt P ν cC fid af)(hnp:2=af.np)
  (h1:look m lp=some (.buf 3 [kj.D ⟨w,facts,.own ln 5 0 rows.length⟩])) (h2:look m ln=some (.buf 5 (rows.map av.D))) (hx:lp<nx/\ln<nx)
  (hK:K (.int .i64 r.1) ⟨nx+1,(nx,.buf 5 (r.2.map av.D))::cS (ct m ln) lp (.buf 3 [kj.D ⟨w,facts,.own nx 5 0 r.2.length⟩])⟩)
  (hw:cr ((under t key u).at 3) af.body (lP af (Hv w facts r)) (fZ af [.ptr 0 3 0 0,.aB]) ⟨3,[(0,.buf 3 [kj.D ⟨w,facts,.own 1 5 0 rows.length⟩]),(1,.buf 5 (rows.map av.D))]⟩):lG P ν cC (under t key u) fid [.ptr lp 3 0 0,.aB] ⟨nx,m⟩ K:=by
 have n1:lp≠ln:=by
  rintro rfl;rw[h1]at h2;exact absurd (bM.buf.inj (bg h2)).1 b7
 have b1:=eM n1;have b4:=eM n1.symm;have r1:fH 0 [(lp,0),(ln,1)] ln=some 1:=by simp only[fH,b1,cond_false,Nat.beq_refl,cond_true]
 have g3:eU 0 3 [(lp,0),(ln,1)]=true:=by simp[eU,b4,Nat.blt];exact rfl
 have g4:∀l i,(l,i)∈[(lp,0),(ln,1)]->look m l≠none:=by
  intro l i h;simp only[dx,ea,dX,or_false]at h;rcases h with⟨rfl,_⟩|⟨rfl,_⟩<;>simp[h1,h2]
 have g5:∀i b,look [(0,bM.buf 3 [kj.D ⟨w,facts,.own 1 5 0 rows.length⟩]),(1,.buf 5 (rows.map av.D))] i=some b->∃l b',(l,i)∈[(lp,0),(ln,1)]/\look m l=some b'/\mK 0 [(lp,0),(ln,1)] b' b:=by
  intro i b h;simp only[look]at h;split at h
  .rename_i e;subst e;obtain rfl:=bg h;exact⟨lp,_,.head _,h1,rfl,.inr (.inl (by simp only[kj.D,iA,kv,rr,r1]))⟩
  .split at h
   .rename_i e;subst e;obtain rfl:=bg h;exact⟨ln,_,.tail _ (.head _),h2,rfl,.inl ⟨rfl,bW (fun _=>rfl) _⟩⟩
   .cases h
 refine qO (σi:=[(lp,0),(ln,1)]) (cs:=[.ptr 0 3 0 0,.aB]) (fun q=>pF t key u q) hmix hC rfl ?_ hnp g3 g4 g5 hw fun d m1 h=>Am h1 hx.1 h _ _ _ g3 (.head _) g4 g5 (fun l b hl hl2 h=>?_) hK
 .intro i hi
  match i,hi with
  |0,_=>exact .inr (.inl (by simp[kv,rr,fH]))
  |1,_=>exact .inl ⟨rfl,rfl⟩
 .rw[gu]at h;split at h
  .cases h
  .rename_i e2;refine⟨h,fun i hi=>?_⟩;simp only[dx,ea,dX,or_false]at hi;rcases hi with⟨e,_⟩|⟨e,_⟩
   .exact hl e
   .exact e2 e
end
def Oh (ds:List D)(st:St):Nat:=match ds with
 |[.ptr l _ _ _,c]=>(match look st.m l with
  |some (.buf _ [.agg (.sl _ us::_)])=>us.length-(match c with
   | .own _ _ _ n=>n
   |_=>0)
  |_=>0)
 |_=>0
def DK {w:bT}{facts:List av}{x:D}{lp lc n nx:Nat}{m:List (Nat×bM)}(h:look m lp=some (.buf 3 [kj.D ⟨w,facts,x⟩])):Oh [.ptr lp 3 0 0,.own lc 1 0 n] ⟨nx,m⟩=w.us.length-n:=by
 simp only[Oh,h,kj.D,aK]
def DJ {w:bT}{facts:List av}{x:D}{lp nx:Nat}{m:List (Nat×bM)}(h:look m lp=some (.buf 3 [kj.D ⟨w,facts,x⟩])):Oh [.ptr lp 3 0 0,.aB] ⟨nx,m⟩=w.us.length:=by
 simp only[Oh,h,kj.D,aK,Nat.sub_zero]
def Ln {w:bT}{facts rows:List av}{c:List Int}:gy 2 1 (c.map (D.int .i64)) (ct [(0,bM.buf 3 [kj.D ⟨w,facts,.own 1 5 0 rows.length⟩]),(1,.buf 5 (rows.map av.D)),(2,.buf 1 (c.map (D.int .i64)))] 2)=[(0,bM.buf 3 [kj.D ⟨w,facts,.own 1 5 0 rows.length⟩]),(1,.buf 5 (rows.map av.D))]:=by
 simp[ct,gy,gY,eD,er,kj.D,jD]
end
section
section
variable [dq] {P:Program} {ν:List (Nat×Nat)} {cC:List Nat} {t:List (Nat×mi)} {fid n key u k:Nat} {af:aJ} {nx:Nat} {m:List (Nat×bM)} {K:D->St->Prop}
def Aw {lo kk n n':Nat}{es es' Z5:List D}{Q:D->List (Nat×bM)->Prop}(hes:aV es=true)(hes':aV es'=true)(has:aV Z5=true)(hmix:P.follows .mixedOrders=true)(hC:Bt P ν cC fid af)(hnp:Z5.length+1=af.np)
  (h1:look m lo=some (.buf k es)) (hlo:lo<nx) (hQ:∀d m,Q d m->∃j,d=.own j kk 0 n'/\look m j=some (.buf kk es')) (hK:K (.own nx kk 0 n') ⟨nx+1,(nx,.buf kk es')::ct m lo⟩)
  (hw:cr ((under t key u).at 1) af.body (lP af Q) (fZ af (.own 0 k 0 n::Z5)) ⟨1,[(0,.buf k es)]⟩):lG P ν cC (under t key u) fid (.own lo k 0 n::Z5) ⟨nx,m⟩ K:=by
 have g3:eU 0 1 [(lo,0)]=true:=by simp[eU]
 have g4:∀l i,(l,i)∈[(lo,0)]->look m l≠none:=by
  intro l i h;obtain⟨rfl,rfl⟩:=Prod.mk.inj (bo.1 h);rw[h1];simp
 have g5:∀i b,look [(0,bM.buf k es)] i=some b->∃l b',(l,i)∈[(lo,0)]/\look m l=some b'/\mK 0 [(lo,0)] b' b:=by
  intro i b h;simp only[look]at h;split at h
  .rename_i e;subst e;obtain rfl:=bg h;exact⟨lo,_,.head _,h1,rfl,.inl ⟨rfl,hes⟩⟩
  .cases h
 refine qO (σi:=[(lo,0)]) (cs:=.own 0 k 0 n::Z5) (fun q=>pF t key u q) hmix hC bh ?_ (by simpa using hnp) g3 g4 g5 hw ?_
 .intro i hi
  match i with
  |0=>exact .inr (.inl (by simp[kv,rr,fH]))
  |i+1=>exact .inl ⟨rfl,cD has i⟩
 .intro d m1 h;obtain⟨j,rfl,hj⟩:=hQ d m1 h;refine⟨[(j,nx)],j+1,_,_,⟨g3, ?_,Nat.le_succ _,g4, ?_,g5, ?_⟩,.inr (.inl (by simp[kv,rr,fH])),hK⟩
  .simp[eU]
  .intro i l h;obtain⟨rfl,rfl⟩:=Prod.mk.inj (bo.1 h);exact .inr (aE _)
  .intro l bb h;simp only[look]at h;split at h
   .rename_i e;subst e;obtain rfl:=bg h;exact .inl ⟨j,_,.head _,hj,rfl,.inl ⟨rfl,hes'⟩⟩
   .rename_i hn;rw[gu]at h;split at h
    .cases h
    .rename_i hl;refine .inr ⟨by simp only[j6,ai hn],fun i hi=>?_,h⟩;exact hl (Prod.mk.inj (bo.1 hi)).1
def yK {lo n:Nat}{es Z5:List D}{v:D}{Q:D->List (Nat×bM)->Prop}(hes:aV es=true)(hv:v.bc=true)(has:aV Z5=true)(hmix:P.follows .mixedOrders=true)(hC:Bt P ν cC fid af)(hnp:Z5.length+1=af.np)
  (h1:look m lo=some (.buf k es)) (hlo:lo<nx) (hQ:∀d m,Q d m->d=v) (hK:K v ⟨nx,ct m lo⟩)
  (hw:cr ((under t key u).at 1) af.body (lP af Q) (fZ af (.own 0 k 0 n::Z5)) ⟨1,[(0,.buf k es)]⟩):lG P ν cC (under t key u) fid (.own lo k 0 n::Z5) ⟨nx,m⟩ K:=by
 have g3:eU 0 1 [(lo,0)]=true:=by simp[eU]
 have g4:∀l i,(l,i)∈[(lo,0)]->look m l≠none:=by
  intro l i h;obtain⟨rfl,rfl⟩:=Prod.mk.inj (bo.1 h);rw[h1];simp
 have g5:∀i b,look [(0,bM.buf k es)] i=some b->∃l b',(l,i)∈[(lo,0)]/\look m l=some b'/\mK 0 [(lo,0)] b' b:=by
  intro i b h;simp only[look]at h;split at h
  .rename_i e;subst e;obtain rfl:=bg h;exact⟨lo,_,.head _,h1,rfl,.inl ⟨rfl,hes⟩⟩
  .cases h
 refine qO (σi:=[(lo,0)]) (cs:=.own 0 k 0 n::Z5) (fun q=>pF t key u q) hmix hC bh ?_ (by simpa using hnp) g3 g4 g5 hw ?_
 .intro i hi
  match i with
  |0=>exact .inr (.inl (by simp[kv,rr,fH]))
  |i+1=>exact .inl ⟨rfl,cD has i⟩
 .intro d m1 h;have hd:=hQ d m1 h;refine⟨[],1,⟨nx,ct m lo⟩,v,⟨g3,rfl,aE _,g4,(fun _ _ h=>by cases h),g5, ?_⟩,.inl ⟨hd.symm,by rw[hd];exact hv⟩,hK⟩;intro l bb h;simp only at h;rw[gu]at h;split at h
  .cases h
  .rename_i hl;refine .inr ⟨rfl,fun i hi=>?_,h⟩;exact hl (Prod.mk.inj (bo.1 hi)).1
def JL {g g':Gs}{xs:List CW}{kk lc:Nat}{E:List D}{v:D}{Q:D->List (Nat×bM)->Prop}(hv:v.bc=true)(hE:aV E=true)(hmix:P.follows .mixedOrders=true)(hC:Bt P ν cC fid af)(hnp:2=af.np)
  (hn:lc≠0/\lc≠10/\lc<nx/\11<=nx) (h0:look m 0=some (.buf 2 [g.D])) (h1:look m lc=some (.buf 8 (xs.map (CW.D 10)))) (h10:look m 10=some (.buf kk E)) (hK:K v ⟨nx,cS m 0 (.buf 2 [g'.D])⟩)
  (hQ:∀d m1,Q d m1->d=v/\look m1 0=some (.buf 2 [g'.D])/\look m1 1=some (.buf 8 (xs.map (CW.D 10)))/\look m1 10=some (.buf kk E))
  (hw:cr ((under t key u).at 11) af.body (lP af Q) (fZ af [.ptr 0 2 0 0,.own 1 8 0 xs.length]) ⟨11,[(0,.buf 2 [g.D]),(1,.buf 8 (xs.map (CW.D 10))),(10,.buf kk E)]⟩):lG P ν cC (under t key u) fid [.ptr 0 2 0 0,.own lc 8 0 xs.length] ⟨nx,m⟩ K:=by
 have b1:=eM hn.1;have b2:=eM hn.2.1;have b3:=eM (Ne.symm hn.1);have b4:=eM (Ne.symm hn.2.1);have r10:fH 0 [(0,0),(lc,1),(10,10)] 10=some 10:=by simp only[fH,b2,cond_false];rfl
 have o10:fH 0 [(0,0),(1,lc),(10,10)] 10=some 10:=rfl;have g3:eU 0 11 [(0,0),(lc,1),(10,10)]=true:=by simp[eU,b1,b2,b3,b4,Nat.blt];exact⟨⟨rfl,rfl⟩,rfl⟩
 have g4:∀l i,(l,i)∈[(0,0),(lc,1),(10,10)]->look m l≠none:=by
  intro l i h;simp only[dx,ea,dX,or_false]at h;rcases h with⟨rfl,_⟩|⟨rfl,_⟩|⟨rfl,_⟩<;>simp[h0,h1,h10]
 have g5:∀i b,look [(0,bM.buf 2 [g.D]),(1,.buf 8 (xs.map (CW.D 10))),(10,.buf kk E)] i=some b->∃l b',(l,i)∈[(0,0),(lc,1),(10,10)]/\look m l=some b'/\mK 0 [(0,0),(lc,1),(10,10)] b' b:=by
  intro i b h;simp only[look]at h;split at h
  .rename_i e;subst e;obtain rfl:=bg h;exact⟨0,_,.head _,h0,rfl,.inl ⟨rfl,rfl⟩⟩
  .split at h
   .rename_i e;subst e;obtain rfl:=bg h;exact⟨lc,_,.tail _ (.head _),h1,rfl,.inr (.inl (du r10 xs))⟩
   .split at h
    .rename_i e;subst e;obtain rfl:=bg h;exact⟨10,_,.tail _ (.tail _ (.head _)),h10,rfl,.inl ⟨rfl,hE⟩⟩
    .cases h
 refine qO (σi:=[(0,0),(lc,1),(10,10)]) (cs:=[.ptr 0 2 0 0,.own 1 8 0 xs.length]) (fun q=>pF t key u q) hmix hC rfl ?_ hnp g3 g4 g5 hw ?_
 .intro i hi
  match i,hi with
  |0,_=>exact .inr (.inl (by simp[kv,rr,fH]))
  |1,_=>exact .inr (.inl (by simp[kv,rr,fH,b3]))
 .intro d m1 h;obtain⟨hd,q0,q1,q10⟩:=hQ d m1 h;refine⟨[(0,0),(1,lc),(10,10)],11,⟨nx,cS m 0 (.buf 2 [g'.D])⟩,v,⟨g3, ?_,aE _,g4, ?_,g5, ?_⟩,.inl ⟨hd.symm,by rw[hd];exact hv⟩,hK⟩
  .simp only[eU,List.all_cons,List.all_nil,b1,b2,b3,b4,Bool.not_false,eZ,jQ,Nat.blt,bm,Nat.ble_eq];repeat' first|exact rfl|exact Nat.zero_le _|omega|refine And.intro ?_ ?_
  .intro i l h;simp only[dx,ea,dX,or_false]at h;rcases h with⟨rfl,rfl⟩|⟨rfl,rfl⟩|⟨rfl,rfl⟩
   .exact .inl (.head _)
   .exact .inl (.tail _ (.head _))
   .exact .inl (.tail _ (.tail _ (.head _)))
  .intro l bb h;simp only at h;rw[dh]at h;split at h
   .rename_i e;subst e;obtain rfl:=bg h;exact .inl ⟨0,_,.head _,q0,rfl,.inl ⟨rfl,rfl⟩⟩
   .rename_i e0;by_cases e1:l=lc
    .subst e1;rw[h1]at h;obtain rfl:=bg h;exact .inl ⟨1,_,.tail _ (.head _),q1,rfl,.inr (.inl (du o10 xs))⟩
    .by_cases e2:l=10
     .subst e2;rw[h10]at h;obtain rfl:=bg h;exact .inl ⟨10,_,.tail _ (.tail _ (.head _)),q10,rfl,.inl ⟨rfl,hE⟩⟩
     .refine .inr ⟨by simp only[j6,ai (fun e=>e0 (Eq.symm e)),ai (fun e=>e1 (Eq.symm e)),ai (fun e=>e2 (Eq.symm e))],fun i hi=>?_,h⟩;simp only[dx,ea,dX,or_false]at hi;rcases hi with⟨h,_⟩|⟨h,_⟩|⟨h,_⟩
      .exact e0 h
      .exact e1 h
      .exact e2 h
end
end
section
def G7:List (Nat×Nat):=[(0,0),(1,1),(2,2),(3,3),(4,4),(5,5),(6,6),(7,7),(8,8),(9,9),(10,10)]
def yu {l i:Nat}(h:(l,i)∈G7):i=l/\l<=10:=by
 simp only[G7,dx,ea,dX,or_false]at h;omega
def La:∀l,l<11->(l,l)∈G7:=b7
def uN {l:Nat}(h:l<=10):(l,l)∈G7:=La l ae
def wh {m:List (Nat×bM)}{g:Gs}{n:Nat}{nm ft:Nat->dy}{cs:Nat->List CW}{kk:Nat}{E:List D}(hn:n<=8)(hE:aV E=true)(h:KO m g n nm ft cs kk E){l:Nat}(h1:1<=l)(h10:l<=10):∃b,(∀m2 g2,KO m2 g2 n nm ft cs kk E->look m2 l=some b)/\mK 0 G7 b b:=by
 rcases cQ l 2 with h2|h2
 .obtain rfl:l=1:=ae;exact⟨_,fun m2 g2 w=>w.2.1,rfl,.inr (.inl (ju _ fun j hj=>eR ae))⟩
 .rcases cQ l 10 with h3|h3
  .obtain⟨j,rfl⟩:∃j,l=2+j:=⟨l-2,ae⟩
   exact⟨_,fun m2 g2 w=>w.2.2.1 j ae,rfl,.inr (.inl (du rfl _))⟩
  .obtain rfl:l=10:=ae;exact⟨_,fun m2 g2 w=>w.2.2.2,rfl,.inl ⟨rfl,hE⟩⟩
section
variable [dq] {P:Program} {ν:List (Nat×Nat)} {cC:List Nat} {t:List (Nat×mi)} {fid key u k:Nat} {af:aJ} {nx:Nat} {m:List (Nat×bM)} {K:D->St->Prop}
def Bc {g g':Gs}{n c:Nat}{nm ft:Nat->dy}{cs:Nat->List CW}{kk:Nat}{E Z5:List D}{v:D}{m0:List (Nat×bM)}{Q:D->List (Nat×bM)->Prop}(hv:v.bc=true)(hE:aV E=true)(has:aV Z5=true)(hn:n<=8)(hmix:P.follows .mixedOrders=true)(hC:Bt P ν cC fid af)(hnp:Z5.length+2=af.np)
  (hx:11<=nx) (hw:KO m g n nm ft cs kk E) (h0:KO m0 g n nm ft cs kk E) (hm0:∀i,11<=i->look m0 i=none) (hK:K v ⟨nx,cS m 0 (.buf 2 [g'.D])⟩) (hQ:∀d m1,Q d m1->d=v/\KO m1 g' n nm ft cs kk E)
  (hwp:cr ((under t key u).at 11) af.body (lP af Q) (fZ af (.ptr 0 2 0 0::.own 1 3 0 c::Z5)) ⟨11,m0⟩):lG P ν cC (under t key u) fid (.ptr 0 2 0 0::.own 1 3 0 c::Z5) ⟨nx,m⟩ K:=by
 have g4:∀l i,(l,i)∈G7->look m l≠none:=by
  intro l i h;obtain⟨_,hl⟩:=yu h;rcases Nat.eq_zero_or_pos l with rfl|hp
  .rw[hw.1];simp
  .obtain⟨b,hb,_⟩:=wh hn hE hw hp hl;rw[hb _ _ hw];simp
 have g5:∀i b,look m0 i=some b->∃l b',(l,i)∈G7/\look m l=some b'/\mK 0 G7 b' b:=by
  intro i b h;rcases cQ i 11 with hi|hi
  .rcases Nat.eq_zero_or_pos i with rfl|hp
   .rw[h0.1]at h;obtain rfl:=bg h;exact⟨0,_,uN ae,hw.1,rfl,.inl ⟨rfl,rfl⟩⟩
   .obtain⟨b2,hb,hr⟩:=wh hn hE hw hp ae;rw[hb _ _ h0]at h;obtain rfl:=bg h;exact⟨i,_,uN ae,hb _ _ hw,hr⟩
  .rw[hm0 i hi]at h;cases h
 refine qO (σi:=G7) (cs:=.ptr 0 2 0 0::.own 1 3 0 c::Z5) (fun q=>pF t key u q) hmix hC rfl ?_ (by simpa using hnp) rfl g4 g5 hwp ?_
 .intro i hi
  match i with
  |0=>exact .inr (.inl rfl)
  |1=>exact .inr (.inl rfl)
  |i+2=>exact .inl ⟨rfl,cD has i⟩
 .intro d m1 h;obtain⟨hd,q⟩:=hQ d m1 h;refine⟨G7,11,⟨nx,cS m 0 (.buf 2 [g'.D])⟩,v,⟨rfl, ?_,aE _,g4, ?_,g5, ?_⟩,.inl ⟨hd.symm,by rw[hd];exact hv⟩,hK⟩
  .simp only[G7,eU,Nat.blt,bm,Nat.ble_eq];repeat' first|exact rfl|exact Nat.zero_le _|omega|refine And.intro ?_ ?_
  .intro i l h;obtain⟨rfl,hl⟩:=yu h;exact .inl (uN hl)
  .intro l bb h;simp only at h;rw[dh]at h;split at h
   .rename_i e;subst e;obtain rfl:=bg h;exact .inl ⟨0,_,uN ae,q.1,rfl,.inl ⟨rfl,rfl⟩⟩
   .rename_i e0;rcases cQ l 11 with hl|hl
    .obtain⟨b2,hb,hr⟩:=wh hn hE hw (show 1<=l by omega) ae;rw[hb _ _ hw]at h;obtain rfl:=bg h;exact .inl ⟨l,_,uN ae,hb _ _ q,hr⟩
    .refine .inr ⟨?_,fun i hi=>by have:=(yu hi).2;omega,h⟩;simp only[G7,j6];repeat(rw[ai ae])
end
end
section
def JM (nx:Nat):List (Nat×Nat):=[(0,0),(1,nx),(2,nx+1),(3,nx+2),(4,nx+3),(5,nx+4),(6,nx+5),(7,nx+6),(8,nx+7),(9,nx+8)]
def L4 {nx l i:Nat}(h:(i,l)∈JM nx):i=0/\l=0\/nx<=l:=by
 simp only[JM,dx,ea,dX,or_false]at h;omega
def OV {nx j:Nat}(h:j<8):fH 0 (JM nx) (2+j)=some (nx+1+j):=by
 match j,h with
 |0,_|1,_|2,_|3,_|4,_|5,_|6,_|7,_=>rfl
def OU {nx j:Nat}(h:j<8):(2+j,nx+1+j)∈JM nx:=by
 match j,h with
 |0,_|1,_|2,_|3,_|4,_|5,_|6,_|7,_=>simp[JM]
def KM {nx:Nat}{us:List RU}(h:us.length<=8):iA 0 (JM nx) (w7 us)=some (Pb (nx+1) us):=by
 unfold w7 UB Pb;have h2:∀j∈List.range us.length,fH 0 (JM nx) (2+j)=some (nx+1+j):=fun j hj=>OV (by have:=List.mem_range.1 hj;omega)
 revert h2;generalize List.range us.length=r;intro h2;induction r with
 |nil=>rfl
 |cons a r ih=>
  have:=h2 a (.head _);simp only[List.map_cons,iA,UD,kv,rr,this,ih fun j hj=>h2 j (.tail _ hj)]
def KN {g:Gs}{us:List RU}{j:Nat}(h:j<8):look (UM g us) (2+j)=some (.buf 8 (us[j]!.cs.map (CW.D 10))):=by
 match j,h with
 |0,_|1,_|2,_|3,_|4,_|5,_|6,_|7,_=>rfl
def HA {nx l:Nat}{us:List RU}{r:List (Nat×bM)}{b:bM}(h:look (Pc nx us++r) l=some b):l=nx/\b=.buf 3 (Pb (nx+1) us)\/(∃j,j<8/\l=nx+1+j/\b=.buf 8 (us[j]!.cs.map (CW.D 10)))\/(l<nx\/nx+8<l)/\look r l=some b:=by
 simp only[Pc,qq,wx,look]at h;split at h
 .exact .inl ⟨ae,(bg h).symm⟩
 split at h
 .exact .inr (.inl ⟨0,b7,ae,(bg h).symm⟩)
 split at h
 .exact .inr (.inl ⟨1,b7,ae,(bg h).symm⟩)
 split at h
 .exact .inr (.inl ⟨2,b7,ae,(bg h).symm⟩)
 split at h
 .exact .inr (.inl ⟨3,b7,ae,(bg h).symm⟩)
 split at h
 .exact .inr (.inl ⟨4,b7,ae,(bg h).symm⟩)
 split at h
 .exact .inr (.inl ⟨5,b7,ae,(bg h).symm⟩)
 split at h
 .exact .inr (.inl ⟨6,b7,ae,(bg h).symm⟩)
 split at h
 .exact .inr (.inl ⟨7,b7,ae,(bg h).symm⟩)
 exact .inr (.inr ⟨ae,h⟩)
def wb (g:Gs)(few:Int):(ek g few).1.length<=8/\∀u∈(ek g few).1,u.pl:=by
 obtain⟨more,e,hm,hl,_,_⟩:=xW (g:=g) (few:=few);rw[e];refine⟨by simp only[tz,cK,List.length_singleton];omega,fun u hu=>?_⟩;rcases List.mem_append.1 hu with h|h
 .obtain rfl:=bo.1 h;intro c hc;obtain rfl:=bo.1 hc;rfl
 .obtain⟨vs,e,_⟩:=hm u h;intro c hc;rw[e]at hc;exact fm vs c hc
def Bd {a b c d e f g h i j k:bM}{l:Nat}(hl:11<=l):look [(0,a),(1,b),(2,c),(3,d),(4,e),(5,f),(6,g),(7,h),(8,i),(9,j),(10,k)] l=none:=by
 simp only[look];repeat rw[ai ae]
section
variable [dq] {P:Program} {ν:List (Nat×Nat)} {cC:List Nat} {t:List (Nat×mi)} {fid key u k:Nat} {af:aJ} {nx:Nat} {m:List (Nat×bM)} {K:D->St->Prop}
def C1 {g g1:Gs}{us:List RU}{Z5:List D}{Q:D->List (Nat×bM)->Prop}(has:aV Z5=true)(hpl:∀u∈us,u.pl)(hl8:us.length<=8)(hmix:P.follows .mixedOrders=true)(hC:Bt P ν cC fid af)(hnp:Z5.length+1=af.np)
  (h0:look m 0=some (.buf 2 [g.D])) (hx:0<nx) (hQ:∀d m1,Q d m1->d=.own 1 3 0 us.length/\m1=UM g1 us) (hK:K (.own nx 3 0 us.length) ⟨nx+9,Pc nx us++cS m 0 (.buf 2 [g1.D])⟩)
  (hw:cr ((under t key u).at 1) af.body (lP af Q) (fZ af (.ptr 0 2 0 0::Z5)) ⟨1,[(0,.buf 2 [g.D])]⟩):lG P ν cC (under t key u) fid (.ptr 0 2 0 0::Z5) ⟨nx,m⟩ K:=by
 have g3:eU 0 1 [(0,0)]=true:=rfl;have g4:∀l i,(l,i)∈[(0,0)]->look m l≠none:=by
  intro l i h;obtain⟨rfl,rfl⟩:=Prod.mk.inj (bo.1 h);rw[h0];simp
 have g5:∀i b,look [(0,bM.buf 2 [g.D])] i=some b->∃l b',(l,i)∈[(0,0)]/\look m l=some b'/\mK 0 [(0,0)] b' b:=by
  intro i b h;simp only[look]at h;split at h
  .rename_i e;subst e;obtain rfl:=bg h;exact⟨0,_,.head _,h0,rfl,.inl ⟨rfl,rfl⟩⟩
  .cases h
 refine qO (σi:=[(0,0)]) (cs:=.ptr 0 2 0 0::Z5) (fun q=>pF t key u q) hmix hC bh ?_ (by simpa using hnp) g3 g4 g5 hw ?_
 .intro i hi
  match i with
  |0=>exact .inr (.inl rfl)
  |i+1=>exact .inl ⟨rfl,cD has i⟩
 .intro d m1 h;obtain⟨rfl,rfl⟩:=hQ d m1 h;refine⟨JM nx,10,⟨nx+9,Pc nx us++cS m 0 (.buf 2 [g1.D])⟩,_,⟨g3, ?_,(Nat.le_add_right _ _:nx<=nx+9),g4, ?_,g5, ?_⟩,.inr (.inl rfl),hK⟩
  .have z:∀i,Nat.beq 0 (i+1)=false:=fun i=>rfl
   simp only[JM,eU,List.all_cons,List.all_nil,bm,eB,Nat.blt,Nat.ble_eq];repeat' first|exact trivial|exact rfl|exact Nat.zero_le _|(exact eM ae)|omega|refine And.intro ?_ ?_
  .intro i l h;rcases L4 h with⟨rfl,rfl⟩|h
   .exact .inl (.head _)
   .exact .inr h
  .intro l bb h5;rcases HA h5 with⟨rfl,rfl⟩|⟨j,hj,rfl,rfl⟩|⟨hl,h6⟩
   .exact .inl ⟨1,.buf 3 (w7 us),by simp[JM],rfl,rfl,.inr (.inl (KM hl8))⟩
   .exact .inl ⟨2+j,_,OU hj,KN hj,rfl,.inl ⟨rfl,jo hpl j⟩⟩
   .clear h5;rw[dh]at h6;split at h6
    .rename_i e;subst e;obtain rfl:=bg h6;exact .inl ⟨0,.buf 2 [g1.D],.head _,rfl,rfl,.inl ⟨rfl,rfl⟩⟩
    .rename_i e0;refine .inr ⟨?_,fun i hi=>?_,h6⟩
     .simp only[JM,j6];repeat(rw[ai ae])
     .obtain⟨e,_⟩:=Prod.mk.inj (bo.1 hi);omega
end
end
end Go.Abs
section
namespace Go.Abs
def ah {p:Prop}(h:p:=by exact rfl):p:=h
def LB {p:Prop}(h:p:=by repeat(first|exact aH.nil|refine aH.un ?_|refine aH.eq cz ?_)):p:=h
def cy {p:Prop}(h:p:=by first|exact rfl|exact bW (fun _=>rfl) _):p:=h
def ov {p:Prop}(h:p:=by repeat(first|exact aH.nil|refine aH.un ?_|refine aH.eq cz ?_|refine aH.nl cz cz ?_)):p:=h
def lX {p:Prop}(h:p:=by repeat' first|exact trivial|exact rfl|refine And.intro ?_ ?_):p:=h
def yN {p:Prop}(h:p:=by repeat' first|exact trivial|exact rfl|exact aE _|refine And.intro ?_ ?_):p:=h
def qqq1 {p:Prop}(h:p:=by repeat(first|exact aD.nil|refine aD.gH cz cz (by first|exact rfl|exact bW (fun _=>rfl) _) ?_|refine aD.ew cz cz cz ?_|refine aD.pT cz cz cz cz ?_)):p:=h
def b0 {p:Prop} [Decidable p]:(decide p=true)=p:=bL
def b1 {p:Prop} [Decidable p]:decide p=false↔¬p:=dA
def b2 (b:Bool):((!b)=true)=(b=false):=eB b
def b3 (b:Bool):((!b)=false)=(b=true):=pG b
def b4 (b:Bool):(¬(b=false))=(b=true):=Bool.not_eq_false b
def b5 (a b:Bool):((a ||b)=true)=(a=true\/b=true):=en a b
def b6 {a b:Bool}:(a ||b)=false↔a=false/\b=false:=iM
end Go.Abs
namespace Go.Abs
abbrev dN (Y:Ctx)(a:aJ)(d:D)(ds:List D):Prop:=cr (Y.at 0) a.body (Pa a d) (fZ a ds) ⟨0,[]⟩
def cV {a:aJ}{d d2:D}{e:Ex}{nx:Nat}{m:List (Nat×bM)}{env:List b8}(h:d2=d)(he:e.home:=by exact trivial)(h1:oy m env a.res:=by exact yN)(h2:Bj a env m:=by exact lX)(h3:J6 a env m=d2:=by exact rfl):Pa a d e env ⟨nx,m⟩:=CR he h1 h2 (h3.trans h)
def cn {a:aJ}{d d2:Bool}{e:Ex}{nx:Nat}{m:List (Nat×bM)}{env:List b8}(h:d2=d)(he:e.home:=by exact trivial)(h1:oy m env a.res:=by exact yN)(h2:Bj a env m:=by exact lX)(h3:J6 a env m=.bool d2:=by exact rfl):Pa a (.bool d) e env ⟨nx,m⟩:=cV (bS _ h) he h1 h2 h3
def de {a:aJ}{d d2:Int}{e:Ex}{nx:Nat}{m:List (Nat×bM)}{env:List b8}(h:d2=d)(he:e.home:=by exact trivial)(h1:oy m env a.res:=by exact yN)(h2:Bj a env m:=by exact lX)(h3:J6 a env m=.int .i64 d2:=by exact rfl):Pa a (.int .i64 d) e env ⟨nx,m⟩:=cV (bS _ h) he h1 h2 h3
def e8 {lo c nx nx2:Nat}{env env2:List b8}{m m2:List (Nat×bM)}(σ:List (Nat×Nat))(hc:nx2=c:=by exact ah)(h:eU lo c σ=true:=by exact ah)(he:aH lo σ env env2:=by exact ov)(hm:aD lo c σ m m2:=by exact qqq1):aP lo env ⟨nx,m⟩ env2 ⟨nx2,m2⟩:=aP.to σ hc h he hm
end Go.Abs
namespace Go.Abs
def gI {lo c l:Nat}{σ:List (Nat×Nat)}{m r:List (Nat×bM)}{b:bM}(h:aD lo c σ m r)(hh:aD lo c σ m [(l,b)]:=by(first|refine aD.gH cz cz (by first|exact rfl|exact bW (fun _=>rfl) _) ?_|refine aD.ew cz cz cz ?_|refine aD.pT cz cz cz cz ?_)<;>exact aD.nil):aD lo c σ m ((l,b)::r):=⟨hh.1,h⟩
end Go.Abs
namespace Go.Abs
section
variable {Y:Ctx} {Q:Ex->List b8->St->Prop}
def cmN {env rs:List b8}:HW env rs []=env:=rfl
def cmC {s p:Nat}{r:List (Nat×Nat)}{env rs env1 env':List b8}{f:Bool}{d:D}(e:cN [] rs (.l p)=⟨f,d⟩)(hs:env.set s ⟨f,d⟩=env1)(h:HW env1 rs r=env'):HW env rs ((s,p)::r)=env':=by
 simp only[HW,e,hs,h]
def rrrg {draw:Bool}{cm:List (Nat×Nat)}{b:AC}{nx nx':Nat}{m:List (Nat×bM)}{rs env fZ env':List b8}(h:cr Y b Q env' ⟨nx',m⟩)
  (he:HW env rs cm=env':=by repeat(first|apply cmC cz (by simp only[List.set_cons_zero,List.set_cons_succ];exact rfl)|with_reducible exact cmN)) (hn:nx+rs.length=nx':=by simp only[bA,bK,Nat.reduceAdd];exact rfl):aI Y draw [] fZ rs nx m (fun vs st'=>cr Y b Q (fT env vs cm) st'):=
 LK h he hn
def rrrh {draw:Bool}{cm:List (Nat×Nat)}{nx nx':Nat}{m:List (Nat×bM)}{rs env fZ env':List b8}(h:Q .normal env' ⟨nx',m⟩)
  (he:HW env rs cm=env':=by repeat(first|apply cmC cz (by simp only[List.set_cons_zero,List.set_cons_succ];exact rfl)|with_reducible exact cmN)) (hn:nx+rs.length=nx':=by simp only[bA,bK,Nat.reduceAdd];exact rfl):aI Y draw [] fZ rs nx m (fun vs st'=>Q .normal (fT env vs cm) st'):=
 LL h he hn
end
def Fam (_:Prop):Type:=Unit
def wI {q:Prop}:Fam q:=()
structure Hid (q:Prop)(f:Fam q):Prop where
 val:q
section
variable {Y:Ctx} {draw b1:Bool} {r:List GI} {env rs:List b8} {nx n0 n1:Nat} {m:List (Nat×bM)} {K:List b8->St->Prop} {g:Option (Nat×Bool)} {x0 x1 x2:Src}
def tg0 {Y:Ctx}{a:AC}{Q:Ex->List b8->St->Prop}{env:List b8}{st:St}(h:cr Y a Q env st):cr Y a Q env st:=h
def tg1 (h:aI Y draw (⟨.mv x0,g⟩::r) env rs nx m K):aI Y draw (⟨.mv x0,g⟩::r) env rs nx m K:=h
def tg2 (h:aI Y draw [] env rs nx m K):aI Y draw [] env rs nx m K:=h
def tg3 (h:aI Y draw (⟨.fa n0 x1,g⟩::r) env rs nx m K):aI Y draw (⟨.fa n0 x1,g⟩::r) env rs nx m K:=h
def tg4 (h:aI Y draw (⟨.ld n0 b1 x2,g⟩::r) env rs nx m K):aI Y draw (⟨.ld n0 b1 x2,g⟩::r) env rs nx m K:=h
def tg5 (h:aI Y draw (⟨.bin .lss x0 x1,g⟩::r) env rs nx m K):aI Y draw (⟨.bin .lss x0 x1,g⟩::r) env rs nx m K:=h
def tg6 (h:aI Y draw (⟨.bin .eql x0 x1,g⟩::r) env rs nx m K):aI Y draw (⟨.bin .eql x0 x1,g⟩::r) env rs nx m K:=h
def tg7 (h:aI Y draw (⟨.bin .add x0 x1,g⟩::r) env rs nx m K):aI Y draw (⟨.bin .add x0 x1,g⟩::r) env rs nx m K:=h
def tg8 (h:aI Y draw (⟨.bin .gtr x0 x1,g⟩::r) env rs nx m K):aI Y draw (⟨.bin .gtr x0 x1,g⟩::r) env rs nx m K:=h
def tg9 (h:aI Y draw (⟨.bin .neq x0 x1,g⟩::r) env rs nx m K):aI Y draw (⟨.bin .neq x0 x1,g⟩::r) env rs nx m K:=h
def tg10 (h:aI Y draw (⟨.bin .leq x0 x1,g⟩::r) env rs nx m K):aI Y draw (⟨.bin .leq x0 x1,g⟩::r) env rs nx m K:=h
def tg11 (h:aI Y draw (⟨.bin .geq x0 x1,g⟩::r) env rs nx m K):aI Y draw (⟨.bin .geq x0 x1,g⟩::r) env rs nx m K:=h
def tg12 (h:aI Y draw (⟨.bin .sub x0 x1,g⟩::r) env rs nx m K):aI Y draw (⟨.bin .sub x0 x1,g⟩::r) env rs nx m K:=h
def tg13 (h:aI Y draw (⟨.ext x0 n1,g⟩::r) env rs nx m K):aI Y draw (⟨.ext x0 n1,g⟩::r) env rs nx m K:=h
def tg14 (h:aI Y draw (⟨.pick x0 x1 (.c (.bool false)),g⟩::r) env rs nx m K):aI Y draw (⟨.pick x0 x1 (.c (.bool false)),g⟩::r) env rs nx m K:=h
def tg15 (h:aI Y draw (⟨.pick x0 (.c (.bool true)) x1,g⟩::r) env rs nx m K):aI Y draw (⟨.pick x0 (.c (.bool true)) x1,g⟩::r) env rs nx m K:=h
def tg16 (h:aI Y draw (⟨.un .not x0,g⟩::r) env rs nx m K):aI Y draw (⟨.un .not x0,g⟩::r) env rs nx m K:=h
def tg17 (h:aI Y draw (⟨.nilck x0,g⟩::r) env rs nx m K):aI Y draw (⟨.nilck x0,g⟩::r) env rs nx m K:=h
def tg18 (h:aI Y draw (⟨.box n0 x1,g⟩::r) env rs nx m K):aI Y draw (⟨.box n0 x1,g⟩::r) env rs nx m K:=h
def tg19 (h:aI Y draw (⟨.ia n0 x1 x2,g⟩::r) env rs nx m K):aI Y draw (⟨.ia n0 x1 x2,g⟩::r) env rs nx m K:=h
def tg20 (h:aI Y draw (⟨.ixS x0 x1,g⟩::r) env rs nx m K):aI Y draw (⟨.ixS x0 x1,g⟩::r) env rs nx m K:=h
def tg21 (h:aI Y draw (⟨.st n0 x1 x2,g⟩::r) env rs nx m K):aI Y draw (⟨.st n0 x1 x2,g⟩::r) env rs nx m K:=h
def tg22 (h:aI Y draw (⟨.len x0,g⟩::r) env rs nx m K):aI Y draw (⟨.len x0,g⟩::r) env rs nx m K:=h
def tg23 (h:aI Y draw (⟨.lenS x0,g⟩::r) env rs nx m K):aI Y draw (⟨.lenS x0,g⟩::r) env rs nx m K:=h
def tg24 (h:aI Y draw (⟨.rng x0,g⟩::r) env rs nx m K):aI Y draw (⟨.rng x0,g⟩::r) env rs nx m K:=h
def tg25 (h:aI Y draw (⟨.s2b x0,g⟩::r) env rs nx m K):aI Y draw (⟨.s2b x0,g⟩::r) env rs nx m K:=h
def tg26 (h:aI Y draw (⟨.mkB,g⟩::r) env rs nx m K):aI Y draw (⟨.mkB,g⟩::r) env rs nx m K:=h
def tg27 (h:aI Y draw (⟨.app n0 x1 x2,g⟩::r) env rs nx m K):aI Y draw (⟨.app n0 x1 x2,g⟩::r) env rs nx m K:=h
end
def ar {p q:Prop}(k:q)(h:Hid q wI->p:=by
 intro h;first
 |((with_reducible refine tg0 ?_);first|with_reducible exact ak h.1|with_reducible exact J3 h.1|with_reducible exact C4 h.1|with_reducible exact O6 h.1|with_reducible exact G6 h.1|with_reducible exact wp_ret h.1|with_reducible exact wp_skip h.1|with_reducible exact C3 h.1|with_reducible exact wp_exit h.1|with_reducible exact Bh h.1 hm|with_reducible exact G5 h.1 hm)
 |((with_reducible refine tg1 ?_);(refine R8 ?_;exact h.1))
 |((with_reducible refine tg2 ?_);first|(refine rrrh ?_;exact h.1)|(refine rrrg ?_;exact h.1))
 |((with_reducible refine tg3 ?_);first|(refine R4 ?_;exact h.1)|(refine R5 ?_;exact h.1))
 |((with_reducible refine tg4 ?_);first|exact ay (.int _ _) h.1|exact ay (.str _) h.1|(refine aS (v:=.str _) ?_;exact h.1)|(refine fP (v:=.str _) ?_;exact h.1)|(refine aS (v:=.int _ _) ?_;exact h.1)|(refine fP (v:=.int _ _) ?_;exact h.1)|exact ay (.sl _ _) h.1|exact ay (.own _ _ _ _) h.1|exact ay (.bool _) h.1|(refine aS (v:=.sl _ _) ?_;exact h.1)|(refine fP (v:=.sl _ _) ?_;exact h.1)|(refine aS (v:=.bool _) ?_;exact h.1)|(refine fP (v:=.bool _) ?_;exact h.1)|exact aX h.1|exact ay .aB h.1)
 |((with_reducible refine tg5 ?_);first|(refine Cv ?_;exact h.1)|(refine OO ?_;exact h.1))
 |((with_reducible refine tg6 ?_);first|(refine OD ?_;exact h.1)|(refine OE ?_;exact h.1))
 |((with_reducible refine tg7 ?_);(refine aC ?_;exact h.1))
 |((with_reducible refine tg8 ?_);first|(refine OH ?_;exact h.1)|(refine OI ?_;exact h.1))
 |((with_reducible refine tg9 ?_);first|(refine OP ?_;exact h.1)|(refine OQ ?_;exact h.1))
 |((with_reducible refine tg10 ?_);first|(refine OM ?_;exact h.1)|(refine ON ?_;exact h.1))
 |((with_reducible refine tg11 ?_);first|(refine OF ?_;exact h.1)|(refine OG ?_;exact h.1))
 |((with_reducible refine tg12 ?_);(refine eS ?_;exact h.1))
 |((with_reducible refine tg13 ?_);first|exact gQ (.int _ _) h.1|exact gQ (.str _) h.1|exact gQ (.bool _) h.1)
 |((with_reducible refine tg14 ?_);(refine R2 ?_;exact h.1))
 |((with_reducible refine tg15 ?_);(refine r_or ?_;exact h.1))
 |((with_reducible refine tg16 ?_);(refine R9 ?_;exact h.1))
 |((with_reducible refine tg17 ?_);first|(refine OR ?_;exact h.1)|(refine OS ?_;exact h.1))
 |((with_reducible refine tg18 ?_);(refine R3 ?_;exact h.1))
 |((with_reducible refine tg19 ?_);first|exact aT _ h.1|exact Jd h.1|exact gE _ h.1|exact OJ h.1)
 |((with_reducible refine tg20 ?_);first|exact Je _ h.1|exact OK h.1)
 |((with_reducible refine tg21 ?_);exact dm _ h.1)
 |((with_reducible refine tg22 ?_);first|exact Jh fun a=>(h.1:_->_) (a rfl rfl)|exact Ji fun a=>(h.1:_->_) (a rfl rfl)|(refine OL ?_;exact h.1))
 |((with_reducible refine tg23 ?_);exact Jj fun a=>(h.1:_->_) (a rfl rfl))
 |((with_reducible refine tg24 ?_);(refine Sc ?_;exact h.1))
 |((with_reducible refine tg25 ?_);(refine Sd ?_;exact h.1))
 |((with_reducible refine tg26 ?_);(refine R6 ?_;exact h.1))
 |((with_reducible refine tg27 ?_);(refine dY ?_;exact h.1))
 |with_reducible exact BQ.normal h.1|with_reducible exact BQ.ret h.1|with_reducible exact LQ.normal h.1|with_reducible exact LQ.out h.1|with_reducible exact LQ.ret h.1|with_reducible exact BQ.out h.1|with_reducible exact Bs.normal h.1|with_reducible exact Bs.ret h.1|with_reducible exact Bu.normal h.1|with_reducible exact Bu.ret h.1|with_reducible exact Bs.out h.1|with_reducible exact Bu.out h.1|with_reducible exact CQ.normal h.1|with_reducible exact CQ.ret h.1|with_reducible exact CQ.other h.1|((with_reducible refine BQ.other ?_ h.1);exact rfl)|((with_reducible refine LQ.other ?_ h.1);exact rfl)|((with_reducible refine Bs.other ?_ h.1);exact rfl)|((with_reducible refine Bu.other ?_ h.1);exact rfl)):p:=h ⟨k⟩
def nk {p q:Prop}(k:q)(h:Hid q wI->p:=by intro h;first|exact Jh fun _=>h.1|exact Jj fun _=>h.1|exact Ji fun _=>h.1):p:=h ⟨k⟩
section
variable {Y:Ctx} {Q:Ex->List b8->St->Prop}
end
def qx:(∀{p:Prop} [Decidable p],(decide p=true)=p)/\(∀{p:Prop} [Decidable p],decide p=false↔¬p)/\(∀b:Bool,((!b)=true)=(b=false))/\(∀b:Bool,((!b)=false)=(b=true))/\(∀b:Bool,(¬(b=false))=(b=true))/\(∀a b:Bool,((a ||b)=true)=(a=true\/b=true))/\(∀{a b:Bool},(a ||b)=false↔a=false/\b=false)/\(∀a b:Bool,((a&&b)=true)=(a=true/\b=true))/\(∀{a b:Bool},(a&&b)=false↔a=false\/b=false)/\(∀b:Bool,(¬(b=true))=(b=false))/\(∀b:Bool,(true&&b)=b)/\∀b:Bool,(b&&true)=b:=
 ⟨bL,dA,eB,pG,Bool.not_eq_false,en,iM,bm,gU,Bool.not_eq_true,jQ,eZ⟩
section
variable {Y:Ctx} {Q:Ex->List b8->St->Prop} {env:List b8} {st:St}
def dd {c:Src}{a b r:AC}{t:Bool}{c1 c2:Prop}(h1:c1->cr Y (.seq a r) Q env st)(h2:c2->cr Y (.seq b r) Q env st)(hc:cN env [] c=⟨true,.bool t⟩:=by exact rfl)(e1:t=true->c1:=by intro h;(try simp only[qx]at h);exact h)(e2:t=false->c2:=by intro h;(try simp only[qx]at h);exact h):cr Y (.seq (.cond c a b) r) Q env st:=bn (fun h=>h1 (e1 h)) (fun h=>h2 (e2 h)) hc
def iE {c:Src}{a b:AC}{t:Bool}{c1 c2:Prop}(h1:c1->cr Y a Q env st)(h2:c2->cr Y b Q env st)(hc:cN env [] c=⟨true,.bool t⟩:=by exact rfl)(e1:t=true->c1:=by intro h;(try simp only[qx]at h);exact h)(e2:t=false->c2:=by intro h;(try simp only[qx]at h);exact h):cr Y (.cond c a b) Q env st:=wp_cond (fun h=>h1 (e1 h)) (fun h=>h2 (e2 h)) hc
end
end Go.Abs
namespace Go.Abs
def aA {p q:Prop}(k:q)(h:Hid q wI->p:=by intro h;(iterate 2 refine ar ?_);exact h.1):p:=h ⟨k⟩
def au {p q:Prop}(k:q)(h:Hid q wI->p:=by intro h;(iterate 3 refine ar ?_);exact h.1):p:=h ⟨k⟩
def aR {p q:Prop}(k:q)(h:Hid q wI->p:=by intro h;(iterate 4 refine ar ?_);exact h.1):p:=h ⟨k⟩
def aF {p q:Prop}(k:q)(h:Hid q wI->p:=by intro h;(iterate 5 refine ar ?_);exact h.1):p:=h ⟨k⟩
def bj {p q:Prop}(k:q)(h:Hid q wI->p:=by intro h;(iterate 6 refine ar ?_);exact h.1):p:=h ⟨k⟩
def cR {p q:Prop}(k:q)(h:Hid q wI->p:=by intro h;(iterate 7 refine ar ?_);exact h.1):p:=h ⟨k⟩
def jr {p q:Prop}(k:q)(h:Hid q wI->p:=by intro h;(iterate 8 refine ar ?_);exact h.1):p:=h ⟨k⟩
def js {p q:Prop}(k:q)(h:Hid q wI->p:=by intro h;(iterate 9 refine ar ?_);exact h.1):p:=h ⟨k⟩
def kF {p q:Prop}(k:q)(h:Hid q wI->p:=by intro h;(iterate 10 refine ar ?_);exact h.1):p:=h ⟨k⟩
def pH {p q:Prop}(k:q)(h:Hid q wI->p:=by intro h;(iterate 11 refine ar ?_);exact h.1):p:=h ⟨k⟩
def lN {p q:Prop}(k:q)(h:Hid q wI->p:=by intro h;(iterate 12 refine ar ?_);exact h.1):p:=h ⟨k⟩
def FB {p q:Prop}(k:q)(h:Hid q wI->p:=by intro h;(iterate 13 refine ar ?_);exact h.1):p:=h ⟨k⟩
def MZ {p q:Prop}(k:q)(h:Hid q wI->p:=by intro h;(iterate 14 refine ar ?_);exact h.1):p:=h ⟨k⟩
def M0 {p q:Prop}(k:q)(h:Hid q wI->p:=by intro h;(iterate 15 refine ar ?_);exact h.1):p:=h ⟨k⟩
def SE {p q:Prop}(k:q)(h:Hid q wI->p:=by intro h;(iterate 16 refine ar ?_);exact h.1):p:=h ⟨k⟩
def SF {p q:Prop}(k:q)(h:Hid q wI->p:=by intro h;(iterate 18 refine ar ?_);exact h.1):p:=h ⟨k⟩
def SG {p q:Prop}(k:q)(h:Hid q wI->p:=by intro h;(iterate 21 refine ar ?_);exact h.1):p:=h ⟨k⟩
def SH {p q:Prop}(k:q)(h:Hid q wI->p:=by intro h;(iterate 26 refine ar ?_);exact h.1):p:=h ⟨k⟩
def SI {p q:Prop}(k:q)(h:Hid q wI->p:=by intro h;(iterate 28 refine ar ?_);exact h.1):p:=h ⟨k⟩
end Go.Abs
namespace Go.Abs
abbrev s0:Src:=.s 0
abbrev s1:Src:=.s 1
abbrev s2:Src:=.s 2
abbrev s3:Src:=.s 3
abbrev s4:Src:=.s 4
abbrev s5:Src:=.s 5
abbrev s6:Src:=.s 6
abbrev s7:Src:=.s 7
abbrev s8:Src:=.s 8
abbrev s9:Src:=.s 9
abbrev iJ:Src:=.s 10
abbrev nM:Src:=.s 11
abbrev mE:Src:=.s 12
abbrev pC:Src:=.s 13
abbrev xO:Src:=.s 14
abbrev D1:Src:=.s 15
abbrev He:Src:=.s 16
abbrev MR:Src:=.s 17
abbrev Pn:Src:=.s 18
abbrev s19:Src:=.s 19
abbrev s20:Src:=.s 20
abbrev l0:Src:=.l 0
abbrev l1:Src:=.l 1
abbrev l2:Src:=.l 2
abbrev l3:Src:=.l 3
abbrev l4:Src:=.l 4
abbrev l5:Src:=.l 5
abbrev l6:Src:=.l 6
abbrev l7:Src:=.l 7
abbrev l8:Src:=.l 8
abbrev l9:Src:=.l 9
abbrev l10:Src:=.l 10
abbrev hZ:Src:=.l 11
abbrev iW:Src:=.l 12
abbrev jT:Src:=.l 13
abbrev lf:Src:=.l 14
abbrev mh:Src:=.l 15
abbrev nK:Src:=.l 16
abbrev qS:Src:=.l 17
abbrev tq:Src:=.l 18
abbrev xo:Src:=.l 19
abbrev Bx:Src:=.l 20
abbrev B2:Src:=.l 21
abbrev B3:Src:=.l 22
abbrev Hb:Src:=.l 23
abbrev Kh:Src:=.l 24
abbrev Ld:Src:=.l 25
abbrev Oc:Src:=.l 26
abbrev Pj:Src:=.l 27
abbrev Pk:Src:=.l 28
abbrev l29:Src:=.l 29
abbrev l30:Src:=.l 30
abbrev l31:Src:=.l 31
abbrev l32:Src:=.l 32
abbrev l33:Src:=.l 33
abbrev l34:Src:=.l 34
abbrev l35:Src:=.l 35
abbrev l36:Src:=.l 36
abbrev l37:Src:=.l 37
abbrev l38:Src:=.l 38
abbrev l39:Src:=.l 39
abbrev gm (x:Src):GI:=⟨.mv x,none⟩
abbrev gn (x:aG):GI:=⟨x,none⟩
abbrev i6 (n:Int):Src:=.c (.int .i64 n)
abbrev cs (s:List UInt8):Src:=.c (.str s)
abbrev gd (x:Src):GI:=⟨.ld 1 false x,none⟩
abbrev gk (n:Nat)(b:Bool)(x:Src):GI:=⟨.ld n b x,none⟩
abbrev gf (n:Nat)(x:Src):GI:=⟨.fa n x,none⟩
abbrev gl (x:Src):GI:=⟨.len x,none⟩
abbrev ga (n:Nat)(x y:Src):GI:=⟨.ia n x y,none⟩
abbrev ge (x:Src)(n:Nat):GI:=⟨.ext x n,none⟩
abbrev gb (n:Nat)(x:Src):GI:=⟨.box n x,none⟩
abbrev gc (x:Src):GI:=⟨.nilck x,none⟩
abbrev gt (n:Nat)(x y:Src):GI:=⟨.st n x y,none⟩
abbrev gx (n:Nat)(x:List Src)(y:List (List Sh)):GI:=⟨.call n x y,none⟩
abbrev rg (x:List GI)(y:List (Nat×Nat)):AC:=.reg false x y
abbrev rt (x:List GI)(y:List (Nat×Nat)):AC:=.reg true x y
abbrev jV (x y:Src):aG:=.bin .lss x y
abbrev fI (x y:Src):aG:=.bin .eql x y
abbrev RF (x y:Src):aG:=.bin .add x y
abbrev fW (x y:Src):aG:=.bin .gtr x y
abbrev lH (x y:Src):aG:=.bin .neq x y
abbrev zC (x y:Src):aG:=.bin .leq x y
abbrev jv (x y:Src):aG:=.bin .geq x y
abbrev uz (x y:Src):aG:=.bin .sub x y
abbrev Df (x y:Src):aG:=.bin .and x y
abbrev dH:Src:=.c (.bool false)
abbrev px:Src:=.c (.bool true)
abbrev cse:Src:=.c (.str [])
abbrev ch:Src:=.c (.int .i64 0)
abbrev cT:Src:=.c (.int .i64 1)
abbrev Bw:Src:=.c (.int .i64 2)
abbrev Io:Src:=.c (.int .i64 3)
abbrev Pg:Src:=.c (.int .i64 4)
abbrev ic5:Src:=.c (.int .i64 5)
abbrev ic6:Src:=.c (.int .i64 6)
abbrev ic8:Src:=.c (.int .i64 8)
abbrev ic9:Src:=.c (.int .i64 9)
abbrev gmt (n:Nat)(x:Src):GI:=⟨.mv x,some (n,true)⟩
abbrev jE (n:Nat)(x:Src):GI:=⟨.ld 1 false x,some (n,true)⟩
abbrev gA (n o:Nat)(x:Src):GI:=⟨.fa o x,some (n,true)⟩
abbrev cI (n:Nat)(x:aG):GI:=⟨x,some (n,true)⟩
abbrev fK (n:Nat)(x:Src):GI:=⟨.mv x,some (n,false)⟩
abbrev kL (n:Nat)(x:Src):GI:=⟨.ld 1 false x,some (n,false)⟩
abbrev kR (n o:Nat)(x:Src):GI:=⟨.fa o x,some (n,false)⟩
abbrev cY (n:Nat)(x:aG):GI:=⟨x,some (n,false)⟩
abbrev sq (a b:AC):AC:=.seq a b
abbrev Kg (x:Src):AC:=.seq (.reg false [⟨.mv x,none⟩] [(1,0)]) .ret
abbrev BV (c x:Src):AC:=.cond c (.seq (.reg false [⟨.mv x,none⟩] [(1,0)]) .ret) .skip
abbrev dK:List (List Sh):=[[.a]]
abbrev ha2:List (List Sh):=[[.a,.a]]
abbrev oQ:List (List Sh):=[[.a,.a,.a,.a,.a]]
abbrev xi:List (List Sh):=[[.a,.a,.a,.a,.a,.a,.a]]
abbrev nJ:List (List Sh):=[[.a],[.a]]
abbrev gr (c x:Src):GI:=⟨.pick c (.c (.bool true)) x,none⟩
abbrev gZ (c x:Src):GI:=⟨.pick c x (.c (.bool false)),none⟩
abbrev Pf (n:Nat)(c x:Src):GI:=⟨.pick c (.c (.bool true)) x,some (n,true)⟩
abbrev Bv (n:Nat)(c x:Src):GI:=⟨.pick c x (.c (.bool false)),some (n,false)⟩
abbrev aM (x y:Src):GI:=⟨.bin .lss x y,none⟩
abbrev cH (x y:Src):GI:=⟨.bin .eql x y,none⟩
abbrev aU (x y:Src):GI:=⟨.bin .add x y,none⟩
abbrev jH (x y:Src):GI:=⟨.bin .gtr x y,none⟩
abbrev dQ (x y:Src):GI:=⟨.bin .neq x y,none⟩
abbrev Cg (x y:Src):GI:=⟨.bin .leq x y,none⟩
abbrev jh (x y:Src):GI:=⟨.bin .geq x y,none⟩
abbrev il (x y:Src):GI:=⟨.bin .sub x y,none⟩
abbrev jG (x y:Src):GI:=⟨.bin .and x y,none⟩
abbrev DL (x y:Src):GI:=⟨.bin .or x y,none⟩
abbrev fE (c:Src)(n:Nat):AC:=.cond c .skip (.exit n)
abbrev i8 (n:Int):Src:=.c (.int .u8 n)
abbrev i3 (n:Int):Src:=.c (.int .i32 n)
abbrev iu (n:Int):Src:=.c (.int .u64 n)
abbrev K8 (x:Src):GI:=⟨.lenS x,none⟩
abbrev m5 (x:Src):GI:=⟨.un .not x,none⟩
abbrev N5 (x y:Src):GI:=⟨.ixS x y,none⟩
abbrev r1 (x:List GI)(a b:Nat):AC:=.reg false x [(a,b)]
abbrev r2 (x:List GI)(a b:Nat):AC:=.reg true x [(a,b)]
abbrev nL:List By:=[⟨1,none⟩]
end Go.Abs
end
namespace Go.Abs
def uk (T:List D->D->Prop):Prop:=∀(s:dy),T [.str s] (.tup [.int .i64 (tu s),.bool (ku s)])
def Np (Y:Ctx):Prop:=uk (cg Y 658)
def uh (T:List D->D->Prop):Prop:=∀(s:dy) (b:Int),(s.length<=1048576)->T [.str s,.int .u8 b] (.sl 1 ((bE s b).map D.str))
def Ku (Y:Ctx):Prop:=uh (cg Y 533)
def um (T:List D->D->Prop):Prop:=∀(t:dy),T [.str t] (.bool (cL t))
def Nq (Y:Ctx):Prop:=um (cg Y 659)
def ud (T:List D->D->Prop):Prop:=∀(n:Int),T [.int .i64 n] (.bool (BT n))
def PH (Y:Ctx):Prop:=ud (cg Y 440)
def EK (T:List D->D->Prop):Prop:=∀(s:dy),(s.length<=1048576)->T [.str s] (.bool (mH s false))
def Nh (Y:Ctx):Prop:=EK (cg Y 442)
def Ff (T:List D->D->Prop):Prop:=∀(x:Int),T [.int .i64 x] (.bool false)
def Qb (Y:Ctx):Prop:=Ff (cg Y 714)
def Fe (T:List D->D->Prop):Prop:=∀(x:dy),T [.str x] (.bool false)
def P9 (Y:Ctx):Prop:=Fe (cg Y 704)
def ug (T:List D->D->Prop):Prop:=∀(a:Int) (b:Int),T [.int .i64 a,.int .i64 b] (.int .i64 (dk a b))
def Kt (Y:Ctx):Prop:=ug (cg Y 532)
def ue (T:List D->D->Prop):Prop:=∀(a:dy) (b:dy),T [.str a,.str b] (.int .i64 (lE a b))
def Nj (Y:Ctx):Prop:=ue (cg Y 516)
def EO (T:List D->D->Prop):Prop:=∀(l:List Int),T [.sl 1 (l.map (D.int .i64))] (.int .i64 (gM (fun i=>l[i]!) 0 l.length))
def Nk (Y:Ctx):Prop:=EO (cg Y 531)
def uf (T:List D->D->Prop):Prop:=∀(v:bd),T [bd.D v] (bd.D (jW v))
def PN (Y:Ctx):Prop:=uf (cg Y 530)
def ui (T:List D->D->Prop):Prop:=∀(a:dy) (b:dy),T [.str a,.str b] (.int .i64 (pn a b))
def PO (Y:Ctx):Prop:=ui (cg Y 534)
def Ni (Y:Ctx):Prop:=uh (cg Y 470)
def EL (T:List D->D->Prop):Prop:=∀(c:Int),T [.int .u8 c] (.bool (di c))
def PJ (Y:Ctx):Prop:=EL (cg Y 454)
def Nr (Y:Ctx):Prop:=uk (cg Y 667)
def Ns (Y:Ctx):Prop:=um (cg Y 668)
def E9 (T:List D->D->Prop):Prop:=∀(t:dy),T [.str t] (.bool (pk t))
def P6 (Y:Ctx):Prop:=E9 (cg Y 666)
def EM (T:List D->D->Prop):Prop:=∀(s:dy) (p:Bool),(s.length<=1048576)->T [.str s,.bool p] (.bool (sY s p))
def PL (Y:Ctx):Prop:=EM (cg Y 456)
def PK (Y:Ctx):Prop:=ud (cg Y 455)
def ub (T:List D->D->Prop):Prop:=∀(v:bd),(v.sm)->T [bd.D v] (.bool (ki v))
def yc (Y:Ctx):Prop:=ub (cg Y 217)
def Hk (Y:Ctx):Prop:=ug (cg Y 630)
def Qp (Y:Ctx):Prop:=ue (cg Y 927)
def Qg (Y:Ctx):Prop:=ui (cg Y 783)
def EZ (T:List D->D->Prop):Prop:=∀(a:dy) (b:dy),(a.length<=1048576/\b.length<=1048576)->T [.str a,.str b] (.int .i64 (se a b))
def PY (Y:Ctx):Prop:=EZ (cg Y 631)
def uc (T:List D->D->Prop):Prop:=∀(a:bd) (b:bd),(a.sm/\b.sm)->T [bd.D a,bd.D b] (.int .i64 (kY a b))
def Nd (Y:Ctx):Prop:=uc (cg Y 424)
def rp (T:List D->D->Prop):Prop:=∀(c:Cut),(c.v.sm)->T [Cut.D c] (.bool (lF c))
def C7 (Y:Ctx):Prop:=rp (cg Y 1086)
def rl (T:List D->D->Prop):Prop:=∀(a:Cut) (b:Cut),(a.v.sm/\b.v.sm)->T [Cut.D a,Cut.D b] (.int .i64 (fY a b))
def wZ (Y:Ctx):Prop:=rl (cg Y 1020)
def rm (T:List D->D->Prop):Prop:=∀(c:Cut) (v:bd),(c.v.sm/\v.sm)->T [Cut.D c,bd.D v] (.bool (gJ c v))
def Mj (Y:Ctx):Prop:=rm (cg Y 1025)
def rk (T:List D->D->Prop):Prop:=∀(s:Span),(s.sm)->T [Span.D s] (.bool (kd s))
def C6 (Y:Ctx):Prop:=rk (cg Y 1019)
def uu (T:List D->D->Prop):Prop:=∀(s:Span) (v:bd),(s.sm/\v.sm)->T [Span.D s,bd.D v] (.bool (lT s v))
def Qo (Y:Ctx):Prop:=uu (cg Y 926)
def ur (T:List D->D->Prop):Prop:=∀(l:List Span),(bP l)->T [.sl 14 (l.map Span.D)] (.bool (lZ l))
def Hm (Y:Ctx):Prop:=ur (cg Y 916)
def uq (T:List D->D->Prop):Prop:=∀(l:List Span) (v:bd),(bP l/\v.sm)->T [.sl 14 (l.map Span.D),bd.D v] (.bool (na l v))
def Qf (Y:Ctx):Prop:=uq (cg Y 782)
def ER (T:List D->D->Prop):Prop:=∀(v:bd),T [bd.D v] (.bool (p7 v))
def Nn (Y:Ctx):Prop:=ER (cg Y 600)
def Fp (T:List D->D->Prop):Prop:=∀(c:Cut),T [Cut.D c] (.bool (jN c))
def Qm (Y:Ctx):Prop:=Fp (cg Y 917)
def uo (T:List D->D->Prop):Prop:=∀(s:bG),(s.sm)->T [bG.D s] (.bool (nb s))
def Kx (Y:Ctx):Prop:=uo (cg Y 770)
def uj (T:List D->D->Prop):Prop:=∀(s:bG) (v:bd),(s.sm/\v.sm)->T [bG.D s,bd.D v] (.bool (ny s v))
def PX (Y:Ctx):Prop:=uj (cg Y 627)
def ES (T:List D->D->Prop):Prop:=T [] (Cut.D mZ)
def Kv (Y:Ctx):Prop:=ES (cg Y 601)
def EU (T:List D->D->Prop):Prop:=T [] (Cut.D qT)
def Kw (Y:Ctx):Prop:=EU (cg Y 603)
def Nl (Y:Ctx):Prop:=uf (cg Y 599)
def Et (T:List D->D->Prop):Prop:=∀(v:bd),T [bd.D v] (Cut.D (lI v))
def Ko (Y:Ctx):Prop:=Et (cg Y 376)
def Eu (T:List D->D->Prop):Prop:=∀(v:bd),T [bd.D v] (Cut.D (tL v))
def Px (Y:Ctx):Prop:=Eu (cg Y 377)
def Fg (T:List D->D->Prop):Prop:=∀(v:bd) (p:Int),(v.sm)->T [bd.D v,.int .i64 p] (.tup [bd.D (fR v p).1,.bool (fR v p).2])
def Qc (Y:Ctx):Prop:=Fg (cg Y 769)
def ET (T:List D->D->Prop):Prop:=∀(v:bd),(v.sm)->T [bd.D v] (.tup [bd.D (iR v).1,.bool (iR v).2])
def PR (Y:Ctx):Prop:=ET (cg Y 602)
def Es (T:List D->D->Prop):Prop:=T [] (bG.D vB)
def Hj (Y:Ctx):Prop:=Es (cg Y 375)
def EP (T:List D->D->Prop):Prop:=T [] (.sl 14 (qp.map Span.D))
def PQ (Y:Ctx):Prop:=EP (cg Y 598)
def Er (T:List D->D->Prop):Prop:=T [] (bG.D wE)
def Na (Y:Ctx):Prop:=Er (cg Y 374)
def Ev (T:List D->D->Prop):Prop:=∀(v:bd),T [bd.D v] (Cut.D (nT v))
def Py (Y:Ctx):Prop:=Ev (cg Y 378)
def Ew (T:List D->D->Prop):Prop:=∀(v:bd),T [bd.D v] (Cut.D (zE v))
def Pz (Y:Ctx):Prop:=Ew (cg Y 379)
def Ef (T:List D->D->Prop):Prop:=∀(v:bd),(v.sm)->T [bd.D v] (bG.D (bV v))
def M4 (Y:Ctx):Prop:=Ef (cg Y 156)
def Bl (T:List D->D->Prop):Prop:=∀(l:List Cut) (c:Cut),((nO l/\c.sm)/\l.length<=10000)->T [.sl 7 (l.map Cut.D),Cut.D c] (.sl 7 ((tf l c).map Cut.D))
def Mi (Y:Ctx):Prop:=Bl (cg Y 1021)
def Fq (T:List D->D->Prop):Prop:=∀(l:List Span),(bP l/\l.length<=2000)->T [.sl 14 (l.map Span.D)] (.sl 7 ((cJ l).map Cut.D))
def Nw (Y:Ctx):Prop:=Fq (cg Y 919)
def Fs (T:List D->D->Prop):Prop:=∀(l:List Span) (f:Cut) (t:Cut),(bP l/\f.sm/\t.sm)->T [.sl 14 (l.map Span.D),Cut.D f,Cut.D t] (.bool (pU l f t))
def Nx (Y:Ctx):Prop:=Fs (cg Y 920)
def Kz (Y:Ctx):Prop:=∀(out:List Span) (f t:Cut),((bP out/\f.sm/\t.sm)/\out.length<=100000)->∀(nx lo:Nat) (m:List (Nat×bM)) (K:D->St->Prop),look m lo=some (.buf 14 (out.map Span.D))->lo<nx->K (.own nx 14 0 (k8 out f t).length) ⟨nx+1,(nx,.buf 14 ((k8 out f t).map Span.D))::ct m lo⟩->Y.tr 921 [.own lo 14 0 out.length,Cut.D f,Cut.D t] ⟨nx,m⟩ K
def Nv (Y:Ctx):Prop:=∀(l:List Span),(bP l/\l.length<=2000)->∀(nx lo:Nat) (m:List (Nat×bM)) (K:D->St->Prop),look m lo=some (.buf 14 (l.map Span.D))->lo<nx->K (.tup [.sl 14 ((om l).1.map Span.D),.bool (om l).2]) ⟨nx,ct m lo⟩->Y.tr 918 [.own lo 14 0 l.length] ⟨nx,m⟩ K
def Fi (T:List D->D->Prop):Prop:=∀(l:List Span),(bP l/\l.length<=2000)->T [.sl 14 (l.map Span.D)] (.sl 14 ((tt l).map Span.D))
def Qe (Y:Ctx):Prop:=Fi (cg Y 772)
section
section
variable {Y:Ctx} {draw:Bool} {r:List GI} {env rs:List b8} {nx:Nat} {m:List (Nat×bM)} {K:List b8->St->Prop} {f:Bool} {g:Option (Nat×Bool)}
def vN {n:Nat}{x:Src}{fx:Bool}{d:D}(k:Nat)(h:aI Y draw r env (⟨f,.fn k [d]⟩::rs) nx m K)(hk:n+4000000=k:=by exact rfl)(hg:GF rs g f:=by first|exact rfl|exact⟨_,_,rfl,rfl⟩)(hx:cN env rs x=⟨fx,d⟩:=by exact rfl)(kx:f=true->fx=true:=by first|exact fun _=>rfl|exact fun h=>h|(intro h;simp_all)):aI Y draw (⟨.mkI n x,g⟩::r) env rs nx m K:=
 cq rfl hg _ (fun hf=>by simp only[aG.dF,hx];exact kx hf) (fun hf=>by simp only[aG.val,hx,hk]) (fun _=>h)
def Ay {x:Src}{fx:Bool}{k:Nat}{cs:List D}(b:Bool)(h:aI Y draw r env (⟨f,.bool b⟩::rs) nx m K)(hx:cN env rs x=⟨fx,.fn k cs⟩:=by exact rfl)(hk:4000000<=k/\k<=4600000:=by decide)(hb:(k==4600000)=b:=by exact rfl)(hg:GF rs g f:=by first|exact rfl|exact⟨_,_,rfl,rfl⟩)(kx:f=true->fx=true:=by first|exact fun _=>rfl|exact fun h=>h|(intro h;simp_all)):aI Y draw (⟨.isI x,g⟩::r) env rs nx m K:=
 cq rfl hg _ (fun hf=>by simp only[aG.dF,hx];exact⟨kx hf,hk⟩) (fun hf=>by simp only[aG.val,hx,hb]) (fun _=>h)
def yU {n:Nat}{z:D}{x:Src}{fx:Bool}{k:Nat}{d:D}(h:aI Y draw r env (⟨f,.tup [d,.bool true]⟩::rs) nx m K)(hx:cN env rs x=⟨fx,.fn k [d]⟩:=by exact rfl)(hk:4000000<=k/\k<=4600000:=by decide)(hb:(k==n+4000000)=true:=by exact rfl)(hg:GF rs g f:=by first|exact rfl|exact⟨_,_,rfl,rfl⟩)(kx:f=true->fx=true:=by first|exact fun _=>rfl|exact fun h=>h|(intro h;simp_all)):aI Y draw (⟨.tas n z x,g⟩::r) env rs nx m K:=
 cq rfl hg _ (fun hf=>by simp only[aG.dF,hx];exact⟨kx hf,hk⟩) (fun hf=>by simp only[aG.val,hx,hb,cond_true,gW]) (fun _=>h)
def si {n:Nat}{z:D}{x:Src}{fx:Bool}{k:Nat}{cs:List D}(h:aI Y draw r env (⟨f,.tup [z,.bool false]⟩::rs) nx m K)(hx:cN env rs x=⟨fx,.fn k cs⟩:=by exact rfl)(hk:4000000<=k/\k<=4600000:=by decide)(hb:(k==n+4000000)=false:=by exact rfl)(hg:GF rs g f:=by first|exact rfl|exact⟨_,_,rfl,rfl⟩)(kx:f=true->fx=true:=by first|exact fun _=>rfl|exact fun h=>h|(intro h;simp_all)):aI Y draw (⟨.tas n z x,g⟩::r) env rs nx m K:=
 cq rfl hg _ (fun hf=>by simp only[aG.dF,hx];exact⟨kx hf,hk⟩) (fun hf=>by simp only[aG.val,hx,hb,cond_false]) (fun _=>h)
def yR {x:Src}{fx:Bool}{k:Nat}{cs Z5:List D}{v:D}(n:Nat)(h:aI Y draw r env (⟨f,v⟩::rs) nx m K)(hc:Y.pre n Z5/\Y.val n Z5=v)(hx:cN env rs x=⟨fx,.fn k cs⟩:=by exact rfl)(hk:(4000000<=k/\k<4600000)/\k-4000000=n:=by decide)(ha:jL m [] cs=Z5:=by exact rfl)(hn:aV cs=true:=by exact rfl)(hg:GF rs g f:=by first|exact rfl|exact⟨_,_,rfl,rfl⟩)(kx:f=true->fx=true:=by first|exact fun _=>rfl|exact fun h=>h|(intro h;simp_all)):aI Y draw (⟨.invk x,g⟩::r) env rs nx m K:=
 fO rfl hg _ (fun hf=>by simp only[aG.dF,hx,hk.2,(dc _ _ _).1,ha];exact⟨kx hf,hk.1,hn,hc.1⟩) (fun hf=>by simp only[aG.val,hx,hk.2,(dc _ _ _).1,ha,hc.2]) m rfl (fun _=>h)
def LF {x:Src}{j:Nat}{w:Bool}(d:D)(h:aI Y draw r env (⟨false,d⟩::rs) nx m K)(hg:GF rs (some (j,w)) false:=by exact⟨_,_,rfl,rfl⟩):aI Y draw (⟨.invk x,some (j,w)⟩::r) env rs nx m K:=
 fO rfl hg d (fun hf=>by cases hf) (fun hf=>by cases hf) m rfl (fun _=>h)
def xF (h:aI Y draw r env (⟨f,.fn 4700000 []⟩::rs) nx m K)(hg:GF rs g f:=by first|exact rfl|exact⟨_,_,rfl,rfl⟩):aI Y draw (⟨.zal,g⟩::r) env rs nx m K:=
 fO rfl hg _ (fun _=>trivial) (fun _=>rfl) m rfl (fun _=>h)
def Jq {p v:Src}{fp fv:Bool}{cs:List D}(h:aI Y draw r env (⟨f,.any⟩::rs) nx m K)(hx:cN env rs p=⟨fp,.fn 4700000 cs⟩:=by exact rfl)(hy:cN env rs v=⟨fv,.agg []⟩:=by exact rfl)(hg:GF rs g f:=by first|exact rfl|exact⟨_,_,rfl,rfl⟩)(kx:f=true->fp=true:=by first|exact fun _=>rfl|exact fun h=>h|(intro h;simp_all))(ky:f=true->fv=true:=by first|exact fun _=>rfl|exact fun h=>h|(intro h;simp_all)):aI Y draw (⟨.zst p v,g⟩::r) env rs nx m K:=
 cq rfl hg _ (fun hf=>by simp only[aG.dF,hx,hy];exact⟨kx hf,ky hf,trivial⟩) (fun _=>rfl) (fun _=>h)
def yQ {n:Nat}{args:List Src}{chk:List (Nat×Nat×Bool×Src)}{Z5:List D}{v:D}{nx':Nat}{m':List (Nat×bM)}(h:aI Y draw r env (⟨true,v⟩::rs) nx' m' K)
  (hc:∀K':D->St->Prop,K' v ⟨nx'+rs.length,m'⟩->Y.tr n Z5 ⟨nx+rs.length,m⟩ K') (hn:nx<=nx')
  (hk:∀c∈chk,wO m' c.2.1 (Src.ev env (rs.reverse.take c.1) c.2.2.2).d/\tS m' c.2.1 c.2.2.1 (Src.ev env (rs.reverse.take c.1) c.2.2.2).d=(rs.reverse.getD c.1 .un).d) (ha:gL (cN env rs) args=Z5:=by exact rfl)
  (ho:sU (cN env rs) args:=by repeat' first|exact trivial|exact rfl|refine And.intro ?_ ?_):aI Y draw (⟨.callL n args chk,none⟩::r) env rs nx m K:=by
 unfold aI at h⊢;show none=none/\sU (Src.ev env rs.reverse) args/\Y.tr n (gL (Src.ev env rs.reverse) args) {nx:=nx+rs.reverse.length,m:=m} _;rw[kJ,ha,List.length_reverse];refine⟨rfl,ho,hc _ ⟨fun c hcc _=>hk c hcc,by simp only;omega, ?_⟩⟩;simp only[Nat.add_sub_cancel];simpa using h
end
def J5 {α:Type}{q:α->D}{xs:List α}{m:List (Nat×bM)}{l k:Nat}{sh:List Sh}(hq:∀x,xV m sh (q x)=q x)(hl:look m l=some (.buf k (xs.map q))):xV m [.sl k sh] (.own l k 0 xs.length)=.sl k (xs.map q):=by
 show D.sl k _=_;simp only[aW,hl,bl,az,List.map_map];congr 1;apply List.map_congr_left;intro x _;have:=hq x;simp only[Function.comp];generalize q x=d at this;cases d<;>exact this
def Ec {α:Type}{q:α->D}{xs:List α}{m:List (Nat×bM)}{l k:Nat}{sh:List Sh}(hq:∀x,Hf m sh (q x))(hl:look m l=some (.buf k (xs.map q))):Hf m [.sl k sh] (.own l k 0 xs.length):=by
 refine⟨by simp only[eg,hl];exact⟨trivial,bh⟩,fun e he=>?_⟩;simp only[aW,hl,bl,az,ec]at he;obtain⟨x,_,rfl⟩:=he;have:=hq x;generalize q x=d at this;cases d<;>exact this
end
def Fh (T:List D->D->Prop):Prop:=∀(a:List Span) (b:List Span),(FG a/\FG b)->T [.sl 14 (a.map Span.D),.sl 14 (b.map Span.D)] (.sl 14 ((Hd a b).map Span.D))
def Qd (Y:Ctx):Prop:=Fh (cg Y 771)
def EV (T:List D->D->Prop):Prop:=∀(a:bG) (b:bG),(BH a/\BH b)->T [bG.D a,bG.D b] (bG.D (IW a b))
def PS (Y:Ctx):Prop:=EV (cg Y 604)
def EW (T:List D->D->Prop):Prop:=∀(a:bG),(BH a)->T [bG.D a] (bG.D (wS a))
def PT (Y:Ctx):Prop:=EW (cg Y 605)
def EJ (T:List D->D->Prop):Prop:=∀(s:dy),(s.length<=1048576)->T [.str s] (.bool (mH s true))
def PI (Y:Ctx):Prop:=EJ (cg Y 441)
def BA (Y:Ctx):Prop:=ub (cg Y 209)
def J7 (T:List D->D->Prop):Prop:=∀(v:Int) (n:Int),(n<=9223372036854775807)->T [.int .i64 v,.int .i64 n] (.int .i64 (jk v n))
def C25 (Y:Ctx):Prop:=J7 (cg Y 25)
def Eh (T:List D->D->Prop):Prop:=∀(l:List Int) (i:Int),T [.sl 1 (l.map (D.int .i64)),.int .i64 i] (.int .i64 (FK l i))
def Pr (Y:Ctx):Prop:=Eh (cg Y 159)
def FC (Y:Ctx):Prop:=∀(g:Gs) (n:Int),(n<=9223372036854775807)->(0<=g.i/\g.i<=1000000)->Y.fp 109 (Gs.D g) [.int .i64 n]/\Y.fv 109 (Gs.D g) [.int .i64 n]=.int .i64 (g.val n)/\Y.fs 109 (Gs.D g) [.int .i64 n]=Gs.D g.bH
def Ee (T:List D->D->Prop):Prop:=T [] (.sl 5 (cM.map bd.D))
def Pq (Y:Ctx):Prop:=Ee (cg Y 112)
def Nb (Y:Ctx):Prop:=∀(g:Gs) (xs:List CW),(((0<=g.i/\g.i<=900000)/\xs.length<=4)/\∀c∈xs,c.v.sm)->∀(kk:Nat) (E:List D),aV E=true->∀(nx lc:Nat) (m:List (Nat×bM)) (K:D->St->Prop),(lc≠0/\lc≠10/\lc<nx/\11<=nx)->look m 0=some (.buf 2 [Gs.D g])->look m lc=some (.buf 8 (xs.map (CW.D 10)))->look m 10=some (.buf kk E)->K (bG.D (tx g (xs.map CW.v))) ⟨nx,cS m 0 (.buf 2 [Gs.D g.bH.bH])⟩->Y.tr 380 [.ptr 0 2 0 0,.own lc 8 0 xs.length] ⟨nx,m⟩ K
def Km (Y:Ctx):Prop:=∀(g:Gs) (n:Nat) (nm ft:Nat->dy) (cs:Nat->List CW) (kk:Nat) (E:List D),aV E=true->((0<=g.i/\g.i<=800000)/\Ho n cs)->∀(nx:Nat) (m:List (Nat×bM)) (K:D->St->Prop),11<=nx->KO m g n nm ft cs kk E->K (Want.D (cG g n (gS cs))) ⟨nx,cS m 0 (.buf 2 [Gs.D g.eu])⟩->Y.tr 157 [.ptr 0 2 0 0,.own 1 3 0 n] ⟨nx,m⟩ K
def M3 (Y:Ctx):Prop:=∀(g:Gs) (n:Nat) (nm ft:Nat->dy) (cs:Nat->List CW) (kk:Nat) (E:List D) (most:Int),aV E=true->((0<=g.i/\g.i<=700000)/\Ho n cs/\(0<=most/\most<=3))->∀(nx:Nat) (m:List (Nat×bM)) (K:D->St->Prop),11<=nx->KO m g n nm ft cs kk E->K (.sl 1 ((ax g n (gS cs) most).1.map dL)) ⟨nx,cS m 0 (.buf 2 [Gs.D (ax g n (gS cs) most).2])⟩->Y.tr 155 [.ptr 0 2 0 0,.own 1 3 0 n,.int .i64 most] ⟨nx,m⟩ K
def M1 (Y:Ctx):Prop:=∀(g:Gs) (few:Int),((0<=g.i/\g.i<=600000)/\few<=1000)->∀(nx:Nat) (m:List (Nat×bM)) (K:D->St->Prop),look m 0=some (.buf 2 [Gs.D g])->0<nx->K (.own nx 3 0 (ek g few).1.length) ⟨nx+9,Pc nx (ek g few).1++cS m 0 (.buf 2 [Gs.D (ek g few).2])⟩->Y.tr 154 [.ptr 0 2 0 0,.int .i64 few] ⟨nx,m⟩ K
def J8 (T:List D->D->Prop):Prop:=∀(ks:List Int) (few:Int),(few<=1000)->T [.sl 1 (ks.map (D.int .i64)),.int .i64 few] (bT.D (dS ks few))
def C36 (Y:Ctx):Prop:=J8 (cg Y 36)
def Kn (Y:Ctx):Prop:=uc (cg Y 295)
def C8 (Y:Ctx):Prop:=rp (cg Y 1087)
def Hh (Y:Ctx):Prop:=rl (cg Y 1024)
def Mm (Y:Ctx):Prop:=rm (cg Y 1055)
def Hg (Y:Ctx):Prop:=rk (cg Y 1023)
def Qw (Y:Ctx):Prop:=uu (cg Y 980)
def Ny (Y:Ctx):Prop:=ur (cg Y 925)
def Ql (Y:Ctx):Prop:=uq (cg Y 861)
def Ft (T:List D->D->Prop):Prop:=∀(c:Cut),T [Cut.D c] (.bool (mF c))
def Qn (Y:Ctx):Prop:=Ft (cg Y 924)
def Nu (Y:Ctx):Prop:=uo (cg Y 780)
def Qa (Y:Ctx):Prop:=uj (cg Y 712)
def EA (T:List D->D->Prop):Prop:=∀(a:Key) (b:Key),T [Key.D a,Key.D b] (.int .i64 (vH a b))
def PA (Y:Ctx):Prop:=EA (cg Y 408)
def EY (T:List D->D->Prop):Prop:=∀(l:List Want) (n:Int),(∀x∈l,x.sm)->T [.sl 3 (l.map Want.D),.int .i64 n] (.bool (nj n l))
def PV (Y:Ctx):Prop:=EY (cg Y 622)
def EB (T:List D->D->Prop):Prop:=∀(c:dI) (n:Int),(c.sm)->T [dI.D c,.int .i64 n] (.bool (nq n c))
def PB (Y:Ctx):Prop:=EB (cg Y 409)
def Ei (T:List D->D->Prop):Prop:=∀(w:bT),(w.sm)->T [bT.D w] (.bool (nH w))
def Ps (Y:Ctx):Prop:=Ei (cg Y 175)
section
section
variable {Y:Ctx} {draw:Bool} {r:List GI} {env rs:List b8} {nx:Nat} {m:List (Nat×bM)} {K:List b8->St->Prop} {g:Option (Nat×Bool)} {f:Bool}
def R7 {x y:Src}{fx fy:Bool}{k k2:IntKind}{a b:Int}(v:Int)(h:aI Y draw r env (⟨f,.int k v⟩::rs) nx m K)(hg:GF rs g f:=by first|exact rfl|exact⟨_,_,rfl,rfl⟩)(hx:cN env rs x=⟨fx,.int k a⟩:=by exact rfl)(hy:cN env rs y=⟨fy,.int k2 b⟩:=by exact rfl)(kx:f=true->fx=true:=by first|exact fun _=>rfl|exact fun h=>h|(intro h;simp_all))(ky:f=true->fy=true:=by first|exact fun _=>rfl|exact fun h=>h|(intro h;simp_all))(hv:f=true->(if b<a then b else a)=v):aI Y draw (⟨.mn x y,g⟩::r) env rs nx m K:=
 cq rfl hg _ (fun hf=>by simp[aG.dF,hx,hy,kx hf,ky hf]) (fun hf=>by simp only[aG.val,hx,hy];rw[hv hf]) (fun _=>h)
end
end
def Ey (T:List D->D->Prop):Prop:=∀(n:Int),(0<=n/\n<=40)->T [.int .i64 n] (.int .i64 (2^n.toNat))
def Kq (Y:Ctx):Prop:=Ey (cg Y 381)
def Eg (T:List D->D->Prop):Prop:=∀(w:bT) (u:Int),(w.sm)->T [bT.D w,.int .i64 u] (.int .i64 (bU w.us u))
def zj (Y:Ctx):Prop:=Eg (cg Y 158)
def EC (T:List D->D->Prop):Prop:=∀(w:bT) (x:Want),(w.sm/\x.sm)->T [bT.D w,Want.D x] (.int .i64 (eQ w.us x))
def Nc (Y:Ctx):Prop:=EC (cg Y 415)
def Ez (T:List D->D->Prop):Prop:=∀(w:bT) (l:List a8) (u:Int),(w.sm)->T [bT.D w,.sl 2 (l.map a8.D),.int .i64 u] (.int .i64 (aQ w.us l u))
def Kr (Y:Ctx):Prop:=Ez (cg Y 406)
def E4 (T:List D->D->Prop):Prop:=∀(c:ba) (u:Int),(c.w.sm)->T [ba.D c,.int .i64 u] (.int .i64 (bU c.w.us u))
def FD (Y:Ctx):Prop:=E4 (cg Y 636)
def E2 (T:List D->D->Prop):Prop:=∀(c:ba) (l:List a8) (u:Int),(c.w.sm)->T [ba.D c,.sl 2 (l.map a8.D),.int .i64 u] (.int .i64 (aQ c.w.us l u))
def Hl (Y:Ctx):Prop:=E2 (cg Y 634)
def E0 (T:List D->D->Prop):Prop:=∀(c:ba) (l:List a8),(c.w.sm/\∀t∈l,uv t.m)->T [ba.D c,.sl 2 (l.map a8.D)] (.bool (fh c.w.us l))
def No (Y:Ctx):Prop:=E0 (cg Y 632)
def Bn (T:List D->D->Prop):Prop:=∀(c:ba) (x:Want),(c.w.sm/\x.sm)->T [ba.D c,Want.D x] (.int .i64 (eQ c.w.us x))
def Hi (Y:Ctx):Prop:=Bn (cg Y 1027)
def FA (T:List D->D->Prop):Prop:=∀(c:ba) (row:av) (k:Int) (x:Want),((c.w.sm/\x.sm)/\0<=k/\k<=30)->T [ba.D c,av.D row,.int .i64 k,Want.D x] (.bool (sQ c.w.us row k x))
def Qv (Y:Ctx):Prop:=FA (cg Y 934)
def Fw (T:List D->D->Prop):Prop:=∀(c:ba) (row:av) (k:Int) (x:Want),((c.w.sm/\x.sm)/\0<=k/\k<=30)->T [ba.D c,av.D row,.int .i64 k,Want.D x] (.bool (sX c.w.us row k x))
def Qr (Y:Ctx):Prop:=Fw (cg Y 930)
def Fv (T:List D->D->Prop):Prop:=∀(x:Want) (c:ba) (row:av) (k:Int),((c.w.sm/\x.sm)/\0<=k/\k<=30)->T [Want.D x,.ref 3 [ba.D c] 0 0,.ref 5 [av.D row] 0 0,.ref 1 [.int .i64 k] 0 0] (.bool (fB true c.w.us row k x))
def Qq (Y:Ctx):Prop:=Fv (cg Y 929)
def Fz (T:List D->D->Prop):Prop:=∀(x:Want) (c:ba) (row:av) (k:Int),((c.w.sm/\x.sm)/\0<=k/\k<=30)->T [Want.D x,.ref 3 [ba.D c] 0 0,.ref 5 [av.D row] 0 0,.ref 1 [.int .i64 k] 0 0] (.bool (fB false c.w.us row k x))
def Qu (Y:Ctx):Prop:=Fz (cg Y 933)
def Bm (T:List D->D->Prop):Prop:=∀(l:List Want) (b:Bool) (c:ba) (row:av) (k:Int),((c.w.sm/\∀x∈l,x.sm)/\0<=k/\k<=30)->T [.sl 3 (l.map Want.D),.fn (bif b then 929 else 933) [.ref 3 [ba.D c] 0 0,.ref 5 [av.D row] 0 0,.ref 1 [.int .i64 k] 0 0]] (.int .i64 (jf (fB b c.w.us row k) l 0))
def Mk (Y:Ctx):Prop:=Bm (cg Y 1026)
def Fu (T:List D->D->Prop):Prop:=∀(l:List Want) (b:Bool) (c:ba) (row:av) (k:Int),((c.w.sm/\∀x∈l,x.sm)/\0<=k/\k<=30)->T [.sl 3 (l.map Want.D),.fn (bif b then 929 else 933) [.ref 3 [ba.D c] 0 0,.ref 5 [av.D row] 0 0,.ref 1 [.int .i64 k] 0 0]] (.bool (l.any (fB b c.w.us row k)))
def Nz (Y:Ctx):Prop:=Fu (cg Y 928)
def Fy (T:List D->D->Prop):Prop:=∀(x:List Want) (c:ba) (row:av) (k:Int),((c.w.sm/\∀w∈x,w.sm)/\0<=k/\k<=30)->T [.sl 3 (x.map Want.D),.ref 3 [ba.D c] 0 0,.ref 5 [av.D row] 0 0,.ref 1 [.int .i64 k] 0 0] (.bool (gF c.w.us row k x))
def Qt (Y:Ctx):Prop:=Fy (cg Y 932)
def Bo (T:List D->D->Prop):Prop:=∀(l:List ko) (c:ba) (row:av) (k:Int),((c.w.sm/\∀r∈l,∀x∈r,x.sm)/\0<=k/\k<=30)->T [.sl 1 (l.map dL),.fn 932 [.ref 3 [ba.D c] 0 0,.ref 5 [av.D row] 0 0,.ref 1 [.int .i64 k] 0 0]] (.int .i64 (jf (gF c.w.us row k) l 0))
def Ml (Y:Ctx):Prop:=Bo (cg Y 1028)
def Fx (T:List D->D->Prop):Prop:=∀(l:List ko) (c:ba) (row:av) (k:Int),((c.w.sm/\∀r∈l,∀x∈r,x.sm)/\0<=k/\k<=30)->T [.sl 1 (l.map dL),.fn 932 [.ref 3 [ba.D c] 0 0,.ref 5 [av.D row] 0 0,.ref 1 [.int .i64 k] 0 0]] (.bool (l.any (gF c.w.us row k)))
def Qs (Y:Ctx):Prop:=Fx (cg Y 931)
def Fk (T:List D->D->Prop):Prop:=∀(c:ba) (row:av) (k:Int) (mild:Bool),((c.w.sm/\0<=row.unit/\row.unit<c.w.us.length)/\0<=k/\k<c.w.us[row.unit.toNat]!.cands.length)->T [ba.D c,av.D row,.int .i64 k,.bool mild] (.bool (lq c.w.us row k.toNat mild))
def Qi (Y:Ctx):Prop:=Fk (cg Y 785)
def Fj (T:List D->D->Prop):Prop:=∀(t:a8) (row:av),T [a8.D t,.ref 5 [av.D row] 0 0] (.bool (decide (t.u=row.unit)))
def Qh (Y:Ctx):Prop:=Fj (cg Y 784)
def EX (T:List D->D->Prop):Prop:=∀(l:List a8) (row:av),T [.sl 2 (l.map a8.D),.fn 784 [.ref 5 [av.D row] 0 0]] (.int .i64 (jf (fun t=>decide (t.u=row.unit)) l 0))
def PU (Y:Ctx):Prop:=EX (cg Y 615)
def E3 (T:List D->D->Prop):Prop:=∀(c:ba) (row:av) (mild:Bool),(c.w.sm/\fh c.w.us row.terms=true)->T [ba.D c,av.D row,.bool mild] (.bool (iD c.w.us row mild))
def P0 (Y:Ctx):Prop:=E3 (cg Y 635)
def rq (T:List D->D->Prop):Prop:=T [.agg []] (.bool true)
def Mn (Y:Ctx):Prop:=rq (cg Y 1178)
def Bp (T:List D->D->Prop):Prop:=∀(b:Bool),T [.agg [.bool b]] (.bool true)
def Mo (Y:Ctx):Prop:=Bp (cg Y 1179)
def Mp (Y:Ctx):Prop:=rq (cg Y 1180)
def Bq (T:List D->D->Prop):Prop:=T [.agg []] (.bool false)
def Mq (Y:Ctx):Prop:=Bq (cg Y 1181)
def E1 (T:List D->D->Prop):Prop:=∀(k:Int),T [.int .i64 k] (xz k)
def PZ (Y:Ctx):Prop:=E1 (cg Y 633)
def E5 (T:List D->D->Prop):Prop:=∀(c:ba) (row:av) (i:Int),((c.w.sm/\RowsIn c.rows)/\i<=c.rows.length)->T [ba.D c,av.D row,.int .i64 i] (.bool (nW c row i))
def P1 (Y:Ctx):Prop:=E5 (cg Y 637)
def EE (T:List D->D->Prop):Prop:=∀(c:ba) (i:Int),(c.w.sm/\RowsIn c.rows)->T [ba.D c,.int .i64 i] (.bool (dE c i))
def PD (Y:Ctx):Prop:=EE (cg Y 425)
def En (T:List D->D->Prop):Prop:=∀(w:bT) (allow:List Int) (rows:List av) (i:Int),(w.sm/\RowsIn rows)->T [bT.D w,.sl 1 (allow.map (D.int .i64)),.sl 5 (rows.map av.D),.int .i64 i] (.bool (dE ⟨w,allow,rows⟩ i))
def M6 (Y:Ctx):Prop:=En (cg Y 198)
def Kb (T:List D->D->Prop):Prop:=∀(w:bT) (allow:List Int) (rows:List av),(w.sm/\RowsIn rows)->T [bT.D w,.sl 1 (allow.map (D.int .i64)),.sl 5 (rows.map av.D)] (.tup [.int .i64 (ig (okW w allow) (fun j=>dE ⟨w,allow,rows⟩ ((j:Nat):Int)) rows).1,.bool (ig (okW w allow) (fun j=>dE ⟨w,allow,rows⟩ ((j:Nat):Int)) rows).2])
def C65 (Y:Ctx):Prop:=Kb (cg Y 65)
def Em (T:List D->D->Prop):Prop:=T [] (bT.D jO)
def Pv (Y:Ctx):Prop:=Em (cg Y 197)
section
def mC:List av:=[⟨1,0,0,0,[⟨0,1⟩]⟩,⟨2,0,0,0,[⟨0,2⟩]⟩,⟨5,0,0,1,[]⟩]
def RI (l:List av):Int×Bool:=ig (okW jO []) (fun j=>dE ⟨jO,[],l⟩ ((j:Nat):Int)) l
set_option maxRecDepth 100000 in
theorem NV:RI mC=(3,true):=by decide+kernel
set_option maxRecDepth 100000 in
theorem NW:RI (mC.drop 1)=(1,false):=by decide+kernel
set_option maxRecDepth 100000 in
theorem NX:dE ⟨jO,[],mC⟩ 2=true:=by decide+kernel
def kU:jO.sm:=by
 intro u hu;simp only[jO,dx,dX,or_false]at hu;rcases hu with rfl|rfl
 .refine⟨b7,fun c hc=>?_⟩;obtain rfl:=bo.1 hc;refine⟨ta,fun r hr x hx=>?_,fun x hx=>by cases hx⟩;obtain rfl:=bo.1 hr;obtain rfl:=bo.1 hx;exact Db
 .exact⟨b7,fun c hc=>by cases hc⟩
def oC:RowsIn mC:=by
 intro r hr t ht;simp only[mC,dx,dX,or_false]at hr;rcases hr with rfl|rfl|rfl
 .obtain rfl:=bo.1 ht;exact⟨b7,b7⟩
 .obtain rfl:=bo.1 ht;exact⟨b7,b7⟩
 .cases ht
def xM:RowsIn (mC.drop 1):=fun r hr=>oC r (List.mem_of_mem_drop hr)
end
def Ka (T:List D->D->Prop):Prop:=T [] (.bool true)
def C63 (Y:Ctx):Prop:=Ka (cg Y 63)
def Ks (Y:Ctx):Prop:=∀(w:bT),(w.sm/\w.us.length<=1000)->∀(nx:Nat) (m:List (Nat×bM)) (K:D->St->Prop),K (.own nx 1 0 w.us.length) ⟨nx+1,(nx,.buf 1 (((lS w.us)).map (D.int .i64)))::m⟩->Y.tr 436 [bT.D w] ⟨nx,m⟩ K
def EG (T:List D->D->Prop):Prop:=∀(w:bT) (ms:List Int),(w.sm/\ms.length<=1000)->T [bT.D w,.sl 1 (ms.map (D.int .i64))] (.tup [.sl 2 ((iQ w.us ms).1.map a8.D),.bool (iQ w.us ms).2])
def Ng (Y:Ctx):Prop:=EG (cg Y 437)
def Eo (T:List D->D->Prop):Prop:=∀(w:bT) (l:List a8),(w.sm/\w.us.length<=1000)->T [bT.D w,.sl 2 (l.map a8.D)] (.tup [.sl 2 ((vl w.us l).1.map a8.D),.bool (vl w.us l).2])
def M8 (Y:Ctx):Prop:=Eo (cg Y 204)
def EI (T:List D->D->Prop):Prop:=∀(w:bT) (a:List a8) (b:List a8) (u:Int),(w.sm/\w.us.length<=1000)->T [bT.D w,.sl 2 (a.map a8.D),.sl 2 (b.map a8.D),.int .i64 u] (.tup [.sl 2 ((gP w.us a b u).1.map a8.D),.bool (gP w.us a b u).2])
def PG (Y:Ctx):Prop:=EI (cg Y 439)
def El (T:List D->D->Prop):Prop:=∀(w:bT) (c:List Int) (u:Int),(w.sm)->T [bT.D w,.sl 1 (c.map (D.int .i64)),.int .i64 u] (.int .i64 (nd w.us c u))
def Pu (Y:Ctx):Prop:=El (cg Y 185)
def E8 (T:List D->D->Prop):Prop:=∀(w:bT) (t:a8) (c:List Int),(w.sm)->T [bT.D w,a8.D t,.sl 1 (c.map (D.int .i64))] (.bool (rN w.us c t))
def P5 (Y:Ctx):Prop:=E8 (cg Y 657)
def E6 (T:List D->D->Prop):Prop:=∀(a:List a8) (b:List a8),T [.sl 2 (a.map a8.D),.sl 2 (b.map a8.D)] (.bool (decide (a=b)))
def P2 (Y:Ctx):Prop:=E6 (cg Y 654)
def E7 (T:List D->D->Prop):Prop:=∀(l:List a8) (u:Int),(l.length<=10000)->T [.sl 2 (l.map a8.D),.int .i64 u] (.sl 2 ((lQ l u).map a8.D))
def P3 (Y:Ctx):Prop:=E7 (cg Y 655)
def zh (T:List D->D->Prop):Prop:=∀(l:List a8),(l.length<=10000)->T [.sl 2 (l.map a8.D)] (.sl 2 ((xQ l).map a8.D))
def P4 (Y:Ctx):Prop:=zh (cg Y 656)
def Ej (T:List D->D->Prop):Prop:=∀(w:bT) (l:List Want),(w.sm/\(∀x∈l,x.sm)/\l.length<=1000)->T [bT.D w,.sl 3 (l.map Want.D)] (.sl 2 ((eA w.us l).map a8.D))
def Pt (Y:Ctx):Prop:=Ej (cg Y 183)
def ED (T:List D->D->Prop):Prop:=∀(c:List Int) (x:a8),(uw c x)->T [.sl 1 (c.map (D.int .i64)),a8.D x] (.bool (sR c x))
def PC (Y:Ctx):Prop:=ED (cg Y 416)
def Ek (T:List D->D->Prop):Prop:=∀(c:List Int) (l:List a8),(∀x∈l,uw c x)->T [.sl 1 (c.map (D.int .i64)),.sl 2 (l.map a8.D)] (.bool (ix c l))
def M5 (Y:Ctx):Prop:=Ek (cg Y 184)
def J9 (T:List D->D->Prop):Prop:=∀(w:bT),((w.sm/\w.us.length<=1000)/\Mt w.us)->T [bT.D w] ((eP w.us).D)
def C46 (Y:Ctx):Prop:=J9 (cg Y 46)
def Fl (T:List D->D->Prop):Prop:=∀(al:List Int) (u:Int) (p:Int),(al=[])->T [.sl 1 (al.map (D.int .i64)),.int .i64 u,.int .i64 p] (.bool true)
def Ky (Y:Ctx):Prop:=Fl (cg Y 829)
def Fo (T:List D->D->Prop):Prop:=∀(l:List a8) (o:a8),T [.sl 2 (l.map a8.D),a8.D o] (.bool (Lp l o))
def Qk (Y:Ctx):Prop:=Fo (cg Y 831)
def Fm (T:List D->D->Prop):Prop:=∀(od:List (List Int)) (u:Int) (n:Nat),(od=[]/\0<=u/\n<=1000)->T [.sl 1 (od.map k9),.int .i64 u,.int .i64 ((n:Nat):Int)] (.sl 1 ((bR n).map (D.int .i64)))
def Qj (Y:Ctx):Prop:=Fm (cg Y 830)
def Fa (T:List D->D->Prop):Prop:=∀(m:gX) (al:List Int) (c:List Int),((pd m/\wB m c)/\al=[])->T [gX.D m,.sl 1 (al.map (D.int .i64)),.sl 1 (c.map (D.int .i64))] (.bool (pL m c))
def P7 (Y:Ctx):Prop:=Fa (cg Y 692)
def Fb (T:List D->D->Prop):Prop:=∀(m:gX) (al:List Int) (c:List Int),((pd m/\wB m c)/\al=[])->T [gX.D m,.sl 1 (al.map (D.int .i64)),.sl 1 (c.map (D.int .i64))] (.tup [.int .i64 (dR m c).1,.int .i64 (dR m c).2])
def Nt (Y:Ctx):Prop:=Fb (cg Y 693)
def Fc (T:List D->D->Prop):Prop:=∀(m:gX) (al:List Int) (od:List (List Int)) (c:List Int),((pd m/\wB m c)/\al=[]/\od=[])->T [gX.D m,.sl 1 (al.map (D.int .i64)),.sl 1 (od.map k9),.sl 1 (c.map (D.int .i64))] (.sl 2 ((dt m c).map a8.D))
def P8 (Y:Ctx):Prop:=Fc (cg Y 694)
section
section
variable {Y:Ctx} {draw:Bool} {r:List GI} {env rs:List b8} {nx:Nat} {m:List (Nat×bM)} {K:List b8->St->Prop} {g:Option (Nat×Bool)} {f:Bool}
def yS {x:Src}{ng:Bool}{d:D}(h:∀b,MM d b->aI Y draw r env (⟨true,.bool (bif ng then !b else b)⟩::rs) nx m K)(hg:GF rs g true:=by first|exact rfl|exact⟨_,_,rfl,rfl⟩)(hx:cN env rs x=⟨true,d⟩:=by exact rfl)(hs:MU d:=by exact trivial):aI Y draw (⟨.isNl x ng,g⟩::r) env rs nx m K:=by
 unfold aI;show tj rs.reverse g/\(flag rs.reverse g=true->(Src.ev env rs.reverse x).ok=true/\MU (Src.ev env rs.reverse x).d/\∀b,MM (Src.ev env rs.reverse x).d b->_)/\(flag rs.reverse g=false->_);obtain⟨hg1,hg2⟩:=hg.flag;rw[kJ,hx];refine⟨hg2,fun _=>⟨rfl,hs,fun b hb=>?_⟩,fun hh=>by rw[hg1]at hh;cases hh⟩;have:=h b hb;unfold aI at this;simpa using this
def LG {x:Src}{ng:Bool}(h:aI Y draw r env (⟨false,.any⟩::rs) nx m K)(hg:GF rs g false:=by exact⟨_,_,rfl,rfl⟩):aI Y draw (⟨.isNl x ng,g⟩::r) env rs nx m K:=by
 unfold aI;show tj rs.reverse g/\(flag rs.reverse g=true->(Src.ev env rs.reverse x).ok=true/\MU (Src.ev env rs.reverse x).d/\∀b,MM (Src.ev env rs.reverse x).d b->_)/\(flag rs.reverse g=false->_);obtain⟨hg1,hg2⟩:=hg.flag;refine⟨hg2,fun hh=>(by rw[hg1]at hh;cases hh),fun _=>?_⟩;unfold aI at h;simpa using h
def Sb {c a:Src}{fc t:Bool}(h:aI Y draw r env (⟨f,.bool true⟩::rs) nx m K)(hg:GF rs g f:=by first|exact rfl|exact⟨_,_,rfl,rfl⟩)(hc:cN env rs c=⟨fc,.bool t⟩:=by exact rfl)(kc:f=true->fc=true:=by exact fun _=>rfl)(ht:t=true:=by exact rfl):aI Y draw (⟨.pick c (.c (.bool true)) a,g⟩::r) env rs nx m K:=by
 subst ht;refine cq rfl hg _ (fun hf=>?_) (fun hf=>?_) (fun _=>h)
 .simp only[aG.dF,hc];exact⟨kc hf,⟨fun _=>rfl,fun h=>absurd h bh⟩⟩
 .simp only[aG.val,hc];have:cN env rs (.c (.bool true))=⟨true,.bool true⟩:=rfl;rw[this];cases(cN env rs a).d<;>rfl
end
end
def EN (T:List D->D->Prop):Prop:=∀(m:gX) (a:Ask) (c:List Int),((pd m/\wB m c)/\a=⟨[],[]⟩)->T [gX.D m,Ask.D a,.sl 1 (c.map (D.int .i64))] (Co (ke m c))
def PM (Y:Ctx):Prop:=EN (cg Y 505)
def Ms (Y:Ctx)(u:Nat):Prop:=∀(m:gX) (a:Ask) (c:List Int),((pd m/\wB m c)/\a=⟨[],[]⟩)->wR c<u->Y.pre 505 [gX.D m,Ask.D a,.sl 1 (c.map (D.int .i64))]/\Y.val 505 [gX.D m,Ask.D a,.sl 1 (c.map (D.int .i64))]=Co (ke m c)
def Ep (T:List D->D->Prop):Prop:=∀(w:bT) (a:Ask),((((w.sm/\w.us.length<=1000)/\Mt w.us)/\nH w=true)/\a=⟨[],[]⟩)->T [bT.D w,Ask.D a] (Co (yt w.us))
def Pw (Y:Ctx):Prop:=Ep (cg Y 267)
def EH (T:List D->D->Prop):Prop:=∀(p:kj) (c:List Int),(p.w.sm)->T [.ref 3 [kj.D p] 0 0,.sl 1 (c.map (D.int .i64))] (.int .i64 (kH p.w.us p.facts c))
def PF (Y:Ctx):Prop:=EH (cg Y 438)
def M9 (Y:Ctx):Prop:=(∀(w:bT) (al:List Int) (facts:List av) (c:List Int) (rows:List av),tc w al facts c rows->∀(nx lp ln lc:Nat) (m:List (Nat×bM)) (K:D->St->Prop),look m lp=some (.buf 3 [kj.D ⟨w,facts,.own ln 5 0 rows.length⟩])->look m ln=some (.buf 5 (rows.map av.D))->look m lc=some (.buf 1 (c.map (D.int .i64)))->(lp<nx/\ln<nx/\lc<nx)->K (.int .i64 (eL w.us facts c rows).1) ⟨nx+1,(nx,.buf 5 ((eL w.us facts c rows).2.map av.D))::cS (ct (ct m ln) lc) lp (.buf 3 [kj.D ⟨w,facts,.own nx 5 0 (eL w.us facts c rows).2.length⟩])⟩->Y.tr 205 [.ptr lp 3 0 0,.own lc 1 0 c.length] ⟨nx,m⟩ K)/\(∀(w:bT) (al:List Int) (facts:List av) (rows:List av),tc w al facts [] rows->∀(nx lp ln:Nat) (m:List (Nat×bM)) (K:D->St->Prop),look m lp=some (.buf 3 [kj.D ⟨w,facts,.own ln 5 0 rows.length⟩])->look m ln=some (.buf 5 (rows.map av.D))->(lp<nx/\ln<nx)->K (.int .i64 (eL w.us facts [] rows).1) ⟨nx+1,(nx,.buf 5 ((eL w.us facts [] rows).2.map av.D))::cS (ct m ln) lp (.buf 3 [kj.D ⟨w,facts,.own nx 5 0 (eL w.us facts [] rows).2.length⟩])⟩->Y.tr 205 [.ptr lp 3 0 0,.aB] ⟨nx,m⟩ K)
def Mr (Y:Ctx)(u:Nat):Prop:=(∀(w:bT) (al:List Int) (facts:List av) (c:List Int) (rows:List av),tc w al facts c rows->(w.us.length-c.length)<u->∀(nx lp ln lc:Nat) (m:List (Nat×bM)) (K:D->St->Prop),look m lp=some (.buf 3 [kj.D ⟨w,facts,.own ln 5 0 rows.length⟩])->look m ln=some (.buf 5 (rows.map av.D))->look m lc=some (.buf 1 (c.map (D.int .i64)))->(lp<nx/\ln<nx/\lc<nx)->K (.int .i64 (eL w.us facts c rows).1) ⟨nx+1,(nx,.buf 5 ((eL w.us facts c rows).2.map av.D))::cS (ct (ct m ln) lc) lp (.buf 3 [kj.D ⟨w,facts,.own nx 5 0 (eL w.us facts c rows).2.length⟩])⟩->Y.tr 205 [.ptr lp 3 0 0,.own lc 1 0 c.length] ⟨nx,m⟩ K)/\(∀(w:bT) (al:List Int) (facts:List av) (rows:List av),tc w al facts [] rows->w.us.length<u->∀(nx lp ln:Nat) (m:List (Nat×bM)) (K:D->St->Prop),look m lp=some (.buf 3 [kj.D ⟨w,facts,.own ln 5 0 rows.length⟩])->look m ln=some (.buf 5 (rows.map av.D))->(lp<nx/\ln<nx)->K (.int .i64 (eL w.us facts [] rows).1) ⟨nx+1,(nx,.buf 5 ((eL w.us facts [] rows).2.map av.D))::cS (ct m ln) lp (.buf 3 [kj.D ⟨w,facts,.own nx 5 0 (eL w.us facts [] rows).2.length⟩])⟩->Y.tr 205 [.ptr lp 3 0 0,.aB] ⟨nx,m⟩ K)
def Nf (Y:Ctx):Prop:=∀(w:bT) (rows:List av) (r:av),((w.sm/\w.us.length<=48)/\((∀x∈rows,x.terms.length<=48)/\rows.length<=10000000)/\r.terms.length<=48)->∀(nx lo:Nat) (m:List (Nat×bM)) (K:D->St->Prop),look m lo=some (.buf 5 (rows.map av.D))->lo<nx->K (.own nx 5 0 (m9 w.us rows r).length) ⟨nx+1,(nx,.buf 5 ((m9 w.us rows r).map av.D))::ct m lo⟩->Y.tr 435 [bT.D w,.own lo 5 0 rows.length,av.D r] ⟨nx,m⟩ K
def EF (T:List D->D->Prop):Prop:=∀(w:bT) (u:Nat) (k:Nat) (l:List Want) (bar:Bool),((w.sm/\w.us.length<=1000)/\(∀x∈l,x.sm)/\l.length<=1000/\k<=30)->T [bT.D w,.int .i64 ((u:Nat):Int),.int .i64 ((k:Nat):Int),.sl 3 (l.map Want.D),.bool bar] (.tup [.sl 2 ((ed w.us u k l bar).1.map a8.D),.bool (ed w.us u k l bar).2])
def PE (Y:Ctx):Prop:=EF (cg Y 434)
def M7 (Y:Ctx):Prop:=∀(w:bT),O9 w->∀(nx:Nat) (m:List (Nat×bM)) (K:D->St->Prop),K (.own nx 5 0 (lR w.us).length) ⟨nx+1,(nx,.buf 5 ((lR w.us).map av.D))::m⟩->Y.tr 203 [bT.D w] ⟨nx,m⟩ K
def Kd (T:List D->D->Prop):Prop:=∀(w:bT) (allow:List Int),(O9 w)->T [bT.D w,.sl 1 (allow.map (D.int .i64))] (IL (m8 w.us allow))
def C66 (Y:Ctx):Prop:=Kd (cg Y 66)
def shR (n:Nat)(r:av):av:=⟨r.kind,r.unit,r.a+n,r.b+n,r.terms⟩
def mvR (n:Nat)(r:av):av:=if r.kind=5 then shR n r else r
def po (n:Nat)(L:List av)(i:Nat)(R:List av):Prop:=R.length=L.length/\∀k,k<L.length->R[k]! =if n<=k/\k<i then mvR n L[k]! else L[k]!
def po.start (n:Nat)(L:List av):po n L n L:=⟨rfl,fun k hk=>by rw[ai ae]⟩
def po.at {n i:Nat}{L R:List av}(h:po n L i R)(hi:i<L.length):R[i]! =L[i]! :=by rw[h.2 i hi,ai ae]
def po.step {n i:Nat}{L R:List av}(h:po n L i R)(hn:n<=i)(hi:i<L.length)(hk:R[i]!.kind=5):po n L (i+1) (R.set i (shR n R[i]!)):=by
 refine⟨by rw[List.length_set];exact h.1,fun k hk2=>?_⟩;have e:=h.at hi;rw[AX (by rw[h.1];exact hk2)];split
 .rename_i e2;subst e2;rw[aw ae,e,mvR,aw (by rw[<-e];exact hk)]
 .rw[h.2 k hk2];by_cases q:n<=k/\k<i
  .rw[aw q,aw ae]
  .rw[ai q,ai ae]
def po.skip {n i:Nat}{L R:List av}(h:po n L i R)(hi:i<L.length)(hk:R[i]!.kind≠5):po n L (i+1) R:=by
 refine⟨h.1,fun k hk2=>?_⟩;have e:=h.at hi;rw[h.2 k hk2];by_cases q:k=i
 .subst q;rw[ai ae];split
  .rw[mvR,ai (by rw[<-e];exact hk)]
  .rfl
 .by_cases q2:n<=k/\k<i
  .rw[aw q2,aw ae]
  .rw[ai q2,ai ae]
def DP:∀o:Option (List av),MU (IL o)
 |none=>trivial
 |some l=>trivial
def Br (T:List D->D->Prop):Prop:=∀(a:List Int) (b:List Int),T [.sl 1 (a.map (D.int .i64)),.sl 1 (b.map (D.int .i64))] (.bool true)
def bO {t:List (Nat×mi)}{key u q:Nat}:((under t key u).at q).cP:=pF t key u q
section
def Po (T:FT):Prop:=∀(g:Gs) (n:Int),(n<=9223372036854775807)->(0<=g.i/\g.i<=1000000)->T (Gs.D g) [.int .i64 n] (.int .i64 (g.val n)) (Gs.D g.bH)
def Qy:BB (uV Po):=RJ
def u505:List D->Nat:=Oi
def N2:O7 (uW zh):=HZ (by intro l _ l2 _ e;simp only[sE,D.sl.injEq,DC,bz,bC]at e;rw[e])
def Qz:O7 (uW Br):=ca
def bD:List (Nat×mi):=[(25,rP 1 J7),(36,rP 15 J8),(46,rP 13 J9),(63,rP 24 Ka),(65,rP 23 Kb),(66,rP 14 Kd),(109,rF 2 Po),(112,rP 1 Ee),(154,rG 3 M1),(155,rG 14 M3),(156,rP 8 Ef),(157,rG 13 Km),(158,rP 2 Eg),(159,rP 1 Eh),(175,rP 12 Ei),(183,rP 12 Ej),(184,rP 2 Ek),(185,rP 2 El),(197,rP 4 Em),(198,rP 22 En),(203,rG 13 M7),(204,rP 4 Eo),(205,rG 5 M9 (Oh)),(209,rP 4 ub),(217,rP 4 ub),(267,rP 14 Ep),(295,rP 5 uc),(374,rP 3 Er),(375,rP 1 Es),(376,rP 2 Et),(377,rP 2 Eu),(378,rP 3 Ev),(379,rP 7 Ew),(380,rG 12 Nb),(381,rP 1 Ey),(406,rP 3 Ez),(408,rP 3 EA),(409,rP 11 EB),(415,rP 11 EC),(416,rP 1 ED),(424,rP 5 uc),(425,rP 21 EE),(434,rP 12 EF),(435,rG 4 Nf),(436,rG 3 Ks),(437,rP 3 EG),(438,rP 4 EH),(439,rP 4 EI),(440,rP 1 ud),(441,rP 3 EJ),(442,rP 2 EK),(454,rP 1 EL),(455,rP 1 ud),(456,rP 3 EM),(470,rP 1 uh),(505,rP 5 EN u505),(516,rP 2 ue),(530,rP 1 uf),(531,rP 1 EO),(532,rP 2 ug),(533,rP 1 uh),(534,rP 3 ui),(598,rP 2 EP),(599,rP 1 uf),(600,rP 1 ER),(601,rP 1 ES),(602,rP 6 ET),(603,rP 1 EU),(604,rP 11 EV),(605,rP 10 EW),(615,rP 2 EX),(622,rP 10 EY),(627,rP 10 uj),(630,rP 1 ug),(631,rP 4 EZ),(632,rP 2 E0),(633,rP 1 E1),(634,rP 2 E2),(635,rP 20 E3),(636,rP 1 E4),(637,rP 3 E5),(654,rP 1 E6),(655,rP 1 E7),(656,rP 1 zh),(657,rP 3 E8),(658,rP 1 uk),(659,rP 1 um),(666,rP 1 E9),(667,rP 2 uk),(668,rP 1 um),(692,rP 3 Fa),(693,rP 3 Fb),(694,rP 4 Fc),(704,rP 1 Fe),(712,rP 10 uj),(714,rP 1 Ff),(769,rP 5 Fg),(770,rP 9 uo),(771,rP 10 Fh),(772,rP 9 Fi),(780,rP 9 uo),(782,rP 9 uq),(783,rP 3 ui),(784,rP 1 Fj),(785,rP 19 Fk),(829,rP 1 Fl),(830,rP 1 Fm),(831,rP 1 Fo),(861,rP 9 uq),(916,rP 8 ur),(917,rP 2 Fp),(918,rG 9 Nv),(919,rP 8 Fq),(920,rP 7 Fs),(921,rG 7 Kz),(924,rP 1 Ft),(925,rP 8 ur),(926,rP 8 uu),(927,rP 1 ue),(928,rP 15 Fu),(929,rP 13 Fv),(930,rP 12 Fw),(931,rP 18 Fx),(932,rP 16 Fy),(933,rP 13 Fz),(934,rP 12 FA),(980,rP 8 uu),(1019,rP 7 rk),(1020,rP 6 rl),(1021,rP 7 Bl),(1023,rP 7 rk),(1024,rP 6 rl),(1025,rP 6 rm),(1026,rP 14 Bm),(1027,rP 11 Bn),(1028,rP 17 Bo),(1055,rP 6 rm),(1086,rP 5 rp),(1087,rP 5 rp),(1178,rP 1 rq),(1179,rP 1 Bp),(1180,rP 1 rq),(1181,rP 1 Bq),(1212,rP 25 Br)]
variable {k u v:Nat}
def G25 (hk:1<k:=by decide):C25 (under bD k u):=fun v n hp0=>dM ca (.inl hk) fun T hT=>hT v n hp0
def G36 (hk:15<k:=by decide):C36 (under bD k u):=fun ks few hp0=>dM ca (.inl hk) fun T hT=>hT ks few hp0
def G46 (hk:13<k:=by decide):C46 (under bD k u):=fun w hp0=>dM ca (.inl hk) fun T hT=>hT w hp0
def G63 (hk:24<k:=by decide):C63 (under bD k u):=dM ca (.inl hk) fun T hT=>hT
def G65 (hk:23<k:=by decide):C65 (under bD k u):=fun w allow rows hp0=>dM ca (.inl hk) fun T hT=>hT w allow rows hp0
def G66 (hk:14<k:=by decide):C66 (under bD k u):=fun w allow hp0=>dM ca (.inl hk) fun T hT=>hT w allow hp0
def Hs (hk:2<k:=by decide):FC (under bD k u):=fun g n hp0 hp1=>okf Qy hk fun T h=>h g n hp0 hp1
def G112 (hk:1<k:=by decide):Pq (under bD k u):=dM ca (.inl hk) fun T hT=>hT
def G154 (hk:3<k:=by decide):M1 (under bD k u):=fun g few hp0 nx m K h0 hx hK=>Gq (.inl hk) fun T _ h=>h g few hp0 nx m K h0 hx hK
def G155 (hk:14<k:=by decide):M3 (under bD k u):=fun g n nm ft cs kk E most hE hp0 nx m K hx hW hK=>Gq (.inl hk) fun T _ h=>h g n nm ft cs kk E most hE hp0 nx m K hx hW hK
def QK (hk:8<k:=by decide):M4 (under bD k u):=fun v hp0=>dM ca (.inl hk) fun T hT=>hT v hp0
def QL (hk:13<k:=by decide):Km (under bD k u):=fun g n nm ft cs kk E hE hp0 nx m K hx hW hK=>Gq (.inl hk) fun T _ h=>h g n nm ft cs kk E hE hp0 nx m K hx hW hK
def zn (hk:2<k:=by decide):zj (under bD k u):=fun w u hp0=>dM ca (.inl hk) fun T hT=>hT w u hp0
def G159 (hk:1<k:=by decide):Pr (under bD k u):=fun l i=>dM ca (.inl hk) fun T hT=>hT l i
def G175 (hk:12<k:=by decide):Ps (under bD k u):=fun w hp0=>dM ca (.inl hk) fun T hT=>hT w hp0
def G183 (hk:12<k:=by decide):Pt (under bD k u):=fun w l hp0=>dM ca (.inl hk) fun T hT=>hT w l hp0
def QM (hk:2<k:=by decide):M5 (under bD k u):=fun c l hp0=>dM ca (.inl hk) fun T hT=>hT c l hp0
def G185 (hk:2<k:=by decide):Pu (under bD k u):=fun w c u hp0=>dM ca (.inl hk) fun T hT=>hT w c u hp0
def G197 (hk:4<k:=by decide):Pv (under bD k u):=dM ca (.inl hk) fun T hT=>hT
def QN (hk:22<k:=by decide):M6 (under bD k u):=fun w allow rows i hp0=>dM ca (.inl hk) fun T hT=>hT w allow rows i hp0
def G203 (hk:13<k:=by decide):M7 (under bD k u):=fun w hp0 nx m K hK=>Gq (.inl hk) fun T _ h=>h w hp0 nx m K hK
def QO (hk:4<k:=by decide):M8 (under bD k u):=fun w l hp0=>dM ca (.inl hk) fun T hT=>hT w l hp0
def G205 (hk:5<k:=by decide):M9 (under bD k u):=⟨fun w al facts c rows hp nx lp ln lc m K h1 h2 h3 hx hK=>Gq (.inl hk) fun T _ h=>h.1 w al facts c rows hp nx lp ln lc m K h1 h2 h3 hx hK,fun w al facts rows hp nx lp ln m K h1 h2 hx hK=>Gq (.inl hk) fun T _ h=>h.2 w al facts rows hp nx lp ln m K h1 h2 hx hK⟩
def Mx (hv:v<=u):Mr (under bD 5 u) v:=⟨fun w al facts c rows hp hu nx lp ln lc m K h1 h2 h3 hx hK=>Gq (.inr ⟨rfl,by rw[show(lk bD 205 lD).muE=Oh from rfl,DK h1];exact jq hu hv⟩) fun T _ h=>h.1 w al facts c rows hp nx lp ln lc m K h1 h2 h3 hx hK,fun w al facts rows hp hu nx lp ln m K h1 h2 hx hK=>Gq (.inr ⟨rfl,by rw[show(lk bD 205 lD).muE=Oh from rfl,DJ h1];exact jq hu hv⟩) fun T _ h=>h.2 w al facts rows hp nx lp ln m K h1 h2 hx hK⟩
def FF (hk:4<k:=by decide):BA (under bD k u):=fun v hp0=>dM ca (.inl hk) fun T hT=>hT v hp0
def zo (hk:4<k:=by decide):yc (under bD k u):=fun v hp0=>dM ca (.inl hk) fun T hT=>hT v hp0
def G267 (hk:14<k:=by decide):Pw (under bD k u):=fun w a hp0=>dM ca (.inl hk) fun T hT=>hT w a hp0
def NA (hk:5<k:=by decide):Kn (under bD k u):=fun a b hp0=>dM ca (.inl hk) fun T hT=>hT a b hp0
def QP (hk:3<k:=by decide):Na (under bD k u):=dM ca (.inl hk) fun T hT=>hT
def KB (hk:1<k:=by decide):Hj (under bD k u):=dM ca (.inl hk) fun T hT=>hT
def NB (hk:2<k:=by decide):Ko (under bD k u):=fun v=>dM ca (.inl hk) fun T hT=>hT v
def G377 (hk:2<k:=by decide):Px (under bD k u):=fun v=>dM ca (.inl hk) fun T hT=>hT v
def G378 (hk:3<k:=by decide):Py (under bD k u):=fun v=>dM ca (.inl hk) fun T hT=>hT v
def G379 (hk:7<k:=by decide):Pz (under bD k u):=fun v=>dM ca (.inl hk) fun T hT=>hT v
def G380 (hk:12<k:=by decide):Nb (under bD k u):=fun g xs hp0 kk E hE nx lc m K hn h0 h1 h10 hK=>Gq (.inl hk) fun T _ h=>h g xs hp0 kk E hE nx lc m K hn h0 h1 h10 hK
def NC (hk:1<k:=by decide):Kq (under bD k u):=fun n hp0=>dM ca (.inl hk) fun T hT=>hT n hp0
def KC (hk:3<k:=by decide):Kr (under bD k u):=fun w l u hp0=>dM ca (.inl hk) fun T hT=>hT w l u hp0
def G408 (hk:3<k:=by decide):PA (under bD k u):=fun a b=>dM ca (.inl hk) fun T hT=>hT a b
def G409 (hk:11<k:=by decide):PB (under bD k u):=fun c n hp0=>dM ca (.inl hk) fun T hT=>hT c n hp0
def QQ (hk:11<k:=by decide):Nc (under bD k u):=fun w x hp0=>dM ca (.inl hk) fun T hT=>hT w x hp0
def G416 (hk:1<k:=by decide):PC (under bD k u):=fun c x hp0=>dM ca (.inl hk) fun T hT=>hT c x hp0
def QR (hk:5<k:=by decide):Nd (under bD k u):=fun a b hp0=>dM ca (.inl hk) fun T hT=>hT a b hp0
def G425 (hk:21<k:=by decide):PD (under bD k u):=fun c i hp0=>dM ca (.inl hk) fun T hT=>hT c i hp0
def G434 (hk:12<k:=by decide):PE (under bD k u):=fun w u k l bar hp0=>dM ca (.inl hk) fun T hT=>hT w u k l bar hp0
def G435 (hk:4<k:=by decide):Nf (under bD k u):=fun w rows r hp0 nx lo m K h1 h2 hK=>Gq (.inl hk) fun T _ h=>h w rows r hp0 nx lo m K h1 h2 hK
def QS (hk:3<k:=by decide):Ks (under bD k u):=fun w hp0 nx m K hK=>Gq (.inl hk) fun T _ h=>h w hp0 nx m K hK
def QT (hk:3<k:=by decide):Ng (under bD k u):=fun w ms hp0=>dM ca (.inl hk) fun T hT=>hT w ms hp0
def QU (hk:4<k:=by decide):PF (under bD k u):=fun p c hp0=>dM ca (.inl hk) fun T hT=>hT p c hp0
def QV (hk:4<k:=by decide):PG (under bD k u):=fun w a b u hp0=>dM ca (.inl hk) fun T hT=>hT w a b u hp0
def G440 (hk:1<k:=by decide):PH (under bD k u):=fun n=>dM ca (.inl hk) fun T hT=>hT n
def G441 (hk:3<k:=by decide):PI (under bD k u):=fun s hp0=>dM ca (.inl hk) fun T hT=>hT s hp0
def QW (hk:2<k:=by decide):Nh (under bD k u):=fun s hp0=>dM ca (.inl hk) fun T hT=>hT s hp0
def G454 (hk:1<k:=by decide):PJ (under bD k u):=fun c=>dM ca (.inl hk) fun T hT=>hT c
def G455 (hk:1<k:=by decide):PK (under bD k u):=fun n=>dM ca (.inl hk) fun T hT=>hT n
def G456 (hk:3<k:=by decide):PL (under bD k u):=fun s p hp0=>dM ca (.inl hk) fun T hT=>hT s p hp0
def QX (hk:1<k:=by decide):Ni (under bD k u):=fun s b hp0=>dM ca (.inl hk) fun T hT=>hT s b hp0
def G505 (hk:5<k:=by decide):PM (under bD k u):=fun m a c hp0=>dM ca (.inl hk) fun T hT=>hT m a c hp0
def QY (hv:v<=u):Ms (under bD 5 u) v:=fun m a c hp0 hu=>dM ca (.inr ⟨rfl,by rw[show(lk bD 505 lD).mu=Oi from rfl,DM];exact jq hu hv⟩) fun T hT=>hT m a c hp0
def QZ (hk:2<k:=by decide):Nj (under bD k u):=fun a b=>dM ca (.inl hk) fun T hT=>hT a b
def G530 (hk:1<k:=by decide):PN (under bD k u):=fun v=>dM ca (.inl hk) fun T hT=>hT v
def Q0 (hk:1<k:=by decide):Nk (under bD k u):=fun l=>dM ca (.inl hk) fun T hT=>hT l
def ND (hk:2<k:=by decide):Kt (under bD k u):=fun a b=>dM ca (.inl hk) fun T hT=>hT a b
def NG (hk:1<k:=by decide):Ku (under bD k u):=fun s b hp0=>dM ca (.inl hk) fun T hT=>hT s b hp0
def G534 (hk:3<k:=by decide):PO (under bD k u):=fun a b=>dM ca (.inl hk) fun T hT=>hT a b
def G598 (hk:2<k:=by decide):PQ (under bD k u):=dM ca (.inl hk) fun T hT=>hT
def Q3 (hk:1<k:=by decide):Nl (under bD k u):=fun v=>dM ca (.inl hk) fun T hT=>hT v
def Q4 (hk:1<k:=by decide):Nn (under bD k u):=fun v=>dM ca (.inl hk) fun T hT=>hT v
def NH (hk:1<k:=by decide):Kv (under bD k u):=dM ca (.inl hk) fun T hT=>hT
def G602 (hk:6<k:=by decide):PR (under bD k u):=fun v hp0=>dM ca (.inl hk) fun T hT=>hT v hp0
def NI (hk:1<k:=by decide):Kw (under bD k u):=dM ca (.inl hk) fun T hT=>hT
def G604 (hk:11<k:=by decide):PS (under bD k u):=fun a b hp0=>dM ca (.inl hk) fun T hT=>hT a b hp0
def G605 (hk:10<k:=by decide):PT (under bD k u):=fun a hp0=>dM ca (.inl hk) fun T hT=>hT a hp0
def G615 (hk:2<k:=by decide):PU (under bD k u):=fun l row=>dM ca (.inl hk) fun T hT=>hT l row
def G622 (hk:10<k:=by decide):PV (under bD k u):=fun l n hp0=>dM ca (.inl hk) fun T hT=>hT l n hp0
def G627 (hk:10<k:=by decide):PX (under bD k u):=fun s v hp0=>dM ca (.inl hk) fun T hT=>hT s v hp0
def KD (hk:1<k:=by decide):Hk (under bD k u):=fun a b=>dM ca (.inl hk) fun T hT=>hT a b
def G631 (hk:4<k:=by decide):PY (under bD k u):=fun a b hp0=>dM ca (.inl hk) fun T hT=>hT a b hp0
def Q5 (hk:2<k:=by decide):No (under bD k u):=fun c l hp0=>dM ca (.inl hk) fun T hT=>hT c l hp0
def G633 (hk:1<k:=by decide):PZ (under bD k u):=fun k=>dM ca (.inl hk) fun T hT=>hT k
def KE (hk:2<k:=by decide):Hl (under bD k u):=fun c l u hp0=>dM ca (.inl hk) fun T hT=>hT c l u hp0
def G635 (hk:20<k:=by decide):P0 (under bD k u):=fun c row mild hp0=>dM ca (.inl hk) fun T hT=>hT c row mild hp0
def Ht (hk:1<k:=by decide):FD (under bD k u):=fun c u hp0=>dM ca (.inl hk) fun T hT=>hT c u hp0
def G637 (hk:3<k:=by decide):P1 (under bD k u):=fun c row i hp0=>dM ca (.inl hk) fun T hT=>hT c row i hp0
def G654 (hk:1<k:=by decide):P2 (under bD k u):=fun a b=>dM ca (.inl hk) fun T hT=>hT a b
def G655 (hk:1<k:=by decide):P3 (under bD k u):=fun l u hp0=>dM ca (.inl hk) fun T hT=>hT l u hp0
def G656 (hk:1<k:=by decide):P4 (under bD k u):=fun l hp0=>dM N2 (.inl hk) fun T hT=>hT l hp0
def G657 (hk:3<k:=by decide):P5 (under bD k u):=fun w t c hp0=>dM ca (.inl hk) fun T hT=>hT w t c hp0
def Q6 (hk:1<k:=by decide):Np (under bD k u):=fun s=>dM ca (.inl hk) fun T hT=>hT s
def Q7 (hk:1<k:=by decide):Nq (under bD k u):=fun t=>dM ca (.inl hk) fun T hT=>hT t
def G666 (hk:1<k:=by decide):P6 (under bD k u):=fun t=>dM ca (.inl hk) fun T hT=>hT t
def Q8 (hk:2<k:=by decide):Nr (under bD k u):=fun s=>dM ca (.inl hk) fun T hT=>hT s
def Q9 (hk:1<k:=by decide):Ns (under bD k u):=fun t=>dM ca (.inl hk) fun T hT=>hT t
def G692 (hk:3<k:=by decide):P7 (under bD k u):=fun m al c hp0=>dM ca (.inl hk) fun T hT=>hT m al c hp0
def Ra (hk:3<k:=by decide):Nt (under bD k u):=fun m al c hp0=>dM ca (.inl hk) fun T hT=>hT m al c hp0
def G694 (hk:4<k:=by decide):P8 (under bD k u):=fun m al od c hp0=>dM ca (.inl hk) fun T hT=>hT m al od c hp0
def G704 (hk:1<k:=by decide):P9 (under bD k u):=fun x=>dM ca (.inl hk) fun T hT=>hT x
def G712 (hk:10<k:=by decide):Qa (under bD k u):=fun s v hp0=>dM ca (.inl hk) fun T hT=>hT s v hp0
def G714 (hk:1<k:=by decide):Qb (under bD k u):=fun x=>dM ca (.inl hk) fun T hT=>hT x
def G769 (hk:5<k:=by decide):Qc (under bD k u):=fun v p hp0=>dM ca (.inl hk) fun T hT=>hT v p hp0
def NJ (hk:9<k:=by decide):Kx (under bD k u):=fun s hp0=>dM ca (.inl hk) fun T hT=>hT s hp0
def G771 (hk:10<k:=by decide):Qd (under bD k u):=fun a b hp0=>dM ca (.inl hk) fun T hT=>hT a b hp0
def G772 (hk:9<k:=by decide):Qe (under bD k u):=fun l hp0=>dM ca (.inl hk) fun T hT=>hT l hp0
def Rb (hk:9<k:=by decide):Nu (under bD k u):=fun s hp0=>dM ca (.inl hk) fun T hT=>hT s hp0
def G782 (hk:9<k:=by decide):Qf (under bD k u):=fun l v hp0=>dM ca (.inl hk) fun T hT=>hT l v hp0
def G783 (hk:3<k:=by decide):Qg (under bD k u):=fun a b=>dM ca (.inl hk) fun T hT=>hT a b
def G784 (hk:1<k:=by decide):Qh (under bD k u):=fun t row=>dM ca (.inl hk) fun T hT=>hT t row
def G785 (hk:19<k:=by decide):Qi (under bD k u):=fun c row k mild hp0=>dM ca (.inl hk) fun T hT=>hT c row k mild hp0
def NK (hk:1<k:=by decide):Ky (under bD k u):=fun al u p hp0=>dM ca (.inl hk) fun T hT=>hT al u p hp0
def G830 (hk:1<k:=by decide):Qj (under bD k u):=fun od u n hp0=>dM ca (.inl hk) fun T hT=>hT od u n hp0
def G831 (hk:1<k:=by decide):Qk (under bD k u):=fun l o=>dM ca (.inl hk) fun T hT=>hT l o
def G861 (hk:9<k:=by decide):Ql (under bD k u):=fun l v hp0=>dM ca (.inl hk) fun T hT=>hT l v hp0
def KF (hk:8<k:=by decide):Hm (under bD k u):=fun l hp0=>dM ca (.inl hk) fun T hT=>hT l hp0
def G917 (hk:2<k:=by decide):Qm (under bD k u):=fun c=>dM ca (.inl hk) fun T hT=>hT c
def G918 (hk:9<k:=by decide):Nv (under bD k u):=fun l hp0 nx lo m K h1 h2 hK=>Gq (.inl hk) fun T _ h=>h l hp0 nx lo m K h1 h2 hK
def Rc (hk:8<k:=by decide):Nw (under bD k u):=fun l hp0=>dM ca (.inl hk) fun T hT=>hT l hp0
def Rd (hk:7<k:=by decide):Nx (under bD k u):=fun l f t hp0=>dM ca (.inl hk) fun T hT=>hT l f t hp0
def Re (hk:7<k:=by decide):Kz (under bD k u):=fun out f t hp0 nx lo m K h1 h2 hK=>Gq (.inl hk) fun T _ h=>h out f t hp0 nx lo m K h1 h2 hK
def G924 (hk:1<k:=by decide):Qn (under bD k u):=fun c=>dM ca (.inl hk) fun T hT=>hT c
def Rf (hk:8<k:=by decide):Ny (under bD k u):=fun l hp0=>dM ca (.inl hk) fun T hT=>hT l hp0
def G926 (hk:8<k:=by decide):Qo (under bD k u):=fun s v hp0=>dM ca (.inl hk) fun T hT=>hT s v hp0
def G927 (hk:1<k:=by decide):Qp (under bD k u):=fun a b=>dM ca (.inl hk) fun T hT=>hT a b
def Rg (hk:15<k:=by decide):Nz (under bD k u):=fun l b c row k hp0=>dM ca (.inl hk) fun T hT=>hT l b c row k hp0
def G929 (hk:13<k:=by decide):Qq (under bD k u):=fun x c row k hp0=>dM ca (.inl hk) fun T hT=>hT x c row k hp0
def G930 (hk:12<k:=by decide):Qr (under bD k u):=fun c row k x hp0=>dM ca (.inl hk) fun T hT=>hT c row k x hp0
def G931 (hk:18<k:=by decide):Qs (under bD k u):=fun l c row k hp0=>dM ca (.inl hk) fun T hT=>hT l c row k hp0
def G932 (hk:16<k:=by decide):Qt (under bD k u):=fun x c row k hp0=>dM ca (.inl hk) fun T hT=>hT x c row k hp0
def G933 (hk:13<k:=by decide):Qu (under bD k u):=fun x c row k hp0=>dM ca (.inl hk) fun T hT=>hT x c row k hp0
def G934 (hk:12<k:=by decide):Qv (under bD k u):=fun c row k x hp0=>dM ca (.inl hk) fun T hT=>hT c row k x hp0
def G980 (hk:8<k:=by decide):Qw (under bD k u):=fun s v hp0=>dM ca (.inl hk) fun T hT=>hT s v hp0
def Hp (hk:7<k:=by decide):C6 (under bD k u):=fun s hp0=>dM ca (.inl hk) fun T hT=>hT s hp0
def zm (hk:6<k:=by decide):wZ (under bD k u):=fun a b hp0=>dM ca (.inl hk) fun T hT=>hT a b hp0
def QB (hk:7<k:=by decide):Mi (under bD k u):=fun l c hp0=>dM ca (.inl hk) fun T hT=>hT l c hp0
def Mu (hk:7<k:=by decide):Hg (under bD k u):=fun s hp0=>dM ca (.inl hk) fun T hT=>hT s hp0
def Mv (hk:6<k:=by decide):Hh (under bD k u):=fun a b hp0=>dM ca (.inl hk) fun T hT=>hT a b hp0
def QC (hk:6<k:=by decide):Mj (under bD k u):=fun c v hp0=>dM ca (.inl hk) fun T hT=>hT c v hp0
def QD (hk:14<k:=by decide):Mk (under bD k u):=fun l b c row k hp0=>dM ca (.inl hk) fun T hT=>hT l b c row k hp0
def Mw (hk:11<k:=by decide):Hi (under bD k u):=fun c x hp0=>dM ca (.inl hk) fun T hT=>hT c x hp0
def QE (hk:17<k:=by decide):Ml (under bD k u):=fun l c row k hp0=>dM ca (.inl hk) fun T hT=>hT l c row k hp0
def QF (hk:6<k:=by decide):Mm (under bD k u):=fun c v hp0=>dM ca (.inl hk) fun T hT=>hT c v hp0
def Hq (hk:5<k:=by decide):C7 (under bD k u):=fun c hp0=>dM ca (.inl hk) fun T hT=>hT c hp0
def Hr (hk:5<k:=by decide):C8 (under bD k u):=fun c hp0=>dM ca (.inl hk) fun T hT=>hT c hp0
def QG (hk:1<k:=by decide):Mn (under bD k u):=dM ca (.inl hk) fun T hT=>hT
def QH (hk:1<k:=by decide):Mo (under bD k u):=fun b=>dM ca (.inl hk) fun T hT=>hT b
def QI (hk:1<k:=by decide):Mp (under bD k u):=dM ca (.inl hk) fun T hT=>hT
def QJ (hk:1<k:=by decide):Mq (under bD k u):=dM ca (.inl hk) fun T hT=>hT
end
def Om:List (Nat×Nat):=[(6,1212),(9,63),(10,36),(13,198),(15,65),(17,66),(19,25),(20,46),(25,267),(26,197),(27,154),(28,155),(29,156),(30,109),(31,157),(32,158),(33,159),(34,425),(37,406),(39,175),(41,203),(42,204),(43,205),(44,183),(45,184),(46,185),(47,505),(48,374),(49,112),(50,217),(51,375),(52,376),(53,377),(54,378),(55,379),(56,380),(57,381),(58,632),(59,633),(60,634),(61,635),(62,636),(63,637),(68,408),(69,209),(70,295),(71,409),(73,434),(74,435),(75,436),(76,437),(77,438),(78,439),(79,415),(80,416),(81,692),(82,693),(83,694),(84,598),(85,455),(86,456),(87,599),(88,600),(89,601),(90,602),(91,603),(92,604),(93,605),(94,615),(95,784),(96,785),(99,531),(100,516),(101,440),(102,441),(103,442),(104,530),(105,532),(106,533),(107,534),(108,622),(111,424),(112,654),(113,655),(114,656),(115,657),(116,627),(117,829),(118,830),(119,831),(120,470),(121,666),(122,667),(123,668),(124,769),(125,770),(126,771),(127,772),(128,928),(129,929),(130,930),(131,931),(132,932),(133,933),(134,934),(135,704),(136,658),(137,659),(138,714),(139,780),(142,630),(143,631),(144,782),(145,454),(146,916),(147,917),(148,918),(149,919),(150,920),(151,921),(152,1026),(153,1027),(154,1028),(155,924),(156,925),(157,783),(158,926),(159,1019),(160,1020),(161,1021),(162,712),(163,1023),(164,1024),(165,927),(166,1025),(167,1086),(168,861),(169,1087),(170,980),(171,1055),(187,1178),(188,1179),(189,1180),(190,1181),(1000000126,501178),(1000000129,501179),(1000000131,501180),(1000000132,501181)]
def F2:List Nat:=[219,1091,1354,1894,1896,1616,1320,1618,1898,2062,2066,2282,2068,2252,2194,2064,1904,900,931,937,935,445,978,1328,904,942,944,946,952,448,522,1008,1724,1726,1728,1430,486,500,1842,760,314,310,308,1836,872,870,406,410,412,103920080,104450022,104360064,500000000]
def bN:(Go.Proofs.Tryz.prog).follows .mixedOrders=true:=zzbk
abbrev Ow [dq](f n:Nat):Prop:=O8 Go.Proofs.Tryz.prog Om F2 bD f n
abbrev Cp (f:Nat)(a:aJ):Prop:=Bt Go.Proofs.Tryz.prog Om F2 f a
def ck {f:Nat}{a:aJ}(h:((Go.Proofs.Tryz.prog).funcs[f]?).map (fun f=>(compile Go.Proofs.Tryz.prog Om F2 f,f.name== "runtime.NumGoroutine"))=some (some a,false):=by kernel_rfl):Cp f a:=h
end Go.Abs
