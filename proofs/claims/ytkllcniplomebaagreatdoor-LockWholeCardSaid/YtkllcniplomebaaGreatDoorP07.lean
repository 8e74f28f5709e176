/- A part of the proofs. -/
import Derived.Test.YtkllcniplomebaaGreatDoorP06
set_option linter.all false
set_option maxRecDepth 60000
set_option maxHeartbeats 2000000
namespace Go.Abs
variable(y:cx){nm ft:av}{c l:List Int}(us:List dz){es:List j8}{w:cA}{α:Type}(ks:List Int){j n:Nat}(g:Gs)(ns:List av){ord:List (List Int)}(shop:List cj){t:oX}(a:List Bool){row:fN}
def qoW:av:=[63,111]
def q9 (l:List bp)(i:Nat):List av:=if UO (l.take i)=true then [qoW]else []
def Gk {l:List bp}{i:Nat}(h:i<l.length):UO (l.take (i+1))=(UO (l.take i) ||decide (l[i]!.option=[111])):=by
 have e:l.take (i+1)=l.take i++[l[i]!]:=by
  rw[List.take_add_one,List.getElem?_eq_getElem h];simp[h]
 rw[e];simp[UO]
def alh {l:List bp}{i:Nat}(h:i<l.length)(h2:l[i]!.option=[111]/\((q9 l i).length:Int)=0):q9 l (i+1)=[qoW]:=by
 unfold q9;rw[Gk h,ak (by rw[bg h2.1,Bool.or_true])]
def alg {l:List bp}{i:Nat}(h:i<l.length)(h2:¬l[i]!.option=[111]\/¬((q9 l i).length:Int)=0):q9 l i=q9 l (i+1):=by
 unfold q9 at*
 rw[Gk h];rcases h2 with h2|h2
 .simp only[bB h2,Bool.or_false]
 .split at h2
  .rename_i h3;rw[h3];rfl
  .simp at h2
def gS (l:List bp)(g:Gs):Nat->Gs
 |0=>g
 |i+1=>if l[i]!.any.length=1 then(gS l g i).aI else gS l g i
def afL (l:List bp)(g:Gs):∀i:Nat,oZ (i:Int) g (gS l g i)
 |0=>by simp[oZ,gS]
 |i+1=>by
  have:=afL l g i;rw[gS];split<;>simp only[oZ,Gs.aI]at* <;>omega
def akF {l:List bp}{g:Gs}{i:Nat}(h:i<l.length)(h1:l[i]!.any.length=1)(h2:(gS l g i).val 3=0):ik (l.drop i) (gS l g i)=(some l[i]!.any[0]!.name,(gS l g i).aI):=by
 rw[fh h,ik,show l[i]=l[i]! by simp[h],ak h1,ak h2]
def akG {l:List bp}{g:Gs}{i:Nat}(h:i<l.length)(h1:l[i]!.any.length=1)(h2:¬(gS l g i).val 3=0):ik (l.drop i) (gS l g i)=ik (l.drop (i+1)) (gS l g (i+1)):=by
 rw[fh h,ik,show l[i]=l[i]! by simp[h],ak h1,ai h2,gS,ak h1]
def akH {l:List bp}{g:Gs}{i:Nat}(h:i<l.length)(h1:¬l[i]!.any.length=1):ik (l.drop i) (gS l g i)=ik (l.drop (i+1)) (gS l g (i+1)):=by
 rw[fh h,ik,show l[i]=l[i]! by simp[h],ai h1,gS,ai h1]
def akI {l:List bp}{g:Gs}{i:Nat}(h:l.length<=i):ik (l.drop i) (gS l g i)=(none,gS l g i):=by
 rw[j7 h,ik]
def NK (l:List bp):q9 l l.length=if UO l=true then [qoW]else []:=by rw[q9,List.take_length]
def NL (l:List bp)(i:Nat):(q9 l i).length<=1:=by unfold q9;split<;>simp
def Xw {l:List bp}{g:Gs}{i:Nat}(hr:ik l g=ik (l.drop i) (gS l g i))(h:i<l.length)(h1:l[i]!.any.length=1)(h2:(gS l g i).val 3=0):mV g l=(⟨[102],q9 l l.length++[l[i]!.any[0]!.name++[47,102]]⟩,(gS l g i).aI):=by
 rw[mV,ofG,hr,akF h h1 h2,NK];rfl
def Xx {l:List bp}{g:Gs}{i:Nat}(hr:ik l g=ik (l.drop i) (gS l g i))(h:l.length<=i):mV g l=(⟨[102],q9 l l.length⟩,gS l g i):=by
 rw[mV,ofG,hr,akI h,NK];simp only[fZ];rfl
section
variable {s:cj}{r:Rec}{v:bO}{on:Bool}
def put_1 (h:gy s=false):kS s r=(default,1):=by rw[kS,ak h]
def put_2 (h:gy s=true)(h2:¬(fC r).2=0):kS s r=(default,(fC r).2):=by rw[kS,ai gQ,ak h2]
def put_3 (h:gy s=true)(h2:(fC r).2=0)(h3:0<=r7 s.es r.name r.v 0):kS s r=(default,8):=by rw[kS,ai gQ,ai (by simp[h2]),ak h3]
def put_4 (h:gy s=true)(h2:(fC r).2=0)(h3:¬0<=r7 s.es r.name r.v 0)(h4:64<=s.es.length):kS s r=(default,10):=by rw[kS,ai gQ,ai (by simp[h2]),ai h3,ak h4]
def put_5 (h:gy s=true)(h2:(fC r).2=0)(h3:¬0<=r7 s.es r.name r.v 0)(h4:¬64<=s.es.length):kS s r=(⟨s.name,s.es++[⟨r,wj r,false⟩]⟩,0):=by rw[kS,ai gQ,ai (by simp[h2]),ai h3,ai h4]
def alG (h:gy s=false):ov s nm v on=(default,1):=by rw[ov,ak h]
def alH (h:gy s=true)(h2:r7 s.es nm v 0<0):ov s nm v on=(default,9):=by rw[ov,ai gQ,ak h2]
def alI (h:gy s=true)(h2:r7 s.es nm v 0=(j:Nat)):ov s nm v on=(⟨s.name,s.es.set j {s.es[j]! with off:=on}⟩,0):=by
 rw[ov,ai gQ,ai ae,h2,Int.toNat_natCast]
end
def Rec.fz (l k:Nat)(es:List Abs.D)(c:Rec):iX l k es c.D=c.D:=gV l k es _ (by simp only[Rec.D,D.aU,aP,fR])
variable{r:Rec}
def IJ [Inhabited α]{q:α->D}{xs:List α}{i k o:Nat}{v:D}{y:α}(h:i<xs.length)(he:rj (q xs[i]!) k n o v=q y):(xs.map q).set (0+i) (rj ((xs.map q).getD (0+i) .any) k n o v)=(xs.set i y).map q:=by
 rw[cL,getD_map h,he,List.map_set]
section
variable {g:Gs}{l:List cj}
def kG (g:Gs)(l:List cj):Nat:=(g.val l.length).toNat
def nmG (g:Gs):av:=cB[(g.aI.val 4).toNat]!
def vrG (g:Gs):bO:=bT[(g.aI.aI.val 4).toNat]!
def VU (g:Gs)(l:List cj):cj×Int:=ov l[kG g l]! (nmG g) (vrG g) (decide (0<g.aI.aI.aI.aI.val 3))
def rcG (g:Gs):Rec×Gs:=pw g.aI.aI.aI.aI (nmG g) (vrG g) 2
def VP (g:Gs)(l:List cj):cj×Int:=kS l[kG g l]! (rcG g).1
def Zp (h:g.aI.aI.aI.val 6=0)(h2:(VU g l).2=0):lN g l=(l.set (kG g l) (VU g l).1,g.aI.aI.aI.aI.aI):=by
 rw[show lN g l=(ra l (kG g l) (VU g l),g.aI.aI.aI.aI.aI)from ak h,ra,ak h2]
def Zq (h:g.aI.aI.aI.val 6=0)(h2:¬(VU g l).2=0):lN g l=(l,g.aI.aI.aI.aI.aI):=by
 rw[show lN g l=(ra l (kG g l) (VU g l),g.aI.aI.aI.aI.aI)from ak h,ra,ai h2]
def Zr (h:¬g.aI.aI.aI.val 6=0)(h2:(VP g l).2=0):lN g l=(l.set (kG g l) (VP g l).1,(rcG g).2):=by
 rw[show lN g l=(ra l (kG g l) (VP g l),(rcG g).2)from ai h,ra,ak h2]
def Zs (h:¬g.aI.aI.aI.val 6=0)(h2:¬(VP g l).2=0):lN g l=(l,(rcG g).2):=by
 rw[show lN g l=(ra l (kG g l) (VP g l),(rcG g).2)from ai h,ra,ai h2]
end
def yp (i:Nat):bT[i]!.sm:=yU (P:=λv:bO=>v.sm) ⟨a7,a7⟩ (by
 intro v hv;simp only[bT,bU,de,or_false]at hv;rcases hv with rfl|rfl|rfl|rfl<;>exact⟨a7,a7⟩) i
def Dl {i:Nat}(h:i<4):cB[i]! ∈cB:=aq h
def ML (own:av):(cQ g own).1∈cB:=by
 have r4:=g.eP 4 ae;have r3:=g.aI.eP 3 ae;have rz:=Ya cB own;unfold cQ;split
 .exact Dl ae
 .exact Dl ae
def ahM (own:av):∀w∈(gK g own).1,w.name∈cB:=by
 have h1:=ML g own;have h2:=ML (dD g own).2.aI own;unfold gK;split
 .intro w hw;simp only[bU,de,or_false]at hw;rcases hw with rfl|rfl<;>assumption
 .split<;>intro w hw<;>rw[aJ.1 hw]<;>exact h1
def YH (own:av)(g:Gs):∀i,∀n∈(nS own g i).1,∀w∈n.any,w.name∈cB
 |0=>λ_ h=>by cases h
 |i+1=>λn h=>by
  rcases List.mem_append.1 h with h|h
  .exact YH own g i n h
  .rw[aJ.1 h];exact ahM _ _
def H6:∀(l:List bp) (g:Gs),(∀n∈l,∀w∈n.any,w.name∈cB)->∀s,(ik l g).1=some s->s∈cB
 |[],g,_,s,h=>by cases h
 |n::r,g,hl,s,h=>by
  rw[ik]at h;split at h
  .rename_i h1;split at h
   .simp only[aC]at h;rw[<-h];exact hl n (.head _) _ (aq ae)
   .exact H6 r _ (λn hn=>hl n (.tail _ hn)) s h
  .exact H6 r _ (λn hn=>hl n (.tail _ hn)) s h
def af5 {l:List bp}{g:Gs}(hl:∀n∈l,∀w∈n.any,w.name∈cB):(ofG l g).1∈ofL:=by
 have h:=H6 l g hl;unfold ofG;simp only;cases hp:(ik l g).1 with
 |none=>split<;>decide
 |some s=>
  have hs:=h s hp;simp only[cB,bU,de,or_false]at hs;rcases hs with rfl|rfl|rfl|rfl<;>split<;>decide
def ZY {v:bO}(hn:nm.length<=3)(hv:v.sm):iq (pw g nm v 2).1:=by
 refine⟨⟨by show nm.length<=_;omega,hv⟩,Se nm g.aI _, ?_, ?_⟩
 .show ∀b∈(eE (nS nm g.aI (g.val (2+1)).toNat).2 nm).1,b.sm
  unfold eE;split
  .intro b hb;rw[aJ.1 hb];exact⟨by have:=ze (nS nm g.aI (g.val (2+1)).toNat).2.aI nm;simp only;omega,Ig,show([]:av)∈Mw by decide⟩
  .intro b hb;cases hb
 .show(lu (eE (nS nm g.aI (g.val (2+1)).toNat).2 nm).2 (nS nm g.aI (g.val (2+1)).toNat).1).1∈Cv;unfold lu;split
  .exact .tail _ (ch.2 ⟨_,af5 (YH nm g.aI _),rfl⟩)
  .exact .head _
def SU {l:List cj}{k:Nat}{p:cj×Int}(h:jG l)(hp:∀x∈p.1.es,iq x.r):jG (ra l k p):=by
 unfold ra;split
 .intro s hs;rcases List.mem_or_eq_of_mem_set hs with h1|rfl
  .exact h s h1
  .exact hp
 .exact h
def afc {s:cj}{v:bO}{on:Bool}(h:∀x∈s.es,iq x.r):∀x∈(ov s nm v on).1.es,iq x.r:=by
 unfold ov;split
 .intro x hx;cases hx
 .split
  .intro x hx;cases hx
  .rename_i h2;obtain⟨j,hj,hjl⟩:=(BY (l:=s.es) (nm:=nm) (v:=v)).resolve_left ae;rw[hj,Int.toNat_natCast];intro x hx;rcases List.mem_or_eq_of_mem_set hx with h1|rfl
   .exact h x h1
   .exact h s.es[j]! (aq hjl)
def akV {s:cj}(h:∀x∈s.es,iq x.r)(hr:iq r):∀x∈(kS s r).1.es,iq x.r:=by
 unfold kS;split
 .intro x hx;cases hx
 .split
  .intro x hx;cases hx
  .split
   .intro x hx;cases hx
   .split
    .intro x hx;cases hx
    .intro x hx;rcases List.mem_append.1 hx with h1|h1
     .exact h x h1
     .rw[aJ.1 h1];exact hr
def Hu {l:List cj}(h:jG l)(k:Nat):∀x∈l[k]!.es,iq x.r:=yU (P:=λs:cj=>∀x∈s.es,iq x.r) (λ_ h=>cw) h k
def akT {g:Gs}{l:List cj}(h:jG l):jG (lN g l).1:=by
 by_cases h1:g.aI.aI.aI.val 6=0
 .rw[show lN g l=(ra l (kG g l) (VU g l),g.aI.aI.aI.aI.aI)from ak h1];exact SU h (afc (Hu h _))
 .rw[show lN g l=(ra l (kG g l) (VP g l),(rcG g).2)from ai h1];exact SU h (akV (Hu h _) (ZY _ (y8 _) (yp _)))
def Zf (g:Gs):∀i,jG (pS g i).1
 |0=>λs hs=>by
  simp only[pS,NX,bU,de,or_false]at hs;rcases hs with rfl|rfl<;>intro x hx<;>cases hx
 |i+1=>akT (Zf g i)
def NY (most:Int):jG (GD ks most):=Zf _ _
def cP (ord:List (List Int))(u:Int):List Int:=if u<(ord.length:Int)then ord[u.toNat]! else []
def Uc (l:List Int)(x:Int):Bool:=o8 (λk=>decide (l[k]! =x)) 0 l.length
def cD (o:List Int)(n:Nat):Nat->List Int
 |0=>o
 |i+1=>if Uc (cD o n i) ((n:Int) -1-(i:Int))=true then cD o n i else cD o n i++[(n:Int) -1-(i:Int)]
def N8 (m:j9)(ord:List (List Int))(u:Int):List Int:=cD (cP ord u) m.needs[u.toNat]!.length m.needs[u.toNat]!.length
def yC (m:j9)(ord:List (List Int)):=∀u:Nat,u<m.needs.length->(cP ord u).length<=16/\∀p∈cP ord u,0<=p/\p<m.needs[u]!.length
def S5 {o:List Int}{n:Nat}(ho:∀p∈o,0<=p/\p<(n:Int)):∀i,i<=n->(∀p∈cD o n i,0<=p/\p<(n:Int))/\(cD o n i).length<=o.length+i
 |0,_=>⟨ho,aT _⟩
 |i+1,h=>by
  obtain⟨h1,h2⟩:=S5 ho i ae;rw[cD];split
  .exact⟨h1,ae⟩
  .refine⟨λp hp=>?_,K1⟩;rcases List.mem_append.1 hp with hp|hp
   .exact h1 p hp
   .obtain rfl:=aJ.1 hp;omega
def Gi (m:j9)(ord:List (List Int))(c:List Int)(x:ec)(out:List ec):List ec:=if 0<=c[x.u.toNat]! then out else j1 x.m x.u (N8 m ord x.u) (N8 m ord x.u).length out
def dR (m:j9)(ord:List (List Int))(c:List Int)(l:List ec):Nat->List ec
 |0=>[]
 |k+1=>Gi m ord c l[k]! (dR m ord c l k)
def ek (m:j9)(ord:List (List Int))(c:List Int):List ec:=if(eg m c).1<0 then []else dR m ord c (bF m c) (bF m c).length
def ME {m:j9}{c:List Int}{mask u:Int}{ts:List Int}(hu:(0<=u/\u<m.needs.length)/\c[u.toNat]! <0)(ht:∀p∈ts,0<=p/\p<m.needs[u.toNat]!.length):∀i out,i<=ts.length->(∀o∈out,Wn m c o)->(∀o∈j1 mask u ts i out,Wn m c o)/\(j1 mask u ts i out).length<=out.length+i
 |0,out,_,h=>⟨h,aT _⟩
 |i+1,out,hi,h=>by
  obtain⟨h1,h2⟩:=ME (mask:=mask) hu ht i out ae h;have hg:=ht _ (aq (show i<ts.length by omega));rw[j1];unfold PQ;split
  .refine⟨λo ho=>?_,K1⟩;rcases List.mem_append.1 ho with ho|ho
   .exact h1 o ho
   .obtain rfl:=aJ.1 ho;exact⟨hu.1,hu.2,hg.1,hg.2⟩
  .exact⟨h1,ae⟩
def IM {m:j9}(h16:∀u,u<m.needs.length->m.needs[u]!.length<=16)(hO:yC m ord){u:Int}(hu:0<=u/\u<m.needs.length):(∀p∈N8 m ord u,0<=p/\p<m.needs[u.toNat]!.length)/\(N8 m ord u).length<=32:=by
 obtain⟨h1,h2⟩:=hO u.toNat ae;rw[show((u.toNat:Nat):Int)=u by omega]at h1 h2;obtain⟨h3,h4⟩:=S5 h2 m.needs[u.toNat]!.length (aT _);have:=h16 u.toNat ae;exact⟨h3,by unfold N8;omega⟩
def xz {m:j9}{ord:List (List Int)}{c:List Int}{l:List ec}(h16:∀u,u<m.needs.length->m.needs[u]!.length<=16)(hO:yC m ord)(hl:∀x∈l,0<=x.u/\x.u<m.needs.length):∀k,k<=l.length->(∀o∈dR m ord c l k,Wn m c o)/\(dR m ord c l k).length<=32*k
 |0,_=>⟨λo ho=>(by cases ho),Nat.zero_le _⟩
 |k+1,hk=>by
  obtain⟨h1,h2⟩:=xz h16 hO hl k ae;have hx:=hl _ (aq (show k<l.length by omega));rw[dR];unfold Gi;split
  .exact⟨h1,ae⟩
  .obtain⟨ht,ht2⟩:=IM h16 hO hx;obtain⟨h4,h5⟩:=ME (mask:=l[k]!.m) ⟨hx,ae⟩ ht (N8 m ord l[k]!.u).length (dR m ord c l k) (aT _) h1;exact⟨h4,ae⟩
def qQ {m:j9}(hm:wB m)(hO:yC m ord)(hc:K3 m c):(∀o∈ek m ord c,Wn m c o)/\(ek m ord c).length<=32000:=by
 unfold ek;split
 .exact⟨λo ho=>(by cases ho),aF⟩
 .rename_i h;obtain⟨h1,h2⟩:=Ol hm hc h;obtain⟨h3,h4⟩:=xz (c:=c) (λu hu=>(hm.2 u hu).1.2) hO h1 (bF m c).length (aT _);exact⟨h3,ae⟩
def Ej (m:j9)(ord:List (List Int)):Nat->List Int->Option (List Int)
 |0,_=>none
 |f+1,c=>if yI m c=false then none else if(eg m c).1<0 then some c else iM (λo=>Ej m ord f (xI c o)) (ek m ord c)
def mC (m:j9)(ord:List (List Int))(c:List Int):Option (List Int):=Ej m ord (Fp c+1) c
def Ek {m:j9}(hm:wB m)(hO:yC m ord)(hc:K3 m c):mC m ord c=if yI m c=false then none else if(eg m c).1<0 then some c else iM (λo=>mC m ord (xI c o)) (ek m ord c):=by
 rw[mC,Ej];congr 2;refine wZ λo ho=>?_
 have:=(H9 hc ((qQ hm hO hc).1 o ho)).2;rw[mC,this]
def mB {m:j9}{ord:List (List Int)}(hm:wB m)(hO:yC m ord){d:List Int}:∀(f:Nat) (c:List Int),K3 m c->Ej m ord f c=some d->CB m d=true/\K3 m d
 |0,c,_,h=>by cases h
 |f+1,c,hc,h=>by
  rw[Ej]at h;split at h
  .cases h
  .rename_i h1;split at h
   .rename_i h2;obtain rfl:=bc h;exact⟨adj (by simpa using h1) h2,hc⟩
   .obtain⟨o,h3,h4⟩:=Ah h;exact mB hm hO f _ (H9 hc ((qQ hm hO hc).1 o h3)).1 h4
def jV (ord:List (List Int)):Option (List Int):=mC (dx us) ord (n9 us.length)
def Hc:av:=[97,112,112]
def j2:List iH×Gs:=if g.val 4=0 then([⟨cB[(g.aI.val 4).toNat]!,Ef⟩],g.aI.aI)else([],g.aI)
def CT:List kB×Gs:=if g.val 4=0 then([⟨cB[(g.aI.val 4).toNat]!,j4[(g.aI.aI.val 8).toNat]!⟩],g.aI.aI.aI)else([],g.aI)
def jz:Rec×Gs:=pw ⟨ks,0⟩ Hc bT[0]! 3
def y7:gI:=⟨(jz ks).1,(j2 (jz ks).2).1,(CT (j2 (jz ks).2).2).1⟩
def Yy:gI:=⟨⟨Hc,bT[0]!,[],[],[]⟩,[],[]⟩
def qm:gI:=if(kE (y7 ks)).1=0 then y7 ks else Yy
def Wj (m:gI):Prop:=((kE m).1=0/\Yz m)/\m.ps.length<=1/\m.hs.length<=1
def wE (l:List gI):=∃m,l=[m]/\Wj m
def aeI {v:bO}(most:Int)(hn:nm.length<=3)(hv:v.sm):iq (pw g nm v most).1:=by
 refine⟨⟨by show nm.length<=_;omega,hv⟩,Se nm g.aI _, ?_, ?_⟩
 .show ∀b∈(eE (nS nm g.aI (g.val (most+1)).toNat).2 nm).1,b.sm
  unfold eE;split
  .intro b hb;rw[aJ.1 hb];exact⟨by have:=ze (nS nm g.aI (g.val (most+1)).toNat).2.aI nm;simp only;omega,Ig,show([]:av)∈Mw by decide⟩
  .intro b hb;cases hb
 .show(lu (eE (nS nm g.aI (g.val (most+1)).toNat).2 nm).2 (nS nm g.aI (g.val (most+1)).toNat).1).1∈Cv;unfold lu;split
  .exact .tail _ (ch.2 ⟨_,af5 (YH nm g.aI _),rfl⟩)
  .exact .head _
def ad3:Wj Yy:=by
 refine⟨⟨by decide+kernel,⟨⟨a7,by simp only[Yy,bO.sm];decide⟩,(λn h=>cw),(λn h=>cw),.head _⟩,λh hh=>by cases hh⟩,a7,a7⟩
def Sa:Yz (y7 ks)/\(y7 ks).ps.length<=1/\(y7 ks).hs.length<=1:=by
 refine⟨⟨aeI _ 3 a7 (yp 0), ?_⟩, ?_, ?_⟩
 .show ∀h∈(CT (j2 (jz ks).2).2).1,kj h.range
  unfold CT;split
  .intro h hh;rw[aJ.1 hh];exact Ig
  .intro h hh;cases hh
 .show(j2 (jz ks).2).1.length<=1;unfold j2;split<;>simp
 .show(CT (j2 (jz ks).2).2).1.length<=1;unfold CT;split<;>simp
def aa0:wE [qm ks]:=by
 refine⟨_,rfl, ?_⟩;unfold qm;split
 .rename_i h;obtain⟨h1,h2,h3⟩:=Sa ks;exact⟨⟨h,h1⟩,h2,h3⟩
 .exact ad3
def Ft (n:Nat)(k:Int)(i:Nat):Int:=((i:Int)*(1+k%3)+k)%(n:Int)
def kv (n:Nat)(k:Int):Nat->List Int
 |0=>[]
 |i+1=>if Uc (kv n k i) (Ft n k i)=true then kv n k i else kv n k i++[Ft n k i]
def xE (n:Nat)(k:Int):Nat:=min n (k%5).toNat
def js (us:List dz)(l:List Int)(u:Nat):Int:=kP (atI l (u:Int)) 24
def Fs (l:List Int)(u:Nat):List Int:=kv us[u]!.cands.length (js us l u) (xE us[u]!.cands.length (js us l u))
def ix (l:List Int):List (List Int):=if l.length=0 then []else(List.range us.length).map (Fs us l)
def Sx {n:Nat}(hn:0<n)(k:Int):∀i,(∀p∈kv n k i,0<=p/\p<(n:Int))/\(kv n k i).length<=i
 |0=>⟨λp hp=>(by cases hp),aT _⟩
 |i+1=>by
  obtain⟨h1,h2⟩:=Sx hn k i;rw[kv];split
  .exact⟨h1,ae⟩
  .refine⟨λp hp=>?_,K1⟩;rcases List.mem_append.1 hp with hp|hp
   .exact h1 p hp
   .obtain rfl:=aJ.1 hp;exact⟨Int.emod_nonneg _ ae,Int.emod_lt_of_pos _ ae⟩
def aep (l:List Int)(u:Nat):(Fs us l u).length<=4/\∀p∈Fs us l u,0<=p/\p<(us[u]!.cands.length:Int):=by
 unfold Fs;have hc:xE us[u]!.cands.length (js us l u)<=4:=by unfold xE;omega
 rcases Nat.eq_zero_or_pos us[u]!.cands.length with h|h
 .rw[h,show xE 0 (js us l u)=0 by unfold xE;omega];exact⟨by simp[kv],λp hp=>by cases hp⟩
 .obtain⟨h1,h2⟩:=Sx h (js us l u) (xE us[u]!.cands.length (js us l u));exact⟨ae,h1⟩
def p0 {us:List dz}(l:List Int):yC (dx us) (ix us l):=by
 intro u hu;have hn:(dx us).needs.length=us.length:=by simp[dx,eC]
 have hul:u<us.length:=ae;have e1:(dx us).needs[u]!.length=us[u]!.cands.length:=by unfold dx eC;dsimp only;rw[List.take_length,eZ hul];simp[eO]
 rw[e1];have key:cP (ix us l) ((u:Nat):Int)=[]\/cP (ix us l) ((u:Nat):Int)=Fs us l u:=by
  unfold cP ix;by_cases h0:l.length=0
  .rw[ak h0,ai aF];exact .inl rfl
  .rw[ai h0,ak eJ,Int.toNat_natCast];exact .inr (by simp[hul])
 rcases key with h|h<;>rw[h]
 .exact⟨aF,λp hp=>by cases hp⟩
 .obtain⟨h1,h2⟩:=aep us l u;exact⟨ae,h2⟩
def vQ (us:List dz):Nat->Nat
 |0=>1
 |i+1=>if us[i]!.feat=[]then vQ us i*(us[i]!.cands.length+1)else vQ us i
def MY (us:List dz):Nat->Nat->Nat->Nat
 |0,_,n=>n
 |r+1,i,n=>if n<1000000 then MY us r (i+1) (if us[i]!.feat=[]then n*(us[i]!.cands.length+1)else n)else n
def zj:Nat:=MY us us.length 0 1
def tidV (w:cA)(c:List Int)(is:List Bool):List Int:=(List.range is.length).map λi=>if is[i]! =true then c[i]! else-1
def vO (w:cA)(c:List Int)(is:List Bool)(l:List Want):List Bool:=l.foldl (λis x=>is.set x.u.toNat (is[x.u.toNat]! ||lj w c x)) is
def xq (w:cA)(c:List Int)(is:List Bool)(l:List nM):List Bool:=l.foldl (vO w c) is
def HT (w:cA)(c:List Int)(i:Nat)(is:List Bool):List Bool:=if is[i]! =true then xq w c is (bJ w c i).needs else is
def iY (w:cA)(c:List Int):Nat->List Bool->List Bool
 |0,is=>is
 |i+1,is=>HT w c i (iY w c i is)
def jZ (w:cA)(c:List Int):Nat->List Bool->List Bool
 |0,is=>is
 |n+1,is=>iY w c c.length (jZ w c n is)
def mM (c:List Int):List Bool:=(List.replicate c.length false).set 0 (decide (0<=c[0]!))
def fq (w:cA)(c:List Int):List Bool:=if eV w c=false then []else jZ w c c.length (mM c)
def rS (w:cA)(c:List Int):List Int:=tidV w c (fq w c)
def di (m:gI)(shop:List cj)(e:Env)(os:List Int):cA×List Int×Bool:=
 if(fV [m] shop e []).2≠0\/5000<zj (fV [m] shop e []).1.us then((fV [m] shop e []).1,[],false)
 else match jV (fV [m] shop e []).1.us (ix (fV [m] shop e []).1.us os)with
  |none=>((fV [m] shop e []).1,[],false)
  |some c=>((fV [m] shop e []).1,rS (fV [m] shop e []).1 c,true)
def adQ {l:List Key}{k:Key}(i:Nat)(h:i<=l.length):i<=Fh l k i/\Fh l k i<=l.length:=by
 unfold Fh;have:=(List.takeWhile_sublist (l:=l.drop i) (p:=λx=>e7 x k)).length_le;rw[iQ]at this;omega
def DA (l:List Key)(k:Key):(sN l k=l/\k∈l)\/((sN l k).length=l.length+1/\∀x,x∈sN l k↔x∈l\/x=k):=by
 have hk:=(adQ (l:=l) (k:=k) 0 (Nat.zero_le _)).2;unfold sN;split
 .rename_i h;exact .inl ⟨rfl,h.2▸aq h.1⟩
 .refine .inr ⟨eJ,λx=>?_⟩;have:x∈l↔x∈l.take (Fh l k 0)\/x∈l.drop (Fh l k 0):=by
   rw[<-List.mem_append,List.take_append_drop]
  simp only[List.mem_append,aJ];rw[this];constructor
  .rintro((h|h)|h)<;>simp[h]
  .rintro((h|h)|h)<;>simp[h]
def Ih (s:oX)(a:jk):(∀x,x∈(mw s a).all↔x∈s.all\/x=a.k)/\(∀x,x∈s.todo->x∈(mw s a).todo)/\(∀x∈(mw s a).todo,x∈s.todo\/x=a.k)/\(∀x∈(mw s a).all,x∈s.all\/x∈(mw s a).todo)/\s.all.length<=(mw s a).all.length/\(mw s a).all.length+s.todo.length=s.all.length+(mw s a).todo.length:=by
 unfold mw;rcases DA s.all a.k with⟨h1,h2⟩|⟨h1,h2⟩
 .rw[ai (by rw[h1];omega)];exact⟨λx=>⟨.inl,λh=>h.elim id λe=>e▸h2⟩,λ_ h=>h,λ_ h=>.inl h,λ_ h=>.inl h,aT _,rfl⟩
 .rw[ak ae];refine⟨h2,λx h=>List.mem_append_left _ h,λx h=>rA,λx h=>?_,jH,alL⟩;rcases(h2 x).1 h with h|rfl
  .exact .inl h
  .exact .inr aF
structure uP (s t:oX):Prop where
 all:∀x∈s.all,x∈t.all
 todo:∀x∈s.todo,x∈t.todo
 back:∀x∈t.all,x∈s.all\/x∈t.todo
 inn:∀x∈t.todo,x∈s.todo\/x∈t.all
 len:t.all.length+s.todo.length=s.all.length+t.todo.length
 grow:s.all.length<=t.all.length
def uP.NJ (s:oX):uP s s:=⟨λ_ h=>h,λ_ h=>h,λ_ h=>.inl h,λ_ h=>.inl h,rfl,aT _⟩
def uP.tr {a b c:oX}(h1:uP a b)(h2:uP b c):uP a c:=by
 refine⟨λx h=>h2.all x (h1.all x h),λx h=>h2.todo x (h1.todo x h),λx h=>?_,λx h=>?_,by have:=h1.len;have:=h2.len;omega,dN h1.grow h2.grow⟩
 .rcases h2.back x h with h|h
  .exact(h1.back x h).imp id (h2.todo x)
  .exact .inr h
 .rcases h2.inn x h with h|h
  .exact(h1.inn x h).imp id (h2.all x)
  .exact .inr h
def aeF (s:oX)(a:jk):uP s (mw s a)/\a.k∈(mw s a).all:=by
 obtain⟨h1,h2,h3,h4,h5,h6⟩:=Ih s a;exact⟨⟨λx h=>(h1 x).2 (.inl h),h2,h4,λx h=>(h3 x h).imp id λe=>(h1 x).2 (.inr e),h6,h5⟩,(h1 _).2 (.inr rfl)⟩
def SF:∀(row:fN) (s:oX),uP s (row.foldl mw s)/\∀a∈row,a.k∈(row.foldl mw s).all
 |[],s=>⟨.NJ s,λa h=>cw⟩
 |b::r,s=>by
  obtain⟨h1,h2⟩:=aeF s b;obtain⟨h3,h4⟩:=SF r (mw s b);refine⟨h1.tr h3,λa ha=>?_⟩;rcases bU.1 ha with rfl|ha
  .exact h3.all _ h2
  .exact h4 a ha
def SH:∀(l:List fN) (s:oX),uP s (P4 s l)/\∀row∈l,∀a∈row,a.k∈(P4 s l).all
 |[],s=>⟨.NJ s,λa h=>cw⟩
 |b::r,s=>by
  obtain⟨h1,h2⟩:=SF b s;obtain⟨h3,h4⟩:=SH r (b.foldl mw s);refine⟨h1.tr h3,λrow hr=>?_⟩;rcases bU.1 hr with rfl|hr
  .exact λa ha=>h3.all _ (h2 a ha)
  .exact h4 row hr
structure TG (y:cx)(s:oX):Prop where
 zero:fI∈s.all
 inn:∀x∈s.todo,x∈s.all
 done:∀x∈s.all,x∉s.todo->∀row∈cZ y x,∀a∈row,a.k∈s.all
 len:s.todo.length<=s.all.length/\s.all.length<=48
def ZT:TG y nB:=⟨by simp[nB],λx h=>h,λx h h2=>absurd h h2,by simp[nB]⟩
def SI {s:oX}(h:0<s.todo.length):uP ⟨s.all,s.todo.drop 1⟩ (Bt y s)/\∀row∈cZ y s.todo[0]!,∀a∈row,a.k∈(Bt y s).all:=SH _ _
def ZX {y:cx}{s:oX}(hI:TG y s)(h:0<s.todo.length)(h48:(Bt y s).all.length<=48):TG y (Bt y s):=by
 obtain⟨h1,h2⟩:=SI y h;have hd:∀x∈s.todo.drop 1,x∈s.todo:=λx hx=>List.mem_of_mem_drop hx
 have hc:s.todo=s.todo[0]! ::s.todo.drop 1:=by
  cases ht:s.todo with
  |nil=>rw[ht]at h;cases h
  |cons a r=>simp
 refine⟨h1.all _ hI.zero,λx hx=>?_,λx hx hn=>?_, ?_⟩
 .rcases h1.inn x hx with h3|h3
  .exact h1.all _ (hI.inn _ (hd x h3))
  .exact h3
 .rcases h1.back x hx with h3|h3
  .by_cases h4:x∈s.todo
   .rw[hc]at h4;rcases bU.1 h4 with h5|h5
    .rw[h5];exact h2
    .exact absurd (h1.todo _ h5) hn
   .exact λrow hr a ha=>h1.all _ (hI.done x h3 h4 row hr a ha)
  .exact absurd h3 hn
 .have:=h1.len;have:=hI.len;simp only[iQ]at*
  omega
def SG {y:cx}:∀(n:Nat){s:oX}{all:List Key},TG y s->Bs y n s=some all->TG y ⟨all,[]⟩
 |0,s,all,_,h=>by cases h
 |n+1,s,all,hI,h=>by
  rw[Bs]at h;split at h
  .rename_i h0;obtain rfl:=bc h;have:s.todo=[]:=aa8.1 h0;exact⟨hI.zero,λx h=>cw,λx hx _=>hI.done x hx (by rw[this];simp),⟨Nat.zero_le _,hI.len.2⟩⟩
  .split at h
   .cases h
   .rename_i h0 h1;exact SG n (ZX hI ae ae) h
def qc {y:cx}{all:List Key}(h:mN y=some all):fI∈all/\all.length<=48/\∀k∈all,∀row∈cZ y k,∀a∈row,a.k∈all:=by
 have:=SG 49 (ZT y) h;exact⟨this.zero,this.len.2,λk hk=>this.done k hk aF⟩
def zi {all:List Key}{k:Key}(h:k∈all):0<=eu all k/\eu all k<all.length:=by
 unfold eu;rcases gW (f:=λx=>decide (x=k)) (l:=all) (k:=0)with⟨_,h2⟩|⟨j,h1,h2,_⟩
 .obtain⟨i,hi,e⟩:=fS h;have:=h2 i hi;rw[e]at this;simp at this
 .rw[h1];omega
def PV (all:List Key)(k:Key):eu all k=-1\/∃j:Nat,eu all k=(j:Int)/\j<all.length:=by
 unfold eu;rcases gW (f:=λx=>decide (x=k)) (l:=all) (k:=0)with⟨h,_⟩|⟨j,h1,h2,_⟩
 .exact .inl h
 .exact .inr ⟨j,by rw[h1];omega,h2⟩
def Cd (r:Rec):Prop:=FY r/\iq r
def rb (s:av):ff s∈gJ:=by
 unfold ff;refine aq ?_;rcases gW (f:=λt=>decide (t=s)) (l:=j4) (k:=0)with⟨h,_⟩|⟨j,h,h2,_⟩
 .rw[h];decide
 .rw[h];have:j4.length=8:=rfl;have:gJ.length=8:=rfl;omega
def NV:∀s∈gJ,wc s=true:=by decide+kernel
def GB:∀s∈gJ,(s.rel.length<=2/\s.pr.length<=2)/\(∀x∈s.rel,(x.f.v.pre.length<=3/\x.f.v.build.length<=3)/\x.t.v.pre.length<=3/\x.t.v.build.length<=3)/\∀x∈s.pr,(x.f.v.pre.length<=3/\x.f.v.build.length<=3)/\x.t.v.pre.length<=3/\x.t.v.build.length<=3:=by decide+kernel
def aeQ (s:av):wc (ff s)=true:=NV _ (rb s)
def aeR (s:av):(ff s).sm:=by
 obtain⟨_,h1,h2⟩:=GB _ (rb s);constructor
 .intro x hx;obtain⟨a,b⟩:=h1 x hx;exact⟨⟨ae,ae⟩,ae,ae⟩
 .intro x hx;obtain⟨a,b⟩:=h2 x hx;exact⟨⟨ae,ae⟩,ae,ae⟩
def oo (x:c9):0<(fg x).length/\(fg x).length<=x.feats.length+1:=by
 unfold fg;rw[bV,bh];split
 .split
  .rename_i h;rw[h];simp
  .rename_i h;have:=List.length_pos_iff.2 h;simp only[b7];omega
 .simp only[List.length_singleton];omega
def wC (n:bp):Prop:=(0<n.any.length/\n.any.length<=3)/\∀w∈n.any,w.feats.length<=6
def tJ {n:bp}(h:wC n):(0<(iG n).length/\(iG n).length<=7)/\∀r∈iG n,0<r.length/\r.length<=3:=by
 obtain⟨⟨h0,h1⟩,h2⟩:=h;unfold iG;split
 .have h3:=oo n.any[0]!;have h4:=h2 _ (aq h0);rw[bh];refine⟨ae,λr hr=>?_⟩;obtain⟨k,_,rfl⟩:=ch.1 hr;simp
 .refine⟨aF,λr hr=>?_⟩;rw[aJ.1 hr,bh];exact⟨h0,h1⟩
def ij {α β:Type}{f:α->List β}{B:Nat}:∀{l:List α},(∀x∈l,(f x).length<=B)->(l.flatMap f).length<=B*l.length
 |[],_=>aF
 |a::r,h=>by
  have h1:=h a (.head _);have h2:=ij (f:=f) (B:=B) (l:=r) λx hx=>h x (.tail _ hx)
  rw[List.flatMap_cons,bV,bH,Nat.mul_succ];omega
theorem gh (h:Cd r):r.needs.length<=8/\∀n∈r.needs,wC n:=by
 have hf:=tx h;refine⟨hf.ns,λn hn=>?_⟩;obtain⟨⟨_,⟨h1,h2⟩,hp⟩,_⟩:=h;have h0:(lH r).1=0:=by grind [er]
 obtain⟨i,hi,rfl⟩:=fS hn;have h3:=qG h0 i hi;have h4:=(hf.n _ hn).1;refine⟨⟨?_,h4.1⟩,λw hw=>(h4.2 w hw).2.1⟩;unfold jy at h3;split at h3
 .cases h3
 .omega
def MI {e:Env}{o:av}{n:bp}(h:wC n):(Bo e o n).length<=7/\∀r∈Bo e o n,0<r.length/\r.length<=3:=by
 have:=tJ h;unfold Bo;split
 .exact⟨this.1.2,this.2⟩
 .exact⟨aF,λr hr=>by cases hr⟩
def xB {ns:List bp}{e:Env}{o:av}(h:∀n∈ns,wC n):(qR ns e o).length<=7*ns.length/\∀r∈qR ns e o,0<r.length/\r.length<=3:=by
 refine⟨ij λn hn=>(MI (h n hn)).1,λr hr=>?_⟩;obtain⟨n,hn,hr⟩:=List.mem_flatMap.1 hr;exact(MI (h n hn)).2 r hr
def Gn {e:Env}{n:bp}(h:wC n):(rL e nm ft n).length<=8/\∀r∈rL e nm ft n,0<r.length/\r.length<=3:=by
 have:=tJ h;unfold rL;split
 .rw[bV,List.length_singleton];split
  .exact⟨aF,λr hr=>by rw[pA]at hr;rw[aJ.1 hr];simp⟩
  .refine⟨ae,λr hr=>?_⟩;rcases List.mem_append.1 hr with hr|hr
   .exact this.2 r hr
   .rw[aJ.1 hr];simp
 .exact⟨aF,λr hr=>by cases hr⟩
def zk {ns:List bp}{e:Env}(h:∀n∈ns,wC n):(iT ns e nm ft).length<=8*ns.length/\∀r∈iT ns e nm ft,0<r.length/\r.length<=3:=by
 refine⟨ij λn hn=>(Gn (h n hn)).1,λr hr=>?_⟩;obtain⟨n,hn,hr⟩:=List.mem_flatMap.1 hr;exact(Gn (h n hn)).2 r hr
def tz {e:Env}{s:av}(h:Cd r):(mj r e s).length<=64/\∀w∈mj r e s,0<w.length/\w.length<=3:=by
 obtain⟨h1,h2⟩:=gh h;unfold mj;split
 .exact⟨aF,λw hw=>by rw[aJ.1 hw];simp⟩
 .split
  .have:=xB (e:=e) (o:=(bK s).2.1) h2;exact⟨ae,this.2⟩
  .have:=zk (e:=e) (nm:=(bK s).2.1) (ft:=(bK s).2.2) h2;exact⟨ae,this.2⟩
def xx (h:Cd r)(ft:av):(uY r.feats ft).length<=6/\∀s∈uY r.feats ft,rK s:=by
 have hf:=tx h;unfold uY;split
 .exact⟨aF,λs hs=>by cases hs⟩
 .rename_i h0;have hj:(findF r.feats ft 0).toNat<r.feats.length:=by
   unfold findF at h0⊢;rw[dM]at h0⊢;cases h1:r.feats.findIdx? (λx=>decide (x.name=ft))with
   |none=>rw[h1]at h0;exact absurd a7 h0
   |some k=>
    have:=(List.findIdx?_eq_some_iff_getElem.1 h1).1;simp only[cL,Int.toNat_natCast];exact this
  have hm:=aq (l:=r.feats) hj;exact⟨(hf.f _ hm).2,λs hs=>jn.it h.2.2.2.2 _ hm _ hs⟩
def lI {e:Env}(h:Cd r):(cJ r e ft).length<=385/\∀w∈cJ r e ft,0<w.length/\w.length<=3:=by
 obtain⟨h1,h2⟩:=gh h;unfold cJ;split
 .have:=xB (e:=e) (o:=[]) h2;exact⟨ae,this.2⟩
 .have h3:=ij (f:=mj r e) (B:=64) (l:=uY r.feats ft) λs _=>(tz h).1
  have h4:=(xx h ft).1;refine⟨K1,λw hw=>?_⟩;rcases List.mem_append.1 hw with hw|hw
  .rw[aJ.1 hw];simp
  .obtain⟨s,_,hs⟩:=List.mem_flatMap.1 hw;exact(tz h).2 w hs
def IF {shop:List cj}(h:eR shop=true){i:Nat}(hi:i<shop.length):gy shop[i]! =true:=by
 simp only[eR,aK,bG,zC]at h;exact(h.2 i (Nat.zero_le _) hi).1
def SW {s:cj}(h:gy s=true):s.es.length<=64:=by
 simp only[gy,aK,aX]at h;exact h.1.2
def aeW {s:cj}(h:gy s=true)(hs:∀x∈s.es,iq x.r):∀x∈s.es,Cd x.r:=by
 intro x hx;obtain⟨i,hi,rfl⟩:=fS hx;simp only[gy,aK,bG,sr,aX]at h;have h1:=(h.2 i (Nat.zero_le _) hi).1.1;refine⟨ma ?_,hs _ hx⟩;unfold fC at h1;split at h1
 .rename_i h2;exact absurd h1 h2
 .rename_i h2;exact Classical.not_not.1 h2
def aat (l:List cj)(nm:av):mz l nm=-1\/∃j:Nat,mz l nm=(j:Int)/\j<l.length:=by
 unfold mz;rcases gW (f:=F3 nm) (l:=l) (k:=0)with⟨h,_⟩|⟨j,h1,h2,_⟩
 .exact .inl h
 .exact .inr ⟨j,by rw[h1];omega,h2⟩
def XR (l:List cj)(nm:av):iD (CP nm) l 0=-1\/∃j:Nat,iD (CP nm) l 0=(j:Int)/\j<l.length:=by
 rcases gW (f:=CP nm) (l:=l) (k:=0)with⟨h,_⟩|⟨j,h1,h2,_⟩
 .exact .inl h
 .exact .inr ⟨j,by rw[h1];omega,h2⟩
def qS (l:List gI)(nm:av):lM l nm=-1\/∃j:Nat,lM l nm=(j:Int)/\j<l.length:=by
 unfold lM;rcases gW (f:=isM nm) (l:=l) (k:=0)with⟨h,_⟩|⟨j,h1,h2,_⟩
 .exact .inl h
 .exact .inr ⟨j,by rw[h1];omega,h2⟩
def pR {shop:List cj}{pins:List iH}(h:(fU shop pins nm).2=0):eR shop=true/\∃j:Nat,(fU shop pins nm).1=(j:Int)/\j<shop.length:=by
 unfold fU at*
 split at h
 .cases h
 .rename_i h1;refine⟨by simpa using h1, ?_⟩;rw[ai h1];split at h
  .cases h
  .rename_i h2;rw[ai h2];split at h
   .rename_i h3;rw[ak h3];split at h
    .cases h
    .rename_i h4;rw[ai h4];exact(aat _ _).resolve_left ae
   .rename_i h3;rw[ai h3];split at h
    .cases h
    .rename_i h4;rw[ai h4];exact(XR _ _).resolve_left ae
def Yb (es:List j8)(l:List Int)(i:Nat):(HF es l i).length=l.length+1:=by
 unfold HF;simp only[bV,ey,iQ,bH,b7];omega
def L8 {i:Nat}{x:Int}(h:x∈HF es l i):x∈l\/x=(i:Int):=by
 unfold HF at h;simp only[List.mem_append,aJ]at h;rcases h with(h|h)|h
 .exact .inl (zQ h)
 .exact .inr h
 .exact .inl (List.mem_of_mem_drop h)
def xf (es:List j8)(nm:av):∀i,(eF es nm i).length<=i/\∀x∈eF es nm i,0<=x/\x<(i:Int)
 |0=>⟨aT _,λx h=>cw⟩
 |i+1=>by
  obtain⟨h1,h2⟩:=xf es nm i;rw[eF];split
  .refine⟨by rw[Yb];omega,λx hx=>?_⟩;rcases L8 hx with h|h
   .have:=h2 x h;omega
   .omega
  .exact⟨ae,λx hx=>by have:=h2 x hx;omega⟩
def sD (s:cj)(nm:av):(kg s nm).length<=64/\∀x∈kg s nm,0<=x/\x<(s.es.length:Int):=by
 unfold kg;cases h:gy s with
 |false=>exact⟨aF,λx hx=>by simp at hx⟩
 |true=>
  rw[ai aF];have h1:=SW h;obtain⟨h2,h3⟩:=xf s.es nm s.es.length;exact⟨ae,h3⟩
def pX {y:cx}{nm:av}{a:Nat}:∀(l:List Int),(iS y nm a l).length<=l.length/\∀x∈iS y nm a l,(∃i∈l,x.r=y.shop[a]!.es[i.toNat]!.r)/\x.sh=(a:Int)
 |[]=>⟨aT _,λx h=>cw⟩
 |i::r=>by
  obtain⟨h1,h2⟩:=pX (y:=y) (nm:=nm) (a:=a) r;rw[iS];refine⟨?_,λx hx=>?_⟩
  .rw[bV,bH];split<;>simp<;>omega
  .rcases List.mem_append.1 hx with hx|hx
   .split at hx
    .rw[aJ.1 hx];exact⟨⟨i,.head _,rfl⟩,rfl⟩
    .cases hx
   .obtain⟨⟨j,h3,h4⟩,h5⟩:=h2 x hx;exact⟨⟨j,.tail _ h3,h4⟩,h5⟩
def pG:Prop:=(wE y.l/\jG y.shop)/\y.keeps.length<=1000/\(∀k∈y.keeps,k.v.sm)/\y.pins.length<=1000
def BP {m:gI}(h:Wj m):Cd m.r:=by
 obtain⟨⟨h1,h2⟩,_⟩:=h;refine⟨ma ?_,h2.1⟩;unfold kE at h1;split at h1
 .rename_i h3;exact absurd h1 h3
 .rename_i h3;exact Classical.not_not.1 h3
def look_ok {y:cx}(h:pG y)(nm:av):(dI y nm).length<=64/\∀x∈dI y nm,Cd x.r/\(x.sh=-1\/∃j:Nat,x.sh=(j:Int)/\j<y.shop.length):=by
 obtain⟨⟨⟨m,hm,hM⟩,hs⟩,_⟩:=h;unfold dI;split
 .rename_i h0;refine⟨aF,λx hx=>?_⟩;rw[aJ.1 hx];refine⟨?_,.inl rfl⟩;obtain⟨j,hj,hjl⟩:=(qS y.l nm).resolve_left ae;rw[hj,Int.toNat_natCast];have:=aq hjl;rw[hm]at this⊢;rw[aJ.1 this];exact BP hM
 .split
  .exact⟨aF,λx hx=>by cases hx⟩
  .rename_i h1;have h1:(cH y.shop y.pins nm).2.2=0:=Classical.not_not.1 h1;have h2:(fU y.shop y.pins nm).2=0:=by
    unfold cH at h1;split at h1
    .rename_i h3;exact absurd h1 h3
    .rename_i h3;exact Classical.not_not.1 h3
   obtain⟨hB,j,hj,hjl⟩:=pR h2;have e1:cH y.shop y.pins nm=((j:Int),kg y.shop[j]! nm,0):=by
    unfold cH;rw[ai (λh=>h h2),hj,Int.toNat_natCast]
   rw[e1];simp only[Int.toNat_natCast];obtain⟨h3,h4⟩:=sD y.shop[j]! nm;obtain⟨h5,h6⟩:=pX (y:=y) (nm:=nm) (a:=j) (kg y.shop[j]! nm);refine⟨ae,λx hx=>?_⟩;obtain⟨⟨i,hi,e⟩,hsh⟩:=h6 x hx;have:=h4 i hi;refine⟨?_,.inr ⟨j,hsh,hjl⟩⟩;rw[e];exact aeW (IF hB hjl) (hs _ (aq hjl)) _ (aq ae)
def xy {y:cx}(h:pG y)(k:Key):(eG y k).length<=64/\∀x∈eG y k,Cd x.r/\(x.sh=-1\/∃j:Nat,x.sh=(j:Int)/\j<y.shop.length):=by
 obtain⟨h1,h2⟩:=look_ok h k.n;exact⟨dN (List.length_filter_le _ _) h1,λx hx=>h2 x (List.mem_filter.1 hx).1⟩
def IC {y:cx}(h:pG y):(eH y.l).length=1/\∀r∈eH y.l,r.length=1:=by
 obtain⟨⟨⟨m,hm,hM⟩,hs⟩,_⟩:=h;rw[hm];exact⟨rfl,λr hr=>by rw[aJ.1 hr];rfl⟩
def aai {y:cx}(h:pG y)(k:Key):(cZ y k).length<=25000/\∀r∈cZ y k,0<r.length/\r.length<=3:=by
 unfold cZ;split
 .obtain⟨h1,h2⟩:=IC h;exact⟨ae,λr hr=>by have:=h2 r hr;omega⟩
 .obtain⟨h1,h2⟩:=xy h k;have h3:=ij (f:=λx=>cJ x.r y.e k.f) (B:=385) (l:=eG y k) λx hx=>(lI (h2 x hx).1).1
  refine⟨ae,λr hr=>?_⟩;obtain⟨x,hx,hr⟩:=List.mem_flatMap.1 hr;exact(lI (h2 x hx).1).2 r hr
def Ce (v:bO)(l:List fN):=∀r∈l,∀a∈r,a.s∈gJ\/a.s=dG v
def NT {v:bO}{a b:List fN}(h1:Ce v a)(h2:Ce v b):Ce v (a++b):=λr hr=>(List.mem_append.1 hr).elim (h1 r) (h2 r)
def Eb (v:bO):Ce v []:=λr hr=>by cases hr
def zA {v:bO}{f:α->List fN}{l:List α}(h:∀x∈l,Ce v (f x)):Ce v (l.flatMap f):=λr hr=>by
 obtain⟨x,hx,hr⟩:=List.mem_flatMap.1 hr;exact h x hx r hr
def Ec {v:bO}{a:jk}(h:a.s∈gJ\/a.s=dG v):Ce v [[a]]:=λr hr b hb=>by
 rw[aJ.1 hr]at hb;rw[aJ.1 hb];exact h
def Gz (v:bO)(n:bp):Ce v (iG n):=by
 unfold iG;split
 .intro r hr a ha;obtain⟨k,_,rfl⟩:=ch.1 hr;rw[aJ.1 ha];exact .inl (rb _)
 .intro r hr a ha;rw[aJ.1 hr]at ha;obtain⟨w,_,rfl⟩:=ch.1 ha;exact .inl (rb _)
def MJ (v:bO)(ns:List bp)(e:Env)(o:av):Ce v (qR ns e o):=zA λn _=>by
 unfold Bo;split
 .exact Gz v n
 .exact Eb v
def UU (v:bO)(ns:List bp)(e:Env)(nm ft:av):Ce v (iT ns e nm ft):=zA λn _=>by
 unfold rL;split
 .refine NT ?_ (Ec (.inl (rb _)));split
  .exact Eb v
  .exact Gz v n
 .exact Eb v
def Dm (r:Rec)(e:Env)(ft:av):Ce r.v (cJ r e ft):=by
 unfold cJ;split
 .exact MJ r.v _ _ _
 .refine NT (Ec (.inr rfl)) (zA λs _=>?_);unfold mj;split
  .exact Ec (.inr rfl)
  .split
   .exact MJ r.v _ _ _
   .exact UU r.v _ _ _ _
def GA {s:cu}{v:bO}(hv:v.sm)(h:s∈gJ\/s=dG v):s.sm:=by
 rcases h with h|rfl
 .obtain⟨_,h1,h2⟩:=GB _ h;constructor
  .intro x hx;obtain⟨a,b⟩:=h1 x hx;exact⟨⟨ae,ae⟩,ae,ae⟩
  .intro x hx;obtain⟨a,b⟩:=h2 x hx;exact⟨⟨ae,ae⟩,ae,ae⟩
 .exact FQ hv
def qg {all:List Key}{l:List fN}{r:nM}(h:r∈dF all l):∃q∈l,r=q.map λa=>⟨eu all a.k,a.s⟩:=by
 obtain⟨q,hq,rfl⟩:=ch.1 h;exact⟨q,hq,rfl⟩
def CndW (n:Nat)(c:fj):Prop:=(c.sm/\c.needs.length<=24/\c.bars.length<=24)/\(∀r∈c.needs,(0<r.length/\r.length<=3)/\∀w∈r,0<=w.u/\w.u<(n:Int))/\∀w∈c.bars,0<=w.u/\w.u<(n:Int)
def FI {all:List Key}{e:Env}{w:Want}(h:w∈wK all r e):(0<=w.u/\w.u<(all.length:Int))/\w.s∈gJ:=by
 obtain⟨b,_,hb⟩:=List.mem_flatMap.1 h;unfold qz at hb;split at hb
 .rename_i hc;rw[aJ.1 hb];refine⟨⟨hc.1, ?_⟩,rb _⟩;obtain⟨j,hj,hjl⟩:=(PV all ⟨b.name,[]⟩).resolve_left ae;show eu all ⟨b.name,[]⟩<_;omega
 .cases hb
def RH {y:cx}{all:List Key}{k:Key}{x:uG}(hx:Cd x.r)(hcl:∀row∈cJ x.r y.e k.f,∀a∈row,a.k∈all)(hw:ot (dA y all k x)=false):CndW all.length (dA y all k x):=by
 have h1:=Dm x.r y.e k.f;have h2:=(lI (e:=y.e) (ft:=k.f) hx).2;have hv:x.r.v.sm:=hx.2.1.2;simp only[ot,dX,b8]at hw;refine⟨⟨⟨hv, ?_, ?_⟩,ae,ae⟩, ?_, ?_⟩
 .intro r hr w hwr;obtain⟨q,hq,rfl⟩:=qg hr;obtain⟨a,ha,rfl⟩:=ch.1 hwr;exact GA hv (h1 q hq a ha)
 .intro w hwb;have hwb:w∈(if k.f=[]then wK all x.r y.e else []):=hwb;split at hwb
  .exact GA hv (.inl (FI hwb).2)
  .cases hwb
 .intro r hr;obtain⟨q,hq,rfl⟩:=qg hr;rw[bh];refine⟨h2 q hq,λw hwr=>?_⟩;obtain⟨a,ha,rfl⟩:=ch.1 hwr;exact zi (hcl q hq a ha)
 .intro w hwb;have hwb:w∈(if k.f=[]then wK all x.r y.e else []):=hwb;split at hwb
  .exact(FI hwb).1
  .cases hwb
def akk (k:Key):(eG y k).length<=(dI y k.n).length:=List.length_filter_le _ _
def yH {y:cx}{all:List Key}{k:Key}(hy:pG y)(hcl:∀row∈cZ y k,∀a∈row,a.k∈all)(h:(eo y all k).2=true):(eo y all k).1.length<=16/\∀c∈(eo y all k).1,CndW all.length c:=by
 unfold eo at*
 by_cases hk:k=fI
 .rw[ak hk];refine⟨aF,λc hc=>?_⟩;rw[aJ.1 hc];obtain⟨h1,h2⟩:=IC hy;have hrow:cZ y k=eH y.l:=by unfold cZ;rw[ak hk]
  rw[hrow]at hcl;obtain⟨⟨⟨m,hm,hM⟩,_⟩,_⟩:=hy;refine⟨⟨⟨G4, ?_,λw hw=>by cases hw⟩,by simp[dF,h1],aF⟩, ?_,λw hw=>by cases hw⟩
  .intro r hr w hw;obtain⟨q,hq,rfl⟩:=qg hr;rw[hm]at hq;rw[aJ.1 hq]at hw;obtain⟨a,ha,rfl⟩:=ch.1 hw;rw[aJ.1 ha];exact FQ (BP hM).2.1.2
  .intro r hr;obtain⟨q,hq,rfl⟩:=qg hr;have:=h2 q hq;rw[bh];refine⟨ae,λw hw=>?_⟩;obtain⟨a,ha,rfl⟩:=ch.1 hw;exact zi (hcl q hq a ha)
 .rw[ai hk]at h⊢;have hrow:cZ y k=(eG y k).flatMap λx=>cJ x.r y.e k.f:=by unfold cZ;rw[ai hk]
  rw[hrow]at hcl;split at h
  .cases h
  .rename_i hw;rw[ai hw];have hle:(dI y k.n).length<=16:=by simpa using h
   have:=akk y k;refine⟨oy,λc hc=>?_⟩;have hcw:ot c=false:=by
    cases hq:ot c with
    |false=>rfl
    |true=>exact absurd (List.any_eq_true.2 ⟨c,hc,hq⟩) hw
   obtain⟨x,hx,rfl⟩:=ch.1 hc;exact RH ((xy hy k).2 x hx).1 (λrow hr a ha=>hcl row (List.mem_flatMap.2 ⟨x,hx,hr⟩) a ha) hcw
def Ta {y:cx}{all:List Key}:∀n,n<=all.length->(nF y all n).2=true->(nF y all n).1=(all.take n).map (qi y all)/\∀i,i<n->(eo y all all[i]!).2=true
 |0,_,_=>⟨rfl,λi h=>absurd h (Nat.not_lt_zero i)⟩
 |n+1,hn,h=>by
  rw[nF]at h⊢;cases h0:(nF y all n).2 with
  |false=>rw[h0,ai aF]at h;rw[h0]at h;cases h
  |true=>
   rw[h0,ak rfl]at h;rw[ak rfl];obtain⟨h1,h2⟩:=Ta n ae h0;have e:all.take (n+1)=all.take n++[all[n]!]:=by
    rw[List.take_add_one,List.getElem?_eq_getElem ae];simp[show n<all.length by omega]
   refine⟨by rw[h1,e,List.map_append];rfl,λi hi=>?_⟩;rcases dZ i n with h3|h3
   .exact h2 i h3
   .obtain rfl:i=n:=ae;exact h
structure La (w:cA):Prop where
 len:0<w.us.length/\w.us.length<=48
 u:∀u∈w.us,u.cands.length<=16/\∀c∈u.cands,CndW w.us.length c
def qk {y:cx}(hy:pG y)(h:(cK y).2=true):∃all,mN y=some all/\(cK y).1.us=all.map (qi y all)/\(∀i,i<all.length->(eo y all all[i]!).2=true)/\La (cK y).1:=by
 unfold cK at*
 cases hr:mN y with
 |none=>rw[hr]at h;cases h
 |some all=>
  rw[hr]at h;obtain⟨h1,h2⟩:=Ta all.length (aT _) h;rw[List.take_length]at h1;obtain⟨r1,r2,r3⟩:=qc hr;refine⟨all,rfl,h1,h2, ?_⟩;have hl:(nF y all all.length).1.length=all.length:=by rw[h1,bh]
  refine⟨by show 0<(nF y all all.length).1.length/\(nF y all all.length).1.length<=48;rw[hl];exact⟨List.length_pos_of_mem r1,r2⟩, ?_⟩;show ∀u∈(nF y all all.length).1,u.cands.length<=16/\∀c∈u.cands,CndW (nF y all all.length).1.length c
  intro u hu;rw[h1]at hu;obtain⟨k,hk,rfl⟩:=ch.1 hu;rw[hl];obtain⟨i,hi,rfl⟩:=fS hk;exact yH hy (r3 _ hk) (h2 i hi)
theorem La.sm (h:La w):w.sm:=λu hu=>⟨(h.u u hu).1,λc hc=>((h.u u hu).2 c hc).1.1⟩
def La.few (h:La w):Few w.us:=λu hu c hc=>by
 obtain⟨⟨_,h1,h2⟩,h3,_⟩:=(h.u u hu).2 c hc;exact⟨ae,ae,λr hr=>by have:=(h3 r hr).1;omega⟩
def La.msk (h:La w):wB (dx w.us):=by
 obtain⟨hpos,hU⟩:=h;have hn:(dx w.us).needs.length=w.us.length:=by simp[dx,eC]
 have hb:(dx w.us).bars.length=w.us.length:=by simp[dx,jv]
 have hfu:(dx w.us).full.length=w.us.length:=by simp[dx,iN]
 refine⟨⟨ae,ae,ae,ae⟩,λu hu=>?_⟩;rw[hn]at hu⊢;have e1:(dx w.us).needs[u]! =eO w.us w.us[u]!.cands:=by unfold dx eC;dsimp only;rw[List.take_length,eZ hu]
 have e2:(dx w.us).bars[u]! =jx w.us w.us[u]!.cands:=by unfold dx jv;dsimp only;rw[List.take_length,eZ hu]
 obtain⟨h16,hC⟩:=hU _ (aq hu);rw[e1,e2];refine⟨⟨by simp[eO,jx],by simpa[eO]using h16⟩,λc hc r hr=>?_,λr hr x hx=>?_⟩
 .unfold eO at hc;obtain⟨cd,h1,rfl⟩:=ch.1 hc;unfold kU at hr;obtain⟨r0,h2,rfl⟩:=ch.1 hr;obtain⟨h3,h4⟩:=(hC cd h1).2.1 r0 h2;refine⟨by rw[show(eD w.us r0).length=r0.length by simp[eD]];omega,λx hx=>?_⟩;unfold eD at hx;obtain⟨y,h5,rfl⟩:=ch.1 hx;exact h4 y h5
 .unfold jx at hr;obtain⟨cd,h1,rfl⟩:=ch.1 hr;unfold eD at hx;obtain⟨y,h5,rfl⟩:=ch.1 hx;exact(hC cd h1).2.2 y h5
def eU (nm:av):List av:=if nm∈ns then ns else ns++[nm]
def jq (k:Key):List av:=if k=fI then ns else eU ns k.n
def sP (y:cx):Nat->oX->List av->List av
 |0,_,ns=>ns
 |n+1,s,ns=>if s.todo.length=0 then ns else if 48<(Bt y s).all.length then jq ns s.todo[0]! else sP y n (Bt y s) (jq ns s.todo[0]!)
def aaR (all:List Key)(ns:List av):Nat->List av
 |0=>ns
 |i+1=>jq (aaR all ns i) all[i]!
def Lr (nm:av):(eU ns nm).length<=ns.length+1:=by
 unfold eU;split
 .omega
 .rw[bV,List.length_singleton];exact aT _
def C5 (k:Key):(jq ns k).length<=ns.length+1:=by
 unfold jq;split
 .omega
 .exact Lr _ _
def M6 (y:cx):∀(n:Nat) (s:oX) (ns:List av),(sP y n s ns).length<=ns.length+n
 |0,s,ns=>aT _
 |n+1,s,ns=>by
  have h1:=C5 ns s.todo[0]!;rw[sP];split
  .omega
  .split
   .omega
   .have:=M6 y n (Bt y s) (jq ns s.todo[0]!);omega
def Om (all:List Key)(ns:List av):∀i,(aaR all ns i).length<=ns.length+i
 |0=>aT _
 |i+1=>by
  have h1:=C5 (aaR all ns i) all[i]!;have h2:=Om all ns i;rw[aaR];omega
def df (ns:List av):List D:=ns.map λnm=>uK (dI y nm)
def eN (a b n:Nat):D:=.agg [.own a 1 0 n,.own b 1 0 n]
def Cb (lf ln lr:Nat)(ns:List av)(m:List (Nat×bm)):Prop:=look m lf=some (.buf 2 [eN ln lr ns.length])/\look m ln=some (.buf 1 (ns.map D.str))/\look m lr=some (.buf 1 (df y ns))
def OB (Y:Ctx)(n:Nat)(y:cx)(aFY:D->List D)(ns ns':List av)(V:D):=∀(nx lf ln lr:Nat) (m:List (Nat×bm)) (K:D->St->Prop),lf<nx->ln<nx->lr<nx->ln≠lr->Cb y lf ln lr ns m->
 K V ⟨nx+2,(nx,.buf 1 (ns'.map D.str))::(nx+1,.buf 1 (df y ns'))::dh (dd (dd m ln) lr) lf (.buf 2 [eN nx (nx+1) ns'.length])⟩->Y.tr n (aFY (.ptr lf 2 0 0)) ⟨nx,m⟩ K
def Lg (ns':List av)(V:D):D->List (Nat×bm)->Prop:=λd m=>d=V/\∃j k:Nat,(0<j/\0<k/\j≠k)/\Cb y 0 j k ns' m
def jg (ns:List av):aP (df y ns)=true:=cb (λ_=>rfl) _
def IK:aP (ns.map D.str)=true:=cb (λ_=>rfl) _
def zx (ns:List av):(df y ns).length=ns.length:=bh ..
def afi (aFY:D->List D):=∀σ l l',nb 0 σ l=some l'->(aFY (.ptr l 2 0 0)).length=(aFY (.ptr l' 2 0 0)).length/\∀i,i<(aFY (.ptr l 2 0 0)).length->RnD 0 σ ((aFY (.ptr l 2 0 0)).getD i .any) ((aFY (.ptr l' 2 0 0)).getD i .any)
def fdR (ns:List av):D:=.ref 2 [.agg [.sl 1 (ns.map D.str),.sl 1 (df y ns)]] 0 0
def iPin (a b:iH):iH.D a=iH.D b↔a=b:=by cases a;cases b;simp[iH.D]
def X2 (a b:List iH):a.map iH.D=b.map iH.D↔a=b:=kO iPin a b
def afT (a b:kB):kB.D a=kB.D b↔a=b:=by cases a;cases b;simp[kB.D]
def XY (a b:List kB):a.map kB.D=b.map kB.D↔a=b:=kO afT a b
def iMan (a b:gI):gI.D a=gI.D b↔a=b:=by
 obtain⟨⟨n,⟨v1,v2,v3,v4,v5⟩,x,y,z⟩,p,q⟩:=a;obtain⟨⟨n',⟨w1,w2,w3,w4,w5⟩,x',y',z'⟩,p',q'⟩:=b;simp[gI.D,CX,L3,CV,X2,XY,and_assoc]
def afV (a b:List gI):a.map gI.D=b.map gI.D↔a=b:=kO iMan a b
def afU (a b:Key):Key.D a=Key.D b↔a=b:=by cases a;cases b;simp[Key.D]
def iKeys (a b:List Key):a.map Key.D=b.map Key.D↔a=b:=kO afU a b
def iKp (a b:Kp):Kp.D a=Kp.D b↔a=b:=by
 obtain⟨n,⟨v1,v2,v3,v4,v5⟩⟩:=a;obtain⟨n',⟨w1,w2,w3,w4,w5⟩⟩:=b;simp[Kp.D,and_assoc]
def iKps (a b:List Kp):a.map Kp.D=b.map Kp.D↔a=b:=kO iKp a b
def iAsd (a b:jk):jk.D a=jk.D b↔a=b:=by
 obtain⟨⟨n,f⟩,⟨x,y⟩⟩:=a;obtain⟨⟨n',f'⟩,⟨x',y'⟩⟩:=b;simp[jk.D,CY,and_assoc]
def afR (a b:fN):dU a=dU b↔a=b:=by simp only[dU,D.sl.injEq,ee];exact kO iAsd a b
def ajx (a b:List fN):a.map dU=b.map dU↔a=b:=kO afR a b
def iYrd (y y':cx)(f f':D):cx.D y f=cx.D y' f'↔y=y'/\f=f':=by
 obtain⟨l,s,⟨a,b,c⟩,k,p⟩:=y;obtain⟨l',s',⟨a',b',c'⟩,k',p'⟩:=y';simp[cx.D,afV,X3,iKps,X2,and_assoc]
def W5 {A:RT->Prop}(h:A (λds d=>A λds' d'=>ds'=ds->d=d'):=by
 (repeat' first|apply And.intro|intro _)
 all_goals rename_i e
 all_goals (try simp only[th,D.str.injEq,D.int.injEq,D.bool.injEq,D.sl.injEq,D.ref.injEq,D.agg.injEq,D.fn.injEq,X5,Uf,iByt,iVer,X8,Pb,X1,CX,iBar,L3,XX,CV,iRec,XW,iEtr,iShf,X3,iEnv,iLkd,X0,iLck,iCut,afS,X4,CY,iSet,X7,HB,X9,Pc,iCnd,XV,iUnt,X6,iWld,iKey,iGs,afW,iTrm,afX,iTr,iTrL,iMsk,iAsk,XZ,iMan,afV,iPin,X2,afT,XY,afU,iKeys,iKps,iAsd,afR,ajx,iYrd,List.map_cons,List.map_nil,iU8,pB,iNat,dE,ee,reduceCtorEq,iB,iA]at e)
 all_goals first|rfl|(simp only[e];done)|simp_all):Det (HL A):=ah7 h
def rW {a b:Nat}(h:a≠b):Nat.beq a b=false:=by
 cases q:Nat.beq a b with
 |false=>rfl
 |true=>exact absurd (Nat.eq_of_beq_eq_true q) h
def RV {σ:List (Nat×Nat)}{a b a' b':Nat}(h1:nb 0 σ a=some a')(h2:nb 0 σ b=some b'):vZ 0 σ (eN a b n)=some (eN a' b' n):=by simp only[eN,vZ,rY,VQ,h1,h2]
section
variable [cI]{P:Program}{ν:List (Nat×Nat)}{bR:List Nat}{t:List (Nat×mG)}{fid key u:Nat}{af:aj}{y:cx}{aFY:D->List D}{ns ns':List av}{V:D}{lf ln lr nx:Nat}{m:List (Nat×bm)}{K:D->St->Prop}
def nR (has:afi aFY)(hV:V.aU=true)(hmix:P.follows .mixedOrders=true)(hC:V8 P ν bR fid af)(hnp:(aFY (.ptr 0 2 0 0)).length=af.np)(h1:lf<nx)(h2:ln<nx)(h3:lr<nx)(hne:ln≠lr)(hat:Cb y lf ln lr ns m)(hK:K V ⟨nx+2,(nx,.buf 1 (ns'.map D.str))::(nx+1,.buf 1 (df y ns'))::dh (dd (dd m ln) lr) lf (.buf 2 [eN nx (nx+1) ns'.length])⟩)(hw:dk ((under t key u).at 3) af.body (wD af (Lg y ns' V)) (fP af (aFY (.ptr 0 2 0 0))) ⟨3,[(0,.buf 2 [eN 1 2 ns.length]),(1,.buf 1 (ns.map D.str)),(2,.buf 1 (df y ns))]⟩):wA P ν bR (under t key u) fid (aFY (.ptr lf 2 0 0)) ⟨nx,m⟩ K:=by
 obtain⟨a1,a2,a3⟩:=hat;have n1:lf≠ln:=by
  rintro rfl;rw[a1]at a2;exact absurd (bm.buf.inj (bc a2)).1 a7
 have n2:lf≠lr:=by
  rintro rfl;rw[a1]at a3;exact absurd (bm.buf.inj (bc a3)).1 a7
 have b1:=rW n1;have b2:=rW n2;have b3:=rW hne;have c1:=rW n1.symm;have c2:=rW n2.symm;have c3:=rW hne.symm;have g3:ig 0 3 [(lf,0),(ln,1),(lr,2)]=true:=by simp[ig,b1,b2,b3,c1,c2,c3];decide
 have g4:∀l i,(l,i)∈[(lf,0),(ln,1),(lr,2)]->look m l≠none:=by
  intro l i h;simp only[bU,dw,de,or_false]at h;rcases h with⟨rfl,_⟩|⟨rfl,_⟩|⟨rfl,_⟩<;>simp[a1,a2,a3]
 have g5:∀i b,look [(0,.buf 2 [eN 1 2 ns.length]),(1,.buf 1 (ns.map D.str)),(2,.buf 1 (df y ns))] i=some b->∃l b',(l,i)∈[(lf,0),(ln,1),(lr,2)]/\look m l=some b'/\qx 0 [(lf,0),(ln,1),(lr,2)] b' b:=by
  intro i b h;simp only[look]at h;split at h
  .rename_i e;subst e;obtain rfl:=bc h;exact⟨lf,_,.head _,a1,rfl,.inr (.inl (by simp only[rY,RV (σ:=[(lf,0),(ln,1),(lr,2)]) (a:=ln) (b:=lr) (a':=1) (b':=2) (by simp[nb,b1]) (by simp[nb,b2,b3])]))⟩
  .split at h
   .rename_i e;subst e;obtain rfl:=bc h;exact⟨ln,_,.tail _ (.head _),a2,rfl,.inl ⟨rfl,IK ns⟩⟩
   .split at h
    .rename_i e;subst e;obtain rfl:=bc h;exact⟨lr,_,.tail _ (.tail _ (.head _)),a3,rfl,.inl ⟨rfl,jg y ns⟩⟩
    .cases h
 obtain⟨e1,e2⟩:=has [(lf,0),(ln,1),(lr,2)] lf 0 (by simp[nb]);refine R0 (σi:=[(lf,0),(ln,1),(lr,2)]) (cs:=aFY (.ptr 0 2 0 0)) (λq=>Ob t key u q) hmix hC e1.symm e2 hnp g3 g4 g5 hw ?_;rintro d m1 ⟨rfl,j,k,⟨hj,hk,hjk⟩,d1,d2,d3⟩;have q1:Nat.beq 0 j=false:=rW ae;have q2:Nat.beq 0 k=false:=rW ae;have q3:Nat.beq j k=false:=rW hjk;have q4:Nat.beq j 0=false:=rW ae;have q5:Nat.beq k 0=false:=rW ae;have q6:Nat.beq k j=false:=rW (Ne.symm hjk);have r1:Nat.beq lf nx=false:=rW ae;have r2:Nat.beq lf (nx+1)=false:=rW ae;have r3:Nat.beq nx (nx+1)=false:=rW ae;have r4:Nat.beq nx lf=false:=rW ae;have r5:Nat.beq (nx+1) lf=false:=rW ae;have r6:Nat.beq (nx+1) nx=false:=rW ae;refine⟨[(0,lf),(j,nx),(k,nx+1)],j+k+1,_,d,⟨g3, ?_,Nat.le_add_right _ _,g4, ?_,g5, ?_⟩,.inl ⟨rfl,hV⟩,hK⟩
 .simp[ig,q1,q2,q3,q4,q5,q6,r1,r2,r3,r4,r5,r6];omega
 .intro i l h;simp only[bU,dw,de,or_false]at h;rcases h with⟨rfl,rfl⟩|⟨rfl,rfl⟩|⟨rfl,rfl⟩
  .exact .inl (.head _)
  .exact .inr (aT _)
  .exact .inr (Nat.le_succ _)
 .intro l bb h;simp only[look]at h;split at h
  .rename_i e;subst e;obtain rfl:=bc h;exact .inl ⟨j,_,.tail _ (.head _),d2,rfl,.inl ⟨rfl,IK _⟩⟩
  .rename_i hln;split at h
   .rename_i e;subst e;obtain rfl:=bc h;exact .inl ⟨k,_,.tail _ (.tail _ (.head _)),d3,rfl,.inl ⟨rfl,jg _ _⟩⟩
   .rename_i hln2;rw[bM]at h;split at h
    .rename_i e;subst e;obtain rfl:=bc h;exact .inl ⟨0,_,.head _,d1,rfl,.inr (.inl (by simp only[rY,RV (σ:=[(0,l),(j,nx),(k,nx+1)]) (a:=j) (b:=k) (a':=nx) (b':=nx+1) (by simp[nb,q1]) (by simp[nb,q2,q3])]))⟩
    .rename_i hlf;rw[fm]at h;split at h
     .cases h
     .rename_i hl3;rw[fm]at h;split at h
      .cases h
      .rename_i hl2;refine .inr ⟨by simp only[oC,ai (λe=>hlf (Eq.symm e)),ai hln,ai hln2],λi hi=>?_,h⟩;simp only[bU,dw,de,or_false]at hi;rcases hi with⟨rfl,_⟩|⟨rfl,_⟩|⟨rfl,_⟩
       .exact hlf rfl
       .exact hl2 rfl
       .exact hl3 rfl
end
def nQ {β:Type}[Inhabited α]{f:α->List β}{l:List α}{i:Nat}(h:i<l.length):(l.take (i+1)).flatMap f=(l.take i).flatMap f++f l[i]! :=by
 have e:l.take (i+1)=l.take i++[l[i]!]:=by
  rw[List.take_add_one,List.getElem?_eq_getElem h];simp[h]
 rw[e,List.flatMap_append];simp
def map_take {β:Type}[Inhabited α]{f:α->β}{l:List α}{i:Nat}(h:i<l.length):(l.take (i+1)).map f=(l.take i).map f++[f l[i]!]:=by
 have e:l.take (i+1)=l.take i++[l[i]!]:=by
  rw[List.take_add_one,List.getElem?_eq_getElem h];simp[h]
 rw[e,List.map_append];rfl
def GS {β:Type}{f:α->β}(xs:List α):(xs.map f).take xs.length=xs.map f:=by rw[<-bh (f:=f),List.take_length]
def FU [Inhabited α]{f:α->Bool}{l:List α}{i:Nat}(h:i<l.length):(l.take (i+1)).filter f=(l.take i).filter f++(if f l[i]! =true then [l[i]!]else []):=by
 have e:l.take (i+1)=l.take i++[l[i]!]:=by
  rw[List.take_add_one,List.getElem?_eq_getElem h];simp[h]
 rw[e,List.filter_append,List.filter_cons,List.filter_nil]
def WX {m:gI}(h:¬(cV m.r).1=0):kE m=cV m.r:=ak h
def WV {m:gI}(h:¬¬(cV m.r).1=0)(h2:8<m.ps.length\/8<m.hs.length):kE m=(3,0):=by unfold kE;rw[ai h,ak h2]
def WW {m:gI}(h:¬¬(cV m.r).1=0)(h2:¬(8<m.ps.length\/8<m.hs.length)){q:Int×Int}(h3:Dv m.ps=q)(h4:¬q.1=0):kE m=q:=by
 subst h3;unfold kE;rw[ai h,ai h2,ak h4]
def WU {m:gI}(h:¬¬(cV m.r).1=0)(h2:¬(8<m.ps.length\/8<m.hs.length))(h3:(Dv m.ps).1=0){q:Int×Int}(h4:CU m.hs=q):kE m=q:=by
 subst h4;unfold kE;rw[ai h,ai h2,ai (λh=>h h3)]
def MX {l:List iH}{i:Nat}(h:(dc l[i]!.name=false\/dc l[i]!.shelf=false)\/(0<i/\Op.bytesLess l[i-1]!.name l[i]!.name=false)):MW l i=15:=ak h
def Sy {l:List iH}{i:Nat}(h:¬((dc l[i]!.name=false\/dc l[i]!.shelf=false)\/(0<i/\Op.bytesLess l[i-1]!.name l[i]!.name=false))):MW l i=0:=ai h
def adC {l:List kB}{i:Nat}(h:dc l[i]!.name=false\/(0<i/\Op.bytesLess l[i-1]!.name l[i]!.name=false)):CS l i=4:=ak h
def adD {l:List kB}{i:Nat}(h:¬(dc l[i]!.name=false\/(0<i/\Op.bytesLess l[i-1]!.name l[i]!.name=false)))(h2:qW l[i]!.range=false):CS l i=6:=by unfold CS;rw[ai h,ak h2]
def XU {l:List kB}{i:Nat}(h:¬(dc l[i]!.name=false\/(0<i/\Op.bytesLess l[i-1]!.name l[i]!.name=false)))(h2:qW l[i]!.range=true):CS l i=0:=by unfold CS;rw[ai h,ai (by rw[h2];simp)]
def yt {l:List gI}(h:wE l):l.length=1/\∀i,i<l.length->Wj l[i]! :=by
 obtain⟨m,rfl,hm⟩:=h;refine⟨rfl,λi hi=>?_⟩;obtain rfl:i=0:=by simpa using hi
 exact hm
def aj6 {m:gI}(h:Wj m):kE m=(0,0):=by
 obtain⟨⟨h1,_⟩,_⟩:=h;have h0:=h1;unfold kE at h1⊢;split
 .rename_i h2;rw[ak h2]at h1;exact absurd h1 h2
 .rename_i h2;rw[ai h2]at h1;split
  .rename_i h3;rw[ak h3]at h1;cases h1
  .rename_i h3;rw[ai h3]at h1;split
   .rename_i h4;rw[ak h4]at h1;exact absurd h1 h4
   .rename_i h4;rw[ai h4]at h1;exact CJ _ _ _ h1
def QX {l:List gI}(h:wE l){i:Nat}(hi:i<l.length):lM l l[i]!.r.name=(i:Nat):=by
 obtain⟨m,rfl,hm⟩:=h;obtain rfl:i=0:=by simpa using hi
 show iD (isM m.r.name) [m] 0=0;simp[iD,isM]
def tP {l:List gI}(h:wE l){i:Nat}(hi:i<l.length):l[i]!.ps=gu l/\l[i]!.hs=l[0]!.hs/\l[i]!.ps.length<=1/\l[i]!.hs.length<=1:=by
 have h1:=yt h;obtain rfl:i=0:=ae;exact⟨rfl,rfl,(h1.2 0 hi).2⟩
def ajw {l:List gI}{k:Nat}(hk:k=0)(h:k<l[0]!.hs.length)(h2:l[0]!.hs[k]!.name=nm):kL l nm=ff l[0]!.hs[k]!.range:=by
 subst hk;unfold kL;rw[ak ⟨ae,h2⟩]
def ajv {l:List gI}{k:Nat}(hk:k=0)(h2:¬l[0]!.hs[k]!.name=nm):kL l nm=pH:=by
 subst hk;unfold kL;rw[ai λh=>h2 h.2]
def aju {l:List gI}{k:Nat}(hk:k=l[0]!.hs.length):(if k=0 then pH else kL l nm)=kL l nm:=by
 split
 .unfold kL;rw[ai λh=>h.1 ae]
 .rfl
def lL (l:List iH)(p:iH):List iH×Bool:=
 if kPin l p 0<l.length/\l[kPin l p 0]!.name=p.name then(l,decide (l[kPin l p 0]! =p))else((l.take (kPin l p 0)++[p])++l.drop (kPin l p 0),true)
where kPin (l:List iH) (p:iH) (i:Nat):Nat:=i+((l.drop i).takeWhile λx=>Op.bytesLess x.name p.name).length
def Ul {l:List iH}{p:iH}{i:Nat}(h:i<l.length)(hc:Op.bytesLess l[i]!.name p.name=true):lL.kPin l p i=lL.kPin l p (i+1):=by
 unfold lL.kPin;rw[fh h,List.takeWhile_cons_of_pos (by simpa[h]using hc)];simp;omega
def Um {l:List iH}{p:iH}{i:Nat}(h:i<l.length->Op.bytesLess l[i]!.name p.name=false):lL.kPin l p i=i:=by
 unfold lL.kPin;rcases dZ i l.length with hi|hi
 .rw[fh hi,List.takeWhile_cons_of_neg (by simpa[hi]using h hi)];rfl
 .rw[j7 hi];rfl
def Zi {k:Nat}(hk:k=0){l:List iH}(h:k<l.length):lL (l.take k) l[k]! =(l.take (k+1),true):=by
 subst hk;cases l with
 |nil=>cases h
 |cons a r=>rfl
def Yf {l:List Key}{k:Key}{i:Nat}(h:i<l.length)(hc:e7 l[i]! k=true):Fh l k i=Fh l k (i+1):=by
 unfold Fh;rw[fh h,List.takeWhile_cons_of_pos (by simpa[h]using hc)];simp;omega
def Yg {l:List Key}{k:Key}{i:Nat}(h:i<l.length->e7 l[i]! k=false):Fh l k i=i:=by
 unfold Fh;rcases dZ i l.length with hi|hi
 .rw[fh hi,List.takeWhile_cons_of_neg (by simpa[hi]using h hi)];rfl
 .rw[j7 hi];rfl
def Ug {i k:Nat}(h:k<l.length)(hc:jm es[(l[k]!).toNat]!.r.v es[i]!.r.v<0):Bj es l i k=Bj es l i (k+1):=by
 unfold Bj;rw[fh h,List.takeWhile_cons_of_pos (by simpa[h]using hc)];simp;omega
def Uh {i k:Nat}(h:k<l.length->¬jm es[(l[k]!).toNat]!.r.v es[i]!.r.v<0):Bj es l i k=k:=by
 unfold Bj;rcases dZ k l.length with hi|hi
 .rw[fh hi,List.takeWhile_cons_of_neg (by simpa[hi]using h hi)];rfl
 .rw[j7 hi];rfl
theorem Key.eqD (a b:Key):gU (Key.D a).cells (Key.D b).cells=decide (a=b):=by
 obtain⟨a1,a2⟩:=a;obtain⟨b1,b2⟩:=b
 grind [Key.D,D.cells,gU,tt]
theorem iH.eq (a b:iH):gU (iH.D a).cells (iH.D b).cells=decide (a=b):=by
 obtain⟨a1,a2⟩:=a;obtain⟨b1,b2⟩:=b
 grind [iH.D,D.cells,gU,tt]
def Zg {l:List iH}{i:Nat}(h:(dc l[i]!.name=false\/dc l[i]!.shelf=false)\/(0<i/\Op.bytesLess l[i-1]!.name l[i]!.name=false)):decide (MW l i=0)=false:=by rw[MX h];rfl
def US {l:List iH}{i:Nat}(h:¬((dc l[i]!.name=false\/dc l[i]!.shelf=false)\/(0<i/\Op.bytesLess l[i-1]!.name l[i]!.name=false))):decide (MW l i=0)=true:=by rw[Sy h];rfl
def Zb {ns:List bp}{e:Env}{o:av}{i:Nat}(h:i<ns.length):qR (ns.take i) e o++Bo e o ns[i]! =qR (ns.take (i+1)) e o:=by unfold qR;rw[nQ h]
def akz {e:Env}{o:av}{n:bp}(h:n.option=o/\Gj n.when' e=true):Bo e o n=iG n:=by unfold Bo;rw[ak h]
def aky {e:Env}{o:av}{n:bp}(h:¬n.option=o\/Gj n.when' e=false):Bo e o n=[]:=by unfold Bo;rw[ai (by rintro⟨h1,h2⟩;rcases h with h|h;exact h h1;rw[h]at h2;cases h2)]
def H8 {ns:List bp}{e:Env}{i:Nat}(h:i<ns.length):iT (ns.take i) e nm ft++rL e nm ft ns[i]! =iT (ns.take (i+1)) e nm ft:=by unfold iT;rw[nQ h]
def aey {e:Env}{n:bp}(h:(¬(n.any.length:Int)=1\/¬n.any[0]!.name=nm)\/Gj n.when' e=false):rL e nm ft n=[]:=by
 unfold rL;rw[ai];rintro⟨⟨h1,h2⟩,h3⟩;rcases h with(h|h)|h
 .omega
 .exact h h2
 .rw[h]at h3;cases h3
def Y9 (n:bp):List fN:=if n.option=[]then []else iG n
def SC {e:Env}{n:bp}(h:((n.any.length:Int)=1/\n.any[0]!.name=nm)/\Gj n.when' e=true):rL e nm ft n=Y9 n++[[⟨⟨nm,ft⟩,ff n.any[0]!.range⟩]]:=by
 unfold rL;rw[ak ⟨⟨ae,h.1.2⟩,h.2⟩];rfl
def y9 (r:Rec)(e:Env)(ft:av)(i:Nat):List fN:=[[⟨⟨r.name,[]⟩,dG r.v⟩]]++((uY r.feats ft).take i).flatMap (mj r e)
def PF {e:Env}{i:Nat}(h:i<(uY r.feats ft).length):y9 r e ft i++mj r e (uY r.feats ft)[i]! =y9 r e ft (i+1):=by unfold y9;rw[nQ h,fF]
def aka {e:Env}(h:¬ft=[]):y9 r e ft (uY r.feats ft).length=cJ r e ft:=by unfold y9 cJ;rw[ai h,List.take_length]
def YJ {e:Env}(h:Cd r)(i:Nat):(y9 r e ft i).length<=1+384:=by
 have h2:=(xx h ft).1;have h1:=ij (f:=mj r e) (B:=64) (l:=(uY r.feats ft).take i) λs _=>(tz h).1
 unfold y9;rw[ey]at h1;rw[bV,List.length_singleton];have:64*min i (uY r.feats ft).length<=64*6:=Nat.mul_le_mul_left _ ae;omega
def ajM {e:Env}{s:av}(h:(bK s).1=1):mj r e s=[[⟨⟨r.name,(bK s).2.1⟩,dG r.v⟩]]:=by unfold mj;rw[ak h]
def ajN {e:Env}{s:av}(h:¬(bK s).1=1)(h2:(bK s).1=2):mj r e s=qR r.needs e (bK s).2.1:=by unfold mj;rw[ai h,ak h2]
def ajO {e:Env}{s:av}(h:¬(bK s).1=1)(h2:¬(bK s).1=2):mj r e s=iT r.needs e (bK s).2.1 (bK s).2.2:=by unfold mj;rw[ai h,ai h2]
def T2 (l:List bY)(nm:av):findF l nm 0=-1\/∃j:Nat,findF l nm 0=(j:Int)/\j<l.length:=by
 unfold findF;rw[dM];cases h:l.findIdx? (λx=>decide (x.name=nm))with
 |none=>exact .inl rfl
 |some k=>exact .inr ⟨k,aF,(List.findIdx?_eq_some_iff_getElem.1 h).1⟩
def rT (all:List Key)(r:fN)(i:Nat):nM:=(r.take i).map λa=>⟨eu all a.k,a.s⟩
def ae5 {all:List Key}{r:fN}{i:Nat}(h:i<r.length):rT all r i++[⟨eu all r[i]!.k,r[i]!.s⟩]=rT all r (i+1):=by unfold rT;rw[map_take h]
def VF (all:List Key)(r:fN)(i:Nat):(rT all r i).length<=i:=by unfold rT;rw[bh,ey];omega
def ae4 {all:List Key}{l:List fN}{i:Nat}(h:i<l.length):dF all (l.take i)++[rT all l[i]! l[i]!.length]=dF all (l.take (i+1)):=by unfold dF rT;rw[map_take h,List.take_length]
def VE (all:List Key)(l:List fN)(i:Nat):(dF all (l.take i)).length<=i:=by unfold dF;rw[bh,ey];omega
def Rx {all:List Key}{e:Env}{i:Nat}(h:i<r.bars.length):(r.bars.take i).flatMap (qz all e)++qz all e r.bars[i]! =(r.bars.take (i+1)).flatMap (qz all e):=by rw[nQ h]
def ahU {all:List Key}{e:Env}{b:mF}(h:0<=eu all ⟨b.name,[]⟩/\Gj b.when' e=true):qz all e b=[⟨eu all ⟨b.name,[]⟩,ff b.range⟩]:=by unfold qz;rw[ak h]
def ahT {all:List Key}{e:Env}{b:mF}(h:¬0<=eu all ⟨b.name,[]⟩\/Gj b.when' e=false):qz all e b=[]:=by unfold qz;rw[ai (by rintro⟨h1,h2⟩;rcases h with h|h;exact h h1;rw[h]at h2;cases h2)]
def WH (all:List Key)(e:Env)(b:mF):(qz all e b).length<=1:=by unfold qz;split<;>simp
def TP (all:List Key)(e:Env)(l:List mF)(i:Nat):((l.take i).flatMap (qz all e)).length<=i:=by
 have h:=ij (f:=qz all e) (B:=1) (l:=l.take i) λb _=>WH all e b
 rw[ey]at h;omega
def alf {l:List gI}{i:Nat}(h:i<l.length):eH (l.take i)++[[⟨⟨l[i]!.r.name,ll⟩,dG l[i]!.r.v⟩]]=eH (l.take (i+1)):=by unfold eH;rw[map_take h]
def aag (l:List gI)(i:Nat):(eH (l.take i)).length<=i:=by unfold eH;rw[bh,ey];omega
def adu (l k:Nat)(es:List Abs.D)(xs:List nM):oL l k es (xs.map jC)=xs.map jC:=kJ l k es _ (cb (λ_=>rfl) _)
def gI.fz (l k:Nat)(es:List Abs.D)(c:gI):iX l k es c.D=c.D:=gV l k es _ rfl
def mF.fz (l k:Nat)(es:List Abs.D)(c:mF):iX l k es c.D=c.D:=gV l k es _ rfl
def jk.fz (l k:Nat)(es:List Abs.D)(c:jk):iX l k es c.D=c.D:=gV l k es _ rfl
section
variable {shop:List cj}{ps:List iH}
def ajm (h:eR shop=false):fU shop ps nm=(0,1):=by unfold fU;rw[ak h]
def ajn (h:eR shop=true)(h2:Ay ps=false):fU shop ps nm=(0,15):=by unfold fU;rw[ai mS,ak h2]
def ajo {i:Nat}(h:eR shop=true)(h2:Ay ps=true)(h3:Fu ps nm=(i:Nat))(h4:mz shop ps[i]!.shelf<0):fU shop ps nm=(0,12):=by
 unfold fU;rw[ai mS,ai (by rw[h2];simp),ak ae,h3,Int.toNat_natCast,ak h4]
def ajp {i:Nat}(h:eR shop=true)(h2:Ay ps=true)(h3:Fu ps nm=(i:Nat))(h4:¬mz shop ps[i]!.shelf<0):fU shop ps nm=(mz shop ps[i]!.shelf,0):=by
 unfold fU;rw[ai mS,ai (by rw[h2];simp),ak ae,h3,Int.toNat_natCast,ai h4]
def ajq (h:eR shop=true)(h2:Ay ps=true)(h3:Fu ps nm=-1)(h4:iD (CP nm) shop 0=(j:Nat)):fU shop ps nm=(((j:Nat):Int),0):=by
 unfold fU;rw[ai mS,ai (by rw[h2];simp),ai ae,h4,ai ae]
def ajr (h:eR shop=true)(h2:Ay ps=true)(h3:Fu ps nm=-1)(h4:iD (CP nm) shop 0=-1):fU shop ps nm=(0,9):=by
 unfold fU;rw[ai mS,ai (by rw[h2];simp),ai ae,h4];rfl
end
def adJ {i k:Nat}(h:Bj es l i 0=k):(l.take k++[((i:Nat):Int)])++l.drop k=HF es l i:=by unfold HF;rw[h]
def adV {i:Nat}(h:es[i]!.r.name=nm):HF es (eF es nm i) i=eF es nm (i+1):=by rw[eF,ak h]
def adU {i:Nat}(h:¬es[i]!.r.name=nm):eF es nm i=eF es nm (i+1):=by rw[eF,ai h]
def adT {s:cj}(h:gy s=true):eF s.es nm s.es.length=kg s nm:=by unfold kg;rw[h,ai aF]
def aeC {l:List Key}{k:Key}{i:Nat}(h:Fh l k 0=i)(h2:¬(i<l.length/\l[i]! =k)):(l.take i++[k])++l.drop i=sN l k:=by unfold sN;rw[h,ai h2]
def aeA {l:List Key}{k:Key}{i:Nat}(h:Fh l k 0=i)(h2:i<l.length/\l[i]! =k):l=sN l k:=by unfold sN;rw[h,ak h2]
def Ep {l:List α}{i:Nat}{x:α}(h:x∈l.take i):x∈l:=zQ h
def kY (x:c9):List Key:=if x.bare=true then []else [⟨x.name,ll⟩]
def om (x:c9):List Key:=if x.bare=true then(if x.feats=[]then [⟨x.name,[]⟩]else [])else [⟨x.name,ll⟩]
def mP (x:c9)(i:Nat):List Key:=om x++(x.feats.take i).map (Key.mk x.name)
def aaC {x:c9}(h:x.bare=false):kY x=[⟨x.name,ll⟩]:=by unfold kY;rw[h];rfl
def aaD {x:c9}(h:x.bare=true):kY x=[]:=by unfold kY;rw[ak h]
def aaF {x:c9}(h:x.bare=true/\(x.feats.length:Int)=0):kY x++[⟨x.name,[]⟩]=om x:=by
 have:x.feats=[]:=aa8.1 ae;unfold kY om;rw[ak h.1,ak h.1,ak this];rfl
def aaE {x:c9}(h:x.bare=false\/¬(x.feats.length:Int)=0):kY x=om x:=by
 unfold kY om;cases hb:x.bare with
 |false=>rfl
 |true=>
  have h2:=h.resolve_left (by rw[hb];simp);have:¬x.feats=[]:=λe=>h2 (by rw[e];rfl)
  rw[ak rfl,ak rfl,ai this]
def QP (x:c9):(kY x).length<=1:=by unfold kY;split<;>simp
def QQ (x:c9):(om x).length<=1:=by unfold om;split<;>(try split)<;>simp
def QR (x:c9)(i:Nat):(mP x i).length<=1+i:=by
 have:=QQ x;unfold mP;rw[bV,bh,ey];omega
def aaG (x:c9):om x=mP x 0:=by unfold mP;simp
def aaI {x:c9}{i:Nat}(h:i<x.feats.length):mP x i++[⟨x.name,x.feats[i]!⟩]=mP x (i+1):=by
 unfold mP;rw[map_take h,<-fF]
def aaH (x:c9):mP x x.feats.length=fg x:=by unfold mP fg om;rw[List.take_length]
def asdK (s:cu)(k:Key):fN:=[⟨k,s⟩]
def zz (n:bp)(i:Nat):List fN:=((fg n.any[0]!).take i).map (asdK (ff n.any[0]!.range))
def alj {n:bp}{i:Nat}(h:i<(fg n.any[0]!).length):zz n i++[asdK (ff n.any[0]!.range) (fg n.any[0]!)[i]!]=zz n (i+1):=by unfold zz;rw[map_take h]
def ali {n:bp}(h:(n.any.length:Int)=1):zz n (fg n.any[0]!).length=iG n:=by unfold zz iG;rw[ak ae,List.take_length];rfl
def aaj (n:bp)(i:Nat):(zz n i).length<=i:=by unfold zz;rw[bh,ey];omega
def YY (w:c9):jk:=⟨(fg w)[0]!,ff w.range⟩
def Bn (n:bp)(i:Nat):List jk:=(n.any.take i).map YY
def ako {n:bp}{i:Nat}(h:i<n.any.length):Bn n i++[YY n.any[i]!]=Bn n (i+1):=by unfold Bn;rw[map_take h]
def akn {n:bp}(h:¬(n.any.length:Int)=1):[Bn n n.any.length]=iG n:=by unfold Bn iG;rw[ai ae,List.take_length];rfl
def YX (n:bp)(i:Nat):(Bn n i).length<=i:=by unfold Bn;rw[bh,ey];omega
def xb (l k:Nat)(es:List Abs.D)(xs:List fN)(d:Abs.D):oL l k es (xs.map dU++[d])=xs.map dU++[iX l k es d]:=by
 induction xs with
 |nil=>rfl
 |cons x r ih=>rw[List.map_cons,rv,oL,ih];rfl
def CO (l k:Nat)(es:List Abs.D)(xs:List jk):oL l k es (xs.map jk.D)=xs.map jk.D:=kJ l k es _ (cb (λ_=>rfl) _)
def bp.fz (l k:Nat)(es:List Abs.D)(c:bp):iX l k es c.D=c.D:=gV l k es _ rfl
def Env.fz (l k:Nat)(es:List Abs.D)(c:Env):iX l k es c.D=c.D:=gV l k es _ rfl
def c9.fz (l k:Nat)(es:List Abs.D)(c:c9):iX l k es c.D=c.D:=gV l k es _ rfl
def cu.fz (l k:Nat)(es:List Abs.D)(c:cu):iX l k es c.D=c.D:=gV l k es _ rfl
def Key.fz (l k:Nat)(es:List Abs.D)(c:Key):iX l k es c.D=c.D:=gV l k es _ rfl
variable{b:List Key}{k:Key}
def uG.fz (l k:Nat)(es:List Abs.D)(c:uG):iX l k es c.D=c.D:=gV l k es _ rfl
def pI (xs:List fN)(a:jk):xs.map dU++[.sl 4 [a.D]]=(xs++[[a]]).map dU:=by rw[List.map_append];rfl
def Ys {y:cx}(hj:lM y.l nm=(j:Nat)):dI y nm=[⟨y.l[j]!.r,-1⟩]:=by
 unfold dI;rw[ak ae,hj,Int.toNat_natCast]
def ad0 (nm:av):(cH y.shop y.pins nm).2.1.length<=64:=by
 unfold cH;split
 .simp
 .exact(sD _ _).1
def aj4 {y:cx}(hy:pG y){i:Nat}(hc:(cH y.shop y.pins nm).2.2=0)(hi:i<(cH y.shop y.pins nm).2.1.length):
  ∃j:Nat,(cH y.shop y.pins nm).1=(j:Int)/\j<y.shop.length/\∃t:Nat,(cH y.shop y.pins nm).2.1[i]! =(t:Int)/\t<y.shop[j]!.es.length/\y.shop[j]!.es[t]!.r.v.sm:=by
 have h2:(fU y.shop y.pins nm).2=0:=by
  unfold cH at hc;split at hc
  .rename_i h3;exact absurd hc h3
  .rename_i h3;exact Classical.not_not.1 h3
 obtain⟨hB,j,hj,hjl⟩:=pR h2;have e1:cH y.shop y.pins nm=((j:Int),kg y.shop[j]! nm,0):=by
  unfold cH;rw[ai (λh=>h h2),hj,Int.toNat_natCast]
 rw[e1]at hi⊢;dsimp only at hi⊢;obtain⟨h5,h6⟩:=(sD y.shop[j]! nm).2 _ (aq hi);refine⟨j,rfl,hjl,(kg y.shop[j]! nm)[i]!.toNat,ae,ae, ?_⟩;exact(hy.1.2 _ (aq hjl) _ (aq ae)).1.2
def F7 (y:cx)(nm:av)(a:Nat):∀(l r:List Int),iS y nm a (l++r)=iS y nm a l++iS y nm a r
 |[],_=>rfl
 |x::l,r=>by rw[rv,iS,iS,F7 y nm a l r,fF]
def R9 (nm:av)(a:Nat){i:Nat}(h:i<l.length):iS y nm a (l.take (i+1))=iS y nm a (l.take i)++(if S3 y nm y.shop[a]!.es[l[i]!.toNat]! =true then [⟨y.shop[a]!.es[l[i]!.toNat]!.r,(a:Int)⟩]else []):=by
 have e:l.take (i+1)=l.take i++[l[i]!]:=by
  rw[List.take_add_one,List.getElem?_eq_getElem h];simp[h]
 rw[e,F7,iS,iS,fZ]
def adZ {y:cx}{A:Int}{i t:Nat}(hj:A=(j:Int))(h:i<l.length)(ht:l[i]! =(t:Int))(hx:(y.shop[j]!.es[t]!.off=false\/Mb y.keeps y.shop[j]!.es[t]!.r=true)/\pe (kL y.l nm) y.shop[j]!.es[t]!.r.v=true):iS y nm A.toNat (l.take i)++[⟨y.shop[j]!.es[t]!.r,A⟩]=iS y nm A.toNat (l.take (i+1)):=by
 subst hj;rw[R9 y nm _ h,ht,Int.toNat_natCast,Int.toNat_natCast,ak];unfold S3;rw[hx.2];rcases hx.1 with h|h<;>rw[h]<;>simp
def adY {y:cx}{A:Int}{i t:Nat}(hj:A=(j:Int))(h:i<l.length)(ht:l[i]! =(t:Int))(hx:(y.shop[j]!.es[t]!.off=true/\Mb y.keeps y.shop[j]!.es[t]!.r=false)\/pe (kL y.l nm) y.shop[j]!.es[t]!.r.v=false):iS y nm A.toNat (l.take i)=iS y nm A.toNat (l.take (i+1)):=by
 subst hj;rw[R9 y nm _ h,ht,Int.toNat_natCast,Int.toNat_natCast,ai,fZ];unfold S3;rcases hx with⟨h1,h2⟩|h<;>simp_all
def aj1 {y:cx}{i:Nat}(h0:¬0<=lM y.l nm)(hi:i<=(cH y.shop y.pins nm).2.1.length)(he:¬((i:Nat):Int)<((cH y.shop y.pins nm).2.1.length:Nat)\/¬(cH y.shop y.pins nm).2.2=0):iS y nm (cH y.shop y.pins nm).1.toNat ((cH y.shop y.pins nm).2.1.take i)=dI y nm:=by
 unfold dI;rw[ai h0];by_cases hc:(cH y.shop y.pins nm).2.2=0
 .rw[ai (λh=>h hc),fE (by rcases he with h|h;omega;exact absurd hc h)]
 .rw[ak hc];have:(cH y.shop y.pins nm).2.1=[]:=by
   unfold cH at hc⊢;split
   .rfl
   .rename_i h;rw[ai h]at hc;exact absurd rfl hc
  rw[this,List.take_nil];rfl
def XS (l:List gI)(nm:av):(kL l nm).sm:=by
 unfold kL;split
 .exact aeR _
 .exact aco
def aaN {v:bO}(h:v∈bT):v.sm:=by
 obtain⟨i,hi,rfl⟩:=fS h;exact yp i
theorem xd:∀a b c:av,Op.bytesLess a b=true->Op.bytesLess b c=true->Op.bytesLess a c=true
 |[],[],_,h,_=>by simp[Op.bytesLess]at h
 |[],_::_,[],_,h=>by simp[Op.bytesLess]at h
 |[],_::_,_::_,_,_=>by simp[Op.bytesLess]
 |_::_,[],_,h,_=>by simp[Op.bytesLess]at h
 |_::_,_::_,[],_,h=>by simp[Op.bytesLess]at h
 |x::a,y::b,z::c,h1,h2=>by
  have ih:=xd a b c;unfold Op.bytesLess at h1 h2⊢;have e1:=UInt8.lt_iff_toNat_lt (a:=x) (b:=y);have e2:=UInt8.lt_iff_toNat_lt (a:=y) (b:=z);have e3:=UInt8.lt_iff_toNat_lt (a:=x) (b:=z);have e4:=pB (a:=x) (b:=y);have e5:=pB (a:=y) (b:=z);have e6:=pB (a:=x) (b:=z)
  grind
theorem Wv {a b c:dz}(h1:jF a b=true)(h2:jF b c=true):jF a c=true:=by
 have t1:=xd a.name b.name c.name;have t2:=xd a.feat b.feat c.feat;unfold jF at*
 grind
def tN {w:cA}(h:hR w=true){i:Nat}(hi:1<=i):∀{j:Nat},i<j->j<w.us.length->jF w.us[i]! w.us[j]! =true
 |0,h1,_=>absurd h1 (Nat.not_lt_zero _)
 |j+1,h1,h2=>by
  have h3:jF w.us[j]! w.us[j+1]! =true:=by
   simp only[hR,aK,bG,mE]at h;have:=(h.2 (j+1) (Nat.zero_le _) h2).1.1.2;simp only[cg,ew,b8,cX,Nat.add_sub_cancel]at this;rcases this with h4|h4
   .omega
   .exact h4
  by_cases hij:i=j
  .subst hij;exact h3
  .exact Wv (tN h hi ae ae) h3
def GV (h:hR w=true){a b:av}{i:Nat}(hi:1<=i)(hij:i<j)(hj:j<w.us.length)(h1:rX a b w.us[i]! =true)(h2:rX a b w.us[j]! =true):False:=by
 have:=tN h hi hij hj;simp only[rX,aK,aX]at h1 h2;unfold jF at this;rw[h1.1,h1.2,h2.1,h2.2,mq,mq]at this;simp at this
def aaS (h:hR w=true):1<=w.us.length/\w.us.length<=48:=by
 simp only[hR,aK,aX]at h;exact h.1.1
def jE.fz (l k:Nat)(es:List Abs.D)(c:jE):iX l k es c.D=c.D:=gV l k es _ (by simp only[jE.D,D.aU,aP,fR])
theorem C7:∀a b:av,Op.bytesLess a b=false->a≠b->Op.bytesLess b a=true
 |[],[],_,h=>absurd rfl h
 |[],_::_,h,_=>by simp[Op.bytesLess]at h
 |_::_,[],_,_=>by simp[Op.bytesLess]
 |x::a,y::b,h,hn=>by
  have ih:=C7 a b;unfold Op.bytesLess at h⊢;have e1:=UInt8.lt_iff_toNat_lt (a:=x) (b:=y);have e2:=UInt8.lt_iff_toNat_lt (a:=y) (b:=x);have e4:=pB (a:=x) (b:=y)
  grind
def tA (a:Key):e7 a a=false:=by unfold e7;rw[mq,mq];simp
theorem Pj {a b c:Key}(h1:e7 a b=true)(h2:e7 b c=true):e7 a c=true:=by
 have t1:=xd a.n b.n c.n;have t2:=xd a.f b.f c.f;unfold e7 at*
 grind
theorem HH {a b:Key}(h:e7 a b=false)(hn:a≠b):e7 b a=true:=by
 have t1:=C7 a.n b.n;have t2:=C7 a.f b.f;have hk:¬(a.n=b.n/\a.f=b.f):=λh=>hn (by cases a;cases b;simp at h;simp[h.1,h.2])
 unfold e7 at*
 grind
def Yj (h:k≠fI):e7 fI k=true:=by
 refine HH ?_ h;unfold e7 fI;cases k with
 |mk n f=>cases n<;>cases f<;>simp[Op.bytesLess]
def KS (l:List Key):Prop:=l.Pairwise λa b=>e7 a b=true
def rl {α:Type}{p:α->Bool}:∀(l:List α),∀x∈l.take (l.takeWhile p).length,p x=true
 |[],x,h=>by simp at h
 |a::r,x,h=>by
  rw[List.takeWhile_cons]at h;split at h
  .rename_i ha;simp only[bH,List.take_succ_cons,bU]at h;rcases h with rfl|h
   .exact ha
   .exact rl r x h
  .simp at h
def wo {α:Type} [Inhabited α]{p:α->Bool}:∀(l:List α),(l.takeWhile p).length<l.length->p l[(l.takeWhile p).length]! =false
 |[],h=>by simp at h
 |a::r,h=>by
  rw[List.takeWhile_cons]at h⊢;split
  .rename_i ha;rw[ak ha]at h;simp only[bH]at h⊢;have:=wo (p:=p) r ae;simpa using this
  .rename_i ha;simpa using ha
def L9 [Inhabited α]{lt:α->α->Prop}{p:α->Bool}{l:List α}{k:α}(htr:∀a b c,lt a b->lt b c->lt a c)(hl:l.Pairwise lt)(h1:∀x∈l,p x=true->lt x k)(h2:∀x∈l,p x=false->lt k x):
  ((l.take (l.takeWhile p).length++[k])++l.drop (l.takeWhile p).length).Pairwise lt:=by
 have hs:(l.take (l.takeWhile p).length++l.drop (l.takeWhile p).length).Pairwise lt:=by rw[List.take_append_drop];exact hl
 rw[List.pairwise_append]at hs;obtain⟨g1,g2,g3⟩:=hs;have e1:∀x∈l.take (l.takeWhile p).length,lt x k:=λx hx=>h1 x (zQ hx) (rl l x hx)
 have e2:∀x∈l.drop (l.takeWhile p).length,lt k x:=by
  rcases dZ (l.takeWhile p).length l.length with h|h
  .have hd:=wo l h;have hlt:=h2 _ (aq h) hd;rw[fh h]at g2⊢;rw[show l[(l.takeWhile p).length]=l[(l.takeWhile p).length]! by simp[h]]at g2⊢;intro x hx;rcases bU.1 hx with rfl|hx
   .exact hlt
   .exact htr _ _ _ hlt ((List.pairwise_cons.1 g2).1 x hx)
  .rw[j7 h];intro x hx;cases hx
 rw[List.pairwise_append,List.pairwise_append];refine⟨⟨g1,List.pairwise_singleton _ _,λa ha b hb=>?_⟩,g2,λa ha b hb=>?_⟩
 .rw[aJ.1 hb];exact e1 a ha
 .rcases List.mem_append.1 ha with ha|ha
  .exact htr _ _ _ (e1 a ha) (e2 b hb)
  .rw[aJ.1 ha];exact e2 b hb
def UX {l:List Key}(hl:KS l):KS (sN l k):=by
 unfold sN;split
 .exact hl
 .rename_i hn;have e:Fh l k 0=(l.takeWhile λx=>e7 x k).length:=by unfold Fh;rw[dM,cL]
  rw[e]at hn⊢;by_cases hk:k∈l
  ·
   exfalso;refine hn ?_;have hlt:(l.takeWhile λx=>e7 x k).length<l.length:=by
    rcases dZ (l.takeWhile λx=>e7 x k).length l.length with h|h
    .exact h
    .have:=rl (p:=λx=>e7 x k) l k (by rw[fE h];exact hk);rw[tA]at this;cases this
   refine⟨hlt, ?_⟩;have hd:=wo (p:=λx=>e7 x k) l hlt;by_cases hq:l[(l.takeWhile λx=>e7 x k).length]! =k
   .exact hq
   .have h3:=HH hd hq;have hs:(l.take (l.takeWhile λx=>e7 x k).length++l.drop (l.takeWhile λx=>e7 x k).length).Pairwise λa b=>e7 a b=true:=by rw[List.take_append_drop];exact hl
    rw[List.pairwise_append]at hs;have hk2:k∈l.take (l.takeWhile λx=>e7 x k).length\/k∈l.drop (l.takeWhile λx=>e7 x k).length:=by rw[<-List.mem_append,List.take_append_drop];exact hk
    rcases hk2 with h4|h4
    .have:=rl (p:=λx=>e7 x k) l k h4;rw[tA]at this;cases this
    .obtain⟨_,g2,_⟩:=hs;rw[fh hlt,show l[(l.takeWhile λx=>e7 x k).length]=l[(l.takeWhile λx=>e7 x k).length]! by simp[hlt]]at g2 h4;rcases bU.1 h4 with h5|h5
     .exact absurd h5.symm hq
     .have h6:=(List.pairwise_cons.1 g2).1 k h5;have:=Pj h3 h6;rw[tA]at this;cases this
  .refine L9 (lt:=λa b=>e7 a b=true) (p:=λx=>e7 x k) (λa b c h1 h2=>Pj h1 h2) hl (λx _ h=>h) (λx hx h=>HH h λe=>hk (e▸hx))
def NmK (k:Key):Prop:=k=fI\/k.n≠[]
structure Lm (s:oX):Prop where
 sort:KS s.all
 nm:∀k∈s.all,NmK k
def alb {s:oX}{a:jk}(h:Lm s)(ha:a.k.n≠[]):Lm (mw s a):=by
 have hm:=(Ih s a).1;refine⟨?_,λk hk=>?_⟩
 .unfold mw;split
  .exact UX h.sort
  .exact h.sort
 .rcases(hm k).1 hk with h1|rfl
  .exact h.nm k h1
  .exact .inr ha
def ZU:∀(row:fN) (s:oX),(∀a∈row,a.k.n≠[])->Lm s->Lm (row.foldl mw s)
 |[],s,_,h=>h
 |b::r,s,hn,h=>ZU r _ (λa ha=>hn a (.tail _ ha)) (alb h (hn b (.head _)))
def ZW:∀(l:List fN) (s:oX),(∀row∈l,∀a∈row,a.k.n≠[])->Lm s->Lm (P4 s l)
 |[],s,_,h=>h
 |b::r,s,hn,h=>ZW r _ (λrow hr=>hn row (.tail _ hr)) (ZU b s (hn b (.head _)) h)
def ZV {y:cx}(hy:∀k,∀row∈cZ y k,∀a∈row,a.k.n≠[]):∀(n:Nat){s:oX}{all:List Key},Lm s->Bs y n s=some all->Lm ⟨all,[]⟩
 |0,s,all,_,h=>by cases h
 |n+1,s,all,hI,h=>by
  rw[Bs]at h;split at h
  .obtain rfl:=bc h;exact⟨hI.sort,hI.nm⟩
  .split at h
   .cases h
   .exact ZV hy n (s:=Bt y s) (ZW (cZ y s.todo[0]!) ⟨s.all,s.todo.drop 1⟩ (hy _) ⟨hI.sort,hI.nm⟩) h
def Wl (l:List fN):=∀row∈l,∀a∈row,a.k.n≠[]
def Sp {a b:List fN}(h1:Wl a)(h2:Wl b):Wl (a++b):=λr hr=>(List.mem_append.1 hr).elim (h1 r) (h2 r)
def xu {f:α->List fN}{l:List α}(h:∀x∈l,Wl (f x)):Wl (l.flatMap f):=λr hr=>by
 obtain⟨x,hx,hr⟩:=List.mem_flatMap.1 hr;exact h x hx r hr
def HW {s:cu}(h:k.n≠[]):Wl [[⟨k,s⟩]]:=λr hr b hb=>by
 rw[aJ.1 hr]at hb;rw[aJ.1 hb];exact h
def sH {s:av}(h:dc s=true):s≠[]:=by
 rintro rfl;revert h;decide
def DK (h:Cd r):r.name≠[]:=sH h.1.1.1
theorem qb (h:Cd r):∀n∈r.needs,∀w∈n.any,dc w.name=true:=by
 intro n hn w hw;obtain⟨⟨_,_,hp⟩,_⟩:=h;have h0:(lH r).1=0:=by grind [er]
 obtain⟨i,hi,rfl⟩:=fS hn;have h3:=qG h0 i hi;obtain⟨j,hj,rfl⟩:=fS hw;have h4:nE r r.needs[i]!.any=0:=by grind [jy]
 have h5:=CF h4 j hj
 grind [lB,gB]
def Eu (w:c9):∀k∈fg w,k.n=w.name:=by
 intro k hk;unfold fg at hk;rcases List.mem_append.1 hk with h|h
 .split at h
  .split at h
   .rw[aJ.1 h]
   .cases h
  .rw[aJ.1 h]
 .obtain⟨f,_,rfl⟩:=ch.1 h;rfl
def NO {n:bp}(hn:wC n)(h:∀w∈n.any,dc w.name=true):Wl (iG n):=by
 unfold iG;split
 .intro r hr a ha;obtain⟨k,hk,rfl⟩:=ch.1 hr;rw[aJ.1 ha,Eu _ k hk];exact sH (h _ (aq hn.1.1))
 .intro r hr a ha;rw[aJ.1 hr]at ha;obtain⟨w,hw,rfl⟩:=ch.1 ha;rw[Eu w _ (aq (oo w).1)];exact sH (h w hw)
def Sw (h:Cd r)(e:Env)(o:av):Wl (qR r.needs e o):=xu λn hn=>by
 unfold Bo;split
 .exact NO ((gh h).2 n hn) (qb h n hn)
 .intro q hq;cases hq
def Zt (h:Cd r)(e:Env)(nm ft:av):Wl (iT r.needs e nm ft):=xu λn hn=>by
 have hN:=(gh h).2 n hn;unfold rL;split
 .rename_i hc;refine Sp ?_ (HW ?_)
  .split
   .intro q hq;cases hq
   .exact NO hN (qb h n hn)
  .show nm≠[];rw[<-hc.1.2];exact sH (qb h n hn _ (aq hN.1.1))
 .intro q hq;cases hq
def Ge (h:Cd r)(e:Env)(ft:av):Wl (cJ r e ft):=by
 unfold cJ;split
 .exact Sw h e []
 .refine Sp (HW (DK h)) (xu λs _=>?_);unfold mj;split
  .exact HW (DK h)
  .split
   .exact Sw h e _
   .exact Zt h e _ _
def NP {y:cx}(hy:pG y)(k:Key):Wl (cZ y k):=by
 unfold cZ;split
 .obtain⟨⟨⟨m,hm,hM⟩,_⟩,_⟩:=hy;intro r hr a ha;rw[hm]at hr;rw[aJ.1 hr]at ha;rw[aJ.1 ha];exact DK (BP hM)
 .exact xu λx hx=>Ge ((xy hy k).2 x hx).1 y.e k.f
def B1 {y:cx}(hy:pG y){all:List Key}(h:mN y=some all):KS all/\∀k∈all,NmK k:=by
 have:=ZV (NP hy) 49 (s:=nB) ⟨by simp[KS,nB],λk hk=>.inl (by simpa[nB]using hk)⟩ h;exact⟨this.sort,this.nm⟩
def all_zero {all:List Key}(hs:KS all)(hz:fI∈all):all[0]! =fI/\0<all.length:=by
 have h0:=List.length_pos_of_mem hz;refine⟨?_,h0⟩;cases all with
 |nil=>cases hz
 |cons a r=>
  show a=fI;rcases bU.1 hz with h|h
  .exact h.symm
  .have h1:=(List.pairwise_cons.1 hs).1 fI h;by_cases he:a=fI
   .exact he
   .have:=Pj h1 (Yj he);rw[tA]at this;cases this
def tG {all:List Key}(hs:KS all)(hz:fI∈all)(hk:k≠fI):¬eu all k=0:=by
 intro h;unfold eu at h;rcases gW (f:=λx=>decide (x=k)) (l:=all) (k:=0)with⟨h1,_⟩|⟨j,h1,_,h3,_⟩
 .rw[h1]at h;cases h
 .rw[h1]at h;obtain rfl:j=0:=ae;rw[(all_zero hs hz).1]at h3;exact hk (of_decide_eq_true h3).symm
def aaO:∀a∈bT,∀b∈bT,jm a b<0\/a=b\/jm b a<0:=by decide+kernel
def ae9:∀a∈bT,∀b∈bT,∀c∈bT,jm a b<0->jm b c<0->jm a c<0:=by decide+kernel
def Ws:=∀s∈shop,∀x∈s.es,x.r.v∈bT
def aap {s:cj}(h:gy s=true){i:Nat}(hij:i<j)(hj:j<s.es.length)(hn:s.es[i]!.r.name=s.es[j]!.r.name)(hv:fT s.es[j]!.r.v=true):¬s.es[i]!.r.v=s.es[j]!.r.v:=by
 intro e;simp only[gy,aK,bG,sr,aX]at h;have h1:=(h.2 j (Nat.zero_le _) hj).2;rw[PU]at h1;have h2:=h1 s.es[i]! (by
  have:i<(s.es.take j).length:=by rw[ey];omega
  have h3:=aq this;rw[List.getElem!_eq_getElem?_getD,List.getElem?_take_of_lt hij,<-List.getElem!_eq_getElem?_getD]at h3;exact h3)
 unfold K8 at h2;rw[bg hn,e,zb hv]at h2;cases h2
def ltE (es:List j8)(a b:Int):Prop:=(es[a.toNat]!.r.v∈bT/\es[b.toNat]!.r.v∈bT)/\jm es[a.toNat]!.r.v es[b.toNat]!.r.v<0
def aj5 (a b c:Int)(h1:ltE es a b)(h2:ltE es b c):ltE es a c:=⟨⟨h1.1.1,h2.1.2⟩,ae9 _ h1.1.1 _ h1.1.2 _ h2.1.2 h1.2 h2.2⟩
def vM {s:cj}(h:gy s=true)(hv:∀x∈s.es,x.r.v∈bT)(nm:av):∀i,i<=s.es.length->(eF s.es nm i).Pairwise (ltE s.es)/\∀x∈eF s.es nm i,s.es[x.toNat]!.r.name=nm
 |0,_=>⟨List.Pairwise.nil,λx hx=>(by cases hx)⟩
 |i+1,hi=>by
  obtain⟨h1,h2⟩:=vM h hv nm i ae;rw[eF];split
  .rename_i hn;have hiv:=hv _ (aq (show i<s.es.length by omega));have hvb:fT s.es[i]!.r.v=true:=(sw _ hiv).2;have hin:=(xf s.es nm i).2;refine⟨?_,λx hx=>?_⟩
   .unfold HF Bj;rw[dM,cL];refine L9 (lt:=ltE s.es) aj5 h1 (λx hx hp=>?_) (λx hx hp=>?_)
    .have:=hin x hx;rw[aX]at hp;refine⟨⟨hv _ (aq ae), ?_⟩, ?_⟩<;>rw[Int.toNat_natCast]
     .exact hiv
     .exact hp
    .have hxr:=hin x hx;have hxv:=hv _ (aq (show x.toNat<s.es.length by omega));rw[b8]at hp;refine⟨⟨?_,hxv⟩, ?_⟩<;>rw[Int.toNat_natCast]
     .exact hiv
     .rcases aaO _ hxv _ hiv with h3|h3|h3
      .exact absurd h3 hp
      .exact absurd h3 (aap h (show x.toNat<i by omega) ae (by rw[h2 x hx,hn]) hvb)
      .exact h3
   .rcases L8 hx with h3|h3
    .exact h2 x h3
    .rw[h3,Int.toNat_natCast];exact hn
  .exact⟨h1,h2⟩
def y2 {y:cx}{nm:av}{a:Nat}:∀(l:List Int),(iS y nm a l).Sublist (l.map λi=>⟨y.shop[a]!.es[i.toNat]!.r,(a:Int)⟩)
 |[]=>List.Sublist.slnil
 |i::r=>by
  rw[iS,List.map_cons];split
  .exact(y2 r).cons₂ _
  .exact(y2 r).cons _
def RcLt (a b:uG):Prop:=jm a.r.v b.r.v<0
def Uy {y:cx}(h:pG y)(hv:Ws y.shop)(nm:av):(dI y nm).Pairwise RcLt:=by
 unfold dI;split
 .exact List.pairwise_singleton _ _
 .split
  .exact List.Pairwise.nil
  .rename_i h1;have h1:(cH y.shop y.pins nm).2.2=0:=Classical.not_not.1 h1;have h2:(fU y.shop y.pins nm).2=0:=by
    unfold cH at h1;split at h1
    .rename_i h3;exact absurd h1 h3
    .rename_i h3;exact Classical.not_not.1 h3
   obtain⟨hB,j,hj,hjl⟩:=pR h2;have e1:cH y.shop y.pins nm=((j:Int),kg y.shop[j]! nm,0):=by
    unfold cH;rw[ai (λh=>h h2),hj,Int.toNat_natCast]
   rw[e1];simp only[Int.toNat_natCast];have hs:=IF hB hjl;have e2:kg y.shop[j]! nm=eF y.shop[j]!.es nm y.shop[j]!.es.length:=by unfold kg;rw[hs,ai aF]
   rw[e2];have h3:=(vM hs (hv _ (aq hjl)) nm _ (aT _)).1;refine List.Pairwise.sublist (y2 _) ?_;rw[List.pairwise_map];exact h3.imp λh=>h.2
def aej {y:cx}(h:pG y)(hv:Ws y.shop)(k:Key):(eG y k).Pairwise RcLt:=List.Pairwise.sublist List.filter_sublist (Uy h hv k.n)
def xg {y:cx}(h:pG y)(hv:Ws y.shop)(hm:∀m∈y.l,m.r.v∈bT)(nm:av):∀x∈dI y nm,x.r.v∈bT:=by
 unfold dI;split
 .rename_i h0;intro x hx;rw[aJ.1 hx];obtain⟨j,hj,hjl⟩:=(qS y.l nm).resolve_left ae;rw[hj,Int.toNat_natCast];exact hm _ (aq hjl)
 .split
  .intro x hx;cases hx
  .rename_i h1;have h1:(cH y.shop y.pins nm).2.2=0:=Classical.not_not.1 h1;have h2:(fU y.shop y.pins nm).2=0:=by
    unfold cH at h1;split at h1
    .rename_i h3;exact absurd h1 h3
    .rename_i h3;exact Classical.not_not.1 h3
   obtain⟨hB,j,hj,hjl⟩:=pR h2;have e1:cH y.shop y.pins nm=((j:Int),kg y.shop[j]! nm,0):=by
    unfold cH;rw[ai (λh=>h h2),hj,Int.toNat_natCast]
   rw[e1];simp only[Int.toNat_natCast];intro x hx;obtain⟨⟨i,hi,e⟩,_⟩:=(pX (y:=y) (nm:=nm) (a:=j) _).2 x hx;have:=(sD y.shop[j]! nm).2 i hi;rw[e];exact hv _ (aq hjl) _ (aq ae)
def Wt (n:Nat)(w:Want):Prop:=(0<w.u/\w.u<(n:Int))/\wc w.s=true
def GX {l:List Want}(h:∀w∈l,Wt n w):py (n:Int) l=true:=by
 unfold py;rw[bG];intro j _ hj;obtain⟨⟨h1,h2⟩,h3⟩:=h _ (aq hj);unfold td;rw[bg h1,bg h2,h3];rfl
def Lx {c:fj}(h1:c.needs.length<=24)(h2:c.bars.length<=24)(h3:∀r∈c.needs,(0<r.length/\r.length<=24)/\∀w∈r,Wt n w)(h4:∀w∈c.bars,Wt n w):mU (n:Int) c=true:=by
 unfold mU;rw[bg h1,bg h2,GX h4,fR,ez,ez,bG];intro j _ hj;obtain⟨⟨h5,h6⟩,h7⟩:=h3 _ (aq hj);unfold rQ;rw[GX h7,bg h5,bg h6];rfl
def aeU {s:cu}{v:bO}(hv:v∈bT)(h:s∈gJ\/s=dG v):wc s=true:=by
 rcases h with h|rfl
 .exact NV _ h
 .exact(sw v hv).1
structure qy (y:cx):Prop where
 p:pG y
 v:Ws y.shop
 m:∀m∈y.l,m.r.v∈bT
def HQ (h:k.n≠[]):k≠fI:=λe=>h (by rw[e];rfl)
theorem WT {y:cx}{all:List Key}{x:uG}(hx:Cd x.r)(hxv:x.r.v∈bT)(hz:fI∈all)(hs:KS all)(hcl:∀row∈cJ x.r y.e k.f,∀a∈row,a.k∈all)(hw:ot (dA y all k x)=false):mU (all.length:Int) (dA y all k x)=true:=by
 have hC:=RH hx hcl hw;have h1:=Dm x.r y.e k.f;have hnm:=Ge hx y.e k.f;refine Lx hC.1.2.1 hC.1.2.2 (λr hr=>?_) (λw hwb=>?_)
 .have h2:=hC.2.1 r hr;refine⟨ae,λw hwr=>?_⟩;have h3:=h2.2 w hwr;obtain⟨q,hq,rfl⟩:=qg hr;obtain⟨a,ha,rfl⟩:=ch.1 hwr;have h4:=tG hs hz (HQ (hnm q hq a ha));dsimp only at h3⊢;exact⟨⟨k8,h3.2⟩,aeU hxv (h1 q hq a ha)⟩
 .have h3:=hC.2.2 w hwb;have hwb:w∈(if k.f=[]then wK all x.r y.e else []):=hwb;split at hwb
  .obtain⟨b,hb,hwb2⟩:=List.mem_flatMap.1 hwb;unfold qz at hwb2;split at hwb2
   .rw[aJ.1 hwb2]at h3⊢;have hbn:b.name≠[]:=by
     obtain⟨⟨_,_,hp⟩,_⟩:=hx;have h0:(uQ x.r).1=0:=by grind [er]
     obtain⟨i,hi,rfl⟩:=fS hb;have h5:=qG h0 i hi;have h6:dc x.r.bars[i]!.name=true:=by grind [sb,gB]
     exact sH h6
    have h4:=tG hs hz (HQ (k:=⟨b.name,[]⟩) hbn);dsimp only at h3;exact⟨⟨k8,h3.2⟩,aeQ _⟩
   .cases hwb2
  .cases hwb
def TR {y:cx}{all:List Key}(hy:qy y)(hz:fI∈all)(hs:KS all)(hcl:∀row∈cZ y k,∀a∈row,a.k∈all)(h:(eo y all k).2=true):
  (k=fI->(eo y all k).1.length=1)/\∀i,i<(eo y all k).1.length->nN all.length (eo y all k).1 i=true:=by
 have hC:=yH hy.p hcl h;unfold eo at*
 by_cases hk:k=fI
 .rw[ak hk]at hC⊢;refine⟨λ_=>rfl,λi hi=>?_⟩;obtain rfl:i=0:=by simpa using hi
  have hrow:cZ y k=eH y.l:=by unfold cZ;rw[ak hk]
  have hnm:=NP hy.p k;rw[hrow]at hcl hnm;obtain⟨⟨hsm,h24,hb24⟩,hn,hb⟩:=hC.2 _ (.head _);unfold nN;show(fT zV&&mU (all.length:Int) ⟨zV,-1,dF all (eH y.l),[]⟩&& !(decide (0<0)&&_))=true;rw[show fT zV=true by decide,Lx h24 hb24 (λr hr=>?_) (λw hw=>by cases hw)]
  .rfl
  .have h2:=hn r hr;refine⟨ae,λw hwr=>?_⟩;have h3:=h2.2 w hwr;obtain⟨q,hq,rfl⟩:=qg hr;obtain⟨a,ha,rfl⟩:=ch.1 hwr;have h4:=tG hs hz (HQ (hnm q hq a ha));refine⟨⟨by dsimp only at h3⊢;omega,h3.2⟩, ?_⟩;obtain⟨⟨⟨m,hm,hM⟩,_⟩,_⟩:=hy.p;have hmv:=hy.m m (by rw[hm];simp);rw[hm]at hq;rw[aJ.1 hq]at ha;rw[aJ.1 ha];exact(sw _ hmv).1
 .rw[ai hk]at h⊢;refine⟨λe=>absurd e hk, ?_⟩;have hrow:cZ y k=(eG y k).flatMap λx=>cJ x.r y.e k.f:=by unfold cZ;rw[ai hk]
  rw[hrow]at hcl;split at h
  .cases h
  .rename_i hw;rw[ai hw];intro i hi;dsimp only at hi⊢;have hi2:i<(eG y k).length:=by simpa using hi
   have e:((eG y k).map (dA y all k))[i]! =dA y all k (eG y k)[i]! :=eZ hi2;have hx:=aq hi2;have hlk:(eG y k)[i]! ∈dI y k.n:=(List.mem_filter.1 hx).1;have hv:=xg hy.p hy.v hy.m k.n _ hlk;have hcw:ot (dA y all k (eG y k)[i]!)=false:=by
    cases hq:ot (dA y all k (eG y k)[i]!)with
    |false=>rfl
    |true=>exact absurd (List.any_eq_true.2 ⟨_,ch.2 ⟨_,hx,rfl⟩,hq⟩) hw
   unfold nN;rw[e,WT ((xy hy.p k).2 _ hx).1 hv hz hs (λrow hr a ha=>hcl row (List.mem_flatMap.2 ⟨_,hx,hr⟩) a ha) hcw];rw[show fT (dA y all k (eG y k)[i]!).v=true from(sw _ hv).2,ez,ez,cg];by_cases h0:0<i
   .rw[eZ (show i-1<(eG y k).length by omega)];have hp:=List.pairwise_iff_getElem.1 (aej hy.p hy.v k) (i-1) i ae hi2 ae;unfold RcLt at hp;rw[<-getElem!_pos (eG y k) (i-1) ae,<-getElem!_pos (eG y k) i hi2]at hp;have hq:¬0<=jm (dA y all k (eG y k)[i-1]!).v (dA y all k (eG y k)[i]!).v:=by
     have:jm (dA y all k (eG y k)[i-1]!).v (dA y all k (eG y k)[i]!).v=jm (eG y k)[i-1]!.r.v (eG y k)[i]!.r.v:=rfl;omega
    rw[bB hq,Bool.and_false]
   .rw[bB h0,Bool.false_and]
def EC {y:cx}(hy:qy y)(h:(cK y).2=true):hR (cK y).1=true:=by
 obtain⟨all,hr,hus,hc,hB⟩:=qk hy.p h;obtain⟨hz,h48,hcl⟩:=qc hr;obtain⟨hs,hnm⟩:=B1 hy.p hr;obtain⟨h0,hpos⟩:=all_zero hs hz;have hl:(cK y).1.us.length=all.length:=by rw[hus,bh]
 have hat:∀i,i<all.length->(cK y).1.us[i]! =qi y all all[i]! :=λi hi=>by rw[hus,eZ hi]
 have hcv:∀i,i<all.length->_:=λi hi=>TR hy hz hs (hcl _ (aq hi)) (hc i hi)
 unfold hR;rw[hl,bg (show 1<=all.length by omega),bg h48,ez,ez,aK];constructor
 .unfold Al;rw[hat 0 hpos,h0];have:=(hcv 0 hpos).1 h0;rw[h0]at this;show(decide (([]:av)=[])&&decide (([]:av)=[])&&decide ((eo y all fI).1.length=1))=true;rw[bg this];rfl
 .rw[bG];intro i _ hi;unfold mE;rw[hat i hi];have h16:=(yH hy.p (hcl _ (aq hi)) (hc i hi)).1;have hlen:(cK y).1.us.length=all.length:=hl;rw[aK,aK,aK];refine⟨⟨⟨?_, ?_⟩,bg h16⟩, ?_⟩
  .by_cases hi0:0<i
   .have:all[i]!.n≠[]:=by
     rcases hnm _ (aq hi)with e|e
     .exfalso;have:=List.pairwise_iff_getElem.1 hs 0 i hpos hi hi0;rw[<-getElem!_pos all 0 hpos,<-getElem!_pos all i hi,h0,e,tA]at this;cases this
     .exact e
    show(!(decide (0<i)&&decide (all[i]!.n=[])))=true;rw[bB this,Bool.and_false];rfl
   .rw[bB hi0];rfl
  .by_cases hi1:1<i
   .rw[hat (i-1) ae];have:=List.pairwise_iff_getElem.1 hs (i-1) i ae hi ae;rw[<-getElem!_pos all (i-1) ae,<-getElem!_pos all i hi]at this;have e:jF (qi y all all[i-1]!) (qi y all all[i]!)=true:=this;rw[e];simp
   .rw[bB hi1];rfl
  .rw[bG,hlen];intro j _ hj;exact(hcv i hi).2 j hj
structure InvC (w:cA)(c:List Int):Prop where
 l:c.length=w.us.length
 z:c[0]! =0
 f:∀i,i<w.us.length->-1<=c[i]! /\c[i]! <(w.us[i]!.cands.length:Int)
theorem NS {i:Nat}{v:Int}(hj:j<c.length):(c.set j v)[i]! =if i=j then v else c[i]! :=by
 simp only[List.getElem!_eq_getElem?_getD,List.getElem?_set]
 grind
def InvC.set {k:Nat}(h:InvC w c)(h1:1<=j)(hj:j<w.us.length)(hk:k<w.us[j]!.cands.length):InvC w (c.set j (k:Int)):=by
 have hl:j<c.length:=by have:=h.l;omega
 refine⟨by rw[List.length_set,h.l],by rw[NS hl,ai ae];exact h.z,λi hi=>?_⟩;rw[NS hl];split
 .rename_i e;subst e;omega
 .exact h.f i hi
def eM (us:List dz)(c:List Int)(nm:av):Nat->List av
 |0=>[]
 |i+1=>if 0<i/\((us[i]!.name=nm/\¬us[i]!.feat=[])/\0<=c[i]!)then eM us c nm i++[us[i]!.feat]else eM us c nm i
def mb (c:List Int)(u:Nat):List av:=eM us c us[u]!.name us.length
def eA (us:List dz)(c:List Int)(u:Nat)(x:fj):ea×Int:=
 if x.sh=-1 then(⟨us[u]!.name,x.v,[],0,mb us c u⟩,0)else if x.sh<0\/(shop.length:Int)<=x.sh then(default,12)
 else if oJ shop[x.sh.toNat]! us[u]!.name x.v<0 then(default,9)
 else(⟨us[u]!.name,x.v,shop[x.sh.toNat]!.name,shop[x.sh.toNat]!.es[(oJ shop[x.sh.toNat]! us[u]!.name x.v).toNat]!.sum,mb us c u⟩,0)
def cG (c:List Int)(u:Nat):fj:=us[u]!.cands[c[u]!.toNat]!
def ei (c:List Int)(u:Nat):Bool:=(decide (u=0) ||decide (c[u]! <0)) ||!decide (us[u]!.feat=[])
def dP (shop:List cj)(us:List dz)(c:List Int):Nat->List ea×Int
 |0=>([],0)
 |i+1=>if(dP shop us c i).2≠0 then dP shop us c i else if ei us c i=true then dP shop us c i
  else if(eA shop us c i (cG us c i)).2≠0 then([],(eA shop us c i (cG us c i)).2)else((dP shop us c i).1++[(eA shop us c i (cG us c i)).1],0)
def HJ:jE:=⟨⟨[],[],[]⟩,[]⟩
def eQ (w:cA)(c:List Int):List ea×Int:=dP shop w.us c w.us.length
def HY (e:Env)(w:cA)(c:List Int):jE×Int:=
 if((hR w=false\/eR shop=false)\/pd e=false)\/eV w c=false then(HJ,1)else if ¬(rq w c).length=0 then(HJ,37)
 else if ¬(eQ shop w c).2=0 then(HJ,(eQ shop w c).2)else(⟨e,(eQ shop w c).1⟩,0)
section
variable {shop:List cj}{us:List dz}{i:Nat}
def F5 (h:¬(dP shop us c i).2=0):∀{n:Nat},i<=n->dP shop us c n=dP shop us c i
 |0,hn=>by obtain rfl:i=0:=ae
           rfl
 |n+1,hn=>by
  rcases dZ n i with h1|h1
  .obtain rfl:i=n+1:=ae;rfl
  .have ih:=F5 h h1;rw[dP,ak (by rw[ih];exact h),ih]
def Pr (h0:(dP shop us c i).2=0)(h:ei us c i=true):dP shop us c (i+1)=dP shop us c i:=by
 rw[dP,ai (λh=>h h0),ak h]
def Ut (h0:(dP shop us c i).2=0)(h:ei us c i=false){z:ea×Int}(hz:eA shop us c i (cG us c i)=z)(h2:¬z.2=0):dP shop us c (i+1)=([],z.2):=by
 subst hz;rw[dP,ai (λh=>h h0),ai gQ,ak h2]
def Us (h0:(dP shop us c i).2=0)(h:ei us c i=false){x:ea}(hz:eA shop us c i (cG us c i)=(x,0)):dP shop us c (i+1)=((dP shop us c i).1++[x],0):=by
 rw[dP,ai (λh=>h h0),ai gQ,hz,ai (λh=>h rfl)]
def tC:∀i,(dP shop us c i).1.length<=i
 |0=>aT _
 |i+1=>by
  have:=tC i;rw[dP];split
  .omega
  .split
   .omega
   .split
    .simp
    .rw[bV,List.length_singleton];omega
def vH (nm:av):∀i,(eM us c nm i).length<=i
 |0=>aT _
 |i+1=>by
  have:=vH nm i;rw[eM];split
  .rw[bV,List.length_singleton];omega
  .omega
def Xz (h:0<i/\((us[i]!.name=nm/\¬us[i]!.feat=[])/\0<=c[i]!)):eM us c nm (i+1)=eM us c nm i++[us[i]!.feat]:=by rw[eM,ak h]
def Xy (h:¬(0<i/\((us[i]!.name=nm/\¬us[i]!.feat=[])/\0<=c[i]!))):eM us c nm (i+1)=eM us c nm i:=by rw[eM,ai h]
end
def E4 (a b:List Bool):Prop:=a.length=b.length/\∀i:Nat,i<a.length->a[i]! =true->b[i]! =true
def E4.NJ:E4 a a:=⟨rfl,λ_ _ h=>h⟩
def E4.tr {a b c:List Bool}(h1:E4 a b)(h2:E4 b c):E4 a c:=⟨h1.1.trans h2.1,λi hi h=>h2.2 i (by rw[<-h1.1];exact hi) (h1.2 i hi h)⟩
def E4.eq {a b:List Bool}(h1:E4 a b)(h2:E4 b a):a=b:=by
 apply List.ext_getElem h1.1;intro i hi hj;have e1:=h1.2 i hi;have e2:=h2.2 i hj;rw[getElem!_pos a i hi,getElem!_pos b i hj]at*
 cases ha:a[i]<;>cases hb:b[i]<;>simp_all
def SV (j:Nat)(b:Bool):E4 a (a.set j (a[j]! ||b)):=by
 refine⟨aF,λi hi h=>?_⟩;by_cases hj:j=i
 .subst hj;rw[List.getElem!_eq_getElem?_getD,List.getElem?_set_self hi];simp[h]
 .rw[List.getElem!_eq_getElem?_getD,List.getElem?_set_ne hj,<-List.getElem!_eq_getElem?_getD];exact h
section
def BT:∀(l:List Want) (is:List Bool),E4 is (vO w c is l)
 |[],is=>.NJ is
 |x::r,is=>(SV is x.u.toNat (lj w c x)).tr (BT r _)
def HR:∀(l:List nM) (is:List Bool),E4 is (xq w c is l)
 |[],is=>.NJ is
 |x::r,is=>(BT x is).tr (HR r _)
def Si (i:Nat)(is:List Bool):E4 is (HT w c i is):=by
 unfold HT;split
 .exact HR _ _
 .exact .NJ is
def tE:∀(n:Nat) (is:List Bool),E4 is (iY w c n is)
 |0,is=>.NJ is
 |n+1,is=>(tE n is).tr (Si n _)
def BS:∀(n:Nat) (is:List Bool),E4 is (jZ w c n is)
 |0,is=>.NJ is
 |n+1,is=>(BS n is).tr (tE _ _)
def wQ (l:List Bool):Nat:=l.countP λb=>b
def OY:∀{a b:List Bool},E4 a b->wQ a<=wQ b/\(wQ a=wQ b->a=b)
 |[],[],_=>⟨aT _,λ_=>rfl⟩
 |[],_::_,h=>by simp[E4]at h
 |_::_,[],h=>by simp[E4]at h
 |x::a,y::b,h=>by
  have h0:x=true->y=true:=λe=>by have:=h.2 0 aF;simpa using this (by simpa using e)
  have hr:E4 a b:=⟨by simpa using h.1,λi hi e=>by have:=h.2 (i+1) oz;simpa using this (by simpa using e)⟩;obtain⟨h1,h2⟩:=OY hr;unfold wQ at*
  rw[List.countP_cons,List.countP_cons];cases x<;>cases y<;>simp_all<;>omega
def Fix (w:cA)(c:List Int)(is:List Bool):Prop:=iY w c c.length is=is
def Mx {is:List Bool}(hl:is.length=c.length):∀n,Fix w c (jZ w c n is)\/n+1<=wQ (iY w c c.length (jZ w c n is))
 |0=>by
  obtain⟨h1,h2⟩:=OY (tE (w:=w) (c:=c) c.length is);by_cases h:wQ is=wQ (iY w c c.length is)
  .exact .inl (h2 h).symm
  .exact .inr (by show 0+1<=wQ (iY w c c.length is);omega)
 |n+1=>by
  rcases Mx hl n with h|h
  .left;show iY w c c.length (iY w c c.length (jZ w c n is))=iY w c c.length (jZ w c n is);rw[show iY w c c.length (jZ w c n is)=jZ w c n is from h];exact h
  .obtain⟨h1,h2⟩:=OY (tE (w:=w) (c:=c) c.length (jZ w c (n+1) is));by_cases h3:wQ (jZ w c (n+1) is)=wQ (iY w c c.length (jZ w c (n+1) is))
   .exact .inl (h2 h3).symm
   .right;have e:wQ (jZ w c (n+1) is)=wQ (iY w c c.length (jZ w c n is)):=rfl;omega
def acL (l:List Bool):wQ l<=l.length:=List.countP_le_length
def PG {is:List Bool}(hl:is.length=c.length):Fix w c (jZ w c c.length is):=by
 rcases Mx (w:=w) hl c.length with h|h
 .exact h
 .have h1:=(tE (w:=w) (c:=c) c.length (jZ w c c.length is)).1;have h2:=(BS (w:=w) (c:=c) c.length is).1;have:=acL (iY w c c.length (jZ w c c.length is));omega
def sB {a b d:List Bool}(h1:E4 a b)(h2:E4 b d)(h:a=d):b=a:=by subst h;exact h2.eq h1
def Gc:∀{l:List Want}{is:List Bool},vO w c is l=is->∀x∈l,x.u.toNat<is.length->lj w c x=true->is[x.u.toNat]! =true
 |[],is,_,x,hx,_,_=>by cases hx
 |y::r,is,h,x,hx,hl,hm=>by
  have e1:is.set y.u.toNat (is[y.u.toNat]! ||lj w c y)=is:=sB (SV is y.u.toNat (lj w c y)) (BT r _) h.symm;rcases bU.1 hx with rfl|hx
  .rw[hm,Bool.or_true]at e1;rw[<-e1,List.getElem!_eq_getElem?_getD,List.getElem?_set_self hl];rfl
  .refine Gc (l:=r) ?_ x hx hl hm;have:vO w c (is.set y.u.toNat (is[y.u.toNat]! ||lj w c y)) r=is:=h;rw[e1]at this;exact this
def Gb:∀{l:List nM}{is:List Bool},xq w c is l=is->∀r∈l,∀x∈r,x.u.toNat<is.length->lj w c x=true->is[x.u.toNat]! =true
 |[],is,_,r,hr,_,_,_,_=>by cases hr
 |q::l,is,h,r,hr,x,hx,hl,hm=>by
  have e1:vO w c is q=is:=sB (BT q is) (HR l _) h.symm;rcases bU.1 hr with rfl|hr
  .exact Gc e1 x hx hl hm
  .refine Gb (l:=l) ?_ r hr x hx hl hm;have:xq w c (vO w c is q) l=is:=h;rw[e1]at this;exact this
def Ga:∀{n:Nat}{is:List Bool},iY w c n is=is->∀i,i<n->HT w c i is=is
 |0,is,_,i,hi=>absurd hi (Nat.not_lt_zero i)
 |n+1,is,h,i,hi=>by
  have e1:iY w c n is=is:=sB (tE n is) (Si n _) h.symm;rcases dZ i n with h1|h1
  .exact Ga e1 i h1
  .obtain rfl:i=n:=ae;have:HT w c i (iY w c i is)=is:=h;rw[e1]at this;exact this
end
def B6 (h:eV w c=true):rq w c=[]↔∀u,u<c.length->0<=c[u]! ->(∀k,k<(bJ w c u).needs.length->FB w c (bJ w c u).needs[k]! =true)/\∀k,k<(bJ w c u).bars.length->lj w c (bJ w c u).bars[k]! =false:=by
 unfold rq;rw[ai mS,ja,List.flatMap_eq_nil_iff];constructor
 .intro g u hu h0;have g1:=g u (List.mem_range.2 hu);rw[ai ae,PS,List.append_eq_nil_iff,ku,pJ,List.flatMap_eq_nil_iff,List.flatMap_eq_nil_iff]at g1;refine⟨λk hk=>?_,λk hk=>?_⟩
  .have:=g1.1 k (List.mem_range.2 hk);split at this
   .assumption
   .cases this
  .have:=g1.2 k (List.mem_range.2 hk);split at this
   .cases this
   .rename_i hn;simpa using hn
 .intro g u hu;have hu:=List.mem_range.1 hu;split
  .rfl
  .rename_i h0;obtain⟨g1,g2⟩:=g u hu ae;rw[PS,List.append_eq_nil_iff,ku,pJ,List.flatMap_eq_nil_iff,List.flatMap_eq_nil_iff];refine⟨λk hk=>?_,λk hk=>?_⟩
   .rw[ak (g1 k (List.mem_range.1 hk))]
   .rw[ai (by rw[g2 k (List.mem_range.1 hk)];simp)]
def qP (h:eV w c=true):(fq w c).length=c.length:=by
 unfold fq;rw[ai mS,<-(BS (w:=w) (c:=c) c.length (mM c)).1];simp[mM]
def N4 (h:eV w c=true):(rS w c).length=c.length:=by
 unfold rS tidV;rw[bh,List.length_range,qP h]
def tM (h:eV w c=true){i:Nat}(hi:i<c.length):(rS w c)[i]! =if(fq w c)[i]! =true then c[i]! else-1:=by
 have hl:=qP h;unfold rS tidV;simp[hl,hi]
def N5 (h:eV w c=true):eV w (rS w c)=true:=by
 have hl:=N4 h;have h2:=h;unfold eV at h2⊢;rw[aK]at h2⊢;refine⟨h2.1, ?_⟩;obtain⟨h3,h4⟩:=oK h2.2;unfold vI;rw[aK,aX,bG];refine⟨ae,λj _ hj=>?_⟩;have h5:=h4 j ae;unfold CM;rw[tM h ae,aK,aX,aX];split
 .exact h5
 .omega
def InW (w:cA):=∀u∈w.us,∀c∈u.cands,(∀r∈c.needs,∀x∈r,0<=x.u/\x.u<(w.us.length:Int))/\∀x∈c.bars,0<=x.u/\x.u<(w.us.length:Int)
def QO (hI:InW w)(h:eV w c=true)(hh:rq w c=[]):rq w (rS w c)=[]:=by
 have hm:=N5 h;have hl:=N4 h;have hc:=(B6 h).1 hh;have hb:=h;unfold eV at hb;rw[aK]at hb;obtain⟨hlen,hfit⟩:=oK hb.2;have hfix:Fix w c (fq w c):=by
  unfold fq;rw[ai mS];exact PG (by simp[mM])
 have hnl:=qP h;rw[B6 hm];intro u hu h0;rw[hl]at hu;rw[tM h hu]at h0;have hn:(fq w c)[u]! =true:=by
  cases hq:(fq w c)[u]! with
  |true=>rfl
  |false=>rw[hq,ai aF]at h0;exact absurd h0 a7
 rw[hn,ak rfl]at h0;have hcu:=hfit u hu;have e1:bJ w (rS w c) u=bJ w c u:=by unfold bJ;rw[tM h hu,hn,ak rfl]
 rw[e1];have hmem:bJ w c u∈w.us[u]!.cands:=aq ae;obtain⟨hI1,hI2⟩:=hI _ (aq ae) _ hmem;have hstep:=Ga hfix u hu;unfold HT at hstep;rw[hn,ak rfl]at hstep;obtain⟨g1,g2⟩:=hc u hu h0;refine⟨λk hk=>?_,λk hk=>?_⟩
 .have hr:=aq hk;obtain⟨x,hx,hmx⟩:=List.any_eq_true.1 (show(bJ w c u).needs[k]!.any (lj w c)=true from g1 k hk);have hx2:=hI1 _ hr x hx;have hnx:=Gb hstep _ hr x hx ae hmx;refine List.any_eq_true.2 ⟨x,hx, ?_⟩;unfold lj at hmx⊢;rw[tM h (show x.u.toNat<c.length by omega),hnx,ak rfl];exact hmx
 .have hx2:=hI2 _ (aq hk);cases hq:lj w (rS w c) (bJ w c u).bars[k]! with
  |false=>rfl
  |true=>
   have g3:=g2 k hk;unfold lj at hq g3;rw[tM h (show(bJ w c u).bars[k]!.u.toNat<c.length by omega)]at hq;split at hq
   .rw[hq]at g3;cases g3
   .simp at hq
def acn {ns:List av}{i:Nat}(h:i<ns.length)(e:ns[i]! =nm):eU ns nm=ns:=by
 unfold eU;rw[ak (by rw[<-e];exact aq h)]
def Wu {ns:List av}(h:∀j,j<ns.length->ns[j]! ≠nm):eU ns nm=ns++[nm]:=by
 unfold eU;rw[ai];intro hm;obtain⟨j,hj,e⟩:=List.getElem_of_mem hm;exact h j hj (by simpa[hj]using e)
section
variable {m:List (Nat×bm)}{lf k:Nat}{a b c d X:List Sh}{r:List (List Sh)}{ds:List D}
def Hq {l:Nat}{es:List D}(h:look m l=some (.buf 1 es))(hn:es.length=n):((aL m l).drop 0).take n=es:=by
 simp only[aL,h,dM];rw[<-hn,List.take_length]
def ajl (ns:List av)(h:Cb y lf j k ns m):xC m (.pt [.sl 1 [.a],.sl 1 [.sl 10 X]]) (.ptr lf 2 0 0)=fdR y ns:=by
 obtain⟨h1,h2,h3⟩:=h;have e1:aL m lf=[eN j k ns.length]:=by simp only[aL,h1]
 have e2:=Hq h2 (bh ..);have e3:=Hq h3 (zx y ns);show D.ref 2 ((aL m lf).map _) 0 0=_;rw[e1];show D.ref 2 [D.agg [xC m (.sl 1 [.a]) (.own j 1 0 ns.length),xC m (.sl 1 [.sl 10 X]) (.own k 1 0 ns.length)]] 0 0=_;rw[show xC m (.sl 1 [.a]) (.own j 1 0 ns.length)=.sl 1 (ns.map D.str)from by simp only[xC];rw[e2,List.map_map];exact ar (D.sl 1) (List.map_congr_left λ_ _=>rfl),
  show xC m (.sl 1 [.sl 10 X]) (.own k 1 0 ns.length)=.sl 1 (df y ns)from by simp only[xC];rw[e3,df,List.map_map];exact ar (D.sl 1) (List.map_congr_left λ_ _=>rfl)]
 rfl
def afe (ns:List av)(h:Cb y lf j k ns m):jf m ([.sl 11 a,.sl 2 b,.a,.a,.a,.sl 6 c,.sl 2 d,.pt [.sl 1 [.a],.sl 1 [.sl 10 X]]]::r) (cx.D y (.ptr lf 2 0 0)::ds)=cx.D y (fdR y ns)::jf m r ds:=by
 rw[jf];congr 1;show D.agg [_,_,_,_,_,_,_,xC m (.pt [.sl 1 [.a],.sl 1 [.sl 10 X]]) (.ptr lf 2 0 0)]=_;rw[ajl y ns h];rfl
def ado (ns:List av)(h:Cb y lf j k ns m):VT m (.pt [.sl 1 [.a],.sl 1 [.sl 10 X]]) (.ptr lf 2 0 0):=by
 obtain⟨h1,h2,h3⟩:=h;have e1:aL m lf=[eN j k ns.length]:=by simp only[aL,h1]
 have e2:=Hq h2 (bh ..);have e3:=Hq h3 (zx y ns);refine⟨by simp only[ed,h1];exact⟨trivial,Nat.zero_le _⟩, ?_⟩;rw[e1];intro e he;obtain rfl:=aJ.1 he;show VT m (.sl 1 [.a]) (.own j 1 0 ns.length)/\VT m (.sl 1 [.sl 10 X]) (.own k 1 0 ns.length)/\aP []=true;refine⟨⟨by simp only[ed,h2];exact⟨trivial,aF⟩, ?_⟩,⟨by simp only[ed,h3];exact⟨trivial,by rw[zx];omega⟩, ?_⟩,rfl⟩
 .rw[e2];intro e he;obtain⟨_,_,rfl⟩:=ch.1 he;exact rfl
 .rw[e3];intro e he;obtain⟨_,_,rfl⟩:=ch.1 he;exact rfl
def aa3 (ns:List av)(h:Cb y lf j k ns m)(hr:iU m r ds):iU m ([.sl 11 a,.sl 2 b,.a,.a,.a,.sl 6 c,.sl 2 d,.pt [.sl 1 [.a],.sl 1 [.sl 10 X]]]::r) (cx.D y (.ptr lf 2 0 0)::ds):=by
 rw[iU];refine⟨?_,hr⟩;show _/\_/\_/\_/\_/\_/\_/\VT m (.pt [.sl 1 [.a],.sl 1 [.sl 10 X]]) (.ptr lf 2 0 0)/\_;exact⟨rfl,rfl,rfl,rfl,rfl,rfl,rfl,ado y ns h,rfl⟩
end
def ofT_y {l:List uG}{i:Nat}(h:i<l.length)(hc:ft=[]\/isF l[i]!.r.feats ft=true):(l.take i).filter (YU ft)++[l[i]!]=(l.take (i+1)).filter (YU ft):=by
 rw[FU h,ak];unfold YU;rcases hc with h|h
 .rw[bg h];rfl
 .rw[h,Bool.or_true]
def ofT_n {l:List uG}{i:Nat}(h:i<l.length)(hc:¬ft=[]/\isF l[i]!.r.feats ft=false):(l.take i).filter (YU ft)=(l.take (i+1)).filter (YU ft):=by
 rw[FU h,ai,fZ];unfold YU;rw[bB hc.1,hc.2];simp
def Tf {y:cx}(h:pG y):y.l.length<=1000:=by
 obtain⟨⟨⟨m,hm,_⟩,_⟩,_⟩:=h;rw[hm];simp
def SQ {y:cx}(h:k=fI):cZ y k=eH y.l:=by unfold cZ;rw[ak h]
def SP {y:cx}(h:¬k=fI):cZ y k=(eG y k).flatMap λx=>cJ x.r y.e k.f:=by unfold cZ;rw[ai h]
def Yh {ns:List av}(h:k=fI):jq ns k=ns:=by unfold jq;rw[ak h]
def Pg {ns:List av}(h:¬k=fI):jq ns k=eU ns k.n:=by unfold jq;rw[ai h]
def af4 {y:cx}(hy:qy y){i:Nat}(h:i<(eG y k).length):Cd (eG y k)[i]!.r/\(eG y k)[i]!.r.v∈bT:=by
 have hx:=aq h;exact⟨((xy hy.p k).2 _ hx).1,xg hy.p hy.v hy.m k.n _ (List.mem_filter.1 hx).1⟩
def B7 (l k:Nat)(es:List Abs.D)(y:cx)(a b c d:Nat):iX l k es (cx.D y (.ptr a b c d))=cx.D y (iX l k es (.ptr a b c d)):=rfl
def nv (l k:Nat)(es:List Abs.D)(ns:List av):oL l k es (ns.map D.str)=ns.map D.str:=kJ l k es _ (IK ns)
def nu (l k:Nat)(es:List Abs.D)(y:cx)(ns:List av):oL l k es (df y ns)=df y ns:=kJ l k es _ (jg y ns)
def qX:D:=match mN y with
 |none=>.tup [.sl 2 [],.bool false]
 |some all=>.tup [.sl 2 (all.map Key.D),.bool true]
def Bf (b:List Key)(o c:Nat)(l:List Key):Prop:=c=l.length/\b.drop o=l/\o+c=b.length
structure RcS where
 n:Nat
 s:oX
 b:List Key
 o:Nat
 c:Nat
 nn:List av
structure RcT where
 i:Nat
 t:oX
 b:List Key
 o:Nat
 c:Nat
structure RcU where
 j:Nat
 u:oX
 b:List Key
 o:Nat
 c:Nat
def TF (ns:List av)(p:RcS):Prop:=(p.n<=48/\TG y p.s/\p.n+p.s.todo.length=p.s.all.length)/\(p.nn.length<=ns.length+p.n/\mN y=Bs y (49-p.n) p.s/\sP y 49 nB ns=sP y (49-p.n) p.s p.nn)/\Bf p.b p.o p.c p.s.todo
def TH (s:oX)(p:RcT):Prop:=p.i<=(cZ y s.todo[0]!).length/\p.t=P4 ⟨s.all,s.todo.drop 1⟩ ((cZ y s.todo[0]!).take p.i)/\Bf p.b p.o p.c p.t.todo/\p.t.all.length+p.t.todo.length<=96+6*p.i
def OE (row:fN)(t:oX)(i:Nat)(p:RcU):Prop:=p.j<=row.length/\p.u=(row.take p.j).foldl mw t/\Bf p.b p.o p.c p.u.todo/\p.u.all.length+p.u.todo.length<=96+6*i+2*p.j
def ald (ns:List av):TF y ns ⟨0,nB,[fI],0,1,ns⟩:=⟨⟨aF,ZT y,rfl⟩,⟨aT _,rfl,rfl⟩,rfl,rfl,rfl⟩
def ahX {l:List Key}{o:Nat}(h:b.drop o=l)(h0:0<l.length):b[o+0]! =l[0]! :=by
 subst h;rw[iQ]at h0;simp
def ahW {l:List Key}{o c:Nat}(h1:c=l.length)(h2:b.drop o=l)(k:Key):((b.map Key.D).drop o).take c++[Key.D k]=(l++[k]).map Key.D:=by
 rw[<-List.map_drop,h2,h1,GS,List.map_append];rfl
def ahY (l:List Key){c:Nat}(h:c=l.length)(k:Key):Bf (l++[k]) 0 (c+1) (l++[k]):=⟨gQ,rfl,gQ⟩
def alv {s:oX}{o c:Nat}(h1:c=s.todo.length)(h2:b.drop o=s.todo)(h3:o+c=b.length)(h0:0<s.todo.length)(h48:s.all.length<=48)(hle:s.todo.length<=s.all.length):TH y s ⟨0,⟨s.all,s.todo.drop 1⟩,b,o+1,c-1⟩:=by
 refine⟨Nat.zero_le _,rfl,⟨?_, ?_, ?_⟩, ?_⟩
 .simp only[iQ];omega
 .simp only;rw[<-h2,List.drop_drop]
 .simp only;omega
 .simp only[iQ];omega
def alA (row:fN){i:Nat}{o c:Nat}(h1:c=t.todo.length)(h2:b.drop o=t.todo)(h3:o+c=b.length)(h:t.all.length+t.todo.length<=96+6*i):OE row t i ⟨0,t,b,o,c⟩:=⟨Nat.zero_le _,rfl,⟨h1,h2,h3⟩,jH⟩
def VA [Inhabited α]{l:List α}{i:Nat}(h:i<l.length):l.take (i+1)=l.take i++[l[i]!]:=by
 rw[List.take_add_one,List.getElem?_eq_getElem h];simp[h]
def RW (h:j<row.length):(row.take (j+1)).foldl mw t=mw ((row.take j).foldl mw t) row[j]! :=by
 have e:row.take (j+1)=row.take j++[row[j]!]:=by
  rw[List.take_add_one,List.getElem?_eq_getElem h];simp[h]
 rw[e,List.foldl_append];rfl
def aeB (l:List Key)(k:Key):(sN l k).length<=l.length+1:=by
 rcases DA l k with⟨h,_⟩|⟨h,_⟩
 .rw[h];omega
 .omega
def alC {u:oX}{i:Nat}{o c:Nat}(h:OE row t i ⟨j,u,b,o,c⟩)(hj:j<row.length)(hc:u.all.length<(sN u.all row[j]!.k).length):OE row t i ⟨j+1,⟨sN u.all row[j]!.k,u.todo++[row[j]!.k]⟩,u.todo++[row[j]!.k],0,c+1⟩:=by
 obtain⟨h1,h2,⟨h3,_⟩,h4⟩:=h;simp only at h1 h2 h3 h4;have:=aeB u.all row[j]!.k;refine⟨hj, ?_,ahY _ h3 _, ?_⟩
 .simp only;rw[RW hj,<-h2,mw,ak hc]
 .simp only[bV,List.length_singleton];omega
def alB {u:oX}{i:Nat}{o c:Nat}(h:OE row t i ⟨j,u,b,o,c⟩)(hj:j<row.length)(hc:¬u.all.length<(sN u.all row[j]!.k).length):OE row t i ⟨j+1,u,b,o,c⟩:=by
 obtain⟨h1,h2,h3,h4⟩:=h;simp only at h1 h2 h3 h4;refine⟨hj, ?_,h3,jH⟩;simp only;rw[RW hj,<-h2,mw,ai hc]
def alw {y:cx}{s u:oX}{i:Nat}{b1 b2:List Key}{o1 c1 o2 c2:Nat}(h:TH y s ⟨i,t,b1,o1,c1⟩)(hU:OE (cZ y s.todo[0]!)[i]! t i ⟨j,u,b2,o2,c2⟩)(hi:i<(cZ y s.todo[0]!).length)(hj:(cZ y s.todo[0]!)[i]!.length<=j)(hr:(cZ y s.todo[0]!)[i]!.length<=3):TH y s ⟨i+1,u,b2,o2,c2⟩:=by
 obtain⟨h1,h2,_,h4⟩:=h;obtain⟨g1,g2,g3,g4⟩:=hU;simp only at h1 h2 h4 g1 g2 g3 g4;refine⟨hi, ?_,g3,jH⟩;have e:=VA hi;simp only;rw[e,P4,List.foldl_append,g2,fE hj,h2];rfl
def ale {y:cx}{ns nn:List av}{i:Nat}{s:oX}{b1:List Key}{o c o1 c1:Nat}(h:TF y ns ⟨n,s,b,o,c,nn⟩)(hT:TH y s ⟨i,t,b1,o1,c1⟩)(h0:0<s.todo.length)(hi:(cZ y s.todo[0]!).length<=i)(h48:¬48<t.all.length):TF y ns ⟨n+1,t,b1,o1,c1,jq nn s.todo[0]!⟩:=by
 obtain⟨⟨p1,p2,p3⟩,⟨q1,q2,q3⟩,_⟩:=h;obtain⟨_,t2,t3,_⟩:=hT;simp only at p1 p2 p3 q1 q2 q3 t2 t3;rw[fE hi]at t2;have t2:t=Bt y s:=t2;have hl:=(SI y h0).1.len;rw[<-t2]at hl;simp only[iQ]at hl;have h6:=p2.len.2;have e:49-n=(49-(n+1))+1:=ae;have hk:=C5 nn s.todo[0]!;refine⟨⟨jH,t2▸ZX p2 h0 (by rw[<-t2];omega),jH⟩,⟨jH, ?_, ?_⟩,t3⟩
 .simp only;rw[q2,e,Bs,ai ae,ai (by rw[<-t2];exact h48),t2]
 .simp only;rw[q3,e,sP,ai ae,ai (by rw[<-t2];exact h48),t2]
def DL {y:cx}{ns nn:List av}{i:Nat}{s:oX}{b1:List Key}{o c o1 c1:Nat}(h:TF y ns ⟨n,s,b,o,c,nn⟩)(hT:TH y s ⟨i,t,b1,o1,c1⟩)(h0:0<s.todo.length)(hi:(cZ y s.todo[0]!).length<=i)(h48:48<t.all.length):qX y=.tup [.sl 2 [],.bool false]/\sP y 49 nB ns=jq nn s.todo[0]! :=by
 obtain⟨⟨p1,p2,p3⟩,⟨q1,q2,q3⟩,_⟩:=h;obtain⟨_,t2,_⟩:=hT;simp only at p1 p2 p3 q1 q2 q3 t2;rw[fE hi]at t2;have t2:t=Bt y s:=t2;have e:49-n=(49-(n+1))+1:=ae;constructor
 .unfold qX;rw[q2,e,Bs,ai ae,ak (by rw[<-t2];exact h48)]
 .rw[q3,e,sP,ai ae,ak (by rw[<-t2];exact h48)]
def zw {y:cx}{ns nn:List av}{s:oX}{o c:Nat}(h:TF y ns ⟨n,s,b,o,c,nn⟩)(h0:s.todo.length=0):qX y=.tup [.sl 2 (s.all.map Key.D),.bool true]/\sP y 49 nB ns=nn:=by
 obtain⟨⟨p1,p2,p3⟩,⟨q1,q2,q3⟩,_⟩:=h;simp only at p1 q2 q3;have e:49-n=(49-(n+1))+1:=ae;constructor
 .unfold qX;rw[q2,e,Bs,ak h0]
 .rw[q3,e,sP,ak h0]
def Bw (w:cA)(c:List Int)(i:Nat):List Int:=(List.range i).map λi=>if(fq w c)[i]! =true then c[i]! else-1
def aax (w:cA)(c:List Int)(i:Nat):(Bw w c i).length<=i:=by unfold Bw;rw[bh,List.length_range];omega
def als {i:Nat}(h:(fq w c)[i]! =true):Bw w c i++[c[i]!]=Bw w c (i+1):=by
 unfold Bw;rw[List.range_succ,List.map_append,List.map_singleton,ak h]
def alr {i:Nat}(h:(fq w c)[i]! =false):Bw w c i++[-1]=Bw w c (i+1):=by
 unfold Bw;rw[List.range_succ,List.map_append,List.map_singleton,ai mS]
def My (w:cA)(c:List Int):(fq w c).length<=c.length:=by
 cases h:eV w c with
 |true=>exact Nat.le_of_eq (qP h)
 |false=>unfold fq;rw[ak h];exact Nat.zero_le _
section
variable {y:cx}{all:List Key}{x:uG}{i:Nat}
def LA (h:k=fI):eo y all k=([⟨zV,-1,dF all (eH y.l),[]⟩],true):=ak h
def acK (h:k.f=[]):(⟨x.r.v,x.sh,dF all (cJ x.r y.e k.f),wK all x.r y.e⟩:fj)=dA y all k x:=by unfold dA;rw[ak h]
def acJ (h:¬k.f=[]):(⟨x.r.v,x.sh,dF all (cJ x.r y.e k.f),[]⟩:fj)=dA y all k x:=by unfold dA;rw[ai h]
def Lz (h:¬k=fI)(hi:i<(eG y k).length)(hw:24<(dA y all k (eG y k)[i]!).needs.length\/24<(dA y all k (eG y k)[i]!).bars.length):eo y all k=([],false):=by
 unfold eo;rw[ai h,ak];rw[List.any_map,List.any_eq_true];refine⟨_,aq hi, ?_⟩;show ot _=true;unfold ot;rcases hw with h|h<;>rw[bg h]<;>simp
def RG (hi:i<(eG y k).length)(h:(((eG y k).take i).map (dA y all k)).any ot=false)(hn:¬24<(dA y all k (eG y k)[i]!).needs.length/\¬24<(dA y all k (eG y k)[i]!).bars.length):(((eG y k).take (i+1)).map (dA y all k)).any ot=false:=by
 rw[map_take hi,List.any_append,h,List.any_cons,List.any_nil];unfold ot;rw[bB hn.1,bB hn.2];rfl
def Ly (h:¬k=fI)(hw:((eG y k).map (dA y all k)).any ot=false):eo y all k=((eG y k).map (dA y all k),decide ((dI y k.n).length<=16)):=by
 unfold eo;rw[ai h,ai (by rw[hw];simp)]
def TI (nm:av):eU (eU ns nm) nm=eU ns nm:=by
 have:nm∈eU ns nm:=by
  unfold eU;split
  .assumption
  .simp
 rw[eU,ak this]
end
def sf (all:List Key)(k:Key):D:=.tup [.sl 8 ((eo y all k).1.map fj.D),.bool (eo y all k).2]
def W0 (l k:Nat)(es:List Abs.D)(c:fj):iX l k es (fj.D c)=fj.D c:=rfl
def iK:List Key:=(mN y).getD []
def okY:Bool:=(mN y).isSome
def Gr:qX y=.tup [.sl 2 ((iK y).map Key.D),.bool (okY y)]:=by
 unfold qX iK okY;cases mN y<;>rfl
def Ww:(iK y).length<=48:=by
 unfold iK;cases h:mN y with
 |none=>simp
 |some all=>exact(qc h).2.1
section
variable {y:cx}{i:Nat}
def YV (y:cx)(i:Nat):Bool:=okY y&&(nF y (iK y) i).2
def yo (y:cx)(i:Nat):List dz:=(nF y (iK y) i).1
def YR (y:cx)(i:Nat):List av:=aaR (iK y) (sP y 49 nB []) i
def Oe:∀i,(yo y i).length<=i
 |0=>aT _
 |i+1=>by
  have:=Oe i;unfold yo at this⊢;rw[nF];split
  .rw[bV,List.length_singleton];omega
  .omega
def aeg (y:cx)(i:Nat):(YR y i).length<=49+i:=by
 have h1:=Om (iK y) (sP y 49 nB []) i;have h2:=M6 y 49 nB [];unfold YR;simp only[b7]at h2;omega
def alD (h:YV y i=true):yo y i++[qi y (iK y) (iK y)[i]!]=yo y (i+1):=by
 unfold YV at h;rw[aK]at h;unfold yo;rw[nF,ak h.2]
def okS_s (h:YV y i=true):(eo y (iK y) (iK y)[i]!).2=YV y (i+1):=by
 unfold YV at h⊢;rw[aK]at h;rw[nF,ak h.2,h.1];rfl
def nsS_s:jq (YR y i) (iK y)[i]! =YR y (i+1):=rfl
def G0 {all:List Key}(h:(nF y all i).2=false):∀n,nF y all (i+n)=nF y all i
 |0=>rfl
 |n+1=>by
  have ih:=G0 h n;rw[show i+(n+1)=(i+n)+1 from rfl,nF,ai (by rw[ih,h];simp),ih]
def VK (hi:i<=(iK y).length)(hc:¬((i:Nat):Int)<((iK y).length:Nat)\/YV y i=false):cK y=(⟨yo y i⟩,YV y i):=by
 unfold cK yo YV okY iK at*
 cases h:mN y with
 |none=>
  rw[h]at hi;have:i=0:=by simpa using hi
  subst this;rfl
 |some all=>
  rw[h]at hi hc;simp only[Option.getD_some,Option.isSome_some,ez]at hi hc⊢;rcases hc with hc|hc
  .obtain rfl:i=all.length:=ae;rfl
  .have:=G0 hc (all.length-i);rw[show i+(all.length-i)=all.length by omega]at this;rw[this]
end
def zJ:D:=.tup [cA.D (cK y).1,.bool (cK y).2]
def WldQ:D->List (Nat×bm)->Prop:=λd _=>d=zJ y
def WldC (Y:Ctx)(n:Nat)(y:cx)(V:D):=∀(nx lf:Nat) (m:List (Nat×bm)) (K:D->St->Prop),lf<nx->look m lf=some (.buf 2 [.agg [.aR,.aR]])->K V ⟨nx,dd m lf⟩->Y.tr n [cx.D y (.ptr lf 2 0 0)] ⟨nx,m⟩ K
def aaK (l k:Nat)(es:List Abs.D)(u:dz):iX l k es (dz.D u)=dz.D u:=rfl
section
variable {l:List gI}{shop:List cj}{e:Env}{ks:List Kp}
abbrev yr (l:List gI)(shop:List cj)(e:Env)(ks:List Kp):cx:=⟨l,shop,e,ks,gu l⟩
def acD (h:eR shop=false\/pd e=false):fV l shop e ks=(⟨[]⟩,1):=ak h
def acE {i:Nat}(h:eR shop=true/\pd e=true)(hi:i<(gu l).length)(hn:mz shop (gu l)[i]!.shelf<0):fV l shop e ks=(⟨[]⟩,12):=by
 unfold fV;rw[ai gQ,ak];exact List.any_eq_true.2 ⟨_,aq hi,bg hn⟩
def Zh {i:Nat}(hi:¬i<(gu l).length)(h:∀j,j<i->0<=mz shop (gu l)[j]!.shelf):¬((gu l).any λp=>decide (mz shop p.shelf<0))=true:=by
 intro h1;obtain⟨p,hp,h2⟩:=List.any_eq_true.1 h1;obtain⟨j,hj,rfl⟩:=fS hp;have:=h j ae;simp at h2;rw[List.getElem!_eq_getElem?_getD]at this;omega
def acF (h:eR shop=true/\pd e=true)(hp:¬((gu l).any λp=>decide (mz shop p.shelf<0))=true)(hw:(cK (yr l shop e ks)).2=false):fV l shop e ks=(⟨[]⟩,10):=by
 unfold fV;rw[ai gQ,ai hp,ak hw]
def acG (h:eR shop=true/\pd e=true)(hp:¬((gu l).any λp=>decide (mz shop p.shelf<0))=true)(hw:¬(cK (yr l shop e ks)).2=false):fV l shop e ks=((cK (yr l shop e ks)).1,0):=by
 unfold fV;rw[ai gQ,ai hp,ai hw]
end
section
variable [cI]{P:Program}{ν:List (Nat×Nat)}{bR:List Nat}{t:List (Nat×mG)}{fid key u:Nat}{af:aj}{y:cx}{lf nx:Nat}{m:List (Nat×bm)}{K:D->St->Prop}
def aaT (hmix:P.follows .mixedOrders=true)(hC:V8 P ν bR fid af)(hnp:1=af.np)(h1:lf<nx)(hat:look m lf=some (.buf 2 [.agg [.aR,.aR]]))(hK:K (zJ y) ⟨nx,dd m lf⟩)(hw:dk ((under t key u).at 1) af.body (wD af (WldQ y)) (fP af [cx.D y (.ptr 0 2 0 0)]) ⟨1,[(0,.buf 2 [.agg [.aR,.aR]])]⟩):wA P ν bR (under t key u) fid [cx.D y (.ptr lf 2 0 0)] ⟨nx,m⟩ K:=by
 have g3:ig 0 1 [(lf,0)]=true:=by simp[ig]
 have g4:∀l i,(l,i)∈[(lf,0)]->look m l≠none:=by
  intro l i h;obtain⟨rfl,rfl⟩:=Prod.mk.inj (aJ.1 h);rw[hat];simp
 have g5:∀i b,look [(0,bm.buf 2 [.agg [.aR,.aR]])] i=some b->∃l b',(l,i)∈[(lf,0)]/\look m l=some b'/\qx 0 [(lf,0)] b' b:=by
  intro i b h;simp only[look]at h;split at h
  .rename_i e;subst e;obtain rfl:=bc h;exact⟨lf,_,.head _,hat,rfl,.inl ⟨rfl,rfl⟩⟩
  .cases h
 refine R0 (σi:=[(lf,0)]) (cs:=[cx.D y (.ptr 0 2 0 0)]) (λq=>Ob t key u q) hmix hC rfl ?_ hnp g3 g4 g5 hw ?_
 .intro i hi
  match i,hi with
  |0,_=>exact .inr (.inl (by simp[cx.D,vZ,rY,VQ,nb]))
 .rintro d m1 rfl;refine⟨[(0,lf)],1,⟨nx,dd m lf⟩,zJ y,⟨g3,by simp[ig,h1],aT _,g4, ?_,g5, ?_⟩,.inl ⟨rfl,rfl⟩,hK⟩
  .intro i l h;obtain⟨rfl,rfl⟩:=Prod.mk.inj (aJ.1 h);exact .inl (.head _)
  .intro l bb h;rw[fm]at h;split at h
   .cases h
   .rename_i hne;exact .inr ⟨by simp only[oC,ai (λe=>hne (Eq.symm e))],(λi hi=>by obtain⟨rfl,_⟩:=Prod.mk.inj (aJ.1 hi);exact hne rfl),h⟩
end
def Gf:∀{l:List D}{i:Nat},aP l=true->i<l.length->(l.getD i .any).aU=true
 |d::r,0,h,_=>by simp only[aP,aK]at h;exact h.1
 |d::r,i+1,h,hi=>by
  simp only[aP,aK]at h;exact Gf (l:=r) h.2 oz
def Ch {y:cx}{rest:List D}(hr:aP rest=true):afi (λf=>cx.D y f::rest):=by
 intro σ l l' h;refine⟨rfl,λi hi=>?_⟩;cases i with
 |zero=>exact .inr (.inl (by simp[cx.D,vZ,rY,VQ,h]))
 |succ i=>exact .inl ⟨rfl,Gf (l:=rest) hr oz⟩
def UZ:(qX y).aU=true:=by rw[Gr];rfl
section
variable [cI]{P:Program}{ν:List (Nat×Nat)}{bR:List Nat}{t:List (Nat×mG)}{fid key u k:Nat}{af:aj}{nx:Nat}{m:List (Nat×bm)}{K:D->St->Prop}
def sc {a b:Nat}(h:a≠b):Nat.beq a b=false:=by
 cases h2:Nat.beq a b with
 |false=>rfl
 |true=>exact absurd (Nat.eq_of_beq_eq_true h2) h
theorem D7 {m:List (Nat×bm)}{l lw:Nat}(h:l≠lw):fX (dd m lw) l=match look m l with
 |some (.bld (some l2) _ _)=>dd (dd m lw) l2
 |_=>dd m lw:=by
 grind [fX,fm,look]
def Uq {ws:List av}{s:av}{l lw:Nat}(hmix:P.follows .mixedOrders=true)(hC:V8 P ν bR fid af)(hnp:2=af.np)(h1:uO m l s)(h2:look m lw=some (.buf 1 (ws.map D.str)))(h3:l<nx)(h4:lw<nx)(hK:K (.tup []) ⟨nx+1,se (dd m lw) l nx (s++cr ws)⟩)(hw:∀m0,uO m0 0 s->look m0 1=some (.buf 1 (ws.map D.str))->dk ((under t key u).at 3) af.body (wD af (λd m=>d=.tup []/\look m 0=some (.bld (some 9) (s++cr ws).length true)/\look m 9=some (.row (s++cr ws)))) (fP af [.ptr 0 2 0 0,.own 1 1 0 ws.length]) ⟨3,m0⟩):
  wA P ν bR (under t key u) fid [.ptr l 2 0 0,.own lw 1 0 ws.length] ⟨nx,m⟩ K:=by
 have hlw:l≠lw:=by
  rintro rfl;rcases h1 with⟨u,h,_⟩|⟨l2,u,h,_⟩<;>rw[h2]at h<;>cases h
 have hnl:aP (ws.map D.str)=true:=cb (λ_=>rfl) _;have b1:=sc hlw;have b2:=sc (Ne.symm hlw);have b3:=sc (show l≠nx by omega);have b4:=sc (show nx≠l by omega)

 have fin:∀(σi:List (Nat×Nat)) (m0:List (Nat×bm)),ig 0 3 σi=true->(l,0)∈σi->(∀l i,(l,i)∈σi->look m l≠none)->(∀i b,look m0 i=some b->∃l b',(l,i)∈σi/\look m l=some b'/\qx 0 σi b' b)->
   (∀l' b,look (fX (dd m lw) l) l'=some b->l'≠l->look m l'=some b/\∀i,(l',i)∉σi)->∀d m1,(d=.tup []/\look m1 0=some (.bld (some 9) (s++cr ws).length true)/\look m1 9=some (.row (s++cr ws)))->
   ∃(σo:List (Nat×Nat)) (q1:Nat) (st':St) (vd':D),Fr σi σo 3 q1 m0 m1 ⟨nx,m⟩ st'/\RnD 0 σo d vd'/\K vd' st':=by
  rintro σi m0 oki hm hlt hm0 hoff d m1 ⟨rfl,e0,e9⟩;refine⟨[(0,l),(9,nx)],10,⟨nx+1,se (dd m lw) l nx (s++cr ws)⟩,.tup [],⟨oki, ?_,Nat.le_succ _,hlt, ?_,hm0, ?_⟩,.inl ⟨rfl,rfl⟩,hK⟩
  .simp[ig,b3,b4];exact⟨ae,rfl⟩
  .intro i l' h;rcases bU.1 h with h|h
   .obtain⟨rfl,rfl⟩:=Prod.mk.inj h;exact .inl hm
   .obtain⟨rfl,rfl⟩:=Prod.mk.inj (aJ.1 h);exact .inr (aT _)
  .intro l' bb h;simp only[se,look]at h;split at h
   .rename_i e;subst e;obtain rfl:=bc h;exact .inl ⟨9,_,.tail _ (.head _),e9,rfl⟩
   .rename_i hln;rw[bM]at h;split at h
    .rename_i e;subst e;obtain rfl:=bc h;exact .inl ⟨0,_,.head _,e0,⟨nx,rfl,rfl⟩,rfl,rfl⟩
    .rename_i hl;obtain⟨g1,g2⟩:=hoff l' bb h hl;exact .inr ⟨by simp only[oC,ai (λe=>hl (Eq.symm e)),ai hln],g2,g1⟩
 rcases h1 with⟨u,h1,rfl⟩|⟨l2,u,h1,h5⟩
 .have g4:∀l' i,(l',i)∈[(l,0),(lw,1)]->look m l'≠none:=by
   intro l' i h;rcases bU.1 h with h|h
   .obtain⟨rfl,rfl⟩:=Prod.mk.inj h;rw[h1];simp
   .obtain⟨rfl,rfl⟩:=Prod.mk.inj (aJ.1 h);rw[h2];simp
  have g3:ig 0 3 [(l,0),(lw,1)]=true:=by simp[ig,b1,b2];rfl
  have g5:∀i b,look [(0,bm.bld none 0 u),(1,.buf 1 (ws.map D.str))] i=some b->∃l' b',(l',i)∈[(l,0),(lw,1)]/\look m l'=some b'/\qx 0 [(l,0),(lw,1)] b' b:=by
   intro i b h;simp only[look]at h;split at h
   .rename_i e;subst e;obtain rfl:=bc h;exact⟨l,_,.head _,h1,rfl,rfl,rfl⟩
   .split at h
    .rename_i e;subst e;obtain rfl:=bc h;exact⟨lw,_,.tail _ (.head _),h2,rfl,.inl ⟨rfl,hnl⟩⟩
    .cases h
  refine R0 (σi:=[(l,0),(lw,1)]) (cs:=[.ptr 0 2 0 0,.own 1 1 0 ws.length]) (λq=>Ob t key _ q) hmix hC rfl ?_ hnp g3 g4 g5 (hw _ (.inl ⟨u,rfl,rfl⟩) rfl) (fin _ _ g3 (.head _) g4 g5 ?_)
  .intro i hi
   match i,hi with
   |0,_=>exact .inr (.inl Tw)
   |1,_=>exact .inr (.inl (by simp[vZ,VQ,nb,b1]))
  .intro l' b h hl;rw[D7 hlw]at h;simp only[h1]at h;rw[fm]at h;split at h
   .cases h
   .rename_i hw';refine⟨h,λi hi=>?_⟩;rcases bU.1 hi with hi|hi
    .exact hl (Prod.mk.inj hi).1
    .exact hw' (Prod.mk.inj (aJ.1 hi)).1
 .have c1:l2≠l:=by rintro rfl;rw[h1]at h5;cases h5
  have c2:l2≠lw:=by rintro rfl;rw[h2]at h5;cases h5
  have d1:=sc c1;have d2:=sc c2;have d3:=sc (Ne.symm c1);have d4:=sc (Ne.symm c2);have g4:∀l' i,(l',i)∈[(l,0),(lw,1),(l2,2)]->look m l'≠none:=by
   intro l' i h;rcases bU.1 h with h|h
   .obtain⟨rfl,rfl⟩:=Prod.mk.inj h;rw[h1];simp
   .rcases bU.1 h with h|h
    .obtain⟨rfl,rfl⟩:=Prod.mk.inj h;rw[h2];simp
    .obtain⟨rfl,rfl⟩:=Prod.mk.inj (aJ.1 h);rw[h5];simp
  have g3:ig 0 3 [(l,0),(lw,1),(l2,2)]=true:=by simp[ig,b1,b2,d1,d2,d3,d4];exact⟨⟨rfl,rfl⟩,rfl⟩
  have g5:∀i b,look [(0,bm.bld (some 2) s.length u),(1,.buf 1 (ws.map D.str)),(2,.row s)] i=some b->∃l' b',(l',i)∈[(l,0),(lw,1),(l2,2)]/\look m l'=some b'/\qx 0 [(l,0),(lw,1),(l2,2)] b' b:=by
   intro i b h;simp only[look]at h;split at h
   .rename_i e;subst e;obtain rfl:=bc h;exact⟨l,_,.head _,h1,⟨2,by simp[nb,d3,d4],rfl⟩,rfl,rfl⟩
   .split at h
    .rename_i e;subst e;obtain rfl:=bc h;exact⟨lw,_,.tail _ (.head _),h2,rfl,.inl ⟨rfl,hnl⟩⟩
    .split at h
     .rename_i e;subst e;obtain rfl:=bc h;exact⟨l2,_,.tail _ (.tail _ (.head _)),h5,rfl⟩
     .cases h
  refine R0 (σi:=[(l,0),(lw,1),(l2,2)]) (cs:=[.ptr 0 2 0 0,.own 1 1 0 ws.length]) (λq=>Ob t key _ q) hmix hC rfl ?_ hnp g3 g4 g5 (hw _ (.inr ⟨2,u,rfl,rfl⟩) rfl) (fin _ _ g3 (.head _) g4 g5 ?_)
  .intro i hi
   match i,hi with
   |0,_=>exact .inr (.inl Tw)
   |1,_=>exact .inr (.inl (by simp[vZ,VQ,nb,b1]))
  .intro l' b h hl;rw[D7 hlw]at h;simp only[h1]at h;rw[fm]at h;split at h
   .cases h
   .rename_i hw2;rw[fm]at h;split at h
    .cases h
    .rename_i hw';refine⟨h,λi hi=>?_⟩;rcases bU.1 hi with hi|hi
     .exact hl (Prod.mk.inj hi).1
     .rcases bU.1 hi with hi|hi
      .exact hw' (Prod.mk.inj hi).1
      .exact hw2 (Prod.mk.inj (aJ.1 hi)).1
end
end Go.Abs
