/- A part of the proofs. -/
import Derived.Test.YtkmlboofmolbaaaGreatDoorP06
set_option linter.all false
set_option maxRecDepth 60000
set_option maxHeartbeats 2000000
namespace Go.Abs
variable(y:cF){c l:List Int}{nm ft:au}{w:bR}(shop:List bM)(us:List cJ){es:List kj}{α:Type}(ks:List Int){j n:Nat}(g:Gs)(ns:List au){ord:List (List Int)}{t:pd}(a:List Bool){row:fV}
def qoW:au:=[63,111]
def qZ (l:List bw)(i:Nat):List au:=if Uf (l.take i)=true then [qoW]else []
def FQ {l:List bw}{i:Nat}(h:i<l.length):Uf (l.take (i+1))=(Uf (l.take i) ||decide (l[i]!.option=[111])):=by
 have e:l.take (i+1)=l.take i++[l[i]!]:=by
  rw[List.take_add_one,List.getElem?_eq_getElem h];simp[h]
 rw[e];simp[Uf]
def akK {l:List bw}{i:Nat}(h:i<l.length)(h2:l[i]!.option=[111]/\((qZ l i).length:Int)=0):qZ l (i+1)=[qoW]:=by
 unfold qZ;rw[FQ h,ak (by rw[bA h2.1,Bool.or_true])]
def akJ {l:List bw}{i:Nat}(h:i<l.length)(h2:¬l[i]!.option=[111]\/¬((qZ l i).length:Int)=0):qZ l i=qZ l (i+1):=by
 unfold qZ at*
 rw[FQ h];rcases h2 with h2|h2
 .simp only[bN h2,Bool.or_false]
 .split at h2
  .rename_i h3;rw[h3];rfl
  .simp at h2
def gS (l:List bw)(g:Gs):Nat->Gs
 |0=>g
 |i+1=>if l[i]!.any.length=1 then(gS l g i).aS else gS l g i
def afb (l:List bw)(g:Gs):∀i:Nat,pe (i:Int) g (gS l g i)
 |0=>by simp[pe,gS]
 |i+1=>by
  have:=afb l g i;rw[gS];split<;>simp only[pe,Gs.aS]at* <;>omega
def aj4 {l:List bw}{g:Gs}{i:Nat}(h:i<l.length)(h1:l[i]!.any.length=1)(h2:(gS l g i).val 3=0):iA (l.drop i) (gS l g i)=(some l[i]!.any[0]!.name,(gS l g i).aS):=by
 rw[fk h,iA,show l[i]=l[i]! by simp[h],ak h1,ak h2]
def aj5 {l:List bw}{g:Gs}{i:Nat}(h:i<l.length)(h1:l[i]!.any.length=1)(h2:¬(gS l g i).val 3=0):iA (l.drop i) (gS l g i)=iA (l.drop (i+1)) (gS l g (i+1)):=by
 rw[fk h,iA,show l[i]=l[i]! by simp[h],ak h1,ai h2,gS,ak h1]
def aj6 {l:List bw}{g:Gs}{i:Nat}(h:i<l.length)(h1:¬l[i]!.any.length=1):iA (l.drop i) (gS l g i)=iA (l.drop (i+1)) (gS l g (i+1)):=by
 rw[fk h,iA,show l[i]=l[i]! by simp[h],ai h1,gS,ai h1]
def aj7 {l:List bw}{g:Gs}{i:Nat}(h:l.length<=i):iA (l.drop i) (gS l g i)=(none,gS l g i):=by
 rw[ki h,iA]
def MZ (l:List bw):qZ l l.length=if Uf l=true then [qoW]else []:=by rw[qZ,List.take_length]
def M0 (l:List bw)(i:Nat):(qZ l i).length<=1:=by unfold qZ;split<;>simp
def WO {l:List bw}{g:Gs}{i:Nat}(hr:iA l g=iA (l.drop i) (gS l g i))(h:i<l.length)(h1:l[i]!.any.length=1)(h2:(gS l g i).val 3=0):m7 g l=(⟨[102],qZ l l.length++[l[i]!.any[0]!.name++[47,102]]⟩,(gS l g i).aS):=by
 rw[m7,ofG,hr,aj4 h h1 h2,MZ];rfl
def WQ {l:List bw}{g:Gs}{i:Nat}(hr:iA l g=iA (l.drop i) (gS l g i))(h:l.length<=i):m7 g l=(⟨[102],qZ l l.length⟩,gS l g i):=by
 rw[m7,ofG,hr,aj7 h,MZ];simp only[gF];rfl
section
variable {s:bM}{r:Rec}{v:ca}{on:Bool}
def put_1 (h:ic s=false):kX s r=(default,1):=by rw[kX,ak h]
def put_2 (h:ic s=true)(h2:¬(fD r).2=0):kX s r=(default,(fD r).2):=by rw[kX,ai gv,ak h2]
def put_3 (h:ic s=true)(h2:(fD r).2=0)(h3:0<=sG s.es r.name r.v 0):kX s r=(default,8):=by rw[kX,ai gv,ai (by simp[h2]),ak h3]
def put_4 (h:ic s=true)(h2:(fD r).2=0)(h3:¬0<=sG s.es r.name r.v 0)(h4:64<=s.es.length):kX s r=(default,10):=by rw[kX,ai gv,ai (by simp[h2]),ai h3,ak h4]
def put_5 (h:ic s=true)(h2:(fD r).2=0)(h3:¬0<=sG s.es r.name r.v 0)(h4:¬64<=s.es.length):kX s r=(⟨s.name,s.es++[⟨r,wv r,false⟩]⟩,0):=by rw[kX,ai gv,ai (by simp[h2]),ai h3,ai h4]
def alh (h:ic s=false):oH s nm v on=(default,1):=by rw[oH,ak h]
def ali (h:ic s=true)(h2:sG s.es nm v 0<0):oH s nm v on=(default,9):=by rw[oH,ai gv,ak h2]
def alj (h:ic s=true)(h2:sG s.es nm v 0=(j:Nat)):oH s nm v on=(⟨s.name,s.es.set j {s.es[j]! with off:=on}⟩,0):=by
 rw[oH,ai gv,ai ae,h2,Int.toNat_natCast]
end
def Rec.fz (l k:Nat)(es:List Abs.D)(c:Rec):iz l k es c.D=c.D:=gA l k es _ (by simp only[Rec.D,D.aT,aM,gG])
variable{r:Rec}
def Im [Inhabited α]{q:α->D}{xs:List α}{i k o:Nat}{v:D}{y:α}(h:i<xs.length)(he:pA (q xs[i]!) k n o v=q y):(xs.map q).set (0+i) (pA ((xs.map q).getD (0+i) .any) k n o v)=(xs.set i y).map q:=by
 rw[bX,getD_map h,he,List.map_set]
section
variable {g:Gs}{l:List bM}
def kG (g:Gs)(l:List bM):Nat:=(g.val l.length).toNat
def nmG (g:Gs):au:=cI[(g.aS.val 4).toNat]!
def vrG (g:Gs):ca:=bJ[(g.aS.aS.val 4).toNat]!
def Vj (g:Gs)(l:List bM):bM×Int:=oH l[kG g l]! (nmG g) (vrG g) (decide (0<g.aS.aS.aS.aS.val 3))
def rcG (g:Gs):Rec×Gs:=py g.aS.aS.aS.aS (nmG g) (vrG g) 2
def Vh (g:Gs)(l:List bM):bM×Int:=kX l[kG g l]! (rcG g).1
def YM (h:g.aS.aS.aS.val 6=0)(h2:(Vj g l).2=0):lR g l=(l.set (kG g l) (Vj g l).1,g.aS.aS.aS.aS.aS):=by
 rw[show lR g l=(q9 l (kG g l) (Vj g l),g.aS.aS.aS.aS.aS)from ak h,q9,ak h2]
def YN (h:g.aS.aS.aS.val 6=0)(h2:¬(Vj g l).2=0):lR g l=(l,g.aS.aS.aS.aS.aS):=by
 rw[show lR g l=(q9 l (kG g l) (Vj g l),g.aS.aS.aS.aS.aS)from ak h,q9,ai h2]
def YO (h:¬g.aS.aS.aS.val 6=0)(h2:(Vh g l).2=0):lR g l=(l.set (kG g l) (Vh g l).1,(rcG g).2):=by
 rw[show lR g l=(q9 l (kG g l) (Vh g l),(rcG g).2)from ai h,q9,ak h2]
def YP (h:¬g.aS.aS.aS.val 6=0)(h2:¬(Vh g l).2=0):lR g l=(l,(rcG g).2):=by
 rw[show lR g l=(q9 l (kG g l) (Vh g l),(rcG g).2)from ai h,q9,ai h2]
end
def tK (i:Nat):bJ[i]!.sm:=oa (P:=λv:ca=>v.sm) ⟨aU,aU⟩ (by
 intro v hv;simp only[bJ,bL,cY,or_false]at hv;rcases hv with rfl|rfl|rfl|rfl<;>exact⟨aU,aU⟩) i
def C2 {i:Nat}(h:i<4):cI[i]! ∈cI:=aq h
def Mb (own:au):(cW g own).1∈cI:=by
 have r4:=g.eQ 4 ae;have r3:=g.aS.eQ 3 ae;have rz:=Xt cI own;unfold cW;split
 .exact C2 ae
 .exact C2 ae
def ag7 (own:au):∀w∈(ib g own).1,w.name∈cI:=by
 have h1:=Mb g own;have h2:=Mb (dE g own).2.aS own;unfold ib;split
 .intro w hw;simp only[bL,cY,or_false]at hw;rcases hw with rfl|rfl<;>assumption
 .split<;>intro w hw<;>rw[aD.1 hw]<;>exact h1
def X2 (own:au)(g:Gs):∀i,∀n∈(nS own g i).1,∀w∈n.any,w.name∈cI
 |0=>λ_ h=>by cases h
 |i+1=>λn h=>by
  rcases List.mem_append.1 h with h|h
  .exact X2 own g i n h
  .rw[aD.1 h];exact ag7 _ _
def HG:∀(l:List bw) (g:Gs),(∀n∈l,∀w∈n.any,w.name∈cI)->∀s,(iA l g).1=some s->s∈cI
 |[],g,_,s,h=>by cases h
 |n::r,g,hl,s,h=>by
  rw[iA]at h;split at h
  .rename_i h1;split at h
   .simp only[aE]at h;rw[<-h];exact hl n (.head _) _ (aq ae)
   .exact HG r _ (λn hn=>hl n (.tail _ hn)) s h
  .exact HG r _ (λn hn=>hl n (.tail _ hn)) s h
def afw {l:List bw}{g:Gs}(hl:∀n∈l,∀w∈n.any,w.name∈cI):(ofG l g).1∈ofL:=by
 have h:=HG l g hl;unfold ofG;simp only;cases hp:(iA l g).1 with
 |none=>split<;>decide
 |some s=>
  have hs:=h s hp;simp only[cI,bL,cY,or_false]at hs;rcases hs with rfl|rfl|rfl|rfl<;>split<;>decide
def Zo {v:ca}(hn:nm.length<=3)(hv:v.sm):ir (py g nm v 2).1:=by
 refine⟨⟨by show nm.length<=_;omega,hv⟩,RE nm g.aS _, ?_, ?_⟩
 .show ∀b∈(eH (nS nm g.aS (g.val (2+1)).toNat).2 nm).1,b.sm
  unfold eH;split
  .intro b hb;rw[aD.1 hb];exact⟨by have:=za (nS nm g.aS (g.val (2+1)).toNat).2.aS nm;simp only;omega,HS,show([]:au)∈LV by decide⟩
  .intro b hb;cases hb
 .show(lB (eH (nS nm g.aS (g.val (2+1)).toNat).2 nm).2 (nS nm g.aS (g.val (2+1)).toNat).1).1∈Ce;unfold lB;split
  .exact .tail _ (cg.2 ⟨_,afw (X2 nm g.aS _),rfl⟩)
  .exact .head _
def Sp {l:List bM}{k:Nat}{p:bM×Int}(h:jl l)(hp:∀x∈p.1.es,ir x.r):jl (q9 l k p):=by
 unfold q9;split
 .intro s hs;rcases List.mem_or_eq_of_mem_set hs with h1|rfl
  .exact h s h1
  .exact hp
 .exact h
def aeC {s:bM}{v:ca}{on:Bool}(h:∀x∈s.es,ir x.r):∀x∈(oH s nm v on).1.es,ir x.r:=by
 unfold oH;split
 .intro x hx;cases hx
 .split
  .intro x hx;cases hx
  .rename_i h2;obtain⟨j,hj,hjl⟩:=(BL (l:=s.es) (nm:=nm) (v:=v)).resolve_left ae;rw[hj,Int.toNat_natCast];intro x hx;rcases List.mem_or_eq_of_mem_set hx with h1|rfl
   .exact h x h1
   .exact h s.es[j]! (aq hjl)
def akk {s:bM}(h:∀x∈s.es,ir x.r)(hr:ir r):∀x∈(kX s r).1.es,ir x.r:=by
 unfold kX;split
 .intro x hx;cases hx
 .split
  .intro x hx;cases hx
  .split
   .intro x hx;cases hx
   .split
    .intro x hx;cases hx
    .intro x hx;rcases List.mem_append.1 hx with h1|h1
     .exact h x h1
     .rw[aD.1 h1];exact hr
def G8 {l:List bM}(h:jl l)(k:Nat):∀x∈l[k]!.es,ir x.r:=oa (P:=λs:bM=>∀x∈s.es,ir x.r) (λ_ h=>cj) h k
def aki {g:Gs}{l:List bM}(h:jl l):jl (lR g l).1:=by
 by_cases h1:g.aS.aS.aS.val 6=0
 .rw[show lR g l=(q9 l (kG g l) (Vj g l),g.aS.aS.aS.aS.aS)from ak h1];exact Sp h (aeC (G8 h _))
 .rw[show lR g l=(q9 l (kG g l) (Vh g l),(rcG g).2)from ai h1];exact Sp h (akk (G8 h _) (Zo _ (y6 _) (tK _)))
def Yz (g:Gs):∀i,jl (pS g i).1
 |0=>λs hs=>by
  simp only[pS,Nc,bL,cY,or_false]at hs;rcases hs with rfl|rfl<;>intro x hx<;>cases hx
 |i+1=>aki (Yz g i)
def Nf (most:Int):jl (bh ks most):=Yz _ _
def cV (ord:List (List Int))(u:Int):List Int:=if u<(ord.length:Int)then ord[u.toNat]! else []
def TI (l:List Int)(x:Int):Bool:=oK (λk=>decide (l[k]! =x)) 0 l.length
def cK (o:List Int)(n:Nat):Nat->List Int
 |0=>o
 |i+1=>if TI (cK o n i) ((n:Int) -1-(i:Int))=true then cK o n i else cK o n i++[(n:Int) -1-(i:Int)]
def Nr (m:kn)(ord:List (List Int))(u:Int):List Int:=cK (cV ord u) m.needs[u.toNat]!.length m.needs[u.toNat]!.length
def yH (m:kn)(ord:List (List Int)):=∀u:Nat,u<m.needs.length->(cV ord u).length<=16/\∀p∈cV ord u,0<=p/\p<m.needs[u]!.length
def SA {o:List Int}{n:Nat}(ho:∀p∈o,0<=p/\p<(n:Int)):∀i,i<=n->(∀p∈cK o n i,0<=p/\p<(n:Int))/\(cK o n i).length<=o.length+i
 |0,_=>⟨ho,aN _⟩
 |i+1,h=>by
  obtain⟨h1,h2⟩:=SA ho i ae;rw[cK];split
  .exact⟨h1,ae⟩
  .refine⟨λp hp=>?_,Ky⟩;rcases List.mem_append.1 hp with hp|hp
   .exact h1 p hp
   .obtain rfl:=aD.1 hp;omega
def FN (m:kn)(ord:List (List Int))(c:List Int)(x:ea)(out:List ea):List ea:=if 0<=c[x.u.toNat]! then out else j9 x.m x.u (Nr m ord x.u) (Nr m ord x.u).length out
def dT (m:kn)(ord:List (List Int))(c:List Int)(l:List ea):Nat->List ea
 |0=>[]
 |k+1=>FN m ord c l[k]! (dT m ord c l k)
def eh (m:kn)(ord:List (List Int))(c:List Int):List ea:=if(ef m c).1<0 then []else dT m ord c (bG m c) (bG m c).length
def L3 {m:kn}{c:List Int}{mask u:Int}{ts:List Int}(hu:(0<=u/\u<m.needs.length)/\c[u.toNat]! <0)(ht:∀p∈ts,0<=p/\p<m.needs[u.toNat]!.length):∀i out,i<=ts.length->(∀o∈out,VL m c o)->(∀o∈j9 mask u ts i out,VL m c o)/\(j9 mask u ts i out).length<=out.length+i
 |0,out,_,h=>⟨h,aN _⟩
 |i+1,out,hi,h=>by
  obtain⟨h1,h2⟩:=L3 (mask:=mask) hu ht i out ae h;have hg:=ht _ (aq (show i<ts.length by omega));rw[j9];unfold O4;split
  .refine⟨λo ho=>?_,Ky⟩;rcases List.mem_append.1 ho with ho|ho
   .exact h1 o ho
   .obtain rfl:=aD.1 ho;exact⟨hu.1,hu.2,hg.1,hg.2⟩
  .exact⟨h1,ae⟩
def Ir {m:kn}(h16:∀u,u<m.needs.length->m.needs[u]!.length<=16)(hO:yH m ord){u:Int}(hu:0<=u/\u<m.needs.length):(∀p∈Nr m ord u,0<=p/\p<m.needs[u.toNat]!.length)/\(Nr m ord u).length<=32:=by
 obtain⟨h1,h2⟩:=hO u.toNat ae;rw[show((u.toNat:Nat):Int)=u by omega]at h1 h2;obtain⟨h3,h4⟩:=SA h2 m.needs[u.toNat]!.length (aN _);have:=h16 u.toNat ae;exact⟨h3,by unfold Nr;omega⟩
def xJ {m:kn}{ord:List (List Int)}{c:List Int}{l:List ea}(h16:∀u,u<m.needs.length->m.needs[u]!.length<=16)(hO:yH m ord)(hl:∀x∈l,0<=x.u/\x.u<m.needs.length):∀k,k<=l.length->(∀o∈dT m ord c l k,VL m c o)/\(dT m ord c l k).length<=32*k
 |0,_=>⟨λo ho=>(by cases ho),Nat.zero_le _⟩
 |k+1,hk=>by
  obtain⟨h1,h2⟩:=xJ h16 hO hl k ae;have hx:=hl _ (aq (show k<l.length by omega));rw[dT];unfold FN;split
  .exact⟨h1,ae⟩
  .obtain⟨ht,ht2⟩:=Ir h16 hO hx;obtain⟨h4,h5⟩:=L3 (mask:=l[k]!.m) ⟨hx,ae⟩ ht (Nr m ord l[k]!.u).length (dT m ord c l k) (aN _) h1;exact⟨h4,ae⟩
def qR {m:kn}(hm:wJ m)(hO:yH m ord)(hc:KA m c):(∀o∈eh m ord c,VL m c o)/\(eh m ord c).length<=32000:=by
 unfold eh;split
 .exact⟨λo ho=>(by cases ho),aB⟩
 .rename_i h;obtain⟨h1,h2⟩:=NC hm hc h;obtain⟨h3,h4⟩:=xJ (c:=c) (λu hu=>(hm.2 u hu).1.2) hO h1 (bG m c).length (aN _);exact⟨h3,ae⟩
def D1 (m:kn)(ord:List (List Int)):Nat->List Int->Option (List Int)
 |0,_=>none
 |f+1,c=>if yM m c=false then none else if(ef m c).1<0 then some c else iS (λo=>D1 m ord f (xT c o)) (eh m ord c)
def mH (m:kn)(ord:List (List Int))(c:List Int):Option (List Int):=D1 m ord (EZ c+1) c
def D2 {m:kn}(hm:wJ m)(hO:yH m ord)(hc:KA m c):mH m ord c=if yM m c=false then none else if(ef m c).1<0 then some c else iS (λo=>mH m ord (xT c o)) (eh m ord c):=by
 rw[mH,D1];congr 2;refine xf λo ho=>?_
 have:=(HK hc ((qR hm hO hc).1 o ho)).2;rw[mH,this]
def mG {m:kn}{ord:List (List Int)}(hm:wJ m)(hO:yH m ord){d:List Int}:∀(f:Nat) (c:List Int),KA m c->D1 m ord f c=some d->Cj m d=true/\KA m d
 |0,c,_,h=>by cases h
 |f+1,c,hc,h=>by
  rw[D1]at h;split at h
  .cases h
  .rename_i h1;split at h
   .rename_i h2;obtain rfl:=a7 h;exact⟨acM (by simpa using h1) h2,hc⟩
   .obtain⟨o,h3,h4⟩:=z6 h;exact mG hm hO f _ (HK hc ((qR hm hO hc).1 o h3)).1 h4
def kN (ord:List (List Int)):Option (List Int):=mH (dz us) ord (ow us.length)
def GN:au:=[97,112,112]
def kd:List iN×Gs:=if g.val 4=0 then([⟨cI[(g.aS.val 4).toNat]!,AP⟩],g.aS.aS)else([],g.aS)
def Cy:List kJ×Gs:=if g.val 4=0 then([⟨cI[(g.aS.val 4).toNat]!,kf[(g.aS.aS.val 8).toNat]!⟩],g.aS.aS.aS)else([],g.aS)
def jG:Rec×Gs:=py ⟨ks,0⟩ GN bJ[0]! 3
def y5:hR:=⟨(jG ks).1,(kd (jG ks).2).1,(Cy (kd (jG ks).2).2).1⟩
def XU:hR:=⟨⟨GN,bJ[0]!,[],[],[]⟩,[],[]⟩
def bH:hR:=if(kL (y5 ks)).1=0 then y5 ks else XU
def VI (m:hR):Prop:=((kL m).1=0/\XV m)/\m.ps.length<=1/\m.hs.length<=1
def wL (l:List hR):=∃m,l=[m]/\VI m
def ad8 {v:ca}(most:Int)(hn:nm.length<=3)(hv:v.sm):ir (py g nm v most).1:=by
 refine⟨⟨by show nm.length<=_;omega,hv⟩,RE nm g.aS _, ?_, ?_⟩
 .show ∀b∈(eH (nS nm g.aS (g.val (most+1)).toNat).2 nm).1,b.sm
  unfold eH;split
  .intro b hb;rw[aD.1 hb];exact⟨by have:=za (nS nm g.aS (g.val (most+1)).toNat).2.aS nm;simp only;omega,HS,show([]:au)∈LV by decide⟩
  .intro b hb;cases hb
 .show(lB (eH (nS nm g.aS (g.val (most+1)).toNat).2 nm).2 (nS nm g.aS (g.val (most+1)).toNat).1).1∈Ce;unfold lB;split
  .exact .tail _ (cg.2 ⟨_,afw (X2 nm g.aS _),rfl⟩)
  .exact .head _
def adt:VI XU:=by
 refine⟨⟨by decide+kernel,⟨⟨aU,by simp only[XU,ca.sm];decide⟩,(λn h=>cj),(λn h=>cj),.head _⟩,λh hh=>by cases hh⟩,aU,aU⟩
def Ry:XV (y5 ks)/\(y5 ks).ps.length<=1/\(y5 ks).hs.length<=1:=by
 refine⟨⟨ad8 _ 3 aU (tK 0), ?_⟩, ?_, ?_⟩
 .show ∀h∈(Cy (kd (jG ks).2).2).1,kA h.range
  unfold Cy;split
  .intro h hh;rw[aD.1 hh];exact HS
  .intro h hh;cases hh
 .show(kd (jG ks).2).1.length<=1;unfold kd;split<;>simp
 .show(Cy (kd (jG ks).2).2).1.length<=1;unfold Cy;split<;>simp
def aas:wL [bH ks]:=by
 refine⟨_,rfl, ?_⟩;unfold bH;split
 .rename_i h;obtain⟨h1,h2,h3⟩:=Ry ks;exact⟨⟨h,h1⟩,h2,h3⟩
 .exact adt
def E2 (n:Nat)(k:Int)(i:Nat):Int:=((i:Int)*(1+k%3)+k)%(n:Int)
def kE (n:Nat)(k:Int):Nat->List Int
 |0=>[]
 |i+1=>if TI (kE n k i) (E2 n k i)=true then kE n k i else kE n k i++[E2 n k i]
def xP (n:Nat)(k:Int):Nat:=min n (k%5).toNat
def jA (us:List cJ)(l:List Int)(u:Nat):Int:=bo (atI l (u:Int)) 24
def E1 (l:List Int)(u:Nat):List Int:=kE us[u]!.cands.length (jA us l u) (xP us[u]!.cands.length (jA us l u))
def iU (l:List Int):List (List Int):=if l.length=0 then []else(List.range us.length).map (E1 us l)
def RY {n:Nat}(hn:0<n)(k:Int):∀i,(∀p∈kE n k i,0<=p/\p<(n:Int))/\(kE n k i).length<=i
 |0=>⟨λp hp=>(by cases hp),aN _⟩
 |i+1=>by
  obtain⟨h1,h2⟩:=RY hn k i;rw[kE];split
  .exact⟨h1,ae⟩
  .refine⟨λp hp=>?_,Ky⟩;rcases List.mem_append.1 hp with hp|hp
   .exact h1 p hp
   .obtain rfl:=aD.1 hp;exact⟨Int.emod_nonneg _ ae,Int.emod_lt_of_pos _ ae⟩
def adN (l:List Int)(u:Nat):(E1 us l u).length<=4/\∀p∈E1 us l u,0<=p/\p<(us[u]!.cands.length:Int):=by
 unfold E1;have hc:xP us[u]!.cands.length (jA us l u)<=4:=by unfold xP;omega
 rcases Nat.eq_zero_or_pos us[u]!.cands.length with h|h
 .rw[h,show xP 0 (jA us l u)=0 by unfold xP;omega];exact⟨by simp[kE],λp hp=>by cases hp⟩
 .obtain⟨h1,h2⟩:=RY h (jA us l u) (xP us[u]!.cands.length (jA us l u));exact⟨ae,h1⟩
def p9 {us:List cJ}(l:List Int):yH (dz us) (iU us l):=by
 intro u hu;have hn:(dz us).needs.length=us.length:=by simp[dz,eC]
 have hul:u<us.length:=ae;have e1:(dz us).needs[u]!.length=us[u]!.cands.length:=by unfold dz eC;dsimp only;rw[List.take_length,fK hul];simp[eP]
 rw[e1];have key:cV (iU us l) ((u:Nat):Int)=[]\/cV (iU us l) ((u:Nat):Int)=E1 us l u:=by
  unfold cV iU;by_cases h0:l.length=0
  .rw[ak h0,ai aB];exact .inl rfl
  .rw[ai h0,ak dR,Int.toNat_natCast];exact .inr (by simp[hul])
 rcases key with h|h<;>rw[h]
 .exact⟨aB,λp hp=>by cases hp⟩
 .obtain⟨h1,h2⟩:=adN us l u;exact⟨ae,h2⟩
def vY (us:List cJ):Nat->Nat
 |0=>1
 |i+1=>if us[i]!.feat=[]then vY us i*(us[i]!.cands.length+1)else vY us i
def Mi (us:List cJ):Nat->Nat->Nat->Nat
 |0,_,n=>n
 |r+1,i,n=>if n<1000000 then Mi us r (i+1) (if us[i]!.feat=[]then n*(us[i]!.cands.length+1)else n)else n
def Dd:Nat:=Mi us us.length 0 1
def tidV (w:bR)(c:List Int)(is:List Bool):List Int:=(List.range is.length).map λi=>if is[i]! =true then c[i]! else-1
def vW (w:bR)(c:List Int)(is:List Bool)(l:List Want):List Bool:=l.foldl (λis x=>is.set x.u.toNat (is[x.u.toNat]! ||kV w c x)) is
def xB (w:bR)(c:List Int)(is:List Bool)(l:List nX):List Bool:=l.foldl (vW w c) is
def Hw (w:bR)(c:List Int)(i:Nat)(is:List Bool):List Bool:=if is[i]! =true then xB w c is (aX w c i).needs else is
def jd (w:bR)(c:List Int):Nat->List Bool->List Bool
 |0,is=>is
 |i+1,is=>Hw w c i (jd w c i is)
def j8 (w:bR)(c:List Int):Nat->List Bool->List Bool
 |0,is=>is
 |n+1,is=>jd w c c.length (j8 w c n is)
def mS (c:List Int):List Bool:=(List.replicate c.length false).set 0 (decide (0<=c[0]!))
def fw (w:bR)(c:List Int):List Bool:=if en w c=false then []else j8 w c c.length (mS c)
def rL (w:bR)(c:List Int):List Int:=tidV w c (fw w c)
def aF (m:hR)(shop:List bM)(e:Env)(os:List Int):bR×List Int×Bool:=
 if(gV [m] shop e []).2≠0\/5000<Dd (gV [m] shop e []).1.us then((gV [m] shop e []).1,[],false)
 else match kN (gV [m] shop e []).1.us (iU (gV [m] shop e []).1.us os)with
  |none=>((gV [m] shop e []).1,[],false)
  |some c=>((gV [m] shop e []).1,rL (gV [m] shop e []).1 c,true)
def adk {l:List Key}{k:Key}(i:Nat)(h:i<=l.length):i<=EU l k i/\EU l k i<=l.length:=by
 unfold EU;have:=(List.takeWhile_sublist (l:=l.drop i) (p:=λx=>e8 x k)).length_le;rw[ix]at this;omega
def Di (l:List Key)(k:Key):(sH l k=l/\k∈l)\/((sH l k).length=l.length+1/\∀x,x∈sH l k↔x∈l\/x=k):=by
 have hk:=(adk (l:=l) (k:=k) 0 (Nat.zero_le _)).2;unfold sH;split
 .rename_i h;exact .inl ⟨rfl,h.2▸aq h.1⟩
 .refine .inr ⟨dR,λx=>?_⟩;have:x∈l↔x∈l.take (EU l k 0)\/x∈l.drop (EU l k 0):=by
   rw[<-List.mem_append,List.take_append_drop]
  simp only[List.mem_append,aD];rw[this];constructor
  .rintro((h|h)|h)<;>simp[h]
  .rintro((h|h)|h)<;>simp[h]
def HT (s:pd)(a:jq):(∀x,x∈(mC s a).all↔x∈s.all\/x=a.k)/\(∀x,x∈s.todo->x∈(mC s a).todo)/\(∀x∈(mC s a).todo,x∈s.todo\/x=a.k)/\(∀x∈(mC s a).all,x∈s.all\/x∈(mC s a).todo)/\s.all.length<=(mC s a).all.length/\(mC s a).all.length+s.todo.length=s.all.length+(mC s a).todo.length:=by
 unfold mC;rcases Di s.all a.k with⟨h1,h2⟩|⟨h1,h2⟩
 .rw[ai (by rw[h1];omega)];exact⟨λx=>⟨.inl,λh=>h.elim id λe=>e▸h2⟩,λ_ h=>h,λ_ h=>.inl h,λ_ h=>.inl h,aN _,rfl⟩
 .rw[ak ae];refine⟨h2,λx h=>List.mem_append_left _ h,λx h=>rp,λx h=>?_,rr,alo⟩;rcases(h2 x).1 h with h|rfl
  .exact .inl h
  .exact .inr aB
structure uT (s t:pd):Prop where
 all:∀x∈s.all,x∈t.all
 todo:∀x∈s.todo,x∈t.todo
 back:∀x∈t.all,x∈s.all\/x∈t.todo
 inn:∀x∈t.todo,x∈s.todo\/x∈t.all
 len:t.all.length+s.todo.length=s.all.length+t.todo.length
 grow:s.all.length<=t.all.length
def uT.MY (s:pd):uT s s:=⟨λ_ h=>h,λ_ h=>h,λ_ h=>.inl h,λ_ h=>.inl h,rfl,aN _⟩
def uT.tr {a b c:pd}(h1:uT a b)(h2:uT b c):uT a c:=by
 refine⟨λx h=>h2.all x (h1.all x h),λx h=>h2.todo x (h1.todo x h),λx h=>?_,λx h=>?_,by have:=h1.len;have:=h2.len;omega,eR h1.grow h2.grow⟩
 .rcases h2.back x h with h|h
  .exact(h1.back x h).imp id (h2.todo x)
  .exact .inr h
 .rcases h2.inn x h with h|h
  .exact(h1.inn x h).imp id (h2.all x)
  .exact .inr h
def ad5 (s:pd)(a:jq):uT s (mC s a)/\a.k∈(mC s a).all:=by
 obtain⟨h1,h2,h3,h4,h5,h6⟩:=HT s a;exact⟨⟨λx h=>(h1 x).2 (.inl h),h2,h4,λx h=>(h3 x h).imp id λe=>(h1 x).2 (.inr e),h6,h5⟩,(h1 _).2 (.inr rfl)⟩
def R9:∀(row:fV) (s:pd),uT s (row.foldl mC s)/\∀a∈row,a.k∈(row.foldl mC s).all
 |[],s=>⟨.MY s,λa h=>cj⟩
 |b::r,s=>by
  obtain⟨h1,h2⟩:=ad5 s b;obtain⟨h3,h4⟩:=R9 r (mC s b);refine⟨h1.tr h3,λa ha=>?_⟩;rcases bL.1 ha with rfl|ha
  .exact h3.all _ h2
  .exact h4 a ha
def Sb:∀(l:List fV) (s:pd),uT s (Ph s l)/\∀row∈l,∀a∈row,a.k∈(Ph s l).all
 |[],s=>⟨.MY s,λa h=>cj⟩
 |b::r,s=>by
  obtain⟨h1,h2⟩:=R9 b s;obtain⟨h3,h4⟩:=Sb r (b.foldl mC s);refine⟨h1.tr h3,λrow hr=>?_⟩;rcases bL.1 hr with rfl|hr
  .exact λa ha=>h3.all _ (h2 a ha)
  .exact h4 row hr
structure Tf (y:cF)(s:pd):Prop where
 zero:fL∈s.all
 inn:∀x∈s.todo,x∈s.all
 done:∀x∈s.all,x∉s.todo->∀row∈de y x,∀a∈row,a.k∈s.all
 len:s.todo.length<=s.all.length/\s.all.length<=48
def Zj:Tf y nG:=⟨by simp[nG],λx h=>h,λx h h2=>absurd h h2,by simp[nG]⟩
def Sc {s:pd}(h:0<s.todo.length):uT ⟨s.all,s.todo.drop 1⟩ (Bg y s)/\∀row∈de y s.todo[0]!,∀a∈row,a.k∈(Bg y s).all:=Sb _ _
def Zn {y:cF}{s:pd}(hI:Tf y s)(h:0<s.todo.length)(h48:(Bg y s).all.length<=48):Tf y (Bg y s):=by
 obtain⟨h1,h2⟩:=Sc y h;have hd:∀x∈s.todo.drop 1,x∈s.todo:=λx hx=>List.mem_of_mem_drop hx
 have hc:s.todo=s.todo[0]! ::s.todo.drop 1:=by
  cases ht:s.todo with
  |nil=>rw[ht]at h;cases h
  |cons a r=>simp
 refine⟨h1.all _ hI.zero,λx hx=>?_,λx hx hn=>?_, ?_⟩
 .rcases h1.inn x hx with h3|h3
  .exact h1.all _ (hI.inn _ (hd x h3))
  .exact h3
 .rcases h1.back x hx with h3|h3
  .by_cases h4:x∈s.todo
   .rw[hc]at h4;rcases bL.1 h4 with h5|h5
    .rw[h5];exact h2
    .exact absurd (h1.todo _ h5) hn
   .exact λrow hr a ha=>h1.all _ (hI.done x h3 h4 row hr a ha)
  .exact absurd h3 hn
 .have:=h1.len;have:=hI.len;simp only[ix]at*
  omega
def Sa {y:cF}:∀(n:Nat){s:pd}{all:List Key},Tf y s->Be y n s=some all->Tf y ⟨all,[]⟩
 |0,s,all,_,h=>by cases h
 |n+1,s,all,hI,h=>by
  rw[Be]at h;split at h
  .rename_i h0;obtain rfl:=a7 h;have:s.todo=[]:=aaB.1 h0;exact⟨hI.zero,λx h=>cj,λx hx _=>hI.done x hx (by rw[this];simp),⟨Nat.zero_le _,hI.len.2⟩⟩
  .split at h
   .cases h
   .rename_i h0 h1;exact Sa n (Zn hI ae ae) h
def sK {y:cF}{all:List Key}(h:mU y=some all):fL∈all/\all.length<=48/\∀k∈all,∀row∈de y k,∀a∈row,a.k∈all:=by
 have:=Sa 49 (Zj y) h;exact⟨this.zero,this.len.2,λk hk=>this.done k hk aB⟩
def ze {all:List Key}{k:Key}(h:k∈all):0<=ep all k/\ep all k<all.length:=by
 unfold ep;rcases e7 (f:=λx=>decide (x=k)) (l:=all) (k:=0)with⟨_,h2⟩|⟨j,h1,h2,_⟩
 .obtain⟨i,hi,e⟩:=gu h;have:=h2 i hi;rw[e]at this;simp at this
 .rw[h1];omega
def O8 (all:List Key)(k:Key):ep all k=-1\/∃j:Nat,ep all k=(j:Int)/\j<all.length:=by
 unfold ep;rcases e7 (f:=λx=>decide (x=k)) (l:=all) (k:=0)with⟨h,_⟩|⟨j,h1,h2,_⟩
 .exact .inl h
 .exact .inr ⟨j,by rw[h1];omega,h2⟩
def B0 (r:Rec):Prop:=Fy r/\ir r
def ra (s:au):fg s∈hZ:=by
 unfold fg;refine aq ?_;rcases e7 (f:=λt=>decide (t=s)) (l:=kf) (k:=0)with⟨h,_⟩|⟨j,h,h2,_⟩
 .rw[h];decide
 .rw[h];have:kf.length=8:=rfl;have:hZ.length=8:=rfl;omega
def Na:∀s∈hZ,wj s=true:=by decide+kernel
def F9:∀s∈hZ,(s.rel.length<=2/\s.pr.length<=2)/\(∀x∈s.rel,(x.f.v.pre.length<=3/\x.f.v.build.length<=3)/\x.t.v.pre.length<=3/\x.t.v.build.length<=3)/\∀x∈s.pr,(x.f.v.pre.length<=3/\x.f.v.build.length<=3)/\x.t.v.pre.length<=3/\x.t.v.build.length<=3:=by decide+kernel
def aeg (s:au):wj (fg s)=true:=Na _ (ra s)
def aeh (s:au):(fg s).sm:=by
 obtain⟨_,h1,h2⟩:=F9 _ (ra s);constructor
 .intro x hx;obtain⟨a,b⟩:=h1 x hx;exact⟨⟨ae,ae⟩,ae,ae⟩
 .intro x hx;obtain⟨a,b⟩:=h2 x hx;exact⟨⟨ae,ae⟩,ae,ae⟩
def oE (x:di):0<(fh x).length/\(fh x).length<=x.feats.length+1:=by
 unfold fh;rw[cu,aZ];split
 .split
  .rename_i h;rw[h];simp
  .rename_i h;have:=List.length_pos_iff.2 h;simp only[b8];omega
 .simp only[List.length_singleton];omega
def wK (n:bw):Prop:=(0<n.any.length/\n.any.length<=3)/\∀w∈n.any,w.feats.length<=6
def tF {n:bw}(h:wK n):(0<(iM n).length/\(iM n).length<=7)/\∀r∈iM n,0<r.length/\r.length<=3:=by
 obtain⟨⟨h0,h1⟩,h2⟩:=h;unfold iM;split
 .have h3:=oE n.any[0]!;have h4:=h2 _ (aq h0);rw[aZ];refine⟨ae,λr hr=>?_⟩;obtain⟨k,_,rfl⟩:=cg.1 hr;simp
 .refine⟨aB,λr hr=>?_⟩;rw[aD.1 hr,aZ];exact⟨h0,h1⟩
def iy {α β:Type}{f:α->List β}{B:Nat}:∀{l:List α},(∀x∈l,(f x).length<=B)->(l.flatMap f).length<=B*l.length
 |[],_=>aB
 |a::r,h=>by
  have h1:=h a (.head _);have h2:=iy (f:=f) (B:=B) (l:=r) λx hx=>h x (.tail _ hx)
  rw[List.flatMap_cons,cu,bE,Nat.mul_succ];omega
theorem gH (h:B0 r):r.needs.length<=8/\∀n∈r.needs,wK n:=by
 have hf:=tu h;refine⟨hf.ns,λn hn=>?_⟩;obtain⟨⟨_,⟨h1,h2⟩,hp⟩,_⟩:=h;have h0:(lL r).1=0:=by grind [eo]
 obtain⟨i,hi,rfl⟩:=gu hn;have h3:=qH h0 i hi;have h4:=(hf.n _ hn).1;refine⟨⟨?_,h4.1⟩,λw hw=>(h4.2 w hw).2.1⟩;unfold jF at h3;split at h3
 .cases h3
 .omega
def L8 {e:Env}{o:au}{n:bw}(h:wK n):(Ba e o n).length<=7/\∀r∈Ba e o n,0<r.length/\r.length<=3:=by
 have:=tF h;unfold Ba;split
 .exact⟨this.1.2,this.2⟩
 .exact⟨aB,λr hr=>by cases hr⟩
def xN {ns:List bw}{e:Env}{o:au}(h:∀n∈ns,wK n):(qS ns e o).length<=7*ns.length/\∀r∈qS ns e o,0<r.length/\r.length<=3:=by
 refine⟨iy λn hn=>(L8 (h n hn)).1,λr hr=>?_⟩;obtain⟨n,hn,hr⟩:=List.mem_flatMap.1 hr;exact(L8 (h n hn)).2 r hr
def FV {e:Env}{n:bw}(h:wK n):(rD e nm ft n).length<=8/\∀r∈rD e nm ft n,0<r.length/\r.length<=3:=by
 have:=tF h;unfold rD;split
 .rw[cu,List.length_singleton];split
  .exact⟨aB,λr hr=>by rw[rl]at hr;rw[aD.1 hr];simp⟩
  .refine⟨ae,λr hr=>?_⟩;rcases List.mem_append.1 hr with hr|hr
   .exact this.2 r hr
   .rw[aD.1 hr];simp
 .exact⟨aB,λr hr=>by cases hr⟩
def zh {ns:List bw}{e:Env}(h:∀n∈ns,wK n):(iY ns e nm ft).length<=8*ns.length/\∀r∈iY ns e nm ft,0<r.length/\r.length<=3:=by
 refine⟨iy λn hn=>(FV (h n hn)).1,λr hr=>?_⟩;obtain⟨n,hn,hr⟩:=List.mem_flatMap.1 hr;exact(FV (h n hn)).2 r hr
def tv {e:Env}{s:au}(h:B0 r):(mr r e s).length<=64/\∀w∈mr r e s,0<w.length/\w.length<=3:=by
 obtain⟨h1,h2⟩:=gH h;unfold mr;split
 .exact⟨aB,λw hw=>by rw[aD.1 hw];simp⟩
 .split
  .have:=xN (e:=e) (o:=(bP s).2.1) h2;exact⟨ae,this.2⟩
  .have:=zh (e:=e) (nm:=(bP s).2.1) (ft:=(bP s).2.2) h2;exact⟨ae,this.2⟩
def xG (h:B0 r)(ft:au):(u6 r.feats ft).length<=6/\∀s∈u6 r.feats ft,rC s:=by
 have hf:=tu h;unfold u6;split
 .exact⟨aB,λs hs=>by cases hs⟩
 .rename_i h0;have hj:(findF r.feats ft 0).toNat<r.feats.length:=by
   unfold findF at h0⊢;rw[cR]at h0⊢;cases h1:r.feats.findIdx? (λx=>decide (x.name=ft))with
   |none=>rw[h1]at h0;exact absurd aU h0
   |some k=>
    have:=(List.findIdx?_eq_some_iff_getElem.1 h1).1;simp only[bX,Int.toNat_natCast];exact this
  have hm:=aq (l:=r.feats) hj;exact⟨(hf.f _ hm).2,λs hs=>ju.it h.2.2.2.2 _ hm _ hs⟩
def lM {e:Env}(h:B0 r):(cQ r e ft).length<=385/\∀w∈cQ r e ft,0<w.length/\w.length<=3:=by
 obtain⟨h1,h2⟩:=gH h;unfold cQ;split
 .have:=xN (e:=e) (o:=[]) h2;exact⟨ae,this.2⟩
 .have h3:=iy (f:=mr r e) (B:=64) (l:=u6 r.feats ft) λs _=>(tv h).1
  have h4:=(xG h ft).1;refine⟨Ky,λw hw=>?_⟩;rcases List.mem_append.1 hw with hw|hw
  .rw[aD.1 hw];simp
  .obtain⟨s,_,hs⟩:=List.mem_flatMap.1 hw;exact(tv h).2 w hs
def Ik {shop:List bM}(h:eS shop=true){i:Nat}(hi:i<shop.length):ic shop[i]! =true:=by
 simp only[eS,aC,bD,Bi]at h;exact(h.2 i (Nat.zero_le _) hi).1
def Sr {s:bM}(h:ic s=true):s.es.length<=64:=by
 simp only[ic,aC,aV]at h;exact h.1.2
def aem {s:bM}(h:ic s=true)(hs:∀x∈s.es,ir x.r):∀x∈s.es,B0 x.r:=by
 intro x hx;obtain⟨i,hi,rfl⟩:=gu hx;simp only[ic,aC,bD,se,aV]at h;have h1:=(h.2 i (Nat.zero_le _) hi).1.1;refine⟨mf ?_,hs _ hx⟩;unfold fD at h1;split at h1
 .rename_i h2;exact absurd h1 h2
 .rename_i h2;exact Classical.not_not.1 h2
def ZY (l:List bM)(nm:au):mE l nm=-1\/∃j:Nat,mE l nm=(j:Int)/\j<l.length:=by
 unfold mE;rcases e7 (f:=FA nm) (l:=l) (k:=0)with⟨h,_⟩|⟨j,h1,h2,_⟩
 .exact .inl h
 .exact .inr ⟨j,by rw[h1];omega,h2⟩
def Xb (l:List bM)(nm:au):gM (Cw nm) l 0=-1\/∃j:Nat,gM (Cw nm) l 0=(j:Int)/\j<l.length:=by
 rcases e7 (f:=Cw nm) (l:=l) (k:=0)with⟨h,_⟩|⟨j,h1,h2,_⟩
 .exact .inl h
 .exact .inr ⟨j,by rw[h1];omega,h2⟩
def qT (l:List hR)(nm:au):lQ l nm=-1\/∃j:Nat,lQ l nm=(j:Int)/\j<l.length:=by
 unfold lQ;rcases e7 (f:=isM nm) (l:=l) (k:=0)with⟨h,_⟩|⟨j,h1,h2,_⟩
 .exact .inl h
 .exact .inr ⟨j,by rw[h1];omega,h2⟩
def pQ {shop:List bM}{pins:List iN}(h:(gy shop pins nm).2=0):eS shop=true/\∃j:Nat,(gy shop pins nm).1=(j:Int)/\j<shop.length:=by
 unfold gy at*
 split at h
 .cases h
 .rename_i h1;refine⟨by simpa using h1, ?_⟩;rw[ai h1];split at h
  .cases h
  .rename_i h2;rw[ai h2];split at h
   .rename_i h3;rw[ak h3];split at h
    .cases h
    .rename_i h4;rw[ai h4];exact(ZY _ _).resolve_left ae
   .rename_i h3;rw[ai h3];split at h
    .cases h
    .rename_i h4;rw[ai h4];exact(Xb _ _).resolve_left ae
def Xu (es:List kj)(l:List Int)(i:Nat):(Hf es l i).length=l.length+1:=by
 unfold Hf;simp only[cu,dQ,ix,bE,b8];omega
def Lw {i:Nat}{x:Int}(h:x∈Hf es l i):x∈l\/x=(i:Int):=by
 unfold Hf at h;simp only[List.mem_append,aD]at h;rcases h with(h|h)|h
 .exact .inl (zH h)
 .exact .inr h
 .exact .inl (List.mem_of_mem_drop h)
def xr (es:List kj)(nm:au):∀i,(eI es nm i).length<=i/\∀x∈eI es nm i,0<=x/\x<(i:Int)
 |0=>⟨aN _,λx h=>cj⟩
 |i+1=>by
  obtain⟨h1,h2⟩:=xr es nm i;rw[eI];split
  .refine⟨by rw[Xu];omega,λx hx=>?_⟩;rcases Lw hx with h|h
   .have:=h2 x h;omega
   .omega
  .exact⟨ae,λx hx=>by have:=h2 x hx;omega⟩
def sx (s:bM)(nm:au):(ku s nm).length<=64/\∀x∈ku s nm,0<=x/\x<(s.es.length:Int):=by
 unfold ku;cases h:ic s with
 |false=>exact⟨aB,λx hx=>by simp at hx⟩
 |true=>
  rw[ai aB];have h1:=Sr h;obtain⟨h2,h3⟩:=xr s.es nm s.es.length;exact⟨ae,h3⟩
def pY {y:cF}{nm:au}{a:Nat}:∀(l:List Int),(iX y nm a l).length<=l.length/\∀x∈iX y nm a l,(∃i∈l,x.r=y.shop[a]!.es[i.toNat]!.r)/\x.sh=(a:Int)
 |[]=>⟨aN _,λx h=>cj⟩
 |i::r=>by
  obtain⟨h1,h2⟩:=pY (y:=y) (nm:=nm) (a:=a) r;rw[iX];refine⟨?_,λx hx=>?_⟩
  .rw[cu,bE];split<;>simp<;>omega
  .rcases List.mem_append.1 hx with hx|hx
   .split at hx
    .rw[aD.1 hx];exact⟨⟨i,.head _,rfl⟩,rfl⟩
    .cases hx
   .obtain⟨⟨j,h3,h4⟩,h5⟩:=h2 x hx;exact⟨⟨j,.tail _ h3,h4⟩,h5⟩
def pG:Prop:=(wL y.l/\jl y.shop)/\y.keeps.length<=1000/\(∀k∈y.keeps,k.v.sm)/\y.pins.length<=1000
def BC {m:hR}(h:VI m):B0 m.r:=by
 obtain⟨⟨h1,h2⟩,_⟩:=h;refine⟨mf ?_,h2.1⟩;unfold kL at h1;split at h1
 .rename_i h3;exact absurd h1 h3
 .rename_i h3;exact Classical.not_not.1 h3
def look_ok {y:cF}(h:pG y)(nm:au):(dL y nm).length<=64/\∀x∈dL y nm,B0 x.r/\(x.sh=-1\/∃j:Nat,x.sh=(j:Int)/\j<y.shop.length):=by
 obtain⟨⟨⟨m,hm,hM⟩,hs⟩,_⟩:=h;unfold dL;split
 .rename_i h0;refine⟨aB,λx hx=>?_⟩;rw[aD.1 hx];refine⟨?_,.inl rfl⟩;obtain⟨j,hj,hjl⟩:=(qT y.l nm).resolve_left ae;rw[hj,Int.toNat_natCast];have:=aq hjl;rw[hm]at this⊢;rw[aD.1 this];exact BC hM
 .split
  .exact⟨aB,λx hx=>by cases hx⟩
  .rename_i h1;have h1:(cO y.shop y.pins nm).2.2=0:=Classical.not_not.1 h1;have h2:(gy y.shop y.pins nm).2=0:=by
    unfold cO at h1;split at h1
    .rename_i h3;exact absurd h1 h3
    .rename_i h3;exact Classical.not_not.1 h3
   obtain⟨hB,j,hj,hjl⟩:=pQ h2;have e1:cO y.shop y.pins nm=((j:Int),ku y.shop[j]! nm,0):=by
    unfold cO;rw[ai (λh=>h h2),hj,Int.toNat_natCast]
   rw[e1];simp only[Int.toNat_natCast];obtain⟨h3,h4⟩:=sx y.shop[j]! nm;obtain⟨h5,h6⟩:=pY (y:=y) (nm:=nm) (a:=j) (ku y.shop[j]! nm);refine⟨ae,λx hx=>?_⟩;obtain⟨⟨i,hi,e⟩,hsh⟩:=h6 x hx;have:=h4 i hi;refine⟨?_,.inr ⟨j,hsh,hjl⟩⟩;rw[e];exact aem (Ik hB hjl) (hs _ (aq hjl)) _ (aq ae)
def xI {y:cF}(h:pG y)(k:Key):(eN y k).length<=64/\∀x∈eN y k,B0 x.r/\(x.sh=-1\/∃j:Nat,x.sh=(j:Int)/\j<y.shop.length):=by
 obtain⟨h1,h2⟩:=look_ok h k.n;exact⟨eR (List.length_filter_le _ _) h1,λx hx=>h2 x (List.mem_filter.1 hx).1⟩
def Ih {y:cF}(h:pG y):(eJ y.l).length=1/\∀r∈eJ y.l,r.length=1:=by
 obtain⟨⟨⟨m,hm,hM⟩,hs⟩,_⟩:=h;rw[hm];exact⟨rfl,λr hr=>by rw[aD.1 hr];rfl⟩
def ZK {y:cF}(h:pG y)(k:Key):(de y k).length<=25000/\∀r∈de y k,0<r.length/\r.length<=3:=by
 unfold de;split
 .obtain⟨h1,h2⟩:=Ih h;exact⟨ae,λr hr=>by have:=h2 r hr;omega⟩
 .obtain⟨h1,h2⟩:=xI h k;have h3:=iy (f:=λx=>cQ x.r y.e k.f) (B:=385) (l:=eN y k) λx hx=>(lM (h2 x hx).1).1
  refine⟨ae,λr hr=>?_⟩;obtain⟨x,hx,hr⟩:=List.mem_flatMap.1 hr;exact(lM (h2 x hx).1).2 r hr
def B1 (v:ca)(l:List fV):=∀r∈l,∀a∈r,a.s∈hZ\/a.s=dJ v
def M8 {v:ca}{a b:List fV}(h1:B1 v a)(h2:B1 v b):B1 v (a++b):=λr hr=>(List.mem_append.1 hr).elim (h1 r) (h2 r)
def DR (v:ca):B1 v []:=λr hr=>by cases hr
def zu {v:ca}{f:α->List fV}{l:List α}(h:∀x∈l,B1 v (f x)):B1 v (l.flatMap f):=λr hr=>by
 obtain⟨x,hx,hr⟩:=List.mem_flatMap.1 hr;exact h x hx r hr
def DS {v:ca}{a:jq}(h:a.s∈hZ\/a.s=dJ v):B1 v [[a]]:=λr hr b hb=>by
 rw[aD.1 hr]at hb;rw[aD.1 hb];exact h
def F7 (v:ca)(n:bw):B1 v (iM n):=by
 unfold iM;split
 .intro r hr a ha;obtain⟨k,_,rfl⟩:=cg.1 hr;rw[aD.1 ha];exact .inl (ra _)
 .intro r hr a ha;rw[aD.1 hr]at ha;obtain⟨w,_,rfl⟩:=cg.1 ha;exact .inl (ra _)
def L9 (v:ca)(ns:List bw)(e:Env)(o:au):B1 v (qS ns e o):=zu λn _=>by
 unfold Ba;split
 .exact F7 v n
 .exact DR v
def Ul (v:ca)(ns:List bw)(e:Env)(nm ft:au):B1 v (iY ns e nm ft):=zu λn _=>by
 unfold rD;split
 .refine M8 ?_ (DS (.inl (ra _)));split
  .exact DR v
  .exact F7 v n
 .exact DR v
def C3 (r:Rec)(e:Env)(ft:au):B1 r.v (cQ r e ft):=by
 unfold cQ;split
 .exact L9 r.v _ _ _
 .refine M8 (DS (.inr rfl)) (zu λs _=>?_);unfold mr;split
  .exact DS (.inr rfl)
  .split
   .exact L9 r.v _ _ _
   .exact Ul r.v _ _ _ _
def F8 {s:cA}{v:ca}(hv:v.sm)(h:s∈hZ\/s=dJ v):s.sm:=by
 rcases h with h|rfl
 .obtain⟨_,h1,h2⟩:=F9 _ h;constructor
  .intro x hx;obtain⟨a,b⟩:=h1 x hx;exact⟨⟨ae,ae⟩,ae,ae⟩
  .intro x hx;obtain⟨a,b⟩:=h2 x hx;exact⟨⟨ae,ae⟩,ae,ae⟩
 .exact Ft hv
def qh {all:List Key}{l:List fV}{r:nX}(h:r∈dH all l):∃q∈l,r=q.map λa=>⟨ep all a.k,a.s⟩:=by
 obtain⟨q,hq,rfl⟩:=cg.1 h;exact⟨q,hq,rfl⟩
def CndW (n:Nat)(c:eA):Prop:=(c.sm/\c.needs.length<=24/\c.bars.length<=24)/\(∀r∈c.needs,(0<r.length/\r.length<=3)/\∀w∈r,0<=w.u/\w.u<(n:Int))/\∀w∈c.bars,0<=w.u/\w.u<(n:Int)
def Fh {all:List Key}{e:Env}{w:Want}(h:w∈wR all r e):(0<=w.u/\w.u<(all.length:Int))/\w.s∈hZ:=by
 obtain⟨b,_,hb⟩:=List.mem_flatMap.1 h;unfold qz at hb;split at hb
 .rename_i hc;rw[aD.1 hb];refine⟨⟨hc.1, ?_⟩,ra _⟩;obtain⟨j,hj,hjl⟩:=(O8 all ⟨b.name,[]⟩).resolve_left ae;show ep all ⟨b.name,[]⟩<_;omega
 .cases hb
def QY {y:cF}{all:List Key}{k:Key}{x:uF}(hx:B0 x.r)(hcl:∀row∈cQ x.r y.e k.f,∀a∈row,a.k∈all)(hw:oF (dV y all k x)=false):CndW all.length (dV y all k x):=by
 have h1:=C3 x.r y.e k.f;have h2:=(lM (e:=y.e) (ft:=k.f) hx).2;have hv:x.r.v.sm:=hx.2.1.2;simp only[oF,eF,cy]at hw;refine⟨⟨⟨hv, ?_, ?_⟩,ae,ae⟩, ?_, ?_⟩
 .intro r hr w hwr;obtain⟨q,hq,rfl⟩:=qh hr;obtain⟨a,ha,rfl⟩:=cg.1 hwr;exact F8 hv (h1 q hq a ha)
 .intro w hwb;have hwb:w∈(if k.f=[]then wR all x.r y.e else []):=hwb;split at hwb
  .exact F8 hv (.inl (Fh hwb).2)
  .cases hwb
 .intro r hr;obtain⟨q,hq,rfl⟩:=qh hr;rw[aZ];refine⟨h2 q hq,λw hwr=>?_⟩;obtain⟨a,ha,rfl⟩:=cg.1 hwr;exact ze (hcl q hq a ha)
 .intro w hwb;have hwb:w∈(if k.f=[]then wR all x.r y.e else []):=hwb;split at hwb
  .exact(Fh hwb).1
  .cases hwb
def ajJ (k:Key):(eN y k).length<=(dL y k.n).length:=List.length_filter_le _ _
def yL {y:cF}{all:List Key}{k:Key}(hy:pG y)(hcl:∀row∈de y k,∀a∈row,a.k∈all)(h:(ey y all k).2=true):(ey y all k).1.length<=16/\∀c∈(ey y all k).1,CndW all.length c:=by
 unfold ey at*
 by_cases hk:k=fL
 .rw[ak hk];refine⟨aB,λc hc=>?_⟩;rw[aD.1 hc];obtain⟨h1,h2⟩:=Ih hy;have hrow:de y k=eJ y.l:=by unfold de;rw[ak hk]
  rw[hrow]at hcl;obtain⟨⟨⟨m,hm,hM⟩,_⟩,_⟩:=hy;refine⟨⟨⟨GB, ?_,λw hw=>by cases hw⟩,by simp[dH,h1],aB⟩, ?_,λw hw=>by cases hw⟩
  .intro r hr w hw;obtain⟨q,hq,rfl⟩:=qh hr;rw[hm]at hq;rw[aD.1 hq]at hw;obtain⟨a,ha,rfl⟩:=cg.1 hw;rw[aD.1 ha];exact Ft (BC hM).2.1.2
  .intro r hr;obtain⟨q,hq,rfl⟩:=qh hr;have:=h2 q hq;rw[aZ];refine⟨ae,λw hw=>?_⟩;obtain⟨a,ha,rfl⟩:=cg.1 hw;exact ze (hcl q hq a ha)
 .rw[ai hk]at h⊢;have hrow:de y k=(eN y k).flatMap λx=>cQ x.r y.e k.f:=by unfold de;rw[ai hk]
  rw[hrow]at hcl;split at h
  .cases h
  .rename_i hw;rw[ai hw];have hle:(dL y k.n).length<=16:=by simpa using h
   have:=ajJ y k;refine⟨lj,λc hc=>?_⟩;have hcw:oF c=false:=by
    cases hq:oF c with
    |false=>rfl
    |true=>exact absurd (List.any_eq_true.2 ⟨c,hc,hq⟩) hw
   obtain⟨x,hx,rfl⟩:=cg.1 hc;exact QY ((xI hy k).2 x hx).1 (λrow hr a ha=>hcl row (List.mem_flatMap.2 ⟨x,hx,hr⟩) a ha) hcw
def SI {y:cF}{all:List Key}:∀n,n<=all.length->(nM y all n).2=true->(nM y all n).1=(all.take n).map (rN y all)/\∀i,i<n->(ey y all all[i]!).2=true
 |0,_,_=>⟨rfl,λi h=>absurd h (Nat.not_lt_zero i)⟩
 |n+1,hn,h=>by
  rw[nM]at h⊢;cases h0:(nM y all n).2 with
  |false=>rw[h0,ai aB]at h;rw[h0]at h;cases h
  |true=>
   rw[h0,ak rfl]at h;rw[ak rfl];obtain⟨h1,h2⟩:=SI n ae h0;have e:all.take (n+1)=all.take n++[all[n]!]:=by
    rw[List.take_add_one,List.getElem?_eq_getElem ae];simp[show n<all.length by omega]
   refine⟨by rw[h1,e,List.map_append];rfl,λi hi=>?_⟩;rcases dZ i n with h3|h3
   .exact h2 i h3
   .obtain rfl:i=n:=ae;exact h
structure KE (w:bR):Prop where
 len:0<w.us.length/\w.us.length<=48
 u:∀u∈w.us,u.cands.length<=16/\∀c∈u.cands,CndW w.us.length c
def sZ {y:cF}(hy:pG y)(h:(ez y).2=true):∃all,mU y=some all/\(ez y).1.us=all.map (rN y all)/\(∀i,i<all.length->(ey y all all[i]!).2=true)/\KE (ez y).1:=by
 unfold ez at*
 cases hr:mU y with
 |none=>rw[hr]at h;cases h
 |some all=>
  rw[hr]at h;obtain⟨h1,h2⟩:=SI all.length (aN _) h;rw[List.take_length]at h1;obtain⟨r1,r2,r3⟩:=sK hr;refine⟨all,rfl,h1,h2, ?_⟩;have hl:(nM y all all.length).1.length=all.length:=by rw[h1,aZ]
  refine⟨by show 0<(nM y all all.length).1.length/\(nM y all all.length).1.length<=48;rw[hl];exact⟨List.length_pos_of_mem r1,r2⟩, ?_⟩;show ∀u∈(nM y all all.length).1,u.cands.length<=16/\∀c∈u.cands,CndW (nM y all all.length).1.length c
  intro u hu;rw[h1]at hu;obtain⟨k,hk,rfl⟩:=cg.1 hu;rw[hl];obtain⟨i,hi,rfl⟩:=gu hk;exact yL hy (r3 _ hk) (h2 i hi)
theorem KE.sm (h:KE w):w.sm:=λu hu=>⟨(h.u u hu).1,λc hc=>((h.u u hu).2 c hc).1.1⟩
def KE.few (h:KE w):Few w.us:=λu hu c hc=>by
 obtain⟨⟨_,h1,h2⟩,h3,_⟩:=(h.u u hu).2 c hc;exact⟨ae,ae,λr hr=>by have:=(h3 r hr).1;omega⟩
def KE.msk (h:KE w):wJ (dz w.us):=by
 obtain⟨hpos,hU⟩:=h;have hn:(dz w.us).needs.length=w.us.length:=by simp[dz,eC]
 have hb:(dz w.us).bars.length=w.us.length:=by simp[dz,jD]
 have hfu:(dz w.us).full.length=w.us.length:=by simp[dz,iT]
 refine⟨⟨ae,ae,ae,ae⟩,λu hu=>?_⟩;rw[hn]at hu⊢;have e1:(dz w.us).needs[u]! =eP w.us w.us[u]!.cands:=by unfold dz eC;dsimp only;rw[List.take_length,fK hu]
 have e2:(dz w.us).bars[u]! =jE w.us w.us[u]!.cands:=by unfold dz jD;dsimp only;rw[List.take_length,fK hu]
 obtain⟨h16,hC⟩:=hU _ (aq hu);rw[e1,e2];refine⟨⟨by simp[eP,jE],by simpa[eP]using h16⟩,λc hc r hr=>?_,λr hr x hx=>?_⟩
 .unfold eP at hc;obtain⟨cd,h1,rfl⟩:=cg.1 hc;unfold kZ at hr;obtain⟨r0,h2,rfl⟩:=cg.1 hr;obtain⟨h3,h4⟩:=(hC cd h1).2.1 r0 h2;refine⟨by rw[show(eD w.us r0).length=r0.length by simp[eD]];omega,λx hx=>?_⟩;unfold eD at hx;obtain⟨y,h5,rfl⟩:=cg.1 hx;exact h4 y h5
 .unfold jE at hr;obtain⟨cd,h1,rfl⟩:=cg.1 hr;unfold eD at hx;obtain⟨y,h5,rfl⟩:=cg.1 hx;exact(hC cd h1).2.2 y h5
def eV (nm:au):List au:=if nm∈ns then ns else ns++[nm]
def jy (k:Key):List au:=if k=fL then ns else eV ns k.n
def sJ (y:cF):Nat->pd->List au->List au
 |0,_,ns=>ns
 |n+1,s,ns=>if s.todo.length=0 then ns else if 48<(Bg y s).all.length then jy ns s.todo[0]! else sJ y n (Bg y s) (jy ns s.todo[0]!)
def aam (all:List Key)(ns:List au):Nat->List au
 |0=>ns
 |i+1=>jy (aam all ns i) all[i]!
def KT (nm:au):(eV ns nm).length<=ns.length+1:=by
 unfold eV;split
 .omega
 .rw[cu,List.length_singleton];exact aN _
def CO (k:Key):(jy ns k).length<=ns.length+1:=by
 unfold jy;split
 .omega
 .exact KT _ _
def Mo (y:cF):∀(n:Nat) (s:pd) (ns:List au),(sJ y n s ns).length<=ns.length+n
 |0,s,ns=>aN _
 |n+1,s,ns=>by
  have h1:=CO ns s.todo[0]!;rw[sJ];split
  .omega
  .split
   .omega
   .have:=Mo y n (Bg y s) (jy ns s.todo[0]!);omega
def ND (all:List Key)(ns:List au):∀i,(aam all ns i).length<=ns.length+i
 |0=>aN _
 |i+1=>by
  have h1:=CO (aam all ns i) all[i]!;have h2:=ND all ns i;rw[aam];omega
def dp (ns:List au):List D:=ns.map λnm=>uM (dL y nm)
def eO (a b n:Nat):D:=.agg [.own a 1 0 n,.own b 1 0 n]
def BX (lf ln lr:Nat)(ns:List au)(m:List (Nat×bn)):Prop:=look m lf=some (.buf 2 [eO ln lr ns.length])/\look m ln=some (.buf 1 (ns.map D.str))/\look m lr=some (.buf 1 (dp y ns))
def NS (Y:Ctx)(n:Nat)(y:cF)(aE8:D->List D)(ns ns':List au)(V:D):=∀(nx lf ln lr:Nat) (m:List (Nat×bn)) (K:D->St->Prop),lf<nx->ln<nx->lr<nx->ln≠lr->BX y lf ln lr ns m->
 K V ⟨nx+2,(nx,.buf 1 (ns'.map D.str))::(nx+1,.buf 1 (dp y ns'))::cX (cT (cT m ln) lr) lf (.buf 2 [eO nx (nx+1) ns'.length])⟩->Y.tr n (aE8 (.ptr lf 2 0 0)) ⟨nx,m⟩ K
def KG (ns':List au)(V:D):D->List (Nat×bn)->Prop:=λd m=>d=V/\∃j k:Nat,(0<j/\0<k/\j≠k)/\BX y 0 j k ns' m
def jk (ns:List au):aM (dp y ns)=true:=bQ (λ_=>rfl) _
def Io:aM (ns.map D.str)=true:=bQ (λ_=>rfl) _
def zo (ns:List au):(dp y ns).length=ns.length:=aZ ..
def aeI (aE8:D->List D):=∀σ l l',mN 0 σ l=some l'->(aE8 (.ptr l 2 0 0)).length=(aE8 (.ptr l' 2 0 0)).length/\∀i,i<(aE8 (.ptr l 2 0 0)).length->RnD 0 σ ((aE8 (.ptr l 2 0 0)).getD i .any) ((aE8 (.ptr l' 2 0 0)).getD i .any)
def fdR (ns:List au):D:=.ref 2 [.agg [.sl 1 (ns.map D.str),.sl 1 (dp y ns)]] 0 0
def iPin (a b:iN):iN.D a=iN.D b↔a=b:=by cases a;cases b;simp[iN.D]
def Xl (a b:List iN):a.map iN.D=b.map iN.D↔a=b:=kU iPin a b
def afj (a b:kJ):kJ.D a=kJ.D b↔a=b:=by cases a;cases b;simp[kJ.D]
def Xh (a b:List kJ):a.map kJ.D=b.map kJ.D↔a=b:=kU afj a b
def iMan (a b:hR):hR.D a=hR.D b↔a=b:=by
 obtain⟨⟨n,⟨v1,v2,v3,v4,v5⟩,x,y,z⟩,p,q⟩:=a;obtain⟨⟨n',⟨w1,w2,w3,w4,w5⟩,x',y',z'⟩,p',q'⟩:=b;simp[hR.D,CG,Lt,CF,Xl,Xh,and_assoc]
def afl (a b:List hR):a.map hR.D=b.map hR.D↔a=b:=kU iMan a b
def afk (a b:Key):Key.D a=Key.D b↔a=b:=by cases a;cases b;simp[Key.D]
def iKeys (a b:List Key):a.map Key.D=b.map Key.D↔a=b:=kU afk a b
def iKp (a b:Kp):Kp.D a=Kp.D b↔a=b:=by
 obtain⟨n,⟨v1,v2,v3,v4,v5⟩⟩:=a;obtain⟨n',⟨w1,w2,w3,w4,w5⟩⟩:=b;simp[Kp.D,and_assoc]
def iKps (a b:List Kp):a.map Kp.D=b.map Kp.D↔a=b:=kU iKp a b
def iAsd (a b:jq):jq.D a=jq.D b↔a=b:=by
 obtain⟨⟨n,f⟩,⟨x,y⟩⟩:=a;obtain⟨⟨n',f'⟩,⟨x',y'⟩⟩:=b;simp[jq.D,CH,and_assoc]
def afh (a b:fV):dU a=dU b↔a=b:=by simp only[dU,D.sl.injEq,dG];exact kU iAsd a b
def aiV (a b:List fV):a.map dU=b.map dU↔a=b:=kU afh a b
def iYrd (y y':cF)(f f':D):cF.D y f=cF.D y' f'↔y=y'/\f=f':=by
 obtain⟨l,s,⟨a,b,c⟩,k,p⟩:=y;obtain⟨l',s',⟨a',b',c'⟩,k',p'⟩:=y';simp[cF.D,afl,Xm,iKps,Xl,and_assoc]
def Wq {A:RT->Prop}(h:A (λds d=>A λds' d'=>ds'=ds->d=d'):=by
 (repeat' first|apply And.intro|intro _)
 all_goals rename_i e
 all_goals (try simp only[te,D.str.injEq,D.int.injEq,D.bool.injEq,D.sl.injEq,D.ref.injEq,D.agg.injEq,D.fn.injEq,Xo,TM,iByt,iVer,Xr,Ov,Xk,CG,iBar,Lt,Xg,CF,iRec,Xf,iEtr,iShf,Xm,iEnv,iLkd,Xj,iLck,iCut,afi,Xn,CH,iSet,Xq,Ha,Xs,Ox,iCnd,Xe,iUnt,Xp,iWld,iKey,iGs,afm,iTrm,afn,iTr,iTrL,iMsk,iAsk,Xi,iMan,afl,iPin,Xl,afj,Xh,afk,iKeys,iKps,iAsd,afh,aiV,iYrd,List.map_cons,List.map_nil,iU8,pD,iNat,dh,dG,reduceCtorEq,fR,fG]at e)
 all_goals first|rfl|(simp only[e];done)|simp_all):Det (Hm A):=ahs h
def rR {a b:Nat}(h:a≠b):Nat.beq a b=false:=by
 cases q:Nat.beq a b with
 |false=>rfl
 |true=>exact absurd (Nat.eq_of_beq_eq_true q) h
def Re {σ:List (Nat×Nat)}{a b a' b':Nat}(h1:mN 0 σ a=some a')(h2:mN 0 σ b=some b'):rW 0 σ (eO a b n)=some (eO a' b' n):=by simp only[eO,rW,oB,Si,h1,h2]
section
variable [cP]{P:Program}{ν:List (Nat×Nat)}{bU:List Nat}{t:List (Nat×mO)}{fid key u:Nat}{af:aj}{y:cF}{aE8:D->List D}{ns ns':List au}{V:D}{lf ln lr nx:Nat}{m:List (Nat×bn)}{K:D->St->Prop}
def n8 (has:aeI aE8)(hV:V.aT=true)(hmix:P.follows .mixedOrders=true)(hC:Vc P ν bU fid af)(hnp:(aE8 (.ptr 0 2 0 0)).length=af.np)(h1:lf<nx)(h2:ln<nx)(h3:lr<nx)(hne:ln≠lr)(hat:BX y lf ln lr ns m)(hK:K V ⟨nx+2,(nx,.buf 1 (ns'.map D.str))::(nx+1,.buf 1 (dp y ns'))::cX (cT (cT m ln) lr) lf (.buf 2 [eO nx (nx+1) ns'.length])⟩)(hw:dx ((under t key u).at 3) af.body (uG af (KG y ns' V)) (fU af (aE8 (.ptr 0 2 0 0))) ⟨3,[(0,.buf 2 [eO 1 2 ns.length]),(1,.buf 1 (ns.map D.str)),(2,.buf 1 (dp y ns))]⟩):uS P ν bU (under t key u) fid (aE8 (.ptr lf 2 0 0)) ⟨nx,m⟩ K:=by
 obtain⟨a1,a2,a3⟩:=hat;have n1:lf≠ln:=by
  rintro rfl;rw[a1]at a2;exact absurd (bn.buf.inj (a7 a2)).1 aU
 have n2:lf≠lr:=by
  rintro rfl;rw[a1]at a3;exact absurd (bn.buf.inj (a7 a3)).1 aU
 have b1:=rR n1;have b2:=rR n2;have b3:=rR hne;have c1:=rR n1.symm;have c2:=rR n2.symm;have c3:=rR hne.symm;have g3:gU 0 3 [(lf,0),(ln,1),(lr,2)]=true:=by simp[gU,b1,b2,b3,c1,c2,c3];decide
 have g4:∀l i,(l,i)∈[(lf,0),(ln,1),(lr,2)]->look m l≠none:=by
  intro l i h;simp only[bL,dk,cY,or_false]at h;rcases h with⟨rfl,_⟩|⟨rfl,_⟩|⟨rfl,_⟩<;>simp[a1,a2,a3]
 have g5:∀i b,look [(0,.buf 2 [eO 1 2 ns.length]),(1,.buf 1 (ns.map D.str)),(2,.buf 1 (dp y ns))] i=some b->∃l b',(l,i)∈[(lf,0),(ln,1),(lr,2)]/\look m l=some b'/\qv 0 [(lf,0),(ln,1),(lr,2)] b' b:=by
  intro i b h;simp only[look]at h;split at h
  .rename_i e;subst e;obtain rfl:=a7 h;exact⟨lf,_,.head _,a1,rfl,.inr (.inl (by simp only[oB,Re (σ:=[(lf,0),(ln,1),(lr,2)]) (a:=ln) (b:=lr) (a':=1) (b':=2) (by simp[mN,b1]) (by simp[mN,b2,b3])]))⟩
  .split at h
   .rename_i e;subst e;obtain rfl:=a7 h;exact⟨ln,_,.tail _ (.head _),a2,rfl,.inl ⟨rfl,Io ns⟩⟩
   .split at h
    .rename_i e;subst e;obtain rfl:=a7 h;exact⟨lr,_,.tail _ (.tail _ (.head _)),a3,rfl,.inl ⟨rfl,jk y ns⟩⟩
    .cases h
 obtain⟨e1,e2⟩:=has [(lf,0),(ln,1),(lr,2)] lf 0 (by simp[mN]);refine Lr (σi:=[(lf,0),(ln,1),(lr,2)]) (cs:=aE8 (.ptr 0 2 0 0)) (λq=>Gq t key u q) hmix hC e1.symm e2 hnp g3 g4 g5 hw ?_;rintro d m1 ⟨rfl,j,k,⟨hj,hk,hjk⟩,d1,d2,d3⟩;have q1:Nat.beq 0 j=false:=rR ae;have q2:Nat.beq 0 k=false:=rR ae;have q3:Nat.beq j k=false:=rR hjk;have q4:Nat.beq j 0=false:=rR ae;have q5:Nat.beq k 0=false:=rR ae;have q6:Nat.beq k j=false:=rR (Ne.symm hjk);have r1:Nat.beq lf nx=false:=rR ae;have r2:Nat.beq lf (nx+1)=false:=rR ae;have r3:Nat.beq nx (nx+1)=false:=rR ae;have r4:Nat.beq nx lf=false:=rR ae;have r5:Nat.beq (nx+1) lf=false:=rR ae;have r6:Nat.beq (nx+1) nx=false:=rR ae;refine⟨[(0,lf),(j,nx),(k,nx+1)],j+k+1,_,d,⟨g3, ?_,Nat.le_add_right _ _,g4, ?_,g5, ?_⟩,.inl ⟨rfl,hV⟩,hK⟩
 .simp[gU,q1,q2,q3,q4,q5,q6,r1,r2,r3,r4,r5,r6];omega
 .intro i l h;simp only[bL,dk,cY,or_false]at h;rcases h with⟨rfl,rfl⟩|⟨rfl,rfl⟩|⟨rfl,rfl⟩
  .exact .inl (.head _)
  .exact .inr (aN _)
  .exact .inr (Nat.le_succ _)
 .intro l bb h;simp only[look]at h;split at h
  .rename_i e;subst e;obtain rfl:=a7 h;exact .inl ⟨j,_,.tail _ (.head _),d2,rfl,.inl ⟨rfl,Io _⟩⟩
  .rename_i hln;split at h
   .rename_i e;subst e;obtain rfl:=a7 h;exact .inl ⟨k,_,.tail _ (.tail _ (.head _)),d3,rfl,.inl ⟨rfl,jk _ _⟩⟩
   .rename_i hln2;rw[bS]at h;split at h
    .rename_i e;subst e;obtain rfl:=a7 h;exact .inl ⟨0,_,.head _,d1,rfl,.inr (.inl (by simp only[oB,Re (σ:=[(0,l),(j,nx),(k,nx+1)]) (a:=j) (b:=k) (a':=nx) (b':=nx+1) (by simp[mN,q1]) (by simp[mN,q2,q3])]))⟩
    .rename_i hlf;rw[fq]at h;split at h
     .cases h
     .rename_i hl3;rw[fq]at h;split at h
      .cases h
      .rename_i hl2;refine .inr ⟨by simp only[oc,ai (λe=>hlf (Eq.symm e)),ai hln,ai hln2],λi hi=>?_,h⟩;simp only[bL,dk,cY,or_false]at hi;rcases hi with⟨rfl,_⟩|⟨rfl,_⟩|⟨rfl,_⟩
       .exact hlf rfl
       .exact hl2 rfl
       .exact hl3 rfl
end
def n7 {β:Type}[Inhabited α]{f:α->List β}{l:List α}{i:Nat}(h:i<l.length):(l.take (i+1)).flatMap f=(l.take i).flatMap f++f l[i]! :=by
 have e:l.take (i+1)=l.take i++[l[i]!]:=by
  rw[List.take_add_one,List.getElem?_eq_getElem h];simp[h]
 rw[e,List.flatMap_append];simp
def map_take {β:Type}[Inhabited α]{f:α->β}{l:List α}{i:Nat}(h:i<l.length):(l.take (i+1)).map f=(l.take i).map f++[f l[i]!]:=by
 have e:l.take (i+1)=l.take i++[l[i]!]:=by
  rw[List.take_add_one,List.getElem?_eq_getElem h];simp[h]
 rw[e,List.map_append];rfl
def Gn {β:Type}{f:α->β}(xs:List α):(xs.map f).take xs.length=xs.map f:=by rw[<-aZ (f:=f),List.take_length]
def Fv [Inhabited α]{f:α->Bool}{l:List α}{i:Nat}(h:i<l.length):(l.take (i+1)).filter f=(l.take i).filter f++(if f l[i]! =true then [l[i]!]else []):=by
 have e:l.take (i+1)=l.take i++[l[i]!]:=by
  rw[List.take_add_one,List.getElem?_eq_getElem h];simp[h]
 rw[e,List.filter_append,List.filter_cons,List.filter_nil]
def Wj {m:hR}(h:¬(dc m.r).1=0):kL m=dc m.r:=ak h
def Wh {m:hR}(h:¬¬(dc m.r).1=0)(h2:8<m.ps.length\/8<m.hs.length):kL m=(3,0):=by unfold kL;rw[ai h,ak h2]
def Wi {m:hR}(h:¬¬(dc m.r).1=0)(h2:¬(8<m.ps.length\/8<m.hs.length)){q:Int×Int}(h3:Dc m.ps=q)(h4:¬q.1=0):kL m=q:=by
 subst h3;unfold kL;rw[ai h,ai h2,ak h4]
def Wg {m:hR}(h:¬¬(dc m.r).1=0)(h2:¬(8<m.ps.length\/8<m.hs.length))(h3:(Dc m.ps).1=0){q:Int×Int}(h4:Cz m.hs=q):kL m=q:=by
 subst h4;unfold kL;rw[ai h,ai h2,ai (λh=>h h3)]
def Mg {l:List iN}{i:Nat}(h:(dn l[i]!.name=false\/dn l[i]!.shelf=false)\/(0<i/\Op.bytesLess l[i-1]!.name l[i]!.name=false)):Mf l i=15:=ak h
def RZ {l:List iN}{i:Nat}(h:¬((dn l[i]!.name=false\/dn l[i]!.shelf=false)\/(0<i/\Op.bytesLess l[i-1]!.name l[i]!.name=false))):Mf l i=0:=ai h
def ac4 {l:List kJ}{i:Nat}(h:dn l[i]!.name=false\/(0<i/\Op.bytesLess l[i-1]!.name l[i]!.name=false)):Cx l i=4:=ak h
def ac5 {l:List kJ}{i:Nat}(h:¬(dn l[i]!.name=false\/(0<i/\Op.bytesLess l[i-1]!.name l[i]!.name=false)))(h2:qV l[i]!.range=false):Cx l i=6:=by unfold Cx;rw[ai h,ak h2]
def Xd {l:List kJ}{i:Nat}(h:¬(dn l[i]!.name=false\/(0<i/\Op.bytesLess l[i-1]!.name l[i]!.name=false)))(h2:qV l[i]!.range=true):Cx l i=0:=by unfold Cx;rw[ai h,ai (by rw[h2];simp)]
def yw {l:List hR}(h:wL l):l.length=1/\∀i,i<l.length->VI l[i]! :=by
 obtain⟨m,rfl,hm⟩:=h;refine⟨rfl,λi hi=>?_⟩;obtain rfl:i=0:=by simpa using hi
 exact hm
def ajv {m:hR}(h:VI m):kL m=(0,0):=by
 obtain⟨⟨h1,_⟩,_⟩:=h;have h0:=h1;unfold kL at h1⊢;split
 .rename_i h2;rw[ak h2]at h1;exact absurd h1 h2
 .rename_i h2;rw[ai h2]at h1;split
  .rename_i h3;rw[ak h3]at h1;cases h1
  .rename_i h3;rw[ai h3]at h1;split
   .rename_i h4;rw[ak h4]at h1;exact absurd h1 h4
   .rename_i h4;rw[ai h4]at h1;exact Cr _ _ _ h1
def Qg {l:List hR}(h:wL l){i:Nat}(hi:i<l.length):lQ l l[i]!.r.name=(i:Nat):=by
 obtain⟨m,rfl,hm⟩:=h;obtain rfl:i=0:=by simpa using hi
 show gM (isM m.r.name) [m] 0=0;simp[gM,isM]
def tN {l:List hR}(h:wL l){i:Nat}(hi:i<l.length):l[i]!.ps=gN l/\l[i]!.hs=l[0]!.hs/\l[i]!.ps.length<=1/\l[i]!.hs.length<=1:=by
 have h1:=yw h;obtain rfl:i=0:=ae;exact⟨rfl,rfl,(h1.2 0 hi).2⟩
def aiU {l:List hR}{k:Nat}(hk:k=0)(h:k<l[0]!.hs.length)(h2:l[0]!.hs[k]!.name=nm):kQ l nm=fg l[0]!.hs[k]!.range:=by
 subst hk;unfold kQ;rw[ak ⟨ae,h2⟩]
def aiT {l:List hR}{k:Nat}(hk:k=0)(h2:¬l[0]!.hs[k]!.name=nm):kQ l nm=pH:=by
 subst hk;unfold kQ;rw[ai λh=>h2 h.2]
def aiS {l:List hR}{k:Nat}(hk:k=l[0]!.hs.length):(if k=0 then pH else kQ l nm)=kQ l nm:=by
 split
 .unfold kQ;rw[ai λh=>h.1 ae]
 .rfl
def lP (l:List iN)(p:iN):List iN×Bool:=
 if kPin l p 0<l.length/\l[kPin l p 0]!.name=p.name then(l,decide (l[kPin l p 0]! =p))else((l.take (kPin l p 0)++[p])++l.drop (kPin l p 0),true)
where kPin (l:List iN) (p:iN) (i:Nat):Nat:=i+((l.drop i).takeWhile λx=>Op.bytesLess x.name p.name).length
def TU {l:List iN}{p:iN}{i:Nat}(h:i<l.length)(hc:Op.bytesLess l[i]!.name p.name=true):lP.kPin l p i=lP.kPin l p (i+1):=by
 unfold lP.kPin;rw[fk h,List.takeWhile_cons_of_pos (by simpa[h]using hc)];simp;omega
def TV {l:List iN}{p:iN}{i:Nat}(h:i<l.length->Op.bytesLess l[i]!.name p.name=false):lP.kPin l p i=i:=by
 unfold lP.kPin;rcases dZ i l.length with hi|hi
 .rw[fk hi,List.takeWhile_cons_of_neg (by simpa[hi]using h hi)];rfl
 .rw[ki hi];rfl
def YC {k:Nat}(hk:k=0){l:List iN}(h:k<l.length):lP (l.take k) l[k]! =(l.take (k+1),true):=by
 subst hk;cases l with
 |nil=>cases h
 |cons a r=>rfl
def Xy {l:List Key}{k:Key}{i:Nat}(h:i<l.length)(hc:e8 l[i]! k=true):EU l k i=EU l k (i+1):=by
 unfold EU;rw[fk h,List.takeWhile_cons_of_pos (by simpa[h]using hc)];simp;omega
def Xz {l:List Key}{k:Key}{i:Nat}(h:i<l.length->e8 l[i]! k=false):EU l k i=i:=by
 unfold EU;rcases dZ i l.length with hi|hi
 .rw[fk hi,List.takeWhile_cons_of_neg (by simpa[hi]using h hi)];rfl
 .rw[ki hi];rfl
def TO {i k:Nat}(h:k<l.length)(hc:iL es[(l[k]!).toNat]!.r.v es[i]!.r.v<0):A5 es l i k=A5 es l i (k+1):=by
 unfold A5;rw[fk h,List.takeWhile_cons_of_pos (by simpa[h]using hc)];simp;omega
def TP {i k:Nat}(h:k<l.length->¬iL es[(l[k]!).toNat]!.r.v es[i]!.r.v<0):A5 es l i k=k:=by
 unfold A5;rcases dZ k l.length with hi|hi
 .rw[fk hi,List.takeWhile_cons_of_neg (by simpa[hi]using h hi)];rfl
 .rw[ki hi];rfl
theorem Key.eqD (a b:Key):ik (Key.D a).cells (Key.D b).cells=decide (a=b):=by
 obtain⟨a1,a2⟩:=a;obtain⟨b1,b2⟩:=b
 grind [Key.D,D.cells,ik,tn]
theorem iN.eq (a b:iN):ik (iN.D a).cells (iN.D b).cells=decide (a=b):=by
 obtain⟨a1,a2⟩:=a;obtain⟨b1,b2⟩:=b
 grind [iN.D,D.cells,ik,tn]
def YA {l:List iN}{i:Nat}(h:(dn l[i]!.name=false\/dn l[i]!.shelf=false)\/(0<i/\Op.bytesLess l[i-1]!.name l[i]!.name=false)):decide (Mf l i=0)=false:=by rw[Mg h];rfl
def Uj {l:List iN}{i:Nat}(h:¬((dn l[i]!.name=false\/dn l[i]!.shelf=false)\/(0<i/\Op.bytesLess l[i-1]!.name l[i]!.name=false))):decide (Mf l i=0)=true:=by rw[RZ h];rfl
def Yu {ns:List bw}{e:Env}{o:au}{i:Nat}(h:i<ns.length):qS (ns.take i) e o++Ba e o ns[i]! =qS (ns.take (i+1)) e o:=by unfold qS;rw[n7 h]
def ajY {e:Env}{o:au}{n:bw}(h:n.option=o/\FO n.when' e=true):Ba e o n=iM n:=by unfold Ba;rw[ak h]
def ajX {e:Env}{o:au}{n:bw}(h:¬n.option=o\/FO n.when' e=false):Ba e o n=[]:=by unfold Ba;rw[ai (by rintro⟨h1,h2⟩;rcases h with h|h;exact h h1;rw[h]at h2;cases h2)]
def HJ {ns:List bw}{e:Env}{i:Nat}(h:i<ns.length):iY (ns.take i) e nm ft++rD e nm ft ns[i]! =iY (ns.take (i+1)) e nm ft:=by unfold iY;rw[n7 h]
def adX {e:Env}{n:bw}(h:(¬(n.any.length:Int)=1\/¬n.any[0]!.name=nm)\/FO n.when' e=false):rD e nm ft n=[]:=by
 unfold rD;rw[ai];rintro⟨⟨h1,h2⟩,h3⟩;rcases h with(h|h)|h
 .omega
 .exact h h2
 .rw[h]at h3;cases h3
def Ys (n:bw):List fV:=if n.option=[]then []else iM n
def R3 {e:Env}{n:bw}(h:((n.any.length:Int)=1/\n.any[0]!.name=nm)/\FO n.when' e=true):rD e nm ft n=Ys n++[[⟨⟨nm,ft⟩,fg n.any[0]!.range⟩]]:=by
 unfold rD;rw[ak ⟨⟨ae,h.1.2⟩,h.2⟩];rfl
def y7 (r:Rec)(e:Env)(ft:au)(i:Nat):List fV:=[[⟨⟨r.name,[]⟩,dJ r.v⟩]]++((u6 r.feats ft).take i).flatMap (mr r e)
def OU {e:Env}{i:Nat}(h:i<(u6 r.feats ft).length):y7 r e ft i++mr r e (u6 r.feats ft)[i]! =y7 r e ft (i+1):=by unfold y7;rw[n7 h,fF]
def ajy {e:Env}(h:¬ft=[]):y7 r e ft (u6 r.feats ft).length=cQ r e ft:=by unfold y7 cQ;rw[ai h,List.take_length]
def X4 {e:Env}(h:B0 r)(i:Nat):(y7 r e ft i).length<=1+384:=by
 have h2:=(xG h ft).1;have h1:=iy (f:=mr r e) (B:=64) (l:=(u6 r.feats ft).take i) λs _=>(tv h).1
 unfold y7;rw[dQ]at h1;rw[cu,List.length_singleton];have:64*min i (u6 r.feats ft).length<=64*6:=Nat.mul_le_mul_left _ ae;omega
def aja {e:Env}{s:au}(h:(bP s).1=1):mr r e s=[[⟨⟨r.name,(bP s).2.1⟩,dJ r.v⟩]]:=by unfold mr;rw[ak h]
def ajb {e:Env}{s:au}(h:¬(bP s).1=1)(h2:(bP s).1=2):mr r e s=qS r.needs e (bP s).2.1:=by unfold mr;rw[ai h,ak h2]
def ajc {e:Env}{s:au}(h:¬(bP s).1=1)(h2:¬(bP s).1=2):mr r e s=iY r.needs e (bP s).2.1 (bP s).2.2:=by unfold mr;rw[ai h,ai h2]
def Tz (l:List cn)(nm:au):findF l nm 0=-1\/∃j:Nat,findF l nm 0=(j:Int)/\j<l.length:=by
 unfold findF;rw[cR];cases h:l.findIdx? (λx=>decide (x.name=nm))with
 |none=>exact .inl rfl
 |some k=>exact .inr ⟨k,aB,(List.findIdx?_eq_some_iff_getElem.1 h).1⟩
def rM (all:List Key)(r:fV)(i:Nat):nX:=(r.take i).map λa=>⟨ep all a.k,a.s⟩
def aex {all:List Key}{r:fV}{i:Nat}(h:i<r.length):rM all r i++[⟨ep all r[i]!.k,r[i]!.s⟩]=rM all r (i+1):=by unfold rM;rw[map_take h]
def U4 (all:List Key)(r:fV)(i:Nat):(rM all r i).length<=i:=by unfold rM;rw[aZ,dQ];omega
def aew {all:List Key}{l:List fV}{i:Nat}(h:i<l.length):dH all (l.take i)++[rM all l[i]! l[i]!.length]=dH all (l.take (i+1)):=by unfold dH rM;rw[map_take h,List.take_length]
def U3 (all:List Key)(l:List fV)(i:Nat):(dH all (l.take i)).length<=i:=by unfold dH;rw[aZ,dQ];omega
def QO {all:List Key}{e:Env}{i:Nat}(h:i<r.bars.length):(r.bars.take i).flatMap (qz all e)++qz all e r.bars[i]! =(r.bars.take (i+1)).flatMap (qz all e):=by rw[n7 h]
def ahe {all:List Key}{e:Env}{b:mM}(h:0<=ep all ⟨b.name,[]⟩/\FO b.when' e=true):qz all e b=[⟨ep all ⟨b.name,[]⟩,fg b.range⟩]:=by unfold qz;rw[ak h]
def ahd {all:List Key}{e:Env}{b:mM}(h:¬0<=ep all ⟨b.name,[]⟩\/FO b.when' e=false):qz all e b=[]:=by unfold qz;rw[ai (by rintro⟨h1,h2⟩;rcases h with h|h;exact h h1;rw[h]at h2;cases h2)]
def V3 (all:List Key)(e:Env)(b:mM):(qz all e b).length<=1:=by unfold qz;split<;>simp
def To (all:List Key)(e:Env)(l:List mM)(i:Nat):((l.take i).flatMap (qz all e)).length<=i:=by
 have h:=iy (f:=qz all e) (B:=1) (l:=l.take i) λb _=>V3 all e b
 rw[dQ]at h;omega
def akI {l:List hR}{i:Nat}(h:i<l.length):eJ (l.take i)++[[⟨⟨l[i]!.r.name,lv⟩,dJ l[i]!.r.v⟩]]=eJ (l.take (i+1)):=by unfold eJ;rw[map_take h]
def ZI (l:List hR)(i:Nat):(eJ (l.take i)).length<=i:=by unfold eJ;rw[aZ,dQ];omega
def acX (l k:Nat)(es:List Abs.D)(xs:List nX):lu l k es (xs.map jI)=xs.map jI:=jM l k es _ (bQ (λ_=>rfl) _)
def hR.fz (l k:Nat)(es:List Abs.D)(c:hR):iz l k es c.D=c.D:=gA l k es _ rfl
def mM.fz (l k:Nat)(es:List Abs.D)(c:mM):iz l k es c.D=c.D:=gA l k es _ rfl
def jq.fz (l k:Nat)(es:List Abs.D)(c:jq):iz l k es c.D=c.D:=gA l k es _ rfl
section
variable {shop:List bM}{ps:List iN}
def aiH (h:eS shop=false):gy shop ps nm=(0,1):=by unfold gy;rw[ak h]
def aiI (h:eS shop=true)(h2:Al ps=false):gy shop ps nm=(0,15):=by unfold gy;rw[ai jc,ak h2]
def aiJ {i:Nat}(h:eS shop=true)(h2:Al ps=true)(h3:E3 ps nm=(i:Nat))(h4:mE shop ps[i]!.shelf<0):gy shop ps nm=(0,12):=by
 unfold gy;rw[ai jc,ai (by rw[h2];simp),ak ae,h3,Int.toNat_natCast,ak h4]
def aiK {i:Nat}(h:eS shop=true)(h2:Al ps=true)(h3:E3 ps nm=(i:Nat))(h4:¬mE shop ps[i]!.shelf<0):gy shop ps nm=(mE shop ps[i]!.shelf,0):=by
 unfold gy;rw[ai jc,ai (by rw[h2];simp),ak ae,h3,Int.toNat_natCast,ai h4]
def aiL (h:eS shop=true)(h2:Al ps=true)(h3:E3 ps nm=-1)(h4:gM (Cw nm) shop 0=(j:Nat)):gy shop ps nm=(((j:Nat):Int),0):=by
 unfold gy;rw[ai jc,ai (by rw[h2];simp),ai ae,h4,ai ae]
def aiM (h:eS shop=true)(h2:Al ps=true)(h3:E3 ps nm=-1)(h4:gM (Cw nm) shop 0=-1):gy shop ps nm=(0,9):=by
 unfold gy;rw[ai jc,ai (by rw[h2];simp),ai ae,h4];rfl
end
def adb {i k:Nat}(h:A5 es l i 0=k):(l.take k++[((i:Nat):Int)])++l.drop k=Hf es l i:=by unfold Hf;rw[h]
def ado {i:Nat}(h:es[i]!.r.name=nm):Hf es (eI es nm i) i=eI es nm (i+1):=by rw[eI,ak h]
def adn {i:Nat}(h:¬es[i]!.r.name=nm):eI es nm i=eI es nm (i+1):=by rw[eI,ai h]
def adm {s:bM}(h:ic s=true):eI s.es nm s.es.length=ku s nm:=by unfold ku;rw[h,ai aB]
def ad1 {l:List Key}{k:Key}{i:Nat}(h:EU l k 0=i)(h2:¬(i<l.length/\l[i]! =k)):(l.take i++[k])++l.drop i=sH l k:=by unfold sH;rw[h,ai h2]
def adZ {l:List Key}{k:Key}{i:Nat}(h:EU l k 0=i)(h2:i<l.length/\l[i]! =k):l=sH l k:=by unfold sH;rw[h,ak h2]
def D6 {l:List α}{i:Nat}{x:α}(h:x∈l.take i):x∈l:=zH h
def lg (x:di):List Key:=if x.bare=true then []else [⟨x.name,lv⟩]
def oD (x:di):List Key:=if x.bare=true then(if x.feats=[]then [⟨x.name,[]⟩]else [])else [⟨x.name,lv⟩]
def mW (x:di)(i:Nat):List Key:=oD x++(x.feats.take i).map (Key.mk x.name)
def Z9 {x:di}(h:x.bare=false):lg x=[⟨x.name,lv⟩]:=by unfold lg;rw[h];rfl
def aaa {x:di}(h:x.bare=true):lg x=[]:=by unfold lg;rw[ak h]
def aac {x:di}(h:x.bare=true/\(x.feats.length:Int)=0):lg x++[⟨x.name,[]⟩]=oD x:=by
 have:x.feats=[]:=aaB.1 ae;unfold lg oD;rw[ak h.1,ak h.1,ak this];rfl
def aab {x:di}(h:x.bare=false\/¬(x.feats.length:Int)=0):lg x=oD x:=by
 unfold lg oD;cases hb:x.bare with
 |false=>rfl
 |true=>
  have h2:=h.resolve_left (by rw[hb];simp);have:¬x.feats=[]:=λe=>h2 (by rw[e];rfl)
  rw[ak rfl,ak rfl,ai this]
def P9 (x:di):(lg x).length<=1:=by unfold lg;split<;>simp
def Qa (x:di):(oD x).length<=1:=by unfold oD;split<;>(try split)<;>simp
def Qb (x:di)(i:Nat):(mW x i).length<=1+i:=by
 have:=Qa x;unfold mW;rw[cu,aZ,dQ];omega
def aad (x:di):oD x=mW x 0:=by unfold mW;simp
def aaf {x:di}{i:Nat}(h:i<x.feats.length):mW x i++[⟨x.name,x.feats[i]!⟩]=mW x (i+1):=by
 unfold mW;rw[map_take h,<-fF]
def aae (x:di):mW x x.feats.length=fh x:=by unfold mW fh oD;rw[List.take_length]
def asdK (s:cA)(k:Key):fV:=[⟨k,s⟩]
def zq (n:bw)(i:Nat):List fV:=((fh n.any[0]!).take i).map (asdK (fg n.any[0]!.range))
def akN {n:bw}{i:Nat}(h:i<(fh n.any[0]!).length):zq n i++[asdK (fg n.any[0]!.range) (fh n.any[0]!)[i]!]=zq n (i+1):=by unfold zq;rw[map_take h]
def akM {n:bw}(h:(n.any.length:Int)=1):zq n (fh n.any[0]!).length=iM n:=by unfold zq iM;rw[ak ae,List.take_length];rfl
def ZL (n:bw)(i:Nat):(zq n i).length<=i:=by unfold zq;rw[aZ,dQ];omega
def Yh (w:di):jq:=⟨(fh w)[0]!,fg w.range⟩
def A9 (n:bw)(i:Nat):List jq:=(n.any.take i).map Yh
def ajN {n:bw}{i:Nat}(h:i<n.any.length):A9 n i++[Yh n.any[i]!]=A9 n (i+1):=by unfold A9;rw[map_take h]
def ajM {n:bw}(h:¬(n.any.length:Int)=1):[A9 n n.any.length]=iM n:=by unfold A9 iM;rw[ai ae,List.take_length];rfl
def Yg (n:bw)(i:Nat):(A9 n i).length<=i:=by unfold A9;rw[aZ,dQ];omega
def xl (l k:Nat)(es:List Abs.D)(xs:List fV)(d:Abs.D):lu l k es (xs.map dU++[d])=xs.map dU++[iz l k es d]:=by
 induction xs with
 |nil=>rfl
 |cons x r ih=>rw[List.map_cons,td,lu,ih];rfl
def Cu (l k:Nat)(es:List Abs.D)(xs:List jq):lu l k es (xs.map jq.D)=xs.map jq.D:=jM l k es _ (bQ (λ_=>rfl) _)
def bw.fz (l k:Nat)(es:List Abs.D)(c:bw):iz l k es c.D=c.D:=gA l k es _ rfl
def Env.fz (l k:Nat)(es:List Abs.D)(c:Env):iz l k es c.D=c.D:=gA l k es _ rfl
def di.fz (l k:Nat)(es:List Abs.D)(c:di):iz l k es c.D=c.D:=gA l k es _ rfl
def cA.fz (l k:Nat)(es:List Abs.D)(c:cA):iz l k es c.D=c.D:=gA l k es _ rfl
def Key.fz (l k:Nat)(es:List Abs.D)(c:Key):iz l k es c.D=c.D:=gA l k es _ rfl
variable{b:List Key}{k:Key}
def uF.fz (l k:Nat)(es:List Abs.D)(c:uF):iz l k es c.D=c.D:=gA l k es _ rfl
def pI (xs:List fV)(a:jq):xs.map dU++[.sl 4 [a.D]]=(xs++[[a]]).map dU:=by rw[List.map_append];rfl
def XP {y:cF}(hj:lQ y.l nm=(j:Nat)):dL y nm=[⟨y.l[j]!.r,-1⟩]:=by
 unfold dL;rw[ak ae,hj,Int.toNat_natCast]
def adr (nm:au):(cO y.shop y.pins nm).2.1.length<=64:=by
 unfold cO;split
 .simp
 .exact(sx _ _).1
def ajt {y:cF}(hy:pG y){i:Nat}(hc:(cO y.shop y.pins nm).2.2=0)(hi:i<(cO y.shop y.pins nm).2.1.length):
  ∃j:Nat,(cO y.shop y.pins nm).1=(j:Int)/\j<y.shop.length/\∃t:Nat,(cO y.shop y.pins nm).2.1[i]! =(t:Int)/\t<y.shop[j]!.es.length/\y.shop[j]!.es[t]!.r.v.sm:=by
 have h2:(gy y.shop y.pins nm).2=0:=by
  unfold cO at hc;split at hc
  .rename_i h3;exact absurd hc h3
  .rename_i h3;exact Classical.not_not.1 h3
 obtain⟨hB,j,hj,hjl⟩:=pQ h2;have e1:cO y.shop y.pins nm=((j:Int),ku y.shop[j]! nm,0):=by
  unfold cO;rw[ai (λh=>h h2),hj,Int.toNat_natCast]
 rw[e1]at hi⊢;dsimp only at hi⊢;obtain⟨h5,h6⟩:=(sx y.shop[j]! nm).2 _ (aq hi);refine⟨j,rfl,hjl,(ku y.shop[j]! nm)[i]!.toNat,ae,ae, ?_⟩;exact(hy.1.2 _ (aq hjl) _ (aq ae)).1.2
def FF (y:cF)(nm:au)(a:Nat):∀(l r:List Int),iX y nm a (l++r)=iX y nm a l++iX y nm a r
 |[],_=>rfl
 |x::l,r=>by rw[td,iX,iX,FF y nm a l r,fF]
def Rv (nm:au)(a:Nat){i:Nat}(h:i<l.length):iX y nm a (l.take (i+1))=iX y nm a (l.take i)++(if Sy y nm y.shop[a]!.es[l[i]!.toNat]! =true then [⟨y.shop[a]!.es[l[i]!.toNat]!.r,(a:Int)⟩]else []):=by
 have e:l.take (i+1)=l.take i++[l[i]!]:=by
  rw[List.take_add_one,List.getElem?_eq_getElem h];simp[h]
 rw[e,FF,iX,iX,gF]
def adq {y:cF}{A:Int}{i t:Nat}(hj:A=(j:Int))(h:i<l.length)(ht:l[i]! =(t:Int))(hx:(y.shop[j]!.es[t]!.off=false\/LA y.keeps y.shop[j]!.es[t]!.r=true)/\pf (kQ y.l nm) y.shop[j]!.es[t]!.r.v=true):iX y nm A.toNat (l.take i)++[⟨y.shop[j]!.es[t]!.r,A⟩]=iX y nm A.toNat (l.take (i+1)):=by
 subst hj;rw[Rv y nm _ h,ht,Int.toNat_natCast,Int.toNat_natCast,ak];unfold Sy;rw[hx.2];rcases hx.1 with h|h<;>rw[h]<;>simp
def adp {y:cF}{A:Int}{i t:Nat}(hj:A=(j:Int))(h:i<l.length)(ht:l[i]! =(t:Int))(hx:(y.shop[j]!.es[t]!.off=true/\LA y.keeps y.shop[j]!.es[t]!.r=false)\/pf (kQ y.l nm) y.shop[j]!.es[t]!.r.v=false):iX y nm A.toNat (l.take i)=iX y nm A.toNat (l.take (i+1)):=by
 subst hj;rw[Rv y nm _ h,ht,Int.toNat_natCast,Int.toNat_natCast,ai,gF];unfold Sy;rcases hx with⟨h1,h2⟩|h<;>simp_all
def ajq {y:cF}{i:Nat}(h0:¬0<=lQ y.l nm)(hi:i<=(cO y.shop y.pins nm).2.1.length)(he:¬((i:Nat):Int)<((cO y.shop y.pins nm).2.1.length:Nat)\/¬(cO y.shop y.pins nm).2.2=0):iX y nm (cO y.shop y.pins nm).1.toNat ((cO y.shop y.pins nm).2.1.take i)=dL y nm:=by
 unfold dL;rw[ai h0];by_cases hc:(cO y.shop y.pins nm).2.2=0
 .rw[ai (λh=>h hc),fj (by rcases he with h|h;omega;exact absurd hc h)]
 .rw[ak hc];have:(cO y.shop y.pins nm).2.1=[]:=by
   unfold cO at hc⊢;split
   .rfl
   .rename_i h;rw[ai h]at hc;exact absurd rfl hc
  rw[this,List.take_nil];rfl
def Xc (l:List hR)(nm:au):(kQ l nm).sm:=by
 unfold kQ;split
 .exact aeh _
 .exact abR
def aai {v:ca}(h:v∈bJ):v.sm:=by
 obtain⟨i,hi,rfl⟩:=gu h;exact tK i
def Fl (n i:Nat):List Int:=(List.range n).map λu=>if 1<=u/\u<i then-1 else 0
def QW (n i:Nat):List Int:=(List.range n).map λu=>if u<i then-1 else 0
def Bt (n i:Nat):(Fl n i).length=n:=by simp[Fl]
def wV (n i:Nat):(QW n i).length=n:=by simp[QW]
def c1T_0 (n:Nat):List.replicate n (D.int .i64 0)=(QW n 0).map (D.int .i64):=by
 apply List.ext_getElem
 .simp[QW]
 .intro i h1 h2;simp only[List.getElem_replicate,QW,List.getElem_map,List.getElem_range];rw[ai ae]
theorem aca {i:Nat}(hi:i<n):(QW n i).set i (-1)=QW n (i+1):=by
 apply List.ext_getElem
 .simp[QW]
 .intro j h1 h2;simp only[List.getElem_set,QW,List.getElem_map,List.getElem_range]
  grind
theorem ab9:(QW n n).set 0 0=Fl n n:=by
 apply List.ext_getElem
 .simp[Fl,QW]
 .intro j h1 h2;simp only[List.getElem_set,Fl,QW,List.getElem_map,List.getElem_range];simp only[List.length_set,wV]at h1
  grind
def jL (e:Env)(w:bR)(l:kD):List Int×Int×au:=
 if eE w=false\/eS shop=false\/n6 e=false then([],1,[])else if LF l=false\/l.env≠e then([],34,[])
 else vT shop w.us l.lines (Fl w.us.length w.us.length)
def ChoP (w:bR)(l:kD):Prop:=jl shop/\w.sm/\l.sm
section
variable {shop:List bM}{e:Env}{l:kD}
theorem cho_a (h:(eE w=false\/eS shop=false)\/n6 e=false):jL shop e w l=([],1,[]):=by
 rw[jL,ak (by grind)]
theorem cho_b (h:(eE w=true/\eS shop=true)/\n6 e=true)(h2:LF l=false\/¬l.env=e):jL shop e w l=([],34,[]):=by
 rw[jL,ai (by grind),ak h2]
theorem ae8 (h:(eE w=true/\eS shop=true)/\n6 e=true)(h2:LF l=true/\l.env=e):jL shop e w l=vT shop w.us l.lines (Fl w.us.length w.us.length):=by
 rw[jL,ai (by grind),ai (by grind)]
end
def Hn (shop:List bM)(us:List cJ)(l:List dr)(c:List Int):Nat->List Int
 |0=>c
 |i+1=>(mT shop us l[i]! (Hn shop us l c i)).2
def LJ {shop:List bM}{us:List cJ}{l:List dr}{c:List Int}:∀i,(Hn shop us l c i).length=c.length
 |0=>rfl
 |i+1=>by rw[Hn,YX,LJ]
def uN (us:List cJ):Nat->List D
 |0=>[]
 |i+1=>if 0<i then Ah (wz us[i]!.name us[i]!.feat) (.int .i64 (i:Nat)) (uN us i)else []
def afs {k v:D}(hk:vQ k=true):∀{l:List D},xA l=true->xA (Ah k v l)=true
 |[],_=>by simp[Ah,xA,hk]
 |[_],h=>by simp[xA]at h
 |a::b::r,h=>by
  simp only[xA,aC]at h;rw[Ah];cases pV a k
  .simp only[cond_false,xA,h.1,afs hk h.2,Bool.and_self]
  .simp only[cond_true,xA,h.1,h.2,Bool.and_self]
def Ea (us:List cJ):∀i,xA (uN us i)=true
 |0=>rfl
 |i+1=>by
  rw[uN];split
  .exact afs rfl (Ea us i)
  .rfl
def OB (a b c d:au):pV (wz a b) (wz c d)=(decide (a=c)&&decide (b=d)):=by
 simp only[pV,wz];rw[Bool.eq_iff_iff];simp
def Rn {a:D}{c d:au}(h:pV a (wz c d)=true):a=wz c d:=by
 unfold pV wz at h;split at h
 .rename_i h1;simp only[D.agg.injEq,te,D.str.injEq,dh,aC,beq_iff_eq]at h1 h;obtain⟨rfl,rfl⟩:=h1;rw[h.1,h.2];rfl
 .cases h
theorem XY {a b c d:au}{v:D}:∀{l:List D},xA l=true->NO (wz a b) (Ah (wz c d) v l)=if a=c/\b=d then some v else NO (wz a b) l
 |[],_=>by
  simp only[Ah,NO,OB];by_cases h:a=c/\b=d
  .rw[ak h];simp[h]
  .rw[ai h];have:(decide (c=a)&&decide (d=b))=false:=by grind
   rw[this];rfl
 |[_],h=>by simp[xA]at h
 |k::w::r,h=>by
  simp only[xA,aC]at h;rw[Ah];cases hk:pV k (wz c d)
  .simp only[cond_false,NO,XY h.2];cases hk2:pV k (wz a b)
   .rfl
   .have:=Rn hk2;subst this;rw[OB]at hk;have hn:¬(a=c/\b=d):=by grind
    simp only[ai hn]
  .have:=Rn hk;subst this;simp only[cond_true,NO,OB];by_cases h2:a=c/\b=d
   .rw[ak h2];simp[h2]
   .rw[ai h2];have:(decide (c=a)&&decide (d=b))=false:=by grind
    rw[this];rfl
theorem xp:∀a b c:au,Op.bytesLess a b=true->Op.bytesLess b c=true->Op.bytesLess a c=true
 |[],[],_,h,_=>by simp[Op.bytesLess]at h
 |[],_::_,[],_,h=>by simp[Op.bytesLess]at h
 |[],_::_,_::_,_,_=>by simp[Op.bytesLess]
 |_::_,[],_,h,_=>by simp[Op.bytesLess]at h
 |_::_,_::_,[],_,h=>by simp[Op.bytesLess]at h
 |x::a,y::b,z::c,h1,h2=>by
  have ih:=xp a b c;unfold Op.bytesLess at h1 h2⊢;have e1:=UInt8.lt_iff_toNat_lt (a:=x) (b:=y);have e2:=UInt8.lt_iff_toNat_lt (a:=y) (b:=z);have e3:=UInt8.lt_iff_toNat_lt (a:=x) (b:=z);have e4:=pD (a:=x) (b:=y);have e5:=pD (a:=y) (b:=z);have e6:=pD (a:=x) (b:=z)
  grind
theorem VX {a b c:cJ}(h1:jK a b=true)(h2:jK b c=true):jK a c=true:=by
 have t1:=xp a.name b.name c.name;have t2:=xp a.feat b.feat c.feat;unfold jK at*
 grind
def tJ {w:bR}(h:eE w=true){i:Nat}(hi:1<=i):∀{j:Nat},i<j->j<w.us.length->jK w.us[i]! w.us[j]! =true
 |0,h1,_=>absurd h1 (Nat.not_lt_zero _)
 |j+1,h1,h2=>by
  have h3:jK w.us[j]! w.us[j+1]! =true:=by
   simp only[eE,aC,bD,lF]at h;have:=(h.2 (j+1) (Nat.zero_le _) h2).1.1.2;simp only[cG,er,cy,dq,Nat.add_sub_cancel]at this;rcases this with h4|h4
   .omega
   .exact h4
  by_cases hij:i=j
  .subst hij;exact h3
  .exact VX (tJ h hi ae ae) h3
def tI (h:eE w=true){a b:au}{i:Nat}(hi:1<=i)(hij:i<j)(hj:j<w.us.length)(h1:nE a b w.us[i]! =true)(h2:nE a b w.us[j]! =true):False:=by
 have:=tJ h hi hij hj;simp only[nE,aC,aV]at h1 h2;unfold jK at this;rw[h1.1,h1.2,h2.1,h2.2,my,my]at this;simp at this
theorem Z7 {us:List cJ}{a b:au}:∀{n:Nat},(∀i,1<=i->i<n->nE a b us[i]! =false)->NO (wz a b) (uN us n)=none
 |0,_=>rfl
 |n+1,h=>by
  rw[uN];split
  .rename_i h0;have h1:=h n h0 ae;rw[XY (Ea us n),Z7 (λi h2 h3=>h i h2 ae)];simp only[nE]at h1;rw[ai (by grind)]
  .rfl
theorem Z8 {w:bR}(hw:eE w=true){a b:au}{i:Nat}(hi:1<=i)(h:nE a b w.us[i]! =true):∀{n:Nat},i<n->n<=w.us.length->NO (wz a b) (uN w.us n)=some (.int .i64 (i:Nat))
 |0,h1,_=>absurd h1 (Nat.not_lt_zero _)
 |n+1,h1,h2=>by
  rw[uN,ak ae,XY (Ea _ n)];by_cases hin:i=n
  .subst hin;simp only[nE,aC,aV]at h;rw[ak ⟨h.1.symm,h.2.symm⟩]
  .have h3:=Z8 hw hi h (n:=n) ae ae;have h4:nE a b w.us[n]! =false:=by
    cases hc:nE a b w.us[n]!
    .rfl
    .exact(tI hw hi ae ae h hc).elim
   simp only[nE]at h4;rw[h3,ai (by grind)]
def ajw (hw:eE w=true):VJ w.us (uN w.us w.us.length):=by
 refine⟨Ea _ _,λa b=>?_⟩;have hd:∀q,(w.us.drop 1)[q]! =w.us[1+q]! :=λq=>by simp[List.getElem!_eq_getElem?_getD,Nat.add_comm]
 have hu:gw w.us a b=gM (nE a b) (w.us.drop 1) 1:=rfl;rcases e7 (f:=nE a b) (l:=w.us.drop 1) (k:=1)with⟨h1,h2⟩|⟨j,h1,h2,h3,_⟩
 .rw[Z7 (λi h3 h4=>by have:=h2 (i-1) (by rw[ix];omega);rw[hd,show 1+(i-1)=i by omega]at this;exact this)];simp only[yt];rw[hu,h1];rfl
 .rw[hd]at h3;rw[ix]at h2;rw[Z8 hw (i:=1+j) ae h3 ae (aN _)];simp only[yt];rw[hu,h1,ai ae,bA ae]
def Eh (h:eE w=true):1<=w.us.length/\w.us.length<=48:=by
 simp only[eE,aC,aV]at h;exact h.1.1
def kD.fz (l k:Nat)(es:List Abs.D)(c:kD):iz l k es c.D=c.D:=gA l k es _ (by simp only[kD.D,D.aT,aM,gG])
theorem CR:∀a b:au,Op.bytesLess a b=false->a≠b->Op.bytesLess b a=true
 |[],[],_,h=>absurd rfl h
 |[],_::_,h,_=>by simp[Op.bytesLess]at h
 |_::_,[],_,_=>by simp[Op.bytesLess]
 |x::a,y::b,h,hn=>by
  have ih:=CR a b;unfold Op.bytesLess at h⊢;have e1:=UInt8.lt_iff_toNat_lt (a:=x) (b:=y);have e2:=UInt8.lt_iff_toNat_lt (a:=y) (b:=x);have e4:=pD (a:=x) (b:=y)
  grind
def tw (a:Key):e8 a a=false:=by unfold e8;rw[my,my];simp
theorem OE {a b c:Key}(h1:e8 a b=true)(h2:e8 b c=true):e8 a c=true:=by
 have t1:=xp a.n b.n c.n;have t2:=xp a.f b.f c.f;unfold e8 at*
 grind
theorem Hh {a b:Key}(h:e8 a b=false)(hn:a≠b):e8 b a=true:=by
 have t1:=CR a.n b.n;have t2:=CR a.f b.f;have hk:¬(a.n=b.n/\a.f=b.f):=λh=>hn (by cases a;cases b;simp at h;simp[h.1,h.2])
 unfold e8 at*
 grind
def XC (h:k≠fL):e8 fL k=true:=by
 refine Hh ?_ h;unfold e8 fL;cases k with
 |mk n f=>cases n<;>cases f<;>simp[Op.bytesLess]
def KS (l:List Key):Prop:=l.Pairwise λa b=>e8 a b=true
def rh {α:Type}{p:α->Bool}:∀(l:List α),∀x∈l.take (l.takeWhile p).length,p x=true
 |[],x,h=>by simp at h
 |a::r,x,h=>by
  rw[List.takeWhile_cons]at h;split at h
  .rename_i ha;simp only[bE,List.take_succ_cons,bL]at h;rcases h with rfl|h
   .exact ha
   .exact rh r x h
  .simp at h
def wy {α:Type} [Inhabited α]{p:α->Bool}:∀(l:List α),(l.takeWhile p).length<l.length->p l[(l.takeWhile p).length]! =false
 |[],h=>by simp at h
 |a::r,h=>by
  rw[List.takeWhile_cons]at h⊢;split
  .rename_i ha;rw[ak ha]at h;simp only[bE]at h⊢;have:=wy (p:=p) r ae;simpa using this
  .rename_i ha;simpa using ha
def Lx [Inhabited α]{lt:α->α->Prop}{p:α->Bool}{l:List α}{k:α}(htr:∀a b c,lt a b->lt b c->lt a c)(hl:l.Pairwise lt)(h1:∀x∈l,p x=true->lt x k)(h2:∀x∈l,p x=false->lt k x):
  ((l.take (l.takeWhile p).length++[k])++l.drop (l.takeWhile p).length).Pairwise lt:=by
 have hs:(l.take (l.takeWhile p).length++l.drop (l.takeWhile p).length).Pairwise lt:=by rw[List.take_append_drop];exact hl
 rw[List.pairwise_append]at hs;obtain⟨g1,g2,g3⟩:=hs;have e1:∀x∈l.take (l.takeWhile p).length,lt x k:=λx hx=>h1 x (zH hx) (rh l x hx)
 have e2:∀x∈l.drop (l.takeWhile p).length,lt k x:=by
  rcases dZ (l.takeWhile p).length l.length with h|h
  .have hd:=wy l h;have hlt:=h2 _ (aq h) hd;rw[fk h]at g2⊢;rw[show l[(l.takeWhile p).length]=l[(l.takeWhile p).length]! by simp[h]]at g2⊢;intro x hx;rcases bL.1 hx with rfl|hx
   .exact hlt
   .exact htr _ _ _ hlt ((List.pairwise_cons.1 g2).1 x hx)
  .rw[ki h];intro x hx;cases hx
 rw[List.pairwise_append,List.pairwise_append];refine⟨⟨g1,List.pairwise_singleton _ _,λa ha b hb=>?_⟩,g2,λa ha b hb=>?_⟩
 .rw[aD.1 hb];exact e1 a ha
 .rcases List.mem_append.1 ha with ha|ha
  .exact htr _ _ _ (e1 a ha) (e2 b hb)
  .rw[aD.1 ha];exact e2 b hb
def Un {l:List Key}(hl:KS l):KS (sH l k):=by
 unfold sH;split
 .exact hl
 .rename_i hn;have e:EU l k 0=(l.takeWhile λx=>e8 x k).length:=by unfold EU;rw[cR,bX]
  rw[e]at hn⊢;by_cases hk:k∈l
  ·
   exfalso;refine hn ?_;have hlt:(l.takeWhile λx=>e8 x k).length<l.length:=by
    rcases dZ (l.takeWhile λx=>e8 x k).length l.length with h|h
    .exact h
    .have:=rh (p:=λx=>e8 x k) l k (by rw[fj h];exact hk);rw[tw]at this;cases this
   refine⟨hlt, ?_⟩;have hd:=wy (p:=λx=>e8 x k) l hlt;by_cases hq:l[(l.takeWhile λx=>e8 x k).length]! =k
   .exact hq
   .have h3:=Hh hd hq;have hs:(l.take (l.takeWhile λx=>e8 x k).length++l.drop (l.takeWhile λx=>e8 x k).length).Pairwise λa b=>e8 a b=true:=by rw[List.take_append_drop];exact hl
    rw[List.pairwise_append]at hs;have hk2:k∈l.take (l.takeWhile λx=>e8 x k).length\/k∈l.drop (l.takeWhile λx=>e8 x k).length:=by rw[<-List.mem_append,List.take_append_drop];exact hk
    rcases hk2 with h4|h4
    .have:=rh (p:=λx=>e8 x k) l k h4;rw[tw]at this;cases this
    .obtain⟨_,g2,_⟩:=hs;rw[fk hlt,show l[(l.takeWhile λx=>e8 x k).length]=l[(l.takeWhile λx=>e8 x k).length]! by simp[hlt]]at g2 h4;rcases bL.1 h4 with h5|h5
     .exact absurd h5.symm hq
     .have h6:=(List.pairwise_cons.1 g2).1 k h5;have:=OE h3 h6;rw[tw]at this;cases this
  .refine Lx (lt:=λa b=>e8 a b=true) (p:=λx=>e8 x k) (λa b c h1 h2=>OE h1 h2) hl (λx _ h=>h) (λx hx h=>Hh h λe=>hk (e▸hx))
def NmK (k:Key):Prop:=k=fL\/k.n≠[]
structure KN (s:pd):Prop where
 sort:KS s.all
 nm:∀k∈s.all,NmK k
def akE {s:pd}{a:jq}(h:KN s)(ha:a.k.n≠[]):KN (mC s a):=by
 have hm:=(HT s a).1;refine⟨?_,λk hk=>?_⟩
 .unfold mC;split
  .exact Un h.sort
  .exact h.sort
 .rcases(hm k).1 hk with h1|rfl
  .exact h.nm k h1
  .exact .inr ha
def Zk:∀(row:fV) (s:pd),(∀a∈row,a.k.n≠[])->KN s->KN (row.foldl mC s)
 |[],s,_,h=>h
 |b::r,s,hn,h=>Zk r _ (λa ha=>hn a (.tail _ ha)) (akE h (hn b (.head _)))
def Zm:∀(l:List fV) (s:pd),(∀row∈l,∀a∈row,a.k.n≠[])->KN s->KN (Ph s l)
 |[],s,_,h=>h
 |b::r,s,hn,h=>Zm r _ (λrow hr=>hn row (.tail _ hr)) (Zk b s (hn b (.head _)) h)
def Zl {y:cF}(hy:∀k,∀row∈de y k,∀a∈row,a.k.n≠[]):∀(n:Nat){s:pd}{all:List Key},KN s->Be y n s=some all->KN ⟨all,[]⟩
 |0,s,all,_,h=>by cases h
 |n+1,s,all,hI,h=>by
  rw[Be]at h;split at h
  .obtain rfl:=a7 h;exact⟨hI.sort,hI.nm⟩
  .split at h
   .cases h
   .exact Zl hy n (s:=Bg y s) (Zm (de y s.todo[0]!) ⟨s.all,s.todo.drop 1⟩ (hy _) ⟨hI.sort,hI.nm⟩) h
def VK (l:List fV):=∀row∈l,∀a∈row,a.k.n≠[]
def RO {a b:List fV}(h1:VK a)(h2:VK b):VK (a++b):=λr hr=>(List.mem_append.1 hr).elim (h1 r) (h2 r)
def xE {f:α->List fV}{l:List α}(h:∀x∈l,VK (f x)):VK (l.flatMap f):=λr hr=>by
 obtain⟨x,hx,hr⟩:=List.mem_flatMap.1 hr;exact h x hx r hr
def Hz {s:cA}(h:k.n≠[]):VK [[⟨k,s⟩]]:=λr hr b hb=>by
 rw[aD.1 hr]at hb;rw[aD.1 hb];exact h
def sB {s:au}(h:dn s=true):s≠[]:=by
 rintro rfl;revert h;decide
def Dq (h:B0 r):r.name≠[]:=sB h.1.1.1
theorem qd (h:B0 r):∀n∈r.needs,∀w∈n.any,dn w.name=true:=by
 intro n hn w hw;obtain⟨⟨_,_,hp⟩,_⟩:=h;have h0:(lL r).1=0:=by grind [eo]
 obtain⟨i,hi,rfl⟩:=gu hn;have h3:=qH h0 i hi;obtain⟨j,hj,rfl⟩:=gu hw;have h4:nL r r.needs[i]!.any=0:=by grind [jF]
 have h5:=Cm h4 j hj
 grind [lG,gR]
def Eb (w:di):∀k∈fh w,k.n=w.name:=by
 intro k hk;unfold fh at hk;rcases List.mem_append.1 hk with h|h
 .split at h
  .split at h
   .rw[aD.1 h]
   .cases h
  .rw[aD.1 h]
 .obtain⟨f,_,rfl⟩:=cg.1 h;rfl
def M4 {n:bw}(hn:wK n)(h:∀w∈n.any,dn w.name=true):VK (iM n):=by
 unfold iM;split
 .intro r hr a ha;obtain⟨k,hk,rfl⟩:=cg.1 hr;rw[aD.1 ha,Eb _ k hk];exact sB (h _ (aq hn.1.1))
 .intro r hr a ha;rw[aD.1 hr]at ha;obtain⟨w,hw,rfl⟩:=cg.1 ha;rw[Eb w _ (aq (oE w).1)];exact sB (h w hw)
def RX (h:B0 r)(e:Env)(o:au):VK (qS r.needs e o):=xE λn hn=>by
 unfold Ba;split
 .exact M4 ((gH h).2 n hn) (qd h n hn)
 .intro q hq;cases hq
def YQ (h:B0 r)(e:Env)(nm ft:au):VK (iY r.needs e nm ft):=xE λn hn=>by
 have hN:=(gH h).2 n hn;unfold rD;split
 .rename_i hc;refine RO ?_ (Hz ?_)
  .split
   .intro q hq;cases hq
   .exact M4 hN (qd h n hn)
  .show nm≠[];rw[<-hc.1.2];exact sB (qd h n hn _ (aq hN.1.1))
 .intro q hq;cases hq
def FK (h:B0 r)(e:Env)(ft:au):VK (cQ r e ft):=by
 unfold cQ;split
 .exact RX h e []
 .refine RO (Hz (Dq h)) (xE λs _=>?_);unfold mr;split
  .exact Hz (Dq h)
  .split
   .exact RX h e _
   .exact YQ h e _ _
def M5 {y:cF}(hy:pG y)(k:Key):VK (de y k):=by
 unfold de;split
 .obtain⟨⟨⟨m,hm,hM⟩,_⟩,_⟩:=hy;intro r hr a ha;rw[hm]at hr;rw[aD.1 hr]at ha;rw[aD.1 ha];exact Dq (BC hM)
 .exact xE λx hx=>FK ((xI hy k).2 x hx).1 y.e k.f
def HU {y:cF}(hy:pG y){all:List Key}(h:mU y=some all):KS all/\∀k∈all,NmK k:=by
 have:=Zl (M5 hy) 49 (s:=nG) ⟨by simp[KS,nG],λk hk=>.inl (by simpa[nG]using hk)⟩ h;exact⟨this.sort,this.nm⟩
def all_zero {all:List Key}(hs:KS all)(hz:fL∈all):all[0]! =fL/\0<all.length:=by
 have h0:=List.length_pos_of_mem hz;refine⟨?_,h0⟩;cases all with
 |nil=>cases hz
 |cons a r=>
  show a=fL;rcases bL.1 hz with h|h
  .exact h.symm
  .have h1:=(List.pairwise_cons.1 hs).1 fL h;by_cases he:a=fL
   .exact he
   .have:=OE h1 (XC he);rw[tw]at this;cases this
def tC {all:List Key}(hs:KS all)(hz:fL∈all)(hk:k≠fL):¬ep all k=0:=by
 intro h;unfold ep at h;rcases e7 (f:=λx=>decide (x=k)) (l:=all) (k:=0)with⟨h1,_⟩|⟨j,h1,_,h3,_⟩
 .rw[h1]at h;cases h
 .rw[h1]at h;obtain rfl:j=0:=ae;rw[(all_zero hs hz).1]at h3;exact hk (of_decide_eq_true h3).symm
def aaj:∀a∈bJ,∀b∈bJ,iL a b<0\/a=b\/iL b a<0:=by decide+kernel
def SG:∀a∈bJ,∀b∈bJ,∀c∈bJ,iL a b<0->iL b c<0->iL a c<0:=by decide+kernel
def VU:=∀s∈shop,∀x∈s.es,x.r.v∈bJ
def ZT {s:bM}(h:ic s=true){i:Nat}(hij:i<j)(hj:j<s.es.length)(hn:s.es[i]!.r.name=s.es[j]!.r.name)(hv:gQ s.es[j]!.r.v=true):¬s.es[i]!.r.v=s.es[j]!.r.v:=by
 intro e;simp only[ic,aC,bD,se,aV]at h;have h1:=(h.2 j (Nat.zero_le _) hj).2;rw[YE]at h1;have h2:=h1 s.es[i]! (by
  have:i<(s.es.take j).length:=by rw[dQ];omega
  have h3:=aq this;rw[List.getElem!_eq_getElem?_getD,List.getElem?_take_of_lt hij,<-List.getElem!_eq_getElem?_getD]at h3;exact h3)
 unfold Ly at h2;rw[bA hn,e,FP hv]at h2;cases h2
def ltE (es:List kj)(a b:Int):Prop:=(es[a.toNat]!.r.v∈bJ/\es[b.toNat]!.r.v∈bJ)/\iL es[a.toNat]!.r.v es[b.toNat]!.r.v<0
def aju (a b c:Int)(h1:ltE es a b)(h2:ltE es b c):ltE es a c:=⟨⟨h1.1.1,h2.1.2⟩,SG _ h1.1.1 _ h1.1.2 _ h2.1.2 h1.2 h2.2⟩
def vU {s:bM}(h:ic s=true)(hv:∀x∈s.es,x.r.v∈bJ)(nm:au):∀i,i<=s.es.length->(eI s.es nm i).Pairwise (ltE s.es)/\∀x∈eI s.es nm i,s.es[x.toNat]!.r.name=nm
 |0,_=>⟨List.Pairwise.nil,λx hx=>(by cases hx)⟩
 |i+1,hi=>by
  obtain⟨h1,h2⟩:=vU h hv nm i ae;rw[eI];split
  .rename_i hn;have hiv:=hv _ (aq (show i<s.es.length by omega));have hvb:gQ s.es[i]!.r.v=true:=(xd _ hiv).2;have hin:=(xr s.es nm i).2;refine⟨?_,λx hx=>?_⟩
   .unfold Hf A5;rw[cR,bX];refine Lx (lt:=ltE s.es) aju h1 (λx hx hp=>?_) (λx hx hp=>?_)
    .have:=hin x hx;rw[aV]at hp;refine⟨⟨hv _ (aq ae), ?_⟩, ?_⟩<;>rw[Int.toNat_natCast]
     .exact hiv
     .exact hp
    .have hxr:=hin x hx;have hxv:=hv _ (aq (show x.toNat<s.es.length by omega));rw[cy]at hp;refine⟨⟨?_,hxv⟩, ?_⟩<;>rw[Int.toNat_natCast]
     .exact hiv
     .rcases aaj _ hxv _ hiv with h3|h3|h3
      .exact absurd h3 hp
      .exact absurd h3 (ZT h (show x.toNat<i by omega) ae (by rw[h2 x hx,hn]) hvb)
      .exact h3
   .rcases Lw hx with h3|h3
    .exact h2 x h3
    .rw[h3,Int.toNat_natCast];exact hn
  .exact⟨h1,h2⟩
def y0 {y:cF}{nm:au}{a:Nat}:∀(l:List Int),(iX y nm a l).Sublist (l.map λi=>⟨y.shop[a]!.es[i.toNat]!.r,(a:Int)⟩)
 |[]=>List.Sublist.slnil
 |i::r=>by
  rw[iX,List.map_cons];split
  .exact(y0 r).cons₂ _
  .exact(y0 r).cons _
def RcLt (a b:uF):Prop:=iL a.r.v b.r.v<0
def TZ {y:cF}(h:pG y)(hv:VU y.shop)(nm:au):(dL y nm).Pairwise RcLt:=by
 unfold dL;split
 .exact List.pairwise_singleton _ _
 .split
  .exact List.Pairwise.nil
  .rename_i h1;have h1:(cO y.shop y.pins nm).2.2=0:=Classical.not_not.1 h1;have h2:(gy y.shop y.pins nm).2=0:=by
    unfold cO at h1;split at h1
    .rename_i h3;exact absurd h1 h3
    .rename_i h3;exact Classical.not_not.1 h3
   obtain⟨hB,j,hj,hjl⟩:=pQ h2;have e1:cO y.shop y.pins nm=((j:Int),ku y.shop[j]! nm,0):=by
    unfold cO;rw[ai (λh=>h h2),hj,Int.toNat_natCast]
   rw[e1];simp only[Int.toNat_natCast];have hs:=Ik hB hjl;have e2:ku y.shop[j]! nm=eI y.shop[j]!.es nm y.shop[j]!.es.length:=by unfold ku;rw[hs,ai aB]
   rw[e2];have h3:=(vU hs (hv _ (aq hjl)) nm _ (aN _)).1;refine List.Pairwise.sublist (y0 _) ?_;rw[List.pairwise_map];exact h3.imp λh=>h.2
def adH {y:cF}(h:pG y)(hv:VU y.shop)(k:Key):(eN y k).Pairwise RcLt:=List.Pairwise.sublist List.filter_sublist (TZ h hv k.n)
def CT {y:cF}(h:pG y)(hv:VU y.shop)(hm:∀m∈y.l,m.r.v∈bJ)(nm:au):∀x∈dL y nm,x.r.v∈bJ:=by
 unfold dL;split
 .rename_i h0;intro x hx;rw[aD.1 hx];obtain⟨j,hj,hjl⟩:=(qT y.l nm).resolve_left ae;rw[hj,Int.toNat_natCast];exact hm _ (aq hjl)
 .split
  .intro x hx;cases hx
  .rename_i h1;have h1:(cO y.shop y.pins nm).2.2=0:=Classical.not_not.1 h1;have h2:(gy y.shop y.pins nm).2=0:=by
    unfold cO at h1;split at h1
    .rename_i h3;exact absurd h1 h3
    .rename_i h3;exact Classical.not_not.1 h3
   obtain⟨hB,j,hj,hjl⟩:=pQ h2;have e1:cO y.shop y.pins nm=((j:Int),ku y.shop[j]! nm,0):=by
    unfold cO;rw[ai (λh=>h h2),hj,Int.toNat_natCast]
   rw[e1];simp only[Int.toNat_natCast];intro x hx;obtain⟨⟨i,hi,e⟩,_⟩:=(pY (y:=y) (nm:=nm) (a:=j) _).2 x hx;have:=(sx y.shop[j]! nm).2 i hi;rw[e];exact hv _ (aq hjl) _ (aq ae)
def VV (n:Nat)(w:Want):Prop:=(0<w.u/\w.u<(n:Int))/\wj w.s=true
def Gt {l:List Want}(h:∀w∈l,VV n w):pB (n:Int) l=true:=by
 unfold pB;rw[bD];intro j _ hj;obtain⟨⟨h1,h2⟩,h3⟩:=h _ (aq hj);unfold sX;rw[bA h1,bA h2,h3];rfl
def KY {c:eA}(h1:c.needs.length<=24)(h2:c.bars.length<=24)(h3:∀r∈c.needs,(0<r.length/\r.length<=24)/\∀w∈r,VV n w)(h4:∀w∈c.bars,VV n w):mZ (n:Int) c=true:=by
 unfold mZ;rw[bA h1,bA h2,Gt h4,gG,eu,eu,bD];intro j _ hj;obtain⟨⟨h5,h6⟩,h7⟩:=h3 _ (aq hj);unfold rJ;rw[Gt h7,bA h5,bA h6];rfl
def aek {s:cA}{v:ca}(hv:v∈bJ)(h:s∈hZ\/s=dJ v):wj s=true:=by
 rcases h with h|rfl
 .exact Na _ h
 .exact(xd v hv).1
structure qy (y:cF):Prop where
 p:pG y
 v:VU y.shop
 m:∀m∈y.l,m.r.v∈bJ
def Ht (h:k.n≠[]):k≠fL:=λe=>h (by rw[e];rfl)
theorem Wf {y:cF}{all:List Key}{x:uF}(hx:B0 x.r)(hxv:x.r.v∈bJ)(hz:fL∈all)(hs:KS all)(hcl:∀row∈cQ x.r y.e k.f,∀a∈row,a.k∈all)(hw:oF (dV y all k x)=false):mZ (all.length:Int) (dV y all k x)=true:=by
 have hC:=QY hx hcl hw;have h1:=C3 x.r y.e k.f;have hnm:=FK hx y.e k.f;refine KY hC.1.2.1 hC.1.2.2 (λr hr=>?_) (λw hwb=>?_)
 .have h2:=hC.2.1 r hr;refine⟨ae,λw hwr=>?_⟩;have h3:=h2.2 w hwr;obtain⟨q,hq,rfl⟩:=qh hr;obtain⟨a,ha,rfl⟩:=cg.1 hwr;have h4:=tC hs hz (Ht (hnm q hq a ha));dsimp only at h3⊢;exact⟨⟨mL,h3.2⟩,aek hxv (h1 q hq a ha)⟩
 .have h3:=hC.2.2 w hwb;have hwb:w∈(if k.f=[]then wR all x.r y.e else []):=hwb;split at hwb
  .obtain⟨b,hb,hwb2⟩:=List.mem_flatMap.1 hwb;unfold qz at hwb2;split at hwb2
   .rw[aD.1 hwb2]at h3⊢;have hbn:b.name≠[]:=by
     obtain⟨⟨_,_,hp⟩,_⟩:=hx;have h0:(uU x.r).1=0:=by grind [eo]
     obtain⟨i,hi,rfl⟩:=gu hb;have h5:=qH h0 i hi;have h6:dn x.r.bars[i]!.name=true:=by grind [rY,gR]
     exact sB h6
    have h4:=tC hs hz (Ht (k:=⟨b.name,[]⟩) hbn);dsimp only at h3;exact⟨⟨mL,h3.2⟩,aeg _⟩
   .cases hwb2
  .cases hwb
def Tq {y:cF}{all:List Key}(hy:qy y)(hz:fL∈all)(hs:KS all)(hcl:∀row∈de y k,∀a∈row,a.k∈all)(h:(ey y all k).2=true):
  (k=fL->(ey y all k).1.length=1)/\∀i,i<(ey y all k).1.length->m6 all.length (ey y all k).1 i=true:=by
 have hC:=yL hy.p hcl h;unfold ey at*
 by_cases hk:k=fL
 .rw[ak hk]at hC⊢;refine⟨λ_=>rfl,λi hi=>?_⟩;obtain rfl:i=0:=by simpa using hi
  have hrow:de y k=eJ y.l:=by unfold de;rw[ak hk]
  have hnm:=M5 hy.p k;rw[hrow]at hcl hnm;obtain⟨⟨hsm,h24,hb24⟩,hn,hb⟩:=hC.2 _ (.head _);unfold m6;show(gQ zV&&mZ (all.length:Int) ⟨zV,-1,dH all (eJ y.l),[]⟩&& !(decide (0<0)&&_))=true;rw[show gQ zV=true by decide,KY h24 hb24 (λr hr=>?_) (λw hw=>by cases hw)]
  .rfl
  .have h2:=hn r hr;refine⟨ae,λw hwr=>?_⟩;have h3:=h2.2 w hwr;obtain⟨q,hq,rfl⟩:=qh hr;obtain⟨a,ha,rfl⟩:=cg.1 hwr;have h4:=tC hs hz (Ht (hnm q hq a ha));refine⟨⟨by dsimp only at h3⊢;omega,h3.2⟩, ?_⟩;obtain⟨⟨⟨m,hm,hM⟩,_⟩,_⟩:=hy.p;have hmv:=hy.m m (by rw[hm];simp);rw[hm]at hq;rw[aD.1 hq]at ha;rw[aD.1 ha];exact(xd _ hmv).1
 .rw[ai hk]at h⊢;refine⟨λe=>absurd e hk, ?_⟩;have hrow:de y k=(eN y k).flatMap λx=>cQ x.r y.e k.f:=by unfold de;rw[ai hk]
  rw[hrow]at hcl;split at h
  .cases h
  .rename_i hw;rw[ai hw];intro i hi;dsimp only at hi⊢;have hi2:i<(eN y k).length:=by simpa using hi
   have e:((eN y k).map (dV y all k))[i]! =dV y all k (eN y k)[i]! :=fK hi2;have hx:=aq hi2;have hlk:(eN y k)[i]! ∈dL y k.n:=(List.mem_filter.1 hx).1;have hv:=CT hy.p hy.v hy.m k.n _ hlk;have hcw:oF (dV y all k (eN y k)[i]!)=false:=by
    cases hq:oF (dV y all k (eN y k)[i]!)with
    |false=>rfl
    |true=>exact absurd (List.any_eq_true.2 ⟨_,cg.2 ⟨_,hx,rfl⟩,hq⟩) hw
   unfold m6;rw[e,Wf ((xI hy.p k).2 _ hx).1 hv hz hs (λrow hr a ha=>hcl row (List.mem_flatMap.2 ⟨_,hx,hr⟩) a ha) hcw];rw[show gQ (dV y all k (eN y k)[i]!).v=true from(xd _ hv).2,eu,eu,cG];by_cases h0:0<i
   .rw[fK (show i-1<(eN y k).length by omega)];have hp:=List.pairwise_iff_getElem.1 (adH hy.p hy.v k) (i-1) i ae hi2 ae;unfold RcLt at hp;rw[<-getElem!_pos (eN y k) (i-1) ae,<-getElem!_pos (eN y k) i hi2]at hp;have hq:¬0<=iL (dV y all k (eN y k)[i-1]!).v (dV y all k (eN y k)[i]!).v:=by
     have:iL (dV y all k (eN y k)[i-1]!).v (dV y all k (eN y k)[i]!).v=iL (eN y k)[i-1]!.r.v (eN y k)[i]!.r.v:=rfl;omega
    rw[bN hq,Bool.and_false]
   .rw[bN h0,Bool.false_and]
def Ej {y:cF}(hy:qy y)(h:(ez y).2=true):eE (ez y).1=true:=by
 obtain⟨all,hr,hus,hc,hB⟩:=sZ hy.p h;obtain⟨hz,h48,hcl⟩:=sK hr;obtain⟨hs,hnm⟩:=HU hy.p hr;obtain⟨h0,hpos⟩:=all_zero hs hz;have hl:(ez y).1.us.length=all.length:=by rw[hus,aZ]
 have hat:∀i,i<all.length->(ez y).1.us[i]! =rN y all all[i]! :=λi hi=>by rw[hus,fK hi]
 have hcv:∀i,i<all.length->_:=λi hi=>Tq hy hz hs (hcl _ (aq hi)) (hc i hi)
 unfold eE;rw[hl,bA (show 1<=all.length by omega),bA h48,eu,eu,aC];constructor
 .unfold uY;rw[hat 0 hpos,h0];have:=(hcv 0 hpos).1 h0;rw[h0]at this;show(decide (([]:au)=[])&&decide (([]:au)=[])&&decide ((ey y all fL).1.length=1))=true;rw[bA this];rfl
 .rw[bD];intro i _ hi;unfold lF;rw[hat i hi];have h16:=(yL hy.p (hcl _ (aq hi)) (hc i hi)).1;have hlen:(ez y).1.us.length=all.length:=hl;rw[aC,aC,aC];refine⟨⟨⟨?_, ?_⟩,bA h16⟩, ?_⟩
  .by_cases hi0:0<i
   .have:all[i]!.n≠[]:=by
     rcases hnm _ (aq hi)with e|e
     .exfalso;have:=List.pairwise_iff_getElem.1 hs 0 i hpos hi hi0;rw[<-getElem!_pos all 0 hpos,<-getElem!_pos all i hi,h0,e,tw]at this;cases this
     .exact e
    show(!(decide (0<i)&&decide (all[i]!.n=[])))=true;rw[bN this,Bool.and_false];rfl
   .rw[bN hi0];rfl
  .by_cases hi1:1<i
   .rw[hat (i-1) ae];have:=List.pairwise_iff_getElem.1 hs (i-1) i ae hi ae;rw[<-getElem!_pos all (i-1) ae,<-getElem!_pos all i hi]at this;have e:jK (rN y all all[i-1]!) (rN y all all[i]!)=true:=this;rw[e];simp
   .rw[bN hi1];rfl
  .rw[bD,hlen];intro j _ hj;exact(hcv i hi).2 j hj
structure wI (w:bR)(c:List Int):Prop where
 l:c.length=w.us.length
 z:c[0]! =0
 f:∀i,i<w.us.length->-1<=c[i]! /\c[i]! <(w.us[i]!.cands.length:Int)
theorem DQ {i:Nat}{v:Int}(hj:j<c.length):(c.set j v)[i]! =if i=j then v else c[i]! :=by
 simp only[List.getElem!_eq_getElem?_getD,List.getElem?_set]
 grind
def wI.set {k:Nat}(h:wI w c)(h1:1<=j)(hj:j<w.us.length)(hk:k<w.us[j]!.cands.length):wI w (c.set j (k:Int)):=by
 have hl:j<c.length:=by have:=h.l;omega
 refine⟨by rw[List.length_set,h.l],by rw[DQ hl,ai ae];exact h.z,λi hi=>?_⟩;rw[DQ hl];split
 .rename_i e;subst e;omega
 .exact h.f i hi
def YH {a b:au}{v:ca}{t:Bool}(h:wI w c)(h2:¬mA w.us (gw w.us a b) v t<0):wI w (c.set (gw w.us a b).toNat (mA w.us (gw w.us a b) v t)):=by
 rcases Mh (us:=w.us) (u:=gw w.us a b) (v:=v) (t:=t)with h3|⟨j,k,h3,h4,h5⟩
 .omega
 .rcases Nw (us:=w.us) (a:=a) (b:=b)with h6|⟨i,h6,h7,h8⟩
  .omega
  .rw[h4,h3,Int.toNat_natCast];exact h.set ae ae h5
def Ln {w:bR}{x:dr}:∀{l:List au}{c:List Int},wI w c->wI w (vN w.us x l c).2
 |[],c,h=>h
 |f::r,c,h=>by
  rw[vN];split
  .exact h
  .rename_i h2;exact Ln (YH h h2)
def YW {shop:List bM}{x:dr}(h:wI w c):wI w (mT shop w.us x c).2:=by
 unfold mT;split
 .exact h
 .rename_i h2;split
  .exact h
  .exact Ln (YH h h2)
def LK {shop:List bM}{w:bR}:∀{l:List dr}{c:List Int},wI w c->(vT shop w.us l c).2.1=0->wI w (vT shop w.us l c).1
 |[],c,h,_=>h
 |x::r,c,h,h2=>by
  rw[vT]at h2⊢;split at h2
  .rename_i h3;exact absurd h2 h3
  .rename_i h3;rw[ai h3];exact LK (YW h) h2
theorem GZ {i:Nat}(h:i<n):(Fl n n)[i]! =if 1<=i then-1 else 0:=by
 simp only[Fl,List.getElem!_eq_getElem?_getD,List.getElem?_map,List.getElem?_range h]
 grind
def ab8 (h:eE w=true):wI w (Fl w.us.length w.us.length):=by
 have h1:=Eh h;have h0:w.us[0]!.cands.length=1:=by
  simp only[eE,uY,aC,aV]at h;exact h.1.2.2
 refine⟨Bt _ _,by rw[GZ ae];rfl,λi hi=>?_⟩;rw[GZ hi];split
 .omega
 .have:i=0:=ae;subst this;omega
theorem ace {shop:List bM}{e:Env}{l:kD}(h:(jL shop e w l).2.1=0):eE w=true/\wI w (jL shop e w l).1:=by
 unfold jL at h⊢;split at h
 .cases h
 .rename_i h1;rw[ai h1];split at h
  .cases h
  .rename_i h2;rw[ai h2];have hw:eE w=true:=by grind
   exact⟨hw,LK (ab8 hw) h⟩
def adf (hw:eE w=true)(h:wI w c):en w c=true:=by
 simp only[en,sn,yU,hw,eu,aC,aV,bD];exact⟨h.l,λi _ hi=>h.f i (by have:=h.l;omega)⟩
def Vb {f:wH}(h:f∈jf w c)(hl:c.length=w.us.length):0<=f.unit/\f.unit<(w.us.length:Int):=by
 unfold jf at h;split at h
 .cases h
 .simp only[gE,List.mem_flatMap,List.mem_range]at h;obtain⟨u,hu,h⟩:=h;split at h
  .cases h
  .simp only[A8,fP,j6,List.mem_append,List.mem_flatMap,List.mem_range]at h;have:f.unit=(u:Int):=by
    rcases h with⟨k,_,h⟩|⟨k,_,h⟩<;>split at h<;>first|(cases h;done)|(rw[aD.1 h])
   omega
def rS (e:Env)(w:bR)(l:kD):Int×au:=
 if(jL shop e w l).2.1≠0 then(jL shop e w l).2 else if(jf w (jL shop e w l).1).length=0 then(0,[])else(35,w.us[(jf w (jL shop e w l).1)[0]!.unit.toNat]!.name)
section
variable {shop:List bM}{e:Env}{l:kD}
def chk_a (h:¬(jL shop e w l).2.1=0):rS shop e w l=((jL shop e w l).2.1,(jL shop e w l).2.2):=by rw[rS,ak h]
def chk_b (h:(jL shop e w l).2.1=0)(h2:(jf w (jL shop e w l).1).length=0):rS shop e w l=(0,[]):=by rw[rS,ai gv,ak h2]
def chk_c (h:(jL shop e w l).2.1=0)(h2:¬(jf w (jL shop e w l).1).length=0):rS shop e w l=((35:Int),w.us[(jf w (jL shop e w l).1)[0]!.unit.toNat]!.name):=by rw[rS,ai gv,ai h2]
def acf (hw:w.sm)(h:(jL shop e w l).2.1=0):WrgP w (jL shop e w l).1/\en w (jL shop e w l).1=true/\(0<(jf w (jL shop e w l).1).length->0<=(jf w (jL shop e w l).1)[0]!.unit/\(jf w (jL shop e w l).1)[0]!.unit<(w.us.length:Int)):=by
 obtain⟨h1,h2⟩:=ace h;exact⟨⟨hw,by rw[h2.z];exact Int.le_refl _⟩,adf h1 h2,λh3=>Vb (aq h3) h2.l⟩
end
def fY (us:List cJ)(c:List Int)(nm:au):Nat->List au
 |0=>[]
 |i+1=>if 0<i/\((us[i]!.name=nm/\¬us[i]!.feat=[])/\0<=c[i]!)then fY us c nm i++[us[i]!.feat]else fY us c nm i
def mg (c:List Int)(u:Nat):List au:=fY us c us[u]!.name us.length
def fo (us:List cJ)(c:List Int)(u:Nat)(x:eA):dr×Int:=
 if x.sh=-1 then(⟨us[u]!.name,x.v,[],0,mg us c u⟩,0)else if x.sh<0\/(shop.length:Int)<=x.sh then(default,12)
 else if jR shop[x.sh.toNat]! us[u]!.name x.v<0 then(default,9)
 else(⟨us[u]!.name,x.v,shop[x.sh.toNat]!.name,shop[x.sh.toNat]!.es[(jR shop[x.sh.toNat]! us[u]!.name x.v).toNat]!.sum,mg us c u⟩,0)
def fO (c:List Int)(u:Nat):eA:=us[u]!.cands[c[u]!.toNat]!
def gP (c:List Int)(u:Nat):Bool:=(decide (u=0) ||decide (c[u]! <0)) ||!decide (us[u]!.feat=[])
def dX (shop:List bM)(us:List cJ)(c:List Int):Nat->List dr×Int
 |0=>([],0)
 |i+1=>if(dX shop us c i).2≠0 then dX shop us c i else if gP us c i=true then dX shop us c i
  else if(fo shop us c i (fO us c i)).2≠0 then([],(fo shop us c i (fO us c i)).2)else((dX shop us c i).1++[(fo shop us c i (fO us c i)).1],0)
def Hk:kD:=⟨⟨[],[],[]⟩,[]⟩
def iW (w:bR)(c:List Int):List dr×Int:=dX shop w.us c w.us.length
def jO (e:Env)(w:bR)(c:List Int):kD×Int:=
 if((eE w=false\/eS shop=false)\/n6 e=false)\/en w c=false then(Hk,1)else if ¬(jf w c).length=0 then(Hk,37)
 else if ¬(iW shop w c).2=0 then(Hk,(iW shop w c).2)else(⟨e,(iW shop w c).1⟩,0)
section
variable {shop:List bM}{us:List cJ}{i:Nat}
def FD (h:¬(dX shop us c i).2=0):∀{n:Nat},i<=n->dX shop us c n=dX shop us c i
 |0,hn=>by obtain rfl:i=0:=ae
           rfl
 |n+1,hn=>by
  rcases dZ n i with h1|h1
  .obtain rfl:i=n+1:=ae;rfl
  .have ih:=FD h h1;rw[dX,ak (by rw[ih];exact h),ih]
def OL (h0:(dX shop us c i).2=0)(h:gP us c i=true):dX shop us c (i+1)=dX shop us c i:=by
 rw[dX,ai (λh=>h h0),ak h]
def TY (h0:(dX shop us c i).2=0)(h:gP us c i=false){z:dr×Int}(hz:fo shop us c i (fO us c i)=z)(h2:¬z.2=0):dX shop us c (i+1)=([],z.2):=by
 subst hz;rw[dX,ai (λh=>h h0),ai gv,ak h2]
def FC (h0:(dX shop us c i).2=0)(h:gP us c i=false){x:dr}(hz:fo shop us c i (fO us c i)=(x,0)):dX shop us c (i+1)=((dX shop us c i).1++[x],0):=by
 rw[dX,ai (λh=>h h0),ai gv,hz,ai (λh=>h rfl)]
def yZ:∀i,(dX shop us c i).1.length<=i
 |0=>aN _
 |i+1=>by
  have:=yZ i;rw[dX];split
  .omega
  .split
   .omega
   .split
    .simp
    .rw[cu,List.length_singleton];omega
def vJ (nm:au):∀i,(fY us c nm i).length<=i
 |0=>aN _
 |i+1=>by
  have:=vJ nm i;rw[fY];split
  .rw[cu,List.length_singleton];omega
  .omega
def WS (h:0<i/\((us[i]!.name=nm/\¬us[i]!.feat=[])/\0<=c[i]!)):fY us c nm (i+1)=fY us c nm i++[us[i]!.feat]:=by rw[fY,ak h]
def WR (h:¬(0<i/\((us[i]!.name=nm/\¬us[i]!.feat=[])/\0<=c[i]!))):fY us c nm (i+1)=fY us c nm i:=by rw[fY,ai h]
end
def EG (a b:List Bool):Prop:=a.length=b.length/\∀i:Nat,i<a.length->a[i]! =true->b[i]! =true
def EG.MY:EG a a:=⟨rfl,λ_ _ h=>h⟩
def EG.tr {a b c:List Bool}(h1:EG a b)(h2:EG b c):EG a c:=⟨h1.1.trans h2.1,λi hi h=>h2.2 i (by rw[<-h1.1];exact hi) (h1.2 i hi h)⟩
def EG.eq {a b:List Bool}(h1:EG a b)(h2:EG b a):a=b:=by
 apply List.ext_getElem h1.1;intro i hi hj;have e1:=h1.2 i hi;have e2:=h2.2 i hj;rw[getElem!_pos a i hi,getElem!_pos b i hj]at*
 cases ha:a[i]<;>cases hb:b[i]<;>simp_all
def Sq (j:Nat)(b:Bool):EG a (a.set j (a[j]! ||b)):=by
 refine⟨aB,λi hi h=>?_⟩;by_cases hj:j=i
 .subst hj;rw[List.getElem!_eq_getElem?_getD,List.getElem?_set_self hi];simp[h]
 .rw[List.getElem!_eq_getElem?_getD,List.getElem?_set_ne hj,<-List.getElem!_eq_getElem?_getD];exact h
section
def BG:∀(l:List Want) (is:List Bool),EG is (vW w c is l)
 |[],is=>.MY is
 |x::r,is=>(Sq is x.u.toNat (kV w c x)).tr (BG r _)
def Hu:∀(l:List nX) (is:List Bool),EG is (xB w c is l)
 |[],is=>.MY is
 |x::r,is=>(BG x is).tr (Hu r _)
def RG (i:Nat)(is:List Bool):EG is (Hw w c i is):=by
 unfold Hw;split
 .exact Hu _ _
 .exact .MY is
def tz:∀(n:Nat) (is:List Bool),EG is (jd w c n is)
 |0,is=>.MY is
 |n+1,is=>(tz n is).tr (RG n _)
def BE:∀(n:Nat) (is:List Bool),EG is (j8 w c n is)
 |0,is=>.MY is
 |n+1,is=>(BE n is).tr (tz _ _)
def wY (l:List Bool):Nat:=l.countP λb=>b
def Of:∀{a b:List Bool},EG a b->wY a<=wY b/\(wY a=wY b->a=b)
 |[],[],_=>⟨aN _,λ_=>rfl⟩
 |[],_::_,h=>by simp[EG]at h
 |_::_,[],h=>by simp[EG]at h
 |x::a,y::b,h=>by
  have h0:x=true->y=true:=λe=>by have:=h.2 0 aB;simpa using this (by simpa using e)
  have hr:EG a b:=⟨by simpa using h.1,λi hi e=>by have:=h.2 (i+1) j4;simpa using this (by simpa using e)⟩;obtain⟨h1,h2⟩:=Of hr;unfold wY at*
  rw[List.countP_cons,List.countP_cons];cases x<;>cases y<;>simp_all<;>omega
def Fix (w:bR)(c:List Int)(is:List Bool):Prop:=jd w c c.length is=is
def LW {is:List Bool}(hl:is.length=c.length):∀n,Fix w c (j8 w c n is)\/n+1<=wY (jd w c c.length (j8 w c n is))
 |0=>by
  obtain⟨h1,h2⟩:=Of (tz (w:=w) (c:=c) c.length is);by_cases h:wY is=wY (jd w c c.length is)
  .exact .inl (h2 h).symm
  .exact .inr (by show 0+1<=wY (jd w c c.length is);omega)
 |n+1=>by
  rcases LW hl n with h|h
  .left;show jd w c c.length (jd w c c.length (j8 w c n is))=jd w c c.length (j8 w c n is);rw[show jd w c c.length (j8 w c n is)=j8 w c n is from h];exact h
  .obtain⟨h1,h2⟩:=Of (tz (w:=w) (c:=c) c.length (j8 w c (n+1) is));by_cases h3:wY (j8 w c (n+1) is)=wY (jd w c c.length (j8 w c (n+1) is))
   .exact .inl (h2 h3).symm
   .right;have e:wY (j8 w c (n+1) is)=wY (jd w c c.length (j8 w c n is)):=rfl;omega
def ach (l:List Bool):wY l<=l.length:=List.countP_le_length
def OX {is:List Bool}(hl:is.length=c.length):Fix w c (j8 w c c.length is):=by
 rcases LW (w:=w) hl c.length with h|h
 .exact h
 .have h1:=(tz (w:=w) (c:=c) c.length (j8 w c c.length is)).1;have h2:=(BE (w:=w) (c:=c) c.length is).1;have:=ach (jd w c c.length (j8 w c c.length is));omega
def sr {a b d:List Bool}(h1:EG a b)(h2:EG b d)(h:a=d):b=a:=by subst h;exact h2.eq h1
def FI:∀{l:List Want}{is:List Bool},vW w c is l=is->∀x∈l,x.u.toNat<is.length->kV w c x=true->is[x.u.toNat]! =true
 |[],is,_,x,hx,_,_=>by cases hx
 |y::r,is,h,x,hx,hl,hm=>by
  have e1:is.set y.u.toNat (is[y.u.toNat]! ||kV w c y)=is:=sr (Sq is y.u.toNat (kV w c y)) (BG r _) h.symm;rcases bL.1 hx with rfl|hx
  .rw[hm,Bool.or_true]at e1;rw[<-e1,List.getElem!_eq_getElem?_getD,List.getElem?_set_self hl];rfl
  .refine FI (l:=r) ?_ x hx hl hm;have:vW w c (is.set y.u.toNat (is[y.u.toNat]! ||kV w c y)) r=is:=h;rw[e1]at this;exact this
def FH:∀{l:List nX}{is:List Bool},xB w c is l=is->∀r∈l,∀x∈r,x.u.toNat<is.length->kV w c x=true->is[x.u.toNat]! =true
 |[],is,_,r,hr,_,_,_,_=>by cases hr
 |q::l,is,h,r,hr,x,hx,hl,hm=>by
  have e1:vW w c is q=is:=sr (BG q is) (Hu l _) h.symm;rcases bL.1 hr with rfl|hr
  .exact FI e1 x hx hl hm
  .refine FH (l:=l) ?_ r hr x hx hl hm;have:xB w c (vW w c is q) l=is:=h;rw[e1]at this;exact this
def FG:∀{n:Nat}{is:List Bool},jd w c n is=is->∀i,i<n->Hw w c i is=is
 |0,is,_,i,hi=>absurd hi (Nat.not_lt_zero i)
 |n+1,is,h,i,hi=>by
  have e1:jd w c n is=is:=sr (tz n is) (RG n _) h.symm;rcases dZ i n with h1|h1
  .exact FG e1 i h1
  .obtain rfl:i=n:=ae;have:Hw w c i (jd w c i is)=is:=h;rw[e1]at this;exact this
end
def BT (h:en w c=true):jf w c=[]↔∀u,u<c.length->0<=c[u]! ->(∀k,k<(aX w c u).needs.length->DY w c (aX w c u).needs[k]! =true)/\∀k,k<(aX w c u).bars.length->kV w c (aX w c u).bars[k]! =false:=by
 unfold jf;rw[ai jc,gE,List.flatMap_eq_nil_iff];constructor
 .intro g u hu h0;have g1:=g u (List.mem_range.2 hu);rw[ai ae,A8,List.append_eq_nil_iff,fP,j6,List.flatMap_eq_nil_iff,List.flatMap_eq_nil_iff]at g1;refine⟨λk hk=>?_,λk hk=>?_⟩
  .have:=g1.1 k (List.mem_range.2 hk);split at this
   .assumption
   .cases this
  .have:=g1.2 k (List.mem_range.2 hk);split at this
   .cases this
   .rename_i hn;simpa using hn
 .intro g u hu;have hu:=List.mem_range.1 hu;split
  .rfl
  .rename_i h0;obtain⟨g1,g2⟩:=g u hu ae;rw[A8,List.append_eq_nil_iff,fP,j6,List.flatMap_eq_nil_iff,List.flatMap_eq_nil_iff];refine⟨λk hk=>?_,λk hk=>?_⟩
   .rw[ak (g1 k (List.mem_range.1 hk))]
   .rw[ai (by rw[g2 k (List.mem_range.1 hk)];simp)]
def qQ (h:en w c=true):(fw w c).length=c.length:=by
 unfold fw;rw[ai jc,<-(BE (w:=w) (c:=c) c.length (mS c)).1];simp[mS]
def Nl (h:en w c=true):(rL w c).length=c.length:=by
 unfold rL tidV;rw[aZ,List.length_range,qQ h]
def tH (h:en w c=true){i:Nat}(hi:i<c.length):(rL w c)[i]! =if(fw w c)[i]! =true then c[i]! else-1:=by
 have hl:=qQ h;unfold rL tidV;simp[hl,hi]
def Nn (h:en w c=true):en w (rL w c)=true:=by
 have hl:=Nl h;have h2:=h;unfold en at h2⊢;rw[aC]at h2⊢;refine⟨h2.1, ?_⟩;obtain⟨h3,h4⟩:=nw h2.2;unfold sn;rw[aC,aV,bD];refine⟨ae,λj _ hj=>?_⟩;have h5:=h4 j ae;unfold yU;rw[tH h ae,aC,aV,aV];split
 .exact h5
 .omega
def InW (w:bR):=∀u∈w.us,∀c∈u.cands,(∀r∈c.needs,∀x∈r,0<=x.u/\x.u<(w.us.length:Int))/\∀x∈c.bars,0<=x.u/\x.u<(w.us.length:Int)
def P8 (hI:InW w)(h:en w c=true)(hh:jf w c=[]):jf w (rL w c)=[]:=by
 have hm:=Nn h;have hl:=Nl h;have hc:=(BT h).1 hh;have hb:=h;unfold en at hb;rw[aC]at hb;obtain⟨hlen,hfit⟩:=nw hb.2;have hfix:Fix w c (fw w c):=by
  unfold fw;rw[ai jc];exact OX (by simp[mS])
 have hnl:=qQ h;rw[BT hm];intro u hu h0;rw[hl]at hu;rw[tH h hu]at h0;have hn:(fw w c)[u]! =true:=by
  cases hq:(fw w c)[u]! with
  |true=>rfl
  |false=>rw[hq,ai aB]at h0;exact absurd h0 aU
 rw[hn,ak rfl]at h0;have hcu:=hfit u hu;have e1:aX w (rL w c) u=aX w c u:=by unfold aX;rw[tH h hu,hn,ak rfl]
 rw[e1];have hmem:aX w c u∈w.us[u]!.cands:=aq ae;obtain⟨hI1,hI2⟩:=hI _ (aq ae) _ hmem;have hstep:=FG hfix u hu;unfold Hw at hstep;rw[hn,ak rfl]at hstep;obtain⟨g1,g2⟩:=hc u hu h0;refine⟨λk hk=>?_,λk hk=>?_⟩
 .have hr:=aq hk;obtain⟨x,hx,hmx⟩:=List.any_eq_true.1 (show(aX w c u).needs[k]!.any (kV w c)=true from g1 k hk);have hx2:=hI1 _ hr x hx;have hnx:=FH hstep _ hr x hx ae hmx;refine List.any_eq_true.2 ⟨x,hx, ?_⟩;unfold kV at hmx⊢;rw[tH h (show x.u.toNat<c.length by omega),hnx,ak rfl];exact hmx
 .have hx2:=hI2 _ (aq hk);cases hq:kV w (rL w c) (aX w c u).bars[k]! with
  |false=>rfl
  |true=>
   have g3:=g2 k hk;unfold kV at hq g3;rw[tH h (show(aX w c u).bars[k]!.u.toNat<c.length by omega)]at hq;split at hq
   .rw[hq]at g3;cases g3
   .simp at hq
def abQ {ns:List au}{i:Nat}(h:i<ns.length)(e:ns[i]! =nm):eV ns nm=ns:=by
 unfold eV;rw[ak (by rw[<-e];exact aq h)]
def VW {ns:List au}(h:∀j,j<ns.length->ns[j]! ≠nm):eV ns nm=ns++[nm]:=by
 unfold eV;rw[ai];intro hm;obtain⟨j,hj,e⟩:=List.getElem_of_mem hm;exact h j hj (by simpa[hj]using e)
section
variable {m:List (Nat×bn)}{lf k:Nat}{a b c d X:List Sh}{r:List (List Sh)}{ds:List D}
def G2 {l:Nat}{es:List D}(h:look m l=some (.buf 1 es))(hn:es.length=n):((aI m l).drop 0).take n=es:=by
 simp only[aI,h,cR];rw[<-hn,List.take_length]
def aiG (ns:List au)(h:BX y lf j k ns m):xC m (.pt [.sl 1 [.a],.sl 1 [.sl 10 X]]) (.ptr lf 2 0 0)=fdR y ns:=by
 obtain⟨h1,h2,h3⟩:=h;have e1:aI m lf=[eO j k ns.length]:=by simp only[aI,h1]
 have e2:=G2 h2 (aZ ..);have e3:=G2 h3 (zo y ns);show D.ref 2 ((aI m lf).map _) 0 0=_;rw[e1];show D.ref 2 [D.agg [xC m (.sl 1 [.a]) (.own j 1 0 ns.length),xC m (.sl 1 [.sl 10 X]) (.own k 1 0 ns.length)]] 0 0=_;rw[show xC m (.sl 1 [.a]) (.own j 1 0 ns.length)=.sl 1 (ns.map D.str)from by simp only[xC];rw[e2,List.map_map];exact aw (D.sl 1) (List.map_congr_left λ_ _=>rfl),
  show xC m (.sl 1 [.sl 10 X]) (.own k 1 0 ns.length)=.sl 1 (dp y ns)from by simp only[xC];rw[e3,dp,List.map_map];exact aw (D.sl 1) (List.map_congr_left λ_ _=>rfl)]
 rfl
def aeE (ns:List au)(h:BX y lf j k ns m):jj m ([.sl 11 a,.sl 2 b,.a,.a,.a,.sl 6 c,.sl 2 d,.pt [.sl 1 [.a],.sl 1 [.sl 10 X]]]::r) (cF.D y (.ptr lf 2 0 0)::ds)=cF.D y (fdR y ns)::jj m r ds:=by
 rw[jj];congr 1;show D.agg [_,_,_,_,_,_,_,xC m (.pt [.sl 1 [.a],.sl 1 [.sl 10 X]]) (.ptr lf 2 0 0)]=_;rw[aiG y ns h];rfl
def acR (ns:List au)(h:BX y lf j k ns m):Vi m (.pt [.sl 1 [.a],.sl 1 [.sl 10 X]]) (.ptr lf 2 0 0):=by
 obtain⟨h1,h2,h3⟩:=h;have e1:aI m lf=[eO j k ns.length]:=by simp only[aI,h1]
 have e2:=G2 h2 (aZ ..);have e3:=G2 h3 (zo y ns);refine⟨by simp only[ed,h1];exact⟨trivial,Nat.zero_le _⟩, ?_⟩;rw[e1];intro e he;obtain rfl:=aD.1 he;show Vi m (.sl 1 [.a]) (.own j 1 0 ns.length)/\Vi m (.sl 1 [.sl 10 X]) (.own k 1 0 ns.length)/\aM []=true;refine⟨⟨by simp only[ed,h2];exact⟨trivial,aB⟩, ?_⟩,⟨by simp only[ed,h3];exact⟨trivial,by rw[zo];omega⟩, ?_⟩,rfl⟩
 .rw[e2];intro e he;obtain⟨_,_,rfl⟩:=cg.1 he;exact rfl
 .rw[e3];intro e he;obtain⟨_,_,rfl⟩:=cg.1 he;exact rfl
def aav (ns:List au)(h:BX y lf j k ns m)(hr:iZ m r ds):iZ m ([.sl 11 a,.sl 2 b,.a,.a,.a,.sl 6 c,.sl 2 d,.pt [.sl 1 [.a],.sl 1 [.sl 10 X]]]::r) (cF.D y (.ptr lf 2 0 0)::ds):=by
 rw[iZ];refine⟨?_,hr⟩;show _/\_/\_/\_/\_/\_/\_/\Vi m (.pt [.sl 1 [.a],.sl 1 [.sl 10 X]]) (.ptr lf 2 0 0)/\_;exact⟨rfl,rfl,rfl,rfl,rfl,rfl,rfl,acR y ns h,rfl⟩
end
def ofT_y {l:List uF}{i:Nat}(h:i<l.length)(hc:ft=[]\/isF l[i]!.r.feats ft=true):(l.take i).filter (Yd ft)++[l[i]!]=(l.take (i+1)).filter (Yd ft):=by
 rw[Fv h,ak];unfold Yd;rcases hc with h|h
 .rw[bA h];rfl
 .rw[h,Bool.or_true]
def ofT_n {l:List uF}{i:Nat}(h:i<l.length)(hc:¬ft=[]/\isF l[i]!.r.feats ft=false):(l.take i).filter (Yd ft)=(l.take (i+1)).filter (Yd ft):=by
 rw[Fv h,ai,gF];unfold Yd;rw[bN hc.1,hc.2];simp
def SN {y:cF}(h:pG y):y.l.length<=1000:=by
 obtain⟨⟨⟨m,hm,_⟩,_⟩,_⟩:=h;rw[hm];simp
def Sm {y:cF}(h:k=fL):de y k=eJ y.l:=by unfold de;rw[ak h]
def Sl {y:cF}(h:¬k=fL):de y k=(eN y k).flatMap λx=>cQ x.r y.e k.f:=by unfold de;rw[ai h]
def XA {ns:List au}(h:k=fL):jy ns k=ns:=by unfold jy;rw[ak h]
def OC {ns:List au}(h:¬k=fL):jy ns k=eV ns k.n:=by unfold jy;rw[ai h]
def afv {y:cF}(hy:qy y){i:Nat}(h:i<(eN y k).length):B0 (eN y k)[i]!.r/\(eN y k)[i]!.r.v∈bJ:=by
 have hx:=aq h;exact⟨((xI hy.p k).2 _ hx).1,CT hy.p hy.v hy.m k.n _ (List.mem_filter.1 hx).1⟩
def BU (l k:Nat)(es:List Abs.D)(y:cF)(a b c d:Nat):iz l k es (cF.D y (.ptr a b c d))=cF.D y (iz l k es (.ptr a b c d)):=rfl
def nB (l k:Nat)(es:List Abs.D)(ns:List au):lu l k es (ns.map D.str)=ns.map D.str:=jM l k es _ (Io ns)
def nA (l k:Nat)(es:List Abs.D)(y:cF)(ns:List au):lu l k es (dp y ns)=dp y ns:=jM l k es _ (jk y ns)
def qW:D:=match mU y with
 |none=>.tup [.sl 2 [],.bool false]
 |some all=>.tup [.sl 2 (all.map Key.D),.bool true]
def Bf (b:List Key)(o c:Nat)(l:List Key):Prop:=c=l.length/\b.drop o=l/\o+c=b.length
structure RcS where
 n:Nat
 s:pd
 b:List Key
 o:Nat
 c:Nat
 nn:List au
structure RcT where
 i:Nat
 t:pd
 b:List Key
 o:Nat
 c:Nat
structure RcU where
 j:Nat
 u:pd
 b:List Key
 o:Nat
 c:Nat
def Te (ns:List au)(p:RcS):Prop:=(p.n<=48/\Tf y p.s/\p.n+p.s.todo.length=p.s.all.length)/\(p.nn.length<=ns.length+p.n/\mU y=Be y (49-p.n) p.s/\sJ y 49 nG ns=sJ y (49-p.n) p.s p.nn)/\Bf p.b p.o p.c p.s.todo
def Tg (s:pd)(p:RcT):Prop:=p.i<=(de y s.todo[0]!).length/\p.t=Ph ⟨s.all,s.todo.drop 1⟩ ((de y s.todo[0]!).take p.i)/\Bf p.b p.o p.c p.t.todo/\p.t.all.length+p.t.todo.length<=96+6*p.i
def NY (row:fV)(t:pd)(i:Nat)(p:RcU):Prop:=p.j<=row.length/\p.u=(row.take p.j).foldl mC t/\Bf p.b p.o p.c p.u.todo/\p.u.all.length+p.u.todo.length<=96+6*i+2*p.j
def akG (ns:List au):Te y ns ⟨0,nG,[fL],0,1,ns⟩:=⟨⟨aB,Zj y,rfl⟩,⟨aN _,rfl,rfl⟩,rfl,rfl,rfl⟩
def ahi {l:List Key}{o:Nat}(h:b.drop o=l)(h0:0<l.length):b[o+0]! =l[0]! :=by
 subst h;rw[ix]at h0;simp
def ahh {l:List Key}{o c:Nat}(h1:c=l.length)(h2:b.drop o=l)(k:Key):((b.map Key.D).drop o).take c++[Key.D k]=(l++[k]).map Key.D:=by
 rw[<-List.map_drop,h2,h1,Gn,List.map_append];rfl
def ahj (l:List Key){c:Nat}(h:c=l.length)(k:Key):Bf (l++[k]) 0 (c+1) (l++[k]):=⟨gv,rfl,gv⟩
def ak5 {s:pd}{o c:Nat}(h1:c=s.todo.length)(h2:b.drop o=s.todo)(h3:o+c=b.length)(h0:0<s.todo.length)(h48:s.all.length<=48)(hle:s.todo.length<=s.all.length):Tg y s ⟨0,⟨s.all,s.todo.drop 1⟩,b,o+1,c-1⟩:=by
 refine⟨Nat.zero_le _,rfl,⟨?_, ?_, ?_⟩, ?_⟩
 .simp only[ix];omega
 .simp only;rw[<-h2,List.drop_drop]
 .simp only;omega
 .simp only[ix];omega
def ala (row:fV){i:Nat}{o c:Nat}(h1:c=t.todo.length)(h2:b.drop o=t.todo)(h3:o+c=b.length)(h:t.all.length+t.todo.length<=96+6*i):NY row t i ⟨0,t,b,o,c⟩:=⟨Nat.zero_le _,rfl,⟨h1,h2,h3⟩,rr⟩
def U0 [Inhabited α]{l:List α}{i:Nat}(h:i<l.length):l.take (i+1)=l.take i++[l[i]!]:=by
 rw[List.take_add_one,List.getElem?_eq_getElem h];simp[h]
def Rf (h:j<row.length):(row.take (j+1)).foldl mC t=mC ((row.take j).foldl mC t) row[j]! :=by
 have e:row.take (j+1)=row.take j++[row[j]!]:=by
  rw[List.take_add_one,List.getElem?_eq_getElem h];simp[h]
 rw[e,List.foldl_append];rfl
def ad0 (l:List Key)(k:Key):(sH l k).length<=l.length+1:=by
 rcases Di l k with⟨h,_⟩|⟨h,_⟩
 .rw[h];omega
 .omega
def alc {u:pd}{i:Nat}{o c:Nat}(h:NY row t i ⟨j,u,b,o,c⟩)(hj:j<row.length)(hc:u.all.length<(sH u.all row[j]!.k).length):NY row t i ⟨j+1,⟨sH u.all row[j]!.k,u.todo++[row[j]!.k]⟩,u.todo++[row[j]!.k],0,c+1⟩:=by
 obtain⟨h1,h2,⟨h3,_⟩,h4⟩:=h;simp only at h1 h2 h3 h4;have:=ad0 u.all row[j]!.k;refine⟨hj, ?_,ahj _ h3 _, ?_⟩
 .simp only;rw[Rf hj,<-h2,mC,ak hc]
 .simp only[cu,List.length_singleton];omega
def alb {u:pd}{i:Nat}{o c:Nat}(h:NY row t i ⟨j,u,b,o,c⟩)(hj:j<row.length)(hc:¬u.all.length<(sH u.all row[j]!.k).length):NY row t i ⟨j+1,u,b,o,c⟩:=by
 obtain⟨h1,h2,h3,h4⟩:=h;simp only at h1 h2 h3 h4;refine⟨hj, ?_,h3,rr⟩;simp only;rw[Rf hj,<-h2,mC,ai hc]
def ak6 {y:cF}{s u:pd}{i:Nat}{b1 b2:List Key}{o1 c1 o2 c2:Nat}(h:Tg y s ⟨i,t,b1,o1,c1⟩)(hU:NY (de y s.todo[0]!)[i]! t i ⟨j,u,b2,o2,c2⟩)(hi:i<(de y s.todo[0]!).length)(hj:(de y s.todo[0]!)[i]!.length<=j)(hr:(de y s.todo[0]!)[i]!.length<=3):Tg y s ⟨i+1,u,b2,o2,c2⟩:=by
 obtain⟨h1,h2,_,h4⟩:=h;obtain⟨g1,g2,g3,g4⟩:=hU;simp only at h1 h2 h4 g1 g2 g3 g4;refine⟨hi, ?_,g3,rr⟩;have e:=U0 hi;simp only;rw[e,Ph,List.foldl_append,g2,fj hj,h2];rfl
def akH {y:cF}{ns nn:List au}{i:Nat}{s:pd}{b1:List Key}{o c o1 c1:Nat}(h:Te y ns ⟨n,s,b,o,c,nn⟩)(hT:Tg y s ⟨i,t,b1,o1,c1⟩)(h0:0<s.todo.length)(hi:(de y s.todo[0]!).length<=i)(h48:¬48<t.all.length):Te y ns ⟨n+1,t,b1,o1,c1,jy nn s.todo[0]!⟩:=by
 obtain⟨⟨p1,p2,p3⟩,⟨q1,q2,q3⟩,_⟩:=h;obtain⟨_,t2,t3,_⟩:=hT;simp only at p1 p2 p3 q1 q2 q3 t2 t3;rw[fj hi]at t2;have t2:t=Bg y s:=t2;have hl:=(Sc y h0).1.len;rw[<-t2]at hl;simp only[ix]at hl;have h6:=p2.len.2;have e:49-n=(49-(n+1))+1:=ae;have hk:=CO nn s.todo[0]!;refine⟨⟨rr,t2▸Zn p2 h0 (by rw[<-t2];omega),rr⟩,⟨rr, ?_, ?_⟩,t3⟩
 .simp only;rw[q2,e,Be,ai ae,ai (by rw[<-t2];exact h48),t2]
 .simp only;rw[q3,e,sJ,ai ae,ai (by rw[<-t2];exact h48),t2]
def Dr {y:cF}{ns nn:List au}{i:Nat}{s:pd}{b1:List Key}{o c o1 c1:Nat}(h:Te y ns ⟨n,s,b,o,c,nn⟩)(hT:Tg y s ⟨i,t,b1,o1,c1⟩)(h0:0<s.todo.length)(hi:(de y s.todo[0]!).length<=i)(h48:48<t.all.length):qW y=.tup [.sl 2 [],.bool false]/\sJ y 49 nG ns=jy nn s.todo[0]! :=by
 obtain⟨⟨p1,p2,p3⟩,⟨q1,q2,q3⟩,_⟩:=h;obtain⟨_,t2,_⟩:=hT;simp only at p1 p2 p3 q1 q2 q3 t2;rw[fj hi]at t2;have t2:t=Bg y s:=t2;have e:49-n=(49-(n+1))+1:=ae;constructor
 .unfold qW;rw[q2,e,Be,ai ae,ak (by rw[<-t2];exact h48)]
 .rw[q3,e,sJ,ai ae,ak (by rw[<-t2];exact h48)]
def zn {y:cF}{ns nn:List au}{s:pd}{o c:Nat}(h:Te y ns ⟨n,s,b,o,c,nn⟩)(h0:s.todo.length=0):qW y=.tup [.sl 2 (s.all.map Key.D),.bool true]/\sJ y 49 nG ns=nn:=by
 obtain⟨⟨p1,p2,p3⟩,⟨q1,q2,q3⟩,_⟩:=h;simp only at p1 q2 q3;have e:49-n=(49-(n+1))+1:=ae;constructor
 .unfold qW;rw[q2,e,Be,ak h0]
 .rw[q3,e,sJ,ak h0]
def Bj (w:bR)(c:List Int)(i:Nat):List Int:=(List.range i).map λi=>if(fw w c)[i]! =true then c[i]! else-1
def Z2 (w:bR)(c:List Int)(i:Nat):(Bj w c i).length<=i:=by unfold Bj;rw[aZ,List.length_range];omega
def ak3 {i:Nat}(h:(fw w c)[i]! =true):Bj w c i++[c[i]!]=Bj w c (i+1):=by
 unfold Bj;rw[List.range_succ,List.map_append,List.map_singleton,ak h]
def ak2 {i:Nat}(h:(fw w c)[i]! =false):Bj w c i++[-1]=Bj w c (i+1):=by
 unfold Bj;rw[List.range_succ,List.map_append,List.map_singleton,ai jc]
def LX (w:bR)(c:List Int):(fw w c).length<=c.length:=by
 cases h:en w c with
 |true=>exact Nat.le_of_eq (qQ h)
 |false=>unfold fw;rw[ak h];exact Nat.zero_le _
section
variable {y:cF}{all:List Key}{x:uF}{i:Nat}
def K1 (h:k=fL):ey y all k=([⟨zV,-1,dH all (eJ y.l),[]⟩],true):=ak h
def acd (h:k.f=[]):(⟨x.r.v,x.sh,dH all (cQ x.r y.e k.f),wR all x.r y.e⟩:eA)=dV y all k x:=by unfold dV;rw[ak h]
def acb (h:¬k.f=[]):(⟨x.r.v,x.sh,dH all (cQ x.r y.e k.f),[]⟩:eA)=dV y all k x:=by unfold dV;rw[ai h]
def K0 (h:¬k=fL)(hi:i<(eN y k).length)(hw:24<(dV y all k (eN y k)[i]!).needs.length\/24<(dV y all k (eN y k)[i]!).bars.length):ey y all k=([],false):=by
 unfold ey;rw[ai h,ak];rw[List.any_map,List.any_eq_true];refine⟨_,aq hi, ?_⟩;show oF _=true;unfold oF;rcases hw with h|h<;>rw[bA h]<;>simp
def QX (hi:i<(eN y k).length)(h:(((eN y k).take i).map (dV y all k)).any oF=false)(hn:¬24<(dV y all k (eN y k)[i]!).needs.length/\¬24<(dV y all k (eN y k)[i]!).bars.length):(((eN y k).take (i+1)).map (dV y all k)).any oF=false:=by
 rw[map_take hi,List.any_append,h,List.any_cons,List.any_nil];unfold oF;rw[bN hn.1,bN hn.2];rfl
def KZ (h:¬k=fL)(hw:((eN y k).map (dV y all k)).any oF=false):ey y all k=((eN y k).map (dV y all k),decide ((dL y k.n).length<=16)):=by
 unfold ey;rw[ai h,ai (by rw[hw];simp)]
def Th (nm:au):eV (eV ns nm) nm=eV ns nm:=by
 have:nm∈eV ns nm:=by
  unfold eV;split
  .assumption
  .simp
 rw[eV,ak this]
end
def r9 (all:List Key)(k:Key):D:=.tup [.sl 8 ((ey y all k).1.map eA.D),.bool (ey y all k).2]
def Oe (l k:Nat)(es:List Abs.D)(c:eA):iz l k es (eA.D c)=eA.D c:=rfl
def iQ:List Key:=(mU y).getD []
def okY:Bool:=(mU y).isSome
def FZ:qW y=.tup [.sl 2 ((iQ y).map Key.D),.bool (okY y)]:=by
 unfold qW iQ okY;cases mU y<;>rfl
def VY:(iQ y).length<=48:=by
 unfold iQ;cases h:mU y with
 |none=>simp
 |some all=>exact(sK h).2.1
section
variable {y:cF}{i:Nat}
def Yf (y:cF)(i:Nat):Bool:=okY y&&(nM y (iQ y) i).2
def yr (y:cF)(i:Nat):List cJ:=(nM y (iQ y) i).1
def Ya (y:cF)(i:Nat):List au:=aam (iQ y) (sJ y 49 nG []) i
def Nv:∀i,(yr y i).length<=i
 |0=>aN _
 |i+1=>by
  have:=Nv i;unfold yr at this⊢;rw[nM];split
  .rw[cu,List.length_singleton];omega
  .omega
def adE (y:cF)(i:Nat):(Ya y i).length<=49+i:=by
 have h1:=ND (iQ y) (sJ y 49 nG []) i;have h2:=Mo y 49 nG [];unfold Ya;simp only[b8]at h2;omega
def ald (h:Yf y i=true):yr y i++[rN y (iQ y) (iQ y)[i]!]=yr y (i+1):=by
 unfold Yf at h;rw[aC]at h;unfold yr;rw[nM,ak h.2]
def okS_s (h:Yf y i=true):(ey y (iQ y) (iQ y)[i]!).2=Yf y (i+1):=by
 unfold Yf at h⊢;rw[aC]at h;rw[nM,ak h.2,h.1];rfl
def nsS_s:jy (Ya y i) (iQ y)[i]! =Ya y (i+1):=rfl
def Gw {all:List Key}(h:(nM y all i).2=false):∀n,nM y all (i+n)=nM y all i
 |0=>rfl
 |n+1=>by
  have ih:=Gw h n;rw[show i+(n+1)=(i+n)+1 from rfl,nM,ai (by rw[ih,h];simp),ih]
def U9 (hi:i<=(iQ y).length)(hc:¬((i:Nat):Int)<((iQ y).length:Nat)\/Yf y i=false):ez y=(⟨yr y i⟩,Yf y i):=by
 unfold ez yr Yf okY iQ at*
 cases h:mU y with
 |none=>
  rw[h]at hi;have:i=0:=by simpa using hi
  subst this;rfl
 |some all=>
  rw[h]at hi hc;simp only[Option.getD_some,Option.isSome_some,eu]at hi hc⊢;rcases hc with hc|hc
  .obtain rfl:i=all.length:=ae;rfl
  .have:=Gw hc (all.length-i);rw[show i+(all.length-i)=all.length by omega]at this;rw[this]
end
def zB:D:=.tup [bR.D (ez y).1,.bool (ez y).2]
def WldQ:D->List (Nat×bn)->Prop:=λd _=>d=zB y
def WldC (Y:Ctx)(n:Nat)(y:cF)(V:D):=∀(nx lf:Nat) (m:List (Nat×bn)) (K:D->St->Prop),lf<nx->look m lf=some (.buf 2 [.agg [.aL,.aL]])->K V ⟨nx,cT m lf⟩->Y.tr n [cF.D y (.ptr lf 2 0 0)] ⟨nx,m⟩ K
def ale (l k:Nat)(es:List Abs.D)(u:cJ):iz l k es (cJ.D u)=cJ.D u:=rfl
section
variable {l:List hR}{shop:List bM}{e:Env}{ks:List Kp}
abbrev yv (l:List hR)(shop:List bM)(e:Env)(ks:List Kp):cF:=⟨l,shop,e,ks,gN l⟩
def ab2 (h:eS shop=false\/n6 e=false):gV l shop e ks=(⟨[]⟩,1):=ak h
def ab3 {i:Nat}(h:eS shop=true/\n6 e=true)(hi:i<(gN l).length)(hn:mE shop (gN l)[i]!.shelf<0):gV l shop e ks=(⟨[]⟩,12):=by
 unfold gV;rw[ai gv,ak];exact List.any_eq_true.2 ⟨_,aq hi,bA hn⟩
def YB {i:Nat}(hi:¬i<(gN l).length)(h:∀j,j<i->0<=mE shop (gN l)[j]!.shelf):¬((gN l).any λp=>decide (mE shop p.shelf<0))=true:=by
 intro h1;obtain⟨p,hp,h2⟩:=List.any_eq_true.1 h1;obtain⟨j,hj,rfl⟩:=gu hp;have:=h j ae;simp at h2;rw[List.getElem!_eq_getElem?_getD]at this;omega
def ab4 (h:eS shop=true/\n6 e=true)(hp:¬((gN l).any λp=>decide (mE shop p.shelf<0))=true)(hw:(ez (yv l shop e ks)).2=false):gV l shop e ks=(⟨[]⟩,10):=by
 unfold gV;rw[ai gv,ai hp,ak hw]
def ab5 (h:eS shop=true/\n6 e=true)(hp:¬((gN l).any λp=>decide (mE shop p.shelf<0))=true)(hw:¬(ez (yv l shop e ks)).2=false):gV l shop e ks=((ez (yv l shop e ks)).1,0):=by
 unfold gV;rw[ai gv,ai hp,ai hw]
end
section
variable [cP]{P:Program}{ν:List (Nat×Nat)}{bU:List Nat}{t:List (Nat×mO)}{fid key u:Nat}{af:aj}{y:cF}{lf nx:Nat}{m:List (Nat×bn)}{K:D->St->Prop}
def aan (hmix:P.follows .mixedOrders=true)(hC:Vc P ν bU fid af)(hnp:1=af.np)(h1:lf<nx)(hat:look m lf=some (.buf 2 [.agg [.aL,.aL]]))(hK:K (zB y) ⟨nx,cT m lf⟩)(hw:dx ((under t key u).at 1) af.body (uG af (WldQ y)) (fU af [cF.D y (.ptr 0 2 0 0)]) ⟨1,[(0,.buf 2 [.agg [.aL,.aL]])]⟩):uS P ν bU (under t key u) fid [cF.D y (.ptr lf 2 0 0)] ⟨nx,m⟩ K:=by
 have g3:gU 0 1 [(lf,0)]=true:=by simp[gU]
 have g4:∀l i,(l,i)∈[(lf,0)]->look m l≠none:=by
  intro l i h;obtain⟨rfl,rfl⟩:=Prod.mk.inj (aD.1 h);rw[hat];simp
 have g5:∀i b,look [(0,bn.buf 2 [.agg [.aL,.aL]])] i=some b->∃l b',(l,i)∈[(lf,0)]/\look m l=some b'/\qv 0 [(lf,0)] b' b:=by
  intro i b h;simp only[look]at h;split at h
  .rename_i e;subst e;obtain rfl:=a7 h;exact⟨lf,_,.head _,hat,rfl,.inl ⟨rfl,rfl⟩⟩
  .cases h
 refine Lr (σi:=[(lf,0)]) (cs:=[cF.D y (.ptr 0 2 0 0)]) (λq=>Gq t key u q) hmix hC rfl ?_ hnp g3 g4 g5 hw ?_
 .intro i hi
  match i,hi with
  |0,_=>exact .inr (.inl (by simp[cF.D,rW,oB,Si,mN]))
 .rintro d m1 rfl;refine⟨[(0,lf)],1,⟨nx,cT m lf⟩,zB y,⟨g3,by simp[gU,h1],aN _,g4, ?_,g5, ?_⟩,.inl ⟨rfl,rfl⟩,hK⟩
  .intro i l h;obtain⟨rfl,rfl⟩:=Prod.mk.inj (aD.1 h);exact .inl (.head _)
  .intro l bb h;rw[fq]at h;split at h
   .cases h
   .rename_i hne;exact .inr ⟨by simp only[oc,ai (λe=>hne (Eq.symm e))],(λi hi=>by obtain⟨rfl,_⟩:=Prod.mk.inj (aD.1 hi);exact hne rfl),h⟩
end
def FL:∀{l:List D}{i:Nat},aM l=true->i<l.length->(l.getD i .any).aT=true
 |d::r,0,h,_=>by simp only[aM,aC]at h;exact h.1
 |d::r,i+1,h,hi=>by
  simp only[aM,aC]at h;exact FL (l:=r) h.2 j4
def B3 {y:cF}{rest:List D}(hr:aM rest=true):aeI (λf=>cF.D y f::rest):=by
 intro σ l l' h;refine⟨rfl,λi hi=>?_⟩;cases i with
 |zero=>exact .inr (.inl (by simp[cF.D,rW,oB,Si,h]))
 |succ i=>exact .inl ⟨rfl,FL (l:=rest) hr j4⟩
def Uo:(qW y).aT=true:=by rw[FZ];rfl
section
variable [cP]{P:Program}{ν:List (Nat×Nat)}{bU:List Nat}{t:List (Nat×mO)}{fid key u k:Nat}{af:aj}{nx:Nat}{m:List (Nat×bn)}{K:D->St->Prop}
def TJ {lm lc n':Nat}{es es' kvs:List D}{a b e vd:D}{Q:D->List (Nat×bn)->Prop}(hes:aM es=true)(hes':aM es'=true)(ha:rW 0 [(lc,0),(lm,1)] a=some a)(hb:rW 0 [(lc,0),(lm,1)] b=some b)(he:e.aT=true)(hv:vd.aT=true)(hmix:P.follows .mixedOrders=true)(hC:Vc P ν bU fid af)(hnp:2=af.np)(hn:n'=n)(hlt:lc<nx)(hltm:lm<nx)(h1:look m lc=some (.buf 1 es))(h2:look m lm=some (.mpb kvs))(hK:K vd ⟨nx,cX m lc (.buf 1 es')⟩)(hQ:∀d m,Q d m->d=vd/\look m 0=some (.buf 1 es')/\look m 1=some (.mpb kvs))(hw:dx ((under t key u).at 2) af.body (uG af Q) (fU af [.agg [a,b,.fn 5000000 [.it 1],.own 0 1 0 n],e]) ⟨2,[(0,.buf 1 es),(1,.mpb kvs)]⟩):uS P ν bU (under t key u) fid [.agg [a,b,.fn 5000000 [.it lm],.own lc 1 0 n'],e] ⟨nx,m⟩ K:=by
 subst hn;have hne:lc≠lm:=by rintro rfl;rw[h1]at h2;cases h2
 have b1:Nat.beq lc lm=false:=by rw[<-Bool.not_eq_true];exact λh=>hne (Nat.eq_of_beq_eq_true h)
 have b2:Nat.beq lm lc=false:=by rw[<-Bool.not_eq_true];exact λh=>hne (Nat.eq_of_beq_eq_true h).symm
 have g3:gU 0 2 [(lc,0),(lm,1)]=true:=by simp[gU,b1,b2,Nat.blt];exact rfl
 have g4:∀l i,(l,i)∈[(lc,0),(lm,1)]->look m l≠none:=by
  intro l i h;simp only[bL,dk,cY,or_false]at h;rcases h with⟨rfl,_⟩|⟨rfl,_⟩<;>simp[h1,h2]
 have g5:∀i b,look [(0,bn.buf 1 es),(1,.mpb kvs)] i=some b->∃l b',(l,i)∈[(lc,0),(lm,1)]/\look m l=some b'/\qv 0 [(lc,0),(lm,1)] b' b:=by
  intro i b h;simp only[look]at h;split at h
  .rename_i e;subst e;obtain rfl:=a7 h;exact⟨lc,_,.head _,h1,rfl,.inl ⟨rfl,hes⟩⟩
  .split at h
   .rename_i e;subst e;obtain rfl:=a7 h;exact⟨lm,_,.tail _ (.head _),h2,rfl⟩
   .cases h
 refine Lr (σi:=[(lc,0),(lm,1)]) (cs:=[.agg [a,b,.fn 5000000 [.it 1],.own 0 1 0 n'],e]) (λq=>Gq t key u q) hmix hC rfl ?_ hnp g3 g4 g5 hw ?_
 .intro i hi
  match i,hi with
  |0,_=>exact .inr (.inl (by simp[rW,oB,Si,mN,ha,hb,b1,b2]))
  |1,_=>exact .inl ⟨rfl,he⟩
 .intro d m1 h;obtain⟨rfl,hj,hk⟩:=hQ d m1 h;refine⟨[(0,lc),(1,lm)],2,⟨nx,cX m lc (.buf 1 es')⟩,d,⟨g3,by simp[gU,hlt,hltm,b1,b2,Nat.blt];exact⟨hlt,rfl,hltm⟩,aN _,g4, ?_,g5, ?_⟩,.inl ⟨rfl,hv⟩,hK⟩
  .intro i l h;simp only[bL,dk,cY,or_false]at h;rcases h with⟨rfl,rfl⟩|⟨rfl,rfl⟩
   .exact .inl (.head _)
   .exact .inl (.tail _ (.head _))
  .intro l bb h;rw[bS]at h;split at h
   .rename_i e;subst e;obtain rfl:=a7 h;exact .inl ⟨0,_,.head _,hj,rfl,.inl ⟨rfl,hes'⟩⟩
   .rename_i h3;by_cases h4:l=lm
    .subst h4;rw[h2]at h;obtain rfl:=a7 h;exact .inl ⟨1,_,.tail _ (.head _),hk,rfl⟩
    .exact .inr ⟨by simp only[oc,ai (λe=>h3 (Eq.symm e)),ai (λe=>h4 (Eq.symm e))],(λi hi=>by
      simp only[bL,dk,cY,or_false]at hi;rcases hi with⟨rfl,_⟩|⟨rfl,_⟩
      .exact h3 rfl
      .exact h4 rfl),h⟩
end
end Go.Abs
