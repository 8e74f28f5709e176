/- A part of the proofs. -/
import Derived.Test.YtdhangmdmdegpaaGreatDoorP05
set_option linter.all false
set_option maxRecDepth 60000
set_option maxHeartbeats 2000000
namespace Go.Abs
variable{c:Δ}{α:Type}{n k j:Nat}{nm:aw}{f:Nat->Int}(ks:Δ){vs:Nat->List b6}{ord:Ο}{σ:Ξ}{m2:Γ}{a b:Int}{t:Bool}(Z:Ctx)
structure Cut where
 e:Int
 v:b6
 a:Bool
 deriving Inhabited,DecidableEq
def Cut.D (c:Cut):D:=.agg [.int .i64 c.e,.int .i64 c.v.major,.int .i64 c.v.minor,.int .i64 c.v.patch,.str c.v.pre,.str c.v.build,.bool c.a]
structure Span where
 f:Cut
 t:Cut
 deriving Inhabited,DecidableEq
abbrev Lae:=List Span
def Span.D (s:Span):D:=.agg [.int .i64 s.f.e,.int .i64 s.f.v.major,.int .i64 s.f.v.minor,.int .i64 s.f.v.patch,.str s.f.v.pre,.str s.f.v.build,.bool s.f.a,
 .int .i64 s.t.e,.int .i64 s.t.v.major,.int .i64 s.t.v.minor,.int .i64 s.t.v.patch,.str s.t.v.pre,.str s.t.v.build,.bool s.t.a]
structure cy where
 rel:Lae
 pr:Lae
 deriving Inhabited,DecidableEq
def cy.D (s:cy):D:=.agg [.sl 14 (s.rel.map Span.D),.sl 14 (s.pr.map Span.D)]
structure Want where
 u:Int
 s:cy
 deriving Inhabited,DecidableEq
abbrev θ:=List Want
def Want.D (w:Want):D:=.agg [.int .i64 w.u,.sl 14 (w.s.rel.map Span.D),.sl 14 (w.s.pr.map Span.D)]
abbrev mT:=θ
abbrev Laf:=List mT
def jP (r:mT):D:=.sl 3 (r.map Want.D)
structure eI where
 v:b6
 sh:Int
 needs:Laf
 bars:θ
 deriving Inhabited,DecidableEq
abbrev Lak:=List eI
def eI.D (c:eI):D:=.agg [.int .i64 c.v.major,.int .i64 c.v.minor,.int .i64 c.v.patch,.str c.v.pre,.str c.v.build,.int .i64 c.sh,.sl 1 (c.needs.map jP),.sl 3 (c.bars.map Want.D)]
structure cN where
 name:aw
 feat:aw
 ar:Lak
 deriving Inhabited,DecidableEq
abbrev Η:=List cN
def cN.D (u:cN):D:=.agg [.str u.name,.str u.feat,.sl 8 (u.ar.map eI.D)]
structure bP where
 us:Η
 deriving Inhabited,DecidableEq
def bP.D (w:bP):D:=.agg [.sl 3 (w.us.map cN.D)]
structure ek where
 u:Int
 m:Int
 deriving Inhabited,DecidableEq
abbrev δ:=List (List (List ek))
abbrev ρ:=List ek
abbrev Laj:=List (List ek)
def ek.D (t:ek):D:=.agg [.int .i64 t.u,.int .i64 t.m]
structure jx where
 kind:Int
 unit:Int
 a:Int
 b:Int
 terms:ρ
 deriving Inhabited,DecidableEq
def jx.D (r:jx):D:=.agg [.int .i64 r.kind,.int .i64 r.unit,.int .i64 r.a,.int .i64 r.b,.sl 2 (r.terms.map ek.D)]
structure wY where
 w:bP
 allow:Δ
 rows:List jx
 deriving Inhabited,DecidableEq
def wY.D (c:wY):D:=.agg [.sl 3 (c.w.us.map cN.D),.sl 1 (c.allow.map (D.int .i64)),.sl 5 (c.rows.map jx.D)]
def eqBb (a b:Bool):ig (D.bool a).cells (D.bool b).cells=decide (a=b):=by cases a<;>cases b<;>rfl
def sE (f:Nat->Int):Nat->Nat->Int
 |_,0=>0
 |i,k+1=>if f i=0 then sE f (i+1) k else f i
def gh (f:Nat->Int)(i n:Nat):Int:=sE f i (n-i)
theorem qf {i:Nat}(h:i<n)(hf:f i=0):gh f i n=gh f (i+1) n:=by
 unfold gh;obtain⟨k,hk⟩:∃k,n-i=k+1:=⟨n-i-1,ae⟩
 grind [sE]
def lO {i:Nat}(h:i<n)(hf:f i≠0):gh f i n=f i:=by
 unfold gh;obtain⟨k,hk⟩:∃k,n-i=k+1:=⟨n-i-1,ae⟩
 rw[hk];simp only[sE,hf,ba]
def qe {i:Nat}(h:n<=i):gh f i n=0:=by
 unfold gh;rw[show n-i=0 by omega];rfl
def du (a b:Int):Int:=if a<b then-1 else if b<a then 1 else 0
def qc (a b:aw):Int:=if Op.bytesLess a b=true then-1 else if a=b then 0 else 1
def yN (a b:aw):Int:=if cT a=true/\cT b=true then du (DN a) (DN b)else if cT a=true then-1 else if cT b=true then 1 else qc a b
def Ox (l m:Ψ):Nat->Nat->Int
 |_,0=>du l.length m.length
 |i,k+1=>if yN l[i]! m[i]! ≠0 then yN l[i]! m[i]! else Ox l m (i+1) k
def vQ (l m:Ψ)(i:Nat):Int:=Ox l m i (min l.length m.length-i)
def Hf {l m:Ψ}{i:Nat}(h:i<l.length/\i<m.length)(hn:yN l[i]! m[i]! ≠0):vQ l m i=yN l[i]! m[i]! :=by
 unfold vQ;rw[show min l.length m.length-i=(min l.length m.length-(i+1))+1 by omega,Ox,ak hn]
def Ov {l m:Ψ}{i:Nat}(h:i<l.length/\i<m.length)(hn:yN l[i]! m[i]! =0):vQ l m i=vQ l m (i+1):=by
 unfold vQ;rw[show min l.length m.length-i=(min l.length m.length-(i+1))+1 by omega,Ox,ah (by rw[hn];simp)]
def He {l m:Ψ}{i:Nat}(h:l.length<=i\/m.length<=i):vQ l m i=du l.length m.length:=by
 unfold vQ;rw[show min l.length m.length-i=0 by omega,Ox]
def BJ (a b:aw):Int:=if a=b then 0 else if a=[]then 1 else if b=[]then-1 else vQ (bh a 46) (bh b 46) 0
def iO (a b:b6):Int:=if gN a=false\/gN b=false then 0 else
 if du a.major b.major≠0 then du a.major b.major else if du a.minor b.minor≠0 then du a.minor b.minor else
 if du a.patch b.patch≠0 then du a.patch b.patch else BJ a.pre b.pre
def sw (v:b6):b6:=⟨v.major,v.minor,v.patch,v.pre,[]⟩
theorem UG (a:Int):du a a=0:=by simp[du]
theorem y8:du a b=0↔a=b:=by
 grind [du]
theorem Gg {a b:b6}(h:sw a=sw b):iO a b=0:=by
 grind [sw,iO,BJ,UG]
theorem Yh (x y z:Int):gh (λi=>[x,y,z][i]!) 0 [x,y,z].length=if x≠0 then x else if y≠0 then y else z:=by
 grind [gh,sE]
theorem Yj {x y z:Int}(h:gh (λi=>[x,y,z][i]!) 0 [x,y,z].length=0):x=0/\y=0/\z=0:=by
 grind [Yh]
theorem Yi {a b:b6}(hv:¬(gN a=false\/gN b=false))(h:¬gh (λi=>[du a.major b.major,du a.minor b.minor,du a.patch b.patch][i]!) 0 [du a.major b.major,du a.minor b.minor,du a.patch b.patch].length=0):
  gh (λi=>[du a.major b.major,du a.minor b.minor,du a.patch b.patch][i]!) 0 [du a.major b.major,du a.minor b.minor,du a.patch b.patch].length=iO a b:=by
 grind [Yh,iO]
theorem XI {a b:b6}(hv:¬(gN a=false\/gN b=false))(h1:du a.major b.major=0)(h2:du a.minor b.minor=0)(h3:du a.patch b.patch=0):iO a b=BJ a.pre b.pre:=by
 grind [iO]
def adG {a b:b6}(h1:du a.major b.major=0)(h2:du a.minor b.minor=0)(h3:du a.patch b.patch=0)(h4:a.pre=b.pre):sw a=sw b:=by
 unfold sw;rw[y8.1 h1,y8.1 h2,y8.1 h3,h4]
def UH (a:b6):iO a a=0:=Gg rfl
def Iw (a b:b6):Bool:=gN a&&gN b&&decide (iO a b=0)
def zE {v:b6}(h:gN v=true):Iw v v=true:=by simp[Iw,h,UH]
def Cut.sm (c:Cut):Prop:=c.v.sm
def Span.sm (s:Span):Prop:=s.f.sm/\s.t.sm
def Al (l:Lae):=∀s∈l,s.sm
def cy.sm (s:cy):Prop:=Al s.rel/\Al s.pr
def Want.sm (w:Want):Prop:=w.s.sm
def eI.sm (c:eI):Prop:=c.v.sm/\(∀r∈c.needs,∀w∈r,w.sm)/\∀w∈c.bars,w.sm
def cN.sm (u:cN):Prop:=u.ar.length<=16/\∀c∈u.ar,c.sm
variable(us:Η)
def bP.sm (w:bP):=∀u∈w.us,u.sm
def zV:b6:=⟨0,0,0,[],[]⟩
def qd (c:Cut):Bool:=if c.e=0 then gN c.v&&decide (c.v.build=[])else(decide (c.e=-1) ||decide (c.e=1))&&decide (c.v=zV)&& !c.a
def lA (a b:Cut):Int:=if qd a=false\/qd b=false then 0 else if a.e≠0\/b.e≠0 then du a.e b.e else
 if iO a.v b.v≠0 then iO a.v b.v else if a.a=b.a then 0 else if b.a=true then-1 else 1
def qz (s:Span):Bool:=qd s.f&&qd s.t&&decide (lA s.f s.t<0)
def kf (c:Cut)(v:b6):Bool:=if qd c=false\/gN v=false then false else if c.e≠0 then decide (c.e<0)else decide (iO c.v v<0) ||(decide (iO c.v v=0)&& !c.a)
def sK (s:Span)(v:b6):Bool:=qz s&&gN v&&kf s.f v&& !kf s.t v
def BR (l:Lae)(i:Nat):Bool:=qz l[i]! && !(decide (0<i)&&decide (0<=lA l[i-1]!.t l[i]!.f))
def te (l:Lae):Bool:=bK (BR l) 0 l.length
def pd (f:Nat->Bool)(i n:Nat):Bool:=!bK (λi=>!f i) i n
def j9 {f:Nat->Bool}{i:Nat}(h:i<n):pd f i n=(f i ||pd f (i+1) n):=by
 unfold pd;rw[ax h];simp
def tC {f:Nat->Bool}{i:Nat}(h:n<=i):pd f i n=false:=by
 unfold pd;rw[bp h];rfl
def xe {f:Nat->Bool}{i:Nat}:pd f i n=true↔∃j,i<=j/\j<n/\f j=true:=by
 unfold pd;rw[b8,<-Bool.not_eq_true,bw];simp
def wJ (l:Lae)(v:b6):Bool:=te l&&pd (λi=>sK l[i]! v) 0 l.length
def wq (v:b6):Bool:=decide (v.major=0)&&decide (v.minor=0)&&decide (v.patch=0)
def m7 (c:Cut):Bool:=decide (c.e≠0) ||(!c.a&&decide (c.v.pre=[])&& !wq c.v)
def rY (c:Cut):Bool:=decide (c.e≠0) ||(!c.a&&decide (c.v.pre=[])&& !decide (c.v=zV))
def wL (s:cy):Bool:=te s.rel&&te s.pr&&bK (λi=>m7 s.rel[i]!.f&&m7 s.rel[i]!.t) 0 s.rel.length
def aha (s:cy):Bool:=bK (λi=>rY s.rel[i]!.f&&rY s.rel[i]!.t) 0 s.rel.length&&(te s.rel&&te s.pr)
def pg (s:cy)(v:b6):Bool:=wL s&&gN v&&(if v.pre=[]then wJ s.rel v else wJ s.pr v)
def ED {c:Cut}(h:qd c=true):rY c=m7 c:=by
 obtain⟨e,⟨a,b,c,p,q⟩,f⟩:=c;by_cases he:e=0
 .simp only[qd,he,br,aD,aT]at h;obtain⟨_,rfl⟩:=h;simp only[rY,m7,wq,zV,b6.mk.injEq];by_cases h1:p=[]<;>by_cases h2:a=0<;>by_cases h3:b=0<;>by_cases h4:c=0<;>simp[h1,h2,h3,h4]
 .simp[rY,m7,he]
def aa9 {l:Lae}(h:te l=true){i:Nat}(hi:i<l.length):qd l[i]!.f=true/\qd l[i]!.t=true:=by
 unfold te at h;rw[bw]at h;have:=h i ae hi;simp only[BR,qz,aD]at this;exact⟨this.1.1.1,this.1.1.2⟩
def afE (s:cy):aha s=wL s:=by
 unfold aha wL;cases h:te s.rel with
 |false=>simp
 |true=>
  have:bK (λi=>rY s.rel[i]!.f&&rY s.rel[i]!.t) 0 s.rel.length=bK (λi=>m7 s.rel[i]!.f&&m7 s.rel[i]!.t) 0 s.rel.length:=by
   rw[Bool.eq_iff_iff,bw,bw];constructor<;>intro g j h1 h2<;>have q:=aa9 h h2<;>have:=g j h1 h2<;>rw[ED q.1,ED q.2]at* <;>exact this
  rw[this];cases te s.pr<;>simp
def C0:Cut:=⟨-1,zV,false⟩
def Mw:Cut:=⟨1,zV,false⟩
def HI (v:b6):Cut:=⟨0,sw v,false⟩
def adl (v:b6):Cut:=⟨0,sw v,true⟩
def V8 (v:b6):b6:=⟨v.major,v.minor,v.patch,[],[]⟩
def Sc (v:b6)(p:Int):b6:=if p=0 then⟨v.major+1,0,0,[],[]⟩else if p=1 then⟨v.major,v.minor+1,0,[],[]⟩else⟨v.major,v.minor,v.patch+1,[],[]⟩
def Sb (v:b6)(p:Int):b6×Bool:=if gN v=false\/p<0\/2<p then(zV,false)else if gN (Sc v p)=false then(zV,false)else(Sc v p,true)
def S6 (v:b6):Nat->b6×Bool
 |0=>(zV,false)
 |n+1=>if(Sb v (n:Int)).2=true then((Sb v (n:Int)).1,true)else S6 v n
def S7 (v:b6):b6×Bool:=if gN v=false then(zV,false)else if v.pre≠[]then(V8 v,true)else S6 v 3
def O9 (v:b6):Cut:=if wq v=true then C0 else HI (V8 v)
def behC (v:b6):Cut:=if(S7 (V8 v)).2=false then Mw else HI (S7 (V8 v)).1
def S9:cy:=⟨[],[]⟩
def Rn:Lae:=[⟨C0,Mw⟩]
def p8:cy:=⟨Rn,Rn⟩
def dS (v:b6):cy:=if gN v=false then S9 else if v.pre≠[]then⟨[],[⟨HI v,adl v⟩]⟩else⟨[⟨O9 v,behC v⟩],[]⟩
def RowS (l:Lae):Prop:=Al l/\l.length<=1000
def SetS (s:cy):Prop:=RowS s.rel/\RowS s.pr
def Ht:zV.sm:=by simp[zV,b6.sm]
def zi:C0.sm:=Ht
def Dv:Mw.sm:=Ht
def B4 {v:b6}(h:v.sm):(sw v).sm:=⟨h.1,by simp[sw]⟩
def Ty (v:b6):(V8 v).sm:=by simp[V8,b6.sm]
def Xx (v:b6)(p:Int):(Sc v p).sm:=by unfold Sc;split<;>(try split)<;>simp[b6.sm]
def Xw (v:b6)(p:Int):(Sb v p).1.sm:=by unfold Sb;split<;>(try split)<;>first|exact Ht|exact Xx v p
def MZ (v:b6):∀n,(S6 v n).1.sm
 |0=>Ht
 |n+1=>by
  rw[S6];split
  .exact Xw v _
  .exact MZ v n
def ZA (v:b6):(S7 v).1.sm:=by
 unfold S7;repeat' split
 all_goals first|exact Ht|exact Ty v|exact MZ v _
def Is:Al []:=λ_ h=>by cases h
def Uz (v:b6):(O9 v).sm:=by
 unfold O9;split
 .exact zi
 .exact B4 (Ty v)
def adk (v:b6):(behC v).sm:=by
 unfold behC;split
 .exact Dv
 .exact B4 (ZA _)
def Gl {v:b6}(h:v.sm):(dS v).sm:=by
 unfold dS;split
 .exact⟨Is,Is⟩
 .split
  .exact⟨Is,λx hx=>by obtain rfl:=aF.1 hx;exact⟨B4 h,B4 h⟩⟩
  .exact⟨λx hx=>by obtain rfl:=aF.1 hx;exact⟨Uz v,adk v⟩,Is⟩
def adf:p8.sm:=⟨λx hx=>by obtain rfl:=aF.1 hx;exact⟨zi,Dv⟩,λx hx=>by obtain rfl:=aF.1 hx;exact⟨zi,Dv⟩⟩
structure Key where
 n:aw
 f:aw
 deriving Inhabited
abbrev Α:=List Key
def Key.D (k:Key):D:=.agg [.str k.n,.str k.f]
def tn (n:Int)(w:Want):Bool:=decide (0<w.u)&&decide (w.u<n)&&wL w.s
def pU (n:Int)(l:θ):Bool:=bK (λi=>tn n l[i]!) 0 l.length
def rX (n:Int)(l:θ):Bool:=pU n l&&(decide (0<l.length)&&decide (l.length<=24))
def nd (n:Int)(c:eI):Bool:=decide (c.needs.length<=24)&&decide (c.bars.length<=24)&&bK (λi=>rX n c.needs[i]!) 0 c.needs.length&&pU n c.bars
def IA (a b:Key):Int:=if qc a.n b.n≠0 then qc a.n b.n else qc a.f b.f
def jh (a b:cN):Bool:=Op.bytesLess a.name b.name ||(decide (a.name=b.name)&&Op.bytesLess a.feat b.feat)
def nj (n:Int)(cs:Lak)(k:Nat):Bool:=gN cs[k]!.v&&nd n cs[k]! && !(decide (0<k)&&decide (0<=iO cs[k-1]!.v cs[k]!.v))
def lJ (i:Nat):Bool:=!(decide (0<i)&&decide (us[i]!.name=[]))&& !(decide (1<i)&& !jh us[i-1]! us[i]!)&&decide (us[i]!.ar.length<=16)&&bK (nj us.length us[i]!.ar) 0 us[i]!.ar.length
def vv:Bool:=decide (us[0]!.name=[])&&decide (us[0]!.feat=[])&&decide (us[0]!.ar.length=1)
def eK (w:bP):Bool:=decide (1<=w.us.length)&&decide (w.us.length<=48)&&vv w.us&&bK (lJ w.us) 0 w.us.length
def tl (i:Nat):Bool:=lJ us i&& !(decide (i=0)&& !vv us)
theorem jY (a:aw):Op.bytesLess a a=false:=by
 induction a with
 |nil=>rfl
 |cons x r ih=>unfold Op.bytesLess;simp[ih]
def VC (a b:cN):decide (0<=IA ⟨a.name,a.feat⟩ ⟨b.name,b.feat⟩)=!jh a b:=by
 unfold IA jh qc;have h:=jY b.name;by_cases h1:Op.bytesLess a.name b.name=true<;>by_cases h2:a.name=b.name<;>by_cases h3:Op.bytesLess a.feat b.feat=true<;>by_cases h4:a.feat=b.feat<;>simp_all
def E4 (w:bP):eK w=(decide (1<=w.us.length)&&decide (w.us.length<=48)&&bK (tl w.us) 0 w.us.length):=by
 unfold eK;by_cases h:1<=w.us.length
 .have:bK (tl w.us) 0 w.us.length=(vv w.us&&bK (lJ w.us) 0 w.us.length):=by
   rw[Bool.eq_iff_iff,aD,bw,bw];simp only[tl,aD,b8,eJ,bR];constructor
   .intro g;have h0:=(g 0 ae ae).2;exact⟨by rcases h0 with h0|h0;exact absurd rfl h0;simpa using h0,λj h1 h2=>(g j h1 h2).1⟩
   .rintro⟨g1,g2⟩ j h1 h2;exact⟨g2 j h1 h2,.inr (by simpa using g1)⟩
  rw[this];simp only[Bool.and_assoc]
 .simp[h]
def iCut (a b:Cut):Cut.D a=Cut.D b↔a=b:=by
 obtain⟨e,⟨v1,v2,v3,v4,v5⟩,x⟩:=a;obtain⟨e',⟨w1,w2,w3,w4,w5⟩,x'⟩:=b;simp[Cut.D,and_assoc]
def agM (a b:List Cut):a.map Cut.D=b.map Cut.D↔a=b:=kZ iCut a b
def YK (a b:Span):Span.D a=Span.D b↔a=b:=by
 obtain⟨⟨e,⟨v1,v2,v3,v4,v5⟩,x⟩,⟨f,⟨u1,u2,u3,u4,u5⟩,y⟩⟩:=a;obtain⟨⟨e',⟨w1,w2,w3,w4,w5⟩,x'⟩,⟨f',⟨t1,t2,t3,t4,t5⟩,y'⟩⟩:=b;simp[Span.D,and_assoc]
def Dm (a b:Lae):a.map Span.D=b.map Span.D↔a=b:=kZ YK a b
def iSet (a b:cy):cy.D a=cy.D b↔a=b:=by cases a;cases b;simp[cy.D,Dm]
def YN (a b:Want):Want.D a=Want.D b↔a=b:=by
 obtain⟨u,⟨x,y⟩⟩:=a;obtain⟨u',⟨x',y'⟩⟩:=b;simp[Want.D,Dm]
def H2 (a b:θ):a.map Want.D=b.map Want.D↔a=b:=kZ YN a b
def YP (a b:mT):jP a=jP b↔a=b:=by simp[jP,H2]
def PE (a b:Laf):a.map jP=b.map jP↔a=b:=kZ YP a b
def iCnd (a b:eI):eI.D a=eI.D b↔a=b:=by
 obtain⟨⟨v1,v2,v3,v4,v5⟩,s,x,y⟩:=a;obtain⟨⟨w1,w2,w3,w4,w5⟩,s',x',y'⟩:=b;simp[eI.D,PE,H2,and_assoc]
def YB (a b:Lak):a.map eI.D=b.map eI.D↔a=b:=kZ iCnd a b
def iUnt (a b:cN):cN.D a=cN.D b↔a=b:=by cases a;cases b;simp[cN.D,YB]
def YM (a b:Η):a.map cN.D=b.map cN.D↔a=b:=kZ iUnt a b
def iWld (a b:bP):bP.D a=bP.D b↔a=b:=by cases a;cases b;simp[bP.D,YM]
def iTrm (a b:ek):ek.D a=ek.D b↔a=b:=by cases a;cases b;simp[ek.D]
def agR (a b:ρ):a.map ek.D=b.map ek.D↔a=b:=kZ iTrm a b
def iKey (a b:Key):Key.D a=Key.D b↔a=b:=by cases a;cases b;simp[Key.D]
def iGs (a b:Gs):Gs.D a=Gs.D b↔a=b:=by cases a;cases b;simp[Gs.D,U8]
structure cP where
 name:aw
 range:aw
 feats:Ψ
 bare:Bool
 deriving Inhabited,DecidableEq
def cP.D (x:cP):D:=.agg [.str x.name,.str x.range,.sl 1 (x.feats.map D.str),.bool x.bare]
structure bn where
 any:List cP
 when':aw
 option:aw
 deriving Inhabited,DecidableEq
abbrev υ:=List bn
def bn.D (x:bn):D:=.agg [.sl 4 (x.any.map cP.D),.str x.when',.str x.option]
structure mR where
 name:aw
 range:aw
 when':aw
 deriving Inhabited,DecidableEq
def mR.D (x:mR):D:=.agg [.str x.name,.str x.range,.str x.when']
structure b7 where
 name:aw
 of:Ψ
 deriving Inhabited,DecidableEq
abbrev γ:=List b7
def b7.D (x:b7):D:=.agg [.str x.name,.sl 1 (x.of.map D.str)]
structure Rec where
 name:aw
 v:b6
 needs:υ
 bars:List mR
 feats:γ
 deriving Inhabited,DecidableEq
def Rec.D (x:Rec):D:=.agg [.str x.name,.int .i64 x.v.major,.int .i64 x.v.minor,.int .i64 x.v.patch,.str x.v.pre,.str x.v.build,.sl 3 (x.needs.map bn.D),.sl 3 (x.bars.map mR.D),.sl 2 (x.feats.map b7.D)]
structure Cmp where
 op:Int
 parts:Int
 v:b6
 deriving Inhabited,DecidableEq
def Cmp.D (x:Cmp):D:=.agg [.int .i64 x.op,.int .i64 x.parts,.int .i64 x.v.major,.int .i64 x.v.minor,.int .i64 x.v.patch,.str x.v.pre,.str x.v.build]
structure Nd where
 op:Int
 a:Int
 b:Int
 key:Int
 text:aw
 deriving Inhabited,DecidableEq
def Nd.D (x:Nd):D:=.agg [.int .i64 x.op,.int .i64 x.a,.int .i64 x.b,.int .i64 x.key,.str x.text]
theorem mR.eq (a b:mR):ig (mR.D a).cells (mR.D b).cells=decide (a=b):=by
 obtain⟨a1,a2,a3⟩:=a;obtain⟨b1,b2,b3⟩:=b
 grind [mR.D,D.cells,ig,tG]
theorem cP.same {a b:cP}(e1:a.name=b.name)(e2:a.range=b.range)(e3:a.bare=b.bare):decide (a=b)=decide (a.feats=b.feats):=by
 obtain⟨a1,a2,a3,a4⟩:=a;obtain⟨b1,b2,b3,b4⟩:=b
 grind
def rising (l:Ψ):Bool:=bK (λi=>Op.bytesLess l[i-1]! l[i]!) 1 l.length
def bN (s:aw):Int×aw×aw:=
 if gP s=true then(1,s,[])
 else if s.length>0/\at8 s 0=63/\gP (s.drop 1)=true then(2,s.drop 1,[])
 else if(bh s 47).length=2/\di (bh s 47)[0]! =true/\gP (bh s 47)[1]! =true then(3,(bh s 47)[0]!,(bh s 47)[1]!)
 else(0,[],[])
def findF (l:γ)(nm:aw)(i:Nat):Int:=match(l.drop i).findIdx? (λx=>decide (x.name=nm))with
 |some k=>((i+k:Nat):Int)
 |none=>-1
theorem Yd {l:γ}{i:Nat}(h:i<l.length)(he:l[i]!.name=nm):findF l nm i=(i:Nat):=by
 unfold findF;rw[fD h,List.findIdx?_cons]
 grind
theorem Ye {l:γ}{i:Nat}(h:i<l.length)(he:¬l[i]!.name=nm):findF l nm i=findF l nm (i+1):=by
 unfold findF;have:¬l[i].name=nm:=by simpa[h]using he
 rw[fD h,List.findIdx?_cons]
 grind
def UN {l:γ}{i:Nat}(h:l.length<=i):findF l nm i=-1:=by
 unfold findF;rw[kA h];rfl
def lE:aw:=[100,101,102,97,117,108,116]
def isF (l:γ)(nm:aw):Bool:=decide (nm=lE) ||decide (0<=findF l nm 0)
def akA (l:γ)(s:aw):Bool:=!(decide ((bN s).1=0) ||(decide ((bN s).1=1)&& !isF l (bN s).2.1))
def YU (l:γ)(of:Ψ):Bool:=decide (of.length<=6)&&rising of&&bK (λi=>akA l of[i]!) 0 of.length
def X6 (l:γ)(i:Nat):Bool:=gP l[i]!.name&& !(decide (0<i)&& !Op.bytesLess l[i-1]!.name l[i]!.name)&&YU l l[i]!.of
def eC (l:γ):Bool:=decide (l.length<=8)&&bK (X6 l) 0 l.length
def b7.sm (x:b7):Prop:=x.name.length<=1048576/\x.of.length<=1048576/\∀t∈x.of,t.length<=1048576
def ofL:List (List aw):=[[],[[63,111]],[[97,110,116,47,102]],[[98,101,101,47,102]],[[99,111,119,47,102]],[[100,111,103,47,102]],[[63,111],[97,110,116,47,102]],[[63,111],[98,101,101,47,102]],[[63,111],[99,111,119,47,102]],[[63,111],[100,111,103,47,102]]]
def CT:List (List b7):=[]::ofL.map λo=>[⟨[102],o⟩]
def jz (l:γ):Prop:=l∈CT
theorem Gv (b:aw):∀(l:Ψ) (i:Nat),(cv b (l.take i)).length<=(cv b l).length
 |[],i=>aJ
 |[t],0=>by simp[cv]
 |[t],i+1=>aJ
 |t::u::r,0=>by simp[cv]
 |t::u::r,1=>by simp[cv]
 |t::u::r,i+2=>by
  have:=Gv b (u::r) (i+1)
  grind [cv]
theorem Ds (b t:aw):∀(l:Ψ),l≠[]->cv b (l++[t])=cv b l++b++t
 |[],h=>absurd rfl h
 |[u],_=>by simp[cv]
 |u::v::r,_=>by
  have:=Ds b t (v::r) aJ
  grind [cv]
theorem Dt (b:aw)(l:Ψ)(i:Nat)(h:i<l.length):cv b (l.take (i+1))=(if 0<i then cv b (l.take i)++b else [])++l[i]! :=by
 have e:l.take (i+1)=l.take i++[l[i]!]:=by
  rw[List.take_add_one,List.getElem?_eq_getElem h];simp[h]
 rw[e];by_cases h0:0<i
 .rw[ak h0,Ds _ _ _ (by intro hn;have:=ay List.length hn;simp only[eE,cj]at this;omega)]
 grind [cv]
def jq:aw->aw->Ψ
 |[],cur=>[cur]
 |[c],cur=>[cur++[c]]
 |c::d::r,cur=>if c=124/\d=124 then cur::jq r []else jq (d::r) (cur++[c])
def Ao:aw->aw
 |[]=>[]
 |c::r=>if c=32 then Ao r else c::r
def CI (s:aw):aw:=(Ao (Ao s).reverse).reverse
def kr:Ψ:=[[42],[94,49,46,48,46,48],[61,49,46,50,46,48],[62,61,49,46,50,46,48],[60,50,46,48,46,48],[94,50,46,48,46,48,45,97,46,49],[61,49,46,48,46,48,32,124,124,32,61,50,46,48,46,48],[33,61,49,46,50,46,48]]
def MR:Ψ:=[[],[111,115,32,61,32,108,105,110,117,120],[111,115,32,33,61,32,108,105,110,117,120]]
def Vc:Ψ:=[[63,111],[97,110,116,47,102],[98,101,101,47,102],[99,111,119,47,102],[100,111,103,47,102]]
def rm (s:aw):Bool:=kr.contains s
def xW (s:aw):Bool:=MR.contains s
def kI (s:aw):Prop:=s∈kr
def pD (s:aw):Prop:=s∈MR
def rS (s:aw):Prop:=s∈Vc
def kI.len {s:aw}(h:kI s):s.length<=1048576:=by
 have:∀s∈kr,s.length<=1048576:=aX
 exact this s h
def pD.len {s:aw}(h:pD s):s.length<=1048576:=by
 have:∀s∈MR,s.length<=1048576:=aX
 exact this s h
def rS.len {s:aw}(h:rS s):s.length<=1048576:=by
 have:∀s∈Vc,s.length<=1048576:=aX
 exact this s h
theorem jz.sm {l:γ}(h:jz l):∀x∈l,x.sm:=by
 have:∀l∈CT,∀x∈l,x.name.length<=1048576/\x.of.length<=1048576/\∀t∈x.of,t.length<=1048576:=aX
 exact this l h
def jz.it {l:γ}(h:jz l):∀x∈l,∀s∈x.of,rS s:=by
 have:∀l∈CT,∀x∈l,∀s∈x.of,s∈Vc:=aX
 exact this l h
def qY (f:Nat->Int):Nat->Nat->Int×Int
 |_,0=>(0,0)
 |i,k+1=>if f i=0 then qY f (i+1) k else(f i,((i:Nat):Int))
def gU (f:Nat->Int)(i n:Nat):Int×Int:=qY f i (n-i)
theorem kE {i:Nat}(h:i<n)(hf:f i=0):gU f i n=gU f (i+1) n:=by
 unfold gU;obtain⟨k,hk⟩:∃k,n-i=k+1:=⟨n-i-1,ae⟩
 grind [qY]
def gV {i:Nat}(h:i<n)(hf:f i≠0):gU f i n=(f i,((i:Nat):Int)):=by
 unfold gU;obtain⟨k,hk⟩:∃k,n-i=k+1:=⟨n-i-1,ae⟩
 rw[hk];simp only[qY,hf,ba]
def kD {i:Nat}(h:n<=i):gU f i n=(0,0):=by
 unfold gU;rw[show n-i=0 by omega];rfl
def gO (r:Rec)(name rng:aw):Int:=if di name=false then 4 else if name=r.name then 8 else if rm rng=false then 6 else 0
def wfB (l:Ψ)(i:Nat):Bool:=gP l[i]! && !(decide (0<i)&& !Op.bytesLess l[i-1]! l[i]!)
def nQ (l:Ψ)(alone:Bool):Bool:=(decide (l.length<=6)&&(alone ||decide (l.length=0)))&&bK (wfB l) 0 l.length
def lK (r:Rec)(w:cP)(alone:Bool):Int:=if gO r w.name w.range≠0 then gO r w.name w.range else if nQ w.feats alone=false then 11 else 0
def nR (r:Rec)(l:List cP):Int:=gh (λi=>lK r l[i]! (decide ((l.length:Int)=1))) 0 l.length
def jM (r:Rec)(n:bn):Int:=if n.any.length=0 then 9 else if 3<n.any.length then 3 else if nR r n.any≠0 then nR r n.any else
 if xW n.when'=false then 7 else if n.option≠[]/\gP n.option=false then 14 else 0
def sg (r:Rec)(b:mR):Int:=if gO r b.name b.range≠0 then gO r b.name b.range else if xW b.when'=false then 7 else 0
def ZR (l:υ)(x:aw):Bool:=l.any λn=>decide (n.option=x)
def Nk (l:υ)(x:aw):Bool:=l.any λn=>decide (n.any.length=1)&&decide (n.any[0]!.name=x)
def oy (r:Rec)(s:aw):Int:=if(bN s).1=2/\ZR r.needs (bN s).2.1=false then 14 else if(bN s).1=3/\Nk r.needs (bN s).2.1=false then 16 else 0
def mV (r:Rec)(of:Ψ):Int:=gh (λi=>oy r of[i]!) 0 of.length
def lT (r:Rec):Int×Int:=gU (λi=>jM r r.needs[i]!) 0 r.needs.length
def vo (r:Rec):Int×Int:=gU (λi=>sg r r.bars[i]!) 0 r.bars.length
def HT (r:Rec):Int×Int:=gU (λi=>mV r r.feats[i]!.of) 0 r.feats.length
def eD (r:Rec):Int×Int:=if(lT r).1≠0 then lT r else if(vo r).1≠0 then vo r else if eC r.feats=false then(11,0)else HT r
theorem abJ (n:Nat)(al:Bool):(decide ((6:Int)<(n:Nat)) ||(decide ((0:Int)<(n:Nat))&& !al))=!(decide (n<=6)&&(al ||decide (n=0))):=by
 grind
theorem wf_c (l:Ψ)(i:Nat):(!gP l[i]! ||(decide ((0:Int)<(i:Nat))&& !Op.bytesLess l[i-1]! l[i]!))=!wfB l i:=by
 unfold wfB
 grind
theorem wf_2 (l:Ψ)(al:Bool):(bK (λi=>gP l[i]!) 0 l.length&&((decide (l.length<=6)&&rising l)&&(al ||decide (l.length=0))))=nQ l al:=by
 grind [bK,wfB,gP,rising,bw,nQ]
def itC (k:Int)(x:aw)(n:bn):Bool:=(decide (k=2)&&decide (n.option=x)) ||((decide (k=3)&&decide ((n.any.length:Int)=1))&&decide (n.any[0]!.name=x))
def itE (k:Int):Int:=if k=2 then 14 else if k=3 then 16 else 0
theorem YT (r:Rec)(s:aw):oy r s=if r.needs.any (itC (bN s).1 (bN s).2.1)=true then 0 else itE (bN s).1:=by
 grind [oy,itE,ZR,Nk,bN,itC]
theorem xg [Inhabited α]{c:α->Bool}{l:List α}{i:Nat}(h:i<l.length)(hc:c l[i]! =true):(l.drop i).any c=true:=by
 rw[fD h,List.any_cons]
 grind
theorem CE [Inhabited α]{c:α->Bool}{l:List α}{i:Nat}(h:i<l.length)(hc:c l[i]! =false):(l.drop i).any c=(l.drop (i+1)).any c:=by
 rw[fD h,List.any_cons]
 grind
def xf {c:α->Bool}{l:List α}{i:Nat}(h:l.length<=i):(l.drop i).any c=false:=by
 rw[kA h];rfl
def Hk:aw:=[110,101,101,100]
def sb:aw:=[97,110,121]
def yR:aw:=[119,104,101,110]
def nP:aw:=[111,112,116,105,111,110]
def z7:aw:=[98,97,114]
def j5:aw:=[102,101,97,116,117,114,101]
def qC:aw:=[112,97,99,107,97,103,101]
def r9:aw:=[102,117,108,108]
def r7:aw:=[98,97,114,101]
def cw (l:Ψ):aw:=cv [32] l++[10]
def tp (w:cP):Ψ:=[sb,w.name,if w.feats.length=0 then [45]else cv [44] w.feats,if w.bare=true then r7 else r9,w.range]
def kL (s:aw):aw:=if s=[]then []else cw [yR,s]
def ye (s:aw):aw:=if s=[]then []else cw [nP,s]
def AL (n:bn):aw:=cw [Hk]++(n.any.map λw=>cw (tp w)).flatten++kL n.when'++ye n.option
def HG (b:mR):aw:=cw [z7,b.name,b.range]++kL b.when'
def xD (f:b7):aw:=cw ([j5,f.name]++f.of)
def vw (r:Rec):aw:=cw [qC,r.name,vc r.v]
def ES (r:Rec):aw:=vw r++(r.needs.map AL).flatten++(r.bars.map HG).flatten++(r.feats.map xD).flatten
def c8 (r:Rec):Int×Int:=if di r.name=false then(4,0)else if gN r.v=false then(5,0)else if 8<r.needs.length\/8<r.bars.length then(3,0)else
 if(eD r).1≠0 then eD r else if 4096<(ES r).length then(3,0)else(0,0)
def fJ (r:Rec):aw×Int:=if(c8 r).1≠0 then([],(c8 r).1)else(ES r,0)
def cP.sm (w:cP):Prop:=(w.name.length<=1048576/\kI w.range)/\∀t∈w.feats,t.length<=1048576
def bn.sm (n:bn):Prop:=(∀w∈n.any,w.sm)/\pD n.when'/\n.option.length<=1048576
def mR.sm (b:mR):Prop:=b.name.length<=1048576/\kI b.range/\pD b.when'
def gM (r:Rec):Prop:=(r.name.length<=1048576/\r.v.sm)/\(∀n∈r.needs,n.sm)/\(∀b∈r.bars,b.sm)/\jz r.feats
theorem Nb {r:Rec}{e:Int×Int}(h:lT r=e)(hn:e.1≠0):eD r=e:=by grind [eD]
theorem DR {r:Rec}{e:Int×Int}(h0:lT r=(0,0))(h:vo r=e)(hn:e.1≠0):eD r=e:=by grind [eD]
theorem Nc {r:Rec}(h0:lT r=(0,0))(h1:vo r=(0,0))(h:eC r.feats=false):eD r=(11,0):=by grind [eD]
theorem yh {r:Rec}{e:Int×Int}(h0:lT r=(0,0))(h1:vo r=(0,0))(h:eC r.feats=true)(h2:HT r=e):eD r=e:=by grind [eD]
def C5 (f:Nat->Int):∀(k i:Nat),(qY f i k).1=0->qY f i k=(0,0)
 |0,_,_=>rfl
 |k+1,i,h=>by
  simp only[qY]at h⊢;by_cases hf:f i=0
  .rw[ak hf]at h⊢;exact C5 f k (i+1) h
  .rw[ah hf]at h;exact absurd h hf
def Nf {r:Rec}(h:(eD r).1=0):eD r=(0,0):=by
 unfold eD at h⊢;split
 .rename_i h1;rw[ak h1]at h;exact absurd h h1
 .rename_i h1;rw[ah h1]at h;split
  .rename_i h2;rw[ak h2]at h;exact absurd h h2
  .rename_i h2;rw[ah h2]at h;split
   .rename_i h3;rw[ak h3]at h;cases h
   .rename_i h3;rw[ah h3]at h;exact C5 _ _ _ h
theorem qb {r:Rec}{e:Int×Int}(h0:di r.name=true)(h1:gN r.v=true)(h2:¬8<r.needs.length)(h3:¬8<r.bars.length)(hp:eD r=e)(hn:e.1≠0):c8 r=e:=by
 grind [c8]
theorem xr {r:Rec}(h0:di r.name=true)(h1:gN r.v=true)(h2:¬8<r.needs.length)(h3:¬8<r.bars.length)(hp:eD r=(0,0)):c8 r=if 4096<(ES r).length then(3,0)else(0,0):=by
 grind [c8]
def Gr (r:Rec):Prop:=(di r.name=true/\gN r.v=true)/\(r.needs.length<=8/\r.bars.length<=8)/\eD r=(0,0)
def C3 {f:Nat->Int}:∀{k i:Nat},sE f i k=0->∀j,i<=j->j<i+k->f j=0
 |0,i,_,j,h1,h2=>absurd h2 ae
 |k+1,i,h,j,h1,h2=>by
  simp only[sE]at h;by_cases hf:f i=0
  .rw[ak hf]at h;by_cases hj:j=i
   .rw[hj];exact hf
   .exact C3 h j ae ae
  .rw[ah hf]at h;exact absurd h hf
def C1 (h:gh f 0 n=0)(j:Nat)(hj:j<n):f j=0:=C3 h j ae ae
def C4 {f:Nat->Int}:∀{k i:Nat},(qY f i k).1=0->∀j,i<=j->j<i+k->f j=0
 |0,i,_,j,h1,h2=>absurd h2 ae
 |k+1,i,h,j,h1,h2=>by
  simp only[qY]at h;by_cases hf:f i=0
  .rw[ak hf]at h;by_cases hj:j=i
   .rw[hj];exact hf
   .exact C4 h j ae ae
  .rw[ah hf]at h;exact absurd h hf
def qX (h:(gU f 0 n).1=0)(j:Nat)(hj:j<n):f j=0:=C4 h j ae ae
def cP.fit (w:cP):Prop:=w.sm/\(w.feats.length<=6/\∀t∈w.feats,t.length<=12)
def bn.fit (n:bn):Prop:=(n.any.length<=3/\∀w∈n.any,w.fit)/\n.when'.length<=1048576/\n.option.length<=1048576
variable{l:υ}
def b7.fit (x:b7):Prop:=x.sm/\x.of.length<=6
structure Rec.fit (r:Rec):Prop where
 nm:r.name.length<=1048576
 v:r.v.sm
 ns:r.needs.length<=8
 n:∀x∈r.needs,x.fit
 bs:r.bars.length<=8
 b:∀x∈r.bars,x.sm
 fs:r.feats.length<=8
 f:∀x∈r.feats,x.fit
theorem ff [Inhabited α]{l:List α}{x:α}(h:x∈l):∃i,i<l.length/\l[i]! =x:=by
 obtain⟨i,hi,e⟩:=List.mem_iff_getElem.1 h;exact⟨i,hi,by rw[<-e];simp[hi]⟩
theorem abK {r:Rec}{w:cP}{al:Bool}(h:lK r w al=0)(hs:w.sm):w.fit:=by
 refine⟨hs, ?_⟩
 grind [lK,nQ,bw,ff,wfB,gP]
def Zx {r:Rec}{n:bn}(h:jM r n=0)(hs:n.sm):n.fit:=by
 unfold jM at h;split at h
 .cases h
 split at h
 .cases h
 rename_i h1 h2;split at h
 .rename_i h3;exact absurd h h3
 rename_i h3;refine⟨⟨ae,λw hw=>?_⟩,hs.2.1.len,hs.2.2⟩;obtain⟨i,hi,rfl⟩:=ff hw;exact abK (C1 (Classical.not_not.1 h3) i hi) (hs.1 _ hw)
theorem tL {r:Rec}(h:Gr r/\gM r):r.fit:=by
 obtain⟨⟨_,⟨h1,h2⟩,hp⟩,⟨s1,s2⟩,s3,s4,s5⟩:=h;have h0:(lT r).1=0/\eC r.feats=true:=by
  grind [eD]
 obtain⟨h3,h4⟩:=h0;simp only[eC,aD,aT,bw]at h4;refine⟨s1,s2,h1,λx hx=>?_,h2,s4,h4.1,λx hx=>⟨s5.sm x hx, ?_⟩⟩
 .obtain⟨i,hi,rfl⟩:=ff hx;exact Zx (qX h3 i hi) (s3 _ hx)
 grind [ff,X6,YU]
def qi (x:UInt8)(B:Nat):∀l:Ψ,(∀t∈l,t.length<=B)->(cv [x] l).length<=l.length*(B+1)
 |[],_=>by simp[cv]
 |[t],h=>by have:=h t (.head _);simp only[cv,bJ,cj];omega
 |t::u::r,h=>by
  have h1:=h t (.head _);have h2:=qi x B (u::r) λy hy=>h y (.tail _ hy)
  simp only[cv,cx,bJ,cj,Nat.succ_mul]at h2⊢;omega
def E3 {w:cP}(h:w.fit):(cv [44] w.feats).length<=6291462:=by
 have h1:=qi 44 1048576 w.feats h.1.2;have h2:=fU (1048576+1) h.2.1;omega
def Jt {w:cP}(h:w.fit):(cv [44] w.feats).length<=78:=by
 have h1:=qi 44 12 w.feats h.2.2;have h2:=fU (12+1) h.2.1;omega
def j6 (w:cP):aw:=cw (tp w)
theorem z8 {w:cP}(h:w.fit):(j6 w).length<=8400000:=by
 have h1:=E3 h;have h2:=And.intro h.1.1.1 h.1.1.2.len;simp only[j6,cw,tp,cv,cx,bJ,cj]
 grind [sb,r7,r9]
def n8 {s:aw}(h:s.length<=1048576):(kL s).length<=1048590:=by
 unfold kL;split
 .simp
 .simp only[cw,cv,yR,cx,bJ,cj];omega
def ZV {s:aw}(h:s.length<=1048576):(ye s).length<=1048590:=by
 unfold ye;split
 .simp
 .simp only[cw,cv,nP,cx,bJ,cj];omega
def xI (q:α->aw)(B:Nat){l:List α}(h:∀x∈l,(q x).length<=B)(i:Nat):(((l.take i).map q).flatten).length<=i*B:=by
 have h1:=sH q B (l.take i) λx hx=>h x (Fs hx)
 have h2:=fU B (List.length_take_le i l);omega
theorem tI [Inhabited α](q:α->aw){l:List α}{i:Nat}(h:i<l.length):((l.take (i+1)).map q).flatten=((l.take i).map q).flatten++q l[i]! :=by
 rw[List.take_add_one,List.getElem?_eq_getElem h,List.map_append,List.flatten_append];simp[h]
theorem Vr {n:bn}(h:n.fit):(AL n).length<=27400000:=by
 have h1:=sH j6 8400000 n.any λw hw=>z8 (h.1.2 w hw)
 have h2:=fU 8400000 h.1.1;have h3:=n8 h.2.1;have h4:=ZV h.2.2;have h5:(cw [Hk]).length=5:=rfl;unfold j6 at h1
 grind [AL]
def Xp {b:mR}(h:b.sm):(HG b).length<=3145800:=by
 have h1:=n8 h.2.2.len;have h2:=h.1;have h3:=h.2.1.len;simp only[HG,cw,cv,z7,cx,bJ,cj];omega
theorem Gm {x:b7}(h:x.fit):(xD x).length<=8400000:=by
 have h1:=qi 32 1048576 ([j5,x.name]++x.of) (by
  intro t ht;simp only[tv,rH,bH]at ht;rcases ht with rfl|rfl|ht
  .simp[j5]
  .exact h.1.1
  .exact h.1.2.2 _ ht)
 have h2:=h.2
 grind [j5,xD,cw]
def U7 {r:Rec}(h1:r.name.length<=1048576)(h2:r.v.sm):(vw r).length<=3145800:=by
 have h3:=E1 r.v h2;simp only[vw,cw,cv,qC,cx,bJ,cj];omega
def dY (n:bn)(j:Nat):aw:=cw [Hk]++((n.any.take j).map j6).flatten
theorem oF {n:bn}(h:j<n.any.length):dY n (j+1)=dY n j++j6 n.any[j]! :=by grind [dY,tI,j6]
def zD {n:bn}(h:n.any.length<=j):AL n=dY n j++kL n.when'++ye n.option:=by
 rw[dY,gG h];rfl
theorem GB {n:bn}(h:n.fit)(j:Nat)(hj:j<=3):(dY n j).length<=25200005:=by
 have h1:=xI j6 8400000 (λw hw=>z8 (h.1.2 w hw)) j;have h2:=fU 8400000 hj;have h5:(cw [Hk]).length=5:=rfl
 grind [dY]
def kO (r:Rec)(i:Nat):aw:=vw r++((r.needs.take i).map AL).flatten
def EV (r:Rec)(i:Nat):aw:=kO r r.needs.length++((r.bars.take i).map HG).flatten
def Hi (r:Rec)(i:Nat):aw:=EV r r.bars.length++((r.feats.take i).map xD).flatten
def abr (r:Rec):kO r 0=vw r:=by simp[kO]
def abt (r:Rec):EV r 0=kO r r.needs.length:=by simp[EV]
def abu (r:Rec):Hi r 0=EV r r.bars.length:=by simp[Hi]
theorem Jn (r:Rec):Hi r r.feats.length=ES r:=by grind [Hi,EV,kO,ES]
theorem mN {r:Rec}{i:Nat}(h:i<r.needs.length):kO r (i+1)=kO r i++AL r.needs[i]! :=by grind [kO,tI,AL]
theorem OC {r:Rec}{i:Nat}(h:i<r.bars.length):EV r (i+1)=EV r i++HG r.bars[i]! :=by grind [EV,tI,HG]
theorem OD {r:Rec}{i:Nat}(h:i<r.feats.length):Hi r (i+1)=Hi r i++xD r.feats[i]! :=by grind [Hi,tI,xD]
def Jl {r:Rec}(h:r.fit)(i:Nat)(hi:i<=r.needs.length):(kO r i).length<=222400000:=by
 have a0:=U7 h.nm h.v;have a1:=xI AL 27400000 (λx hx=>Vr (h.n x hx)) i;have b1:=fU 27400000 (fC hi h.ns);simp only[kO,cx];omega
def Jm {r:Rec}(h:r.fit)(i:Nat)(hi:i<=r.bars.length):(EV r i).length<=247600000:=by
 have a0:=Jl h r.needs.length (aR _);have a1:=xI HG 3145800 (λx hx=>Xp (h.b x hx)) i;have b1:=fU 3145800 (fC hi h.bs);simp only[EV,cx];omega
def TQ {r:Rec}(h:r.fit)(i:Nat)(hi:i<=r.feats.length):(Hi r i).length<=314800000:=by
 have a0:=Jm h r.bars.length (aR _);have a1:=xI xD 8400000 (λx hx=>Gm (h.f x hx)) i;have b1:=fU 8400000 (fC hi h.fs);simp only[Hi,cx];omega
theorem mr {r:Rec}(h:(c8 r).1=0):Gr r:=by
 unfold c8 at h;split at h
 .cases h
 split at h
 .cases h
 split at h
 .cases h
 rename_i a b c;split at h
 .rename_i d;exact absurd h d
 rename_i d;exact⟨⟨by simpa using a,by simpa using b⟩,⟨ae,ae⟩,Nf (Classical.not_not.1 d)⟩
def wQ (r:Rec):Int:=if(fJ r).2≠0 then 0 else sumL (fJ r).1
def vi (m:Γ)(l:Nat)(t:Ω):Prop:=(∃u,look m l=some (.bld none 0 u)/\t=[])\/(∃l2 u,look m l=some (.bld (some l2) t.length u)/\look m l2=some (.row t))
@[go_sem] def gC (m:Γ)(l:Nat):Γ:=match look m l with
 |some (.bld (some l2) _ _)=>de m l2
 |_=>m
@[go_sem] def sk (m:Γ)(l L:Nat)(t:Ω):Γ:=(L,.row t)::cW (gC m l) l (.bld (some L) t.length true)
def TrW (aHa:D)(s:Ω)(ds:Θ)(st:St)(K:Τ):=∃l t,ds=[.ptr l 2 0 0,aHa]/\vi st.m l t/\l<st.nx/\s≠[]/\t.length+s.length<=1099511627776/\K .any ⟨st.nx+1,sk st.m l st.nx (t++s)⟩
def trWS (ds:Θ)(st:St)(K:Τ):=∃s,TrW (.str s) s ds st K
def trWB (ds:Θ)(st:St)(K:Τ):=∃c,TrW (.int .u8 c.toNat) [c] ds st K
def trBS (ds:Θ)(st:St)(K:Τ):=∃l t,ds=[.ptr l 2 0 0]/\vi st.m l t/\t≠[]/\K (.str t) ⟨st.nx,de (gC st.m l) l⟩
def C489:=∀(ds:Θ) (st:St) (K:Τ),trWS ds st K->Z.tr 489 ds st K
def C664:=∀(ds:Θ) (st:St) (K:Τ),trWB ds st K->Z.tr 664 ds st K
def C452:=∀(ds:Θ) (st:St) (K:Τ),trBS ds st K->Z.tr 452 ds st K
def Vd (b a:aw)(l:Ψ)(h:a≠[]):cv b (a::l)≠[]:=by
 match l with
 |[]=>exact h
 |c::r=>
  rw[wm b a (c::r) aJ];intro e;have:=List.append_eq_nil_iff.1 e;exact h (List.append_eq_nil_iff.1 this.1).1
def HA (ws:Ψ)(t:aw):Prop:=(cv [32] ws≠[]/\ws.length<=1048600)/\(∀w∈ws,w.length<=2097200)/\t.length+(cv [32] ws).length+1<=1099511627776
def HA.mk {a:aw}{l:Ψ}{t:aw}(h1:a≠[])(h2:l.length<=99)(h3:∀w∈a::l,w.length<=2097200)(h4:t.length<=1000000000):HA (a::l) t:=by
 have h5:=qi 32 2097200 (a::l) h3;have h6:(a::l).length<=100:=by simp only[bJ];omega
 have h7:=fU (2097200+1) h6;exact⟨⟨Vd _ _ _ h1,ae⟩,h3,ae⟩
def C450 (Y:Ctx):=∀(ws:Ψ) (t:aw) (l lw nx:Nat) (m:Γ) (K:Τ),vi m l t->look m lw=some (.buf 1 (ws.map D.str))->l<nx->lw<nx->HA ws t->
 K (.tup []) ⟨nx+1,sk (de m lw) l nx (t++cw ws)⟩->Y.tr 450 [.ptr l 2 0 0,.own lw 1 0 ws.length] ⟨nx,m⟩ K
def zt {m:Γ}{l L:Nat}{t:Ω}(h:l≠L):look (sk m l L t) l=some (.bld (some L) t.length true)/\look (sk m l L t) L=some (.row t):=by
 constructor
 .simp only[sk,look,ah (λe=>h (Eq.symm e))]
  haveI:cO:={gd:=λ_=>True,le:=λ_ _ _ _ _=>trivial}
  rw[bO,ak rfl]
 .simp only[sk,look,ak]
def adn {m:Γ}{l L:Nat}{t:Ω}(h:l≠L):vi (sk m l L t) l t:=.inr ⟨L,true,zt h⟩
structure ju where
 r:Rec
 sum:Int
 off:Bool
 deriving Inhabited,DecidableEq
abbrev ω:=List ju
def ju.D (x:ju):D:=.agg [.str x.r.name,.int .i64 x.r.v.major,.int .i64 x.r.v.minor,.int .i64 x.r.v.patch,.str x.r.v.pre,.str x.r.v.build,.sl 3 (x.r.needs.map bn.D),.sl 3 (x.r.bars.map mR.D),.sl 2 (x.r.feats.map b7.D),.int .u64 x.sum,.bool x.off]
structure bz where
 name:aw
 es:ω
 deriving Inhabited,DecidableEq
abbrev Β:=List bz
def bz.D (s:bz):D:=.agg [.str s.name,.sl 11 (s.es.map ju.D)]
def BA (nm:aw)(v:b6)(x:ju):Bool:=decide (x.r.name=nm)&&Iw x.r.v v
theorem akx {v:b6}{x:ju}(h:¬x.r.name=nm\/Iw x.r.v v=false):BA nm v x=false:=by
 grind [BA]
theorem aeB {v:b6}{x:ju}(h:x.r.name=nm/\Iw x.r.v v=true):BA nm v x=true:=by
 grind [BA]
def qt (l:ω)(nm:aw)(v:b6)(i:Nat):Int:=match(l.drop i).findIdx? (BA nm v)with
 |some k=>((i+k:Nat):Int)
 |none=>-1
theorem Z2 {l:ω}{v:b6}{i:Nat}(h:i<l.length)(he:BA nm v l[i]! =true):qt l nm v i=(i:Nat):=by
 unfold qt;rw[fD h,List.findIdx?_cons]
 grind
theorem Z3 {l:ω}{v:b6}{i:Nat}(h:i<l.length)(he:BA nm v l[i]! =false):qt l nm v i=qt l nm v (i+1):=by
 unfold qt;have:BA nm v l[i]=false:=by simpa[h]using he
 rw[fD h,List.findIdx?_cons]
 grind
def Tk {l:ω}{v:b6}{i:Nat}(h:l.length<=i):qt l nm v i=-1:=by
 unfold qt;rw[kA h];rfl
def sy (l:ω)(i:Nat):Bool:=decide ((fJ l[i]!.r).2=0)&&decide (wQ l[i]!.r=l[i]!.sum)&&decide (qt (l.take i) l[i]!.r.name l[i]!.r.v 0<0)
def gA (s:bz):Bool:=(di s.name&&decide (s.es.length<=64))&&bK (sy s.es) 0 s.es.length
theorem DV {r:Rec}(h:(fJ r).2=0):gN r.v=true:=by
 grind [c8,fJ,mr]
theorem Qg {l:ω}{v:b6}:qt l nm v 0<0↔∀x∈l,BA nm v x=false:=by
 grind [qt,BA]
theorem GL {l:ω}{i:Nat}(h:i<l.length)(hv:gN l[i]!.r.v=true):decide (qt l l[i]!.r.name l[i]!.r.v 0=(i:Nat))=decide (qt (l.take i) l[i]!.r.name l[i]!.r.v 0<0):=by
 have hi:BA l[i]!.r.name l[i]!.r.v l[i]! =true:=by unfold BA;rw[zE hv,aY rfl];rfl
 apply lv.2;rw[Qg];constructor
 .intro he x hx;obtain⟨j,hj,rfl⟩:=List.mem_take_iff_getElem.1 hx;have hj2:j<i:=ae;unfold qt at he;rw[dN]at he;cases hf:l.findIdx? (BA l[i]!.r.name l[i]!.r.v)with
  |none=>rw[hf]at he;simp only at he;omega
  |some k=>
   rw[hf]at he;obtain⟨h1,h2,h3⟩:=List.findIdx?_eq_some_iff_getElem.1 hf;have hk:k=i:=by simp only at he;omega
   subst hk;have:=h3 j hj2;simpa using this
 .intro hx;unfold qt;rw[dN];have:l.findIdx? (BA l[i]!.r.name l[i]!.r.v)=some i:=by
   rw[List.findIdx?_eq_some_iff_getElem];refine⟨h,by simpa[h]using hi,λj hj=>?_⟩;have:=hx l[j] (List.mem_take_iff_getElem.2 ⟨j,ae,rfl⟩);rw[this];decide
  rw[this];simp
theorem XW {l:ω}{i:Nat}(h:i<l.length)(h1:(fJ l[i]!.r).2=0)(h2:wQ l[i]!.r=l[i]!.sum)(h3:qt l l[i]!.r.name l[i]!.r.v 0=(i:Nat)):sy l i=true:=by
 grind [GL,DV,sy]
theorem ad6 {l:ω}{i:Nat}(h:i<l.length)(h1:(¬(fJ l[i]!.r).2=0\/¬wQ l[i]!.r=l[i]!.sum)\/¬qt l l[i]!.r.name l[i]!.r.v 0=(i:Nat)):sy l i=false:=by
 grind [sy,fJ,wQ,GL,DV]
theorem afK {s:bz}(h:gA s=true):s.name.length<=16/\s.es.length<=64:=by
 grind [gA,di]
def HL (a b:Int):Int:=IntKind.i64.wrap ((BitVec.ofInt 64 a&&&BitVec.ofInt 64 b).toNat)
def bvN (a b:Int):Int:=IntKind.i64.wrap ((BitVec.ofInt 64 a&&& ~~~ BitVec.ofInt 64 b).toNat)
def bvO (a b:Int):Int:=IntKind.i64.wrap ((BitVec.ofInt 64 a |||BitVec.ofInt 64 b).toNat)
def ov (u:Int):Int:=if u<0\/(us.length:Int)<=u then 0 else 2^(us[u.toNat]!.ar.length+1) -1
def rh (cs:Lak)(s:cy):Nat->Int
 |0=>0
 |k+1=>if pg s cs[k]!.v=true then rh cs s k+2^(k+1)else rh cs s k
def uZ (w:Want):Int:=if w.u<0\/(us.length:Int)<=w.u then 0 else rh us[w.u.toNat]!.ar w.s us[w.u.toNat]!.ar.length
def nr (us:Η):ρ->Int->Int
 |[],u=>ov us u
 |t::r,u=>if t.u=u then t.m else nr us r u
def trmB (t:ek):Bool:=decide (t.m≠0)&&decide (HL t.m (ov us t.u)=t.m)&&decide (t.m≠ov us t.u)
def OA (l:ρ):Bool:=bK (λi=>trmB us l[i]! && !(decide (0<i)&&decide (l[i]!.u<=l[i-1]!.u))) 0 l.length
def VF (k:Nat):(2:Int)^k=((2^k:Nat):Int):=by
 induction k with
 |zero=>rfl
 |succ k ih=>rw[Int.pow_succ,ih,Nat.pow_succ];omega
def alH (h:k<=n):(2:Int)^k<=2^n:=by
 rw[VF,VF];exact Int.ofNat_le.2 (Nat.pow_le_pow_right aX h)
def qu (k:Nat):(1:Int)<=2^k:=by
 rw[VF];have:=Nat.one_le_two_pow (n:=k);omega
def GM (h:k<=40):(2:Int)^k<=1099511627776:=alH h
def P1 (cs:Lak)(s:cy):∀k,0<=rh cs s k/\rh cs s k<=2^(k+1) -2
 |0=>by simp[rh]
 |k+1=>by
  have ih:=P1 cs s k;have h1:(2:Int)^(k+1+1)=2^(k+1)*2:=Int.pow_succ 2 (k+1);have h2:=qu (k+1);rw[rh];split<;>omega
def sureB (row:jx)(k:Int)(w:Want):Bool:=if w.u=row.unit then decide (HL (uZ us w) (2^(k+1).toNat)≠0)else decide (bvN (nr us row.terms w.u) (uZ us w)=0)
def lostB (row:jx)(k:Int)(w:Want):Bool:=if w.u=row.unit then decide (HL (uZ us w) (2^(k+1).toNat)=0)else decide (HL (uZ us w) (nr us row.terms w.u)=0)
def InR (x:Int):Prop:=-9223372036854775808<=x/\x<=9223372036854775807
def TX (x:BitVec 64):IntKind.i64.wrap (x.toNat:Int)=x.toInt:=by
 have h:=x.isLt;have e:IntKind.i64.wrap (x.toNat:Int)=if decide ((x.toNat:Int)%18446744073709551616≥9223372036854775808)=true then(x.toNat:Int)%18446744073709551616-18446744073709551616 else(x.toNat:Int)%18446744073709551616:=rfl
 rw[e,BitVec.toInt_eq_toNat_cond];simp only[aT];split<;>split<;>omega
def M1 {m:Int}(h:InR m):(BitVec.ofInt 64 m).toInt=m:=by
 obtain⟨h1,h2⟩:=h;rw[BitVec.toInt_ofInt,Int.bmod_def];split<;>omega
def Xy (a b:Int):HL a b=(BitVec.ofInt 64 a&&&BitVec.ofInt 64 b).toInt:=TX _
def aiT (a b:Int):bvO a b=(BitVec.ofInt 64 a |||BitVec.ofInt 64 b).toInt:=TX _
def adv {i:Nat}(h0:0<=a)(h1:a<2^i)(hi:i<=40):bvO a (2^i)=a+2^i:=by
 have hp:=GM hi;obtain⟨n,rfl⟩:∃n:Nat,a=(n:Int):=⟨a.toNat,ae⟩
 rw[VF]at h1 hp⊢;have h2:n<2^i:=ae;have hl:(2:Nat)^i<=1099511627776:=ae;have e:(BitVec.ofInt 64 (n:Int) |||BitVec.ofInt 64 ((2^i:Nat):Int)).toNat=n+2^i:=by
  rw[BitVec.toNat_or,BitVec.toNat_ofInt,BitVec.toNat_ofInt];have h3:((n:Int)%((2^64:Nat):Int)).toNat=n:=ae;have h4:(((2^i:Nat):Int)%((2^64:Nat):Int)).toNat=2^i:=ae;rw[h3,h4,Nat.or_comm];have:=Nat.two_pow_add_eq_or_of_lt h2 1;simp only[Nat.mul_one]at this;omega
 unfold bvO;rw[e,wrap_i64 ae ae];omega
def gp {α:Type}(f:α->Bool):List α->Nat->Int
 |[],_=>-1
 |x::r,i=>if f x=true then(i:Int)else gp f r (i+1)
def kX [Inhabited α]{f:α->Bool}{l:List α}{i:Nat}(hi:i<l.length)(h:f l[i]! =true):gp f (l.drop i) i=i:=by
 rw[fD hi,gp,ak (by simpa[hi]using h)]
def jC [Inhabited α]{f:α->Bool}{l:List α}{i:Nat}(hi:i<l.length)(h:f l[i]! =false):gp f (l.drop i) i=gp f (l.drop (i+1)) (i+1):=by
 rw[fD hi,gp,ah (by simpa[hi]using h)]
def mB {f:α->Bool}{l:List α}{i:Nat}(hi:l.length<=i):gp f (l.drop i) i=-1:=by
 rw[kA hi,gp]
def fB (b:Bool)(us:Η)(row:jx)(k:Int)(w:Want):Bool:=if b=true then sureB us row k w else !lostB us row k w
def afw (row:jx)(k:Int)(r:mT):Bool:=!r.any (fB false us row k)
def saysP (row:jx)(k:Nat)(mild:Bool):Bool:=if mild=true then us[row.unit.toNat]!.ar[k]!.bars.any (fB true us row (k:Int))else us[row.unit.toNat]!.ar[k]!.needs.any (afw us row (k:Int))
def eI.fz (l k:Nat)(es:Θ)(c:eI):jj l k es c.D=c.D:=ij l k es _ (by simp only[eI.D,D.aV,aP,gW])
def wY.fz (l k:Nat)(es:Θ)(c:wY):jj l k es c.D=c.D:=ij l k es _ (by simp only[wY.D,D.aV,aP,gW])
def jx.fz (l k:Nat)(es:Θ)(c:jx):jj l k es c.D=c.D:=ij l k es _ (by simp only[jx.D,D.aV,aP,gW])
def hasU (l:ρ)(u:Int):Bool:=l.any λt=>decide (t.u=u)
def Sg (row:jx)(mild:Bool):Bool:=hasU row.terms row.unit&&decide (HL (nr us row.terms row.unit) 1=0)&&bK (λk=>decide (HL (nr us row.terms row.unit) (2^(k+1))=0) ||saysP us row k mild) 0 us[row.unit.toNat]!.ar.length
def bothU (A B:ρ)(row:jx)(u:Nat):Bool:=decide (bvN (nr us row.terms (u:Int)) (if(u:Int)=row.unit then bvO (nr us A (u:Int)) (nr us B (u:Int))else HL (nr us A (u:Int)) (nr us B (u:Int)))=0)
def bothP (c:wY)(row:jx)(i:Int):Bool:=decide (ov c.w.us row.unit≠0)&&(decide (0<=row.a)&&decide (row.a<i))&&(decide (0<=row.b)&&decide (row.b<i))&&(OA c.w.us c.rows[row.a.toNat]!.terms&&OA c.w.us c.rows[row.b.toNat]!.terms)&&bK (bothU c.w.us c.rows[row.a.toNat]!.terms c.rows[row.b.toNat]!.terms row) 0 c.w.us.length
def askP (c:wY)(row:jx):Bool:=decide (ov c.w.us row.unit≠0)&&decide (row.unit<c.allow.length)&&decide (HL (nr c.w.us row.terms row.unit) c.allow[row.unit.toNat]! =0)
def kindP (c:wY)(row:jx)(i:Int):Bool:=if row.kind=5 then bothP c row i else decide (row.a=0)&&decide (row.b=0)&&(if row.kind=1 then decide (row.unit=0)&&decide (nr c.w.us row.terms 0=1)else if row.kind=2\/row.kind=3 then Sg c.w.us row (decide (row.kind=3))else if row.kind=4 then askP c row else false)
def akF (c:wY)(i:Int):Bool:=decide (0<=i)&&decide (i<c.rows.length)&&OA c.w.us c.rows[i.toNat]!.terms&&kindP c c.rows[i.toNat]! i
def mU (f:Nat->Bool):Nat->Nat->Nat
 |0,i=>i
 |k+1,i=>if f i=true then mU f k (i+1)else i
def HF {f:Nat->Bool}{i:Nat}(hi:i<n)(h:f i=true):mU f (n-i) i=mU f (n-(i+1)) (i+1):=by
 obtain⟨k,hk⟩:∃k,n-i=k+1:=⟨n-i-1,ae⟩
 rw[hk,mU,ak h,show k=n-(i+1)by omega]
def R3 {f:Nat->Bool}{i:Nat}(hi:i<n)(h:f i=false):mU f (n-i) i=i:=by
 obtain⟨k,hk⟩:∃k,n-i=k+1:=⟨n-i-1,ae⟩
 rw[hk,mU,ah (by rw[h];exact Bool.false_ne_true)]
def LY {f:Nat->Bool}{i:Nat}(hi:n<=i):mU f (n-i) i=i:=by
 rw[show n-i=0 by omega,mU]
def adu (a b:Int):InR (HL a b):=by
 rw[Xy];have h1:=BitVec.le_toInt (BitVec.ofInt 64 a&&&BitVec.ofInt 64 b);have h2:=BitVec.toInt_lt (x:=BitVec.ofInt 64 a&&&BitVec.ofInt 64 b);exact⟨by simpa using h1,by have:=h2;simp at this;omega⟩
def EE (hb:b=(n:Int))(hn:n<=39):IntKind.i64.wrap (2*2^(min b.toNat IntKind.i64.bits))=2^(n+1):=by
 subst hb;have h:=GM (k:=n+1) ae;have h2:=qu n;rw[Int.pow_succ]at h;rw[show min (Int.toNat (n:Int)) IntKind.i64.bits=n from Nat.min_eq_left (by simp only[IntKind.bits];omega),Int.pow_succ,Int.mul_comm];exact wrap_i64 ae ae
def n7 [Inhabited α]{l:List α}{i:Nat}(h:i<l.length):l.take i++[l[i]!]=l.take (i+1):=by
 rw[List.take_succ,show l[i]? =some l[i]! by simp[h]];rfl
def bitI (m:Int)(i:Nat):Bool:=decide (IntKind.i64.wrap ((BitVec.ofInt 64 (m.fdiv (2^(min (i:Int).toNat 64))))&&&(BitVec.ofInt 64 1)).toNat=1)
def Xb (n:Nat)(s:cy):Prop:=s.sm/\s.rel.length<=n/\s.pr.length<=n
def Xb.s {s:cy}(h:Xb n s)(hn:n<=1000):SetS s:=⟨⟨h.1.1,fC h.2.1 hn⟩,⟨h.1.2,fC h.2.2 hn⟩⟩
def Xb.mono {s:cy}(h:Xb n s)(hn:n<=k):Xb k s:=⟨h.1,fC h.2.1 hn,fC h.2.2 hn⟩
inductive NF where
 |nil|sl (l:Laf)|own (k:Nat)
 deriving Inhabited
inductive BF where
 |nil|sl (l:θ)|own (k:Nat)
 deriving Inhabited
def NF.D (e:Nat):NF->D
 | .nil=>.aO
 | .sl l=>.sl 1 (l.map jP)
 | .own k=>.own e 1 0 k
def BF.D (e:Nat):BF->D
 | .nil=>.aO
 | .sl l=>.sl 3 (l.map Want.D)
 | .own k=>.own e 3 0 k
structure CW where
 v:b6
 sh:Int
 n:NF
 b:BF
 deriving Inhabited
def CW.D (e:Nat)(c:CW):D:=.agg [.int .i64 c.v.major,.int .i64 c.v.minor,.int .i64 c.v.patch,.str c.v.pre,.str c.v.build,.int .i64 c.sh,c.n.D e,c.b.D e]
def NF.pl:NF->Bool
 | .own _=>false
 |_=>true
def BF.pl:BF->Bool
 | .own _=>false
 |_=>true
def CW.pl (c:CW):Bool:=c.n.pl&&c.b.pl
def CW.aV {e:Nat}{c:CW}(h:c.pl=true):(c.D e).aV=true:=by
 obtain⟨v,sh,n,b⟩:=c;cases n<;>cases b<;>first|(simp[CW.pl,NF.pl,BF.pl]at h;done)|rfl
theorem CW.rn {e e' lo:Nat}(h:m8 lo σ e=some e')(c:CW):tW lo σ (c.D e)=some (c.D e'):=by
 obtain⟨v,sh,n,b⟩:=c;cases n<;>cases b<;>simp[CW.D,NF.D,BF.D,tW,ru,Wa,h]
def CsOk (n:Nat)(cs:Nat->List CW):Prop:=(2<=n/\n<=8)/\∀t,(cs t).length<=4/\∀c∈cs t,c.v.sm
def Want.fz (l k:Nat)(es:Θ)(w:Want):jj l k es w.D=w.D:=ij l k es _ (by simp only[Want.D,D.aV,aP,gW])
def Gs.fz (l k:Nat)(es:Θ)(g:Gs):jj l k es g.D=g.D:=ij l k es _ (by simp only[Gs.D,D.aV,aP,gW])
structure RU where
 name:aw
 feat:aw
 cs:List CW
 deriving Inhabited
def rawC (v:b6):CW:=⟨v,0,.nil,.nil⟩
def Xr (m:Int):Nat->List b6
 |0=>[]
 |i+1=>if bitI m i=true then Xr m i++[bQ[i]!]else Xr m i
def RU.pl (u:RU):=∀c∈u.cs,c.pl=true
def Gs.TS (g:Gs)(n:Int):(1<=n->0<=g.val n/\g.val n<n)/\(n<1->g.val n=0):=⟨λh=>jG _ _ h,λh=>by simp only[Gs.val,jl];rw[ak h]⟩
variable(g:Gs)
def CInv (vs:Nat->List b6)(B:Nat->List CW):=∀t,(B t).map CW.v=vs t/\∀c∈B t,c.pl=true
def CInv.len {B:Nat->List CW}(h:CInv vs B):(λj=>(B j).length)=λj=>(vs j).length:=by
 funext j;rw[<-(h j).1,bj]
def NF.p:NF->Laf
 | .sl l=>l
 |_=>[]
def BF.p:BF->θ
 | .sl l=>l
 |_=>[]
def CW.p (c:CW):eI:=⟨c.v,c.sh,c.n.p,c.b.p⟩
variable{B:Nat->List CW}
def Xe (vs:Nat->List b6)(B:Nat->List CW):=∀t,(B t).map CW.v=vs t
def CInv.v (h:CInv vs B):Xe vs B:=λt=>(h t).1
def Xe.len (h:Xe vs B):(λj=>(B j).length)=λj=>(vs j).length:=by
 funext j;rw[<-h j,bj]
def VsOk (vs:Nat->List b6):=∀t,(vs t).length<=4/\∀v∈vs t,v.sm
def Xe.ok (h:Xe vs B)(hn:2<=n/\n<=8)(hv:VsOk vs):CsOk n B:=by
 refine⟨hn,λt=>⟨?_,λc hc=>?_⟩⟩
 .have:=(hv t).1;rw[<-h t,bj]at this;exact this
 .exact(hv t).2 _ (by rw[<-h t];exact List.mem_map_of_mem hc)
def bP.fz (l k:Nat)(es:Θ)(w:bP):jj l k es w.D=w.D:=ij l k es _ rfl
variable(w:bP)
theorem ek.eq (a b:ek):ig (ek.D a).cells (ek.D b).cells=decide (a=b):=by
 cases a;cases b
 grind [ek.D,D.cells,ig,B9]
def iW (i:Nat):Δ:=(List.range i).map λu=>ov us ((u:Nat):Int)
def Py (i:Nat):(iW us i).length=i:=by simp[iW]
def Px (i:Nat):iW us i++[ov us ((i:Nat):Int)]=iW us (i+1):=by
 simp[iW,List.range_succ]
def stI64 {xs:Δ}{i:Nat}(h:i<xs.length)(v:Int):(xs.map (D.int .i64)).set i (tj ((xs.map (D.int .i64)).getD i .any) 1 1 0 (.int .i64 v))=(xs.set i v).map (D.int .i64):=by
 rw[getD_map h,List.map_set];rfl
def Few:=∀u∈us,∀c∈u.ar,c.needs.length<=1000/\c.bars.length<=1000/\∀r∈c.needs,r.length<=1000
structure Prv where
 w:bP
 facts:List jx
 x:D
def Prv.D (p:Prv):Abs.D:=.agg [.sl 3 (p.w.us.map cN.D),.sl 5 (p.facts.map jx.D),p.x]
def bt (m:Int)(i:Nat):Bool:=(BitVec.ofInt 64 m).getLsbD i
def ofInt_toInt (x:BitVec 64):BitVec.ofInt 64 x.toInt=x:=BitVec.ofInt_toInt
def Xt (a b:Int)(i:Nat):bt (HL a b) i=(bt a i&&bt b i):=by
 unfold bt;rw[Xy,ofInt_toInt,BitVec.getLsbD_and]
def bt_or (a b:Int)(i:Nat):bt (bvO a b) i=(bt a i ||bt b i):=by
 unfold bt;rw[aiT,ofInt_toInt,BitVec.getLsbD_or]
def aiR (ha:InR a)(hb:InR b)(h:∀i,bt a i=bt b i):a=b:=by
 have e:BitVec.ofInt 64 a=BitVec.ofInt 64 b:=by
  ext i hi
  have:=h i;unfold bt at this
  rwa [BitVec.getLsbD_eq_getElem hi,BitVec.getLsbD_eq_getElem hi]at this
 rw[<-M1 ha,<-M1 hb,e]
def InR0:InR 0:=⟨aX,aX⟩
def HK (i:Nat):bt 0 i=false:=by unfold bt;simp
def Xz:HL a b=0↔∀i,¬(bt a i=true/\bt b i=true):=by
 constructor
 .intro h i hi;have:=Xt a b i;rw[h,HK,hi.1,hi.2]at this;exact absurd this aX
 .intro h;refine aiR (adu _ _) InR0 λi=>?_
  rw[Xt,HK];have:=h i;revert this;cases bt a i<;>cases bt b i<;>simp
def aiS:HL a b≠0↔∃i,bt a i=true/\bt b i=true:=by
 rw[Ne,Xz];constructor
 .intro h;exact Classical.byContradiction λg=>h λi hi=>g ⟨i,hi⟩
 .rintro⟨i,hi⟩ h;exact h i hi
def Pj (hk:k<=40)(i:Nat):bt (2^k) i=decide (i=k):=by
 unfold bt;rw[VF];have hl:(2:Nat)^k<=1099511627776:=by
  have:=GM hk;rw[VF]at this;omega
 rw[show BitVec.ofInt 64 ((2^k:Nat):Int)=BitVec.ofNat 64 (2^k)from BitVec.ofInt_natCast ..];rw[BitVec.getLsbD_ofNat,Nat.testBit_two_pow];by_cases e:k=i
 .subst e;simp;omega
 .rw[bA e,Bool.and_false,bA (λh=>e h.symm)]
def R9 (cs:Lak)(s:cy)(i:Nat):∀k,k<=16->bt (rh cs s k) i=(decide (1<=i)&&decide (i<=k)&&pg s cs[i-1]!.v)
 |0,_=>by
  rw[rh,HK];by_cases h:1<=i
  .rw[bA (show ¬i<=0 by omega)];simp
  .rw[bA h];rfl
 |k+1,hk=>by
  have ih:=R9 cs s i k ae;have hr:=P1 cs s k;rw[rh];split
  .rename_i h;rw[<-adv hr.1 (by have:=qu (k+1);omega) ae,bt_or,ih,Pj ae];by_cases e:i=k+1
   .subst e;rw[show k+1-1=k from rfl,h];simp
   .rw[bA e,Bool.or_false];congr 2;rw[lv];omega
  .rename_i h;rw[ih];by_cases e:i=k+1
   .subst e;simp only[Bool.not_eq_true]at h;rw[show k+1-1=k from rfl,h];simp
   .congr 2;rw[lv];omega
def Xu {us:Η}{w:Want}{u:Nat}(hw:w.u=((u:Nat):Int))(hu:u<us.length)(hs:∀x∈us,x.ar.length<=16)(i:Nat):bt (uZ us w) i=(decide (1<=i)&&decide (i<=us[u]!.ar.length)&&pg w.s us[u]!.ar[i-1]!.v):=by
 have hc:=hs _ (aq hu);unfold uZ;rw[ah ae,hw];exact R9 _ _ _ _ hc
abbrev S16:Prop:=∀x∈us,x.ar.length<=16
def aia (allow:Δ)(r:jx):Prop:=OA us r.terms=true/\(r.a=0/\r.b=0)/\(0<=r.unit/\r.unit<us.length)/\
 (r.kind=1/\r.unit=0/\nr us r.terms 0=1\/(r.kind=2\/r.kind=3)/\Sg us r (decide (r.kind=3))=true\/r.kind=4/\r.unit<allow.length/\HL (nr us r.terms r.unit) allow[r.unit.toNat]! =0)
abbrev AllOK (allow:Δ)(rows:List jx):Prop:=∀x∈rows,aia us allow x
def COK (c:Δ):Prop:=c.length<=us.length/\∀u,u<c.length->-1<=c[u]! /\c[u]! <us[u]!.ar.length
def vb (c:Δ)(u:Nat):Nat:=(c[u]! +1).toNat
def W8 (allow:Δ)(rows:List jx):=∀i,i<rows.length->akF ⟨w,allow,rows⟩ ((i:Nat):Int)=true
def Near (c:Δ)(k:Nat)(l:ρ):Prop:=OA us l=true/\(∀t∈l,t.u<c.length+1)/\(∀u,u<c.length->bt (nr us l ((u:Nat):Int)) (vb c u)=true)/\∀j,j<k->bt (nr us l ((c.length:Nat):Int)) j=true
def COK.app {us:Η}{i:Int}(h:COK us c)(hl:c.length<us.length)(h1:-1<=i)(h2:i<us[c.length]!.ar.length):COK us (c++[i]):=by
 refine⟨fM,λu hu=>?_⟩;rw[cx,List.length_singleton]at hu;rcases dX u c.length with h3|h3
 .rw[List.getElem!_eq_getElem?_getD,List.getElem?_append_left h3,<-List.getElem!_eq_getElem?_getD];exact h.2 u h3
 .obtain rfl:u=c.length:=ae;simp only[List.getElem!_eq_getElem?_getD,List.getElem?_concat_length,Option.getD_some]at*
  exact⟨h1,h2⟩
section
def subsV:List (List b6):=(List.range 16).map λm=>Xr ((m:Nat):Int) 4
set_option maxRecDepth 10000
def sA:∀v∈bQ,wL (dS v)=true/\gN v=true:=by decide+kernel
def RU.ok (u:RU):Prop:=u.name≠[]/\∃vs,vs∈subsV/\u.cs=vs.map rawC
def SInv (al c:Δ)(k:Nat)(now:Int)(R:List jx):Prop:=W8 w al R/\(k=0/\now=-1\/0<k/\(0<=now/\now<R.length)/\Near w.us c k R[now.toNat]!.terms)/\R.length<=5100+2*k
def NPre (al:Δ)(facts:List jx)(c:Δ)(rows:List jx):Prop:=((w.sm/\S16 w.us/\w.us.length<=48)/\AllOK w.us al facts)/\(COK w.us c/\W8 w al rows)/\rows.length<=100000
def NPre.app {w:bP}{al:Δ}{facts:List jx}{c:Δ}{rows R:List jx}{k:Nat}(h:NPre w al facts c rows)(hl:c.length<w.us.length)(hk:k<w.us[c.length]!.ar.length+1){now:Int}(hI:SInv w al c k now R):NPre w al facts (c++[((k:Nat):Int) -1]) R:=by
 have h16:=h.1.1.2.1 _ (aq hl);exact⟨h.1,⟨h.2.1.1.app hl ae ae,hI.1⟩,by have:=hI.2.2;omega⟩
def ahc (r:jx):jx:=⟨r.kind,r.unit,r.b,r.a,r.terms⟩
def Xd (L R:List jx):Prop:=R.length=L.length/\∀k,k<L.length->R[k]! =L[k]! \/(L[k]!.kind=5/\R[k]! =ahc L[k]!)
def abf {xs:List jx}{i u:Nat}{v:jx}(hu:u<xs.length):(xs.set i v)[u]! =if i=u then v else xs[u]! :=by
 simp only[List.getElem!_eq_getElem?_getD,List.getElem?_set];split
 .rename_i h;subst h;rw[ak hu];rfl
 .rfl
def Xd.step {L R:List jx}{i:Nat}(h:Xd L R)(hi:i<L.length)(hk:R[i]!.kind=5):Xd L (R.set i (ahc R[i]!)):=by
 refine⟨by rw[List.length_set];exact h.1,λk hk2=>?_⟩;rw[abf (by rw[h.1];exact hk2)];split
 .rename_i e;subst e;rcases h.2 i hi with h1|⟨h1,h2⟩
  .exact .inr ⟨by rw[<-h1];exact hk,by rw[h1]⟩
  .exact .inl (by rw[h2];rfl)
 .exact h.2 k hk2
end
def Ur (κ:Nat->Nat)(x:Want):Prop:=bt (uZ us x) (κ x.u.toNat)=true
structure SolP (us:Η)(κ:Nat->Nat):Prop where
 pos:0<us.length
 root:κ 0≠0
 le:∀u,u<us.length->κ u<=us[u]!.ar.length
 needs:∀u,u<us.length->κ u≠0->∀r∈us[u]!.ar[κ u-1]!.needs,∃x∈r,Ur us κ x
 bars:∀u,u<us.length->κ u≠0->∀x∈us[u]!.ar[κ u-1]!.bars,¬Ur us κ x
 inU:∀u,u<us.length->κ u≠0->(∀r∈us[u]!.ar[κ u-1]!.needs,∀x∈r,0<=x.u/\x.u<us.length)/\∀x∈us[u]!.ar[κ u-1]!.bars,0<=x.u/\x.u<us.length
def bt_p {i:Nat}(hk:k<=40)(h:i=k):bt (2^k) i=true:=by
 rw[Pj hk];simpa using h
def CG {f:Nat->Bool}:∀k i,¬mU f k i<i+k->∀j,i<=j->j<i+k->f j=true
 |0,i,_,j,h1,h2=>ae
 |k+1,i,h,j,h1,h2=>by
  rw[mU]at h;split at h
  .rename_i e;by_cases q:j=i
   .subst q;exact e
   .exact CG k (i+1) (by rw[show i+1+k=i+(k+1)by omega];exact h) j ae ae
  .omega
def eN (l:θ):ρ:=l.map λx=>⟨x.u,uZ us x⟩
structure kB where
 full:Δ
 needs:List (δ)
 bars:δ
 deriving Inhabited
def Jj (l:ρ):D:=.sl 2 (l.map ek.D)
def pj (l:Laj):D:=.sl 1 (l.map Jj)
def qA (l:δ):D:=.sl 1 (l.map pj)
def kB.D (m:kB):D:=.agg [.sl 1 (m.full.map (D.int .i64)),.sl 1 (m.needs.map qA),.sl 1 (m.bars.map pj)]
def lj (l:Laf):Laj:=l.map (eN us)
def eW (cs:Lak):δ:=cs.map λc=>lj us c.needs
def jL (cs:Lak):Laj:=cs.map λc=>eN us c.bars
def eM (i:Nat):List (δ):=(us.take i).map λu=>eW us u.ar
def jK (i:Nat):δ:=(us.take i).map λu=>jL us u.ar
def dG:kB:=⟨iW us us.length,eM us us.length,jK us us.length⟩
def DH (c:Δ)(x:ek):Bool:=decide (0<=c[x.u.toNat]!)&&decide (HL x.m (2^(c[x.u.toNat]!.toNat+1))≠0)
def kF (c:Δ)(l:ρ):Bool:=pd (λi=>DH c l[i]!) 0 l.length
def Yg (m:kB)(c:Δ)(u:Nat):Bool:=decide (c[u]! <0) ||(bK (λk=>kF c m.needs[u]![c[u]!.toNat]![k]!) 0 m.needs[u]![c[u]!.toNat]!.length&& !kF c m.bars[u]![c[u]!.toNat]!)
def CZ (m:kB)(c:Δ):Bool:=decide (0<=c[0]!)&&bK (Yg m c) 0 c.length
def ChP (c:Δ):Prop:=c.length=us.length/\∀u,u<us.length->-1<=c[u]! /\c[u]! <us[u]!.ar.length
def AD (c:Δ)(u:Nat):Nat:=(c[u]! +1).toNat
def eu {β:Type}[Inhabited α][Inhabited β]{f:α->β}{l:List α}{i:Nat}(h:i<l.length):(l.map f)[i]! =f l[i]! :=by simp[h]
def MQ {us:Η}{x:Want}(hs:∀x∈us,x.ar.length<=16)(hc:ChP us c)(h0:0<=x.u)(h1:x.u<us.length):DH c ⟨x.u,uZ us x⟩=true↔Ur us (AD c) x:=by
 obtain⟨u,hu⟩:∃u:Nat,x.u=((u:Nat):Int):=⟨x.u.toNat,ae⟩
 have hul:u<us.length:=ae;have hcu:=hc.2 u hul;have h16:=hs _ (aq hul);unfold DH Ur AD;dsimp only;rw[hu,Int.toNat_natCast,aD,aT,aT,aiS];constructor
 .rintro⟨h2,i,h3,h4⟩;rw[Pj ae]at h4;obtain rfl:i=c[u]!.toNat+1:=by simpa using h4
  rw[show(c[u]! +1).toNat=c[u]!.toNat+1 by omega];exact h3
 .intro h2;have h3:=h2;rw[Xu hu hul hs]at h3;simp only[aD,aT]at h3;refine⟨ae,(c[u]! +1).toNat,h2,bt_p ae ae⟩
def Mv {l:ρ}:kF c l=true↔∃x∈l,DH c x=true:=by
 unfold kF;rw[xe];constructor
 .rintro⟨j,_,h2,h3⟩;exact⟨_,aq h2,h3⟩
 .rintro⟨x,hx,h⟩;obtain⟨j,hj,rfl⟩:=List.mem_iff_getElem.1 hx;exact⟨j,Nat.zero_le _,hj,by simpa[hj]using h⟩
def E5 {w:bP}(h:eK w=true){u:Nat}(hu:u<w.us.length)(hk:k<w.us[u]!.ar.length):(∀r∈w.us[u]!.ar[k]!.needs,∀x∈r,0<=x.u/\x.u<w.us.length)/\∀x∈w.us[u]!.ar[k]!.bars,0<=x.u/\x.u<w.us.length:=by
 unfold eK at h;rw[aD,bw]at h;have h3:=h.2 u ae hu;unfold lJ at h3;rw[aD,bw]at h3;have h4:=h3.2 k ae hk;unfold nj at h4;simp only[aD]at h4;have h5:=h4.1.2;unfold nd at h5;simp only[aD,aT]at h5;have hw:∀(l:θ),pU (w.us.length:Int) l=true->∀x∈l,0<=x.u/\x.u<w.us.length:=by
  intro l hl x hx;unfold pU at hl;rw[bw]at hl;obtain⟨j,hj,rfl⟩:=List.mem_iff_getElem.1 hx;have:=hl j ae hj;unfold tn at this;simp only[hj,getElem!_pos,aD,aT]at this;omega
 refine⟨λr hr=>?_,hw _ h5.2⟩;have h6:=h5.1.2;rw[bw]at h6;obtain⟨j,hj,rfl⟩:=List.mem_iff_getElem.1 hr;have:=h6 j ae hj;unfold rX at this;simp only[hj,getElem!_pos,aD]at this;exact hw _ this.1
def Zz {us:Η}{u:Nat}(hu:u<us.length)(hk:k<us[u]!.ar.length):(dG us).needs[u]![k]! =lj us us[u]!.ar[k]!.needs:=by
 unfold dG eM eW;dsimp only;rw[List.take_length,eu hu,eu hk]
def adj {us:Η}{u:Nat}(hu:u<us.length)(hk:k<us[u]!.ar.length):(dG us).bars[u]![k]! =eN us us[u]!.ar[k]!.bars:=by
 unfold dG jK jL;dsimp only;rw[List.take_length,eu hu,eu hk]
def amn {w:bP}(hw:eK w=true)(hs:∀x∈w.us,x.ar.length<=16)(hc:ChP w.us c)(h:CZ (dG w.us) c=true):SolP w.us (AD c):=by
 have hpos:0<w.us.length:=by
  unfold eK at hw;simp only[aD,aT]at hw;omega
 unfold CZ at h;rw[aD,aT,bw,hc.1]at h;obtain⟨h0,hf⟩:=h;have hk:∀u,u<w.us.length->AD c u≠0->c[u]!.toNat=AD c u-1/\AD c u-1<w.us[u]!.ar.length/\bK (λk=>kF c (lj w.us w.us[u]!.ar[AD c u-1]!.needs)[k]!) 0 (lj w.us w.us[u]!.ar[AD c u-1]!.needs).length=true/\kF c (eN w.us w.us[u]!.ar[AD c u-1]!.bars)=false:=by
  intro u hu hk;have hcu:=hc.2 u hu;have h1:=hf u (Nat.zero_le _) hu;have e:c[u]!.toNat=AD c u-1:=by unfold AD at*;omega
  have hl:AD c u-1<w.us[u]!.ar.length:=by unfold AD at*;omega
  unfold Yg at h1;rw[dk,aT]at h1;have h2:=h1.resolve_left (by unfold AD at hk;omega);rw[e,Zz hu hl,adj hu hl]at h2;rw[aD,b8]at h2;exact⟨e,hl,h2.1,h2.2⟩
 have hin:∀u,u<w.us.length->AD c u≠0->(∀r∈w.us[u]!.ar[AD c u-1]!.needs,∀x∈r,0<=x.u/\x.u<w.us.length)/\∀x∈w.us[u]!.ar[AD c u-1]!.bars,0<=x.u/\x.u<w.us.length:=λu hu h=>E5 hw hu (hk u hu h).2.1
 refine⟨hpos,by unfold AD;omega,λu hu=>?_,λu hu hk0 r hr=>?_,λu hu hk0 x hx hm=>?_,hin⟩
 .have:=hc.2 u hu;unfold AD;omega
 .have h1:=(hk u hu hk0).2.2.1;rw[bw]at h1;obtain⟨j,hj,rfl⟩:=List.mem_iff_getElem.1 hr;have h2:=h1 j (Nat.zero_le _) (by unfold lj;simpa using hj);unfold lj at h2;rw[eu hj,Mv]at h2;obtain⟨y,hy,hm⟩:=h2;unfold eN at hy;obtain⟨x,hx,rfl⟩:=bI.1 hy;simp only[hj,getElem!_pos]at hx;have:=(hin u hu hk0).1 _ hr x hx;exact⟨x,hx,(MQ hs hc this.1 this.2).1 hm⟩
 .have h1:=(hk u hu hk0).2.2.2;have hi:=(hin u hu hk0).2 x hx;have:kF c (eN w.us w.us[u]!.ar[AD c u-1]!.bars)=true:=Mv.2 ⟨_,bI.2 ⟨x,hx,rfl⟩,(MQ hs hc hi.1 hi.2).2 hm⟩;rw[h1]at this;cases this
def akg (l k:Nat)(es:Θ)(xs:Laj):pf l k es (xs.map Jj)=xs.map Jj:=ki l k es _ (cg (λ_=>rfl) _)
def aeg (l k:Nat)(es:Θ)(xs:δ):pf l k es (xs.map pj)=xs.map pj:=ki l k es _ (cg (λ_=>rfl) _)
def Yp (l k:Nat)(es:Θ)(xs:List (δ)):pf l k es (xs.map qA)=xs.map qA:=ki l k es _ (cg (λ_=>rfl) _)
def aef (l k:Nat)(es:Θ)(xs:Δ):pf l k es (xs.map (D.int .i64))=xs.map (D.int .i64):=ki l k es _ (cg (λ_=>rfl) _)
def Wo {us:Η}{l:θ}{i:Nat}(h:i<l.length):eN us (l.take i)++[⟨l[i]!.u,uZ us l[i]!⟩]=eN us (l.take (i+1)):=by
 unfold eN;rw[<-n7 h];simp
def Wp (l:θ)(i:Nat):(eN us (l.take i)).length<=i:=by
 unfold eN;rw[bj,eE];omega
def Wb {us:Η}{l:Laf}{i:Nat}(h:i<l.length):lj us (l.take i)++[eN us l[i]!]=lj us (l.take (i+1)):=by
 unfold lj;rw[<-n7 h];simp
def Wc (l:Laf)(i:Nat):(lj us (l.take i)).length<=i:=by
 unfold lj;rw[bj,eE];omega
def P8 {us:Η}{l:Lak}{i:Nat}(h:i<l.length):eW us (l.take i)++[lj us l[i]!.needs]=eW us (l.take (i+1)):=by
 unfold eW;rw[<-n7 h];simp
def P9 (l:Lak)(i:Nat):(eW us (l.take i)).length<=i:=by
 unfold eW;rw[bj,eE];omega
def UC {us:Η}{l:Lak}{i:Nat}(h:i<l.length):jL us (l.take i)++[eN us l[i]!.bars]=jL us (l.take (i+1)):=by
 unfold jL;rw[<-n7 h];simp
def UD (l:Lak)(i:Nat):(jL us (l.take i)).length<=i:=by
 unfold jL;rw[bj,eE];omega
def P6 {us:Η}{i:Nat}(h:i<us.length):eM us i++[eW us us[i]!.ar]=eM us (i+1):=by
 unfold eM;rw[<-n7 h];simp
def P7 (i:Nat):(eM us i).length<=i:=by
 unfold eM;rw[bj,eE];omega
def UA {us:Η}{i:Nat}(h:i<us.length):jK us i++[jL us us[i]!.ar]=jK us (i+1):=by
 unfold jK;rw[<-n7 h];simp
def UB (i:Nat):(jK us i).length<=i:=by
 unfold jK;rw[bj,eE];omega
def LL (c:Δ)(x:ek):Prop:=(0<=x.u/\x.u<c.length)/\c[x.u.toNat]! <=30
def FineP (m:kB)(c:Δ):Prop:=(0<c.length/\c.length<=1000/\m.needs.length=c.length/\m.bars.length=c.length)/\∀u,u<c.length->0<=c[u]! ->(c[u]!.toNat<m.needs[u]!.length/\c[u]!.toNat<m.bars[u]!.length)/\(∀r∈m.needs[u]![c[u]!.toNat]!,∀x∈r,LL c x)/\∀x∈m.bars[u]![c[u]!.toNat]!,LL c x
theorem ew {α:Type} [Inhabited α]{f:α->Bool}:∀{l:List α}{k:Nat},(gp f l k=-1/\∀q,q<l.length->f l[q]! =false)\/∃j:Nat,gp f l k=((k+j:Nat):Int)/\j<l.length/\f l[j]! =true/\∀q,q<j->f l[q]! =false
 |[],k=>.inl ⟨rfl,λq h=>absurd h (Nat.not_lt_zero q)⟩
 |x::r,k=>by
  rw[gp];split
  .rename_i h;exact .inr ⟨0,rfl,aJ,rJ,λq h=>absurd h (Nat.not_lt_zero q)⟩
  .rename_i h;have hx:f x=false:=by simpa using h
   rcases ew (f:=f) (l:=r) (k:=k+1)with⟨h1,h2⟩|⟨j,h1,h2,h3,h4⟩
   .refine .inl ⟨h1,λq hq=>?_⟩;cases q with
    |zero=>simpa using hx
    |succ q=>simpa using h2 q (by simpa using hq)
   .refine .inr ⟨j+1,by rw[h1];omega,by simpa using h2,by simpa using h3,λq hq=>?_⟩;cases q with
    |zero=>simpa using hx
    |succ q=>simpa using h4 q ae
def aex [Inhabited α]{f:α->Bool}{l:List α}{i:Nat}(h:i<l.length)(hf:f l[i]! =true):0<=gp f l 0/\gp f l 0<=i:=by
 rcases ew (f:=f) (l:=l) (k:=0)with⟨h1,h2⟩|⟨j,h1,h2,h3,h4⟩
 .rw[h2 i h]at hf;cases hf
 .have:¬i<j:=λhj=>by rw[h4 i hj]at hf;cases hf
  omega
def Gu (nm:aw)(s:bz):Bool:=decide (s.name=nm)
def mK (l:Β)(nm:aw):Int:=gp (Gu nm) l 0
def zW (l:Β)(i:Nat):Bool:=gA l[i]! &&decide (mK l l[i]!.name=(i:Nat))
def ea (l:Β):Bool:=decide (l.length<=4)&&bK (zW l) 0 l.length
def fq (l:Β):=∀s∈l,∀x∈s.es,gM x.r
def afO {l:Β}{i:Nat}(h:i<l.length):0<=mK l l[i]!.name/\mK l l[i]!.name<=i:=aex h (by simp[Gu])
theorem afN {l:Β}{i:Nat}(h:gA l[i]! =false\/¬mK l l[i]!.name=(i:Nat)):zW l i=false:=by
 grind [zW]
theorem abk {l:Β}{i:Nat}(h:gA l[i]! =false\/mK l l[i]!.name<(i:Nat)):zW l i=false:=by
 grind [zW]
theorem Oo {l:Β}{i:Nat}(h:gA l[i]! =true/\mK l l[i]!.name=(i:Nat)):zW l i=true:=by
 grind [zW]
def Wg {l:Β}{i:Nat}(hi:i<l.length)(h:gA l[i]! =true/\¬mK l l[i]!.name<(i:Nat)):zW l i=true:=by
 have:=afO hi;exact Oo ⟨h.1,ae⟩
def bz.fz (l k:Nat)(es:Θ)(c:bz):jj l k es c.D=c.D:=ij l k es _ (by simp only[bz.D,D.aV,aP,gW])
variable(shop:Β)
def iA (s:bz)(nm:aw)(v:b6):Int:=if gA s=false then-1 else qt s.es nm v 0
def ox (a b:aw)(u:cN):Bool:=decide (u.name=a)&&decide (u.feat=b)
def gr (a b:aw):Int:=gp (ox a b) (us.drop 1) 1
def Wx (v:b6)(whole:Bool)(c:eI):Bool:=bif whole then decide (c.v=v)else decide (iO c.v v=0)
def mG (u:Int)(v:b6)(whole:Bool):Int:=if u<0 then-1 else gp (Wx v whole) us[u.toNat]!.ar 0
def ph (c:eI)(x:dI):Int:=
 if c.sh=-1 then(if x.shelf≠[]then 12 else if x.sum≠0 then 13 else 0)
 else if c.sh<0\/(shop.length:Int)<=c.sh\/shop[c.sh.toNat]!.name≠x.shelf then 12
 else if iA shop[c.sh.toNat]! x.name x.v<0\/shop[c.sh.toNat]!.es[(iA shop[c.sh.toNat]! x.name x.v).toNat]!.sum≠x.sum then 13 else 0
def wi (us:Η)(x:dI):Ψ->Δ->Int×Δ
 |[],c=>(0,c)
 |f::r,c=>if mG us (gr us x.name f) x.v false<0 then(11,c)else wi us x r (c.set (gr us x.name f).toNat (mG us (gr us x.name f) x.v false))
def mY (us:Η)(x:dI)(c:Δ):Int×Δ:=
 if mG us (gr us x.name []) x.v true<0 then(9,c)
 else if ph shop us[(gr us x.name []).toNat]!.ar[(mG us (gr us x.name []) x.v true).toNat]! x≠0 then(ph shop us[(gr us x.name []).toNat]!.ar[(mG us (gr us x.name []) x.v true).toNat]! x,c)
 else wi us x x.feats (c.set (gr us x.name []).toNat (mG us (gr us x.name []) x.v true))
def wv (shop:Β)(us:Η):Laa->Δ->Δ×Int×aw
 |[],c=>(c,0,[])
 |x::r,c=>if(mY shop us x c).1≠0 then([],(mY shop us x c).1,x.name)else wv shop us r (mY shop us x c).2
structure wZ where
 kind:Int
 unit:Int
 at':Int
 deriving Inhabited,DecidableEq
def wZ.D (f:wZ):D:=.agg [.int .i64 f.kind,.int .i64 f.unit,.int .i64 f.at']
def zj (c:Δ)(i:Nat):Bool:=decide (-1<=c[i]!)&&decide (c[i]! <(w.us[i]!.ar.length:Int))
def sF (c:Δ):Bool:=decide (c.length=w.us.length)&&bK (zj w c) 0 c.length
def dw (c:Δ):Bool:=eK w&&sF w c
def iy (c:Δ)(x:Want):Bool:=decide (0<=c[x.u.toNat]!)&&pg x.s w.us[x.u.toNat]!.ar[c[x.u.toNat]!.toNat]!.v
def yL (c:Δ)(l:mT):Bool:=l.any (iy w c)
def me {w:bP}(h:sF w c=true):c.length=w.us.length/\∀i,i<c.length->-1<=c[i]! /\c[i]! <(w.us[i]!.ar.length:Int):=by
 simp only[sF,aD,aT,bw,zj]at h;exact⟨h.1,λi hi=>h.2 i (Nat.zero_le _) hi⟩
def aeQ {w:bP}(h:¬(c.length:Int)=(w.us.length:Int)\/eK w=false):dw w c=false:=by
 unfold dw sF;rcases h with h|h
 .rw[bA ae];simp
 .rw[h];rfl
def Sq {w:bP}{i:Nat}(h:c[i]! < -1\/(w.us[i]!.ar.length:Int)<=c[i]!):zj w c i=false:=by
 unfold zj;rcases h with h|h
 .rw[bA ae];rfl
 .rw[bA (p:=c[i]! <_) ae];simp
def Md {w:bP}{i:Nat}(h:¬c[i]! < -1/\¬(w.us[i]!.ar.length:Int)<=c[i]!):zj w c i=true:=by
 unfold zj;rw[aY ae,aY ae];rfl
def MetW (c:Δ)(x:Want):Prop:=(w.sm/\x.sm)/\(0<=x.u/\x.u<(w.us.length:Int))/\sF w c=true
def fT (c:Δ)(u:Nat)(l:Laf)(n:Nat):List wZ:=(List.range n).flatMap λk=>if yL w c l[k]! =true then []else [⟨2,(u:Nat),(k:Nat)⟩]
def kg (c:Δ)(u:Nat)(l:θ)(n:Nat):List wZ:=(List.range n).flatMap λk=>if iy w c l[k]! =true then [⟨3,(u:Nat),(k:Nat)⟩]else []
def aW (c:Δ)(u:Nat):eI:=w.us[u]!.ar[c[u]!.toNat]!
def BG (c:Δ)(u:Nat):List wZ:=fT w c u (aW w c u).needs (aW w c u).needs.length++kg w c u (aW w c u).bars (aW w c u).bars.length
def gF (c:Δ)(n:Nat):List wZ:=(List.range n).flatMap λu=>if c[u]! <0 then []else BG w c u
def iX (c:Δ):List wZ:=if dw w c=false then []else gF w c c.length
section
variable {w:bP}{u:Nat}{l:Laf}{b:θ}
def P4 (h:yL w c l[n]! =true):fT w c u l (n+1)=fT w c u l n:=by simp only[fT,List.range_succ,List.flatMap_append,List.flatMap_cons,List.flatMap_nil,h];simp
def P3 (h:yL w c l[n]! =false):fT w c u l (n+1)=fT w c u l n++[⟨2,(u:Nat),(n:Nat)⟩]:=by simp only[fT,List.range_succ,List.flatMap_append,List.flatMap_cons,List.flatMap_nil,h];simp
def Pc (h:iy w c b[n]! =true):kg w c u b (n+1)=kg w c u b n++[⟨3,(u:Nat),(n:Nat)⟩]:=by simp only[kg,List.range_succ,List.flatMap_append,List.flatMap_cons,List.flatMap_nil,h];simp
def Pb (h:iy w c b[n]! =false):kg w c u b (n+1)=kg w c u b n:=by simp only[kg,List.range_succ,List.flatMap_append,List.flatMap_cons,List.flatMap_nil,h];simp
def qo:∀n,(fT w c u l n).length<=n
 |0=>aR _
 |n+1=>by
  have:=qo n;cases h:yL w c l[n]!
  .rw[P3 h];simp;omega
  .rw[P4 h];omega
def xh:∀n,(kg w c u b n).length<=n
 |0=>aR _
 |n+1=>by
  have:=xh n;cases h:iy w c b[n]!
  .rw[Pb h];omega
  .rw[Pc h];simp;omega
def Rq (h:0<=c[n]!):gF w c (n+1)=gF w c n++BG w c n:=by
 simp only[gF,List.range_succ,List.flatMap_append,List.flatMap_cons,List.flatMap_nil,ah (show ¬c[n]! <0 by omega),gw]
def Rp (h:c[n]! <0):gF w c (n+1)=gF w c n:=by simp only[gF,List.range_succ,List.flatMap_append,List.flatMap_cons,List.flatMap_nil,ak h,gw]
def abN (h:0<=c[n]!):(gF w c n++fT w c n (aW w c n).needs (aW w c n).needs.length)++kg w c n (aW w c n).bars (aW w c n).bars.length=gF w c (n+1):=by
 rw[Rq h,BG,fL]
end
def OneP (c:Δ)(u:Nat):Prop:=(w.sm/\eK w=true)/\sF w c=true/\u<c.length/\0<=c[u]!
def Cj {w:bP}{u:Nat}(h:OneP w c u):(c[u]!.toNat<w.us[u]!.ar.length/\c[u]! =((c[u]!.toNat:Nat):Int))/\((aW w c u).needs.length<=24/\(aW w c u).bars.length<=24)/\(∀r∈(aW w c u).needs,∀x∈r,MetW w c x)/\∀x∈(aW w c u).bars,MetW w c x:=by
 obtain⟨⟨h1,h2⟩,h3,h4,h5⟩:=h;obtain⟨h6,h7⟩:=me h3;have h8:=h7 u h4;have hu:u<w.us.length:=ae;have hk:c[u]!.toNat<w.us[u]!.ar.length:=ae;have hin:=E5 h2 hu hk;have hs:=(h1 _ (aq hu)).2 _ (aq hk);have hl:(aW w c u).needs.length<=24/\(aW w c u).bars.length<=24:=by
  simp only[eK,aD,bw,lJ,nj,nd,aT]at h2;have:=(h2.2 u (Nat.zero_le _) hu).2 _ (Nat.zero_le _) hk;exact⟨this.1.2.1.1.1,this.1.2.1.1.2⟩
 exact⟨⟨hk,ae⟩,hl,λr hr x hx=>⟨⟨h1,hs.2.1 r hr x hx⟩,hin.1 r hr x hx,h3⟩,λx hx=>⟨⟨h1,hs.2.2 x hx⟩,hin.2 x hx,h3⟩⟩
def M5 {w:bP}{u:Nat}(h:OneP w c u):(BG w c u).length<=48:=by
 obtain⟨_,⟨h1,h2⟩,_⟩:=Cj h;have h3:=qo (w:=w) (c:=c) (u:=u) (l:=(aW w c u).needs) (aW w c u).needs.length;have h4:=xh (w:=w) (c:=c) (u:=u) (b:=(aW w c u).bars) (aW w c u).bars.length;simp only[BG,cx];omega
def E8 {w:bP}{c:Δ}(hm:w.sm)(h:dw w c=true):∀n,n<=c.length->(gF w c n).length<=n*48
 |0,_=>Nat.zero_le _
 |n+1,hn=>by
  have h1:=E8 hm h n ae;simp only[dw,aD]at h;by_cases hc:c[n]! <0
  .rw[Rp hc];omega
  .have:=M5 (w:=w) (c:=c) (u:=n) ⟨⟨hm,h.1⟩,h.2,ae,ae⟩;rw[Rq ae,cx];omega
def Ou {w:bP}{l:mT}:yL w c l=pd (λi=>iy w c l[i]!) 0 l.length:=by
 rw[Bool.eq_iff_iff,yL,List.any_eq_true,xe];constructor
 .rintro⟨x,hx,h⟩;obtain⟨i,hi,rfl⟩:=List.mem_iff_getElem.1 hx;exact⟨i,Nat.zero_le _,hi,by simpa[hi]using h⟩
 .rintro⟨i,_,hi,h⟩;exact⟨_,aq hi,h⟩
def WrgP (c:Δ):Prop:=w.sm/\0<=c[0]!
def SV {w:bP}{u:Nat}(hw:WrgP w c)(h:dw w c=true)(hu:u<c.length)(h0:0<=c[u]!):OneP w c u:=by
 simp only[dw,aD]at h;exact⟨⟨hw.1,h.1⟩,h.2,hu,h0⟩
def DG {w:bP}(h:dw w c=true):1<=c.length/\c.length<=48:=by
 simp only[dw,aD]at h;have h1:=me h.2;simp only[eK,aD,aT]at h;omega
def Cq {S:Δ}{i:Nat}(h:i<S.length)(v:Int):(S.map (D.int .i64)).set (0+i) (tj ((S.map (D.int .i64)).getD (0+i) .any) 1 1 0 (.int .i64 v))=(S.set i v).map (D.int .i64):=by
 rw[cG,getD_map (q:=D.int .i64) h,List.map_set];rfl
def Ck {l:ω}{v:b6}:qt l nm v 0=-1\/∃j:Nat,qt l nm v 0=(j:Int)/\j<l.length:=by
 unfold qt;rw[dN];cases h:l.findIdx? (BA nm v)with
 |none=>exact .inl rfl
 |some k=>
  have:=(List.findIdx?_eq_some_iff_getElem.1 h).1;exact .inr ⟨k,aJ,this⟩
def tH {s:bz}{v:b6}:iA s nm v=-1\/∃j:Nat,iA s nm v=(j:Int)/\j<s.es.length:=by
 unfold iA;split
 .exact .inl rfl
 .exact Ck
def pe (s:bz)(nm:aw)(v:b6):ju×Bool:=if iA s nm v<0 then(default,false)else(s.es[(iA s nm v).toNat]!,true)
section
variable {shop:Β}{c:eI}{x:dI}
theorem shl_a (h0:c.sh=-1)(h:¬x.shelf=[]):ph shop c x=12:=by grind [ph]
theorem shl_d (h0:¬c.sh=-1)(h:(c.sh<0\/(shop.length:Int)<=c.sh)\/¬shop[c.sh.toNat]!.name=x.shelf):ph shop c x=12:=by grind [ph]
theorem ahb (h0:¬c.sh=-1)(h1:(¬c.sh<0/\¬(shop.length:Int)<=c.sh)/\shop[c.sh.toNat]!.name=x.shelf)(h:(pe shop[c.sh.toNat]! x.name x.v).2=false\/¬(pe shop[c.sh.toNat]! x.name x.v).1.sum=x.sum):ph shop c x=13:=by grind [ph,pe]
theorem shl_f (h0:¬c.sh=-1)(h1:(¬c.sh<0/\¬(shop.length:Int)<=c.sh)/\shop[c.sh.toNat]!.name=x.shelf)(h:(pe shop[c.sh.toNat]! x.name x.v).2=true/\(pe shop[c.sh.toNat]! x.name x.v).1.sum=x.sum):ph shop c x=0:=by grind [ph,pe]
end
def EY {us:Η}{a b:aw}:gr us a b=-1\/∃j:Nat,gr us a b=(j:Int)/\1<=j/\j<us.length:=by
 unfold gr;rcases ew (f:=ox a b) (l:=us.drop 1) (k:=1)with⟨h,_⟩|⟨j,h,h2,_⟩
 .exact .inl h
 .rw[jS]at h2;exact .inr ⟨1+j,h,ae,ae⟩
def Ni {us:Η}{u:Int}{v:b6}:mG us u v t=-1\/∃j k:Nat,u=(j:Int)/\mG us u v t=(k:Int)/\k<us[j]!.ar.length:=by
 unfold mG;split
 .exact .inl rfl
 .rcases ew (f:=Wx v t) (l:=us[u.toNat]!.ar) (k:=0)with⟨h,_⟩|⟨j,h,h2,_⟩
  .exact .inl h
  .exact .inr ⟨u.toNat,j,ae,jt,h2⟩
def Mi {us:Η}{x:dI}:∀{l:Ψ}{c:Δ},(wi us x l c).2.length=c.length
 |[],c=>rfl
 |f::r,c=>by
  rw[wi];split
  .rfl
  .rw[Mi,List.length_set]
def xJ {us:Η}{x:dI}{l:Ψ}{i:Nat}(h:i<l.length):wi us x (l.drop i) c=if mG us (gr us x.name l[i]!) x.v false<0 then(11,c)else wi us x (l.drop (i+1)) (c.set (gr us x.name l[i]!).toNat (mG us (gr us x.name l[i]!) x.v false)):=by
 rw[fD h,wi,show l[i]! =l[i]by simp[h]]
def Mg {us:Η}{x:dI}{l:Ψ}{i:Nat}(h:l.length<=i):wi us x (l.drop i) c=(0,c):=by
 rw[kA h,wi]
def aan {shop:Β}{us:Η}{x:dI}:(mY shop us x c).2.length=c.length:=by
 unfold mY;split
 .rfl
 .split
  .rfl
  .rw[Mi,List.length_set]
def SN {shop:Β}{us:Η}{l:Laa}{i:Nat}(h:i<l.length):wv shop us (l.drop i) c=if(mY shop us l[i]! c).1≠0 then([],(mY shop us l[i]! c).1,l[i]!.name)else wv shop us (l.drop (i+1)) (mY shop us l[i]! c).2:=by
 rw[fD h,wv,show l[i]! =l[i]by simp[h]]
def Y3 {shop:Β}{us:Η}{l:Laa}{i:Nat}(h:l.length<=i):wv shop us (l.drop i) c=(c,0,[]):=by
 rw[kA h,wv]
def LinP (w:bP)(x:dI)(c:Δ):Prop:=(fq shop/\w.sm/\x.v.sm)/\c.length=w.us.length
section
variable {Y:Ctx}{draw:Bool}{r:Υ}{env rs:Φ}{nx:Nat}{m:Γ}{K:Φ->St->Prop}{g:Ν}{f:Bool}
def aaw {x:Src}{ng:Bool}{d:D}(h:∀b,nlB d b->aC Y draw r env (⟨true,.bool (bif ng then !b else b)⟩::rs) nx m K)(hg:GF rs g true:=by first|exact rfl|exact⟨_,_,rfl,rfl⟩)(hx:bV env rs x=⟨true,d⟩:=by exact rfl)(hs:slB d:=by exact trivial):aC Y draw (⟨.isNl x ng,g⟩::r) env rs nx m K:=by
 unfold aC;show zk rs.reverse g/\(flag rs.reverse g=true->(Src.ev env rs.reverse x).ok=true/\slB (Src.ev env rs.reverse x).d/\∀b,nlB (Src.ev env rs.reverse x).d b->_)/\(flag rs.reverse g=false->_);obtain⟨hg1,hg2⟩:=hg.flag;rw[po,hx];refine⟨hg2,λ_=>⟨rfl,hs,λb hb=>?_⟩,λhh=>by rw[hg1]at hh;cases hh⟩;have:=h b hb;unfold aC at this;simpa using this
end
section
variable {Y:Ctx}{draw:Bool}{r:Υ}{env rs:Φ}{nx:Nat}{m:Γ}{K:Φ->St->Prop}{g:Ν}{f:Bool}
def r_mkM {L:Nat}(h:aC Y draw r env (⟨f,.fn 5000000 [.it L]⟩::rs) nx m2 K)(hg:GF rs g f:=by first|exact rfl|exact⟨_,_,rfl,rfl⟩)(hL:nx+rs.length=L:=by simp only[bJ,cj,Nat.reduceAdd];exact rfl)(hm:cW m L (.mpb [])=m2:=by simp only[cW,de,Nat.reduceEqDiff,br,ba,Nat.reduceAdd,reduceCtorEq];exact rfl):aC Y draw (⟨.mkM,g⟩::r) env rs nx m K:=
 gB rfl hg _ (λ_=>trivial) (λhf=>by simp only[aA.val,hL]) _ (by simp only[aA.bS,hL];exact hm) (λ_=>h)
def r_upM {x y z:Src}{l:Nat}{k:D}{q:IntKind}{kvs:Θ}(kvs2:Θ)(h:aC Y draw r env (⟨true,.any⟩::rs) nx m2 K)(hx:bV env rs x=⟨true,.fn 5000000 [.it l]⟩:=by exact rfl)(hy:bV env rs y=⟨true,k⟩:=by exact rfl)(hz:bV env rs z=⟨true,.int q a⟩:=by exact rfl)(hl:look m l=some (.mpb kvs):=by exact rfl)(hk:wo k=true:=by exact rfl)(hb:xY kvs=true)(he:AK k (.int q a) kvs=kvs2)(hm:cW m l (.mpb kvs2)=m2:=by simp only[cW,de,Nat.reduceEqDiff,br,ba,Nat.reduceAdd,reduceCtorEq];exact rfl):aC Y draw (⟨.upM x y z,none⟩::r) env rs nx m K:=
 pQ rfl _ (by simp only[aA.eO,hx,hy,hz,mpO,hl];exact⟨trivial,trivial,trivial,⟨trivial,hb⟩,hk,q,a,rfl⟩) (by simp only[aA.val]) _ (by simp only[aA.bS,hx,hy,hz,Vp,hl,he];exact hm) (λ_=>h)
def ag4 {x y:Src}{z:D}{fx fy:Bool}{l:Nat}{k:D}{kvs:Θ}(v:D)(h:aC Y draw r env (⟨f,v⟩::rs) nx m K)(hg:GF rs g f:=by first|exact rfl|exact⟨_,_,rfl,rfl⟩)(hx:bV env rs x=⟨fx,.fn 5000000 [.it l]⟩:=by exact rfl)(hy:bV env rs y=⟨fy,k⟩:=by exact rfl)(kx:f=true->fx=true:=by first|exact λ_=>rfl|exact λh=>h|(intro h;simp_all))(ky:f=true->fy=true:=by first|exact λ_=>rfl|exact λh=>h|(intro h;simp_all))(hl:look m l=some (.mpb kvs):=by exact rfl)(hk:wo k=true:=by exact rfl)(hb:xY kvs=true)(hv:(match OY k kvs with|some v=>D.tup [v,.bool true]|none=>D.tup [z,.bool false])=v):aC Y draw (⟨.lkM z x y,g⟩::r) env rs nx m K:=
 gB rfl hg _ (λhf=>by simp only[aA.eO,hx,hy,mpO,hl];exact⟨kx hf,ky hf,⟨trivial,hb⟩,hk⟩) (λhf=>by simp only[aA.val,hx,hy,Vp,hl];exact hv) m (by simp only[aA.bS]) (λ_=>h)
end
def bB.mp {lo c:Nat}{m r:Γ}{l':Nat}{s s':Θ}(l:Nat)(hl:m8 lo σ l=some l')(hm:look m l=some (.mpb s))(hs:s'=s)(h:bB lo c σ m r):bB lo c σ m ((l',.mpb s')::r):=
 ⟨.inl ⟨l,_,hl,hm,hs⟩,h⟩
section
variable {shop:Β}{us:Η}{x:dI}
def To (h:mG us (gr us x.name []) x.v true<0):mY shop us x c=(9,c):=by rw[mY,ak h]
def GP (hj:gr us x.name []=(j:Nat))(hk:mG us (gr us x.name []) x.v true=(k:Nat))(h:¬ph shop us[j]!.ar[k]! x=0):mY shop us x c=(ph shop us[j]!.ar[k]! x,c):=by
 rw[mY,ah ae,hk,hj,Int.toNat_natCast,Int.toNat_natCast,ak h]
def put_c (hj:gr us x.name []=(j:Nat))(hk:mG us (gr us x.name []) x.v true=(k:Nat))(h:ph shop us[j]!.ar[k]! x=0):mY shop us x c=wi us x x.feats (c.set j k):=by
 rw[mY,ah ae,hk,hj,Int.toNat_natCast,Int.toNat_natCast,ah jt]
end
def HW (us:Η)(x:dI)(c:Δ):Nat->Δ
 |0=>c
 |i+1=>(HW us x c i).set (gr us x.name x.feats[i]!).toNat (mG us (gr us x.name x.feats[i]!) x.v false)
def Mf {us:Η}{x:dI}{c:Δ}:∀i,(HW us x c i).length=c.length
 |0=>rfl
 |i+1=>by rw[HW,List.length_set,Mf]
def wT (a b:aw):D:=.agg [.str a,.str b]
def yP (a b:aw):Int×Bool:=(if gr us a b<0 then 0 else gr us a b,decide (0<=gr us a b))
def W4 (kvs:Θ):Prop:=xY kvs=true/\∀a b,(match OY (wT a b) kvs with|some v=>D.tup [v,.bool true]|none=>D.tup [.int .i64 0,.bool false])=.tup [.int .i64 (yP us a b).1,.bool (yP us a b).2]
def Jo {us:Η}{a b:aw}(h:(yP us a b).2=false):gr us a b<0:=by simpa[yP]using h
def abE {us:Η}{a b:aw}(h:(yP us a b).2=true):∃j:Nat,gr us a b=(j:Int)/\(yP us a b).1=(j:Int)/\1<=j/\j<us.length:=by
 have h0:0<=gr us a b:=by simpa[yP]using h
 rcases EY (us:=us) (a:=a) (b:=b)with h1|⟨j,h1,h2,h3⟩
 .omega
 .exact⟨j,h1,by simp only[yP];rw[ah ae,h1],h2,h3⟩
def Z4 {us:Η}{u:Int}{v:b6}(h:u=(j:Nat)):mG us u v t=gp (Wx v t) us[j]!.ar 0:=by
 rw[mG,ah ae,h,Int.toNat_natCast]
def ag1 {us:Η}{u:Int}{v:b6}(h:u=(j:Nat))(h2:¬mG us u v t<0):∃k:Nat,mG us u v t=(k:Int)/\k<us[j]!.ar.length:=by
 rcases Ni (us:=us) (u:=u) (v:=v) (t:=t)with h3|⟨i,k,h3,h4,h5⟩
 .omega
 .have:i=j:=ae;exact⟨k,h4,this▸h5⟩
def ID {us:Η}{u:Int}{v:b6}(h:u<0):mG us u v t<0:=by rw[mG,ak h];decide
def Rf (c:eI)(x:dI):Int:=if c.sh=-1 then 0 else shop[c.sh.toNat]!.es[(iA shop[c.sh.toNat]! x.name x.v).toNat]!.sum
def Xc (c:eI)(x:dI):Prop:=ph shop c x=if Rf shop c x=x.sum then 0 else 13
section
variable {shop:Β}{c:eI}{x:dI}
def sum_a (h:c.sh=-1/\x.shelf=[]):Xc shop c x/\Rf shop c x=0:=by
 obtain⟨h1,h2⟩:=h;unfold Xc ph Rf;rw[ak h1,ah (by simpa using h2),ak h1];refine⟨?_,rfl⟩;by_cases h3:x.sum=0
 .rw[ah (by simpa using h3),ak h3.symm]
 .rw[ak h3,ah (λh=>h3 h.symm)]
def Rg (h:¬c.sh=-1\/¬x.shelf=[])(h2:(c.sh<0\/(shop.length:Int)<=c.sh)\/¬shop[c.sh.toNat]!.name=x.shelf):ph shop c x=12:=by
 by_cases h0:c.sh=-1
 .exact shl_a h0 (h.resolve_left (by simpa using h0))
 .exact shl_d h0 h2
def Rh (h2:(¬c.sh<0/\¬(shop.length:Int)<=c.sh)/\shop[c.sh.toNat]!.name=x.shelf)(h3:iA shop[c.sh.toNat]! x.name x.v<0):ph shop c x=13:=
 ahb ae h2 (.inl (by rw[pe,ak h3]))
def sum_c (h2:(¬c.sh<0/\¬(shop.length:Int)<=c.sh)/\shop[c.sh.toNat]!.name=x.shelf)(h3:¬iA shop[c.sh.toNat]! x.name x.v<0):Xc shop c x/\Rf shop c x=shop[c.sh.toNat]!.es[(iA shop[c.sh.toNat]! x.name x.v).toNat]!.sum:=by
 have h4:Rf shop c x=shop[c.sh.toNat]!.es[(iA shop[c.sh.toNat]! x.name x.v).toNat]!.sum:=by rw[Rf,ah ae]
 have h5:pe shop[c.sh.toNat]! x.name x.v=(shop[c.sh.toNat]!.es[(iA shop[c.sh.toNat]! x.name x.v).toNat]!,true):=by rw[pe,ah h3]
 refine⟨?_,h4⟩;unfold Xc;rw[h4];split
 .rename_i h6;exact shl_f ae h2 (by rw[h5];exact⟨rfl,h6⟩)
 .rename_i h6;exact ahb ae h2 (by rw[h5];exact .inr h6)
end
def Yo (l k:Nat)(es:Θ)(c:Δ):pf l k es (c.map (D.int .i64))=c.map (D.int .i64):=ki l k es _ (cg (λ_=>rfl) _)
def dI.fz (l k:Nat)(es:Θ)(c:dI):jj l k es c.D=c.D:=ij l k es _ (by simp only[dI.D,D.aV,aP,gW])
def YO (a b:cP):cP.D a=cP.D b↔a=b:=by cases a;cases b;simp[cP.D,YL]
def PD (a b:List cP):a.map cP.D=b.map cP.D↔a=b:=kZ YO a b
def YH (a b:bn):bn.D a=bn.D b↔a=b:=by cases a;cases b;simp[bn.D,PD]
def Dl (a b:υ):a.map bn.D=b.map bn.D↔a=b:=kZ YH a b
def iBar (a b:mR):mR.D a=mR.D b↔a=b:=by cases a;cases b;simp[mR.D]
def Mp (a b:List mR):a.map mR.D=b.map mR.D↔a=b:=kZ iBar a b
def YD (a b:b7):b7.D a=b7.D b↔a=b:=by cases a;cases b;simp[b7.D,YL]
def Dk (a b:γ):a.map b7.D=b.map b7.D↔a=b:=kZ YD a b
def iRec (a b:Rec):Rec.D a=Rec.D b↔a=b:=by
 obtain⟨n,⟨v1,v2,v3,v4,v5⟩,x,y,z⟩:=a;obtain⟨n',⟨w1,w2,w3,w4,w5⟩,x',y',z'⟩:=b;simp[Rec.D,Dl,Mp,Dk,and_assoc]
def iEtr (a b:ju):ju.D a=ju.D b↔a=b:=by
 obtain⟨⟨n,⟨v1,v2,v3,v4,v5⟩,x,y,z⟩,s,o⟩:=a;obtain⟨⟨n',⟨w1,w2,w3,w4,w5⟩,x',y',z'⟩,s',o'⟩:=b;simp[ju.D,Dl,Mp,Dk,and_assoc]
def YC (a b:ω):a.map ju.D=b.map ju.D↔a=b:=kZ iEtr a b
def iShf (a b:bz):bz.D a=bz.D b↔a=b:=by cases a;cases b;simp[bz.D,YC]
def YJ (a b:Β):a.map bz.D=b.map bz.D↔a=b:=kZ iShf a b
def iEnv (a b:Env):Env.D a=Env.D b↔a=b:=by cases a;cases b;simp[Env.D]
def iLkd (a b:dI):dI.D a=dI.D b↔a=b:=by
 obtain⟨n,⟨v1,v2,v3,v4,v5⟩,x,y,z⟩:=a;obtain⟨n',⟨w1,w2,w3,w4,w5⟩,x',y',z'⟩:=b;simp[dI.D,YL,and_assoc]
def YG (a b:Laa):a.map dI.D=b.map dI.D↔a=b:=kZ iLkd a b
def iLck (a b:j8):j8.D a=j8.D b↔a=b:=by
 obtain⟨⟨a1,a2,a3⟩,l⟩:=a;obtain⟨⟨b1,b2,b3⟩,k⟩:=b;simp[j8.D,YG,and_assoc]
def agQ (a b:Bool):((bif a then 690 else 691)=(bif b then 690 else 691:Nat))↔a=b:=by cases a<;>cases b<;>simp
def CP {A:FT->Prop}(h:A (λd ds v s=>A λd' ds' v' s'=>d'=d->ds'=ds->v=v'/\s=s'):=by
 (repeat' first|apply And.intro|intro _)
 all_goals rename_i e' e
 all_goals (try simp only[tw,D.str.injEq,D.int.injEq,D.bool.injEq,D.sl.injEq,D.ref.injEq,D.agg.injEq,D.fn.injEq,YL,U8,iByt,iVer,YO,PD,YH,Dl,iBar,Mp,YD,Dk,iRec,YC,iEtr,iShf,YJ,iEnv,iLkd,YG,iLck,iCut,agM,YK,Dm,iSet,YN,H2,YP,PE,iCnd,YB,iUnt,YM,iWld,iKey,iGs,agQ,iU8,pX,iNat,dP,eF]at e e')
 all_goals first|rfl|(simp only[e,e'];done)|simp_all):y1 (oz A):=adK h
structure Ask where
 allow:Δ
 order:Ο
 deriving Inhabited
def jW (l:Δ):D:=.sl 1 (l.map (D.int .i64))
def Ask.D (a:Ask):D:=.agg [.sl 1 (a.allow.map (D.int .i64)),.sl 1 (a.order.map jW)]
def Qa:ξ->D
 |none=>.aO
 |some c=>.sl 1 (c.map (D.int .i64))
def xa (m:kB):Prop:=(0<m.needs.length/\m.needs.length<=48/\m.bars.length=m.needs.length/\m.full.length=m.needs.length)/\∀u,u<m.needs.length->(m.bars[u]!.length=m.needs[u]!.length/\m.needs[u]!.length<=16)/\
 (∀c∈m.needs[u]!,∀r∈c,r.length<=1000/\∀x∈r,0<=x.u/\x.u<m.needs.length)/\∀r∈m.bars[u]!,∀x∈r,0<=x.u/\x.u<m.needs.length
def LB (m:kB)(c:Δ):Prop:=c.length=m.needs.length/\∀u,u<m.needs.length->-1<=c[u]! /\c[u]! <m.needs[u]!.length
def Ma {m:kB}(hm:xa m)(hc:LB m c):FineP m c:=by
 obtain⟨h1,h2⟩:=hm;have hcl:=hc.1;refine⟨ae,λu hu h0=>?_⟩;have hun:u<m.needs.length:=ae;have hcu:=hc.2 u hun;obtain⟨h3,h4,h5⟩:=h2 u hun;have hk:c[u]!.toNat<m.needs[u]!.length:=ae;have hM:∀x:ek,0<=x.u/\x.u<m.needs.length->LL c x:=λx hx=>by
  have a:=hc.2 x.u.toNat ae;have b:=(h2 x.u.toNat ae).1;exact⟨ae,ae⟩
 exact⟨⟨hk,ae⟩,λr hr x hx=>hM x ((h4 _ (aq hk) r hr).2 x hx),λx hx=>hM x (h5 _ (aq ae) x hx)⟩
def vW (m:kB)(c:Δ)(u:Nat):Bool:=decide (c[u]! <0) ||!kF c m.bars[u]![c[u]!.toNat]!
def y7 (m:kB)(c:Δ):Bool:=bK (vW m c) 0 c.length
def Je (m:kB)(c:Δ)(u:Nat):Nat:=mU (λk=>kF c m.needs[u]![c[u]!.toNat]![k]!) m.needs[u]![c[u]!.toNat]!.length 0
def yb (m:kB)(c:Δ)(u:Nat):Bool:=decide (c[u]! <0) ||decide (Je m c u=m.needs[u]![c[u]!.toNat]!.length)
def nt (m:kB)(c:Δ):Nat:=mU (yb m c) c.length 0
def ey (m:kB)(c:Δ):Int×Int:=if c[0]! <0 then(0,-1)else if nt m c<c.length then(((nt m c:Nat):Int),((Je m c (nt m c):Nat):Int))else(-1,-1)
def R2 {f:Nat->Bool}:∀k i,i<=mU f k i/\mU f k i<=i+k
 |0,i=>by simp[mU]
 |k+1,i=>by
  have:=R2 (f:=f) k (i+1);rw[mU];split<;>omega
def LX {f:Nat->Bool}:∀k i,mU f k i<i+k->f (mU f k i)=false
 |0,i,h=>by simp[mU]at h
 |k+1,i,h=>by
  rw[mU]at h⊢;split
  .rename_i e;rw[ak e]at h;exact LX k (i+1) ae
  .rename_i e;simpa using e
def ad8 {m:kB}(h1:y7 m c=true)(h2:(ey m c).1<0):CZ m c=true:=by
 unfold ey at h2;split at h2
 .exact absurd h2 aX
 .rename_i h0;split at h2
  .exact absurd h2 mQ
  .rename_i hi;unfold CZ;rw[aY (show 0<=c[0]! by omega),eh,bw];intro u _ hu;unfold y7 at h1;rw[bw]at h1;have e1:=h1 u (Nat.zero_le _) hu;have e2:=CG c.length 0 (by rw[cG];exact hi) u (Nat.zero_le _) ae;unfold vW at e1;unfold yb at e2;unfold Yg;by_cases hc:c[u]! <0
   .rw[aY hc];rfl
   .rw[bA hc,Bool.false_or]at e1 e2⊢;rw[e1,gW,bw];intro k _ hk;rw[aT]at e2;have e3:=CG (f:=λk=>kF c m.needs[u]![c[u]!.toNat]![k]!) m.needs[u]![c[u]!.toNat]!.length 0 (by unfold Je at e2;omega) k (Nat.zero_le _) ae;exact e3
def offB (l:ρ)(o:ek):Bool:=pd (λi=>decide (l[i]! =o)) 0 l.length
def Qc (mask u p:Int)(out:ρ):ρ:=if(decide (HL mask (2^(p.toNat+1))≠0)&& !offB out ⟨u,p⟩)=true then out++[⟨u,p⟩]else out
def kn (mask u:Int)(ts:Δ):Nat->ρ->ρ
 |0,out=>out
 |i+1,out=>Qc mask u ts[i]! (kn mask u ts i out)
def bF (m:kB)(c:Δ):ρ:=if 0<=(ey m c).2 then m.needs[(ey m c).1.toNat]![c[(ey m c).1.toNat]!.toNat]![(ey m c).2.toNat]! else [⟨(ey m c).1,m.full[(ey m c).1.toNat]!⟩]
def DO (mask u:Int)(ts:Δ):∀i out,(kn mask u ts i out).length<=out.length+i
 |0,out=>aR _
 |i+1,out=>by
  have:=DO mask u ts i out;rw[kn];unfold Qc;split
  .rw[cx,List.length_singleton];omega
  .omega
def W7 (m:kB)(c:Δ)(o:ek):Prop:=(0<=o.u/\o.u<m.needs.length)/\c[o.u.toNat]! <0/\0<=o.m/\o.m<m.needs[o.u.toNat]!.length
def Tg {m:kB}(hc:LB m c)(h0:0<m.needs.length)(h:¬(ey m c).1<0):(0<=(ey m c).1/\(ey m c).1<c.length)/\(0<=(ey m c).2->0<=c[(ey m c).1.toNat]! /\(ey m c).2<m.needs[(ey m c).1.toNat]![c[(ey m c).1.toNat]!.toNat]!.length):=by
 have hl:=hc.1;unfold ey at*
 split
 .exact⟨⟨aX,mQ⟩,λh=>absurd h aX⟩
 .rename_i h1;rw[ah h1]at h;split
  .rename_i h2;have h3:=LX (f:=yb m c) c.length 0 (by rw[cG];exact h2);have h4:=(R2 (f:=λk=>kF c m.needs[nt m c]![c[nt m c]!.toNat]![k]!) m.needs[nt m c]![c[nt m c]!.toNat]!.length 0).2;rw[show mU (yb m c) c.length 0=nt m c from rfl]at h3;rw[cG,show mU (λk=>kF c m.needs[nt m c]![c[nt m c]!.toNat]![k]!) m.needs[nt m c]![c[nt m c]!.toNat]!.length 0=Je m c (nt m c)from rfl]at h4;unfold yb at h3;rw[eg,bR,bR]at h3;dsimp only;rw[Int.toNat_natCast];exact⟨⟨ae,ae⟩,λ_=>⟨ae,ae⟩⟩
  .rename_i h2;rw[ah h2]at h;exact absurd (by decide:((-1:Int),(-1:Int)).1<0) h
def OM {m:kB}(hm:xa m)(hc:LB m c)(h:¬(ey m c).1<0):(∀x∈bF m c,0<=x.u/\x.u<m.needs.length)/\(bF m c).length<=1000:=by
 obtain⟨⟨h0,_⟩,hM⟩:=hm;obtain⟨h1,h2⟩:=Tg hc h0 h;have hl:=hc.1;unfold bF;split
 .rename_i h3;obtain⟨h4,h5⟩:=h2 h3;have hu:=hc.2 (ey m c).1.toNat ae;have h6:=(hM (ey m c).1.toNat ae).2.1 _ (aq (show c[(ey m c).1.toNat]!.toNat<m.needs[(ey m c).1.toNat]!.length by omega)) _ (aq (show(ey m c).2.toNat<m.needs[(ey m c).1.toNat]![c[(ey m c).1.toNat]!.toNat]!.length by omega));exact⟨h6.2,h6.1⟩
 .refine⟨λx hx=>?_,aJ⟩;obtain rfl:=aF.1 hx;exact⟨mQ,mQ⟩
def iV (f:ek->ξ):ρ->ξ
 |[]=>none
 |o::r=>match f o with
  |some c=>some c
  |none=>iV f r
def FN (c:Δ):Nat:=c.countP λx=>decide (x<0)
def yj (c:Δ)(o:ek):Δ:=c.set o.u.toNat o.m
def MY:∀{c:Δ}{i:Nat}{v:Int},i<c.length->c[i]! <0->0<=v->FN (c.set i v)+1=FN c
 |[],i,v,h,_,_=>by simp at h
 |x::r,0,v,_,h1,h2=>by
  have h1:x<0:=h1;simp[FN,List.countP_cons,h1,show ¬v<0 by omega]
 |x::r,i+1,v,h,h1,h2=>by
  have:=MY (c:=r) (i:=i) (v:=v) rJ (by simpa using h1) h2;simp only[FN,List.set_cons_succ,List.countP_cons]at this⊢;omega
def IG {m:kB}{o:ek}(hc:LB m c)(ho:W7 m c o):LB m (yj c o)/\FN (yj c o)+1=FN c:=by
 obtain⟨h1,h2,h3,h4⟩:=ho;have hl:=hc.1;refine⟨⟨by unfold yj;rw[List.length_set];exact hl,λu hu=>?_⟩,MY ae h2 h3⟩;unfold yj;by_cases e:o.u.toNat=u
 .subst e;rw[List.getElem!_eq_getElem?_getD,List.getElem?_set_self ae];exact⟨by dsimp only[Option.getD_some];omega,h4⟩
 .rw[List.getElem!_eq_getElem?_getD,List.getElem?_set_ne e,<-List.getElem!_eq_getElem?_getD];exact hc.2 u hu
def xF {f g:ek->ξ}:∀{l:ρ},(∀o∈l,f o=g o)->iV f l=iV g l
 |[],_=>rfl
 |o::r,h=>by
  rw[iV,iV,h o (.head _),xF (l:=r) λo ho=>h o (.tail _ ho)]
def Ay {f:ek->ξ}{d:Δ}:∀{l:ρ},iV f l=some d->∃o∈l,f o=some d
 |[],h=>by cases h
 |o::r,h=>by
  rw[iV]at h;split at h
  .rename_i c e;obtain rfl:=aZ h;exact⟨o,.head _,e⟩
  .obtain⟨o',h1,h2⟩:=Ay h;exact⟨o',.tail _ h1,h2⟩
def oH (n:Nat):Δ:=List.replicate n (-1)
def maskP {w:bP}(hw:eK w=true)(hs:∀x∈w.us,x.ar.length<=16)(hf:Few w.us):xa (dG w.us):=by
 have hpos:0<w.us.length/\w.us.length<=48:=by
  unfold eK at hw;simp only[aD,aT]at hw;omega
 have hn:(dG w.us).needs.length=w.us.length:=by simp[dG,eM]
 have hb:(dG w.us).bars.length=w.us.length:=by simp[dG,jK]
 have hfu:(dG w.us).full.length=w.us.length:=by simp[dG,iW]
 refine⟨⟨ae,ae,ae,ae⟩,λu hu=>?_⟩;rw[hn]at hu⊢;have e1:(dG w.us).needs[u]! =eW w.us w.us[u]!.ar:=by unfold dG eM;dsimp only;rw[List.take_length,eu hu]
 have e2:(dG w.us).bars[u]! =jL w.us w.us[u]!.ar:=by unfold dG jK;dsimp only;rw[List.take_length,eu hu]
 have h16:=hs _ (aq hu);rw[e1,e2];refine⟨⟨by simp[eW,jL],by simpa[eW]using h16⟩,λc hc r hr=>?_,λr hr x hx=>?_⟩
 .unfold eW at hc;obtain⟨cd,h1,rfl⟩:=bI.1 hc;obtain⟨k,hk,rfl⟩:=List.mem_iff_getElem.1 h1;unfold lj at hr;obtain⟨r0,h2,rfl⟩:=bI.1 hr;have hfw:=(hf _ (aq hu) _ h1).2.2 r0 h2;refine⟨by simpa[eN]using hfw,λx hx=>?_⟩;unfold eN at hx;obtain⟨y,h3,rfl⟩:=bI.1 hx;exact(E5 hw hu (k:=k) hk).1 r0 (by rw[getElem!_pos w.us[u]!.ar k hk];exact h2) y h3
 .unfold jL at hr;obtain⟨cd,h1,rfl⟩:=bI.1 hr;obtain⟨k,hk,rfl⟩:=List.mem_iff_getElem.1 h1;unfold eN at hx;obtain⟨y,h3,rfl⟩:=bI.1 hx;exact(E5 hw hu (k:=k) hk).2 y (by rw[getElem!_pos w.us[u]!.ar k hk];exact h3)
def qp:LB (dG us) (oH us.length):=by
 refine⟨by simp[oH,dG,eM],λu hu=>?_⟩;have hul:u<us.length:=by simpa[dG,eM]using hu
 rw[show(oH us.length)[u]! =-1 by unfold oH;simp[hul]];exact⟨aX,ae⟩
def HP {us:Η}(h:LB (dG us) c):ChP us c:=by
 have hn:(dG us).needs.length=us.length:=by simp[dG,eM]
 refine⟨by rw[h.1,hn],λu hu=>?_⟩;have h1:=h.2 u ae;have e1:(dG us).needs[u]!.length=us[u]!.ar.length:=by unfold dG eM;dsimp only;rw[List.take_length,eu hu];simp[eW]
 rw[e1]at h1;exact h1
def Ta:∀o:ξ,slB (Qa o)
 |none=>trivial
 |some _=>trivial
def Pv {f:ek->ξ}{l:ρ}{i:Nat}{d:Δ}(hi:i<l.length)(h:f l[i]! =some d):iV f (l.drop i)=some d:=by
 rw[fD hi,iV,<-getElem!_pos l i hi,h]
def Mb {f:ek->ξ}{l:ρ}{i:Nat}(hi:i<l.length)(h:f l[i]! =none):iV f (l.drop i)=iV f (l.drop (i+1)):=by
 rw[fD hi,iV,<-getElem!_pos l i hi,h]
def Pu {f:ek->ξ}{l:ρ}{i:Nat}(hi:l.length<=i):iV f (l.drop i)=none:=by
 rw[kA hi,iV]
def Vs (i:Nat):oH i++[-1]=oH (i+1):=by unfold oH;rw[List.replicate_succ']
def Vt (i:Nat):(oH i).length=i:=by unfold oH;exact List.length_replicate
def negD (ds:Θ):Nat:=match ds.getD 2 .any with
 | .sl _ es=>es.countP λd=>match d with
  | .int _ x=>decide (x<0)
  |_=>false
 |_=>0
def S4 {a b:D}:negD [a,b,.sl 1 (c.map (D.int .i64))]=FN c:=by
 show(c.map (D.int .i64)).countP _=_;rw[List.countP_map];rfl
def iTr (a b:ρ):Jj a=Jj b↔a=b:=by simp[Jj,agR]
def iTrL (a b:Laj):a.map Jj=b.map Jj↔a=b:=kZ iTr a b
def iTrs (a b:Laj):pj a=pj b↔a=b:=by simp[pj,iTrL]
def agS (a b:δ):a.map pj=b.map pj↔a=b:=kZ iTrs a b
def iTrss (a b:δ):qA a=qA b↔a=b:=by simp[qA,agS]
def aku (a b:List (δ)):a.map qA=b.map qA↔a=b:=kZ iTrss a b
def iMsk (a b:kB):kB.D a=kB.D b↔a=b:=by
 obtain⟨x,y,z⟩:=a;obtain⟨x',y',z'⟩:=b;simp[kB.D,U8,aku,agS]
def YF (a b:Ο):a.map jW=b.map jW↔a=b:=kZ (λx y=>by simp[jW,U8]) a b
def iAsk (a b:Ask):Ask.D a=Ask.D b↔a=b:=by
 obtain⟨x,y⟩:=a;obtain⟨x',y'⟩:=b;simp[Ask.D,U8,YF]
def FI (l:Ψ)(s:aw):Int:=if gp (λt=>decide (t=s)) l 0<0 then 0 else gp (λt=>decide (t=s)) l 0
def cV (own:aw):aw×Gs:=if cI[(g.val 4).toNat]! =own then(cI[((g.aU.val 3+1+FI cI own)%4).toNat]!,g.aU.aU)else(cI[(g.val 4).toNat]!,g.aU)
def dM (own:aw):cP×Gs:=(⟨(cV g own).1,kr[((cV g own).2.val 8).toNat]!,[],decide (0<(cV g own).2.aU.val 3)⟩,(cV g own).2.aU.aU)
def hZ (own:aw):List cP×Gs:=
 if(dM g own).2.val 6=0 then([(dM g own).1,(dM (dM g own).2.aU own).1],(dM (dM g own).2.aU own).2)
 else if(dM g own).2.val 6=1 then([{(dM g own).1 with feats:=[fW]}],(dM g own).2.aU)else([(dM g own).1],(dM g own).2.aU)
def osY:aw:=[111,115,32,61,32,108,105,110,117,120]
def osN:aw:=[111,115,32,33,61,32,108,105,110,117,120]
def jO:aw×Gs:=(if g.val 8=0 then osY else if g.val 8=1 then osN else [],g.aU)
def Iz:aw×Gs:=(if g.val 5=0 then [111]else [],g.aU)
def mF (own:aw):bn×Gs:=(⟨(hZ g own).1,(jO (hZ g own).2).1,(Iz (jO (hZ g own).2).2).1⟩,(Iz (jO (hZ g own).2).2).2)
def VA (l:υ):Bool:=l.any λn=>decide (n.option=[111])
def iC:υ->Gs->Option aw×Gs
 |[],g=>(none,g)
 |n::r,g=>if n.any.length=1 then(if g.val 3=0 then(some n.any[0]!.name,g.aU)else iC r g.aU)else iC r g
def ofG (l:υ)(g:Gs):Ψ×Gs:=((if VA l=true then [[63,111]]else [])++(match(iC l g).1 with|some s=>[s++[47,102]]|none=>[]),(iC l g).2)
def nk (l:υ):b7×Gs:=(⟨[102],(ofG l g).1⟩,(ofG l g).2)
def nS (own:aw)(g:Gs):Nat->υ×Gs
 |0=>([],g)
 |i+1=>((nS own g i).1++[(mF (nS own g i).2 own).1],(mF (nS own g i).2 own).2)
def eP (own:aw):List mR×Gs:=if g.val 5=0 then([⟨(cV g.aU own).1,kr[((cV g.aU own).2.val 8).toNat]!,[]⟩],(cV g.aU own).2.aU)else([],g.aU)
def lG (l:υ):γ×Gs:=if g.val 2=0 then([(nk g.aU l).1],(nk g.aU l).2)else([],g.aU)
def pR (nm:aw)(v:b6)(most:Int):Rec×Gs:=
 let a:=nS nm g.aU (g.val (most+1)).toNat
 let b:=eP a.2 nm
 let c:=lG b.2 a.1
 (⟨nm,v,a.1,b.1,c.1⟩,c.2)
def lg (s:bz)(r:Rec):bz×Int:=
 if gA s=false then(default,1)else if(fJ r).2≠0 then(default,(fJ r).2)else if 0<=qt s.es r.name r.v 0 then(default,8)else if 64<=s.es.length then(default,10)else(⟨s.name,s.es++[⟨r,wQ r,false⟩]⟩,0)
def oW (s:bz)(nm:aw)(v:b6)(on:Bool):bz×Int:=
 if gA s=false then(default,1)else if qt s.es nm v 0<0 then(default,9)else(⟨s.name,s.es.set (qt s.es nm v 0).toNat {s.es[(qt s.es nm v 0).toNat]! with off:=on}⟩,0)
def ry (l:Β)(k:Nat)(p:bz×Int):Β:=if p.2=0 then l.set k p.1 else l
def lD (l:Β):Β×Gs:=
 let k:=(g.val l.length).toNat
 let nm:=cI[(g.aU.val 4).toNat]!
 let v:=bQ[(g.aU.aU.val 4).toNat]!
 let h:=g.aU.aU.aU
 if h.val 6=0 then(ry l k (oW l[k]! nm v (decide (0<h.aU.val 3))),h.aU.aU)else(ry l k (lg l[k]! (pR h.aU nm v 2).1),(pR h.aU nm v 2).2)
def Ol:Β:=[⟨Zj,[]⟩,⟨EF,[]⟩]
def pS (g:Gs):Nat->Β×Gs
 |0=>(Ol,g)
 |i+1=>lD (pS g i).2 (pS g i).1
def G3 (most:Int):Β:=(pS (⟨ks,0⟩:Gs).aU ((⟨ks,0⟩:Gs).val (most+1)).toNat).1
def YQ (l:Ψ)(s:aw):0<=FI l s/\FI l s<=l.length:=by
 unfold FI;rcases ew (f:=λt=>decide (t=s)) (l:=l) (k:=0)with⟨h,_⟩|⟨j,h,h2,_⟩
 .rw[h];simp
 .rw[h,ah ae];omega
def o8 (n:Int)(g g':Gs):Prop:=g.i<=g'.i/\g'.i<=g.i+n
def o8.tr {n k:Int}{a b c:Gs}(h:o8 n a b)(h2:o8 k b c):o8 (n+k) a c:=by unfold o8 at*;omega
def yg (own:aw):o8 2 g (cV g own).2:=by unfold cV o8;split<;>simp only[Gs.aU]<;>omega
def Ct (own:aw):o8 4 g (dM g own).2:=by
 have:=yg g own;simp only[o8,dM,Gs.aU]at*;omega
def Xl (own:aw):o8 9 g (hZ g own).2:=by
 have h1:=Ct g own;have h2:=Ct (dM g own).2.aU own;unfold hZ;simp only[o8,Gs.aU]at*
 split
 .simp only;omega
 .split<;>simp only<;>omega
def S3 (own:aw):o8 11 g (mF g own).2:=by
 have h1:=Xl g own;simp only[o8,mF,jO,Iz,Gs.aU]at*;omega
def IC:∀(l:υ) (g:Gs),o8 l.length g (iC l g).2
 |[],g=>by simp[o8,iC]
 |n::r,g=>by
  have h1:=IC r g;have h2:=IC r g.aU;simp only[o8,Gs.aU,bJ]at*
  rw[iC];split
  .split<;>simp only[Gs.aU]<;>omega
  .omega
def x5 (own:aw)(g:Gs):∀i:Nat,o8 (11*i) g (nS own g i).2/\(nS own g i).1.length=i
 |0=>⟨by simp[o8,nS],rfl⟩
 |i+1=>by
  have h1:=x5 own g i;have h2:=S3 (nS own g i).2 own;simp only[o8,nS,cx,bJ,cj]at*
  omega
def HH (own:aw):o8 4 g (eP g own).2:=by
 have:=yg g.aU own;unfold eP;simp only[o8,Gs.aU]at*
 split<;>simp only<;>omega
def HU (l:υ):o8 (1+l.length) g (lG g l).2:=by
 have:=IC l g.aU;unfold lG;simp only[o8,Gs.aU,nk,ofG]at*
 split<;>simp only<;>omega
def al9 (nm:aw)(v:b6):o8 30 g (pR g nm v 2).2:=by
 have h4:=(g.TS (2+1)).1 ae;show o8 30 g (lG (eP (nS nm g.aU (g.val (2+1)).toNat).2 nm).2 (nS nm g.aU (g.val (2+1)).toNat).1).2;generalize g.val (2+1)=z at h4⊢;have h1:=x5 nm g.aU z.toNat;have h2:=HH (nS nm g.aU z.toNat).2 nm;have h3:=HU (eP (nS nm g.aU z.toNat).2 nm).2 (nS nm g.aU z.toNat).1;generalize nS nm g.aU z.toNat=a at*
 generalize eP a.2 nm=b at*
 generalize lG b.2 a.1=c at*
 simp only[o8,Gs.aU]at*
 omega
theorem aaf (l:Β):o8 34 g (lD g l).2:=by
 have h1:=al9 g.aU.aU.aU.aU cI[(g.aU.val 4).toNat]! bQ[(g.aU.aU.val 4).toNat]!;by_cases h:g.aU.aU.aU.val 6=0
 .rw[show lD g l=_ from ak h];simp only[o8,Gs.aU];omega
 .rw[show lD g l=_ from ah h];simp only[o8,Gs.aU]at*;omega
theorem Tm (l:Β):(lD g l).1.length=l.length:=by
 simp only[lD,ry];split<;>simp only<;>split<;>simp
def IE (g:Gs):∀i:Nat,o8 (34*i) g (pS g i).2/\(pS g i).1.length=2
 |0=>⟨by simp[o8,pS],rfl⟩
 |i+1=>by
  have h1:=IE g i;have h2:=aaf (pS g i).2 (pS g i).1;have h3:=Tm (pS g i).2 (pS g i).1;simp only[o8,pS]at*
  omega
def wj [Inhabited α]{l:List α}{P:α->Prop}(hd:P default)(h:∀x∈l,P x)(i:Nat):P l[i]! :=by
 by_cases hi:i<l.length
 .exact h _ (aq hi)
 .rw[show l[i]! =default by simp[List.getElem!_eq_getElem?_getD,List.getElem?_eq_none (Nat.le_of_not_lt hi)]];exact hd
def zz (i:Nat):cI[i]!.length<=3:=wj (P:=λs:aw=>s.length<=3) aX aX i
def zG (own:aw):(cV g own).1.length<=3:=by
 unfold cV;split<;>exact zz _
def IP {g:Gs}:kI kr[(g.val 8).toNat]! :=by
 have:=g.e7 8 ae;exact aq (by simp only[kr,bJ,cj];omega)
def TV (own:aw):(dM g own).1.sm:=⟨⟨by have:=zG g own;simp only[dM];omega,IP⟩,λ_ h=>cb⟩
def aiE (own:aw):∀w∈(hZ g own).1,w.sm:=by
 have h1:=TV g own;have h2:=TV (dM g own).2.aU own;unfold hZ;split
 .intro w hw;simp only[bH,cX,or_false]at hw;rcases hw with rfl|rfl<;>assumption
 .split
  .intro w hw;rw[aF.1 hw];exact⟨h1.1,λt ht=>by rw[aF.1 ht];decide⟩
  .intro w hw;rw[aF.1 hw];exact h1
def aeY (own:aw):(mF g own).1.sm:=by
 refine⟨aiE g own, ?_, ?_⟩
 .show pD (jO (hZ g own).2).1;unfold jO pD;simp only;split
  .decide
  .split<;>decide
 .show(Iz (jO (hZ g own).2).2).1.length<=1048576;unfold Iz;simp only;split<;>decide
def SY (own:aw)(g:Gs):∀i,∀n∈(nS own g i).1,n.sm
 |0=>λ_ h=>by cases h
 |i+1=>λn h=>by
  rcases List.mem_append.1 h with h|h
  .exact SY own g i n h
  .rw[aF.1 h];exact aeY _ _
structure gY where
 name:aw
 shelf:aw
 deriving Inhabited,DecidableEq
abbrev π:=List gY
def gY.D (x:gY):D:=.agg [.str x.name,.str x.shelf]
structure kP where
 name:aw
 range:aw
 deriving Inhabited,DecidableEq
def kP.D (x:kP):D:=.agg [.str x.name,.str x.range]
structure gI where
 r:Rec
 ps:π
 hs:List kP
 deriving Inhabited,DecidableEq
abbrev φ:=List gI
def gI.D (x:gI):D:=.agg [.str x.r.name,.int .i64 x.r.v.major,.int .i64 x.r.v.minor,.int .i64 x.r.v.patch,.str x.r.v.pre,.str x.r.v.build,.sl 3 (x.r.needs.map bn.D),.sl 3 (x.r.bars.map mR.D),.sl 2 (x.r.feats.map b7.D),.sl 2 (x.ps.map gY.D),.sl 2 (x.hs.map kP.D)]
def Ng (l:π)(i:Nat):Int:=if(di l[i]!.name=false\/di l[i]!.shelf=false)\/(0<i/\Op.bytesLess l[i-1]!.name l[i]!.name=false)then 15 else 0
def Dd (l:List kP)(i:Nat):Int:=if di l[i]!.name=false\/(0<i/\Op.bytesLess l[i-1]!.name l[i]!.name=false)then 4 else if rm l[i]!.range=false then 6 else 0
def DS (l:π):Int×Int:=gU (Ng l) 0 l.length
def Df (l:List kP):Int×Int:=gU (Dd l) 0 l.length
def kR (m:gI):Int×Int:=if ¬(c8 m.r).1=0 then c8 m.r else if 8<m.ps.length\/8<m.hs.length then(3,0)else if ¬(DS m.ps).1=0 then DS m.ps else Df m.hs
def Zl (m:gI):Prop:=gM m.r/\∀h∈m.hs,kI h.range
structure qM where
 r:Rec
 sh:Int
 deriving Inhabited,DecidableEq
def qM.D (x:qM):D:=.agg [.str x.r.name,.int .i64 x.r.v.major,.int .i64 x.r.v.minor,.int .i64 x.r.v.patch,.str x.r.v.pre,.str x.r.v.build,.sl 3 (x.r.needs.map bn.D),.sl 3 (x.r.bars.map mR.D),.sl 2 (x.r.feats.map b7.D),.int .i64 x.sh]
def u7 (l:List qM):D:=.sl 10 (l.map qM.D)
instance keyDec:DecidableEq Key:=λa b=>decidable_of_iff (a.n=b.n/\a.f=b.f) (by cases a;cases b;simp)
structure jv where
 k:Key
 s:cy
 deriving Inhabited,DecidableEq
def jv.D (a:jv):D:=.agg [.str a.k.n,.str a.k.f,.sl 14 (a.s.rel.map Span.D),.sl 14 (a.s.pr.map Span.D)]
abbrev fS:=List jv
abbrev ο:=List fS
def ed (r:fS):D:=.sl 4 (r.map jv.D)
structure cu where
 l:φ
 shop:Β
 e:Env
 keeps:List Kp
 pins:π
 deriving Inhabited,DecidableEq
def cu.D (y:cu)(f:D):D:=.agg [.sl 11 (y.l.map gI.D),.sl 2 (y.shop.map bz.D),.str y.e.e0,.str y.e.e1,.str y.e.e2,.sl 6 (y.keeps.map Kp.D),.sl 2 (y.pins.map gY.D),f]
variable(y:cu)
def linW:aw:=[108,105,110,117,120]
def GJ (w:aw)(e:Env):Bool:=if w=osY then decide (e.e0=[]) ||decide (e.e0=linW)else if w=osN then !decide (e.e0=linW)else true
def fw (x:cP):Α:=(if x.bare=true then(if x.feats=[]then [⟨x.name,[]⟩]else [])else [⟨x.name,lE⟩])++x.feats.map λf=>⟨x.name,f⟩
def bC (a b c:Int):Cut:=⟨0,⟨a,b,c,[],[]⟩,false⟩
def a1W:aw:=[97,46,49]
def hR:List cy:=[⟨Rn,[]⟩,⟨[⟨bC 1 0 0,bC 2 0 0⟩],[]⟩,⟨[⟨bC 1 2 0,bC 1 2 1⟩],[]⟩,⟨[⟨bC 1 2 0,Mw⟩],[]⟩,⟨[⟨C0,bC 2 0 0⟩],[]⟩,
 ⟨[⟨bC 2 0 0,bC 3 0 0⟩],[⟨⟨0,⟨2,0,0,a1W,[]⟩,false⟩,bC 2 0 0⟩]⟩,⟨[⟨bC 1 0 0,bC 1 0 1⟩,⟨bC 2 0 0,bC 2 0 1⟩],[]⟩,⟨[⟨C0,bC 1 2 0⟩,⟨bC 1 2 1,Mw⟩],[]⟩]
def eY (s:aw):cy:=hR[(gp (λt=>decide (t=s)) kr 0).toNat]!
def plnW:aw:=[112,108,97,110,57]
def qV:List Env:=[⟨[],[],[]⟩,⟨linW,[],[]⟩,⟨plnW,[],[]⟩]
def kS (e:Env):Prop:=e∈qV
def iQ (n:bn):ο:=if n.any.length=1 then(fw n.any[0]!).map λk=>[⟨k,eY n.any[0]!.range⟩]else [n.any.map λw=>⟨(fw w)[0]!,eY w.range⟩]
def BI (e:Env)(o:aw)(n:bn):ο:=if n.option=o/\GJ n.when' e=true then iQ n else []
def rj (ns:υ)(e:Env)(o:aw):ο:=ns.flatMap (BI e o)
def rT (e:Env)(nm ft:aw)(n:bn):ο:=if(n.any.length=1/\n.any[0]!.name=nm)/\GJ n.when' e=true then(if n.option=[]then []else iQ n)++[[⟨⟨nm,ft⟩,eY n.any[0]!.range⟩]]else []
def ja (ns:υ)(e:Env)(nm ft:aw):ο:=ns.flatMap (rT e nm ft)
def mD (r:Rec)(e:Env)(s:aw):ο:=if(bN s).1=1 then [[⟨⟨r.name,(bN s).2.1⟩,dS r.v⟩]]else if(bN s).1=2 then rj r.needs e (bN s).2.1 else ja r.needs e (bN s).2.1 (bN s).2.2
def vy (l:γ)(ft:aw):Ψ:=if findF l ft 0<0 then []else l[(findF l ft 0).toNat]!.of
def cL (r:Rec)(e:Env)(ft:aw):ο:=if ft=[]then rj r.needs e []else [[⟨⟨r.name,[]⟩,dS r.v⟩]]++(vy r.feats ft).flatMap (mD r e)
def eH (l:φ):ο:=l.map λm=>[⟨⟨m.r.name,lE⟩,dS m.r.v⟩]
def eV:Key:=⟨[],[]⟩
def fj (a b:Key):Bool:=Op.bytesLess a.n b.n ||(decide (a.n=b.n)&&Op.bytesLess a.f b.f)
def FJ (l:Α)(k:Key)(i:Nat):Nat:=i+((l.drop i).takeWhile λx=>fj x k).length
def sT (l:Α)(k:Key):Α:=if FJ l k 0<l.length/\l[FJ l k 0]! =k then l else(l.take (FJ l k 0)++[k])++l.drop (FJ l k 0)
def cz (l:Α)(k:Key):Int:=gp (λx=>decide (x=k)) l 0
def isM (nm:aw)(m:gI):Bool:=decide (m.r.name=nm)
def k8 (l:φ)(nm:aw):Int:=gp (isM nm) l 0
def Dc (nm:aw)(s:bz):Bool:=s.es.any λx=>decide (x.r.name=nm)
def AO (l:π):Bool:=bK (λi=>decide (Ng l i=0)) 0 l.length
def FR (l:π)(nm:aw):Int:=gp (λp=>decide (p.name=nm)) l 0
def dy (pins:π)(nm:aw):Int×Int:=
 if ea shop=false then(0,1)else if AO pins=false then(0,15)
 else if 0<=FR pins nm then(if mK shop pins[(FR pins nm).toNat]!.shelf<0 then(0,12)else(mK shop pins[(FR pins nm).toNat]!.shelf,0))
 else if gp (Dc nm) shop 0<0 then(0,9)else(gp (Dc nm) shop 0,0)
def zm (es:ω)(l:Δ)(i k:Nat):Nat:=k+((l.drop k).takeWhile λj=>decide (iO es[j.toNat]!.r.v es[i]!.r.v<0)).length
def Dn (es:ω)(l:Δ)(i:Nat):Δ:=(l.take (zm es l i 0)++[(i:Int)])++l.drop (zm es l i 0)
def eG (es:ω)(nm:aw):Nat->Δ
 |0=>[]
 |i+1=>if es[i]!.r.name=nm then Dn es (eG es nm i) i else eG es nm i
def jk (s:bz)(nm:aw):Δ:=if gA s=false then []else eG s.es nm s.es.length
def cA (pins:π)(nm:aw):Int×Δ×Int:=if(dy shop pins nm).2≠0 then(0,[],(dy shop pins nm).2)else((dy shop pins nm).1,jk shop[(dy shop pins nm).1.toNat]! nm,0)
def AE (ks:List Kp)(r:Rec):Bool:=ks.any λk=>decide (k.name=r.name)&&Iw k.v r.v
def kW (l:φ)(nm:aw):cy:=if l[0]!.hs.length≠0/\l[0]!.hs[0]!.name=nm then eY l[0]!.hs[0]!.range else p8
def EO (nm:aw)(x:ju):Bool:=(!x.off ||AE y.keeps x.r)&&pg (kW y.l nm) x.r.v
def gZ (y:cu)(nm:aw)(at':Nat):Δ->List qM
 |[]=>[]
 |i::r=>(if EO y nm y.shop[at']!.es[i.toNat]! =true then [⟨y.shop[at']!.es[i.toNat]!.r,(at':Int)⟩]else [])++gZ y nm at' r
def dc (nm:aw):List qM:=
 if 0<=k8 y.l nm then [⟨y.l[(k8 y.l nm).toNat]!.r,-1⟩]else if(cA y.shop y.pins nm).2.2≠0 then []else gZ y nm (cA y.shop y.pins nm).1.toNat (cA y.shop y.pins nm).2.1
def Tb (ft:aw)(x:qM):Bool:=decide (ft=[]) ||isF x.r.feats ft
def ei (k:Key):List qM:=(dc y k.n).filter (Tb k.f)
def cJ (k:Key):ο:=if k=eV then eH y.l else(ei y k).flatMap λx=>cL x.r y.e k.f
structure pI where
 all:Α
 todo:Α
 deriving Inhabited,DecidableEq
def mI (s:pI)(a:jv):pI:=if s.all.length<(sT s.all a.k).length then⟨sT s.all a.k,s.todo++[a.k]⟩else s
def Qo (s:pI)(r:ο):pI:=r.foldl (λs row=>row.foldl mI s) s
def BN (s:pI):pI:=Qo ⟨s.all,s.todo.drop 1⟩ (cJ y s.todo[0]!)
def BM (y:cu):Nat->pI->Option (List Key)
 |0,_=>none
 |n+1,s=>if s.todo.length=0 then some s.all else if 48<(BN y s).all.length then none else BM y n (BN y s)
def nM:pI:=⟨[eV],[eV]⟩
def mZ:Option (List Key):=BM y 49 nM
def dr (all:Α)(l:ο):Laf:=l.map λr=>r.map λa=>⟨cz all a.k,a.s⟩
def pJ (all:Α)(e:Env)(b:mR):θ:=if 0<=cz all ⟨b.name,[]⟩/\GJ b.when' e=true then [⟨cz all ⟨b.name,[]⟩,eY b.range⟩]else []
def si (all:Α)(r:Rec)(e:Env):θ:=r.bars.flatMap (pJ all e)
def cS (all:Α)(k:Key)(x:qM):eI:=⟨x.r.v,x.sh,dr all (cL x.r y.e k.f),if k.f=[]then si all x.r y.e else []⟩
def oU (c:eI):Bool:=decide (24<c.needs.length) ||decide (24<c.bars.length)
def dW (all:Α)(k:Key):Lak×Bool:=
 if k=eV then([⟨zV,-1,dr all (eH y.l),[]⟩],true)
 else if((ei y k).map (cS y all k)).any oU=true then([],false)else((ei y k).map (cS y all k),decide ((dc y k.n).length<=16))
def oR (all:Α)(k:Key):cN:=⟨k.n,k.f,(dW y all k).1⟩
def nT (y:cu)(all:Α):Nat->Η×Bool
 |0=>([],true)
 |i+1=>if(nT y all i).2=true then((nT y all i).1++[oR y all all[i]!],(dW y all all[i]!).2)else nT y all i
def az:bP×Bool:=match mZ y with
 |none=>(⟨[]⟩,false)
 |some all=>(⟨(nT y all all.length).1⟩,(nT y all all.length).2)
def fm (l:φ):π:=l[0]!.ps
def dK (l:φ)(shop:Β)(e:Env)(keeps:List Kp):bP×Int:=
 if ea shop=false\/mw e=false then(⟨[]⟩,1)else if(fm l).any (λp=>decide (mK shop p.shelf<0))=true then(⟨[]⟩,12)
 else if(az ⟨l,shop,e,keeps,fm l⟩).2=false then(⟨[]⟩,10)else((az ⟨l,shop,e,keeps,fm l⟩).1,0)
def qoW:aw:=[63,111]
def rv (l:υ)(i:Nat):Ψ:=if VA (l.take i)=true then [qoW]else []
def GK {i:Nat}(h:i<l.length):VA (l.take (i+1))=(VA (l.take i) ||decide (l[i]!.option=[111])):=by
 have e:l.take (i+1)=l.take i++[l[i]!]:=by
  rw[List.take_add_one,List.getElem?_eq_getElem h];simp[h]
 rw[e];simp[VA]
def ame {i:Nat}(h:i<l.length)(h2:l[i]!.option=[111]/\((rv l i).length:Int)=0):rv l (i+1)=[qoW]:=by
 unfold rv;rw[GK h,ak (by rw[aY h2.1,Bool.or_true])]
def amd {i:Nat}(h:i<l.length)(h2:¬l[i]!.option=[111]\/¬((rv l i).length:Int)=0):rv l i=rv l (i+1):=by
 unfold rv at*
 rw[GK h];rcases h2 with h2|h2
 .simp only[bA h2,Bool.or_false]
 .split at h2
  .rename_i h3;rw[h3];rfl
  .simp at h2
def gS (l:υ)(g:Gs):Nat->Gs
 |0=>g
 |i+1=>if l[i]!.any.length=1 then(gS l g i).aU else gS l g i
def agF (l:υ)(g:Gs):∀i:Nat,o8 (i:Int) g (gS l g i)
 |0=>by simp[o8,gS]
 |i+1=>by
  have:=agF l g i;rw[gS];split<;>simp only[o8,Gs.aU]at* <;>omega
def aly {g:Gs}{i:Nat}(h:i<l.length)(h1:l[i]!.any.length=1)(h2:(gS l g i).val 3=0):iC (l.drop i) (gS l g i)=(some l[i]!.any[0]!.name,(gS l g i).aU):=by
 rw[fD h,iC,show l[i]=l[i]! by simp[h],ak h1,ak h2]
def alz {g:Gs}{i:Nat}(h:i<l.length)(h1:l[i]!.any.length=1)(h2:¬(gS l g i).val 3=0):iC (l.drop i) (gS l g i)=iC (l.drop (i+1)) (gS l g (i+1)):=by
 rw[fD h,iC,show l[i]=l[i]! by simp[h],ak h1,ah h2,gS,ak h1]
def alA {g:Gs}{i:Nat}(h:i<l.length)(h1:¬l[i]!.any.length=1):iC (l.drop i) (gS l g i)=iC (l.drop (i+1)) (gS l g (i+1)):=by
 rw[fD h,iC,show l[i]=l[i]! by simp[h],ah h1,gS,ah h1]
def alB {g:Gs}{i:Nat}(h:l.length<=i):iC (l.drop i) (gS l g i)=(none,gS l g i):=by
 rw[kA h,iC]
def N7 (l:υ):rv l l.length=if VA l=true then [qoW]else []:=by rw[rv,List.take_length]
def N8 (l:υ)(i:Nat):(rv l i).length<=1:=by unfold rv;split<;>simp
def X8 {g:Gs}{i:Nat}(hr:iC l g=iC (l.drop i) (gS l g i))(h:i<l.length)(h1:l[i]!.any.length=1)(h2:(gS l g i).val 3=0):nk g l=(⟨[102],rv l l.length++[l[i]!.any[0]!.name++[47,102]]⟩,(gS l g i).aU):=by
 rw[nk,ofG,hr,aly h h1 h2,N7];rfl
def X9 {g:Gs}{i:Nat}(hr:iC l g=iC (l.drop i) (gS l g i))(h:l.length<=i):nk g l=(⟨[102],rv l l.length⟩,gS l g i):=by
 rw[nk,ofG,hr,alB h,N7];simp only[gw];rfl
section
variable {s:bz}{r:Rec}{v:b6}{on:Bool}
def put_1 (h:gA s=false):lg s r=(default,1):=by rw[lg,ak h]
def put_2 (h:gA s=true)(h2:¬(fJ r).2=0):lg s r=(default,(fJ r).2):=by rw[lg,ah gy,ak h2]
def put_3 (h:gA s=true)(h2:(fJ r).2=0)(h3:0<=qt s.es r.name r.v 0):lg s r=(default,8):=by rw[lg,ah gy,ah (by simp[h2]),ak h3]
def put_4 (h:gA s=true)(h2:(fJ r).2=0)(h3:¬0<=qt s.es r.name r.v 0)(h4:64<=s.es.length):lg s r=(default,10):=by rw[lg,ah gy,ah (by simp[h2]),ah h3,ak h4]
def put_5 (h:gA s=true)(h2:(fJ r).2=0)(h3:¬0<=qt s.es r.name r.v 0)(h4:¬64<=s.es.length):lg s r=(⟨s.name,s.es++[⟨r,wQ r,false⟩]⟩,0):=by rw[lg,ah gy,ah (by simp[h2]),ah h3,ah h4]
def amE (h:gA s=false):oW s nm v on=(default,1):=by rw[oW,ak h]
def amF (h:gA s=true)(h2:qt s.es nm v 0<0):oW s nm v on=(default,9):=by rw[oW,ah gy,ak h2]
def amG (h:gA s=true)(h2:qt s.es nm v 0=(j:Nat)):oW s nm v on=(⟨s.name,s.es.set j {s.es[j]! with off:=on}⟩,0):=by
 rw[oW,ah gy,ah ae,h2,Int.toNat_natCast]
end
def Rec.fz (l k:Nat)(es:Θ)(c:Rec):jj l k es c.D=c.D:=ij l k es _ (by simp only[Rec.D,D.aV,aP,gW])
def Jh [Inhabited α]{q:α->D}{xs:List α}{i o:Nat}{v:D}{y:α}(h:i<xs.length)(he:tj (q xs[i]!) k n o v=q y):(xs.map q).set (0+i) (tj ((xs.map q).getD (0+i) .any) k n o v)=(xs.set i y).map q:=by
 rw[cG,getD_map h,he,List.map_set]
section
variable {g:Gs}{l:Β}
def kG (g:Gs)(l:Β):Nat:=(g.val l.length).toNat
def nmG (g:Gs):aw:=cI[(g.aU.val 4).toNat]!
def vrG (g:Gs):b6:=bQ[(g.aU.aU.val 4).toNat]!
def WC (g:Gs)(l:Β):bz×Int:=oW l[kG g l]! (nmG g) (vrG g) (decide (0<g.aU.aU.aU.aU.val 3))
def rcG (g:Gs):Rec×Gs:=pR g.aU.aU.aU.aU (nmG g) (vrG g) 2
def WA (g:Gs)(l:Β):bz×Int:=lg l[kG g l]! (rcG g).1
def aaa (h:g.aU.aU.aU.val 6=0)(h2:(WC g l).2=0):lD g l=(l.set (kG g l) (WC g l).1,g.aU.aU.aU.aU.aU):=by
 rw[show lD g l=(ry l (kG g l) (WC g l),g.aU.aU.aU.aU.aU)from ak h,ry,ak h2]
def aab (h:g.aU.aU.aU.val 6=0)(h2:¬(WC g l).2=0):lD g l=(l,g.aU.aU.aU.aU.aU):=by
 rw[show lD g l=(ry l (kG g l) (WC g l),g.aU.aU.aU.aU.aU)from ak h,ry,ah h2]
def aac (h:¬g.aU.aU.aU.val 6=0)(h2:(WA g l).2=0):lD g l=(l.set (kG g l) (WA g l).1,(rcG g).2):=by
 rw[show lD g l=(ry l (kG g l) (WA g l),(rcG g).2)from ah h,ry,ak h2]
def aad (h:¬g.aU.aU.aU.val 6=0)(h2:¬(WA g l).2=0):lD g l=(l,(rcG g).2):=by
 rw[show lD g l=(ry l (kG g l) (WA g l),(rcG g).2)from ah h,ry,ah h2]
end
def yQ (i:Nat):bQ[i]!.sm:=wj (P:=λv:b6=>v.sm) ⟨aX,aX⟩ (by
 intro v hv;simp only[bQ,bH,cX,or_false]at hv;rcases hv with rfl|rfl|rfl|rfl<;>exact⟨aX,aX⟩) i
def DI {i:Nat}(h:i<4):cI[i]! ∈cI:=aq h
def Na (own:aw):(cV g own).1∈cI:=by
 have r4:=g.e7 4 ae;have r3:=g.aU.e7 3 ae;have rz:=YQ cI own;unfold cV;split
 .exact DI ae
 .exact DI ae
def aiD (own:aw):∀w∈(hZ g own).1,w.name∈cI:=by
 have h1:=Na g own;have h2:=Na (dM g own).2.aU own;unfold hZ;split
 .intro w hw;simp only[bH,cX,or_false]at hw;rcases hw with rfl|rfl<;>assumption
 .split<;>intro w hw<;>rw[aF.1 hw]<;>exact h1
def Zt (own:aw)(g:Gs):∀i,∀n∈(nS own g i).1,∀w∈n.any,w.name∈cI
 |0=>λ_ h=>by cases h
 |i+1=>λn h=>by
  rcases List.mem_append.1 h with h|h
  .exact Zt own g i n h
  .rw[aF.1 h];exact aiD _ _
def IB:∀(l:υ) (g:Gs),(∀n∈l,∀w∈n.any,w.name∈cI)->∀s,(iC l g).1=some s->s∈cI
 |[],g,_,s,h=>by cases h
 |n::r,g,hl,s,h=>by
  rw[iC]at h;split at h
  .rename_i h1;split at h
   .simp only[aG]at h;rw[<-h];exact hl n (.head _) _ (aq ae)
   .exact IB r _ (λn hn=>hl n (.tail _ hn)) s h
  .exact IB r _ (λn hn=>hl n (.tail _ hn)) s h
def agZ {g:Gs}(hl:∀n∈l,∀w∈n.any,w.name∈cI):(ofG l g).1∈ofL:=by
 have h:=IB l g hl;unfold ofG;simp only;cases hp:(iC l g).1 with
 |none=>split<;>decide
 |some s=>
  have hs:=h s hp;simp only[cI,bH,cX,or_false]at hs;rcases hs with rfl|rfl|rfl|rfl<;>split<;>decide
def aaP {v:b6}(hn:nm.length<=3)(hv:v.sm):gM (pR g nm v 2).1:=by
 refine⟨⟨by show nm.length<=_;omega,hv⟩,SY nm g.aU _, ?_, ?_⟩
 .show ∀b∈(eP (nS nm g.aU (g.val (2+1)).toNat).2 nm).1,b.sm
  unfold eP;split
  .intro b hb;rw[aF.1 hb];exact⟨by have:=zG (nS nm g.aU (g.val (2+1)).toNat).2.aU nm;simp only;omega,IP,show([]:aw)∈MR by decide⟩
  .intro b hb;cases hb
 .show(lG (eP (nS nm g.aU (g.val (2+1)).toNat).2 nm).2 (nS nm g.aU (g.val (2+1)).toNat).1).1∈CT;unfold lG;split
  .exact .tail _ (bI.2 ⟨_,agZ (Zt nm g.aU _),rfl⟩)
  .exact .head _
def TH {l:Β}{p:bz×Int}(h:fq l)(hp:∀x∈p.1.es,gM x.r):fq (ry l k p):=by
 unfold ry;split
 .intro s hs;rcases List.mem_or_eq_of_mem_set hs with h1|rfl
  .exact h s h1
  .exact hp
 .exact h
def af1 {s:bz}{v:b6}{on:Bool}(h:∀x∈s.es,gM x.r):∀x∈(oW s nm v on).1.es,gM x.r:=by
 unfold oW;split
 .intro x hx;cases hx
 .split
  .intro x hx;cases hx
  .rename_i h2;obtain⟨j,hj,hjl⟩:=(Ck (l:=s.es) (nm:=nm) (v:=v)).resolve_left ae;rw[hj,Int.toNat_natCast];intro x hx;rcases List.mem_or_eq_of_mem_set hx with h1|rfl
   .exact h x h1
   .exact h s.es[j]! (aq hjl)
def alN {s:bz}{r:Rec}(h:∀x∈s.es,gM x.r)(hr:gM r):∀x∈(lg s r).1.es,gM x.r:=by
 unfold lg;split
 .intro x hx;cases hx
 .split
  .intro x hx;cases hx
  .split
   .intro x hx;cases hx
   .split
    .intro x hx;cases hx
    .intro x hx;rcases List.mem_append.1 hx with h1|h1
     .exact h x h1
     .rw[aF.1 h1];exact hr
def HX {l:Β}(h:fq l)(k:Nat):∀x∈l[k]!.es,gM x.r:=wj (P:=λs:bz=>∀x∈s.es,gM x.r) (λ_ h=>cb) h k
theorem aae {g:Gs}{l:Β}(h:fq l):fq (lD g l).1:=by
 by_cases h1:g.aU.aU.aU.val 6=0
 .rw[show lD g l=(ry l (kG g l) (WC g l),g.aU.aU.aU.aU.aU)from ak h1];exact TH h (af1 (HX h _))
 .rw[show lD g l=(ry l (kG g l) (WA g l),(rcG g).2)from ah h1];exact TH h (alN (HX h _) (aaP _ (zz _) (yQ _)))
def ZY (g:Gs):∀i,fq (pS g i).1
 |0=>λs hs=>by
  simp only[pS,Ol,bH,cX,or_false]at hs;rcases hs with rfl|rfl<;>intro x hx<;>cases hx
 |i+1=>aae (ZY g i)
def Om (most:Int):fq (G3 ks most):=ZY _ _
def cU (ord:Ο)(u:Int):Δ:=if u<(ord.length:Int)then ord[u.toNat]! else []
def U4 (l:Δ)(x:Int):Bool:=pd (λk=>decide (l[k]! =x)) 0 l.length
def cK (o:Δ)(n:Nat):Nat->Δ
 |0=>o
 |i+1=>if U4 (cK o n i) ((n:Int) -1-(i:Int))=true then cK o n i else cK o n i++[(n:Int) -1-(i:Int)]
def OB (m:kB)(ord:Ο)(u:Int):Δ:=cK (cU ord u) m.needs[u.toNat]!.length m.needs[u.toNat]!.length
def y3 (m:kB)(ord:Ο):=∀u:Nat,u<m.needs.length->(cU ord u).length<=16/\∀p∈cU ord u,0<=p/\p<m.needs[u]!.length
def TP {o:Δ}{n:Nat}(ho:∀p∈o,0<=p/\p<(n:Int)):∀i,i<=n->(∀p∈cK o n i,0<=p/\p<(n:Int))/\(cK o n i).length<=o.length+i
 |0,_=>⟨ho,aR _⟩
 |i+1,h=>by
  obtain⟨h1,h2⟩:=TP ho i ae;rw[cK];split
  .exact⟨h1,ae⟩
  .refine⟨λp hp=>?_,Lz⟩;rcases List.mem_append.1 hp with hp|hp
   .exact h1 p hp
   .obtain rfl:=aF.1 hp;omega
def GH (m:kB)(ord:Ο)(c:Δ)(x:ek)(out:ρ):ρ:=if 0<=c[x.u.toNat]! then out else kn x.m x.u (OB m ord x.u) (OB m ord x.u).length out
def dZ (m:kB)(ord:Ο)(c:Δ)(l:ρ):Nat->ρ
 |0=>[]
 |k+1=>GH m ord c l[k]! (dZ m ord c l k)
def eA (m:kB)(ord:Ο)(c:Δ):ρ:=if(ey m c).1<0 then []else dZ m ord c (bF m c) (bF m c).length
def M3 {m:kB}{c:Δ}{mask u:Int}{ts:Δ}(hu:(0<=u/\u<m.needs.length)/\c[u.toNat]! <0)(ht:∀p∈ts,0<=p/\p<m.needs[u.toNat]!.length):∀i out,i<=ts.length->(∀o∈out,W7 m c o)->(∀o∈kn mask u ts i out,W7 m c o)/\(kn mask u ts i out).length<=out.length+i
 |0,out,_,h=>⟨h,aR _⟩
 |i+1,out,hi,h=>by
  obtain⟨h1,h2⟩:=M3 (mask:=mask) hu ht i out ae h;have hg:=ht _ (aq (show i<ts.length by omega));rw[kn];unfold Qc;split
  .refine⟨λo ho=>?_,Lz⟩;rcases List.mem_append.1 ho with ho|ho
   .exact h1 o ho
   .obtain rfl:=aF.1 ho;exact⟨hu.1,hu.2,hg.1,hg.2⟩
  .exact⟨h1,ae⟩
def Jk {m:kB}(h16:∀u,u<m.needs.length->m.needs[u]!.length<=16)(hO:y3 m ord){u:Int}(hu:0<=u/\u<m.needs.length):(∀p∈OB m ord u,0<=p/\p<m.needs[u.toNat]!.length)/\(OB m ord u).length<=32:=by
 obtain⟨h1,h2⟩:=hO u.toNat ae;rw[show((u.toNat:Nat):Int)=u by omega]at h1 h2;obtain⟨h3,h4⟩:=TP h2 m.needs[u.toNat]!.length (aR _);have:=h16 u.toNat ae;exact⟨h3,by unfold OB;omega⟩
def ya {m:kB}{ord:Ο}{c:Δ}{l:ρ}(h16:∀u,u<m.needs.length->m.needs[u]!.length<=16)(hO:y3 m ord)(hl:∀x∈l,0<=x.u/\x.u<m.needs.length):∀k,k<=l.length->(∀o∈dZ m ord c l k,W7 m c o)/\(dZ m ord c l k).length<=32*k
 |0,_=>⟨λo ho=>(by cases ho),Nat.zero_le _⟩
 |k+1,hk=>by
  obtain⟨h1,h2⟩:=ya h16 hO hl k ae;have hx:=hl _ (aq (show k<l.length by omega));rw[dZ];unfold GH;split
  .exact⟨h1,ae⟩
  .obtain⟨ht,ht2⟩:=Jk h16 hO hx;obtain⟨h4,h5⟩:=M3 (mask:=l[k]!.m) ⟨hx,ae⟩ ht (OB m ord l[k]!.u).length (dZ m ord c l k) (aR _) h1;exact⟨h4,ae⟩
def ri {m:kB}(hm:xa m)(hO:y3 m ord)(hc:LB m c):(∀o∈eA m ord c,W7 m c o)/\(eA m ord c).length<=32000:=by
 unfold eA;split
 .exact⟨λo ho=>(by cases ho),aJ⟩
 .rename_i h;obtain⟨h1,h2⟩:=OM hm hc h;obtain⟨h3,h4⟩:=ya (c:=c) (λu hu=>(hm.2 u hu).1.2) hO h1 (bF m c).length (aR _);exact⟨h3,ae⟩
def EI (m:kB)(ord:Ο):Nat->Δ->ξ
 |0,_=>none
 |f+1,c=>if y7 m c=false then none else if(ey m c).1<0 then some c else iV (λo=>EI m ord f (yj c o)) (eA m ord c)
def mM (m:kB)(ord:Ο)(c:Δ):ξ:=EI m ord (FN c+1) c
def EJ {m:kB}(hm:xa m)(hO:y3 m ord)(hc:LB m c):mM m ord c=if y7 m c=false then none else if(ey m c).1<0 then some c else iV (λo=>mM m ord (yj c o)) (eA m ord c):=by
 rw[mM,EI];congr 2;refine xF λo ho=>?_
 have:=(IG hc ((ri hm hO hc).1 o ho)).2;rw[mM,this]
def kJ {m:kB}{ord:Ο}(hm:xa m)(hO:y3 m ord){d:Δ}:∀(f:Nat) (c:Δ),LB m c->EI m ord f c=some d->CZ m d=true/\LB m d
 |0,c,_,h=>by cases h
 |f+1,c,hc,h=>by
  rw[EI]at h;split at h
  .cases h
  .rename_i h1;split at h
   .rename_i h2;obtain rfl:=aZ h;exact⟨ad8 (by simpa using h1) h2,hc⟩
   .obtain⟨o,h3,h4⟩:=Ay h;exact kJ hm hO f _ (IG hc ((ri hm hO hc).1 o h3)).1 h4
def jA (ord:Ο):ξ:=mM (dG us) ord (oH us.length)
def HC:aw:=[97,112,112]
def ko:π×Gs:=if g.val 4=0 then([⟨cI[(g.aU.val 4).toNat]!,EF⟩],g.aU.aU)else([],g.aU)
def De:List kP×Gs:=if g.val 4=0 then([⟨cI[(g.aU.val 4).toNat]!,kr[(g.aU.aU.val 8).toNat]!⟩],g.aU.aU.aU)else([],g.aU)
def jN:Rec×Gs:=pR ⟨ks,0⟩ HC bQ[0]! 3
def zy:gI:=⟨(jN ks).1,(ko (jN ks).2).1,(De (ko (jN ks).2).2).1⟩
def Zk:gI:=⟨⟨HC,bQ[0]!,[],[],[]⟩,[],[]⟩
def qE:gI:=if(kR (zy ks)).1=0 then zy ks else Zk
def W3 (m:gI):Prop:=((kR m).1=0/\Zl m)/\m.ps.length<=1/\m.hs.length<=1
def xc (l:φ):=∃m,l=[m]/\W3 m
def afu {v:b6}(most:Int)(hn:nm.length<=3)(hv:v.sm):gM (pR g nm v most).1:=by
 refine⟨⟨by show nm.length<=_;omega,hv⟩,SY nm g.aU _, ?_, ?_⟩
 .show ∀b∈(eP (nS nm g.aU (g.val (most+1)).toNat).2 nm).1,b.sm
  unfold eP;split
  .intro b hb;rw[aF.1 hb];exact⟨by have:=zG (nS nm g.aU (g.val (most+1)).toNat).2.aU nm;simp only;omega,IP,show([]:aw)∈MR by decide⟩
  .intro b hb;cases hb
 .show(lG (eP (nS nm g.aU (g.val (most+1)).toNat).2 nm).2 (nS nm g.aU (g.val (most+1)).toNat).1).1∈CT;unfold lG;split
  .exact .tail _ (bI.2 ⟨_,agZ (Zt nm g.aU _),rfl⟩)
  .exact .head _
def aeP:W3 Zk:=by
 refine⟨⟨by decide+kernel,⟨⟨aX,by simp only[Zk,b6.sm];decide⟩,(λn h=>cb),(λn h=>cb),.head _⟩,λh hh=>by cases hh⟩,aX,aX⟩
def SS:Zl (zy ks)/\(zy ks).ps.length<=1/\(zy ks).hs.length<=1:=by
 refine⟨⟨afu _ 3 aX (yQ 0), ?_⟩, ?_, ?_⟩
 .show ∀h∈(De (ko (jN ks).2).2).1,kI h.range
  unfold De;split
  .intro h hh;rw[aF.1 hh];exact IP
  .intro h hh;cases hh
 .show(ko (jN ks).2).1.length<=1;unfold ko;split<;>simp
 .show(De (ko (jN ks).2).2).1.length<=1;unfold De;split<;>simp
def abR:xc [qE ks]:=by
 refine⟨_,rfl, ?_⟩;unfold qE;split
 .rename_i h;obtain⟨h1,h2,h3⟩:=SS ks;exact⟨⟨h,h1⟩,h2,h3⟩
 .exact aeP
def FQ (n:Nat)(k:Int)(i:Nat):Int:=((i:Int)*(1+k%3)+k)%(n:Int)
def kN (n:Nat)(k:Int):Nat->Δ
 |0=>[]
 |i+1=>if U4 (kN n k i) (FQ n k i)=true then kN n k i else kN n k i++[FQ n k i]
def yf (n:Nat)(k:Int):Nat:=min n (k%5).toNat
def jF (us:Η)(l:Δ)(u:Nat):Int:=jl (atI l (u:Int)) 24
def FP (l:Δ)(u:Nat):Δ:=kN us[u]!.ar.length (jF us l u) (yf us[u]!.ar.length (jF us l u))
def iq (l:Δ):Ο:=if l.length=0 then []else(List.range us.length).map (FP us l)
def Ti {n:Nat}(hn:0<n)(k:Int):∀i,(∀p∈kN n k i,0<=p/\p<(n:Int))/\(kN n k i).length<=i
 |0=>⟨λp hp=>(by cases hp),aR _⟩
 |i+1=>by
  obtain⟨h1,h2⟩:=Ti hn k i;rw[kN];split
  .exact⟨h1,ae⟩
  .refine⟨λp hp=>?_,Lz⟩;rcases List.mem_append.1 hp with hp|hp
   .exact h1 p hp
   .obtain rfl:=aF.1 hp;exact⟨Int.emod_nonneg _ ae,Int.emod_lt_of_pos _ ae⟩
def ae8 (l:Δ)(u:Nat):(FP us l u).length<=4/\∀p∈FP us l u,0<=p/\p<(us[u]!.ar.length:Int):=by
 unfold FP;have hc:yf us[u]!.ar.length (jF us l u)<=4:=by unfold yf;omega
 rcases Nat.eq_zero_or_pos us[u]!.ar.length with h|h
 .rw[h,show yf 0 (jF us l u)=0 by unfold yf;omega];exact⟨by simp[kN],λp hp=>by cases hp⟩
 .obtain⟨h1,h2⟩:=Ti h (jF us l u) (yf us[u]!.ar.length (jF us l u));exact⟨ae,h1⟩
def nY {us:Η}(l:Δ):y3 (dG us) (iq us l):=by
 intro u hu;have hn:(dG us).needs.length=us.length:=by simp[dG,eM]
 have hul:u<us.length:=ae;have e1:(dG us).needs[u]!.length=us[u]!.ar.length:=by unfold dG eM;dsimp only;rw[List.take_length,eu hul];simp[eW]
 rw[e1];have key:cU (iq us l) ((u:Nat):Int)=[]\/cU (iq us l) ((u:Nat):Int)=FP us l u:=by
  unfold cU iq;by_cases h0:l.length=0
  .rw[ak h0,ah aJ];exact .inl rfl
  .rw[ah h0,ak fM,Int.toNat_natCast];exact .inr (by simp[hul])
 rcases key with h|h<;>rw[h]
 .exact⟨aJ,λp hp=>by cases hp⟩
 .obtain⟨h1,h2⟩:=ae8 us l u;exact⟨ae,h2⟩
def wB (us:Η):Nat->Nat
 |0=>1
 |i+1=>if us[i]!.feat=[]then wB us i*(us[i]!.ar.length+1)else wB us i
def Nj (us:Η):Nat->Nat->Nat->Nat
 |0,_,n=>n
 |r+1,i,n=>if n<1000000 then Nj us r (i+1) (if us[i]!.feat=[]then n*(us[i]!.ar.length+1)else n)else n
def wC:Nat:=Nj us us.length 0 1
def tidV (w:bP)(c:Δ)(is:Μ):Δ:=(List.range is.length).map λi=>if is[i]! =true then c[i]! else-1
def u6 (c:Δ)(is:Μ)(l:θ):Μ:=l.foldl (λis x=>is.set x.u.toNat (is[x.u.toNat]! ||iy w c x)) is
def wz (c:Δ)(is:Μ)(l:Laf):Μ:=l.foldl (u6 w c) is
def BC (c:Δ)(i:Nat)(is:Μ):Μ:=if is[i]! =true then wz w c is (aW w c i).needs else is
def iP (w:bP)(c:Δ):Nat->Μ->Μ
 |0,is=>is
 |i+1,is=>BC w c i (iP w c i is)
def j3 (w:bP)(c:Δ):Nat->Μ->Μ
 |0,is=>is
 |n+1,is=>iP w c c.length (j3 w c n is)
def kM (c:Δ):Μ:=(List.replicate c.length false).set 0 (decide (0<=c[0]!))
def dC (c:Δ):Μ:=if dw w c=false then []else j3 w c c.length (kM c)
def ir (c:Δ):Δ:=tidV w c (dC w c)
def cM (m:gI)(shop:Β)(e:Env)(os:Δ):bP×Δ×Bool:=
 if(dK [m] shop e []).2≠0\/5000<wC (dK [m] shop e []).1.us then((dK [m] shop e []).1,[],false)
 else match jA (dK [m] shop e []).1.us (iq (dK [m] shop e []).1.us os)with
  |none=>((dK [m] shop e []).1,[],false)
  |some c=>((dK [m] shop e []).1,ir (dK [m] shop e []).1 c,true)
end Go.Abs
