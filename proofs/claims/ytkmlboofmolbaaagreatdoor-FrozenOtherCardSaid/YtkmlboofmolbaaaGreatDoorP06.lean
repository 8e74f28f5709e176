/- A part of the proofs. -/
import Derived.Test.YtkmlboofmolbaaaGreatDoorP05
set_option linter.all false
set_option maxRecDepth 60000
set_option maxHeartbeats 2000000
namespace Go.Abs
variable{c:List Int}{α:Type}{n k j:Nat}{f:Nat->Int}{nm:au}{vs:Nat->List bV}{ord:List (List Int)}{σ:List (Nat×Nat)}{m2:List (Nat×bj)}{a b:Int}{t:Bool}(ks:List Int)(Z:Ctx)
structure Cut where
 e:Int
 v:bV
 a:Bool
 deriving Inhabited,DecidableEq
def Cut.D (c:Cut):D:=.agg [.int .i64 c.e,.int .i64 c.v.major,.int .i64 c.v.minor,.int .i64 c.v.patch,.str c.v.pre,.str c.v.build,.bool c.a]
structure Span where
 f:Cut
 t:Cut
 deriving Inhabited,DecidableEq
def Span.D (s:Span):D:=.agg [.int .i64 s.f.e,.int .i64 s.f.v.major,.int .i64 s.f.v.minor,.int .i64 s.f.v.patch,.str s.f.v.pre,.str s.f.v.build,.bool s.f.a,
 .int .i64 s.t.e,.int .i64 s.t.v.major,.int .i64 s.t.v.minor,.int .i64 s.t.v.patch,.str s.t.v.pre,.str s.t.v.build,.bool s.t.a]
structure cx where
 rel:List Span
 pr:List Span
 deriving Inhabited,DecidableEq
def cx.D (s:cx):D:=.agg [.sl 14 (s.rel.map Span.D),.sl 14 (s.pr.map Span.D)]
structure Want where
 u:Int
 s:cx
 deriving Inhabited,DecidableEq
def Want.D (w:Want):D:=.agg [.int .i64 w.u,.sl 14 (w.s.rel.map Span.D),.sl 14 (w.s.pr.map Span.D)]
abbrev nR:=List Want
def jJ (r:nR):D:=.sl 3 (r.map Want.D)
structure eB where
 v:bV
 sh:Int
 needs:List nR
 bars:List Want
 deriving Inhabited,DecidableEq
def eB.D (c:eB):D:=.agg [.int .i64 c.v.major,.int .i64 c.v.minor,.int .i64 c.v.patch,.str c.v.pre,.str c.v.build,.int .i64 c.sh,.sl 1 (c.needs.map jJ),.sl 3 (c.bars.map Want.D)]
structure cI where
 name:au
 feat:au
 cands:List eB
 deriving Inhabited,DecidableEq
def cI.D (u:cI):D:=.agg [.str u.name,.str u.feat,.sl 8 (u.cands.map eB.D)]
structure bP where
 us:List cI
 deriving Inhabited,DecidableEq
def bP.D (w:bP):D:=.agg [.sl 3 (w.us.map cI.D)]
structure dY where
 u:Int
 m:Int
 deriving Inhabited,DecidableEq
def dY.D (t:dY):D:=.agg [.int .i64 t.u,.int .i64 t.m]
structure jt where
 kind:Int
 unit:Int
 a:Int
 b:Int
 terms:List dY
 deriving Inhabited,DecidableEq
def jt.D (r:jt):D:=.agg [.int .i64 r.kind,.int .i64 r.unit,.int .i64 r.a,.int .i64 r.b,.sl 2 (r.terms.map dY.D)]
structure wx where
 w:bP
 allow:List Int
 rows:List jt
 deriving Inhabited,DecidableEq
def wx.D (c:wx):D:=.agg [.sl 3 (c.w.us.map cI.D),.sl 1 (c.allow.map (D.int .i64)),.sl 5 (c.rows.map jt.D)]
def eqBb (a b:Bool):ib (D.bool a).cells (D.bool b).cells=decide (a=b):=by cases a<;>cases b<;>rfl
def sc (f:Nat->Int):Nat->Nat->Int
 |_,0=>0
 |i,k+1=>if f i=0 then sc f (i+1) k else f i
def fV (f:Nat->Int)(i n:Nat):Int:=sc f i (n-i)
theorem pM {i:Nat}(h:i<n)(hf:f i=0):fV f i n=fV f (i+1) n:=by
 unfold fV;obtain⟨k,hk⟩:∃k,n-i=k+1:=⟨n-i-1,ae⟩
 grind [sc]
def lJ {i:Nat}(h:i<n)(hf:f i≠0):fV f i n=f i:=by
 unfold fV;obtain⟨k,hk⟩:∃k,n-i=k+1:=⟨n-i-1,ae⟩
 rw[hk];simp only[sc,hf,aX]
def pL {i:Nat}(h:n<=i):fV f i n=0:=by
 unfold fV;rw[show n-i=0 by omega];rfl
def dn (a b:Int):Int:=if a<b then-1 else if b<a then 1 else 0
def pH (a b:au):Int:=if Op.bytesLess a b=true then-1 else if a=b then 0 else 1
def yk (a b:au):Int:=if cP a=true/\cP b=true then dn (C6 a) (C6 b)else if cP a=true then-1 else if cP b=true then 1 else pH a b
def Nu (l m:List au):Nat->Nat->Int
 |_,0=>dn l.length m.length
 |i,k+1=>if yk l[i]! m[i]! ≠0 then yk l[i]! m[i]! else Nu l m (i+1) k
def vo (l m:List au)(i:Nat):Int:=Nu l m i (min l.length m.length-i)
def Gp {l m:List au}{i:Nat}(h:i<l.length/\i<m.length)(hn:yk l[i]! m[i]! ≠0):vo l m i=yk l[i]! m[i]! :=by
 unfold vo;rw[show min l.length m.length-i=(min l.length m.length-(i+1))+1 by omega,Nu,ak hn]
def Nt {l m:List au}{i:Nat}(h:i<l.length/\i<m.length)(hn:yk l[i]! m[i]! =0):vo l m i=vo l m (i+1):=by
 unfold vo;rw[show min l.length m.length-i=(min l.length m.length-(i+1))+1 by omega,Nu,ah (by rw[hn];simp)]
def Gn {l m:List au}{i:Nat}(h:l.length<=i\/m.length<=i):vo l m i=dn l.length m.length:=by
 unfold vo;rw[show min l.length m.length-i=0 by omega,Nu]
def A6 (a b:au):Int:=if a=b then 0 else if a=[]then 1 else if b=[]then-1 else vo (ba a 46) (ba b 46) 0
def iL (a b:bV):Int:=if gJ a=false\/gJ b=false then 0 else
 if dn a.major b.major≠0 then dn a.major b.major else if dn a.minor b.minor≠0 then dn a.minor b.minor else
 if dn a.patch b.patch≠0 then dn a.patch b.patch else A6 a.pre b.pre
def rY (v:bV):bV:=⟨v.major,v.minor,v.patch,v.pre,[]⟩
theorem TB (a:Int):dn a a=0:=by simp[dn]
theorem yH:dn a b=0↔a=b:=by
 grind [dn]
theorem Fs {a b:bV}(h:rY a=rY b):iL a b=0:=by
 grind [rY,iL,A6,TB]
theorem Xb (x y z:Int):fV (λi=>[x,y,z][i]!) 0 [x,y,z].length=if x≠0 then x else if y≠0 then y else z:=by
 grind [fV,sc]
theorem Xd {x y z:Int}(h:fV (λi=>[x,y,z][i]!) 0 [x,y,z].length=0):x=0/\y=0/\z=0:=by
 grind [Xb]
theorem Xc {a b:bV}(hv:¬(gJ a=false\/gJ b=false))(h:¬fV (λi=>[dn a.major b.major,dn a.minor b.minor,dn a.patch b.patch][i]!) 0 [dn a.major b.major,dn a.minor b.minor,dn a.patch b.patch].length=0):
  fV (λi=>[dn a.major b.major,dn a.minor b.minor,dn a.patch b.patch][i]!) 0 [dn a.major b.major,dn a.minor b.minor,dn a.patch b.patch].length=iL a b:=by
 grind [Xb,iL]
theorem WA {a b:bV}(hv:¬(gJ a=false\/gJ b=false))(h1:dn a.major b.major=0)(h2:dn a.minor b.minor=0)(h3:dn a.patch b.patch=0):iL a b=A6 a.pre b.pre:=by
 grind [iL]
def acy {a b:bV}(h1:dn a.major b.major=0)(h2:dn a.minor b.minor=0)(h3:dn a.patch b.patch=0)(h4:a.pre=b.pre):rY a=rY b:=by
 unfold rY;rw[yH.1 h1,yH.1 h2,yH.1 h3,h4]
def TC (a:bV):iL a a=0:=Fs rfl
def A4 (a b:bV):Bool:=gJ a&&gJ b&&decide (iL a b=0)
def FR {v:bV}(h:gJ v=true):A4 v v=true:=by simp[A4,h,TC]
def Cut.sm (c:Cut):Prop:=c.v.sm
def Span.sm (s:Span):Prop:=s.f.sm/\s.t.sm
def zF (l:List Span):=∀s∈l,s.sm
def cx.sm (s:cx):Prop:=zF s.rel/\zF s.pr
def Want.sm (w:Want):Prop:=w.s.sm
def eB.sm (c:eB):Prop:=c.v.sm/\(∀r∈c.needs,∀w∈r,w.sm)/\∀w∈c.bars,w.sm
def cI.sm (u:cI):Prop:=u.cands.length<=16/\∀c∈u.cands,c.sm
variable(us:List cI)
def bP.sm (w:bP):=∀u∈w.us,u.sm
def zV:bV:=⟨0,0,0,[],[]⟩
def pI (c:Cut):Bool:=if c.e=0 then gJ c.v&&decide (c.v.build=[])else(decide (c.e=-1) ||decide (c.e=1))&&decide (c.v=zV)&& !c.a
def lg (a b:Cut):Int:=if pI a=false\/pI b=false then 0 else if a.e≠0\/b.e≠0 then dn a.e b.e else
 if iL a.v b.v≠0 then iL a.v b.v else if a.a=b.a then 0 else if b.a=true then-1 else 1
def qa (s:Span):Bool:=pI s.f&&pI s.t&&decide (lg s.f s.t<0)
def j4 (c:Cut)(v:bV):Bool:=if pI c=false\/gJ v=false then false else if c.e≠0 then decide (c.e<0)else decide (iL c.v v<0) ||(decide (iL c.v v=0)&& !c.a)
def sg (s:Span)(v:bV):Bool:=qa s&&gJ v&&j4 s.f v&& !j4 s.t v
def Ba (l:List Span)(i:Nat):Bool:=qa l[i]! && !(decide (0<i)&&decide (0<=lg l[i-1]!.t l[i]!.f))
def sK (l:List Span):Bool:=bW (Ba l) 0 l.length
def oF (f:Nat->Bool)(i n:Nat):Bool:=!bW (λi=>!f i) i n
def j1 {f:Nat->Bool}{i:Nat}(h:i<n):oF f i n=(f i ||oF f (i+1) n):=by
 unfold oF;rw[aB h];simp
def sZ {f:Nat->Bool}{i:Nat}(h:n<=i):oF f i n=false:=by
 unfold oF;rw[bE h];rfl
def wF {f:Nat->Bool}{i:Nat}:oF f i n=true↔∃j,i<=j/\j<n/\f j=true:=by
 unfold oF;rw[cE,<-Bool.not_eq_true,bd];simp
def vZ (l:List Span)(v:bV):Bool:=sK l&&oF (λi=>sg l[i]! v) 0 l.length
def vK (v:bV):Bool:=decide (v.major=0)&&decide (v.minor=0)&&decide (v.patch=0)
def mS (c:Cut):Bool:=decide (c.e≠0) ||(!c.a&&decide (c.v.pre=[])&& !vK c.v)
def rH (c:Cut):Bool:=decide (c.e≠0) ||(!c.a&&decide (c.v.pre=[])&& !decide (c.v=zV))
def v8 (s:cx):Bool:=sK s.rel&&sK s.pr&&bW (λi=>mS s.rel[i]!.f&&mS s.rel[i]!.t) 0 s.rel.length
def afS (s:cx):Bool:=bW (λi=>rH s.rel[i]!.f&&rH s.rel[i]!.t) 0 s.rel.length&&(sK s.rel&&sK s.pr)
def oY (s:cx)(v:bV):Bool:=v8 s&&gJ v&&(if v.pre=[]then vZ s.rel v else vZ s.pr v)
def DS {c:Cut}(h:pI c=true):rH c=mS c:=by
 obtain⟨e,⟨a,b,c,p,q⟩,f⟩:=c;by_cases he:e=0
 .simp only[pI,he,bh,aA,aT]at h;obtain⟨_,rfl⟩:=h;simp only[rH,mS,vK,zV,bV.mk.injEq];by_cases h1:p=[]<;>by_cases h2:a=0<;>by_cases h3:b=0<;>by_cases h4:c=0<;>simp[h1,h2,h3,h4]
 .simp[rH,mS,he]
def ZV {l:List Span}(h:sK l=true){i:Nat}(hi:i<l.length):pI l[i]!.f=true/\pI l[i]!.t=true:=by
 unfold sK at h;rw[bd]at h;have:=h i ae hi;simp only[Ba,qa,aA]at this;exact⟨this.1.1.1,this.1.1.2⟩
def aes (s:cx):afS s=v8 s:=by
 unfold afS v8;cases h:sK s.rel with
 |false=>simp
 |true=>
  have:bW (λi=>rH s.rel[i]!.f&&rH s.rel[i]!.t) 0 s.rel.length=bW (λi=>mS s.rel[i]!.f&&mS s.rel[i]!.t) 0 s.rel.length:=by
   rw[Bool.eq_iff_iff,bd,bd];constructor<;>intro g j h1 h2<;>have q:=ZV h h2<;>have:=g j h1 h2<;>rw[DS q.1,DS q.2]at* <;>exact this
  rw[this];cases sK s.pr<;>simp
def Cj:Cut:=⟨-1,zV,false⟩
def LK:Cut:=⟨1,zV,false⟩
def GY (v:bV):Cut:=⟨0,rY v,false⟩
def aca (v:bV):Cut:=⟨0,rY v,true⟩
def UY (v:bV):bV:=⟨v.major,v.minor,v.patch,[],[]⟩
def Q8 (v:bV)(p:Int):bV:=if p=0 then⟨v.major+1,0,0,[],[]⟩else if p=1 then⟨v.major,v.minor+1,0,[],[]⟩else⟨v.major,v.minor,v.patch+1,[],[]⟩
def Q7 (v:bV)(p:Int):bV×Bool:=if gJ v=false\/p<0\/2<p then(zV,false)else if gJ (Q8 v p)=false then(zV,false)else(Q8 v p,true)
def RZ (v:bV):Nat->bV×Bool
 |0=>(zV,false)
 |n+1=>if(Q7 v (n:Int)).2=true then((Q7 v (n:Int)).1,true)else RZ v n
def R0 (v:bV):bV×Bool:=if gJ v=false then(zV,false)else if v.pre≠[]then(UY v,true)else RZ v 3
def N6 (v:bV):Cut:=if vK v=true then Cj else GY (UY v)
def behC (v:bV):Cut:=if(R0 (UY v)).2=false then LK else GY (R0 (UY v)).1
def R2:cx:=⟨[],[]⟩
def Ql:List Span:=[⟨Cj,LK⟩]
def pC:cx:=⟨Ql,Ql⟩
def dH (v:bV):cx:=if gJ v=false then R2 else if v.pre≠[]then⟨[],[⟨GY v,aca v⟩]⟩else⟨[⟨N6 v,behC v⟩],[]⟩
def RowS (l:List Span):Prop:=zF l/\l.length<=1000
def SetS (s:cx):Prop:=RowS s.rel/\RowS s.pr
def GG:zV.sm:=by simp[zV,bV.sm]
def yN:Cj.sm:=GG
def CO:LK.sm:=GG
def Bn {v:bV}(h:v.sm):(rY v).sm:=⟨h.1,by simp[rY]⟩
def Sr (v:bV):(UY v).sm:=by simp[UY,bV.sm]
def Wo (v:bV)(p:Int):(Q8 v p).sm:=by unfold Q8;split<;>(try split)<;>simp[bV.sm]
def Wn (v:bV)(p:Int):(Q7 v p).1.sm:=by unfold Q7;split<;>(try split)<;>first|exact GG|exact Wo v p
def L6 (v:bV):∀n,(RZ v n).1.sm
 |0=>GG
 |n+1=>by
  rw[RZ];split
  .exact Wn v _
  .exact L6 v n
def Yj (v:bV):(R0 v).1.sm:=by
 unfold R0;repeat' split
 all_goals first|exact GG|exact Sr v|exact L6 v _
def HD:zF []:=λ_ h=>by cases h
def Tt (v:bV):(N6 v).sm:=by
 unfold N6;split
 .exact yN
 .exact Bn (Sr v)
def ab9 (v:bV):(behC v).sm:=by
 unfold behC;split
 .exact CO
 .exact Bn (Yj _)
def Fw {v:bV}(h:v.sm):(dH v).sm:=by
 unfold dH;split
 .exact⟨HD,HD⟩
 .split
  .exact⟨HD,λx hx=>by obtain rfl:=aD.1 hx;exact⟨Bn h,Bn h⟩⟩
  .exact⟨λx hx=>by obtain rfl:=aD.1 hx;exact⟨Tt v,ab9 v⟩,HD⟩
def ab4:pC.sm:=⟨λx hx=>by obtain rfl:=aD.1 hx;exact⟨yN,CO⟩,λx hx=>by obtain rfl:=aD.1 hx;exact⟨yN,CO⟩⟩
structure Key where
 n:au
 f:au
 deriving Inhabited
def Key.D (k:Key):D:=.agg [.str k.n,.str k.f]
def sP (n:Int)(w:Want):Bool:=decide (0<w.u)&&decide (w.u<n)&&v8 w.s
def pn (n:Int)(l:List Want):Bool:=bW (λi=>sP n l[i]!) 0 l.length
def rE (n:Int)(l:List Want):Bool:=pn n l&&(decide (0<l.length)&&decide (l.length<=24))
def mY (n:Int)(c:eB):Bool:=decide (c.needs.length<=24)&&decide (c.bars.length<=24)&&bW (λi=>rE n c.needs[i]!) 0 c.needs.length&&pn n c.bars
def HK (a b:Key):Int:=if pH a.n b.n≠0 then pH a.n b.n else pH a.f b.f
def jL (a b:cI):Bool:=Op.bytesLess a.name b.name ||(decide (a.name=b.name)&&Op.bytesLess a.feat b.feat)
def mZ (n:Int)(cs:List eB)(k:Nat):Bool:=gJ cs[k]!.v&&mY n cs[k]! && !(decide (0<k)&&decide (0<=iL cs[k-1]!.v cs[k]!.v))
def lF (i:Nat):Bool:=!(decide (0<i)&&decide (us[i]!.name=[]))&& !(decide (1<i)&& !jL us[i-1]! us[i]!)&&decide (us[i]!.cands.length<=16)&&bW (mZ us.length us[i]!.cands) 0 us[i]!.cands.length
def uR:Bool:=decide (us[0]!.name=[])&&decide (us[0]!.feat=[])&&decide (us[0]!.cands.length=1)
def eG (w:bP):Bool:=decide (1<=w.us.length)&&decide (w.us.length<=48)&&uR w.us&&bW (lF w.us) 0 w.us.length
def sN (i:Nat):Bool:=lF us i&& !(decide (i=0)&& !uR us)
def my (a:au):Op.bytesLess a a=false:=by
 induction a with
 |nil=>rfl
 |cons x r ih=>unfold Op.bytesLess;simp[ih]
def Ur (a b:cI):decide (0<=HK ⟨a.name,a.feat⟩ ⟨b.name,b.feat⟩)=!jL a b:=by
 unfold HK jL pH;have h:=my b.name;by_cases h1:Op.bytesLess a.name b.name=true<;>by_cases h2:a.name=b.name<;>by_cases h3:Op.bytesLess a.feat b.feat=true<;>by_cases h4:a.feat=b.feat<;>simp_all
def Eg (w:bP):eG w=(decide (1<=w.us.length)&&decide (w.us.length<=48)&&bW (sN w.us) 0 w.us.length):=by
 unfold eG;by_cases h:1<=w.us.length
 .have:bW (sN w.us) 0 w.us.length=(uR w.us&&bW (lF w.us) 0 w.us.length):=by
   rw[Bool.eq_iff_iff,aA,bd,bd];simp only[sN,aA,cE,ep,ct];constructor
   .intro g;have h0:=(g 0 ae ae).2;exact⟨by rcases h0 with h0|h0;exact absurd rfl h0;simpa using h0,λj h1 h2=>(g j h1 h2).1⟩
   .rintro⟨g1,g2⟩ j h1 h2;exact⟨g2 j h1 h2,.inr (by simpa using g1)⟩
  rw[this];simp only[Bool.and_assoc]
 .simp[h]
def iCut (a b:Cut):Cut.D a=Cut.D b↔a=b:=by
 obtain⟨e,⟨v1,v2,v3,v4,v5⟩,x⟩:=a;obtain⟨e',⟨w1,w2,w3,w4,w5⟩,x'⟩:=b;simp[Cut.D,and_assoc]
def afw (a b:List Cut):a.map Cut.D=b.map Cut.D↔a=b:=kQ iCut a b
def Xy (a b:Span):Span.D a=Span.D b↔a=b:=by
 obtain⟨⟨e,⟨v1,v2,v3,v4,v5⟩,x⟩,⟨f,⟨u1,u2,u3,u4,u5⟩,y⟩⟩:=a;obtain⟨⟨e',⟨w1,w2,w3,w4,w5⟩,x'⟩,⟨f',⟨t1,t2,t3,t4,t5⟩,y'⟩⟩:=b;simp[Span.D,and_assoc]
def CG (a b:List Span):a.map Span.D=b.map Span.D↔a=b:=kQ Xy a b
def iSet (a b:cx):cx.D a=cx.D b↔a=b:=by cases a;cases b;simp[cx.D,CG]
def XB (a b:Want):Want.D a=Want.D b↔a=b:=by
 obtain⟨u,⟨x,y⟩⟩:=a;obtain⟨u',⟨x',y'⟩⟩:=b;simp[Want.D,CG]
def He (a b:List Want):a.map Want.D=b.map Want.D↔a=b:=kQ XB a b
def XD (a b:nR):jJ a=jJ b↔a=b:=by simp[jJ,He]
def OE (a b:List nR):a.map jJ=b.map jJ↔a=b:=kQ XD a b
def iCnd (a b:eB):eB.D a=eB.D b↔a=b:=by
 obtain⟨⟨v1,v2,v3,v4,v5⟩,s,x,y⟩:=a;obtain⟨⟨w1,w2,w3,w4,w5⟩,s',x',y'⟩:=b;simp[eB.D,OE,He,and_assoc]
def Xp (a b:List eB):a.map eB.D=b.map eB.D↔a=b:=kQ iCnd a b
def iUnt (a b:cI):cI.D a=cI.D b↔a=b:=by cases a;cases b;simp[cI.D,Xp]
def XA (a b:List cI):a.map cI.D=b.map cI.D↔a=b:=kQ iUnt a b
def iWld (a b:bP):bP.D a=bP.D b↔a=b:=by cases a;cases b;simp[bP.D,XA]
def iTrm (a b:dY):dY.D a=dY.D b↔a=b:=by cases a;cases b;simp[dY.D]
def afB (a b:List dY):a.map dY.D=b.map dY.D↔a=b:=kQ iTrm a b
def iKey (a b:Key):Key.D a=Key.D b↔a=b:=by cases a;cases b;simp[Key.D]
def iGs (a b:Gs):Gs.D a=Gs.D b↔a=b:=by cases a;cases b;simp[Gs.D,TX]
structure de where
 name:au
 range:au
 feats:List au
 bare:Bool
 deriving Inhabited,DecidableEq
def de.D (x:de):D:=.agg [.str x.name,.str x.range,.sl 1 (x.feats.map D.str),.bool x.bare]
structure bn where
 any:List de
 when':au
 option:au
 deriving Inhabited,DecidableEq
def bn.D (x:bn):D:=.agg [.sl 4 (x.any.map de.D),.str x.when',.str x.option]
structure lu where
 name:au
 range:au
 when':au
 deriving Inhabited,DecidableEq
def lu.D (x:lu):D:=.agg [.str x.name,.str x.range,.str x.when']
structure b6 where
 name:au
 of:List au
 deriving Inhabited,DecidableEq
def b6.D (x:b6):D:=.agg [.str x.name,.sl 1 (x.of.map D.str)]
structure Rec where
 name:au
 v:bV
 needs:List bn
 bars:List lu
 feats:List b6
 deriving Inhabited,DecidableEq
def Rec.D (x:Rec):D:=.agg [.str x.name,.int .i64 x.v.major,.int .i64 x.v.minor,.int .i64 x.v.patch,.str x.v.pre,.str x.v.build,.sl 3 (x.needs.map bn.D),.sl 3 (x.bars.map lu.D),.sl 2 (x.feats.map b6.D)]
structure Cmp where
 op:Int
 parts:Int
 v:bV
 deriving Inhabited,DecidableEq
def Cmp.D (x:Cmp):D:=.agg [.int .i64 x.op,.int .i64 x.parts,.int .i64 x.v.major,.int .i64 x.v.minor,.int .i64 x.v.patch,.str x.v.pre,.str x.v.build]
structure Nd where
 op:Int
 a:Int
 b:Int
 key:Int
 text:au
 deriving Inhabited,DecidableEq
def Nd.D (x:Nd):D:=.agg [.int .i64 x.op,.int .i64 x.a,.int .i64 x.b,.int .i64 x.key,.str x.text]
theorem lu.eq (a b:lu):ib (lu.D a).cells (lu.D b).cells=decide (a=b):=by
 obtain⟨a1,a2,a3⟩:=a;obtain⟨b1,b2,b3⟩:=b
 grind [lu.D,D.cells,ib,te]
theorem de.same {a b:de}(e1:a.name=b.name)(e2:a.range=b.range)(e3:a.bare=b.bare):decide (a=b)=decide (a.feats=b.feats):=by
 obtain⟨a1,a2,a3,a4⟩:=a;obtain⟨b1,b2,b3,b4⟩:=b
 grind
def rising (l:List au):Bool:=bW (λi=>Op.bytesLess l[i-1]! l[i]!) 1 l.length
def bK (s:au):Int×au×au:=
 if gL s=true then(1,s,[])
 else if s.length>0/\at8 s 0=63/\gL (s.drop 1)=true then(2,s.drop 1,[])
 else if(ba s 47).length=2/\df (ba s 47)[0]! =true/\gL (ba s 47)[1]! =true then(3,(ba s 47)[0]!,(ba s 47)[1]!)
 else(0,[],[])
def findF (l:List b6)(nm:au)(i:Nat):Int:=match(l.drop i).findIdx? (λx=>decide (x.name=nm))with
 |some k=>((i+k:Nat):Int)
 |none=>-1
theorem W7 {l:List b6}{i:Nat}(h:i<l.length)(he:l[i]!.name=nm):findF l nm i=(i:Nat):=by
 unfold findF;rw[eH h,List.findIdx?_cons]
 grind
theorem W8 {l:List b6}{i:Nat}(h:i<l.length)(he:¬l[i]!.name=nm):findF l nm i=findF l nm (i+1):=by
 unfold findF;have:¬l[i].name=nm:=by simpa[h]using he
 rw[eH h,List.findIdx?_cons]
 grind
def TI {l:List b6}{i:Nat}(h:l.length<=i):findF l nm i=-1:=by
 unfold findF;rw[jN h];rfl
def lv:au:=[100,101,102,97,117,108,116]
def isF (l:List b6)(nm:au):Bool:=decide (nm=lv) ||decide (0<=findF l nm 0)
def ajh (l:List b6)(s:au):Bool:=!(decide ((bK s).1=0) ||(decide ((bK s).1=1)&& !isF l (bK s).2.1))
def XI (l:List b6)(of:List au):Bool:=decide (of.length<=6)&&rising of&&bW (λi=>ajh l of[i]!) 0 of.length
def W0 (l:List b6)(i:Nat):Bool:=gL l[i]!.name&& !(decide (0<i)&& !Op.bytesLess l[i-1]!.name l[i]!.name)&&XI l l[i]!.of
def ek (l:List b6):Bool:=decide (l.length<=8)&&bW (W0 l) 0 l.length
def b6.sm (x:b6):Prop:=x.name.length<=1048576/\x.of.length<=1048576/\∀t∈x.of,t.length<=1048576
def ofL:List (List au):=[[],[[63,111]],[[97,110,116,47,102]],[[98,101,101,47,102]],[[99,111,119,47,102]],[[100,111,103,47,102]],[[63,111],[97,110,116,47,102]],[[63,111],[98,101,101,47,102]],[[63,111],[99,111,119,47,102]],[[63,111],[100,111,103,47,102]]]
def Cb:List (List b6):=[]::ofL.map λo=>[⟨[102],o⟩]
def jv (l:List b6):Prop:=l∈Cb
theorem FD (b:au):∀(l:List au) (i:Nat),(cn b (l.take i)).length<=(cn b l).length
 |[],i=>aC
 |[t],0=>by simp[cn]
 |[t],i+1=>aC
 |t::u::r,0=>by simp[cn]
 |t::u::r,1=>by simp[cn]
 |t::u::r,i+2=>by
  have:=FD b (u::r) (i+1)
  grind [cn]
theorem CL (b t:au):∀(l:List au),l≠[]->cn b (l++[t])=cn b l++b++t
 |[],h=>absurd rfl h
 |[u],_=>by simp[cn]
 |u::v::r,_=>by
  have:=CL b t (v::r) aC
  grind [cn]
theorem CM (b:au)(l:List au)(i:Nat)(h:i<l.length):cn b (l.take (i+1))=(if 0<i then cn b (l.take i)++b else [])++l[i]! :=by
 have e:l.take (i+1)=l.take i++[l[i]!]:=by
  rw[List.take_add_one,List.getElem?_eq_getElem h];simp[h]
 rw[e];by_cases h0:0<i
 .rw[ak h0,CL _ _ _ (by intro hn;have:=aw List.length hn;simp only[dF,ca]at this;omega)]
 grind [cn]
def jo:au->au->List au
 |[],cur=>[cur]
 |[c],cur=>[cur++[c]]
 |c::d::r,cur=>if c=124/\d=124 then cur::jo r []else jo (d::r) (cur++[c])
def zI:au->au
 |[]=>[]
 |c::r=>if c=32 then zI r else c::r
def B3 (s:au):au:=(zI (zI s).reverse).reverse
def kd:List au:=[[42],[94,49,46,48,46,48],[61,49,46,50,46,48],[62,61,49,46,50,46,48],[60,50,46,48,46,48],[94,50,46,48,46,48,45,97,46,49],[61,49,46,48,46,48,32,124,124,32,61,50,46,48,46,48],[33,61,49,46,50,46,48]]
def L2:List au:=[[],[111,115,32,61,32,108,105,110,117,120],[111,115,32,33,61,32,108,105,110,117,120]]
def T2:List au:=[[63,111],[97,110,116,47,102],[98,101,101,47,102],[99,111,119,47,102],[100,111,103,47,102]]
def qP (s:au):Bool:=kd.contains s
def xp (s:au):Bool:=L2.contains s
def jX (s:au):Prop:=s∈kd
def og (s:au):Prop:=s∈L2
def ry (s:au):Prop:=s∈T2
def jX.len {s:au}(h:jX s):s.length<=1048576:=by
 have:∀s∈kd,s.length<=1048576:=aV
 exact this s h
def og.len {s:au}(h:og s):s.length<=1048576:=by
 have:∀s∈L2,s.length<=1048576:=aV
 exact this s h
def ry.len {s:au}(h:ry s):s.length<=1048576:=by
 have:∀s∈T2,s.length<=1048576:=aV
 exact this s h
theorem jv.sm {l:List b6}(h:jv l):∀x∈l,x.sm:=by
 have:∀l∈Cb,∀x∈l,x.name.length<=1048576/\x.of.length<=1048576/\∀t∈x.of,t.length<=1048576:=aV
 exact this l h
def jv.it {l:List b6}(h:jv l):∀x∈l,∀s∈x.of,ry s:=by
 have:∀l∈Cb,∀x∈l,∀s∈x.of,s∈T2:=aV
 exact this l h
def qC (f:Nat->Int):Nat->Nat->Int×Int
 |_,0=>(0,0)
 |i,k+1=>if f i=0 then qC f (i+1) k else(f i,((i:Nat):Int))
def gR (f:Nat->Int)(i n:Nat):Int×Int:=qC f i (n-i)
theorem kn {i:Nat}(h:i<n)(hf:f i=0):gR f i n=gR f (i+1) n:=by
 unfold gR;obtain⟨k,hk⟩:∃k,n-i=k+1:=⟨n-i-1,ae⟩
 grind [qC]
def gT {i:Nat}(h:i<n)(hf:f i≠0):gR f i n=(f i,((i:Nat):Int)):=by
 unfold gR;obtain⟨k,hk⟩:∃k,n-i=k+1:=⟨n-i-1,ae⟩
 rw[hk];simp only[qC,hf,aX]
def kj {i:Nat}(h:n<=i):gR f i n=(0,0):=by
 unfold gR;rw[show n-i=0 by omega];rfl
def gK (r:Rec)(name rng:au):Int:=if df name=false then 4 else if name=r.name then 8 else if qP rng=false then 6 else 0
def wfB (l:List au)(i:Nat):Bool:=gL l[i]! && !(decide (0<i)&& !Op.bytesLess l[i-1]! l[i]!)
def nH (l:List au)(alone:Bool):Bool:=(decide (l.length<=6)&&(alone ||decide (l.length=0)))&&bW (wfB l) 0 l.length
def lG (r:Rec)(w:de)(alone:Bool):Int:=if gK r w.name w.range≠0 then gK r w.name w.range else if nH w.feats alone=false then 11 else 0
def nI (r:Rec)(l:List de):Int:=fV (λi=>lG r l[i]! (decide ((l.length:Int)=1))) 0 l.length
def jG (r:Rec)(n:bn):Int:=if n.any.length=0 then 9 else if 3<n.any.length then 3 else if nI r n.any≠0 then nI r n.any else
 if xp n.when'=false then 7 else if n.option≠[]/\gL n.option=false then 14 else 0
def rT (r:Rec)(b:lu):Int:=if gK r b.name b.range≠0 then gK r b.name b.range else if xp b.when'=false then 7 else 0
def YC (l:List bn)(x:au):Bool:=l.any λn=>decide (n.option=x)
def Mp (l:List bn)(x:au):Bool:=l.any λn=>decide (n.any.length=1)&&decide (n.any[0]!.name=x)
def n7 (r:Rec)(s:au):Int:=if(bK s).1=2/\YC r.needs (bK s).2.1=false then 14 else if(bK s).1=3/\Mp r.needs (bK s).2.1=false then 16 else 0
def mO (r:Rec)(of:List au):Int:=fV (λi=>n7 r of[i]!) 0 of.length
def lM (r:Rec):Int×Int:=gR (λi=>jG r r.needs[i]!) 0 r.needs.length
def uN (r:Rec):Int×Int:=gR (λi=>rT r r.bars[i]!) 0 r.bars.length
def G7 (r:Rec):Int×Int:=gR (λi=>mO r r.feats[i]!.of) 0 r.feats.length
def en (r:Rec):Int×Int:=if(lM r).1≠0 then lM r else if(uN r).1≠0 then uN r else if ek r.feats=false then(11,0)else G7 r
theorem aav (n:Nat)(al:Bool):(decide ((6:Int)<(n:Nat)) ||(decide ((0:Int)<(n:Nat))&& !al))=!(decide (n<=6)&&(al ||decide (n=0))):=by
 grind
theorem wf_c (l:List au)(i:Nat):(!gL l[i]! ||(decide ((0:Int)<(i:Nat))&& !Op.bytesLess l[i-1]! l[i]!))=!wfB l i:=by
 unfold wfB
 grind
theorem wf_2 (l:List au)(al:Bool):(bW (λi=>gL l[i]!) 0 l.length&&((decide (l.length<=6)&&rising l)&&(al ||decide (l.length=0))))=nH l al:=by
 grind [bW,wfB,gL,rising,bd,nH]
def itC (k:Int)(x:au)(n:bn):Bool:=(decide (k=2)&&decide (n.option=x)) ||((decide (k=3)&&decide ((n.any.length:Int)=1))&&decide (n.any[0]!.name=x))
def itE (k:Int):Int:=if k=2 then 14 else if k=3 then 16 else 0
theorem XH (r:Rec)(s:au):n7 r s=if r.needs.any (itC (bK s).1 (bK s).2.1)=true then 0 else itE (bK s).1:=by
 grind [n7,itE,YC,Mp,bK,itC]
theorem wH [Inhabited α]{c:α->Bool}{l:List α}{i:Nat}(h:i<l.length)(hc:c l[i]! =true):(l.drop i).any c=true:=by
 rw[eH h,List.any_cons]
 grind
theorem BZ [Inhabited α]{c:α->Bool}{l:List α}{i:Nat}(h:i<l.length)(hc:c l[i]! =false):(l.drop i).any c=(l.drop (i+1)).any c:=by
 rw[eH h,List.any_cons]
 grind
def wG {c:α->Bool}{l:List α}{i:Nat}(h:l.length<=i):(l.drop i).any c=false:=by
 rw[jN h];rfl
def Gv:au:=[110,101,101,100]
def rQ:au:=[97,110,121]
def yo:au:=[119,104,101,110]
def nG:au:=[111,112,116,105,111,110]
def zp:au:=[98,97,114]
def jZ:au:=[102,101,97,116,117,114,101]
def qd:au:=[112,97,99,107,97,103,101]
def rM:au:=[102,117,108,108]
def rL:au:=[98,97,114,101]
def cq (l:List au):au:=cn [32] l++[10]
def sQ (w:de):List au:=[rQ,w.name,if w.feats.length=0 then [45]else cn [44] w.feats,if w.bare=true then rL else rM,w.range]
def kA (s:au):au:=if s=[]then []else cq [yo,s]
def xG (s:au):au:=if s=[]then []else cq [nG,s]
def Aa (n:bn):au:=cq [Gv]++(n.any.map λw=>cq (sQ w)).flatten++kA n.when'++xG n.option
def GW (b:lu):au:=cq [zp,b.name,b.range]++kA b.when'
def wY (f:b6):au:=cq ([jZ,f.name]++f.of)
def uS (r:Rec):au:=cq [qd,r.name,uI r.v]
def D6 (r:Rec):au:=uS r++(r.needs.map Aa).flatten++(r.bars.map GW).flatten++(r.feats.map wY).flatten
def cQ (r:Rec):Int×Int:=if df r.name=false then(4,0)else if gJ r.v=false then(5,0)else if 8<r.needs.length\/8<r.bars.length then(3,0)else
 if(en r).1≠0 then en r else if 4096<(D6 r).length then(3,0)else(0,0)
def ez (r:Rec):au×Int:=if(cQ r).1≠0 then([],(cQ r).1)else(D6 r,0)
def de.sm (w:de):Prop:=(w.name.length<=1048576/\jX w.range)/\∀t∈w.feats,t.length<=1048576
def bn.sm (n:bn):Prop:=(∀w∈n.any,w.sm)/\og n.when'/\n.option.length<=1048576
def lu.sm (b:lu):Prop:=b.name.length<=1048576/\jX b.range/\og b.when'
def gI (r:Rec):Prop:=(r.name.length<=1048576/\r.v.sm)/\(∀n∈r.needs,n.sm)/\(∀b∈r.bars,b.sm)/\jv r.feats
theorem Mi {r:Rec}{e:Int×Int}(h:lM r=e)(hn:e.1≠0):en r=e:=by grind [en]
theorem Db {r:Rec}{e:Int×Int}(h0:lM r=(0,0))(h:uN r=e)(hn:e.1≠0):en r=e:=by grind [en]
theorem Mj {r:Rec}(h0:lM r=(0,0))(h1:uN r=(0,0))(h:ek r.feats=false):en r=(11,0):=by grind [en]
theorem xK {r:Rec}{e:Int×Int}(h0:lM r=(0,0))(h1:uN r=(0,0))(h:ek r.feats=true)(h2:G7 r=e):en r=e:=by grind [en]
def Co (f:Nat->Int):∀(k i:Nat),(qC f i k).1=0->qC f i k=(0,0)
 |0,_,_=>rfl
 |k+1,i,h=>by
  simp only[qC]at h⊢;by_cases hf:f i=0
  .rw[ak hf]at h⊢;exact Co f k (i+1) h
  .rw[ah hf]at h;exact absurd h hf
def Mk {r:Rec}(h:(en r).1=0):en r=(0,0):=by
 unfold en at h⊢;split
 .rename_i h1;rw[ak h1]at h;exact absurd h h1
 .rename_i h1;rw[ah h1]at h;split
  .rename_i h2;rw[ak h2]at h;exact absurd h h2
  .rename_i h2;rw[ah h2]at h;split
   .rename_i h3;rw[ak h3]at h;cases h
   .rename_i h3;rw[ah h3]at h;exact Co _ _ _ h
theorem pG {r:Rec}{e:Int×Int}(h0:df r.name=true)(h1:gJ r.v=true)(h2:¬8<r.needs.length)(h3:¬8<r.bars.length)(hp:en r=e)(hn:e.1≠0):cQ r=e:=by
 grind [cQ]
theorem wP {r:Rec}(h0:df r.name=true)(h1:gJ r.v=true)(h2:¬8<r.needs.length)(h3:¬8<r.bars.length)(hp:en r=(0,0)):cQ r=if 4096<(D6 r).length then(3,0)else(0,0):=by
 grind [cQ]
def FB (r:Rec):Prop:=(df r.name=true/\gJ r.v=true)/\(r.needs.length<=8/\r.bars.length<=8)/\en r=(0,0)
def Cm {f:Nat->Int}:∀{k i:Nat},sc f i k=0->∀j,i<=j->j<i+k->f j=0
 |0,i,_,j,h1,h2=>absurd h2 ae
 |k+1,i,h,j,h1,h2=>by
  simp only[sc]at h;by_cases hf:f i=0
  .rw[ak hf]at h;by_cases hj:j=i
   .rw[hj];exact hf
   .exact Cm h j ae ae
  .rw[ah hf]at h;exact absurd h hf
def Ck (h:fV f 0 n=0)(j:Nat)(hj:j<n):f j=0:=Cm h j ae ae
def Cn {f:Nat->Int}:∀{k i:Nat},(qC f i k).1=0->∀j,i<=j->j<i+k->f j=0
 |0,i,_,j,h1,h2=>absurd h2 ae
 |k+1,i,h,j,h1,h2=>by
  simp only[qC]at h;by_cases hf:f i=0
  .rw[ak hf]at h;by_cases hj:j=i
   .rw[hj];exact hf
   .exact Cn h j ae ae
  .rw[ah hf]at h;exact absurd h hf
def qB (h:(gR f 0 n).1=0)(j:Nat)(hj:j<n):f j=0:=Cn h j ae ae
def de.fit (w:de):Prop:=w.sm/\(w.feats.length<=6/\∀t∈w.feats,t.length<=12)
def bn.fit (n:bn):Prop:=(n.any.length<=3/\∀w∈n.any,w.fit)/\n.when'.length<=1048576/\n.option.length<=1048576
variable{l:List bn}
def b6.fit (x:b6):Prop:=x.sm/\x.of.length<=6
structure Rec.fit (r:Rec):Prop where
 nm:r.name.length<=1048576
 v:r.v.sm
 ns:r.needs.length<=8
 n:∀x∈r.needs,x.fit
 bs:r.bars.length<=8
 b:∀x∈r.bars,x.sm
 fs:r.feats.length<=8
 f:∀x∈r.feats,x.fit
theorem gh [Inhabited α]{l:List α}{x:α}(h:x∈l):∃i,i<l.length/\l[i]! =x:=by
 obtain⟨i,hi,e⟩:=List.mem_iff_getElem.1 h;exact⟨i,hi,by rw[<-e];simp[hi]⟩
theorem aaw {r:Rec}{w:de}{al:Bool}(h:lG r w al=0)(hs:w.sm):w.fit:=by
 refine⟨hs, ?_⟩
 grind [lG,nH,bd,gh,wfB,gL]
def Yg {r:Rec}{n:bn}(h:jG r n=0)(hs:n.sm):n.fit:=by
 unfold jG at h;split at h
 .cases h
 split at h
 .cases h
 rename_i h1 h2;split at h
 .rename_i h3;exact absurd h h3
 rename_i h3;refine⟨⟨ae,λw hw=>?_⟩,hs.2.1.len,hs.2.2⟩;obtain⟨i,hi,rfl⟩:=gh hw;exact aaw (Ck (Classical.not_not.1 h3) i hi) (hs.1 _ hw)
theorem tk {r:Rec}(h:FB r/\gI r):r.fit:=by
 obtain⟨⟨_,⟨h1,h2⟩,hp⟩,⟨s1,s2⟩,s3,s4,s5⟩:=h;have h0:(lM r).1=0/\ek r.feats=true:=by
  grind [en]
 obtain⟨h3,h4⟩:=h0;simp only[ek,aA,aT,bd]at h4;refine⟨s1,s2,h1,λx hx=>?_,h2,s4,h4.1,λx hx=>⟨s5.sm x hx, ?_⟩⟩
 .obtain⟨i,hi,rfl⟩:=gh hx;exact Yg (qB h3 i hi) (s3 _ hx)
 grind [gh,W0,XI]
def pQ (x:UInt8)(B:Nat):∀l:List au,(∀t∈l,t.length<=B)->(cn [x] l).length<=l.length*(B+1)
 |[],_=>by simp[cn]
 |[t],h=>by have:=h t (.head _);simp only[cn,bD,ca];omega
 |t::u::r,h=>by
  have h1:=h t (.head _);have h2:=pQ x B (u::r) λy hy=>h y (.tail _ hy)
  simp only[cn,cu,bD,ca,Nat.succ_mul]at h2⊢;omega
def Ef {w:de}(h:w.fit):(cn [44] w.feats).length<=6291462:=by
 have h1:=pQ 44 1048576 w.feats h.1.2;have h2:=fP (1048576+1) h.2.1;omega
def IF {w:de}(h:w.fit):(cn [44] w.feats).length<=78:=by
 have h1:=pQ 44 12 w.feats h.2.2;have h2:=fP (12+1) h.2.1;omega
def j0 (w:de):au:=cq (sQ w)
theorem zq {w:de}(h:w.fit):(j0 w).length<=8400000:=by
 have h1:=Ef h;have h2:=And.intro h.1.1.1 h.1.1.2.len;simp only[j0,cq,sQ,cn,cu,bD,ca]
 grind [rQ,rL,rM]
def nP {s:au}(h:s.length<=1048576):(kA s).length<=1048590:=by
 unfold kA;split
 .simp
 .simp only[cq,cn,yo,cu,bD,ca];omega
def YG {s:au}(h:s.length<=1048576):(xG s).length<=1048590:=by
 unfold xG;split
 .simp
 .simp only[cq,cn,nG,cu,bD,ca];omega
def xa (q:α->au)(B:Nat){l:List α}(h:∀x∈l,(q x).length<=B)(i:Nat):(((l.take i).map q).flatten).length<=i*B:=by
 have h1:=sf q B (l.take i) λx hx=>h x (EC hx)
 have h2:=fP B (List.length_take_le i l);omega
theorem tg [Inhabited α](q:α->au){l:List α}{i:Nat}(h:i<l.length):((l.take (i+1)).map q).flatten=((l.take i).map q).flatten++q l[i]! :=by
 rw[List.take_add_one,List.getElem?_eq_getElem h,List.map_append,List.flatten_append];simp[h]
theorem Ug {n:bn}(h:n.fit):(Aa n).length<=27400000:=by
 have h1:=sf j0 8400000 n.any λw hw=>zq (h.1.2 w hw)
 have h2:=fP 8400000 h.1.1;have h3:=nP h.2.1;have h4:=YG h.2.2;have h5:(cq [Gv]).length=5:=rfl;unfold j0 at h1
 grind [Aa]
def Wh {b:lu}(h:b.sm):(GW b).length<=3145800:=by
 have h1:=nP h.2.2.len;have h2:=h.1;have h3:=h.2.1.len;simp only[GW,cq,cn,zp,cu,bD,ca];omega
theorem Fx {x:b6}(h:x.fit):(wY x).length<=8400000:=by
 have h1:=pQ 32 1048576 ([jZ,x.name]++x.of) (by
  intro t ht;simp only[sU,rh,bG]at ht;rcases ht with rfl|rfl|ht
  .simp[jZ]
  .exact h.1.1
  .exact h.1.2.2 _ ht)
 have h2:=h.2
 grind [jZ,wY,cq]
def TW {r:Rec}(h1:r.name.length<=1048576)(h2:r.v.sm):(uS r).length<=3145800:=by
 have h3:=Ed r.v h2;simp only[uS,cq,cn,qd,cu,bD,ca];omega
def dQ (n:bn)(j:Nat):au:=cq [Gv]++((n.any.take j).map j0).flatten
theorem oo {n:bn}(h:j<n.any.length):dQ n (j+1)=dQ n j++j0 n.any[j]! :=by grind [dQ,tg,j0]
def y0 {n:bn}(h:n.any.length<=j):Aa n=dQ n j++kA n.when'++xG n.option:=by
 rw[dQ,gU h];rfl
theorem FL {n:bn}(h:n.fit)(j:Nat)(hj:j<=3):(dQ n j).length<=25200005:=by
 have h1:=xa j0 8400000 (λw hw=>zq (h.1.2 w hw)) j;have h2:=fP 8400000 hj;have h5:(cq [Gv]).length=5:=rfl
 grind [dQ]
def kD (r:Rec)(i:Nat):au:=uS r++((r.needs.take i).map Aa).flatten
def D8 (r:Rec)(i:Nat):au:=kD r r.needs.length++((r.bars.take i).map GW).flatten
def Gt (r:Rec)(i:Nat):au:=D8 r r.bars.length++((r.feats.take i).map wY).flatten
def aaf (r:Rec):kD r 0=uS r:=by simp[kD]
def aag (r:Rec):D8 r 0=kD r r.needs.length:=by simp[D8]
def aah (r:Rec):Gt r 0=D8 r r.bars.length:=by simp[Gt]
theorem IA (r:Rec):Gt r r.feats.length=D6 r:=by grind [Gt,D8,kD,D6]
theorem mI {r:Rec}{i:Nat}(h:i<r.needs.length):kD r (i+1)=kD r i++Aa r.needs[i]! :=by grind [kD,tg,Aa]
theorem NA {r:Rec}{i:Nat}(h:i<r.bars.length):D8 r (i+1)=D8 r i++GW r.bars[i]! :=by grind [D8,tg,GW]
theorem NB {r:Rec}{i:Nat}(h:i<r.feats.length):Gt r (i+1)=Gt r i++wY r.feats[i]! :=by grind [Gt,tg,wY]
def Iy {r:Rec}(h:r.fit)(i:Nat)(hi:i<=r.needs.length):(kD r i).length<=222400000:=by
 have a0:=TW h.nm h.v;have a1:=xa Aa 27400000 (λx hx=>Ug (h.n x hx)) i;have b1:=fP 27400000 (fg hi h.ns);simp only[kD,cu];omega
def Iz {r:Rec}(h:r.fit)(i:Nat)(hi:i<=r.bars.length):(D8 r i).length<=247600000:=by
 have a0:=Iy h r.needs.length (aN _);have a1:=xa GW 3145800 (λx hx=>Wh (h.b x hx)) i;have b1:=fP 3145800 (fg hi h.bs);simp only[D8,cu];omega
def SL {r:Rec}(h:r.fit)(i:Nat)(hi:i<=r.feats.length):(Gt r i).length<=314800000:=by
 have a0:=Iz h r.bars.length (aN _);have a1:=xa wY 8400000 (λx hx=>Fx (h.f x hx)) i;have b1:=fP 8400000 (fg hi h.fs);simp only[Gt,cu];omega
theorem ki {r:Rec}(h:(cQ r).1=0):FB r:=by
 unfold cQ at h;split at h
 .cases h
 split at h
 .cases h
 split at h
 .cases h
 rename_i a b c;split at h
 .rename_i d;exact absurd h d
 rename_i d;exact⟨⟨by simpa using a,by simpa using b⟩,⟨ae,ae⟩,Mk (Classical.not_not.1 d)⟩
def qY (r:Rec):Int:=if(ez r).2≠0 then 0 else sumL (ez r).1
def uK (m:List (Nat×bj))(l:Nat)(t:List UInt8):Prop:=(∃u,look m l=some (.bld none 0 u)/\t=[])\/(∃l2 u,look m l=some (.bld (some l2) t.length u)/\look m l2=some (.row t))
@[go_sem] def gv (m:List (Nat×bj))(l:Nat):List (Nat×bj):=match look m l with
 |some (.bld (some l2) _ _)=>c7 m l2
 |_=>m
@[go_sem] def rV (m:List (Nat×bj))(l L:Nat)(t:List UInt8):List (Nat×bj):=(L,.row t)::cT (gv m l) l (.bld (some L) t.length true)
def TrW (aE5:D)(s:List UInt8)(ds:List D)(st:St)(K:D->St->Prop):=∃l t,ds=[.ptr l 2 0 0,aE5]/\uK st.m l t/\l<st.nx/\s≠[]/\t.length+s.length<=1099511627776/\K .any ⟨st.nx+1,rV st.m l st.nx (t++s)⟩
def trWS (ds:List D)(st:St)(K:D->St->Prop):=∃s,TrW (.str s) s ds st K
def trWB (ds:List D)(st:St)(K:D->St->Prop):=∃c,TrW (.int .u8 c.toNat) [c] ds st K
def trBS (ds:List D)(st:St)(K:D->St->Prop):=∃l t,ds=[.ptr l 2 0 0]/\uK st.m l t/\t≠[]/\K (.str t) ⟨st.nx,c7 (gv st.m l) l⟩
def C489:=∀(ds:List D) (st:St) (K:D->St->Prop),trWS ds st K->Z.tr 489 ds st K
def C664:=∀(ds:List D) (st:St) (K:D->St->Prop),trWB ds st K->Z.tr 664 ds st K
def C452:=∀(ds:List D) (st:St) (K:D->St->Prop),trBS ds st K->Z.tr 452 ds st K
def T3 (b a:au)(l:List au)(h:a≠[]):cn b (a::l)≠[]:=by
 match l with
 |[]=>exact h
 |c::r=>
  rw[vI b a (c::r) aC];intro e;have:=List.append_eq_nil_iff.1 e;exact h (List.append_eq_nil_iff.1 this.1).1
def GO (ws:List au)(t:au):Prop:=(cn [32] ws≠[]/\ws.length<=1048600)/\(∀w∈ws,w.length<=2097200)/\t.length+(cn [32] ws).length+1<=1099511627776
def GO.mk {a:au}{l:List au}{t:au}(h1:a≠[])(h2:l.length<=99)(h3:∀w∈a::l,w.length<=2097200)(h4:t.length<=1000000000):GO (a::l) t:=by
 have h5:=pQ 32 2097200 (a::l) h3;have h6:(a::l).length<=100:=by simp only[bD];omega
 have h7:=fP (2097200+1) h6;exact⟨⟨T3 _ _ _ h1,ae⟩,h3,ae⟩
def C450 (Y:Ctx):=∀(ws:List au) (t:au) (l lw nx:Nat) (m:List (Nat×bj)) (K:D->St->Prop),uK m l t->look m lw=some (.buf 1 (ws.map D.str))->l<nx->lw<nx->GO ws t->
 K (.tup []) ⟨nx+1,rV (c7 m lw) l nx (t++cq ws)⟩->Y.tr 450 [.ptr l 2 0 0,.own lw 1 0 ws.length] ⟨nx,m⟩ K
def yT {m:List (Nat×bj)}{l L:Nat}{t:List UInt8}(h:l≠L):look (rV m l L t) l=some (.bld (some L) t.length true)/\look (rV m l L t) L=some (.row t):=by
 constructor
 .simp only[rV,look,ah (λe=>h (Eq.symm e))]
  haveI:cL:={gd:=λ_=>True,le:=λ_ _ _ _ _=>trivial}
  rw[bM,ak rfl]
 .simp only[rV,look,ak]
def acd {m:List (Nat×bj)}{l L:Nat}{t:List UInt8}(h:l≠L):uK (rV m l L t) l t:=.inr ⟨L,true,yT h⟩
structure iQ where
 r:Rec
 sum:Int
 off:Bool
 deriving Inhabited,DecidableEq
def iQ.D (x:iQ):D:=.agg [.str x.r.name,.int .i64 x.r.v.major,.int .i64 x.r.v.minor,.int .i64 x.r.v.patch,.str x.r.v.pre,.str x.r.v.build,.sl 3 (x.r.needs.map bn.D),.sl 3 (x.r.bars.map lu.D),.sl 2 (x.r.feats.map b6.D),.int .u64 x.sum,.bool x.off]
structure bA where
 name:au
 es:List iQ
 deriving Inhabited,DecidableEq
def bA.D (s:bA):D:=.agg [.str s.name,.sl 11 (s.es.map iQ.D)]
def yz (nm:au)(v:bV)(x:iQ):Bool:=decide (x.r.name=nm)&&A4 x.r.v v
theorem aje {v:bV}{x:iQ}(h:¬x.r.name=nm\/A4 x.r.v v=false):yz nm v x=false:=by
 grind [yz]
theorem adu {v:bV}{x:iQ}(h:x.r.name=nm/\A4 x.r.v v=true):yz nm v x=true:=by
 grind [yz]
def qo (l:List iQ)(nm:au)(v:bV)(i:Nat):Int:=match(l.drop i).findIdx? (yz nm v)with
 |some k=>((i+k:Nat):Int)
 |none=>-1
theorem YQ {l:List iQ}{v:bV}{i:Nat}(h:i<l.length)(he:yz nm v l[i]! =true):qo l nm v i=(i:Nat):=by
 unfold qo;rw[eH h,List.findIdx?_cons]
 grind
theorem YR {l:List iQ}{v:bV}{i:Nat}(h:i<l.length)(he:yz nm v l[i]! =false):qo l nm v i=qo l nm v (i+1):=by
 unfold qo;have:yz nm v l[i]=false:=by simpa[h]using he
 rw[eH h,List.findIdx?_cons]
 grind
def Sc {l:List iQ}{v:bV}{i:Nat}(h:l.length<=i):qo l nm v i=-1:=by
 unfold qo;rw[jN h];rfl
def pJ (l:List iQ)(i:Nat):Bool:=decide ((ez l[i]!.r).2=0)&&decide (qY l[i]!.r=l[i]!.sum)&&decide (qo (l.take i) l[i]!.r.name l[i]!.r.v 0<0)
def fO (s:bA):Bool:=(df s.name&&decide (s.es.length<=64))&&bW (pJ s.es) 0 s.es.length
theorem Dg {r:Rec}(h:(ez r).2=0):gJ r.v=true:=by
 grind [cQ,ez,ki]
theorem Pg {l:List iQ}{v:bV}:qo l nm v 0<0↔∀x∈l,yz nm v x=false:=by
 grind [qo,yz]
theorem FV {l:List iQ}{i:Nat}(h:i<l.length)(hv:gJ l[i]!.r.v=true):decide (qo l l[i]!.r.name l[i]!.r.v 0=(i:Nat))=decide (qo (l.take i) l[i]!.r.name l[i]!.r.v 0<0):=by
 have hi:yz l[i]!.r.name l[i]!.r.v l[i]! =true:=by unfold yz;rw[FR hv,br rfl];rfl
 apply lW.2;rw[Pg];constructor
 .intro he x hx;obtain⟨j,hj,rfl⟩:=List.mem_take_iff_getElem.1 hx;have hj2:j<i:=ae;unfold qo at he;rw[cY]at he;cases hf:l.findIdx? (yz l[i]!.r.name l[i]!.r.v)with
  |none=>rw[hf]at he;simp only at he;omega
  |some k=>
   rw[hf]at he;obtain⟨h1,h2,h3⟩:=List.findIdx?_eq_some_iff_getElem.1 hf;have hk:k=i:=by simp only at he;omega
   subst hk;have:=h3 j hj2;simpa using this
 .intro hx;unfold qo;rw[cY];have:l.findIdx? (yz l[i]!.r.name l[i]!.r.v)=some i:=by
   rw[List.findIdx?_eq_some_iff_getElem];refine⟨h,by simpa[h]using hi,λj hj=>?_⟩;have:=hx l[j] (List.mem_take_iff_getElem.2 ⟨j,ae,rfl⟩);rw[this];decide
  rw[this];simp
theorem WQ {l:List iQ}{i:Nat}(h:i<l.length)(h1:(ez l[i]!.r).2=0)(h2:qY l[i]!.r=l[i]!.sum)(h3:qo l l[i]!.r.name l[i]!.r.v 0=(i:Nat)):pJ l i=true:=by
 grind [FV,Dg,pJ]
theorem acY {l:List iQ}{i:Nat}(h:i<l.length)(h1:(¬(ez l[i]!.r).2=0\/¬qY l[i]!.r=l[i]!.sum)\/¬qo l l[i]!.r.name l[i]!.r.v 0=(i:Nat)):pJ l i=false:=by
 grind [pJ,ez,qY,FV,Dg]
theorem aey {s:bA}(h:fO s=true):s.name.length<=16/\s.es.length<=64:=by
 grind [fO,df]
def G1 (a b:Int):Int:=IntKind.i64.wrap ((BitVec.ofInt 64 a&&&BitVec.ofInt 64 b).toNat)
def bvN (a b:Int):Int:=IntKind.i64.wrap ((BitVec.ofInt 64 a&&& ~~~ BitVec.ofInt 64 b).toNat)
def bvO (a b:Int):Int:=IntKind.i64.wrap ((BitVec.ofInt 64 a |||BitVec.ofInt 64 b).toNat)
def nY (u:Int):Int:=if u<0\/(us.length:Int)<=u then 0 else 2^(us[u.toNat]!.cands.length+1) -1
def qI (cs:List eB)(s:cx):Nat->Int
 |0=>0
 |k+1=>if oY s cs[k]!.v=true then qI cs s k+2^(k+1)else qI cs s k
def uF (w:Want):Int:=if w.u<0\/(us.length:Int)<=w.u then 0 else qI us[w.u.toNat]!.cands w.s us[w.u.toNat]!.cands.length
def m8 (us:List cI):List dY->Int->Int
 |[],u=>nY us u
 |t::r,u=>if t.u=u then t.m else m8 us r u
def trmB (t:dY):Bool:=decide (t.m≠0)&&decide (G1 t.m (nY us t.u)=t.m)&&decide (t.m≠nY us t.u)
def Ny (l:List dY):Bool:=bW (λi=>trmB us l[i]! && !(decide (0<i)&&decide (l[i]!.u<=l[i-1]!.u))) 0 l.length
def Uv (k:Nat):(2:Int)^k=((2^k:Nat):Int):=by
 induction k with
 |zero=>rfl
 |succ k ih=>rw[Int.pow_succ,ih,Nat.pow_succ];omega
def akm (h:k<=n):(2:Int)^k<=2^n:=by
 rw[Uv,Uv];exact Int.ofNat_le.2 (Nat.pow_le_pow_right aV h)
def pY (k:Nat):(1:Int)<=2^k:=by
 rw[Uv];have:=Nat.one_le_two_pow (n:=k);omega
def FW (h:k<=40):(2:Int)^k<=1099511627776:=akm h
def O0 (cs:List eB)(s:cx):∀k,0<=qI cs s k/\qI cs s k<=2^(k+1) -2
 |0=>by simp[qI]
 |k+1=>by
  have ih:=O0 cs s k;have h1:(2:Int)^(k+1+1)=2^(k+1)*2:=Int.pow_succ 2 (k+1);have h2:=pY (k+1);rw[qI];split<;>omega
def sureB (row:jt)(k:Int)(w:Want):Bool:=if w.u=row.unit then decide (G1 (uF us w) (2^(k+1).toNat)≠0)else decide (bvN (m8 us row.terms w.u) (uF us w)=0)
def lostB (row:jt)(k:Int)(w:Want):Bool:=if w.u=row.unit then decide (G1 (uF us w) (2^(k+1).toNat)=0)else decide (G1 (uF us w) (m8 us row.terms w.u)=0)
def InR (x:Int):Prop:=-9223372036854775808<=x/\x<=9223372036854775807
def SS (x:BitVec 64):IntKind.i64.wrap (x.toNat:Int)=x.toInt:=by
 have h:=x.isLt;have e:IntKind.i64.wrap (x.toNat:Int)=if decide ((x.toNat:Int)%18446744073709551616≥9223372036854775808)=true then(x.toNat:Int)%18446744073709551616-18446744073709551616 else(x.toNat:Int)%18446744073709551616:=rfl
 rw[e,BitVec.toInt_eq_toNat_cond];simp only[aT];split<;>split<;>omega
def L8 {m:Int}(h:InR m):(BitVec.ofInt 64 m).toInt=m:=by
 obtain⟨h1,h2⟩:=h;rw[BitVec.toInt_ofInt,Int.bmod_def];split<;>omega
def Wp (a b:Int):G1 a b=(BitVec.ofInt 64 a&&&BitVec.ofInt 64 b).toInt:=SS _
def ahA (a b:Int):bvO a b=(BitVec.ofInt 64 a |||BitVec.ofInt 64 b).toInt:=SS _
def acm {i:Nat}(h0:0<=a)(h1:a<2^i)(hi:i<=40):bvO a (2^i)=a+2^i:=by
 have hp:=FW hi;obtain⟨n,rfl⟩:∃n:Nat,a=(n:Int):=⟨a.toNat,ae⟩
 rw[Uv]at h1 hp⊢;have h2:n<2^i:=ae;have hl:(2:Nat)^i<=1099511627776:=ae;have e:(BitVec.ofInt 64 (n:Int) |||BitVec.ofInt 64 ((2^i:Nat):Int)).toNat=n+2^i:=by
  rw[BitVec.toNat_or,BitVec.toNat_ofInt,BitVec.toNat_ofInt];have h3:((n:Int)%((2^64:Nat):Int)).toNat=n:=ae;have h4:(((2^i:Nat):Int)%((2^64:Nat):Int)).toNat=2^i:=ae;rw[h3,h4,Nat.or_comm];have:=Nat.two_pow_add_eq_or_of_lt h2 1;simp only[Nat.mul_one]at this;omega
 unfold bvO;rw[e,wrap_i64 ae ae];omega
def fR {α:Type}(f:α->Bool):List α->Nat->Int
 |[],_=>-1
 |x::r,i=>if f x=true then(i:Int)else fR f r (i+1)
def kN [Inhabited α]{f:α->Bool}{l:List α}{i:Nat}(hi:i<l.length)(h:f l[i]! =true):fR f (l.drop i) i=i:=by
 rw[eH hi,fR,ak (by simpa[hi]using h)]
def jy [Inhabited α]{f:α->Bool}{l:List α}{i:Nat}(hi:i<l.length)(h:f l[i]! =false):fR f (l.drop i) i=fR f (l.drop (i+1)) (i+1):=by
 rw[eH hi,fR,ah (by simpa[hi]using h)]
def ml {f:α->Bool}{l:List α}{i:Nat}(hi:l.length<=i):fR f (l.drop i) i=-1:=by
 rw[jN hi,fR]
def fB (b:Bool)(us:List cI)(row:jt)(k:Int)(w:Want):Bool:=if b=true then sureB us row k w else !lostB us row k w
def aen (row:jt)(k:Int)(r:nR):Bool:=!r.any (fB false us row k)
def saysP (row:jt)(k:Nat)(mild:Bool):Bool:=if mild=true then us[row.unit.toNat]!.cands[k]!.bars.any (fB true us row (k:Int))else us[row.unit.toNat]!.cands[k]!.needs.any (aen us row (k:Int))
def eB.fz (l k:Nat)(es:List Abs.D)(c:eB):iY l k es c.D=c.D:=ic l k es _ (by simp only[eB.D,D.aR,aK,gC])
def wx.fz (l k:Nat)(es:List Abs.D)(c:wx):iY l k es c.D=c.D:=ic l k es _ (by simp only[wx.D,D.aR,aK,gC])
def jt.fz (l k:Nat)(es:List Abs.D)(c:jt):iY l k es c.D=c.D:=ic l k es _ (by simp only[jt.D,D.aR,aK,gC])
def hasU (l:List dY)(u:Int):Bool:=l.any λt=>decide (t.u=u)
def Rd (row:jt)(mild:Bool):Bool:=hasU row.terms row.unit&&decide (G1 (m8 us row.terms row.unit) 1=0)&&bW (λk=>decide (G1 (m8 us row.terms row.unit) (2^(k+1))=0) ||saysP us row k mild) 0 us[row.unit.toNat]!.cands.length
def bothU (A B:List dY)(row:jt)(u:Nat):Bool:=decide (bvN (m8 us row.terms (u:Int)) (if(u:Int)=row.unit then bvO (m8 us A (u:Int)) (m8 us B (u:Int))else G1 (m8 us A (u:Int)) (m8 us B (u:Int)))=0)
def bothP (c:wx)(row:jt)(i:Int):Bool:=decide (nY c.w.us row.unit≠0)&&(decide (0<=row.a)&&decide (row.a<i))&&(decide (0<=row.b)&&decide (row.b<i))&&(Ny c.w.us c.rows[row.a.toNat]!.terms&&Ny c.w.us c.rows[row.b.toNat]!.terms)&&bW (bothU c.w.us c.rows[row.a.toNat]!.terms c.rows[row.b.toNat]!.terms row) 0 c.w.us.length
def askP (c:wx)(row:jt):Bool:=decide (nY c.w.us row.unit≠0)&&decide (row.unit<c.allow.length)&&decide (G1 (m8 c.w.us row.terms row.unit) c.allow[row.unit.toNat]! =0)
def kindP (c:wx)(row:jt)(i:Int):Bool:=if row.kind=5 then bothP c row i else decide (row.a=0)&&decide (row.b=0)&&(if row.kind=1 then decide (row.unit=0)&&decide (m8 c.w.us row.terms 0=1)else if row.kind=2\/row.kind=3 then Rd c.w.us row (decide (row.kind=3))else if row.kind=4 then askP c row else false)
def ajm (c:wx)(i:Int):Bool:=decide (0<=i)&&decide (i<c.rows.length)&&Ny c.w.us c.rows[i.toNat]!.terms&&kindP c c.rows[i.toNat]! i
def mM (f:Nat->Bool):Nat->Nat->Nat
 |0,i=>i
 |k+1,i=>if f i=true then mM f k (i+1)else i
def GV {f:Nat->Bool}{i:Nat}(hi:i<n)(h:f i=true):mM f (n-i) i=mM f (n-(i+1)) (i+1):=by
 obtain⟨k,hk⟩:∃k,n-i=k+1:=⟨n-i-1,ae⟩
 rw[hk,mM,ak h,show k=n-(i+1)by omega]
def QY {f:Nat->Bool}{i:Nat}(hi:i<n)(h:f i=false):mM f (n-i) i=i:=by
 obtain⟨k,hk⟩:∃k,n-i=k+1:=⟨n-i-1,ae⟩
 rw[hk,mM,ah (by rw[h];exact Bool.false_ne_true)]
def K3 {f:Nat->Bool}{i:Nat}(hi:n<=i):mM f (n-i) i=i:=by
 rw[show n-i=0 by omega,mM]
def ack (a b:Int):InR (G1 a b):=by
 rw[Wp];have h1:=BitVec.le_toInt (BitVec.ofInt 64 a&&&BitVec.ofInt 64 b);have h2:=BitVec.toInt_lt (x:=BitVec.ofInt 64 a&&&BitVec.ofInt 64 b);exact⟨by simpa using h1,by have:=h2;simp at this;omega⟩
def DT (hb:b=(n:Int))(hn:n<=39):IntKind.i64.wrap (2*2^(min b.toNat IntKind.i64.bits))=2^(n+1):=by
 subst hb;have h:=FW (k:=n+1) ae;have h2:=pY n;rw[Int.pow_succ]at h;rw[show min (Int.toNat (n:Int)) IntKind.i64.bits=n from Nat.min_eq_left (by simp only[IntKind.bits];omega),Int.pow_succ,Int.mul_comm];exact wrap_i64 ae ae
def nO [Inhabited α]{l:List α}{i:Nat}(h:i<l.length):l.take i++[l[i]!]=l.take (i+1):=by
 rw[List.take_succ,show l[i]? =some l[i]! by simp[h]];rfl
def bitI (m:Int)(i:Nat):Bool:=decide (IntKind.i64.wrap ((BitVec.ofInt 64 (m.fdiv (2^(min (i:Int).toNat 64))))&&&(BitVec.ofInt 64 1)).toNat=1)
def V3 (n:Nat)(s:cx):Prop:=s.sm/\s.rel.length<=n/\s.pr.length<=n
def V3.s {s:cx}(h:V3 n s)(hn:n<=1000):SetS s:=⟨⟨h.1.1,fg h.2.1 hn⟩,⟨h.1.2,fg h.2.2 hn⟩⟩
def V3.mono {s:cx}(h:V3 n s)(hn:n<=k):V3 k s:=⟨h.1,fg h.2.1 hn,fg h.2.2 hn⟩
inductive NF where
 |nil|sl (l:List nR)|own (k:Nat)
 deriving Inhabited
inductive BF where
 |nil|sl (l:List Want)|own (k:Nat)
 deriving Inhabited
def NF.D (e:Nat):NF->D
 | .nil=>.aL
 | .sl l=>.sl 1 (l.map jJ)
 | .own k=>.own e 1 0 k
def BF.D (e:Nat):BF->D
 | .nil=>.aL
 | .sl l=>.sl 3 (l.map Want.D)
 | .own k=>.own e 3 0 k
structure CW where
 v:bV
 sh:Int
 n:NF
 b:BF
 deriving Inhabited
def CW.D (e:Nat)(c:CW):D:=.agg [.int .i64 c.v.major,.int .i64 c.v.minor,.int .i64 c.v.patch,.str c.v.pre,.str c.v.build,.int .i64 c.sh,c.n.D e,c.b.D e]
def NF.pl:NF->Bool
 | .own _=>false
 |_=>true
def BF.pl:BF->Bool
 | .own _=>false
 |_=>true
def CW.pl (c:CW):Bool:=c.n.pl&&c.b.pl
def CW.aR {e:Nat}{c:CW}(h:c.pl=true):(c.D e).aR=true:=by
 obtain⟨v,sh,n,b⟩:=c;cases n<;>cases b<;>first|(simp[CW.pl,NF.pl,BF.pl]at h;done)|rfl
theorem CW.rn {e e' lo:Nat}(h:mT lo σ e=some e')(c:CW):tx lo σ (c.D e)=some (c.D e'):=by
 obtain⟨v,sh,n,b⟩:=c;cases n<;>cases b<;>simp[CW.D,NF.D,BF.D,tx,qT,U0,h]
def CsOk (n:Nat)(cs:Nat->List CW):Prop:=(2<=n/\n<=8)/\∀t,(cs t).length<=4/\∀c∈cs t,c.v.sm
def Want.fz (l k:Nat)(es:List Abs.D)(w:Want):iY l k es w.D=w.D:=ic l k es _ (by simp only[Want.D,D.aR,aK,gC])
def Gs.fz (l k:Nat)(es:List Abs.D)(g:Gs):iY l k es g.D=g.D:=ic l k es _ (by simp only[Gs.D,D.aR,aK,gC])
structure RU where
 name:au
 feat:au
 cs:List CW
 deriving Inhabited
def rawC (v:bV):CW:=⟨v,0,.nil,.nil⟩
def Wj (m:Int):Nat->List bV
 |0=>[]
 |i+1=>if bitI m i=true then Wj m i++[bF[i]!]else Wj m i
def RU.pl (u:RU):=∀c∈u.cs,c.pl=true
def Gs.SN (g:Gs)(n:Int):(1<=n->0<=g.val n/\g.val n<n)/\(n<1->g.val n=0):=⟨λh=>iF _ _ h,λh=>by simp only[Gs.val,iE];rw[ak h]⟩
variable(g:Gs)
def CInv (vs:Nat->List bV)(B:Nat->List CW):=∀t,(B t).map CW.v=vs t/\∀c∈B t,c.pl=true
def CInv.len {B:Nat->List CW}(h:CInv vs B):(λj=>(B j).length)=λj=>(vs j).length:=by
 funext j;rw[<-(h j).1,a8]
def NF.p:NF->List nR
 | .sl l=>l
 |_=>[]
def BF.p:BF->List Want
 | .sl l=>l
 |_=>[]
def CW.p (c:CW):eB:=⟨c.v,c.sh,c.n.p,c.b.p⟩
variable{B:Nat->List CW}
def V6 (vs:Nat->List bV)(B:Nat->List CW):=∀t,(B t).map CW.v=vs t
def CInv.v (h:CInv vs B):V6 vs B:=λt=>(h t).1
def V6.len (h:V6 vs B):(λj=>(B j).length)=λj=>(vs j).length:=by
 funext j;rw[<-h j,a8]
def VsOk (vs:Nat->List bV):=∀t,(vs t).length<=4/\∀v∈vs t,v.sm
def V6.ok (h:V6 vs B)(hn:2<=n/\n<=8)(hv:VsOk vs):CsOk n B:=by
 refine⟨hn,λt=>⟨?_,λc hc=>?_⟩⟩
 .have:=(hv t).1;rw[<-h t,a8]at this;exact this
 .exact(hv t).2 _ (by rw[<-h t];exact List.mem_map_of_mem hc)
def bP.fz (l k:Nat)(es:List Abs.D)(w:bP):iY l k es w.D=w.D:=ic l k es _ rfl
variable(w:bP)
theorem dY.eq (a b:dY):ib (dY.D a).cells (dY.D b).cells=decide (a=b):=by
 cases a;cases b
 grind [dY.D,D.cells,ib,Bs]
def iU (i:Nat):List Int:=(List.range i).map λu=>nY us ((u:Nat):Int)
def OA (i:Nat):(iU us i).length=i:=by simp[iU]
def Oz (i:Nat):iU us i++[nY us ((i:Nat):Int)]=iU us (i+1):=by
 simp[iU,List.range_succ]
def stI64 {xs:List Int}{i:Nat}(h:i<xs.length)(v:Int):(xs.map (D.int .i64)).set i (rO ((xs.map (D.int .i64)).getD i .any) 1 1 0 (.int .i64 v))=(xs.set i v).map (D.int .i64):=by
 rw[getD_map h,List.map_set];rfl
def Few:=∀u∈us,∀c∈u.cands,c.needs.length<=1000/\c.bars.length<=1000/\∀r∈c.needs,r.length<=1000
structure Prv where
 w:bP
 facts:List jt
 x:D
def Prv.D (p:Prv):Abs.D:=.agg [.sl 3 (p.w.us.map cI.D),.sl 5 (p.facts.map jt.D),p.x]
def bt (m:Int)(i:Nat):Bool:=(BitVec.ofInt 64 m).getLsbD i
def ofInt_toInt (x:BitVec 64):BitVec.ofInt 64 x.toInt=x:=BitVec.ofInt_toInt
def Wk (a b:Int)(i:Nat):bt (G1 a b) i=(bt a i&&bt b i):=by
 unfold bt;rw[Wp,ofInt_toInt,BitVec.getLsbD_and]
def bt_or (a b:Int)(i:Nat):bt (bvO a b) i=(bt a i ||bt b i):=by
 unfold bt;rw[ahA,ofInt_toInt,BitVec.getLsbD_or]
def ahy (ha:InR a)(hb:InR b)(h:∀i,bt a i=bt b i):a=b:=by
 have e:BitVec.ofInt 64 a=BitVec.ofInt 64 b:=by
  ext i hi
  have:=h i;unfold bt at this
  rwa [BitVec.getLsbD_eq_getElem hi,BitVec.getLsbD_eq_getElem hi]at this
 rw[<-L8 ha,<-L8 hb,e]
def InR0:InR 0:=⟨aV,aV⟩
def G0 (i:Nat):bt 0 i=false:=by unfold bt;simp
def Wq:G1 a b=0↔∀i,¬(bt a i=true/\bt b i=true):=by
 constructor
 .intro h i hi;have:=Wk a b i;rw[h,G0,hi.1,hi.2]at this;exact absurd this aV
 .intro h;refine ahy (ack _ _) InR0 λi=>?_
  rw[Wk,G0];have:=h i;revert this;cases bt a i<;>cases bt b i<;>simp
def ahz:G1 a b≠0↔∃i,bt a i=true/\bt b i=true:=by
 rw[Ne,Wq];constructor
 .intro h;exact Classical.byContradiction λg=>h λi hi=>g ⟨i,hi⟩
 .rintro⟨i,hi⟩ h;exact h i hi
def Of (hk:k<=40)(i:Nat):bt (2^k) i=decide (i=k):=by
 unfold bt;rw[Uv];have hl:(2:Nat)^k<=1099511627776:=by
  have:=FW hk;rw[Uv]at this;omega
 rw[show BitVec.ofInt 64 ((2^k:Nat):Int)=BitVec.ofNat 64 (2^k)from BitVec.ofInt_natCast ..];rw[BitVec.getLsbD_ofNat,Nat.testBit_two_pow];by_cases e:k=i
 .subst e;simp;omega
 .rw[bL e,Bool.and_false,bL (λh=>e h.symm)]
def Q6 (cs:List eB)(s:cx)(i:Nat):∀k,k<=16->bt (qI cs s k) i=(decide (1<=i)&&decide (i<=k)&&oY s cs[i-1]!.v)
 |0,_=>by
  rw[qI,G0];by_cases h:1<=i
  .rw[bL (show ¬i<=0 by omega)];simp
  .rw[bL h];rfl
 |k+1,hk=>by
  have ih:=Q6 cs s i k ae;have hr:=O0 cs s k;rw[qI];split
  .rename_i h;rw[<-acm hr.1 (by have:=pY (k+1);omega) ae,bt_or,ih,Of ae];by_cases e:i=k+1
   .subst e;rw[show k+1-1=k from rfl,h];simp
   .rw[bL e,Bool.or_false];congr 2;rw[lW];omega
  .rename_i h;rw[ih];by_cases e:i=k+1
   .subst e;simp only[Bool.not_eq_true]at h;rw[show k+1-1=k from rfl,h];simp
   .congr 2;rw[lW];omega
def Wl {us:List cI}{w:Want}{u:Nat}(hw:w.u=((u:Nat):Int))(hu:u<us.length)(hs:∀x∈us,x.cands.length<=16)(i:Nat):bt (uF us w) i=(decide (1<=i)&&decide (i<=us[u]!.cands.length)&&oY w.s us[u]!.cands[i-1]!.v):=by
 have hc:=hs _ (aq hu);unfold uF;rw[ah ae,hw];exact Q6 _ _ _ _ hc
abbrev S16:Prop:=∀x∈us,x.cands.length<=16
def agQ (allow:List Int)(r:jt):Prop:=Ny us r.terms=true/\(r.a=0/\r.b=0)/\(0<=r.unit/\r.unit<us.length)/\
 (r.kind=1/\r.unit=0/\m8 us r.terms 0=1\/(r.kind=2\/r.kind=3)/\Rd us r (decide (r.kind=3))=true\/r.kind=4/\r.unit<allow.length/\G1 (m8 us r.terms r.unit) allow[r.unit.toNat]! =0)
abbrev AllOK (allow:List Int)(rows:List jt):Prop:=∀x∈rows,agQ us allow x
def COK (c:List Int):Prop:=c.length<=us.length/\∀u,u<c.length->-1<=c[u]! /\c[u]! <us[u]!.cands.length
def vb (c:List Int)(u:Nat):Nat:=(c[u]! +1).toNat
def V0 (allow:List Int)(rows:List jt):=∀i,i<rows.length->ajm ⟨w,allow,rows⟩ ((i:Nat):Int)=true
def Near (c:List Int)(k:Nat)(l:List dY):Prop:=Ny us l=true/\(∀t∈l,t.u<c.length+1)/\(∀u,u<c.length->bt (m8 us l ((u:Nat):Int)) (vb c u)=true)/\∀j,j<k->bt (m8 us l ((c.length:Nat):Int)) j=true
def COK.app {us:List cI}{i:Int}(h:COK us c)(hl:c.length<us.length)(h1:-1<=i)(h2:i<us[c.length]!.cands.length):COK us (c++[i]):=by
 refine⟨fh,λu hu=>?_⟩;rw[cu,List.length_singleton]at hu;rcases dX u c.length with h3|h3
 .rw[List.getElem!_eq_getElem?_getD,List.getElem?_append_left h3,<-List.getElem!_eq_getElem?_getD];exact h.2 u h3
 .obtain rfl:u=c.length:=ae;simp only[List.getElem!_eq_getElem?_getD,List.getElem?_concat_length,Option.getD_some]at*
  exact⟨h1,h2⟩
section
def subsV:List (List bV):=(List.range 16).map λm=>Wj ((m:Nat):Int) 4
set_option maxRecDepth 10000
def wX:∀v∈bF,v8 (dH v)=true/\gJ v=true:=by decide+kernel
def RU.ok (u:RU):Prop:=u.name≠[]/\∃vs,vs∈subsV/\u.cs=vs.map rawC
def SInv (al c:List Int)(k:Nat)(now:Int)(R:List jt):Prop:=V0 w al R/\(k=0/\now=-1\/0<k/\(0<=now/\now<R.length)/\Near w.us c k R[now.toNat]!.terms)/\R.length<=5100+2*k
def NPre (al:List Int)(facts:List jt)(c:List Int)(rows:List jt):Prop:=((w.sm/\S16 w.us/\w.us.length<=48)/\AllOK w.us al facts)/\(COK w.us c/\V0 w al rows)/\rows.length<=100000
def NPre.app {w:bP}{al:List Int}{facts:List jt}{c:List Int}{rows R:List jt}{k:Nat}(h:NPre w al facts c rows)(hl:c.length<w.us.length)(hk:k<w.us[c.length]!.cands.length+1){now:Int}(hI:SInv w al c k now R):NPre w al facts (c++[((k:Nat):Int) -1]) R:=by
 have h16:=h.1.1.2.1 _ (aq hl);exact⟨h.1,⟨h.2.1.1.app hl ae ae,hI.1⟩,by have:=hI.2.2;omega⟩
def afU (r:jt):jt:=⟨r.kind,r.unit,r.b,r.a,r.terms⟩
def V5 (L R:List jt):Prop:=R.length=L.length/\∀k,k<L.length->R[k]! =L[k]! \/(L[k]!.kind=5/\R[k]! =afU L[k]!)
def Z3 {xs:List jt}{i u:Nat}{v:jt}(hu:u<xs.length):(xs.set i v)[u]! =if i=u then v else xs[u]! :=by
 simp only[List.getElem!_eq_getElem?_getD,List.getElem?_set];split
 .rename_i h;subst h;rw[ak hu];rfl
 .rfl
def V5.step {L R:List jt}{i:Nat}(h:V5 L R)(hi:i<L.length)(hk:R[i]!.kind=5):V5 L (R.set i (afU R[i]!)):=by
 refine⟨by rw[List.length_set];exact h.1,λk hk2=>?_⟩;rw[Z3 (by rw[h.1];exact hk2)];split
 .rename_i e;subst e;rcases h.2 i hi with h1|⟨h1,h2⟩
  .exact .inr ⟨by rw[<-h1];exact hk,by rw[h1]⟩
  .exact .inl (by rw[h2];rfl)
 .exact h.2 k hk2
end
def Tm (κ:Nat->Nat)(x:Want):Prop:=bt (uF us x) (κ x.u.toNat)=true
structure SolP (us:List cI)(κ:Nat->Nat):Prop where
 pos:0<us.length
 root:κ 0≠0
 le:∀u,u<us.length->κ u<=us[u]!.cands.length
 needs:∀u,u<us.length->κ u≠0->∀r∈us[u]!.cands[κ u-1]!.needs,∃x∈r,Tm us κ x
 bars:∀u,u<us.length->κ u≠0->∀x∈us[u]!.cands[κ u-1]!.bars,¬Tm us κ x
 inU:∀u,u<us.length->κ u≠0->(∀r∈us[u]!.cands[κ u-1]!.needs,∀x∈r,0<=x.u/\x.u<us.length)/\∀x∈us[u]!.cands[κ u-1]!.bars,0<=x.u/\x.u<us.length
def bt_p {i:Nat}(hk:k<=40)(h:i=k):bt (2^k) i=true:=by
 rw[Of hk];simpa using h
def B1 {f:Nat->Bool}:∀k i,¬mM f k i<i+k->∀j,i<=j->j<i+k->f j=true
 |0,i,_,j,h1,h2=>ae
 |k+1,i,h,j,h1,h2=>by
  rw[mM]at h;split at h
  .rename_i e;by_cases q:j=i
   .subst q;exact e
   .exact B1 k (i+1) (by rw[show i+1+k=i+(k+1)by omega];exact h) j ae ae
  .omega
def eF (l:List Want):List dY:=l.map λx=>⟨x.u,uF us x⟩
structure kg where
 full:List Int
 needs:List (List (List (List dY)))
 bars:List (List (List dY))
 deriving Inhabited
def Iw (l:List dY):D:=.sl 2 (l.map dY.D)
def oI (l:List (List dY)):D:=.sl 1 (l.map Iw)
def qc (l:List (List (List dY))):D:=.sl 1 (l.map oI)
def kg.D (m:kg):D:=.agg [.sl 1 (m.full.map (D.int .i64)),.sl 1 (m.needs.map qc),.sl 1 (m.bars.map oI)]
def kX (l:List nR):List (List dY):=l.map (eF us)
def eQ (cs:List eB):List (List (List dY)):=cs.map λc=>kX us c.needs
def jF (cs:List eB):List (List dY):=cs.map λc=>eF us c.bars
def eD (i:Nat):List (List (List (List dY))):=(us.take i).map λu=>eQ us u.cands
def jE (i:Nat):List (List (List dY)):=(us.take i).map λu=>jF us u.cands
def dy:kg:=⟨iU us us.length,eD us us.length,jE us us.length⟩
def C1 (c:List Int)(x:dY):Bool:=decide (0<=c[x.u.toNat]!)&&decide (G1 x.m (2^(c[x.u.toNat]!.toNat+1))≠0)
def ko (c:List Int)(l:List dY):Bool:=oF (λi=>C1 c l[i]!) 0 l.length
def Xa (m:kg)(c:List Int)(u:Nat):Bool:=decide (c[u]! <0) ||(bW (λk=>ko c m.needs[u]![c[u]!.toNat]![k]!) 0 m.needs[u]![c[u]!.toNat]!.length&& !ko c m.bars[u]![c[u]!.toNat]!)
def Ch (m:kg)(c:List Int):Bool:=decide (0<=c[0]!)&&bW (Xa m c) 0 c.length
def ChP (c:List Int):Prop:=c.length=us.length/\∀u,u<us.length->-1<=c[u]! /\c[u]! <us[u]!.cands.length
def zW (c:List Int)(u:Nat):Nat:=(c[u]! +1).toNat
def fI {β:Type}[Inhabited α][Inhabited β]{f:α->β}{l:List α}{i:Nat}(h:i<l.length):(l.map f)[i]! =f l[i]! :=by simp[h]
def L1 {us:List cI}{x:Want}(hs:∀x∈us,x.cands.length<=16)(hc:ChP us c)(h0:0<=x.u)(h1:x.u<us.length):C1 c ⟨x.u,uF us x⟩=true↔Tm us (zW c) x:=by
 obtain⟨u,hu⟩:∃u:Nat,x.u=((u:Nat):Int):=⟨x.u.toNat,ae⟩
 have hul:u<us.length:=ae;have hcu:=hc.2 u hul;have h16:=hs _ (aq hul);unfold C1 Tm zW;dsimp only;rw[hu,Int.toNat_natCast,aA,aT,aT,ahz];constructor
 .rintro⟨h2,i,h3,h4⟩;rw[Of ae]at h4;obtain rfl:i=c[u]!.toNat+1:=by simpa using h4
  rw[show(c[u]! +1).toNat=c[u]!.toNat+1 by omega];exact h3
 .intro h2;have h3:=h2;rw[Wl hu hul hs]at h3;simp only[aA,aT]at h3;refine⟨ae,(c[u]! +1).toNat,h2,bt_p ae ae⟩
def LJ {l:List dY}:ko c l=true↔∃x∈l,C1 c x=true:=by
 unfold ko;rw[wF];constructor
 .rintro⟨j,_,h2,h3⟩;exact⟨_,aq h2,h3⟩
 .rintro⟨x,hx,h⟩;obtain⟨j,hj,rfl⟩:=List.mem_iff_getElem.1 hx;exact⟨j,Nat.zero_le _,hj,by simpa[hj]using h⟩
def Eh {w:bP}(h:eG w=true){u:Nat}(hu:u<w.us.length)(hk:k<w.us[u]!.cands.length):(∀r∈w.us[u]!.cands[k]!.needs,∀x∈r,0<=x.u/\x.u<w.us.length)/\∀x∈w.us[u]!.cands[k]!.bars,0<=x.u/\x.u<w.us.length:=by
 unfold eG at h;rw[aA,bd]at h;have h3:=h.2 u ae hu;unfold lF at h3;rw[aA,bd]at h3;have h4:=h3.2 k ae hk;unfold mZ at h4;simp only[aA]at h4;have h5:=h4.1.2;unfold mY at h5;simp only[aA,aT]at h5;have hw:∀(l:List Want),pn (w.us.length:Int) l=true->∀x∈l,0<=x.u/\x.u<w.us.length:=by
  intro l hl x hx;unfold pn at hl;rw[bd]at hl;obtain⟨j,hj,rfl⟩:=List.mem_iff_getElem.1 hx;have:=hl j ae hj;unfold sP at this;simp only[hj,getElem!_pos,aA,aT]at this;omega
 refine⟨λr hr=>?_,hw _ h5.2⟩;have h6:=h5.1.2;rw[bd]at h6;obtain⟨j,hj,rfl⟩:=List.mem_iff_getElem.1 hr;have:=h6 j ae hj;unfold rE at this;simp only[hj,getElem!_pos,aA]at this;exact hw _ this.1
def Yi {us:List cI}{u:Nat}(hu:u<us.length)(hk:k<us[u]!.cands.length):(dy us).needs[u]![k]! =kX us us[u]!.cands[k]!.needs:=by
 unfold dy eD eQ;dsimp only;rw[List.take_length,fI hu,fI hk]
def ab8 {us:List cI}{u:Nat}(hu:u<us.length)(hk:k<us[u]!.cands.length):(dy us).bars[u]![k]! =eF us us[u]!.cands[k]!.bars:=by
 unfold dy jE jF;dsimp only;rw[List.take_length,fI hu,fI hk]
def ak5 {w:bP}(hw:eG w=true)(hs:∀x∈w.us,x.cands.length<=16)(hc:ChP w.us c)(h:Ch (dy w.us) c=true):SolP w.us (zW c):=by
 have hpos:0<w.us.length:=by
  unfold eG at hw;simp only[aA,aT]at hw;omega
 unfold Ch at h;rw[aA,aT,bd,hc.1]at h;obtain⟨h0,hf⟩:=h;have hk:∀u,u<w.us.length->zW c u≠0->c[u]!.toNat=zW c u-1/\zW c u-1<w.us[u]!.cands.length/\bW (λk=>ko c (kX w.us w.us[u]!.cands[zW c u-1]!.needs)[k]!) 0 (kX w.us w.us[u]!.cands[zW c u-1]!.needs).length=true/\ko c (eF w.us w.us[u]!.cands[zW c u-1]!.bars)=false:=by
  intro u hu hk;have hcu:=hc.2 u hu;have h1:=hf u (Nat.zero_le _) hu;have e:c[u]!.toNat=zW c u-1:=by unfold zW at*;omega
  have hl:zW c u-1<w.us[u]!.cands.length:=by unfold zW at*;omega
  unfold Xa at h1;rw[dK,aT]at h1;have h2:=h1.resolve_left (by unfold zW at hk;omega);rw[e,Yi hu hl,ab8 hu hl]at h2;rw[aA,cE]at h2;exact⟨e,hl,h2.1,h2.2⟩
 have hin:∀u,u<w.us.length->zW c u≠0->(∀r∈w.us[u]!.cands[zW c u-1]!.needs,∀x∈r,0<=x.u/\x.u<w.us.length)/\∀x∈w.us[u]!.cands[zW c u-1]!.bars,0<=x.u/\x.u<w.us.length:=λu hu h=>Eh hw hu (hk u hu h).2.1
 refine⟨hpos,by unfold zW;omega,λu hu=>?_,λu hu hk0 r hr=>?_,λu hu hk0 x hx hm=>?_,hin⟩
 .have:=hc.2 u hu;unfold zW;omega
 .have h1:=(hk u hu hk0).2.2.1;rw[bd]at h1;obtain⟨j,hj,rfl⟩:=List.mem_iff_getElem.1 hr;have h2:=h1 j (Nat.zero_le _) (by unfold kX;simpa using hj);unfold kX at h2;rw[fI hj,LJ]at h2;obtain⟨y,hy,hm⟩:=h2;unfold eF at hy;obtain⟨x,hx,rfl⟩:=bY.1 hy;simp only[hj,getElem!_pos]at hx;have:=(hin u hu hk0).1 _ hr x hx;exact⟨x,hx,(L1 hs hc this.1 this.2).1 hm⟩
 .have h1:=(hk u hu hk0).2.2.2;have hi:=(hin u hu hk0).2 x hx;have:ko c (eF w.us w.us[u]!.cands[zW c u-1]!.bars)=true:=LJ.2 ⟨_,bY.2 ⟨x,hx,rfl⟩,(L1 hs hc hi.1 hi.2).2 hm⟩;rw[h1]at this;cases this
def aiY (l k:Nat)(es:List D)(xs:List (List dY)):mN l k es (xs.map Iw)=xs.map Iw:=jM l k es _ (bX (λ_=>rfl) _)
def ac8 (l k:Nat)(es:List D)(xs:List (List (List dY))):mN l k es (xs.map oI)=xs.map oI:=jM l k es _ (bX (λ_=>rfl) _)
def Xj (l k:Nat)(es:List D)(xs:List (List (List (List dY)))):mN l k es (xs.map qc)=xs.map qc:=jM l k es _ (bX (λ_=>rfl) _)
def ac7 (l k:Nat)(es:List D)(xs:List Int):mN l k es (xs.map (D.int .i64))=xs.map (D.int .i64):=jM l k es _ (bX (λ_=>rfl) _)
def Vh {us:List cI}{l:List Want}{i:Nat}(h:i<l.length):eF us (l.take i)++[⟨l[i]!.u,uF us l[i]!⟩]=eF us (l.take (i+1)):=by
 unfold eF;rw[<-nO h];simp
def Vi (l:List Want)(i:Nat):(eF us (l.take i)).length<=i:=by
 unfold eF;rw[a8,dF];omega
def U1 {us:List cI}{l:List nR}{i:Nat}(h:i<l.length):kX us (l.take i)++[eF us l[i]!]=kX us (l.take (i+1)):=by
 unfold kX;rw[<-nO h];simp
def U3 (l:List nR)(i:Nat):(kX us (l.take i)).length<=i:=by
 unfold kX;rw[a8,dF];omega
def O7 {us:List cI}{l:List eB}{i:Nat}(h:i<l.length):eQ us (l.take i)++[kX us l[i]!.needs]=eQ us (l.take (i+1)):=by
 unfold eQ;rw[<-nO h];simp
def O8 (l:List eB)(i:Nat):(eQ us (l.take i)).length<=i:=by
 unfold eQ;rw[a8,dF];omega
def Tw {us:List cI}{l:List eB}{i:Nat}(h:i<l.length):jF us (l.take i)++[eF us l[i]!.bars]=jF us (l.take (i+1)):=by
 unfold jF;rw[<-nO h];simp
def Tx (l:List eB)(i:Nat):(jF us (l.take i)).length<=i:=by
 unfold jF;rw[a8,dF];omega
def O5 {us:List cI}{i:Nat}(h:i<us.length):eD us i++[eQ us us[i]!.cands]=eD us (i+1):=by
 unfold eD;rw[<-nO h];simp
def O6 (i:Nat):(eD us i).length<=i:=by
 unfold eD;rw[a8,dF];omega
def Tu {us:List cI}{i:Nat}(h:i<us.length):jE us i++[jF us us[i]!.cands]=jE us (i+1):=by
 unfold jE;rw[<-nO h];simp
def Tv (i:Nat):(jE us i).length<=i:=by
 unfold jE;rw[a8,dF];omega
def KR (c:List Int)(x:dY):Prop:=(0<=x.u/\x.u<c.length)/\c[x.u.toNat]! <=30
def FineP (m:kg)(c:List Int):Prop:=(0<c.length/\c.length<=1000/\m.needs.length=c.length/\m.bars.length=c.length)/\∀u,u<c.length->0<=c[u]! ->(c[u]!.toNat<m.needs[u]!.length/\c[u]!.toNat<m.bars[u]!.length)/\(∀r∈m.needs[u]![c[u]!.toNat]!,∀x∈r,KR c x)/\∀x∈m.bars[u]![c[u]!.toNat]!,KR c x
def eX {α:Type} [Inhabited α]{f:α->Bool}:∀{l:List α}{k:Nat},(fR f l k=-1/\∀q,q<l.length->f l[q]! =false)\/∃j:Nat,fR f l k=((k+j:Nat):Int)/\j<l.length/\f l[j]! =true/\∀q,q<j->f l[q]! =false
 |[],k=>.inl ⟨rfl,λq h=>absurd h (Nat.not_lt_zero q)⟩
 |x::r,k=>by
  rw[fR];split
  .rename_i h;exact .inr ⟨0,rfl,aC,rj,λq h=>absurd h (Nat.not_lt_zero q)⟩
  .rename_i h;have hx:f x=false:=by simpa using h
   rcases eX (f:=f) (l:=r) (k:=k+1)with⟨h1,h2⟩|⟨j,h1,h2,h3,h4⟩
   .refine .inl ⟨h1,λq hq=>?_⟩;cases q with
    |zero=>simpa using hx
    |succ q=>simpa using h2 q (by simpa using hq)
   .refine .inr ⟨j+1,by rw[h1];omega,by simpa using h2,by simpa using h3,λq hq=>?_⟩;cases q with
    |zero=>simpa using hx
    |succ q=>simpa using h4 q ae
def adq [Inhabited α]{f:α->Bool}{l:List α}{i:Nat}(h:i<l.length)(hf:f l[i]! =true):0<=fR f l 0/\fR f l 0<=i:=by
 rcases eX (f:=f) (l:=l) (k:=0)with⟨h1,h2⟩|⟨j,h1,h2,h3,h4⟩
 .rw[h2 i h]at hf;cases hf
 .have:¬i<j:=λhj=>by rw[h4 i hj]at hf;cases hf
  omega
def AZ (nm:au)(s:bA):Bool:=decide (s.name=nm)
def lq (l:List bA)(nm:au):Int:=fR (AZ nm) l 0
def sL (l:List bA)(i:Nat):Bool:=fO l[i]! &&decide (lq l l[i]!.name=(i:Nat))
def dr (l:List bA):Bool:=decide (l.length<=4)&&bW (sL l) 0 l.length
def iH (l:List bA):=∀s∈l,∀x∈s.es,gI x.r
def aeC {l:List bA}{i:Nat}(h:i<l.length):0<=lq l l[i]!.name/\lq l l[i]!.name<=i:=adq h (by simp[AZ])
theorem aeB {l:List bA}{i:Nat}(h:fO l[i]! =false\/¬lq l l[i]!.name=(i:Nat)):sL l i=false:=by
 grind [sL]
theorem Z9 {l:List bA}{i:Nat}(h:fO l[i]! =false\/lq l l[i]!.name<(i:Nat)):sL l i=false:=by
 grind [sL]
theorem Nq {l:List bA}{i:Nat}(h:fO l[i]! =true/\lq l l[i]!.name=(i:Nat)):sL l i=true:=by
 grind [sL]
def U8 {l:List bA}{i:Nat}(hi:i<l.length)(h:fO l[i]! =true/\¬lq l l[i]!.name<(i:Nat)):sL l i=true:=by
 have:=aeC hi;exact Nq ⟨h.1,ae⟩
def bA.fz (l k:Nat)(es:List Abs.D)(c:bA):iY l k es c.D=c.D:=ic l k es _ (by simp only[bA.D,D.aR,aK,gC])
variable(shop:List bA)
def fG (s:bA)(nm:au)(v:bV):Int:=if fO s=false then-1 else qo s.es nm v 0
def n6 (a b:au)(u:cI):Bool:=decide (u.name=a)&&decide (u.feat=b)
def fM (a b:au):Int:=fR (n6 a b) (us.drop 1) 1
def Vr (v:bV)(whole:Bool)(c:eB):Bool:=bif whole then decide (c.v=v)else decide (iL c.v v=0)
def mC (u:Int)(v:bV)(whole:Bool):Int:=if u<0 then-1 else fR (Vr v whole) us[u.toNat]!.cands 0
def ll (c:eB)(x:ea):Int:=
 if c.sh=-1 then(if x.shelf≠[]then 12 else if x.sum≠0 then 13 else 0)
 else if c.sh<0\/(shop.length:Int)<=c.sh\/shop[c.sh.toNat]!.name≠x.shelf then 12
 else if fG shop[c.sh.toNat]! x.name x.v<0\/shop[c.sh.toNat]!.es[(fG shop[c.sh.toNat]! x.name x.v).toNat]!.sum≠x.sum then 13 else 0
def vG (us:List cI)(x:ea):List au->List Int->Int×List Int
 |[],c=>(0,c)
 |f::r,c=>if mC us (fM us x.name f) x.v false<0 then(11,c)else vG us x r (c.set (fM us x.name f).toNat (mC us (fM us x.name f) x.v false))
def kT (us:List cI)(x:ea)(c:List Int):Int×List Int:=
 if mC us (fM us x.name []) x.v true<0 then(9,c)
 else if ll shop us[(fM us x.name []).toNat]!.cands[(mC us (fM us x.name []) x.v true).toNat]! x≠0 then(ll shop us[(fM us x.name []).toNat]!.cands[(mC us (fM us x.name []) x.v true).toNat]! x,c)
 else vG us x x.feats (c.set (fM us x.name []).toNat (mC us (fM us x.name []) x.v true))
def mz (shop:List bA)(us:List cI):List ea->List Int->List Int×Int×au
 |[],c=>(c,0,[])
 |x::r,c=>if(kT shop us x c).1≠0 then([],(kT shop us x c).1,x.name)else mz shop us r (kT shop us x c).2
structure wy where
 kind:Int
 unit:Int
 at':Int
 deriving Inhabited,DecidableEq
def wy.D (f:wy):D:=.agg [.int .i64 f.kind,.int .i64 f.unit,.int .i64 f.at']
def AS (c:List Int)(i:Nat):Bool:=decide (-1<=c[i]!)&&decide (c[i]! <(w.us[i]!.cands.length:Int))
def uD (c:List Int):Bool:=decide (c.length=w.us.length)&&bW (AS w c) 0 c.length
def ey (c:List Int):Bool:=eG w&&uD w c
def kR (c:List Int)(x:Want):Bool:=decide (0<=c[x.u.toNat]!)&&oY x.s w.us[x.u.toNat]!.cands[c[x.u.toNat]!.toNat]!.v
def DY (c:List Int)(l:nR):Bool:=l.any (kR w c)
def nv {w:bP}(h:uD w c=true):c.length=w.us.length/\∀i,i<c.length->-1<=c[i]! /\c[i]! <(w.us[i]!.cands.length:Int):=by
 simp only[uD,aA,aT,bd,AS]at h;exact⟨h.1,λi hi=>h.2 i (Nat.zero_le _) hi⟩
def adI {w:bP}(h:¬(c.length:Int)=(w.us.length:Int)\/eG w=false):ey w c=false:=by
 unfold ey uD;rcases h with h|h
 .rw[bL ae];simp
 .rw[h];rfl
def Rm {w:bP}{i:Nat}(h:c[i]! < -1\/(w.us[i]!.cands.length:Int)<=c[i]!):AS w c i=false:=by
 unfold AS;rcases h with h|h
 .rw[bL ae];rfl
 .rw[bL (p:=c[i]! <_) ae];simp
def Lp {w:bP}{i:Nat}(h:¬c[i]! < -1/\¬(w.us[i]!.cands.length:Int)<=c[i]!):AS w c i=true:=by
 unfold AS;rw[br ae,br ae];rfl
def MetW (c:List Int)(x:Want):Prop:=(w.sm/\x.sm)/\(0<=x.u/\x.u<(w.us.length:Int))/\uD w c=true
def fN (c:List Int)(u:Nat)(l:List nR)(n:Nat):List wy:=(List.range n).flatMap λk=>if DY w c l[k]! =true then []else [⟨2,(u:Nat),(k:Nat)⟩]
def j5 (c:List Int)(u:Nat)(l:List Want)(n:Nat):List wy:=(List.range n).flatMap λk=>if kR w c l[k]! =true then [⟨3,(u:Nat),(k:Nat)⟩]else []
def aU (c:List Int)(u:Nat):eB:=w.us[u]!.cands[c[u]!.toNat]!
def A2 (c:List Int)(u:Nat):List wy:=fN w c u (aU w c u).needs (aU w c u).needs.length++j5 w c u (aU w c u).bars (aU w c u).bars.length
def gA (c:List Int)(n:Nat):List wy:=(List.range n).flatMap λu=>if c[u]! <0 then []else A2 w c u
def jh (c:List Int):List wy:=if ey w c=false then []else gA w c c.length
section
variable {w:bP}{u:Nat}{l:List nR}{b:List Want}
def O3 (h:DY w c l[n]! =true):fN w c u l (n+1)=fN w c u l n:=by simp only[fN,List.range_succ,List.flatMap_append,List.flatMap_cons,List.flatMap_nil,h];simp
def O2 (h:DY w c l[n]! =false):fN w c u l (n+1)=fN w c u l n++[⟨2,(u:Nat),(n:Nat)⟩]:=by simp only[fN,List.range_succ,List.flatMap_append,List.flatMap_cons,List.flatMap_nil,h];simp
def N9 (h:kR w c b[n]! =true):j5 w c u b (n+1)=j5 w c u b n++[⟨3,(u:Nat),(n:Nat)⟩]:=by simp only[j5,List.range_succ,List.flatMap_append,List.flatMap_cons,List.flatMap_nil,h];simp
def N8 (h:kR w c b[n]! =false):j5 w c u b (n+1)=j5 w c u b n:=by simp only[j5,List.range_succ,List.flatMap_append,List.flatMap_cons,List.flatMap_nil,h];simp
def pV:∀n,(fN w c u l n).length<=n
 |0=>aN _
 |n+1=>by
  have:=pV n;cases h:DY w c l[n]!
  .rw[O2 h];simp;omega
  .rw[O3 h];omega
def wI:∀n,(j5 w c u b n).length<=n
 |0=>aN _
 |n+1=>by
  have:=wI n;cases h:kR w c b[n]!
  .rw[N8 h];omega
  .rw[N9 h];simp;omega
def Qp (h:0<=c[n]!):gA w c (n+1)=gA w c n++A2 w c n:=by
 simp only[gA,List.range_succ,List.flatMap_append,List.flatMap_cons,List.flatMap_nil,ah (show ¬c[n]! <0 by omega),gB]
def Qo (h:c[n]! <0):gA w c (n+1)=gA w c n:=by simp only[gA,List.range_succ,List.flatMap_append,List.flatMap_cons,List.flatMap_nil,ak h,gB]
def aaz (h:0<=c[n]!):(gA w c n++fN w c n (aU w c n).needs (aU w c n).needs.length)++j5 w c n (aU w c n).bars (aU w c n).bars.length=gA w c (n+1):=by
 rw[Qp h,A2,fC]
end
def OneP (c:List Int)(u:Nat):Prop:=(w.sm/\eG w=true)/\uD w c=true/\u<c.length/\0<=c[u]!
def BC {w:bP}{u:Nat}(h:OneP w c u):(c[u]!.toNat<w.us[u]!.cands.length/\c[u]! =((c[u]!.toNat:Nat):Int))/\((aU w c u).needs.length<=24/\(aU w c u).bars.length<=24)/\(∀r∈(aU w c u).needs,∀x∈r,MetW w c x)/\∀x∈(aU w c u).bars,MetW w c x:=by
 obtain⟨⟨h1,h2⟩,h3,h4,h5⟩:=h;obtain⟨h6,h7⟩:=nv h3;have h8:=h7 u h4;have hu:u<w.us.length:=ae;have hk:c[u]!.toNat<w.us[u]!.cands.length:=ae;have hin:=Eh h2 hu hk;have hs:=(h1 _ (aq hu)).2 _ (aq hk);have hl:(aU w c u).needs.length<=24/\(aU w c u).bars.length<=24:=by
  simp only[eG,aA,bd,lF,mZ,mY,aT]at h2;have:=(h2.2 u (Nat.zero_le _) hu).2 _ (Nat.zero_le _) hk;exact⟨this.1.2.1.1.1,this.1.2.1.1.2⟩
 exact⟨⟨hk,ae⟩,hl,λr hr x hx=>⟨⟨h1,hs.2.1 r hr x hx⟩,hin.1 r hr x hx,h3⟩,λx hx=>⟨⟨h1,hs.2.2 x hx⟩,hin.2 x hx,h3⟩⟩
def Mb {w:bP}{u:Nat}(h:OneP w c u):(A2 w c u).length<=48:=by
 obtain⟨_,⟨h1,h2⟩,_⟩:=BC h;have h3:=pV (w:=w) (c:=c) (u:=u) (l:=(aU w c u).needs) (aU w c u).needs.length;have h4:=wI (w:=w) (c:=c) (u:=u) (b:=(aU w c u).bars) (aU w c u).bars.length;simp only[A2,cu];omega
def Ek {w:bP}{c:List Int}(hm:w.sm)(h:ey w c=true):∀n,n<=c.length->(gA w c n).length<=n*48
 |0,_=>Nat.zero_le _
 |n+1,hn=>by
  have h1:=Ek hm h n ae;simp only[ey,aA]at h;by_cases hc:c[n]! <0
  .rw[Qo hc];omega
  .have:=Mb (w:=w) (c:=c) (u:=n) ⟨⟨hm,h.1⟩,h.2,ae,ae⟩;rw[Qp ae,cu];omega
def Ns {w:bP}{l:nR}:DY w c l=oF (λi=>kR w c l[i]!) 0 l.length:=by
 rw[Bool.eq_iff_iff,DY,List.any_eq_true,wF];constructor
 .rintro⟨x,hx,h⟩;obtain⟨i,hi,rfl⟩:=List.mem_iff_getElem.1 hx;exact⟨i,Nat.zero_le _,hi,by simpa[hi]using h⟩
 .rintro⟨i,_,hi,h⟩;exact⟨_,aq hi,h⟩
def WrgP (c:List Int):Prop:=w.sm/\0<=c[0]!
def RM {w:bP}{u:Nat}(hw:WrgP w c)(h:ey w c=true)(hu:u<c.length)(h0:0<=c[u]!):OneP w c u:=by
 simp only[ey,aA]at h;exact⟨⟨hw.1,h.1⟩,h.2,hu,h0⟩
def OZ {w:bP}(h:ey w c=true):1<=c.length/\c.length<=48:=by
 simp only[ey,aA]at h;have h1:=nv h.2;simp only[eG,aA,aT]at h;omega
def BK {S:List Int}{i:Nat}(h:i<S.length)(v:Int):(S.map (D.int .i64)).set (0+i) (rO ((S.map (D.int .i64)).getD (0+i) .any) 1 1 0 (.int .i64 v))=(S.set i v).map (D.int .i64):=by
 rw[cr,getD_map (q:=D.int .i64) h,List.map_set];rfl
def BE {l:List iQ}{v:bV}:qo l nm v 0=-1\/∃j:Nat,qo l nm v 0=(j:Int)/\j<l.length:=by
 unfold qo;rw[cY];cases h:l.findIdx? (yz nm v)with
 |none=>exact .inl rfl
 |some k=>
  have:=(List.findIdx?_eq_some_iff_getElem.1 h).1;exact .inr ⟨k,aC,this⟩
def tf {s:bA}{v:bV}:fG s nm v=-1\/∃j:Nat,fG s nm v=(j:Int)/\j<s.es.length:=by
 unfold fG;split
 .exact .inl rfl
 .exact BE
def oH (s:bA)(nm:au)(v:bV):iQ×Bool:=if fG s nm v<0 then(default,false)else(s.es[(fG s nm v).toNat]!,true)
section
variable {shop:List bA}{c:eB}{x:ea}
theorem shl_a (h0:c.sh=-1)(h:¬x.shelf=[]):ll shop c x=12:=by grind [ll]
theorem shl_d (h0:¬c.sh=-1)(h:(c.sh<0\/(shop.length:Int)<=c.sh)\/¬shop[c.sh.toNat]!.name=x.shelf):ll shop c x=12:=by grind [ll]
theorem afT (h0:¬c.sh=-1)(h1:(¬c.sh<0/\¬(shop.length:Int)<=c.sh)/\shop[c.sh.toNat]!.name=x.shelf)(h:(oH shop[c.sh.toNat]! x.name x.v).2=false\/¬(oH shop[c.sh.toNat]! x.name x.v).1.sum=x.sum):ll shop c x=13:=by grind [ll,oH]
theorem shl_f (h0:¬c.sh=-1)(h1:(¬c.sh<0/\¬(shop.length:Int)<=c.sh)/\shop[c.sh.toNat]!.name=x.shelf)(h:(oH shop[c.sh.toNat]! x.name x.v).2=true/\(oH shop[c.sh.toNat]! x.name x.v).1.sum=x.sum):ll shop c x=0:=by grind [ll,oH]
end
def Eb {us:List cI}{a b:au}:fM us a b=-1\/∃j:Nat,fM us a b=(j:Int)/\1<=j/\j<us.length:=by
 unfold fM;rcases eX (f:=n6 a b) (l:=us.drop 1) (k:=1)with⟨h,_⟩|⟨j,h,h2,_⟩
 .exact .inl h
 .rw[jO]at h2;exact .inr ⟨1+j,h,ae,ae⟩
def Mn {us:List cI}{u:Int}{v:bV}:mC us u v t=-1\/∃j k:Nat,u=(j:Int)/\mC us u v t=(k:Int)/\k<us[j]!.cands.length:=by
 unfold mC;split
 .exact .inl rfl
 .rcases eX (f:=Vr v t) (l:=us[u.toNat]!.cands) (k:=0)with⟨h,_⟩|⟨j,h,h2,_⟩
  .exact .inl h
  .exact .inr ⟨u.toNat,j,ae,je,h2⟩
def Lu {us:List cI}{x:ea}:∀{l:List au}{c:List Int},(vG us x l c).2.length=c.length
 |[],c=>rfl
 |f::r,c=>by
  rw[vG];split
  .rfl
  .rw[Lu,List.length_set]
def xb {us:List cI}{x:ea}{l:List au}{i:Nat}(h:i<l.length):vG us x (l.drop i) c=if mC us (fM us x.name l[i]!) x.v false<0 then(11,c)else vG us x (l.drop (i+1)) (c.set (fM us x.name l[i]!).toNat (mC us (fM us x.name l[i]!) x.v false)):=by
 rw[eH h,vG,show l[i]! =l[i]by simp[h]]
def Ls {us:List cI}{x:ea}{l:List au}{i:Nat}(h:l.length<=i):vG us x (l.drop i) c=(0,c):=by
 rw[jN h,vG]
def Y9 {shop:List bA}{us:List cI}{x:ea}:(kT shop us x c).2.length=c.length:=by
 unfold kT;split
 .rfl
 .split
  .rfl
  .rw[Lu,List.length_set]
def RE {shop:List bA}{us:List cI}{l:List ea}{i:Nat}(h:i<l.length):mz shop us (l.drop i) c=if(kT shop us l[i]! c).1≠0 then([],(kT shop us l[i]! c).1,l[i]!.name)else mz shop us (l.drop (i+1)) (kT shop us l[i]! c).2:=by
 rw[eH h,mz,show l[i]! =l[i]by simp[h]]
def XR {shop:List bA}{us:List cI}{l:List ea}{i:Nat}(h:l.length<=i):mz shop us (l.drop i) c=(c,0,[]):=by
 rw[jN h,mz]
def LinP (w:bP)(x:ea)(c:List Int):Prop:=(iH shop/\w.sm/\x.v.sm)/\c.length=w.us.length
section
variable {Y:Ctx}{draw:Bool}{r:List GI}{env rs:List aY}{nx:Nat}{m:List (Nat×bj)}{K:List aY->St->Prop}{g:Option (Nat×Bool)}{f:Bool}
def Zi {x:Src}{ng:Bool}{d:D}(h:∀b,nlB d b->ay Y draw r env (⟨true,.bool (bif ng then !b else b)⟩::rs) nx m K)(hg:GF rs g true:=by first|exact rfl|exact⟨_,_,rfl,rfl⟩)(hx:bQ env rs x=⟨true,d⟩:=by exact rfl)(hs:slB d:=by exact trivial):ay Y draw (⟨.isNl x ng,g⟩::r) env rs nx m K:=by
 unfold ay;show yO rs.reverse g/\(flag rs.reverse g=true->(Src.ev env rs.reverse x).ok=true/\slB (Src.ev env rs.reverse x).d/\∀b,nlB (Src.ev env rs.reverse x).d b->_)/\(flag rs.reverse g=false->_);obtain⟨hg1,hg2⟩:=hg.flag;rw[oL,hx];refine⟨hg2,λ_=>⟨rfl,hs,λb hb=>?_⟩,λhh=>by rw[hg1]at hh;cases hh⟩;have:=h b hb;unfold ay at this;simpa using this
end
section
variable {Y:Ctx}{draw:Bool}{r:List GI}{env rs:List aY}{nx:Nat}{m:List (Nat×bj)}{K:List aY->St->Prop}{g:Option (Nat×Bool)}{f:Bool}
def r_mkM {L:Nat}(h:ay Y draw r env (⟨f,.fn 5000000 [.it L]⟩::rs) nx m2 K)(hg:GF rs g f:=by first|exact rfl|exact⟨_,_,rfl,rfl⟩)(hL:nx+rs.length=L:=by simp only[bD,ca,Nat.reduceAdd];exact rfl)(hm:cT m L (.mpb [])=m2:=by simp only[cT,c7,Nat.reduceEqDiff,bh,aX,Nat.reduceAdd,reduceCtorEq];exact rfl):ay Y draw (⟨.mkM,g⟩::r) env rs nx m K:=
 fX rfl hg _ (λ_=>trivial) (λhf=>by simp only[ax.val,hL]) _ (by simp only[ax.bN,hL];exact hm) (λ_=>h)
def r_upM {x y z:Src}{l:Nat}{k:D}{q:IntKind}{kvs:List D}(kvs2:List D)(h:ay Y draw r env (⟨true,.any⟩::rs) nx m2 K)(hx:bQ env rs x=⟨true,.fn 5000000 [.it l]⟩:=by exact rfl)(hy:bQ env rs y=⟨true,k⟩:=by exact rfl)(hz:bQ env rs z=⟨true,.int q a⟩:=by exact rfl)(hl:look m l=some (.mpb kvs):=by exact rfl)(hk:vJ k=true:=by exact rfl)(hb:xr kvs=true)(he:z8 k (.int q a) kvs=kvs2)(hm:cT m l (.mpb kvs2)=m2:=by simp only[cT,c7,Nat.reduceEqDiff,bh,aX,Nat.reduceAdd,reduceCtorEq];exact rfl):ay Y draw (⟨.upM x y z,none⟩::r) env rs nx m K:=
 pg rfl _ (by simp only[ax.eE,hx,hy,hz,mpO,hl];exact⟨trivial,trivial,trivial,⟨trivial,hb⟩,hk,q,a,rfl⟩) (by simp only[ax.val]) _ (by simp only[ax.bN,hx,hy,hz,Ue,hl,he];exact hm) (λ_=>h)
def afN {x y:Src}{z:D}{fx fy:Bool}{l:Nat}{k:D}{kvs:List D}(v:D)(h:ay Y draw r env (⟨f,v⟩::rs) nx m K)(hg:GF rs g f:=by first|exact rfl|exact⟨_,_,rfl,rfl⟩)(hx:bQ env rs x=⟨fx,.fn 5000000 [.it l]⟩:=by exact rfl)(hy:bQ env rs y=⟨fy,k⟩:=by exact rfl)(kx:f=true->fx=true:=by first|exact λ_=>rfl|exact λh=>h|(intro h;simp_all))(ky:f=true->fy=true:=by first|exact λ_=>rfl|exact λh=>h|(intro h;simp_all))(hl:look m l=some (.mpb kvs):=by exact rfl)(hk:vJ k=true:=by exact rfl)(hb:xr kvs=true)(hv:(match NW k kvs with|some v=>D.tup [v,.bool true]|none=>D.tup [z,.bool false])=v):ay Y draw (⟨.lkM z x y,g⟩::r) env rs nx m K:=
 fX rfl hg _ (λhf=>by simp only[ax.eE,hx,hy,mpO,hl];exact⟨kx hf,ky hf,⟨trivial,hb⟩,hk⟩) (λhf=>by simp only[ax.val,hx,hy,Ue,hl];exact hv) m (by simp only[ax.bN]) (λ_=>h)
end
def bo.mp {lo c:Nat}{m r:List (Nat×bj)}{l':Nat}{s s':List D}(l:Nat)(hl:mT lo σ l=some l')(hm:look m l=some (.mpb s))(hs:s'=s)(h:bo lo c σ m r):bo lo c σ m ((l',.mpb s')::r):=
 ⟨.inl ⟨l,_,hl,hm,hs⟩,h⟩
section
variable {shop:List bA}{us:List cI}{x:ea}
def Sf (h:mC us (fM us x.name []) x.v true<0):kT shop us x c=(9,c):=by rw[kT,ak h]
def FZ (hj:fM us x.name []=(j:Nat))(hk:mC us (fM us x.name []) x.v true=(k:Nat))(h:¬ll shop us[j]!.cands[k]! x=0):kT shop us x c=(ll shop us[j]!.cands[k]! x,c):=by
 rw[kT,ah ae,hk,hj,Int.toNat_natCast,Int.toNat_natCast,ak h]
def put_c (hj:fM us x.name []=(j:Nat))(hk:mC us (fM us x.name []) x.v true=(k:Nat))(h:ll shop us[j]!.cands[k]! x=0):kT shop us x c=vG us x x.feats (c.set j k):=by
 rw[kT,ah ae,hk,hj,Int.toNat_natCast,Int.toNat_natCast,ah je]
end
def Ha (us:List cI)(x:ea)(c:List Int):Nat->List Int
 |0=>c
 |i+1=>(Ha us x c i).set (fM us x.name x.feats[i]!).toNat (mC us (fM us x.name x.feats[i]!) x.v false)
def Lr {us:List cI}{x:ea}{c:List Int}:∀i,(Ha us x c i).length=c.length
 |0=>rfl
 |i+1=>by rw[Ha,List.length_set,Lr]
def wm (a b:au):D:=.agg [.str a,.str b]
def ym (a b:au):Int×Bool:=(if fM us a b<0 then 0 else fM us a b,decide (0<=fM us a b))
def VX (kvs:List D):Prop:=xr kvs=true/\∀a b,(match NW (wm a b) kvs with|some v=>D.tup [v,.bool true]|none=>D.tup [.int .i64 0,.bool false])=.tup [.int .i64 (ym us a b).1,.bool (ym us a b).2]
def IB {us:List cI}{a b:au}(h:(ym us a b).2=false):fM us a b<0:=by simpa[ym]using h
def aar {us:List cI}{a b:au}(h:(ym us a b).2=true):∃j:Nat,fM us a b=(j:Int)/\(ym us a b).1=(j:Int)/\1<=j/\j<us.length:=by
 have h0:0<=fM us a b:=by simpa[ym]using h
 rcases Eb (us:=us) (a:=a) (b:=b)with h1|⟨j,h1,h2,h3⟩
 .omega
 .exact⟨j,h1,by simp only[ym];rw[ah ae,h1],h2,h3⟩
def YS {us:List cI}{u:Int}{v:bV}(h:u=(j:Nat)):mC us u v t=fR (Vr v t) us[j]!.cands 0:=by
 rw[mC,ah ae,h,Int.toNat_natCast]
def afL {us:List cI}{u:Int}{v:bV}(h:u=(j:Nat))(h2:¬mC us u v t<0):∃k:Nat,mC us u v t=(k:Int)/\k<us[j]!.cands.length:=by
 rcases Mn (us:=us) (u:=u) (v:=v) (t:=t)with h3|⟨i,k,h3,h4,h5⟩
 .omega
 .have:i=j:=ae;exact⟨k,h4,this▸h5⟩
def HO {us:List cI}{u:Int}{v:bV}(h:u<0):mC us u v t<0:=by rw[mC,ak h];decide
def Qd (c:eB)(x:ea):Int:=if c.sh=-1 then 0 else shop[c.sh.toNat]!.es[(fG shop[c.sh.toNat]! x.name x.v).toNat]!.sum
def V4 (c:eB)(x:ea):Prop:=ll shop c x=if Qd shop c x=x.sum then 0 else 13
section
variable {shop:List bA}{c:eB}{x:ea}
def sum_a (h:c.sh=-1/\x.shelf=[]):V4 shop c x/\Qd shop c x=0:=by
 obtain⟨h1,h2⟩:=h;unfold V4 ll Qd;rw[ak h1,ah (by simpa using h2),ak h1];refine⟨?_,rfl⟩;by_cases h3:x.sum=0
 .rw[ah (by simpa using h3),ak h3.symm]
 .rw[ak h3,ah (λh=>h3 h.symm)]
def Qe (h:¬c.sh=-1\/¬x.shelf=[])(h2:(c.sh<0\/(shop.length:Int)<=c.sh)\/¬shop[c.sh.toNat]!.name=x.shelf):ll shop c x=12:=by
 by_cases h0:c.sh=-1
 .exact shl_a h0 (h.resolve_left (by simpa using h0))
 .exact shl_d h0 h2
def Qf (h2:(¬c.sh<0/\¬(shop.length:Int)<=c.sh)/\shop[c.sh.toNat]!.name=x.shelf)(h3:fG shop[c.sh.toNat]! x.name x.v<0):ll shop c x=13:=
 afT ae h2 (.inl (by rw[oH,ak h3]))
def sum_c (h2:(¬c.sh<0/\¬(shop.length:Int)<=c.sh)/\shop[c.sh.toNat]!.name=x.shelf)(h3:¬fG shop[c.sh.toNat]! x.name x.v<0):V4 shop c x/\Qd shop c x=shop[c.sh.toNat]!.es[(fG shop[c.sh.toNat]! x.name x.v).toNat]!.sum:=by
 have h4:Qd shop c x=shop[c.sh.toNat]!.es[(fG shop[c.sh.toNat]! x.name x.v).toNat]!.sum:=by rw[Qd,ah ae]
 have h5:oH shop[c.sh.toNat]! x.name x.v=(shop[c.sh.toNat]!.es[(fG shop[c.sh.toNat]! x.name x.v).toNat]!,true):=by rw[oH,ah h3]
 refine⟨?_,h4⟩;unfold V4;rw[h4];split
 .rename_i h6;exact shl_f ae h2 (by rw[h5];exact⟨rfl,h6⟩)
 .rename_i h6;exact afT ae h2 (by rw[h5];exact .inr h6)
end
def Xi (l k:Nat)(es:List Abs.D)(c:List Int):mN l k es (c.map (D.int .i64))=c.map (D.int .i64):=jM l k es _ (bX (λ_=>rfl) _)
def ea.fz (l k:Nat)(es:List Abs.D)(c:ea):iY l k es c.D=c.D:=ic l k es _ (by simp only[ea.D,D.aR,aK,gC])
def XC (a b:de):de.D a=de.D b↔a=b:=by cases a;cases b;simp[de.D,Xz]
def OD (a b:List de):a.map de.D=b.map de.D↔a=b:=kQ XC a b
def Xv (a b:bn):bn.D a=bn.D b↔a=b:=by cases a;cases b;simp[bn.D,OD]
def CF (a b:List bn):a.map bn.D=b.map bn.D↔a=b:=kQ Xv a b
def iBar (a b:lu):lu.D a=lu.D b↔a=b:=by cases a;cases b;simp[lu.D]
def LB (a b:List lu):a.map lu.D=b.map lu.D↔a=b:=kQ iBar a b
def Xr (a b:b6):b6.D a=b6.D b↔a=b:=by cases a;cases b;simp[b6.D,Xz]
def CE (a b:List b6):a.map b6.D=b.map b6.D↔a=b:=kQ Xr a b
def iRec (a b:Rec):Rec.D a=Rec.D b↔a=b:=by
 obtain⟨n,⟨v1,v2,v3,v4,v5⟩,x,y,z⟩:=a;obtain⟨n',⟨w1,w2,w3,w4,w5⟩,x',y',z'⟩:=b;simp[Rec.D,CF,LB,CE,and_assoc]
def iEtr (a b:iQ):iQ.D a=iQ.D b↔a=b:=by
 obtain⟨⟨n,⟨v1,v2,v3,v4,v5⟩,x,y,z⟩,s,o⟩:=a;obtain⟨⟨n',⟨w1,w2,w3,w4,w5⟩,x',y',z'⟩,s',o'⟩:=b;simp[iQ.D,CF,LB,CE,and_assoc]
def Xq (a b:List iQ):a.map iQ.D=b.map iQ.D↔a=b:=kQ iEtr a b
def iShf (a b:bA):bA.D a=bA.D b↔a=b:=by cases a;cases b;simp[bA.D,Xq]
def Xx (a b:List bA):a.map bA.D=b.map bA.D↔a=b:=kQ iShf a b
def iEnv (a b:Env):Env.D a=Env.D b↔a=b:=by cases a;cases b;simp[Env.D]
def iLkd (a b:ea):ea.D a=ea.D b↔a=b:=by
 obtain⟨n,⟨v1,v2,v3,v4,v5⟩,x,y,z⟩:=a;obtain⟨n',⟨w1,w2,w3,w4,w5⟩,x',y',z'⟩:=b;simp[ea.D,Xz,and_assoc]
def Xu (a b:List ea):a.map ea.D=b.map ea.D↔a=b:=kQ iLkd a b
def iLck (a b:lI):lI.D a=lI.D b↔a=b:=by
 obtain⟨⟨a1,a2,a3⟩,l⟩:=a;obtain⟨⟨b1,b2,b3⟩,k⟩:=b;simp[lI.D,Xu,and_assoc]
def afA (a b:Bool):((bif a then 690 else 691)=(bif b then 690 else 691:Nat))↔a=b:=by cases a<;>cases b<;>simp
def B8 {A:FT->Prop}(h:A (λd ds v s=>A λd' ds' v' s'=>d'=d->ds'=ds->v=v'/\s=s'):=by
 (repeat' first|apply And.intro|intro _)
 all_goals rename_i e' e
 all_goals (try simp only[sV,D.str.injEq,D.int.injEq,D.bool.injEq,D.sl.injEq,D.ref.injEq,D.agg.injEq,D.fn.injEq,Xz,TX,iByt,iVer,XC,OD,Xv,CF,iBar,LB,Xr,CE,iRec,Xq,iEtr,iShf,Xx,iEnv,iLkd,Xu,iLck,iCut,afw,Xy,CG,iSet,XB,He,XD,OE,iCnd,Xp,iUnt,XA,iWld,iKey,iGs,afA,iU8,pw,iNat,dw,ed]at e e')
 all_goals first|rfl|(simp only[e,e'];done)|simp_all):yB (n8 A):=acC h
structure Ask where
 allow:List Int
 order:List (List Int)
 deriving Inhabited
def jS (l:List Int):D:=.sl 1 (l.map (D.int .i64))
def Ask.D (a:Ask):D:=.agg [.sl 1 (a.allow.map (D.int .i64)),.sl 1 (a.order.map jS)]
def O9:Option (List Int)->D
 |none=>.aL
 |some c=>.sl 1 (c.map (D.int .i64))
def wA (m:kg):Prop:=(0<m.needs.length/\m.needs.length<=48/\m.bars.length=m.needs.length/\m.full.length=m.needs.length)/\∀u,u<m.needs.length->(m.bars[u]!.length=m.needs[u]!.length/\m.needs[u]!.length<=16)/\
 (∀c∈m.needs[u]!,∀r∈c,r.length<=1000/\∀x∈r,0<=x.u/\x.u<m.needs.length)/\∀r∈m.bars[u]!,∀x∈r,0<=x.u/\x.u<m.needs.length
def KG (m:kg)(c:List Int):Prop:=c.length=m.needs.length/\∀u,u<m.needs.length->-1<=c[u]! /\c[u]! <m.needs[u]!.length
def Lm {m:kg}(hm:wA m)(hc:KG m c):FineP m c:=by
 obtain⟨h1,h2⟩:=hm;have hcl:=hc.1;refine⟨ae,λu hu h0=>?_⟩;have hun:u<m.needs.length:=ae;have hcu:=hc.2 u hun;obtain⟨h3,h4,h5⟩:=h2 u hun;have hk:c[u]!.toNat<m.needs[u]!.length:=ae;have hM:∀x:dY,0<=x.u/\x.u<m.needs.length->KR c x:=λx hx=>by
  have a:=hc.2 x.u.toNat ae;have b:=(h2 x.u.toNat ae).1;exact⟨ae,ae⟩
 exact⟨⟨hk,ae⟩,λr hr x hx=>hM x ((h4 _ (aq hk) r hr).2 x hx),λx hx=>hM x (h5 _ (aq ae) x hx)⟩
def vx (m:kg)(c:List Int)(u:Nat):Bool:=decide (c[u]! <0) ||!ko c m.bars[u]![c[u]!.toNat]!
def yG (m:kg)(c:List Int):Bool:=bW (vx m c) 0 c.length
def Ir (m:kg)(c:List Int)(u:Nat):Nat:=mM (λk=>ko c m.needs[u]![c[u]!.toNat]![k]!) m.needs[u]![c[u]!.toNat]!.length 0
def xE (m:kg)(c:List Int)(u:Nat):Bool:=decide (c[u]! <0) ||decide (Ir m c u=m.needs[u]![c[u]!.toNat]!.length)
def m9 (m:kg)(c:List Int):Nat:=mM (xE m c) c.length 0
def ef (m:kg)(c:List Int):Int×Int:=if c[0]! <0 then(0,-1)else if m9 m c<c.length then(((m9 m c:Nat):Int),((Ir m c (m9 m c):Nat):Int))else(-1,-1)
def QX {f:Nat->Bool}:∀k i,i<=mM f k i/\mM f k i<=i+k
 |0,i=>by simp[mM]
 |k+1,i=>by
  have:=QX (f:=f) k (i+1);rw[mM];split<;>omega
def K2 {f:Nat->Bool}:∀k i,mM f k i<i+k->f (mM f k i)=false
 |0,i,h=>by simp[mM]at h
 |k+1,i,h=>by
  rw[mM]at h⊢;split
  .rename_i e;rw[ak e]at h;exact K2 k (i+1) ae
  .rename_i e;simpa using e
def ac0 {m:kg}(h1:yG m c=true)(h2:(ef m c).1<0):Ch m c=true:=by
 unfold ef at h2;split at h2
 .exact absurd h2 aV
 .rename_i h0;split at h2
  .exact absurd h2 mK
  .rename_i hi;unfold Ch;rw[br (show 0<=c[0]! by omega),eI,bd];intro u _ hu;unfold yG at h1;rw[bd]at h1;have e1:=h1 u (Nat.zero_le _) hu;have e2:=B1 c.length 0 (by rw[cr];exact hi) u (Nat.zero_le _) ae;unfold vx at e1;unfold xE at e2;unfold Xa;by_cases hc:c[u]! <0
   .rw[br hc];rfl
   .rw[bL hc,Bool.false_or]at e1 e2⊢;rw[e1,gC,bd];intro k _ hk;rw[aT]at e2;have e3:=B1 (f:=λk=>ko c m.needs[u]![c[u]!.toNat]![k]!) m.needs[u]![c[u]!.toNat]!.length 0 (by unfold Ir at e2;omega) k (Nat.zero_le _) ae;exact e3
def offB (l:List dY)(o:dY):Bool:=oF (λi=>decide (l[i]! =o)) 0 l.length
def Pc (mask u p:Int)(out:List dY):List dY:=if(decide (G1 mask (2^(p.toNat+1))≠0)&& !offB out ⟨u,p⟩)=true then out++[⟨u,p⟩]else out
def j7 (mask u:Int)(ts:List Int):Nat->List dY->List dY
 |0,out=>out
 |i+1,out=>Pc mask u ts[i]! (j7 mask u ts i out)
def bB (m:kg)(c:List Int):List dY:=if 0<=(ef m c).2 then m.needs[(ef m c).1.toNat]![c[(ef m c).1.toNat]!.toNat]![(ef m c).2.toNat]! else [⟨(ef m c).1,m.full[(ef m c).1.toNat]!⟩]
def C7 (mask u:Int)(ts:List Int):∀i out,(j7 mask u ts i out).length<=out.length+i
 |0,out=>aN _
 |i+1,out=>by
  have:=C7 mask u ts i out;rw[j7];unfold Pc;split
  .rw[cu,List.length_singleton];omega
  .omega
def VZ (m:kg)(c:List Int)(o:dY):Prop:=(0<=o.u/\o.u<m.needs.length)/\c[o.u.toNat]! <0/\0<=o.m/\o.m<m.needs[o.u.toNat]!.length
def R7 {m:kg}(hc:KG m c)(h0:0<m.needs.length)(h:¬(ef m c).1<0):(0<=(ef m c).1/\(ef m c).1<c.length)/\(0<=(ef m c).2->0<=c[(ef m c).1.toNat]! /\(ef m c).2<m.needs[(ef m c).1.toNat]![c[(ef m c).1.toNat]!.toNat]!.length):=by
 have hl:=hc.1;unfold ef at*
 split
 .exact⟨⟨aV,mK⟩,λh=>absurd h aV⟩
 .rename_i h1;rw[ah h1]at h;split
  .rename_i h2;have h3:=K2 (f:=xE m c) c.length 0 (by rw[cr];exact h2);have h4:=(QX (f:=λk=>ko c m.needs[m9 m c]![c[m9 m c]!.toNat]![k]!) m.needs[m9 m c]![c[m9 m c]!.toNat]!.length 0).2;rw[show mM (xE m c) c.length 0=m9 m c from rfl]at h3;rw[cr,show mM (λk=>ko c m.needs[m9 m c]![c[m9 m c]!.toNat]![k]!) m.needs[m9 m c]![c[m9 m c]!.toNat]!.length 0=Ir m c (m9 m c)from rfl]at h4;unfold xE at h3;rw[ec,ct,ct]at h3;dsimp only;rw[Int.toNat_natCast];exact⟨⟨ae,ae⟩,λ_=>⟨ae,ae⟩⟩
  .rename_i h2;rw[ah h2]at h;exact absurd (by decide:((-1:Int),(-1:Int)).1<0) h
def NL {m:kg}(hm:wA m)(hc:KG m c)(h:¬(ef m c).1<0):(∀x∈bB m c,0<=x.u/\x.u<m.needs.length)/\(bB m c).length<=1000:=by
 obtain⟨⟨h0,_⟩,hM⟩:=hm;obtain⟨h1,h2⟩:=R7 hc h0 h;have hl:=hc.1;unfold bB;split
 .rename_i h3;obtain⟨h4,h5⟩:=h2 h3;have hu:=hc.2 (ef m c).1.toNat ae;have h6:=(hM (ef m c).1.toNat ae).2.1 _ (aq (show c[(ef m c).1.toNat]!.toNat<m.needs[(ef m c).1.toNat]!.length by omega)) _ (aq (show(ef m c).2.toNat<m.needs[(ef m c).1.toNat]![c[(ef m c).1.toNat]!.toNat]!.length by omega));exact⟨h6.2,h6.1⟩
 .refine⟨λx hx=>?_,aC⟩;obtain rfl:=aD.1 hx;exact⟨mK,mK⟩
def iT (f:dY->Option (List Int)):List dY->Option (List Int)
 |[]=>none
 |o::r=>match f o with
  |some c=>some c
  |none=>iT f r
def E2 (c:List Int):Nat:=c.countP λx=>decide (x<0)
def xN (c:List Int)(o:dY):List Int:=c.set o.u.toNat o.m
def L5:∀{c:List Int}{i:Nat}{v:Int},i<c.length->c[i]! <0->0<=v->E2 (c.set i v)+1=E2 c
 |[],i,v,h,_,_=>by simp at h
 |x::r,0,v,_,h1,h2=>by
  have h1:x<0:=h1;simp[E2,List.countP_cons,h1,show ¬v<0 by omega]
 |x::r,i+1,v,h,h1,h2=>by
  have:=L5 (c:=r) (i:=i) (v:=v) rj (by simpa using h1) h2;simp only[E2,List.set_cons_succ,List.countP_cons]at this⊢;omega
def HR {m:kg}{o:dY}(hc:KG m c)(ho:VZ m c o):KG m (xN c o)/\E2 (xN c o)+1=E2 c:=by
 obtain⟨h1,h2,h3,h4⟩:=ho;have hl:=hc.1;refine⟨⟨by unfold xN;rw[List.length_set];exact hl,λu hu=>?_⟩,L5 ae h2 h3⟩;unfold xN;by_cases e:o.u.toNat=u
 .subst e;rw[List.getElem!_eq_getElem?_getD,List.getElem?_set_self ae];exact⟨by dsimp only[Option.getD_some];omega,h4⟩
 .rw[List.getElem!_eq_getElem?_getD,List.getElem?_set_ne e,<-List.getElem!_eq_getElem?_getD];exact hc.2 u hu
def wZ {f g:dY->Option (List Int)}:∀{l:List dY},(∀o∈l,f o=g o)->iT f l=iT g l
 |[],_=>rfl
 |o::r,h=>by
  rw[iT,iT,h o (.head _),wZ (l:=r) λo ho=>h o (.tail _ ho)]
def zR {f:dY->Option (List Int)}{d:List Int}:∀{l:List dY},iT f l=some d->∃o∈l,f o=some d
 |[],h=>by cases h
 |o::r,h=>by
  rw[iT]at h;split at h
  .rename_i c e;obtain rfl:=aW h;exact⟨o,.head _,e⟩
  .obtain⟨o',h1,h2⟩:=zR h;exact⟨o',.tail _ h1,h2⟩
def oq (n:Nat):List Int:=List.replicate n (-1)
def maskP {w:bP}(hw:eG w=true)(hs:∀x∈w.us,x.cands.length<=16)(hf:Few w.us):wA (dy w.us):=by
 have hpos:0<w.us.length/\w.us.length<=48:=by
  unfold eG at hw;simp only[aA,aT]at hw;omega
 have hn:(dy w.us).needs.length=w.us.length:=by simp[dy,eD]
 have hb:(dy w.us).bars.length=w.us.length:=by simp[dy,jE]
 have hfu:(dy w.us).full.length=w.us.length:=by simp[dy,iU]
 refine⟨⟨ae,ae,ae,ae⟩,λu hu=>?_⟩;rw[hn]at hu⊢;have e1:(dy w.us).needs[u]! =eQ w.us w.us[u]!.cands:=by unfold dy eD;dsimp only;rw[List.take_length,fI hu]
 have e2:(dy w.us).bars[u]! =jF w.us w.us[u]!.cands:=by unfold dy jE;dsimp only;rw[List.take_length,fI hu]
 have h16:=hs _ (aq hu);rw[e1,e2];refine⟨⟨by simp[eQ,jF],by simpa[eQ]using h16⟩,λc hc r hr=>?_,λr hr x hx=>?_⟩
 .unfold eQ at hc;obtain⟨cd,h1,rfl⟩:=bY.1 hc;obtain⟨k,hk,rfl⟩:=List.mem_iff_getElem.1 h1;unfold kX at hr;obtain⟨r0,h2,rfl⟩:=bY.1 hr;have hfw:=(hf _ (aq hu) _ h1).2.2 r0 h2;refine⟨by simpa[eF]using hfw,λx hx=>?_⟩;unfold eF at hx;obtain⟨y,h3,rfl⟩:=bY.1 hx;exact(Eh hw hu (k:=k) hk).1 r0 (by rw[getElem!_pos w.us[u]!.cands k hk];exact h2) y h3
 .unfold jF at hr;obtain⟨cd,h1,rfl⟩:=bY.1 hr;obtain⟨k,hk,rfl⟩:=List.mem_iff_getElem.1 h1;unfold eF at hx;obtain⟨y,h3,rfl⟩:=bY.1 hx;exact(Eh hw hu (k:=k) hk).2 y (by rw[getElem!_pos w.us[u]!.cands k hk];exact h3)
def sx:KG (dy us) (oq us.length):=by
 refine⟨by simp[oq,dy,eD],λu hu=>?_⟩;have hul:u<us.length:=by simpa[dy,eD]using hu
 rw[show(oq us.length)[u]! =-1 by unfold oq;simp[hul]];exact⟨aV,ae⟩
def Rc {us:List cI}(h:KG (dy us) c):ChP us c:=by
 have hn:(dy us).needs.length=us.length:=by simp[dy,eD]
 refine⟨by rw[h.1,hn],λu hu=>?_⟩;have h1:=h.2 u ae;have e1:(dy us).needs[u]!.length=us[u]!.cands.length:=by unfold dy eD;dsimp only;rw[List.take_length,fI hu];simp[eQ]
 rw[e1]at h1;exact h1
def R3:∀o:Option (List Int),slB (O9 o)
 |none=>trivial
 |some _=>trivial
def Ox {f:dY->Option (List Int)}{l:List dY}{i:Nat}{d:List Int}(hi:i<l.length)(h:f l[i]! =some d):iT f (l.drop i)=some d:=by
 rw[eH hi,iT,<-getElem!_pos l i hi,h]
def Ln {f:dY->Option (List Int)}{l:List dY}{i:Nat}(hi:i<l.length)(h:f l[i]! =none):iT f (l.drop i)=iT f (l.drop (i+1)):=by
 rw[eH hi,iT,<-getElem!_pos l i hi,h]
def Ov {f:dY->Option (List Int)}{l:List dY}{i:Nat}(hi:l.length<=i):iT f (l.drop i)=none:=by
 rw[jN hi,iT]
def Uh (i:Nat):oq i++[-1]=oq (i+1):=by unfold oq;rw[List.replicate_succ']
def Ui (i:Nat):(oq i).length=i:=by unfold oq;exact List.length_replicate
def negD (ds:List D):Nat:=match ds.getD 2 .any with
 | .sl _ es=>es.countP λd=>match d with
  | .int _ x=>decide (x<0)
  |_=>false
 |_=>0
def RX {a b:D}:negD [a,b,.sl 1 (c.map (D.int .i64))]=E2 c:=by
 show(c.map (D.int .i64)).countP _=_;rw[List.countP_map];rfl
def iTr (a b:List dY):Iw a=Iw b↔a=b:=by simp[Iw,afB]
def iTrL (a b:List (List dY)):a.map Iw=b.map Iw↔a=b:=kQ iTr a b
def iTrs (a b:List (List dY)):oI a=oI b↔a=b:=by simp[oI,iTrL]
def afC (a b:List (List (List dY))):a.map oI=b.map oI↔a=b:=kQ iTrs a b
def iTrss (a b:List (List (List dY))):qc a=qc b↔a=b:=by simp[qc,afC]
def ajb (a b:List (List (List (List dY)))):a.map qc=b.map qc↔a=b:=kQ iTrss a b
def iMsk (a b:kg):kg.D a=kg.D b↔a=b:=by
 obtain⟨x,y,z⟩:=a;obtain⟨x',y',z'⟩:=b;simp[kg.D,TX,ajb,afC]
def Xt (a b:List (List Int)):a.map jS=b.map jS↔a=b:=kQ (λx y=>by simp[jS,TX]) a b
def iAsk (a b:Ask):Ask.D a=Ask.D b↔a=b:=by
 obtain⟨x,y⟩:=a;obtain⟨x',y'⟩:=b;simp[Ask.D,TX,Xt]
def EX (l:List au)(s:au):Int:=if fR (λt=>decide (t=s)) l 0<0 then 0 else fR (λt=>decide (t=s)) l 0
def cS (own:au):au×Gs:=if cF[(g.val 4).toNat]! =own then(cF[((g.aS.val 3+1+EX cF own)%4).toNat]!,g.aS.aS)else(cF[(g.val 4).toNat]!,g.aS)
def dE (own:au):de×Gs:=(⟨(cS g own).1,kd[((cS g own).2.val 8).toNat]!,[],decide (0<(cS g own).2.aS.val 3)⟩,(cS g own).2.aS.aS)
def gY (own:au):List de×Gs:=
 if(dE g own).2.val 6=0 then([(dE g own).1,(dE (dE g own).2.aS own).1],(dE (dE g own).2.aS own).2)
 else if(dE g own).2.val 6=1 then([{(dE g own).1 with feats:=[fW]}],(dE g own).2.aS)else([(dE g own).1],(dE g own).2.aS)
def osY:au:=[111,115,32,61,32,108,105,110,117,120]
def osN:au:=[111,115,32,33,61,32,108,105,110,117,120]
def jI:au×Gs:=(if g.val 8=0 then osY else if g.val 8=1 then osN else [],g.aS)
def HJ:au×Gs:=(if g.val 5=0 then [111]else [],g.aS)
def mB (own:au):bn×Gs:=(⟨(gY g own).1,(jI (gY g own).2).1,(HJ (jI (gY g own).2).2).1⟩,(HJ (jI (gY g own).2).2).2)
def Up (l:List bn):Bool:=l.any λn=>decide (n.option=[111])
def iw:List bn->Gs->Option au×Gs
 |[],g=>(none,g)
 |n::r,g=>if n.any.length=1 then(if g.val 3=0 then(some n.any[0]!.name,g.aS)else iw r g.aS)else iw r g
def ofG (l:List bn)(g:Gs):List au×Gs:=((if Up l=true then [[63,111]]else [])++(match(iw l g).1 with|some s=>[s++[47,102]]|none=>[]),(iw l g).2)
def m6 (l:List bn):b6×Gs:=(⟨[102],(ofG l g).1⟩,(ofG l g).2)
def nS (own:au)(g:Gs):Nat->List bn×Gs
 |0=>([],g)
 |i+1=>((nS own g i).1++[(mB (nS own g i).2 own).1],(mB (nS own g i).2 own).2)
def eJ (own:au):List lu×Gs:=if g.val 5=0 then([⟨(cS g.aS own).1,kd[((cS g.aS own).2.val 8).toNat]!,[]⟩],(cS g.aS own).2.aS)else([],g.aS)
def lC (l:List bn):List b6×Gs:=if g.val 2=0 then([(m6 g.aS l).1],(m6 g.aS l).2)else([],g.aS)
def ph (nm:au)(v:bV)(most:Int):Rec×Gs:=
 let a:=nS nm g.aS (g.val (most+1)).toNat
 let b:=eJ a.2 nm
 let c:=lC b.2 a.1
 (⟨nm,v,a.1,b.1,c.1⟩,c.2)
def kU (s:bA)(r:Rec):bA×Int:=
 if fO s=false then(default,1)else if(ez r).2≠0 then(default,(ez r).2)else if 0<=qo s.es r.name r.v 0 then(default,8)else if 64<=s.es.length then(default,10)else(⟨s.name,s.es++[⟨r,qY r,false⟩]⟩,0)
def oB (s:bA)(nm:au)(v:bV)(on:Bool):bA×Int:=
 if fO s=false then(default,1)else if qo s.es nm v 0<0 then(default,9)else(⟨s.name,s.es.set (qo s.es nm v 0).toNat {s.es[(qo s.es nm v 0).toNat]! with off:=on}⟩,0)
def qV (l:List bA)(k:Nat)(p:bA×Int):List bA:=if p.2=0 then l.set k p.1 else l
def lS (l:List bA):List bA×Gs:=
 let k:=(g.val l.length).toNat
 let nm:=cF[(g.aS.val 4).toNat]!
 let v:=bF[(g.aS.aS.val 4).toNat]!
 let h:=g.aS.aS.aS
 if h.val 6=0 then(qV l k (oB l[k]! nm v (decide (0<h.aS.val 3))),h.aS.aS)else(qV l k (kU l[k]! (ph h.aS nm v 2).1),(ph h.aS nm v 2).2)
def Nl:List bA:=[⟨X3,[]⟩,⟨DU,[]⟩]
def pS (g:Gs):Nat->List bA×Gs
 |0=>(Nl,g)
 |i+1=>lS (pS g i).2 (pS g i).1
def b8 (most:Int):List bA:=(pS (⟨ks,0⟩:Gs).aS ((⟨ks,0⟩:Gs).val (most+1)).toNat).1
def XE (l:List au)(s:au):0<=EX l s/\EX l s<=l.length:=by
 unfold EX;rcases eX (f:=λt=>decide (t=s)) (l:=l) (k:=0)with⟨h,_⟩|⟨j,h,h2,_⟩
 .rw[h];simp
 .rw[h,ah ae];omega
def oX (n:Int)(g g':Gs):Prop:=g.i<=g'.i/\g'.i<=g.i+n
def oX.tr {n k:Int}{a b c:Gs}(h:oX n a b)(h2:oX k b c):oX (n+k) a c:=by unfold oX at*;omega
def xJ (own:au):oX 2 g (cS g own).2:=by unfold cS oX;split<;>simp only[Gs.aS]<;>omega
def BO (own:au):oX 4 g (dE g own).2:=by
 have:=xJ g own;simp only[oX,dE,Gs.aS]at*;omega
def Wd (own:au):oX 9 g (gY g own).2:=by
 have h1:=BO g own;have h2:=BO (dE g own).2.aS own;unfold gY;simp only[oX,Gs.aS]at*
 split
 .simp only;omega
 .split<;>simp only<;>omega
def RW (own:au):oX 11 g (mB g own).2:=by
 have h1:=Wd g own;simp only[oX,mB,jI,HJ,Gs.aS]at*;omega
def HN:∀(l:List bn) (g:Gs),oX l.length g (iw l g).2
 |[],g=>by simp[oX,iw]
 |n::r,g=>by
  have h1:=HN r g;have h2:=HN r g.aS;simp only[oX,Gs.aS,bD]at*
  rw[iw];split
  .split<;>simp only[Gs.aS]<;>omega
  .omega
def xw (own:au)(g:Gs):∀i:Nat,oX (11*i) g (nS own g i).2/\(nS own g i).1.length=i
 |0=>⟨by simp[oX,nS],rfl⟩
 |i+1=>by
  have h1:=xw own g i;have h2:=RW (nS own g i).2 own;simp only[oX,nS,cu,bD,ca]at*
  omega
def GX (own:au):oX 4 g (eJ g own).2:=by
 have:=xJ g.aS own;unfold eJ;simp only[oX,Gs.aS]at*
 split<;>simp only<;>omega
def G8 (l:List bn):oX (1+l.length) g (lC g l).2:=by
 have:=HN l g.aS;unfold lC;simp only[oX,Gs.aS,m6,ofG]at*
 split<;>simp only<;>omega
def akP (nm:au)(v:bV):oX 30 g (ph g nm v 2).2:=by
 have h4:=(g.SN (2+1)).1 ae;show oX 30 g (lC (eJ (nS nm g.aS (g.val (2+1)).toNat).2 nm).2 (nS nm g.aS (g.val (2+1)).toNat).1).2;generalize g.val (2+1)=z at h4⊢;have h1:=xw nm g.aS z.toNat;have h2:=GX (nS nm g.aS z.toNat).2 nm;have h3:=G8 (eJ (nS nm g.aS z.toNat).2 nm).2 (nS nm g.aS z.toNat).1;generalize nS nm g.aS z.toNat=a at*
 generalize eJ a.2 nm=b at*
 generalize lC b.2 a.1=c at*
 simp only[oX,Gs.aS]at*
 omega
def akt (l:List bA):oX 34 g (lS g l).2:=by
 have h1:=akP g.aS.aS.aS.aS cF[(g.aS.val 4).toNat]! bF[(g.aS.aS.val 4).toNat]!;by_cases h:g.aS.aS.aS.val 6=0
 .rw[show lS g l=_ from ak h];simp only[oX,Gs.aS];omega
 .rw[show lS g l=_ from ah h];simp only[oX,Gs.aS]at*;omega
def ad9 (l:List bA):(lS g l).1.length=l.length:=by
 simp only[lS,qV];split<;>simp only<;>split<;>simp
def HP (g:Gs):∀i:Nat,oX (34*i) g (pS g i).2/\(pS g i).1.length=2
 |0=>⟨by simp[oX,pS],rfl⟩
 |i+1=>by
  have h1:=HP g i;have h2:=akt (pS g i).2 (pS g i).1;have h3:=ad9 (pS g i).2 (pS g i).1;simp only[oX,pS]at*
  omega
def vH [Inhabited α]{l:List α}{P:α->Prop}(hd:P default)(h:∀x∈l,P x)(i:Nat):P l[i]! :=by
 by_cases hi:i<l.length
 .exact h _ (aq hi)
 .rw[show l[i]! =default by simp[List.getElem!_eq_getElem?_getD,List.getElem?_eq_none (Nat.le_of_not_lt hi)]];exact hd
def yY (i:Nat):cF[i]!.length<=3:=vH (P:=λs:au=>s.length<=3) aV aV i
def y2 (own:au):(cS g own).1.length<=3:=by
 unfold cS;split<;>exact yY _
def H0 {g:Gs}:jX kd[(g.val 8).toNat]! :=by
 have:=g.eR 8 ae;exact aq (by simp only[kd,bD,ca];omega)
def SQ (own:au):(dE g own).1.sm:=⟨⟨by have:=y2 g own;simp only[dE];omega,H0⟩,λ_ h=>bZ⟩
def ahl (own:au):∀w∈(gY g own).1,w.sm:=by
 have h1:=SQ g own;have h2:=SQ (dE g own).2.aS own;unfold gY;split
 .intro w hw;simp only[bG,cU,or_false]at hw;rcases hw with rfl|rfl<;>assumption
 .split
  .intro w hw;rw[aD.1 hw];exact⟨h1.1,λt ht=>by rw[aD.1 ht];decide⟩
  .intro w hw;rw[aD.1 hw];exact h1
def adQ (own:au):(mB g own).1.sm:=by
 refine⟨ahl g own, ?_, ?_⟩
 .show og (jI (gY g own).2).1;unfold jI og;simp only;split
  .decide
  .split<;>decide
 .show(HJ (jI (gY g own).2).2).1.length<=1048576;unfold HJ;simp only;split<;>decide
def RP (own:au)(g:Gs):∀i,∀n∈(nS own g i).1,n.sm
 |0=>λ_ h=>by cases h
 |i+1=>λn h=>by
  rcases List.mem_append.1 h with h|h
  .exact RP own g i n h
  .rw[aD.1 h];exact adQ _ _
structure iN where
 name:au
 shelf:au
 deriving Inhabited,DecidableEq
def iN.D (x:iN):D:=.agg [.str x.name,.str x.shelf]
structure kE where
 name:au
 range:au
 deriving Inhabited,DecidableEq
def kE.D (x:kE):D:=.agg [.str x.name,.str x.range]
structure gW where
 r:Rec
 ps:List iN
 hs:List kE
 deriving Inhabited,DecidableEq
def gW.D (x:gW):D:=.agg [.str x.r.name,.int .i64 x.r.v.major,.int .i64 x.r.v.minor,.int .i64 x.r.v.patch,.str x.r.v.pre,.str x.r.v.build,.sl 3 (x.r.needs.map bn.D),.sl 3 (x.r.bars.map lu.D),.sl 2 (x.r.feats.map b6.D),.sl 2 (x.ps.map iN.D),.sl 2 (x.hs.map kE.D)]
def Ml (l:List iN)(i:Nat):Int:=if(df l[i]!.name=false\/df l[i]!.shelf=false)\/(0<i/\Op.bytesLess l[i-1]!.name l[i]!.name=false)then 15 else 0
def Cw (l:List kE)(i:Nat):Int:=if df l[i]!.name=false\/(0<i/\Op.bytesLess l[i-1]!.name l[i]!.name=false)then 4 else if qP l[i]!.range=false then 6 else 0
def Dc (l:List iN):Int×Int:=gR (Ml l) 0 l.length
def Cy (l:List kE):Int×Int:=gR (Cw l) 0 l.length
def kH (m:gW):Int×Int:=if ¬(cQ m.r).1=0 then cQ m.r else if 8<m.ps.length\/8<m.hs.length then(3,0)else if ¬(Dc m.ps).1=0 then Dc m.ps else Cy m.hs
def X5 (m:gW):Prop:=gI m.r/\∀h∈m.hs,jX h.range
structure uz where
 r:Rec
 sh:Int
 deriving Inhabited,DecidableEq
def uz.D (x:uz):D:=.agg [.str x.r.name,.int .i64 x.r.v.major,.int .i64 x.r.v.minor,.int .i64 x.r.v.patch,.str x.r.v.pre,.str x.r.v.build,.sl 3 (x.r.needs.map bn.D),.sl 3 (x.r.bars.map lu.D),.sl 2 (x.r.feats.map b6.D),.int .i64 x.sh]
def uG (l:List uz):D:=.sl 10 (l.map uz.D)
instance keyDec:DecidableEq Key:=λa b=>decidable_of_iff (a.n=b.n/\a.f=b.f) (by cases a;cases b;simp)
structure js where
 k:Key
 s:cx
 deriving Inhabited,DecidableEq
def js.D (a:js):D:=.agg [.str a.k.n,.str a.k.f,.sl 14 (a.s.rel.map Span.D),.sl 14 (a.s.pr.map Span.D)]
abbrev fS:=List js
def dS (r:fS):D:=.sl 4 (r.map js.D)
structure cC where
 l:List gW
 shop:List bA
 e:Env
 keeps:List Kp
 pins:List iN
 deriving Inhabited,DecidableEq
def cC.D (y:cC)(f:D):D:=.agg [.sl 11 (y.l.map gW.D),.sl 2 (y.shop.map bA.D),.str y.e.e0,.str y.e.e1,.str y.e.e2,.sl 6 (y.keeps.map Kp.D),.sl 2 (y.pins.map iN.D),f]
variable(y:cC)
def linW:au:=[108,105,110,117,120]
def FQ (w:au)(e:Env):Bool:=if w=osY then decide (e.e0=[]) ||decide (e.e0=linW)else if w=osN then !decide (e.e0=linW)else true
def ff (x:de):List Key:=(if x.bare=true then(if x.feats=[]then [⟨x.name,[]⟩]else [])else [⟨x.name,lv⟩])++x.feats.map λf=>⟨x.name,f⟩
def bC (a b c:Int):Cut:=⟨0,⟨a,b,c,[],[]⟩,false⟩
def a1W:au:=[97,46,49]
def gX:List cx:=[⟨Ql,[]⟩,⟨[⟨bC 1 0 0,bC 2 0 0⟩],[]⟩,⟨[⟨bC 1 2 0,bC 1 2 1⟩],[]⟩,⟨[⟨bC 1 2 0,LK⟩],[]⟩,⟨[⟨Cj,bC 2 0 0⟩],[]⟩,
 ⟨[⟨bC 2 0 0,bC 3 0 0⟩],[⟨⟨0,⟨2,0,0,a1W,[]⟩,false⟩,bC 2 0 0⟩]⟩,⟨[⟨bC 1 0 0,bC 1 0 1⟩,⟨bC 2 0 0,bC 2 0 1⟩],[]⟩,⟨[⟨Cj,bC 1 2 0⟩,⟨bC 1 2 1,LK⟩],[]⟩]
def fe (s:au):cx:=gX[(fR (λt=>decide (t=s)) kd 0).toNat]!
def plnW:au:=[112,108,97,110,57]
def qz:List Env:=[⟨[],[],[]⟩,⟨linW,[],[]⟩,⟨plnW,[],[]⟩]
def lz (e:Env):Prop:=e∈qz
def iM (n:bn):List fS:=if n.any.length=1 then(ff n.any[0]!).map λk=>[⟨k,fe n.any[0]!.range⟩]else [n.any.map λw=>⟨(ff w)[0]!,fe w.range⟩]
def A5 (e:Env)(o:au)(n:bn):List fS:=if n.option=o/\FQ n.when' e=true then iM n else []
def qM (ns:List bn)(e:Env)(o:au):List fS:=ns.flatMap (A5 e o)
def rA (e:Env)(nm ft:au)(n:bn):List fS:=if(n.any.length=1/\n.any[0]!.name=nm)/\FQ n.when' e=true then(if n.option=[]then []else iM n)++[[⟨⟨nm,ft⟩,fe n.any[0]!.range⟩]]else []
def ja (ns:List bn)(e:Env)(nm ft:au):List fS:=ns.flatMap (rA e nm ft)
def mr (r:Rec)(e:Env)(s:au):List fS:=if(bK s).1=1 then [[⟨⟨r.name,(bK s).2.1⟩,dH r.v⟩]]else if(bK s).1=2 then qM r.needs e (bK s).2.1 else ja r.needs e (bK s).2.1 (bK s).2.2
def uT (l:List b6)(ft:au):List au:=if findF l ft 0<0 then []else l[(findF l ft 0).toNat]!.of
def cM (r:Rec)(e:Env)(ft:au):List fS:=if ft=[]then qM r.needs e []else [[⟨⟨r.name,[]⟩,dH r.v⟩]]++(uT r.feats ft).flatMap (mr r e)
def eL (l:List gW):List fS:=l.map λm=>[⟨⟨m.r.name,lv⟩,dH m.r.v⟩]
def fJ:Key:=⟨[],[]⟩
def eY (a b:Key):Bool:=Op.bytesLess a.n b.n ||(decide (a.n=b.n)&&Op.bytesLess a.f b.f)
def EY (l:List Key)(k:Key)(i:Nat):Nat:=i+((l.drop i).takeWhile λx=>eY x k).length
def sA (l:List Key)(k:Key):List Key:=if EY l k 0<l.length/\l[EY l k 0]! =k then l else(l.take (EY l k 0)++[k])++l.drop (EY l k 0)
def eo (l:List Key)(k:Key):Int:=fR (λx=>decide (x=k)) l 0
def isM (nm:au)(m:gW):Bool:=decide (m.r.name=nm)
def lR (l:List gW)(nm:au):Int:=fR (isM nm) l 0
def Cv (nm:au)(s:bA):Bool:=s.es.any λx=>decide (x.r.name=nm)
def Ad (l:List iN):Bool:=bW (λi=>decide (Ml l i=0)) 0 l.length
def E6 (l:List iN)(nm:au):Int:=fR (λp=>decide (p.name=nm)) l 0
def gr (pins:List iN)(nm:au):Int×Int:=
 if dr shop=false then(0,1)else if Ad pins=false then(0,15)
 else if 0<=E6 pins nm then(if lq shop pins[(E6 pins nm).toNat]!.shelf<0 then(0,12)else(lq shop pins[(E6 pins nm).toNat]!.shelf,0))
 else if fR (Cv nm) shop 0<0 then(0,9)else(fR (Cv nm) shop 0,0)
def AY (es:List iQ)(l:List Int)(i k:Nat):Nat:=k+((l.drop k).takeWhile λj=>decide (iL es[j.toNat]!.r.v es[i]!.r.v<0)).length
def Hj (es:List iQ)(l:List Int)(i:Nat):List Int:=(l.take (AY es l i 0)++[(i:Int)])++l.drop (AY es l i 0)
def eK (es:List iQ)(nm:au):Nat->List Int
 |0=>[]
 |i+1=>if es[i]!.r.name=nm then Hj es (eK es nm i) i else eK es nm i
def kq (s:bA)(nm:au):List Int:=if fO s=false then []else eK s.es nm s.es.length
def cJ (pins:List iN)(nm:au):Int×List Int×Int:=if(gr shop pins nm).2≠0 then(0,[],(gr shop pins nm).2)else((gr shop pins nm).1,kq shop[(gr shop pins nm).1.toNat]! nm,0)
def LI (ks:List Kp)(r:Rec):Bool:=ks.any λk=>decide (k.name=r.name)&&A4 k.v r.v
def kM (l:List gW)(nm:au):cx:=if l[0]!.hs.length≠0/\l[0]!.hs[0]!.name=nm then fe l[0]!.hs[0]!.range else pC
def SI (nm:au)(x:iQ):Bool:=(!x.off ||LI y.keeps x.r)&&oY (kM y.l nm) x.r.v
def iZ (y:cC)(nm:au)(at':Nat):List Int->List uz
 |[]=>[]
 |i::r=>(if SI y nm y.shop[at']!.es[i.toNat]! =true then [⟨y.shop[at']!.es[i.toNat]!.r,(at':Int)⟩]else [])++iZ y nm at' r
def dL (nm:au):List uz:=
 if 0<=lR y.l nm then [⟨y.l[(lR y.l nm).toNat]!.r,-1⟩]else if(cJ y.shop y.pins nm).2.2≠0 then []else iZ y nm (cJ y.shop y.pins nm).1.toNat (cJ y.shop y.pins nm).2.1
def Yn (ft:au)(x:uz):Bool:=decide (ft=[]) ||isF x.r.feats ft
def eO (k:Key):List uz:=(dL y k.n).filter (Yn k.f)
def dc (k:Key):List fS:=if k=fJ then eL y.l else(eO y k).flatMap λx=>cM x.r y.e k.f
structure oW where
 all:List Key
 todo:List Key
 deriving Inhabited,DecidableEq
def mD (s:oW)(a:js):oW:=if s.all.length<(sA s.all a.k).length then⟨sA s.all a.k,s.todo++[a.k]⟩else s
def Pp (s:oW)(r:List fS):oW:=r.foldl (λs row=>row.foldl mD s) s
def A9 (s:oW):oW:=Pp ⟨s.all,s.todo.drop 1⟩ (dc y s.todo[0]!)
def A8 (y:cC):Nat->oW->Option (List Key)
 |0,_=>none
 |n+1,s=>if s.todo.length=0 then some s.all else if 48<(A9 y s).all.length then none else A8 y n (A9 y s)
def nE:oW:=⟨[fJ],[fJ]⟩
def mR:Option (List Key):=A8 y 49 nE
def dG (all:List Key)(l:List fS):List nR:=l.map λr=>r.map λa=>⟨eo all a.k,a.s⟩
def qt (all:List Key)(e:Env)(b:lu):List Want:=if 0<=eo all ⟨b.name,[]⟩/\FQ b.when' e=true then [⟨eo all ⟨b.name,[]⟩,fe b.range⟩]else []
def wJ (all:List Key)(r:Rec)(e:Env):List Want:=r.bars.flatMap (qt all e)
def dU (all:List Key)(k:Key)(x:uz):eB:=⟨x.r.v,x.sh,dG all (cM x.r y.e k.f),if k.f=[]then wJ all x.r y.e else []⟩
def oz (c:eB):Bool:=decide (24<c.needs.length) ||decide (24<c.bars.length)
def ew (all:List Key)(k:Key):List eB×Bool:=
 if k=fJ then([⟨zV,-1,dG all (eL y.l),[]⟩],true)
 else if((eO y k).map (dU y all k)).any oz=true then([],false)else((eO y k).map (dU y all k),decide ((dL y k.n).length<=16))
def rK (all:List Key)(k:Key):cI:=⟨k.n,k.f,(ew y all k).1⟩
def nJ (y:cC)(all:List Key):Nat->List cI×Bool
 |0=>([],true)
 |i+1=>if(nJ y all i).2=true then((nJ y all i).1++[rK y all all[i]!],(ew y all all[i]!).2)else nJ y all i
def eA:bP×Bool:=match mR y with
 |none=>(⟨[]⟩,false)
 |some all=>(⟨(nJ y all all.length).1⟩,(nJ y all all.length).2)
def gG (l:List gW):List iN:=l[0]!.ps
def gP (l:List gW)(shop:List bA)(e:Env)(keeps:List Kp):bP×Int:=
 if dr shop=false\/nV e=false then(⟨[]⟩,1)else if(gG l).any (λp=>decide (lq shop p.shelf<0))=true then(⟨[]⟩,12)
 else if(eA ⟨l,shop,e,keeps,gG l⟩).2=false then(⟨[]⟩,10)else((eA ⟨l,shop,e,keeps,gG l⟩).1,0)
def qoW:au:=[63,111]
def qU (l:List bn)(i:Nat):List au:=if Up (l.take i)=true then [qoW]else []
def FU {i:Nat}(h:i<l.length):Up (l.take (i+1))=(Up (l.take i) ||decide (l[i]!.option=[111])):=by
 have e:l.take (i+1)=l.take i++[l[i]!]:=by
  rw[List.take_add_one,List.getElem?_eq_getElem h];simp[h]
 rw[e];simp[Up]
def akU {i:Nat}(h:i<l.length)(h2:l[i]!.option=[111]/\((qU l i).length:Int)=0):qU l (i+1)=[qoW]:=by
 unfold qU;rw[FU h,ak (by rw[br h2.1,Bool.or_true])]
def akT {i:Nat}(h:i<l.length)(h2:¬l[i]!.option=[111]\/¬((qU l i).length:Int)=0):qU l i=qU l (i+1):=by
 unfold qU at*
 rw[FU h];rcases h2 with h2|h2
 .simp only[bL h2,Bool.or_false]
 .split at h2
  .rename_i h3;rw[h3];rfl
  .simp at h2
def gS (l:List bn)(g:Gs):Nat->Gs
 |0=>g
 |i+1=>if l[i]!.any.length=1 then(gS l g i).aS else gS l g i
def afo (l:List bn)(g:Gs):∀i:Nat,oX (i:Int) g (gS l g i)
 |0=>by simp[oX,gS]
 |i+1=>by
  have:=afo l g i;rw[gS];split<;>simp only[oX,Gs.aS]at* <;>omega
def ake {g:Gs}{i:Nat}(h:i<l.length)(h1:l[i]!.any.length=1)(h2:(gS l g i).val 3=0):iw (l.drop i) (gS l g i)=(some l[i]!.any[0]!.name,(gS l g i).aS):=by
 rw[eH h,iw,show l[i]=l[i]! by simp[h],ak h1,ak h2]
def akf {g:Gs}{i:Nat}(h:i<l.length)(h1:l[i]!.any.length=1)(h2:¬(gS l g i).val 3=0):iw (l.drop i) (gS l g i)=iw (l.drop (i+1)) (gS l g (i+1)):=by
 rw[eH h,iw,show l[i]=l[i]! by simp[h],ak h1,ah h2,gS,ak h1]
def akg {g:Gs}{i:Nat}(h:i<l.length)(h1:¬l[i]!.any.length=1):iw (l.drop i) (gS l g i)=iw (l.drop (i+1)) (gS l g (i+1)):=by
 rw[eH h,iw,show l[i]=l[i]! by simp[h],ah h1,gS,ah h1]
def akh {g:Gs}{i:Nat}(h:l.length<=i):iw (l.drop i) (gS l g i)=(none,gS l g i):=by
 rw[jN h,iw]
def M7 (l:List bn):qU l l.length=if Up l=true then [qoW]else []:=by rw[qU,List.take_length]
def M8 (l:List bn)(i:Nat):(qU l i).length<=1:=by unfold qU;split<;>simp
def W2 {g:Gs}{i:Nat}(hr:iw l g=iw (l.drop i) (gS l g i))(h:i<l.length)(h1:l[i]!.any.length=1)(h2:(gS l g i).val 3=0):m6 g l=(⟨[102],qU l l.length++[l[i]!.any[0]!.name++[47,102]]⟩,(gS l g i).aS):=by
 rw[m6,ofG,hr,ake h h1 h2,M7];rfl
def W3 {g:Gs}{i:Nat}(hr:iw l g=iw (l.drop i) (gS l g i))(h:l.length<=i):m6 g l=(⟨[102],qU l l.length⟩,gS l g i):=by
 rw[m6,ofG,hr,akh h,M7];simp only[gB];rfl
section
variable {s:bA}{r:Rec}{v:bV}{on:Bool}
def put_1 (h:fO s=false):kU s r=(default,1):=by rw[kU,ak h]
def put_2 (h:fO s=true)(h2:¬(ez r).2=0):kU s r=(default,(ez r).2):=by rw[kU,ah gp,ak h2]
def put_3 (h:fO s=true)(h2:(ez r).2=0)(h3:0<=qo s.es r.name r.v 0):kU s r=(default,8):=by rw[kU,ah gp,ah (by simp[h2]),ak h3]
def put_4 (h:fO s=true)(h2:(ez r).2=0)(h3:¬0<=qo s.es r.name r.v 0)(h4:64<=s.es.length):kU s r=(default,10):=by rw[kU,ah gp,ah (by simp[h2]),ah h3,ak h4]
def put_5 (h:fO s=true)(h2:(ez r).2=0)(h3:¬0<=qo s.es r.name r.v 0)(h4:¬64<=s.es.length):kU s r=(⟨s.name,s.es++[⟨r,qY r,false⟩]⟩,0):=by rw[kU,ah gp,ah (by simp[h2]),ah h3,ah h4]
def aln (h:fO s=false):oB s nm v on=(default,1):=by rw[oB,ak h]
def alo (h:fO s=true)(h2:qo s.es nm v 0<0):oB s nm v on=(default,9):=by rw[oB,ah gp,ak h2]
def alp (h:fO s=true)(h2:qo s.es nm v 0=(j:Nat)):oB s nm v on=(⟨s.name,s.es.set j {s.es[j]! with off:=on}⟩,0):=by
 rw[oB,ah gp,ah ae,h2,Int.toNat_natCast]
end
def Rec.fz (l k:Nat)(es:List Abs.D)(c:Rec):iY l k es c.D=c.D:=ic l k es _ (by simp only[Rec.D,D.aR,aK,gC])
def BL [Inhabited α]{q:α->D}{xs:List α}{i o:Nat}{v:D}{y:α}(h:i<xs.length)(he:rO (q xs[i]!) k n o v=q y):(xs.map q).set (0+i) (rO ((xs.map q).getD (0+i) .any) k n o v)=(xs.set i y).map q:=by
 rw[cr,getD_map h,he,List.map_set]
section
variable {g:Gs}{l:List bA}
def kG (g:Gs)(l:List bA):Nat:=(g.val l.length).toNat
def nmG (g:Gs):au:=cF[(g.aS.val 4).toNat]!
def vrG (g:Gs):bV:=bF[(g.aS.aS.val 4).toNat]!
def Vv (g:Gs)(l:List bA):bA×Int:=oB l[kG g l]! (nmG g) (vrG g) (decide (0<g.aS.aS.aS.aS.val 3))
def rcG (g:Gs):Rec×Gs:=ph g.aS.aS.aS.aS (nmG g) (vrG g) 2
def Vt (g:Gs)(l:List bA):bA×Int:=kU l[kG g l]! (rcG g).1
def YY (h:g.aS.aS.aS.val 6=0)(h2:(Vv g l).2=0):lS g l=(l.set (kG g l) (Vv g l).1,g.aS.aS.aS.aS.aS):=by
 rw[show lS g l=(qV l (kG g l) (Vv g l),g.aS.aS.aS.aS.aS)from ak h,qV,ak h2]
def YZ (h:g.aS.aS.aS.val 6=0)(h2:¬(Vv g l).2=0):lS g l=(l,g.aS.aS.aS.aS.aS):=by
 rw[show lS g l=(qV l (kG g l) (Vv g l),g.aS.aS.aS.aS.aS)from ak h,qV,ah h2]
def Y0 (h:¬g.aS.aS.aS.val 6=0)(h2:(Vt g l).2=0):lS g l=(l.set (kG g l) (Vt g l).1,(rcG g).2):=by
 rw[show lS g l=(qV l (kG g l) (Vt g l),(rcG g).2)from ah h,qV,ak h2]
def Y1 (h:¬g.aS.aS.aS.val 6=0)(h2:¬(Vt g l).2=0):lS g l=(l,(rcG g).2):=by
 rw[show lS g l=(qV l (kG g l) (Vt g l),(rcG g).2)from ah h,qV,ah h2]
end
def yn (i:Nat):bF[i]!.sm:=vH (P:=λv:bV=>v.sm) ⟨aV,aV⟩ (by
 intro v hv;simp only[bF,bG,cU,or_false]at hv;rcases hv with rfl|rfl|rfl|rfl<;>exact⟨aV,aV⟩) i
def C2 {i:Nat}(h:i<4):cF[i]! ∈cF:=aq h
def Mh (own:au):(cS g own).1∈cF:=by
 have r4:=g.eR 4 ae;have r3:=g.aS.eR 3 ae;have rz:=XE cF own;unfold cS;split
 .exact C2 ae
 .exact C2 ae
def ahk (own:au):∀w∈(gY g own).1,w.name∈cF:=by
 have h1:=Mh g own;have h2:=Mh (dE g own).2.aS own;unfold gY;split
 .intro w hw;simp only[bG,cU,or_false]at hw;rcases hw with rfl|rfl<;>assumption
 .split<;>intro w hw<;>rw[aD.1 hw]<;>exact h1
def Yc (own:au)(g:Gs):∀i,∀n∈(nS own g i).1,∀w∈n.any,w.name∈cF
 |0=>λ_ h=>by cases h
 |i+1=>λn h=>by
  rcases List.mem_append.1 h with h|h
  .exact Yc own g i n h
  .rw[aD.1 h];exact ahk _ _
def HM:∀(l:List bn) (g:Gs),(∀n∈l,∀w∈n.any,w.name∈cF)->∀s,(iw l g).1=some s->s∈cF
 |[],g,_,s,h=>by cases h
 |n::r,g,hl,s,h=>by
  rw[iw]at h;split at h
  .rename_i h1;split at h
   .simp only[aE]at h;rw[<-h];exact hl n (.head _) _ (aq ae)
   .exact HM r _ (λn hn=>hl n (.tail _ hn)) s h
  .exact HM r _ (λn hn=>hl n (.tail _ hn)) s h
def afJ {g:Gs}(hl:∀n∈l,∀w∈n.any,w.name∈cF):(ofG l g).1∈ofL:=by
 have h:=HM l g hl;unfold ofG;simp only;cases hp:(iw l g).1 with
 |none=>split<;>decide
 |some s=>
  have hs:=h s hp;simp only[cF,bG,cU,or_false]at hs;rcases hs with rfl|rfl|rfl|rfl<;>split<;>decide
def ZB {v:bV}(hn:nm.length<=3)(hv:v.sm):gI (ph g nm v 2).1:=by
 refine⟨⟨by show nm.length<=_;omega,hv⟩,RP nm g.aS _, ?_, ?_⟩
 .show ∀b∈(eJ (nS nm g.aS (g.val (2+1)).toNat).2 nm).1,b.sm
  unfold eJ;split
  .intro b hb;rw[aD.1 hb];exact⟨by have:=y2 (nS nm g.aS (g.val (2+1)).toNat).2.aS nm;simp only;omega,H0,show([]:au)∈L2 by decide⟩
  .intro b hb;cases hb
 .show(lC (eJ (nS nm g.aS (g.val (2+1)).toNat).2 nm).2 (nS nm g.aS (g.val (2+1)).toNat).1).1∈Cb;unfold lC;split
  .exact .tail _ (bY.2 ⟨_,afJ (Yc nm g.aS _),rfl⟩)
  .exact .head _
def SA {l:List bA}{p:bA×Int}(h:iH l)(hp:∀x∈p.1.es,gI x.r):iH (qV l k p):=by
 unfold qV;split
 .intro s hs;rcases List.mem_or_eq_of_mem_set hs with h1|rfl
  .exact h s h1
  .exact hp
 .exact h
def aeP {s:bA}{v:bV}{on:Bool}(h:∀x∈s.es,gI x.r):∀x∈(oB s nm v on).1.es,gI x.r:=by
 unfold oB;split
 .intro x hx;cases hx
 .split
  .intro x hx;cases hx
  .rename_i h2;obtain⟨j,hj,hjl⟩:=(BE (l:=s.es) (nm:=nm) (v:=v)).resolve_left ae;rw[hj,Int.toNat_natCast];intro x hx;rcases List.mem_or_eq_of_mem_set hx with h1|rfl
   .exact h x h1
   .exact h s.es[j]! (aq hjl)
def aku {s:bA}{r:Rec}(h:∀x∈s.es,gI x.r)(hr:gI r):∀x∈(kU s r).1.es,gI x.r:=by
 unfold kU;split
 .intro x hx;cases hx
 .split
  .intro x hx;cases hx
  .split
   .intro x hx;cases hx
   .split
    .intro x hx;cases hx
    .intro x hx;rcases List.mem_append.1 hx with h1|h1
     .exact h x h1
     .rw[aD.1 h1];exact hr
def Hc {l:List bA}(h:iH l)(k:Nat):∀x∈l[k]!.es,gI x.r:=vH (P:=λs:bA=>∀x∈s.es,gI x.r) (λ_ h=>bZ) h k
def aks {g:Gs}{l:List bA}(h:iH l):iH (lS g l).1:=by
 by_cases h1:g.aS.aS.aS.val 6=0
 .rw[show lS g l=(qV l (kG g l) (Vv g l),g.aS.aS.aS.aS.aS)from ak h1];exact SA h (aeP (Hc h _))
 .rw[show lS g l=(qV l (kG g l) (Vt g l),(rcG g).2)from ah h1];exact SA h (aku (Hc h _) (ZB _ (yY _) (yn _)))
def YL (g:Gs):∀i,iH (pS g i).1
 |0=>λs hs=>by
  simp only[pS,Nl,bG,cU,or_false]at hs;rcases hs with rfl|rfl<;>intro x hx<;>cases hx
 |i+1=>aks (YL g i)
def Nn (most:Int):iH (b8 ks most):=YL _ _
def cR (ord:List (List Int))(u:Int):List Int:=if u<(ord.length:Int)then ord[u.toNat]! else []
def TS (l:List Int)(x:Int):Bool:=oF (λk=>decide (l[k]! =x)) 0 l.length
def cG (o:List Int)(n:Nat):Nat->List Int
 |0=>o
 |i+1=>if TS (cG o n i) ((n:Int) -1-(i:Int))=true then cG o n i else cG o n i++[(n:Int) -1-(i:Int)]
def Nz (m:kg)(ord:List (List Int))(u:Int):List Int:=cG (cR ord u) m.needs[u.toNat]!.length m.needs[u.toNat]!.length
def yC (m:kg)(ord:List (List Int)):=∀u:Nat,u<m.needs.length->(cR ord u).length<=16/\∀p∈cR ord u,0<=p/\p<m.needs[u]!.length
def SK {o:List Int}{n:Nat}(ho:∀p∈o,0<=p/\p<(n:Int)):∀i,i<=n->(∀p∈cG o n i,0<=p/\p<(n:Int))/\(cG o n i).length<=o.length+i
 |0,_=>⟨ho,aN _⟩
 |i+1,h=>by
  obtain⟨h1,h2⟩:=SK ho i ae;rw[cG];split
  .exact⟨h1,ae⟩
  .refine⟨λp hp=>?_,KE⟩;rcases List.mem_append.1 hp with hp|hp
   .exact h1 p hp
   .obtain rfl:=aD.1 hp;omega
def FP (m:kg)(ord:List (List Int))(c:List Int)(x:dY)(out:List dY):List dY:=if 0<=c[x.u.toNat]! then out else j7 x.m x.u (Nz m ord x.u) (Nz m ord x.u).length out
def dR (m:kg)(ord:List (List Int))(c:List Int)(l:List dY):Nat->List dY
 |0=>[]
 |k+1=>FP m ord c l[k]! (dR m ord c l k)
def eh (m:kg)(ord:List (List Int))(c:List Int):List dY:=if(ef m c).1<0 then []else dR m ord c (bB m c) (bB m c).length
def L9 {m:kg}{c:List Int}{mask u:Int}{ts:List Int}(hu:(0<=u/\u<m.needs.length)/\c[u.toNat]! <0)(ht:∀p∈ts,0<=p/\p<m.needs[u.toNat]!.length):∀i out,i<=ts.length->(∀o∈out,VZ m c o)->(∀o∈j7 mask u ts i out,VZ m c o)/\(j7 mask u ts i out).length<=out.length+i
 |0,out,_,h=>⟨h,aN _⟩
 |i+1,out,hi,h=>by
  obtain⟨h1,h2⟩:=L9 (mask:=mask) hu ht i out ae h;have hg:=ht _ (aq (show i<ts.length by omega));rw[j7];unfold Pc;split
  .refine⟨λo ho=>?_,KE⟩;rcases List.mem_append.1 ho with ho|ho
   .exact h1 o ho
   .obtain rfl:=aD.1 ho;exact⟨hu.1,hu.2,hg.1,hg.2⟩
  .exact⟨h1,ae⟩
def Ix {m:kg}(h16:∀u,u<m.needs.length->m.needs[u]!.length<=16)(hO:yC m ord){u:Int}(hu:0<=u/\u<m.needs.length):(∀p∈Nz m ord u,0<=p/\p<m.needs[u.toNat]!.length)/\(Nz m ord u).length<=32:=by
 obtain⟨h1,h2⟩:=hO u.toNat ae;rw[show((u.toNat:Nat):Int)=u by omega]at h1 h2;obtain⟨h3,h4⟩:=SK h2 m.needs[u.toNat]!.length (aN _);have:=h16 u.toNat ae;exact⟨h3,by unfold Nz;omega⟩
def xB {m:kg}{ord:List (List Int)}{c:List Int}{l:List dY}(h16:∀u,u<m.needs.length->m.needs[u]!.length<=16)(hO:yC m ord)(hl:∀x∈l,0<=x.u/\x.u<m.needs.length):∀k,k<=l.length->(∀o∈dR m ord c l k,VZ m c o)/\(dR m ord c l k).length<=32*k
 |0,_=>⟨λo ho=>(by cases ho),Nat.zero_le _⟩
 |k+1,hk=>by
  obtain⟨h1,h2⟩:=xB h16 hO hl k ae;have hx:=hl _ (aq (show k<l.length by omega));rw[dR];unfold FP;split
  .exact⟨h1,ae⟩
  .obtain⟨ht,ht2⟩:=Ix h16 hO hx;obtain⟨h4,h5⟩:=L9 (mask:=l[k]!.m) ⟨hx,ae⟩ ht (Nz m ord l[k]!.u).length (dR m ord c l k) (aN _) h1;exact⟨h4,ae⟩
def qL {m:kg}(hm:wA m)(hO:yC m ord)(hc:KG m c):(∀o∈eh m ord c,VZ m c o)/\(eh m ord c).length<=32000:=by
 unfold eh;split
 .exact⟨λo ho=>(by cases ho),aC⟩
 .rename_i h;obtain⟨h1,h2⟩:=NL hm hc h;obtain⟨h3,h4⟩:=xB (c:=c) (λu hu=>(hm.2 u hu).1.2) hO h1 (bB m c).length (aN _);exact⟨h3,ae⟩
def D1 (m:kg)(ord:List (List Int)):Nat->List Int->Option (List Int)
 |0,_=>none
 |f+1,c=>if yG m c=false then none else if(ef m c).1<0 then some c else iT (λo=>D1 m ord f (xN c o)) (eh m ord c)
def mH (m:kg)(ord:List (List Int))(c:List Int):Option (List Int):=D1 m ord (E2 c+1) c
def D2 {m:kg}(hm:wA m)(hO:yC m ord)(hc:KG m c):mH m ord c=if yG m c=false then none else if(ef m c).1<0 then some c else iT (λo=>mH m ord (xN c o)) (eh m ord c):=by
 rw[mH,D1];congr 2;refine wZ λo ho=>?_
 have:=(HR hc ((qL hm hO hc).1 o ho)).2;rw[mH,this]
def mG {m:kg}{ord:List (List Int)}(hm:wA m)(hO:yC m ord){d:List Int}:∀(f:Nat) (c:List Int),KG m c->D1 m ord f c=some d->Ch m d=true/\KG m d
 |0,c,_,h=>by cases h
 |f+1,c,hc,h=>by
  rw[D1]at h;split at h
  .cases h
  .rename_i h1;split at h
   .rename_i h2;obtain rfl:=aW h;exact⟨ac0 (by simpa using h1) h2,hc⟩
   .obtain⟨o,h3,h4⟩:=zR h;exact mG hm hO f _ (HR hc ((qL hm hO hc).1 o h3)).1 h4
def kJ (ord:List (List Int)):Option (List Int):=mH (dy us) ord (oq us.length)
end Go.Abs
