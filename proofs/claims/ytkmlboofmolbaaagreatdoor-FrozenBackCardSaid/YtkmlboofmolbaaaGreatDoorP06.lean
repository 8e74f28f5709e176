/- A part of the proofs. -/
import Derived.Test.YtkmlboofmolbaaaGreatDoorP05
set_option linter.all false
set_option maxRecDepth 60000
set_option maxHeartbeats 2000000
namespace Go.Abs
structure Cut where
 e:Int
 v:bX
 a:Bool
 deriving Inhabited,DecidableEq
def Cut.D (c:Cut):D:=.agg [.int .i64 c.e,.int .i64 c.v.major,.int .i64 c.v.minor,.int .i64 c.v.patch,.str c.v.pre,.str c.v.build,.bool c.a]
structure Span where
 f:Cut
 t:Cut
 deriving Inhabited,DecidableEq
def Span.D (s:Span):D:=.agg [.int .i64 s.f.e,.int .i64 s.f.v.major,.int .i64 s.f.v.minor,.int .i64 s.f.v.patch,.str s.f.v.pre,.str s.f.v.build,.bool s.f.a,
 .int .i64 s.t.e,.int .i64 s.t.v.major,.int .i64 s.t.v.minor,.int .i64 s.t.v.patch,.str s.t.v.pre,.str s.t.v.build,.bool s.t.a]
structure cr where
 rel:List Span
 pr:List Span
 deriving Inhabited,DecidableEq
def cr.D (s:cr):D:=.agg [.sl 14 (s.rel.map Span.D),.sl 14 (s.pr.map Span.D)]
structure Want where
 u:Int
 s:cr
 deriving Inhabited,DecidableEq
def Want.D (w:Want):D:=.agg [.int .i64 w.u,.sl 14 (w.s.rel.map Span.D),.sl 14 (w.s.pr.map Span.D)]
abbrev nH:=List Want
def jv (r:nH):D:=.sl 3 (r.map Want.D)
structure en where
 v:bX
 sh:Int
 needs:List nH
 bars:List Want
 deriving Inhabited,DecidableEq
def en.D (c:en):D:=.agg [.int .i64 c.v.major,.int .i64 c.v.minor,.int .i64 c.v.patch,.str c.v.pre,.str c.v.build,.int .i64 c.sh,.sl 1 (c.needs.map jv),.sl 3 (c.bars.map Want.D)]
structure cL where
 name:av
 feat:av
 cands:List en
 deriving Inhabited,DecidableEq
def cL.D (u:cL):D:=.agg [.str u.name,.str u.feat,.sl 8 (u.cands.map en.D)]
structure bT where
 us:List cL
 deriving Inhabited,DecidableEq
def bT.D (w:bT):D:=.agg [.sl 3 (w.us.map cL.D)]
structure dR where
 u:Int
 m:Int
 deriving Inhabited,DecidableEq
def dR.D (t:dR):D:=.agg [.int .i64 t.u,.int .i64 t.m]
structure jf where
 kind:Int
 unit:Int
 a:Int
 b:Int
 terms:List dR
 deriving Inhabited,DecidableEq
def jf.D (r:jf):D:=.agg [.int .i64 r.kind,.int .i64 r.unit,.int .i64 r.a,.int .i64 r.b,.sl 2 (r.terms.map dR.D)]
structure vS where
 w:bT
 allow:List Int
 rows:List jf
 deriving Inhabited,DecidableEq
def vS.D (c:vS):D:=.agg [.sl 3 (c.w.us.map cL.D),.sl 1 (c.allow.map (D.int .i64)),.sl 5 (c.rows.map jf.D)]
def eqBb (a b:Bool):gV (D.bool a).cells (D.bool b).cells=decide (a=b):=by cases a<;>cases b<;>rfl
def rM (f:Nat->Int):Nat->Nat->Int
 |_,0=>0
 |i,k+1=>if f i=0 then rM f (i+1) k else f i
def fM (f:Nat->Int)(i n:Nat):Int:=rM f i (n-i)
def py {f:Nat->Int}{i n:Nat}(h:i<n)(hf:f i=0):fM f i n=fM f (i+1) n:=by
 unfold fM;obtain⟨k,hk⟩:∃k,n-i=k+1:=⟨n-i-1,ae⟩
 grind [rM]
def lq {f:Nat->Int}{i n:Nat}(h:i<n)(hf:f i≠0):fM f i n=f i:=by
 unfold fM;obtain⟨k,hk⟩:∃k,n-i=k+1:=⟨n-i-1,ae⟩
 rw[hk];simp only[rM,hf,aZ]
def px {f:Nat->Int}{i n:Nat}(h:n<=i):fM f i n=0:=by
 unfold fM;rw[show n-i=0 by omega];rfl
def dh (a b:Int):Int:=if a<b then-1 else if b<a then 1 else 0
def pn (a b:av):Int:=if Op.bytesLess a b=true then-1 else if a=b then 0 else 1
def xP (a b:av):Int:=if cK a=true/\cK b=true then dh (Cz a) (Cz b)else if cK a=true then-1 else if cK b=true then 1 else pn a b
def MS (l m:List av):Nat->Nat->Int
 |_,0=>dh l.length m.length
 |i,k+1=>if xP l[i]! m[i]! ≠0 then xP l[i]! m[i]! else MS l m (i+1) k
def uS (l m:List av)(i:Nat):Int:=MS l m i (min l.length m.length-i)
def FY {l m:List av}{i:Nat}(h:i<l.length/\i<m.length)(hn:xP l[i]! m[i]! ≠0):uS l m i=xP l[i]! m[i]! :=by
 unfold uS;rw[show min l.length m.length-i=(min l.length m.length-(i+1))+1 by omega,MS,ak hn]
def MR {l m:List av}{i:Nat}(h:i<l.length/\i<m.length)(hn:xP l[i]! m[i]! =0):uS l m i=uS l m (i+1):=by
 unfold uS;rw[show min l.length m.length-i=(min l.length m.length-(i+1))+1 by omega,MS,ah (by rw[hn];simp)]
def FX {l m:List av}{i:Nat}(h:l.length<=i\/m.length<=i):uS l m i=dh l.length m.length:=by
 unfold uS;rw[show min l.length m.length-i=0 by omega,MS]
def AJ (a b:av):Int:=if a=b then 0 else if a=[]then 1 else if b=[]then-1 else uS (a7 a 46) (a7 b 46) 0
def iz (a b:bX):Int:=if gA a=false\/gA b=false then 0 else
 if dh a.major b.major≠0 then dh a.major b.major else if dh a.minor b.minor≠0 then dh a.minor b.minor else
 if dh a.patch b.patch≠0 then dh a.patch b.patch else AJ a.pre b.pre
def rD (v:bX):bX:=⟨v.major,v.minor,v.patch,v.pre,[]⟩
theorem SY (a:Int):dh a a=0:=by simp[dh]
def yh {a b:Int}:dh a b=0↔a=b:=by
 grind [dh]
def E0 {a b:bX}(h:rD a=rD b):iz a b=0:=by
 grind [rD,iz,AJ,SY]
theorem Wp (x y z:Int):fM (fun i=>[x,y,z][i]!) 0 [x,y,z].length=if x≠0 then x else if y≠0 then y else z:=by
 grind [fM,rM]
def Wr {x y z:Int}(h:fM (fun i=>[x,y,z][i]!) 0 [x,y,z].length=0):x=0/\y=0/\z=0:=by
 grind [Wp]
def Wq {a b:bX}(hv:¬(gA a=false\/gA b=false))(h:¬fM (fun i=>[dh a.major b.major,dh a.minor b.minor,dh a.patch b.patch][i]!) 0 [dh a.major b.major,dh a.minor b.minor,dh a.patch b.patch].length=0):
  fM (fun i=>[dh a.major b.major,dh a.minor b.minor,dh a.patch b.patch][i]!) 0 [dh a.major b.major,dh a.minor b.minor,dh a.patch b.patch].length=iz a b:=by
 grind [Wp,iz]
def VQ {a b:bX}(hv:¬(gA a=false\/gA b=false))(h1:dh a.major b.major=0)(h2:dh a.minor b.minor=0)(h3:dh a.patch b.patch=0):iz a b=AJ a.pre b.pre:=by
 grind [iz]
def abD {a b:bX}(h1:dh a.major b.major=0)(h2:dh a.minor b.minor=0)(h3:dh a.patch b.patch=0)(h4:a.pre=b.pre):rD a=rD b:=by
 unfold rD;rw[yh.1 h1,yh.1 h2,yh.1 h3,h4]
def SZ (a:bX):iz a a=0:=E0 rfl
def LC (a b:bX):Bool:=gA a&&gA b&&decide (iz a b=0)
def Ft {v:bX}(h:gA v=true):LC v v=true:=by simp[LC,h,SZ]
def Cut.sm (c:Cut):Prop:=c.v.sm
def Span.sm (s:Span):Prop:=s.f.sm/\s.t.sm
def ze (l:List Span):Prop:=∀s∈l,s.sm
def cr.sm (s:cr):Prop:=ze s.rel/\ze s.pr
def Want.sm (w:Want):Prop:=w.s.sm
def en.sm (c:en):Prop:=c.v.sm/\(∀r∈c.needs,∀w∈r,w.sm)/\∀w∈c.bars,w.sm
def cL.sm (u:cL):Prop:=u.cands.length<=16/\∀c∈u.cands,c.sm
def bT.sm (w:bT):Prop:=∀u∈w.us,u.sm
def zV:bX:=⟨0,0,0,[],[]⟩
def po (c:Cut):Bool:=if c.e=0 then gA c.v&&decide (c.v.build=[])else(decide (c.e=-1) ||decide (c.e=1))&&decide (c.v=zV)&& !c.a
def kS (a b:Cut):Int:=if po a=false\/po b=false then 0 else if a.e≠0\/b.e≠0 then dh a.e b.e else
 if iz a.v b.v≠0 then iz a.v b.v else if a.a=b.a then 0 else if b.a=true then-1 else 1
def pO (s:Span):Bool:=po s.f&&po s.t&&decide (kS s.f s.t<0)
def jS (c:Cut)(v:bX):Bool:=if po c=false\/gA v=false then false else if c.e≠0 then decide (c.e<0)else decide (iz c.v v<0) ||(decide (iz c.v v=0)&& !c.a)
def rQ (s:Span)(v:bX):Bool:=pO s&&gA v&&jS s.f v&& !jS s.t v
def AN (l:List Span)(i:Nat):Bool:=pO l[i]! && !(decide (0<i)&&decide (0<=kS l[i-1]!.t l[i]!.f))
def sr (l:List Span):Bool:=bU (AN l) 0 l.length
def ot (f:Nat->Bool)(i n:Nat):Bool:=!bU (fun i=>!f i) i n
def jO {f:Nat->Bool}{i n:Nat}(h:i<n):ot f i n=(f i ||ot f (i+1) n):=by
 unfold ot;rw[az h];simp
def sI {f:Nat->Bool}{i n:Nat}(h:n<=i):ot f i n=false:=by
 unfold ot;rw[bA h];rfl
def vZ {f:Nat->Bool}{i n:Nat}:ot f i n=true↔∃j,i<=j/\j<n/\f j=true:=by
 unfold ot;rw[cz,<-Bool.not_eq_true,bw];simp
def vF (l:List Span)(v:bX):Bool:=sr l&&ot (fun i=>rQ l[i]! v) 0 l.length
def vr (v:bX):Bool:=decide (v.major=0)&&decide (v.minor=0)&&decide (v.patch=0)
def mJ (c:Cut):Bool:=decide (c.e≠0) ||(!c.a&&decide (c.v.pre=[])&& !vr c.v)
def rb (c:Cut):Bool:=decide (c.e≠0) ||(!c.a&&decide (c.v.pre=[])&& !decide (c.v=zV))
def vH (s:cr):Bool:=sr s.rel&&sr s.pr&&bU (fun i=>mJ s.rel[i]!.f&&mJ s.rel[i]!.t) 0 s.rel.length
def ae0 (s:cr):Bool:=bU (fun i=>rb s.rel[i]!.f&&rb s.rel[i]!.t) 0 s.rel.length&&(sr s.rel&&sr s.pr)
def oN (s:cr)(v:bX):Bool:=vH s&&gA v&&(if v.pre=[]then vF s.rel v else vF s.pr v)
def Dn {c:Cut}(h:po c=true):rb c=mJ c:=by
 obtain⟨e,⟨a,b,c,p,q⟩,f⟩:=c;by_cases he:e=0
 .simp only[po,he,bh,aD,aW]at h;obtain⟨_,rfl⟩:=h;simp only[rb,mJ,vr,zV,bX.mk.injEq];by_cases h1:p=[]<;>by_cases h2:a=0<;>by_cases h3:b=0<;>by_cases h4:c=0<;>simp[h1,h2,h3,h4]
 .simp[rb,mJ,he]
def Y8 {l:List Span}(h:sr l=true){i:Nat}(hi:i<l.length):po l[i]!.f=true/\po l[i]!.t=true:=by
 unfold sr at h;rw[bw]at h;have:=h i ae hi;simp only[AN,pO,aD]at this;exact⟨this.1.1.1,this.1.1.2⟩
def adD (s:cr):ae0 s=vH s:=by
 unfold ae0 vH;cases h:sr s.rel with
 |false=>simp
 |true=>
  have:bU (fun i=>rb s.rel[i]!.f&&rb s.rel[i]!.t) 0 s.rel.length=bU (fun i=>mJ s.rel[i]!.f&&mJ s.rel[i]!.t) 0 s.rel.length:=by
   rw[Bool.eq_iff_iff,bw,bw];constructor<;>intro g j h1 h2<;>have q:=Y8 h h2<;>have:=g j h1 h2<;>rw[Dn q.1,Dn q.2]at* <;>exact this
  rw[this];cases sr s.pr<;>simp
def BW:Cut:=⟨-1,zV,false⟩
def La:Cut:=⟨1,zV,false⟩
def Gv (v:bX):Cut:=⟨0,rD v,false⟩
def abh (v:bX):Cut:=⟨0,rD v,true⟩
def Ui (v:bX):bX:=⟨v.major,v.minor,v.patch,[],[]⟩
def Qu (v:bX)(p:Int):bX:=if p=0 then⟨v.major+1,0,0,[],[]⟩else if p=1 then⟨v.major,v.minor+1,0,[],[]⟩else⟨v.major,v.minor,v.patch+1,[],[]⟩
def Qt (v:bX)(p:Int):bX×Bool:=if gA v=false\/p<0\/2<p then(zV,false)else if gA (Qu v p)=false then(zV,false)else(Qu v p,true)
def Rh (v:bX):Nat->bX×Bool
 |0=>(zV,false)
 |n+1=>if(Qt v (n:Int)).2=true then((Qt v (n:Int)).1,true)else Rh v n
def Ri (v:bX):bX×Bool:=if gA v=false then(zV,false)else if v.pre≠[]then(Ui v,true)else Rh v 3
def Nw (v:bX):Cut:=if vr v=true then BW else Gv (Ui v)
def behC (v:bX):Cut:=if(Ri (Ui v)).2=false then La else Gv (Ri (Ui v)).1
def Rk:cr:=⟨[],[]⟩
def PJ:List Span:=[⟨BW,La⟩]
def pf:cr:=⟨PJ,PJ⟩
def dz (v:bX):cr:=if gA v=false then Rk else if v.pre≠[]then⟨[],[⟨Gv v,abh v⟩]⟩else⟨[⟨Nw v,behC v⟩],[]⟩
def RowS (l:List Span):Prop:=ze l/\l.length<=1000
def SetS (s:cr):Prop:=RowS s.rel/\RowS s.pr
def Gd:zV.sm:=by simp[zV,bX.sm]
def yn:BW.sm:=Gd
def Cj:La.sm:=Gd
def A2 {v:bX}(h:v.sm):(rD v).sm:=⟨h.1,by simp[rD]⟩
def RJ (v:bX):(Ui v).sm:=by simp[Ui,bX.sm]
def VG (v:bX)(p:Int):(Qu v p).sm:=by unfold Qu;split<;>(try split)<;>simp[bX.sm]
def VF (v:bX)(p:Int):(Qt v p).1.sm:=by unfold Qt;split<;>(try split)<;>first|exact Gd|exact VG v p
def Lw (v:bX):∀n,(Rh v n).1.sm
 |0=>Gd
 |n+1=>by
  rw[Rh];split
  .exact VF v _
  .exact Lw v n
def XA (v:bX):(Ri v).1.sm:=by
 unfold Ri;repeat' split
 all_goals first|exact Gd|exact RJ v|exact Lw v _
def Hd:ze []:=fun _ h=>by cases h
def SP (v:bX):(Nw v).sm:=by
 unfold Nw;split
 .exact yn
 .exact A2 (RJ v)
def abg (v:bX):(behC v).sm:=by
 unfold behC;split
 .exact Cj
 .exact A2 (XA _)
def E4 {v:bX}(h:v.sm):(dz v).sm:=by
 unfold dz;split
 .exact⟨Hd,Hd⟩
 .split
  .exact⟨Hd,fun x hx=>by obtain rfl:=aC.1 hx;exact⟨A2 h,A2 h⟩⟩
  .exact⟨fun x hx=>by obtain rfl:=aC.1 hx;exact⟨SP v,abg v⟩,Hd⟩
def abb:pf.sm:=⟨fun x hx=>by obtain rfl:=aC.1 hx;exact⟨yn,Cj⟩,fun x hx=>by obtain rfl:=aC.1 hx;exact⟨yn,Cj⟩⟩
structure Key where
 n:av
 f:av
 deriving Inhabited
def Key.D (k:Key):D:=.agg [.str k.n,.str k.f]
def sy (n:Int)(w:Want):Bool:=decide (0<w.u)&&decide (w.u<n)&&vH w.s
def oX (n:Int)(l:List Want):Bool:=bU (fun i=>sy n l[i]!) 0 l.length
def ra (n:Int)(l:List Want):Bool:=oX n l&&(decide (0<l.length)&&decide (l.length<=24))
def mO (n:Int)(c:en):Bool:=decide (c.needs.length<=24)&&decide (c.bars.length<=24)&&bU (fun i=>ra n c.needs[i]!) 0 c.needs.length&&oX n c.bars
def Hk (a b:Key):Int:=if pn a.n b.n≠0 then pn a.n b.n else pn a.f b.f
def jz (a b:cL):Bool:=Op.bytesLess a.name b.name ||(decide (a.name=b.name)&&Op.bytesLess a.feat b.feat)
def mP (n:Int)(cs:List en)(k:Nat):Bool:=gA cs[k]!.v&&mO n cs[k]! && !(decide (0<k)&&decide (0<=iz cs[k-1]!.v cs[k]!.v))
def lg (us:List cL)(i:Nat):Bool:=!(decide (0<i)&&decide (us[i]!.name=[]))&& !(decide (1<i)&& !jz us[i-1]! us[i]!)&&decide (us[i]!.cands.length<=16)&&bU (mP us.length us[i]!.cands) 0 us[i]!.cands.length
def uA (us:List cL):Bool:=decide (us[0]!.name=[])&&decide (us[0]!.feat=[])&&decide (us[0]!.cands.length=1)
def eu (w:bT):Bool:=decide (1<=w.us.length)&&decide (w.us.length<=48)&&uA w.us&&bU (lg w.us) 0 w.us.length
def sw (us:List cL)(i:Nat):Bool:=lg us i&& !(decide (i=0)&& !uA us)
def mb (a:av):Op.bytesLess a a=false:=by
 induction a with
 |nil=>rfl
 |cons x r ih=>unfold Op.bytesLess;simp[ih]
def TM (a b:cL):decide (0<=Hk ⟨a.name,a.feat⟩ ⟨b.name,b.feat⟩)=!jz a b:=by
 unfold Hk jz pn;have h:=mb b.name;by_cases h1:Op.bytesLess a.name b.name=true<;>by_cases h2:a.name=b.name<;>by_cases h3:Op.bytesLess a.feat b.feat=true<;>by_cases h4:a.feat=b.feat<;>simp_all
def DO (w:bT):eu w=(decide (1<=w.us.length)&&decide (w.us.length<=48)&&bU (sw w.us) 0 w.us.length):=by
 unfold eu;by_cases h:1<=w.us.length
 .have:bU (sw w.us) 0 w.us.length=(uA w.us&&bU (lg w.us) 0 w.us.length):=by
   rw[Bool.eq_iff_iff,aD,bw,bw];simp only[sw,aD,cz,ed,cv];constructor
   .intro g;have h0:=(g 0 ae ae).2;exact⟨by rcases h0 with h0|h0;exact absurd rfl h0;simpa using h0,fun j h1 h2=>(g j h1 h2).1⟩
   .rintro⟨g1,g2⟩ j h1 h2;exact⟨g2 j h1 h2,.inr (by simpa using g1)⟩
  rw[this];simp only[Bool.and_assoc]
 .simp[h]
def iCut (a b:Cut):Cut.D a=Cut.D b↔a=b:=by
 obtain⟨e,⟨v1,v2,v3,v4,v5⟩,x⟩:=a;obtain⟨e',⟨w1,w2,w3,w4,w5⟩,x'⟩:=b;simp[Cut.D,and_assoc]
def aeF (a b:List Cut):a.map Cut.D=b.map Cut.D↔a=b:=kF iCut a b
def WO (a b:Span):Span.D a=Span.D b↔a=b:=by
 obtain⟨⟨e,⟨v1,v2,v3,v4,v5⟩,x⟩,⟨f,⟨u1,u2,u3,u4,u5⟩,y⟩⟩:=a;obtain⟨⟨e',⟨w1,w2,w3,w4,w5⟩,x'⟩,⟨f',⟨t1,t2,t3,t4,t5⟩,y'⟩⟩:=b;simp[Span.D,and_assoc]
def Cc (a b:List Span):a.map Span.D=b.map Span.D↔a=b:=kF WO a b
def iSet (a b:cr):cr.D a=cr.D b↔a=b:=by cases a;cases b;simp[cr.D,Cc]
def WS (a b:Want):Want.D a=Want.D b↔a=b:=by
 obtain⟨u,⟨x,y⟩⟩:=a;obtain⟨u',⟨x',y'⟩⟩:=b;simp[Want.D,Cc]
def GO (a b:List Want):a.map Want.D=b.map Want.D↔a=b:=kF WS a b
def WU (a b:nH):jv a=jv b↔a=b:=by simp[jv,GO]
def N1 (a b:List nH):a.map jv=b.map jv↔a=b:=kF WU a b
def iCnd (a b:en):en.D a=en.D b↔a=b:=by
 obtain⟨⟨v1,v2,v3,v4,v5⟩,s,x,y⟩:=a;obtain⟨⟨w1,w2,w3,w4,w5⟩,s',x',y'⟩:=b;simp[en.D,N1,GO,and_assoc]
def WE (a b:List en):a.map en.D=b.map en.D↔a=b:=kF iCnd a b
def iUnt (a b:cL):cL.D a=cL.D b↔a=b:=by cases a;cases b;simp[cL.D,WE]
def WR (a b:List cL):a.map cL.D=b.map cL.D↔a=b:=kF iUnt a b
def iWld (a b:bT):bT.D a=bT.D b↔a=b:=by cases a;cases b;simp[bT.D,WR]
def iTrm (a b:dR):dR.D a=dR.D b↔a=b:=by cases a;cases b;simp[dR.D]
def aeK (a b:List dR):a.map dR.D=b.map dR.D↔a=b:=kF iTrm a b
def iKey (a b:Key):Key.D a=Key.D b↔a=b:=by cases a;cases b;simp[Key.D]
def iGs (a b:Gs):Gs.D a=Gs.D b↔a=b:=by cases a;cases b;simp[Gs.D,Tj]
end Go.Abs
section
namespace Go.Abs
structure cZ where
 name:av
 range:av
 feats:List av
 bare:Bool
 deriving Inhabited,DecidableEq
def cZ.D (x:cZ):D:=.agg [.str x.name,.str x.range,.sl 1 (x.feats.map D.str),.bool x.bare]
structure bj where
 any:List cZ
 when':av
 option:av
 deriving Inhabited,DecidableEq
def bj.D (x:bj):D:=.agg [.sl 4 (x.any.map cZ.D),.str x.when',.str x.option]
structure mA where
 name:av
 range:av
 when':av
 deriving Inhabited,DecidableEq
def mA.D (x:mA):D:=.agg [.str x.name,.str x.range,.str x.when']
structure b6 where
 name:av
 of:List av
 deriving Inhabited,DecidableEq
def b6.D (x:b6):D:=.agg [.str x.name,.sl 1 (x.of.map D.str)]
structure Rec where
 name:av
 v:bX
 needs:List bj
 bars:List mA
 feats:List b6
 deriving Inhabited,DecidableEq
def Rec.D (x:Rec):D:=.agg [.str x.name,.int .i64 x.v.major,.int .i64 x.v.minor,.int .i64 x.v.patch,.str x.v.pre,.str x.v.build,.sl 3 (x.needs.map bj.D),.sl 3 (x.bars.map mA.D),.sl 2 (x.feats.map b6.D)]
structure Cmp where
 op:Int
 parts:Int
 v:bX
 deriving Inhabited,DecidableEq
def Cmp.D (x:Cmp):D:=.agg [.int .i64 x.op,.int .i64 x.parts,.int .i64 x.v.major,.int .i64 x.v.minor,.int .i64 x.v.patch,.str x.v.pre,.str x.v.build]
structure Nd where
 op:Int
 a:Int
 b:Int
 key:Int
 text:av
 deriving Inhabited,DecidableEq
def Nd.D (x:Nd):D:=.agg [.int .i64 x.op,.int .i64 x.a,.int .i64 x.b,.int .i64 x.key,.str x.text]
def mA.eq (a b:mA):gV (mA.D a).cells (mA.D b).cells=decide (a=b):=by
 obtain⟨a1,a2,a3⟩:=a;obtain⟨b1,b2,b3⟩:=b
 grind [mA.D,D.cells,gV,sM]
def cZ.same {a b:cZ}(e1:a.name=b.name)(e2:a.range=b.range)(e3:a.bare=b.bare):decide (a=b)=decide (a.feats=b.feats):=by
 obtain⟨a1,a2,a3,a4⟩:=a;obtain⟨b1,b2,b3,b4⟩:=b
 grind
def rising (l:List av):Bool:=bU (fun i=>Op.bytesLess l[i-1]! l[i]!) 1 l.length
def bI (s:av):Int×av×av:=
 if gC s=true then(1,s,[])
 else if s.length>0/\at8 s 0=63/\gC (s.drop 1)=true then(2,s.drop 1,[])
 else if(a7 s 47).length=2/\dd (a7 s 47)[0]! =true/\gC (a7 s 47)[1]! =true then(3,(a7 s 47)[0]!,(a7 s 47)[1]!)
 else(0,[],[])
def findF (l:List b6)(nm:av)(i:Nat):Int:=match(l.drop i).findIdx? (fun x=>decide (x.name=nm))with
 |some k=>((i+k:Nat):Int)
 |none=>-1
def Wm {l:List b6}{nm:av}{i:Nat}(h:i<l.length)(he:l[i]!.name=nm):findF l nm i=(i:Nat):=by
 unfold findF;rw[eY h,List.findIdx?_cons]
 grind
def Wn {l:List b6}{nm:av}{i:Nat}(h:i<l.length)(he:¬l[i]!.name=nm):findF l nm i=findF l nm (i+1):=by
 unfold findF;have:¬l[i].name=nm:=by simpa[h]using he
 rw[eY h,List.findIdx?_cons]
 grind
def S5 {l:List b6}{nm:av}{i:Nat}(h:l.length<=i):findF l nm i=-1:=by
 unfold findF;rw[j2 h];rfl
def kW:av:=[100,101,102,97,117,108,116]
def isF (l:List b6)(nm:av):Bool:=decide (nm=kW) ||decide (0<=findF l nm 0)
def aiq (l:List b6)(s:av):Bool:=!(decide ((bI s).1=0) ||(decide ((bI s).1=1)&& !isF l (bI s).2.1))
def WZ (l:List b6)(of:List av):Bool:=decide (of.length<=6)&&rising of&&bU (fun i=>aiq l of[i]!) 0 of.length
def Wf (l:List b6)(i:Nat):Bool:=gC l[i]!.name&& !(decide (0<i)&& !Op.bytesLess l[i-1]!.name l[i]!.name)&&WZ l l[i]!.of
def dZ (l:List b6):Bool:=decide (l.length<=8)&&bU (Wf l) 0 l.length
def b6.sm (x:b6):Prop:=x.name.length<=1048576/\x.of.length<=1048576/\∀t∈x.of,t.length<=1048576
def ofL:List (List av):=[[],[[63,111]],[[97,110,116,47,102]],[[98,101,101,47,102]],[[99,111,119,47,102]],[[100,111,103,47,102]],[[63,111],[97,110,116,47,102]],[[63,111],[98,101,101,47,102]],[[63,111],[99,111,119,47,102]],[[63,111],[100,111,103,47,102]]]
def BO:List (List b6):=[]::ofL.map fun o=>[⟨[102],o⟩]
def jh (l:List b6):Prop:=l∈BO
def Fc (b:av):∀(l:List av) (i:Nat),(ch b (l.take i)).length<=(ch b l).length
 |[],i=>aF
 |[t],0=>by simp[ch]
 |[t],i+1=>aF
 |t::u::r,0=>by simp[ch]
 |t::u::r,1=>by simp[ch]
 |t::u::r,i+2=>by
  have:=Fc b (u::r) (i+1)
  grind [ch]
def Cg (b t:av):∀(l:List av),l≠[]->ch b (l++[t])=ch b l++b++t
 |[],h=>absurd rfl h
 |[u],_=>by simp[ch]
 |u::v::r,_=>by
  have:=Cg b t (v::r) aF
  grind [ch]
def Ch (b:av)(l:List av)(i:Nat)(h:i<l.length):ch b (l.take (i+1))=(if 0<i then ch b (l.take i)++b else [])++l[i]! :=by
 have e:l.take (i+1)=l.take i++[l[i]!]:=by
  rw[List.take_add_one,List.getElem?_eq_getElem h];simp[h]
 rw[e];by_cases h0:0<i
 .rw[ak h0,Cg _ _ _ (by intro hn;have:=aw List.length hn;simp only[ek,b9]at this;omega)]
 grind [ch]
end Go.Abs
namespace Go.Abs
end Go.Abs
end
namespace Go.Abs
def jb:av->av->List av
 |[],cur=>[cur]
 |[c],cur=>[cur++[c]]
 |c::d::r,cur=>if c=124/\d=124 then cur::jb r []else jb (d::r) (cur++[c])
def zj:av->av
 |[]=>[]
 |c::r=>if c=32 then zj r else c::r
def BG (s:av):av:=(zj (zj s).reverse).reverse
def j0:List av:=[[42],[94,49,46,48,46,48],[61,49,46,50,46,48],[62,61,49,46,50,46,48],[60,50,46,48,46,48],[94,50,46,48,46,48,45,97,46,49],[61,49,46,48,46,48,32,124,124,32,61,50,46,48,46,48],[33,61,49,46,50,46,48]]
def Ls:List av:=[[],[111,115,32,61,32,108,105,110,117,120],[111,115,32,33,61,32,108,105,110,117,120]]
def To:List av:=[[63,111],[97,110,116,47,102],[98,101,101,47,102],[99,111,119,47,102],[100,111,103,47,102]]
def qz (s:av):Bool:=j0.contains s
def wQ (s:av):Bool:=Ls.contains s
def j9 (s:av):Prop:=s∈j0
def oG (s:av):Prop:=s∈Ls
def qW (s:av):Prop:=s∈To
def j9.len {s:av}(h:j9 s):s.length<=1048576:=by
 have:∀s∈j0,s.length<=1048576:=aU
 exact this s h
def oG.len {s:av}(h:oG s):s.length<=1048576:=by
 have:∀s∈Ls,s.length<=1048576:=aU
 exact this s h
def qW.len {s:av}(h:qW s):s.length<=1048576:=by
 have:∀s∈To,s.length<=1048576:=aU
 exact this s h
theorem jh.sm {l:List b6}(h:jh l):∀x∈l,x.sm:=by
 have:∀l∈BO,∀x∈l,x.name.length<=1048576/\x.of.length<=1048576/\∀t∈x.of,t.length<=1048576:=aU
 exact this l h
def jh.it {l:List b6}(h:jh l):∀x∈l,∀s∈x.of,qW s:=by
 have:∀l∈BO,∀x∈l,∀s∈x.of,s∈To:=aU
 exact this l h
def qk (f:Nat->Int):Nat->Nat->Int×Int
 |_,0=>(0,0)
 |i,k+1=>if f i=0 then qk f (i+1) k else(f i,((i:Nat):Int))
def gI (f:Nat->Int)(i n:Nat):Int×Int:=qk f i (n-i)
def j5 {f:Nat->Int}{i n:Nat}(h:i<n)(hf:f i=0):gI f i n=gI f (i+1) n:=by
 unfold gI;obtain⟨k,hk⟩:∃k,n-i=k+1:=⟨n-i-1,ae⟩
 grind [qk]
def gJ {f:Nat->Int}{i n:Nat}(h:i<n)(hf:f i≠0):gI f i n=(f i,((i:Nat):Int)):=by
 unfold gI;obtain⟨k,hk⟩:∃k,n-i=k+1:=⟨n-i-1,ae⟩
 rw[hk];simp only[qk,hf,aZ]
def j4 {f:Nat->Int}{i n:Nat}(h:n<=i):gI f i n=(0,0):=by
 unfold gI;rw[show n-i=0 by omega];rfl
def gB (r:Rec)(name rng:av):Int:=if dd name=false then 4 else if name=r.name then 8 else if qz rng=false then 6 else 0
def wfB (l:List av)(i:Nat):Bool:=gC l[i]! && !(decide (0<i)&& !Op.bytesLess l[i-1]! l[i]!)
def nu (l:List av)(alone:Bool):Bool:=(decide (l.length<=6)&&(alone ||decide (l.length=0)))&&bU (wfB l) 0 l.length
def lh (r:Rec)(w:cZ)(alone:Bool):Int:=if gB r w.name w.range≠0 then gB r w.name w.range else if nu w.feats alone=false then 11 else 0
def nv (r:Rec)(l:List cZ):Int:=fM (fun i=>lh r l[i]! (decide ((l.length:Int)=1))) 0 l.length
def js (r:Rec)(n:bj):Int:=if n.any.length=0 then 9 else if 3<n.any.length then 3 else if nv r n.any≠0 then nv r n.any else
 if wQ n.when'=false then 7 else if n.option≠[]/\gC n.option=false then 14 else 0
def rv (r:Rec)(b:mA):Int:=if gB r b.name b.range≠0 then gB r b.name b.range else if wQ b.when'=false then 7 else 0
def XR (l:List bj)(x:av):Bool:=l.any fun n=>decide (n.option=x)
def LR (l:List bj)(x:av):Bool:=l.any fun n=>decide (n.any.length=1)&&decide (n.any[0]!.name=x)
def nQ (r:Rec)(s:av):Int:=if(bI s).1=2/\XR r.needs (bI s).2.1=false then 14 else if(bI s).1=3/\LR r.needs (bI s).2.1=false then 16 else 0
def mE (r:Rec)(of:List av):Int:=fM (fun i=>nQ r of[i]!) 0 of.length
def lz (r:Rec):Int×Int:=gI (fun i=>js r r.needs[i]!) 0 r.needs.length
def uw (r:Rec):Int×Int:=gI (fun i=>rv r r.bars[i]!) 0 r.bars.length
def GG (r:Rec):Int×Int:=gI (fun i=>mE r r.feats[i]!.of) 0 r.feats.length
def ea (r:Rec):Int×Int:=if(lz r).1≠0 then lz r else if(uw r).1≠0 then uw r else if dZ r.feats=false then(11,0)else GG r
def ZH (n:Nat)(al:Bool):(decide ((6:Int)<(n:Nat)) ||(decide ((0:Int)<(n:Nat))&& !al))=!(decide (n<=6)&&(al ||decide (n=0))):=by
 grind
def wf_c (l:List av)(i:Nat):(!gC l[i]! ||(decide ((0:Int)<(i:Nat))&& !Op.bytesLess l[i-1]! l[i]!))=!wfB l i:=by
 unfold wfB
 grind
def wf_2 (l:List av)(al:Bool):(bU (fun i=>gC l[i]!) 0 l.length&&((decide (l.length<=6)&&rising l)&&(al ||decide (l.length=0))))=nu l al:=by
 grind [bU,wfB,gC,rising,bw,nu]
def itC (k:Int)(x:av)(n:bj):Bool:=(decide (k=2)&&decide (n.option=x)) ||((decide (k=3)&&decide ((n.any.length:Int)=1))&&decide (n.any[0]!.name=x))
def itE (k:Int):Int:=if k=2 then 14 else if k=3 then 16 else 0
def WY (r:Rec)(s:av):nQ r s=if r.needs.any (itC (bI s).1 (bI s).2.1)=true then 0 else itE (bI s).1:=by
 grind [nQ,itE,XR,LR,bI,itC]
def v8 {α:Type} [Inhabited α]{c:α->Bool}{l:List α}{i:Nat}(h:i<l.length)(hc:c l[i]! =true):(l.drop i).any c=true:=by
 rw[eY h,List.any_cons]
 grind
def BB {α:Type} [Inhabited α]{c:α->Bool}{l:List α}{i:Nat}(h:i<l.length)(hc:c l[i]! =false):(l.drop i).any c=(l.drop (i+1)).any c:=by
 rw[eY h,List.any_cons]
 grind
def v7 {α:Type}{c:α->Bool}{l:List α}{i:Nat}(h:l.length<=i):(l.drop i).any c=false:=by
 rw[j2 h];rfl
def F4:av:=[110,101,101,100]
def rq:av:=[97,110,121]
def xT:av:=[119,104,101,110]
def nt:av:=[111,112,116,105,111,110]
def y0:av:=[98,97,114]
def jL:av:=[102,101,97,116,117,114,101]
def pR:av:=[112,97,99,107,97,103,101]
def rm:av:=[102,117,108,108]
def rl:av:=[98,97,114,101]
def cj (l:List av):av:=ch [32] l++[10]
def sz (w:cZ):List av:=[rq,w.name,if w.feats.length=0 then [45]else ch [44] w.feats,if w.bare=true then rl else rm,w.range]
def kf (s:av):av:=if s=[]then []else cj [xT,s]
def xb (s:av):av:=if s=[]then []else cj [nt,s]
def zG (n:bj):av:=cj [F4]++(n.any.map fun w=>cj (sz w)).flatten++kf n.when'++xb n.option
def Gt (b:mA):av:=cj [y0,b.name,b.range]++kf b.when'
def wC (f:b6):av:=cj ([jL,f.name]++f.of)
def uB (r:Rec):av:=cj [pR,r.name,um r.v]
def DC (r:Rec):av:=uB r++(r.needs.map zG).flatten++(r.bars.map Gt).flatten++(r.feats.map wC).flatten
def cS (r:Rec):Int×Int:=if dd r.name=false then(4,0)else if gA r.v=false then(5,0)else if 8<r.needs.length\/8<r.bars.length then(3,0)else
 if(ea r).1≠0 then ea r else if 4096<(DC r).length then(3,0)else(0,0)
def fh (r:Rec):av×Int:=if(cS r).1≠0 then([],(cS r).1)else(DC r,0)
def cZ.sm (w:cZ):Prop:=(w.name.length<=1048576/\j9 w.range)/\∀t∈w.feats,t.length<=1048576
def bj.sm (n:bj):Prop:=(∀w∈n.any,w.sm)/\oG n.when'/\n.option.length<=1048576
def mA.sm (b:mA):Prop:=b.name.length<=1048576/\j9 b.range/\oG b.when'
def gZ (r:Rec):Prop:=(r.name.length<=1048576/\r.v.sm)/\(∀n∈r.needs,n.sm)/\(∀b∈r.bars,b.sm)/\jh r.feats
def LJ {r:Rec}{e:Int×Int}(h:lz r=e)(hn:e.1≠0):ea r=e:=by grind [ea]
def CE {r:Rec}{e:Int×Int}(h0:lz r=(0,0))(h:uw r=e)(hn:e.1≠0):ea r=e:=by grind [ea]
def LK {r:Rec}(h0:lz r=(0,0))(h1:uw r=(0,0))(h:dZ r.feats=false):ea r=(11,0):=by grind [ea]
def xe {r:Rec}{e:Int×Int}(h0:lz r=(0,0))(h1:uw r=(0,0))(h:dZ r.feats=true)(h2:GG r=e):ea r=e:=by grind [ea]
def B1 (f:Nat->Int):∀(k i:Nat),(qk f i k).1=0->qk f i k=(0,0)
 |0,_,_=>rfl
 |k+1,i,h=>by
  simp only[qk]at h⊢;by_cases hf:f i=0
  .rw[ak hf]at h⊢;exact B1 f k (i+1) h
  .rw[ah hf]at h;exact absurd h hf
def LL {r:Rec}(h:(ea r).1=0):ea r=(0,0):=by
 unfold ea at h⊢;split
 .rename_i h1;rw[ak h1]at h;exact absurd h h1
 .rename_i h1;rw[ah h1]at h;split
  .rename_i h2;rw[ak h2]at h;exact absurd h h2
  .rename_i h2;rw[ah h2]at h;split
   .rename_i h3;rw[ak h3]at h;cases h
   .rename_i h3;rw[ah h3]at h;exact B1 _ _ _ h
def pk {r:Rec}{e:Int×Int}(h0:dd r.name=true)(h1:gA r.v=true)(h2:¬8<r.needs.length)(h3:¬8<r.bars.length)(hp:ea r=e)(hn:e.1≠0):cS r=e:=by
 grind [cS]
def wo {r:Rec}(h0:dd r.name=true)(h1:gA r.v=true)(h2:¬8<r.needs.length)(h3:¬8<r.bars.length)(hp:ea r=(0,0)):cS r=if 4096<(DC r).length then(3,0)else(0,0):=by
 grind [cS]
def E9 (r:Rec):Prop:=(dd r.name=true/\gA r.v=true)/\(r.needs.length<=8/\r.bars.length<=8)/\ea r=(0,0)
def BZ {f:Nat->Int}:∀{k i:Nat},rM f i k=0->∀j,i<=j->j<i+k->f j=0
 |0,i,_,j,h1,h2=>absurd h2 ae
 |k+1,i,h,j,h1,h2=>by
  simp only[rM]at h;by_cases hf:f i=0
  .rw[ak hf]at h;by_cases hj:j=i
   .rw[hj];exact hf
   .exact BZ h j ae ae
  .rw[ah hf]at h;exact absurd h hf
def BX {f:Nat->Int}{n:Nat}(h:fM f 0 n=0)(j:Nat)(hj:j<n):f j=0:=BZ h j ae ae
def B0 {f:Nat->Int}:∀{k i:Nat},(qk f i k).1=0->∀j,i<=j->j<i+k->f j=0
 |0,i,_,j,h1,h2=>absurd h2 ae
 |k+1,i,h,j,h1,h2=>by
  simp only[qk]at h;by_cases hf:f i=0
  .rw[ak hf]at h;by_cases hj:j=i
   .rw[hj];exact hf
   .exact B0 h j ae ae
  .rw[ah hf]at h;exact absurd h hf
def qj {f:Nat->Int}{n:Nat}(h:(gI f 0 n).1=0)(j:Nat)(hj:j<n):f j=0:=B0 h j ae ae
def cZ.fit (w:cZ):Prop:=w.sm/\(w.feats.length<=6/\∀t∈w.feats,t.length<=12)
def bj.fit (n:bj):Prop:=(n.any.length<=3/\∀w∈n.any,w.fit)/\n.when'.length<=1048576/\n.option.length<=1048576
def b6.fit (x:b6):Prop:=x.sm/\x.of.length<=6
structure Rec.fit (r:Rec):Prop where
 nm:r.name.length<=1048576
 v:r.v.sm
 ns:r.needs.length<=8
 n:∀x∈r.needs,x.fit
 bs:r.bars.length<=8
 b:∀x∈r.bars,x.sm
 fs:r.feats.length<=8
 f:∀x∈r.feats,x.fit
theorem fQ {α:Type} [Inhabited α]{l:List α}{x:α}(h:x∈l):∃i,i<l.length/\l[i]! =x:=by
 obtain⟨i,hi,e⟩:=List.mem_iff_getElem.1 h;exact⟨i,hi,by rw[<-e];simp[hi]⟩
def ZI {r:Rec}{w:cZ}{al:Bool}(h:lh r w al=0)(hs:w.sm):w.fit:=by
 refine⟨hs, ?_⟩
 grind [lh,nu,bw,fQ,wfB,gC]
def Xx {r:Rec}{n:bj}(h:js r n=0)(hs:n.sm):n.fit:=by
 unfold js at h;split at h
 .cases h
 split at h
 .cases h
 rename_i h1 h2;split at h
 .rename_i h3;exact absurd h h3
 rename_i h3;refine⟨⟨ae,fun w hw=>?_⟩,hs.2.1.len,hs.2.2⟩;obtain⟨i,hi,rfl⟩:=fQ hw;exact ZI (BX (Classical.not_not.1 h3) i hi) (hs.1 _ hw)
def sQ {r:Rec}(h:E9 r/\gZ r):r.fit:=by
 obtain⟨⟨_,⟨h1,h2⟩,hp⟩,⟨s1,s2⟩,s3,s4,s5⟩:=h;have h0:(lz r).1=0/\dZ r.feats=true:=by
  grind [ea]
 obtain⟨h3,h4⟩:=h0;simp only[dZ,aD,aW,bw]at h4;refine⟨s1,s2,h1,fun x hx=>?_,h2,s4,h4.1,fun x hx=>⟨s5.sm x hx, ?_⟩⟩
 .obtain⟨i,hi,rfl⟩:=fQ hx;exact Xx (qj h3 i hi) (s3 _ hx)
 grind [fQ,Wf,WZ]
def pC (x:UInt8)(B:Nat):∀l:List av,(∀t∈l,t.length<=B)->(ch [x] l).length<=l.length*(B+1)
 |[],_=>by simp[ch]
 |[t],h=>by have:=h t (.head _);simp only[ch,bD,b9];omega
 |t::u::r,h=>by
  have h1:=h t (.head _);have h2:=pC x B (u::r) fun y hy=>h y (.tail _ hy)
  simp only[ch,cn,bD,b9,Nat.succ_mul]at h2⊢;omega
def DN {w:cZ}(h:w.fit):(ch [44] w.feats).length<=6291462:=by
 have h1:=pC 44 1048576 w.feats h.1.2;have h2:=fH (1048576+1) h.2.1;omega
def Ib {w:cZ}(h:w.fit):(ch [44] w.feats).length<=78:=by
 have h1:=pC 44 12 w.feats h.2.2;have h2:=fH (12+1) h.2.1;omega
def jM (w:cZ):av:=cj (sz w)
def y1 {w:cZ}(h:w.fit):(jM w).length<=8400000:=by
 have h1:=DN h;have h2:=And.intro h.1.1.1 h.1.1.2.len;simp only[jM,cj,sz,ch,cn,bD,b9]
 grind [rq,rl,rm]
def nE {s:av}(h:s.length<=1048576):(kf s).length<=1048590:=by
 unfold kf;split
 .simp
 .simp only[cj,ch,xT,cn,bD,b9];omega
def XV {s:av}(h:s.length<=1048576):(xb s).length<=1048590:=by
 unfold xb;split
 .simp
 .simp only[cj,ch,nt,cn,bD,b9];omega
def wF {α:Type}(q:α->av)(B:Nat){l:List α}(h:∀x∈l,(q x).length<=B)(i:Nat):(((l.take i).map q).flatten).length<=i*B:=by
 have h1:=rO q B (l.take i) fun x hx=>h x (D6 hx)
 have h2:=fH B (List.length_take_le i l);omega
theorem sN {α:Type} [Inhabited α](q:α->av){l:List α}{i:Nat}(h:i<l.length):((l.take (i+1)).map q).flatten=((l.take i).map q).flatten++q l[i]! :=by
 rw[List.take_add_one,List.getElem?_eq_getElem h,List.map_append,List.flatten_append];simp[h]
def TB {n:bj}(h:n.fit):(zG n).length<=27400000:=by
 have h1:=rO jM 8400000 n.any fun w hw=>y1 (h.1.2 w hw)
 have h2:=fH 8400000 h.1.1;have h3:=nE h.2.1;have h4:=XV h.2.2;have h5:(cj [F4]).length=5:=rfl;unfold jM at h1
 grind [zG]
def Vz {b:mA}(h:b.sm):(Gt b).length<=3145800:=by
 have h1:=nE h.2.2.len;have h2:=h.1;have h3:=h.2.1.len;simp only[Gt,cj,ch,y0,cn,bD,b9];omega
def E5 {x:b6}(h:x.fit):(wC x).length<=8400000:=by
 have h1:=pC 32 1048576 ([jL,x.name]++x.of) (by
  intro t ht;simp only[sD,qM,bF]at ht;rcases ht with rfl|rfl|ht
  .simp[jL]
  .exact h.1.1
  .exact h.1.2.2 _ ht)
 have h2:=h.2
 grind [jL,wC,cj]
def Ti {r:Rec}(h1:r.name.length<=1048576)(h2:r.v.sm):(uB r).length<=3145800:=by
 have h3:=DL r.v h2;simp only[uB,cj,ch,pR,cn,bD,b9];omega
def dJ (n:bj)(j:Nat):av:=cj [F4]++((n.any.take j).map jM).flatten
def nY {n:bj}{j:Nat}(h:j<n.any.length):dJ n (j+1)=dJ n j++jM n.any[j]! :=by grind [dJ,sN,jM]
def yD {n:bj}{j:Nat}(h:n.any.length<=j):zG n=dJ n j++kf n.when'++xb n.option:=by
 rw[dJ,gK h];rfl
def Fl {n:bj}(h:n.fit)(j:Nat)(hj:j<=3):(dJ n j).length<=25200005:=by
 have h1:=wF jM 8400000 (fun w hw=>y1 (h.1.2 w hw)) j;have h2:=fH 8400000 hj;have h5:(cj [F4]).length=5:=rfl
 grind [dJ]
def kj (r:Rec)(i:Nat):av:=uB r++((r.needs.take i).map zG).flatten
def DF (r:Rec)(i:Nat):av:=kj r r.needs.length++((r.bars.take i).map Gt).flatten
def F1 (r:Rec)(i:Nat):av:=DF r r.bars.length++((r.feats.take i).map wC).flatten
def Zr (r:Rec):kj r 0=uB r:=by simp[kj]
def Zs (r:Rec):DF r 0=kj r r.needs.length:=by simp[DF]
def Zt (r:Rec):F1 r 0=DF r r.bars.length:=by simp[F1]
def H6 (r:Rec):F1 r r.feats.length=DC r:=by grind [F1,DF,kj,DC]
def mr {r:Rec}{i:Nat}(h:i<r.needs.length):kj r (i+1)=kj r i++zG r.needs[i]! :=by grind [kj,sN,zG]
def MY {r:Rec}{i:Nat}(h:i<r.bars.length):DF r (i+1)=DF r i++Gt r.bars[i]! :=by grind [DF,sN,Gt]
def MZ {r:Rec}{i:Nat}(h:i<r.feats.length):F1 r (i+1)=F1 r i++wC r.feats[i]! :=by grind [F1,sN,wC]
def H4 {r:Rec}(h:r.fit)(i:Nat)(hi:i<=r.needs.length):(kj r i).length<=222400000:=by
 have a0:=Ti h.nm h.v;have a1:=wF zG 27400000 (fun x hx=>TB (h.n x hx)) i;have b1:=fH 27400000 (eX hi h.ns);simp only[kj,cn];omega
def H5 {r:Rec}(h:r.fit)(i:Nat)(hi:i<=r.bars.length):(DF r i).length<=247600000:=by
 have a0:=H4 h r.needs.length (aO _);have a1:=wF Gt 3145800 (fun x hx=>Vz (h.b x hx)) i;have b1:=fH 3145800 (eX hi h.bs);simp only[DF,cn];omega
def R4 {r:Rec}(h:r.fit)(i:Nat)(hi:i<=r.feats.length):(F1 r i).length<=314800000:=by
 have a0:=H5 h r.bars.length (aO _);have a1:=wF wC 8400000 (fun x hx=>E5 (h.f x hx)) i;have b1:=fH 8400000 (eX hi h.fs);simp only[F1,cn];omega
theorem lS {r:Rec}(h:(cS r).1=0):E9 r:=by
 unfold cS at h;split at h
 .cases h
 split at h
 .cases h
 split at h
 .cases h
 rename_i a b c;split at h
 .rename_i d;exact absurd h d
 rename_i d;exact⟨⟨by simpa using a,by simpa using b⟩,⟨ae,ae⟩,LL (Classical.not_not.1 d)⟩
def vL (r:Rec):Int:=if(fh r).2≠0 then 0 else sumL (fh r).1
def ur (m:List (Nat×bd))(l:Nat)(t:List UInt8):Prop:=(∃u,look m l=some (.bld none 0 u)/\t=[])\/(∃l2 u,look m l=some (.bld (some l2) t.length u)/\look m l2=some (.row t))
@[go_sem] def fU (m:List (Nat×bd))(l:Nat):List (Nat×bd):=match look m l with
 |some (.bld (some l2) _ _)=>cW m l2
 |_=>m
@[go_sem] def rA (m:List (Nat×bd))(l L:Nat)(t:List UInt8):List (Nat×bd):=(L,.row t)::cO (fU m l) l (.bld (some L) t.length true)
def TrW (aEc:D)(s:List UInt8)(ds:List D)(st:St)(K:D->St->Prop):Prop:=∃l t,ds=[.ptr l 2 0 0,aEc]/\ur st.m l t/\l<st.nx/\s≠[]/\t.length+s.length<=1099511627776/\K .any ⟨st.nx+1,rA st.m l st.nx (t++s)⟩
def trWS (ds:List D)(st:St)(K:D->St->Prop):Prop:=∃s,TrW (.str s) s ds st K
def trWB (ds:List D)(st:St)(K:D->St->Prop):Prop:=∃c,TrW (.int .u8 c.toNat) [c] ds st K
def trBS (ds:List D)(st:St)(K:D->St->Prop):Prop:=∃l t,ds=[.ptr l 2 0 0]/\ur st.m l t/\t≠[]/\K (.str t) ⟨st.nx,cW (fU st.m l) l⟩
def C489 (Y:Ctx):Prop:=∀(ds:List D) (st:St) (K:D->St->Prop),trWS ds st K->Y.tr 489 ds st K
def C664 (Y:Ctx):Prop:=∀(ds:List D) (st:St) (K:D->St->Prop),trWB ds st K->Y.tr 664 ds st K
def C452 (Y:Ctx):Prop:=∀(ds:List D) (st:St) (K:D->St->Prop),trBS ds st K->Y.tr 452 ds st K
def Tp (b a:av)(l:List av)(h:a≠[]):ch b (a::l)≠[]:=by
 match l with
 |[]=>exact h
 |c::r=>
  rw[vl b a (c::r) aF];intro e;have:=List.append_eq_nil_iff.1 e;exact h (List.append_eq_nil_iff.1 this.1).1
def Gk (ws:List av)(t:av):Prop:=(ch [32] ws≠[]/\ws.length<=1048600)/\(∀w∈ws,w.length<=2097200)/\t.length+(ch [32] ws).length+1<=1099511627776
def Gk.mk {a:av}{l:List av}{t:av}(h1:a≠[])(h2:l.length<=99)(h3:∀w∈a::l,w.length<=2097200)(h4:t.length<=1000000000):Gk (a::l) t:=by
 have h5:=pC 32 2097200 (a::l) h3;have h6:(a::l).length<=100:=by simp only[bD];omega
 have h7:=fH (2097200+1) h6;exact⟨⟨Tp _ _ _ h1,ae⟩,h3,ae⟩
def C450 (Y:Ctx):Prop:=∀(ws:List av) (t:av) (l lw nx:Nat) (m:List (Nat×bd)) (K:D->St->Prop),ur m l t->look m lw=some (.buf 1 (ws.map D.str))->l<nx->lw<nx->Gk ws t->
 K (.tup []) ⟨nx+1,rA (cW m lw) l nx (t++cj ws)⟩->Y.tr 450 [.ptr l 2 0 0,.own lw 1 0 ws.length] ⟨nx,m⟩ K
def yw {m:List (Nat×bd)}{l L:Nat}{t:List UInt8}(h:l≠L):look (rA m l L t) l=some (.bld (some L) t.length true)/\look (rA m l L t) L=some (.row t):=by
 constructor
 .simp only[rA,look,ah (fun e=>h (Eq.symm e))]
  haveI:cG:={gd:=fun _=>True,le:=fun _ _ _ _ _=>trivial}
  rw[bK,ak rfl]
 .simp only[rA,look,ak]
def abj {m:List (Nat×bd)}{l L:Nat}{t:List UInt8}(h:l≠L):ur (rA m l L t) l t:=.inr ⟨L,true,yw h⟩
end Go.Abs
section
namespace Go.Abs
structure ki where
 r:Rec
 sum:Int
 off:Bool
 deriving Inhabited,DecidableEq
def ki.D (x:ki):D:=.agg [.str x.r.name,.int .i64 x.r.v.major,.int .i64 x.r.v.minor,.int .i64 x.r.v.patch,.str x.r.v.pre,.str x.r.v.build,.sl 3 (x.r.needs.map bj.D),.sl 3 (x.r.bars.map mA.D),.sl 2 (x.r.feats.map b6.D),.int .u64 x.sum,.bool x.off]
structure bJ where
 name:av
 es:List ki
 deriving Inhabited,DecidableEq
def bJ.D (s:bJ):D:=.agg [.str s.name,.sl 11 (s.es.map ki.D)]
def K6 (nm:av)(v:bX)(x:ki):Bool:=decide (x.r.name=nm)&&LC x.r.v v
def ain {nm:av}{v:bX}{x:ki}(h:¬x.r.name=nm\/LC x.r.v v=false):K6 nm v x=false:=by
 grind [K6]
def acB {nm:av}{v:bX}{x:ki}(h:x.r.name=nm/\LC x.r.v v=true):K6 nm v x=true:=by
 grind [K6]
def r7 (l:List ki)(nm:av)(v:bX)(i:Nat):Int:=match(l.drop i).findIdx? (K6 nm v)with
 |some k=>((i+k:Nat):Int)
 |none=>-1
def X2 {l:List ki}{nm:av}{v:bX}{i:Nat}(h:i<l.length)(he:K6 nm v l[i]! =true):r7 l nm v i=(i:Nat):=by
 unfold r7;rw[eY h,List.findIdx?_cons]
 grind
def X4 {l:List ki}{nm:av}{v:bX}{i:Nat}(h:i<l.length)(he:K6 nm v l[i]! =false):r7 l nm v i=r7 l nm v (i+1):=by
 unfold r7;have:K6 nm v l[i]=false:=by simpa[h]using he
 rw[eY h,List.findIdx?_cons]
 grind
def Rt {l:List ki}{nm:av}{v:bX}{i:Nat}(h:l.length<=i):r7 l nm v i=-1:=by
 unfold r7;rw[j2 h];rfl
def rH (l:List ki)(i:Nat):Bool:=decide ((fh l[i]!.r).2=0)&&decide (vL l[i]!.r=l[i]!.sum)&&decide (r7 (l.take i) l[i]!.r.name l[i]!.r.v 0<0)
def gQ (s:bJ):Bool:=(dd s.name&&decide (s.es.length<=64))&&bU (rH s.es) 0 s.es.length
theorem CL {r:Rec}(h:(fh r).2=0):gA r.v=true:=by
 grind [cS,fh,lS]
def X3 {l:List ki}{nm:av}{v:bX}:r7 l nm v 0<0↔∀x∈l,K6 nm v x=false:=by
 grind [r7,K6]
theorem Fv {l:List ki}{i:Nat}(h:i<l.length)(hv:gA l[i]!.r.v=true):decide (r7 l l[i]!.r.name l[i]!.r.v 0=(i:Nat))=decide (r7 (l.take i) l[i]!.r.name l[i]!.r.v 0<0):=by
 have hi:K6 l[i]!.r.name l[i]!.r.v l[i]! =true:=by unfold K6;rw[Ft hv,bo rfl];rfl
 apply lI.2;rw[X3];constructor
 .intro he x hx;obtain⟨j,hj,rfl⟩:=List.mem_take_iff_getElem.1 hx;have hj2:j<i:=ae;unfold r7 at he;rw[dI]at he;cases hf:l.findIdx? (K6 l[i]!.r.name l[i]!.r.v)with
  |none=>rw[hf]at he;simp only at he;omega
  |some k=>
   rw[hf]at he;obtain⟨h1,h2,h3⟩:=List.findIdx?_eq_some_iff_getElem.1 hf;have hk:k=i:=by simp only at he;omega
   subst hk;have:=h3 j hj2;simpa using this
 .intro hx;unfold r7;rw[dI];have:l.findIdx? (K6 l[i]!.r.name l[i]!.r.v)=some i:=by
   rw[List.findIdx?_eq_some_iff_getElem];refine⟨h,by simpa[h]using hi,fun j hj=>?_⟩;have:=hx l[j] (List.mem_take_iff_getElem.2 ⟨j,ae,rfl⟩);rw[this];decide
  rw[this];simp
def V5 {l:List ki}{i:Nat}(h:i<l.length)(h1:(fh l[i]!.r).2=0)(h2:vL l[i]!.r=l[i]!.sum)(h3:r7 l l[i]!.r.name l[i]!.r.v 0=(i:Nat)):rH l i=true:=by
 grind [Fv,CL,rH]
def ab3 {l:List ki}{i:Nat}(h:i<l.length)(h1:(¬(fh l[i]!.r).2=0\/¬vL l[i]!.r=l[i]!.sum)\/¬r7 l l[i]!.r.name l[i]!.r.v 0=(i:Nat)):rH l i=false:=by
 grind [rH,fh,vL,Fv,CL]
end Go.Abs
namespace Go.Abs
def adJ {s:bJ}(h:gQ s=true):s.name.length<=16/\s.es.length<=64:=by
 grind [gQ,dd]
end Go.Abs
end
namespace Go.Abs
def Gy (a b:Int):Int:=IntKind.i64.wrap ((BitVec.ofInt 64 a&&&BitVec.ofInt 64 b).toNat)
def bvN (a b:Int):Int:=IntKind.i64.wrap ((BitVec.ofInt 64 a&&& ~~~ BitVec.ofInt 64 b).toNat)
def bvO (a b:Int):Int:=IntKind.i64.wrap ((BitVec.ofInt 64 a |||BitVec.ofInt 64 b).toNat)
def nN (us:List cL)(u:Int):Int:=if u<0\/(us.length:Int)<=u then 0 else 2^(us[u.toNat]!.cands.length+1) -1
def qt (cs:List en)(s:cr):Nat->Int
 |0=>0
 |k+1=>if oN s cs[k]!.v=true then qt cs s k+2^(k+1)else qt cs s k
def ui (us:List cL)(w:Want):Int:=if w.u<0\/(us.length:Int)<=w.u then 0 else qt us[w.u.toNat]!.cands w.s us[w.u.toNat]!.cands.length
def mS (us:List cL):List dR->Int->Int
 |[],u=>nN us u
 |t::r,u=>if t.u=u then t.m else mS us r u
def trmB (us:List cL)(t:dR):Bool:=decide (t.m≠0)&&decide (Gy t.m (nN us t.u)=t.m)&&decide (t.m≠nN us t.u)
def MW (us:List cL)(l:List dR):Bool:=bU (fun i=>trmB us l[i]! && !(decide (0<i)&&decide (l[i]!.u<=l[i-1]!.u))) 0 l.length
def TP (k:Nat):(2:Int)^k=((2^k:Nat):Int):=by
 induction k with
 |zero=>rfl
 |succ k ih=>rw[Int.pow_succ,ih,Nat.pow_succ];omega
def ajt {k n:Nat}(h:k<=n):(2:Int)^k<=2^n:=by
 rw[TP,TP];exact Int.ofNat_le.2 (Nat.pow_le_pow_right aU h)
def pJ (k:Nat):(1:Int)<=2^k:=by
 rw[TP];have:=Nat.one_le_two_pow (n:=k);omega
def Fw {k:Nat}(h:k<=40):(2:Int)^k<=1099511627776:=ajt h
def On (cs:List en)(s:cr):∀k,0<=qt cs s k/\qt cs s k<=2^(k+1) -2
 |0=>by simp[qt]
 |k+1=>by
  have ih:=On cs s k;have h1:(2:Int)^(k+1+1)=2^(k+1)*2:=Int.pow_succ 2 (k+1);have h2:=pJ (k+1);rw[qt];split<;>omega
def sureB (us:List cL)(row:jf)(k:Int)(w:Want):Bool:=if w.u=row.unit then decide (Gy (ui us w) (2^(k+1).toNat)≠0)else decide (bvN (mS us row.terms w.u) (ui us w)=0)
def lostB (us:List cL)(row:jf)(k:Int)(w:Want):Bool:=if w.u=row.unit then decide (Gy (ui us w) (2^(k+1).toNat)=0)else decide (Gy (ui us w) (mS us row.terms w.u)=0)
def InR (x:Int):Prop:=-9223372036854775808<=x/\x<=9223372036854775807
def Sb (x:BitVec 64):IntKind.i64.wrap (x.toNat:Int)=x.toInt:=by
 have h:=x.isLt;have e:IntKind.i64.wrap (x.toNat:Int)=if decide ((x.toNat:Int)%18446744073709551616≥9223372036854775808)=true then(x.toNat:Int)%18446744073709551616-18446744073709551616 else(x.toNat:Int)%18446744073709551616:=rfl
 rw[e,BitVec.toInt_eq_toNat_cond];simp only[aW];split<;>split<;>omega
def Ly {m:Int}(h:InR m):(BitVec.ofInt 64 m).toInt=m:=by
 obtain⟨h1,h2⟩:=h;rw[BitVec.toInt_ofInt,Int.bmod_def];split<;>omega
def VH (a b:Int):Gy a b=(BitVec.ofInt 64 a&&&BitVec.ofInt 64 b).toInt:=Sb _
def agJ (a b:Int):bvO a b=(BitVec.ofInt 64 a |||BitVec.ofInt 64 b).toInt:=Sb _
def abr {a:Int}{i:Nat}(h0:0<=a)(h1:a<2^i)(hi:i<=40):bvO a (2^i)=a+2^i:=by
 have hp:=Fw hi;obtain⟨n,rfl⟩:∃n:Nat,a=(n:Int):=⟨a.toNat,ae⟩
 rw[TP]at h1 hp⊢;have h2:n<2^i:=ae;have hl:(2:Nat)^i<=1099511627776:=ae;have e:(BitVec.ofInt 64 (n:Int) |||BitVec.ofInt 64 ((2^i:Nat):Int)).toNat=n+2^i:=by
  rw[BitVec.toNat_or,BitVec.toNat_ofInt,BitVec.toNat_ofInt];have h3:((n:Int)%((2^64:Nat):Int)).toNat=n:=ae;have h4:(((2^i:Nat):Int)%((2^64:Nat):Int)).toNat=2^i:=ae;rw[h3,h4,Nat.or_comm];have:=Nat.two_pow_add_eq_or_of_lt h2 1;simp only[Nat.mul_one]at this;omega
 unfold bvO;rw[e,wrap_i64 ae ae];omega
def gu {α:Type}(f:α->Bool):List α->Nat->Int
 |[],_=>-1
 |x::r,i=>if f x=true then(i:Int)else gu f r (i+1)
def kD {α:Type} [Inhabited α]{f:α->Bool}{l:List α}{i:Nat}(hi:i<l.length)(h:f l[i]! =true):gu f (l.drop i) i=i:=by
 rw[eY hi,gu,ak (by simpa[hi]using h)]
def jj {α:Type} [Inhabited α]{f:α->Bool}{l:List α}{i:Nat}(hi:i<l.length)(h:f l[i]! =false):gu f (l.drop i) i=gu f (l.drop (i+1)) (i+1):=by
 rw[eY hi,gu,ah (by simpa[hi]using h)]
def lX {α:Type}{f:α->Bool}{l:List α}{i:Nat}(hi:l.length<=i):gu f (l.drop i) i=-1:=by
 rw[j2 hi,gu]
def fB (b:Bool)(us:List cL)(row:jf)(k:Int)(w:Want):Bool:=if b=true then sureB us row k w else !lostB us row k w
def ady (us:List cL)(row:jf)(k:Int)(r:nH):Bool:=!r.any (fB false us row k)
def saysP (us:List cL)(row:jf)(k:Nat)(mild:Bool):Bool:=if mild=true then us[row.unit.toNat]!.cands[k]!.bars.any (fB true us row (k:Int))else us[row.unit.toNat]!.cands[k]!.needs.any (ady us row (k:Int))
def en.fz (l k:Nat)(es:List Abs.D)(c:en):iW l k es c.D=c.D:=gW l k es _ (by simp only[en.D,D.aS,aL,gL])
def vS.fz (l k:Nat)(es:List Abs.D)(c:vS):iW l k es c.D=c.D:=gW l k es _ (by simp only[vS.D,D.aS,aL,gL])
def jf.fz (l k:Nat)(es:List Abs.D)(c:jf):iW l k es c.D=c.D:=gW l k es _ (by simp only[jf.D,D.aS,aL,gL])
def hasU (l:List dR)(u:Int):Bool:=l.any fun t=>decide (t.u=u)
def Qz (us:List cL)(row:jf)(mild:Bool):Bool:=hasU row.terms row.unit&&decide (Gy (mS us row.terms row.unit) 1=0)&&bU (fun k=>decide (Gy (mS us row.terms row.unit) (2^(k+1))=0) ||saysP us row k mild) 0 us[row.unit.toNat]!.cands.length
def bothU (us:List cL)(A B:List dR)(row:jf)(u:Nat):Bool:=decide (bvN (mS us row.terms (u:Int)) (if(u:Int)=row.unit then bvO (mS us A (u:Int)) (mS us B (u:Int))else Gy (mS us A (u:Int)) (mS us B (u:Int)))=0)
def bothP (c:vS)(row:jf)(i:Int):Bool:=decide (nN c.w.us row.unit≠0)&&(decide (0<=row.a)&&decide (row.a<i))&&(decide (0<=row.b)&&decide (row.b<i))&&(MW c.w.us c.rows[row.a.toNat]!.terms&&MW c.w.us c.rows[row.b.toNat]!.terms)&&bU (bothU c.w.us c.rows[row.a.toNat]!.terms c.rows[row.b.toNat]!.terms row) 0 c.w.us.length
def askP (c:vS)(row:jf):Bool:=decide (nN c.w.us row.unit≠0)&&decide (row.unit<c.allow.length)&&decide (Gy (mS c.w.us row.terms row.unit) c.allow[row.unit.toNat]! =0)
def kindP (c:vS)(row:jf)(i:Int):Bool:=if row.kind=5 then bothP c row i else decide (row.a=0)&&decide (row.b=0)&&(if row.kind=1 then decide (row.unit=0)&&decide (mS c.w.us row.terms 0=1)else if row.kind=2\/row.kind=3 then Qz c.w.us row (decide (row.kind=3))else if row.kind=4 then askP c row else false)
def aiv (c:vS)(i:Int):Bool:=decide (0<=i)&&decide (i<c.rows.length)&&MW c.w.us c.rows[i.toNat]!.terms&&kindP c c.rows[i.toNat]! i
def mD (f:Nat->Bool):Nat->Nat->Nat
 |0,i=>i
 |k+1,i=>if f i=true then mD f k (i+1)else i
def Gr {f:Nat->Bool}{i n:Nat}(hi:i<n)(h:f i=true):mD f (n-i) i=mD f (n-(i+1)) (i+1):=by
 obtain⟨k,hk⟩:∃k,n-i=k+1:=⟨n-i-1,ae⟩
 rw[hk,mD,ak h,show k=n-(i+1)by omega]
def Qm {f:Nat->Bool}{i n:Nat}(hi:i<n)(h:f i=false):mD f (n-i) i=i:=by
 obtain⟨k,hk⟩:∃k,n-i=k+1:=⟨n-i-1,ae⟩
 rw[hk,mD,ah (by rw[h];exact Bool.false_ne_true)]
def Kz {f:Nat->Bool}{i n:Nat}(hi:n<=i):mD f (n-i) i=i:=by
 rw[show n-i=0 by omega,mD]
def abq (a b:Int):InR (Gy a b):=by
 rw[VH];have h1:=BitVec.le_toInt (BitVec.ofInt 64 a&&&BitVec.ofInt 64 b);have h2:=BitVec.toInt_lt (x:=BitVec.ofInt 64 a&&&BitVec.ofInt 64 b);exact⟨by simpa using h1,by have:=h2;simp at this;omega⟩
def Dp {b:Int}{n:Nat}(hb:b=(n:Int))(hn:n<=39):IntKind.i64.wrap (2*2^(min b.toNat IntKind.i64.bits))=2^(n+1):=by
 subst hb;have h:=Fw (k:=n+1) ae;have h2:=pJ n;rw[Int.pow_succ]at h;rw[show min (Int.toNat (n:Int)) IntKind.i64.bits=n from Nat.min_eq_left (by simp only[IntKind.bits];omega),Int.pow_succ,Int.mul_comm];exact wrap_i64 ae ae
def nD {α:Type} [Inhabited α]{l:List α}{i:Nat}(h:i<l.length):l.take i++[l[i]!]=l.take (i+1):=by
 rw[List.take_succ,show l[i]? =some l[i]! by simp[h]];rfl
def bitI (m:Int)(i:Nat):Bool:=decide (IntKind.i64.wrap ((BitVec.ofInt 64 (m.fdiv (2^(min (i:Int).toNat 64))))&&&(BitVec.ofInt 64 1)).toNat=1)
def Vl (n:Nat)(s:cr):Prop:=s.sm/\s.rel.length<=n/\s.pr.length<=n
def Vl.s {n:Nat}{s:cr}(h:Vl n s)(hn:n<=1000):SetS s:=⟨⟨h.1.1,eX h.2.1 hn⟩,⟨h.1.2,eX h.2.2 hn⟩⟩
def Vl.mono {n k:Nat}{s:cr}(h:Vl n s)(hn:n<=k):Vl k s:=⟨h.1,eX h.2.1 hn,eX h.2.2 hn⟩
inductive NF where
 |nil|sl (l:List nH)|own (k:Nat)
 deriving Inhabited
inductive BF where
 |nil|sl (l:List Want)|own (k:Nat)
 deriving Inhabited
def NF.D (e:Nat):NF->D
 | .nil=>.aK
 | .sl l=>.sl 1 (l.map jv)
 | .own k=>.own e 1 0 k
def BF.D (e:Nat):BF->D
 | .nil=>.aK
 | .sl l=>.sl 3 (l.map Want.D)
 | .own k=>.own e 3 0 k
structure CW where
 v:bX
 sh:Int
 n:NF
 b:BF
 deriving Inhabited
def CW.D (e:Nat)(c:CW):D:=.agg [.int .i64 c.v.major,.int .i64 c.v.minor,.int .i64 c.v.patch,.str c.v.pre,.str c.v.build,.int .i64 c.sh,c.n.D e,c.b.D e]
def NF.pl:NF->Bool
 | .own _=>false
 |_=>true
def BF.pl:BF->Bool
 | .own _=>false
 |_=>true
def CW.pl (c:CW):Bool:=c.n.pl&&c.b.pl
def CW.aS {e:Nat}{c:CW}(h:c.pl=true):(c.D e).aS=true:=by
 obtain⟨v,sh,n,b⟩:=c;cases n<;>cases b<;>first|(simp[CW.pl,NF.pl,BF.pl]at h;done)|rfl
theorem CW.rn {e e' lo:Nat}{σ:List (Nat×Nat)}(h:mK lo σ e=some e')(c:CW):sZ lo σ (c.D e)=some (c.D e'):=by
 obtain⟨v,sh,n,b⟩:=c;cases n<;>cases b<;>simp[CW.D,NF.D,BF.D,sZ,qD,Uk,h]
def CsOk (n:Nat)(cs:Nat->List CW):Prop:=(2<=n/\n<=8)/\∀t,(cs t).length<=4/\∀c∈cs t,c.v.sm
def Want.fz (l k:Nat)(es:List Abs.D)(w:Want):iW l k es w.D=w.D:=gW l k es _ (by simp only[Want.D,D.aS,aL,gL])
def Gs.fz (l k:Nat)(es:List Abs.D)(g:Gs):iW l k es g.D=g.D:=gW l k es _ (by simp only[Gs.D,D.aS,aL,gL])
structure RU where
 name:av
 feat:av
 cs:List CW
 deriving Inhabited
def rawC (v:bX):CW:=⟨v,0,.nil,.nil⟩
def VB (m:Int):Nat->List bX
 |0=>[]
 |i+1=>if bitI m i=true then VB m i++[bN[i]!]else VB m i
def RU.pl (u:RU):Prop:=∀c∈u.cs,c.pl=true
def Gs.R6 (g:Gs)(n:Int):(1<=n->0<=g.val n/\g.val n<n)/\(n<1->g.val n=0):=⟨fun h=>kI _ _ h,fun h=>by simp only[Gs.val,jY];rw[ak h]⟩
def CInv (vs:Nat->List bX)(B:Nat->List CW):Prop:=∀t,(B t).map CW.v=vs t/\∀c∈B t,c.pl=true
def CInv.len {vs:Nat->List bX}{B:Nat->List CW}(h:CInv vs B):(fun j=>(B j).length)=fun j=>(vs j).length:=by
 funext j;rw[<-(h j).1,bg]
def NF.p:NF->List nH
 | .sl l=>l
 |_=>[]
def BF.p:BF->List Want
 | .sl l=>l
 |_=>[]
def CW.p (c:CW):en:=⟨c.v,c.sh,c.n.p,c.b.p⟩
def Vo (vs:Nat->List bX)(B:Nat->List CW):Prop:=∀t,(B t).map CW.v=vs t
def CInv.v {vs:Nat->List bX}{B:Nat->List CW}(h:CInv vs B):Vo vs B:=fun t=>(h t).1
def Vo.len {vs:Nat->List bX}{B:Nat->List CW}(h:Vo vs B):(fun j=>(B j).length)=fun j=>(vs j).length:=by
 funext j;rw[<-h j,bg]
def VsOk (vs:Nat->List bX):Prop:=∀t,(vs t).length<=4/\∀v∈vs t,v.sm
def Vo.ok {vs:Nat->List bX}{B:Nat->List CW}{n:Nat}(h:Vo vs B)(hn:2<=n/\n<=8)(hv:VsOk vs):CsOk n B:=by
 refine⟨hn,fun t=>⟨?_,fun c hc=>?_⟩⟩
 .have:=(hv t).1;rw[<-h t,bg]at this;exact this
 .exact(hv t).2 _ (by rw[<-h t];exact List.mem_map_of_mem hc)
def bT.fz (l k:Nat)(es:List Abs.D)(w:bT):iW l k es w.D=w.D:=gW l k es _ rfl
def dR.eq (a b:dR):gV (dR.D a).cells (dR.D b).cells=decide (a=b):=by
 cases a;cases b
 grind [dR.D,D.cells,gV,A7]
def iI (us:List cL)(i:Nat):List Int:=(List.range i).map fun u=>nN us ((u:Nat):Int)
def NX (us:List cL)(i:Nat):(iI us i).length=i:=by simp[iI]
def NW (us:List cL)(i:Nat):iI us i++[nN us ((i:Nat):Int)]=iI us (i+1):=by
 simp[iI,List.range_succ]
def stI64 {xs:List Int}{i:Nat}(h:i<xs.length)(v:Int):(xs.map (D.int .i64)).set i (su ((xs.map (D.int .i64)).getD i .any) 1 1 0 (.int .i64 v))=(xs.set i v).map (D.int .i64):=by
 rw[getD_map h,List.map_set];rfl
def Few (us:List cL):Prop:=∀u∈us,∀c∈u.cands,c.needs.length<=1000/\c.bars.length<=1000/\∀r∈c.needs,r.length<=1000
structure Prv where
 w:bT
 facts:List jf
 x:D
def Prv.D (p:Prv):Abs.D:=.agg [.sl 3 (p.w.us.map cL.D),.sl 5 (p.facts.map jf.D),p.x]
def bt (m:Int)(i:Nat):Bool:=(BitVec.ofInt 64 m).getLsbD i
def ofInt_toInt (x:BitVec 64):BitVec.ofInt 64 x.toInt=x:=BitVec.ofInt_toInt
def VC (a b:Int)(i:Nat):bt (Gy a b) i=(bt a i&&bt b i):=by
 unfold bt;rw[VH,ofInt_toInt,BitVec.getLsbD_and]
def bt_or (a b:Int)(i:Nat):bt (bvO a b) i=(bt a i ||bt b i):=by
 unfold bt;rw[agJ,ofInt_toInt,BitVec.getLsbD_or]
def agH {a b:Int}(ha:InR a)(hb:InR b)(h:∀i,bt a i=bt b i):a=b:=by
 have e:BitVec.ofInt 64 a=BitVec.ofInt 64 b:=by
  ext i hi
  have:=h i;unfold bt at this
  rwa [BitVec.getLsbD_eq_getElem hi,BitVec.getLsbD_eq_getElem hi]at this
 rw[<-Ly ha,<-Ly hb,e]
def InR0:InR 0:=⟨aU,aU⟩
def Gx (i:Nat):bt 0 i=false:=by unfold bt;simp
def VI {a b:Int}:Gy a b=0↔∀i,¬(bt a i=true/\bt b i=true):=by
 constructor
 .intro h i hi;have:=VC a b i;rw[h,Gx,hi.1,hi.2]at this;exact absurd this aU
 .intro h;refine agH (abq _ _) InR0 fun i=>?_
  rw[VC,Gx];have:=h i;revert this;cases bt a i<;>cases bt b i<;>simp
def agI {a b:Int}:Gy a b≠0↔∃i,bt a i=true/\bt b i=true:=by
 rw[Ne,VI];constructor
 .intro h;exact Classical.byContradiction fun g=>h fun i hi=>g ⟨i,hi⟩
 .rintro⟨i,hi⟩ h;exact h i hi
def NH {k:Nat}(hk:k<=40)(i:Nat):bt (2^k) i=decide (i=k):=by
 unfold bt;rw[TP];have hl:(2:Nat)^k<=1099511627776:=by
  have:=Fw hk;rw[TP]at this;omega
 rw[show BitVec.ofInt 64 ((2^k:Nat):Int)=BitVec.ofNat 64 (2^k)from BitVec.ofInt_natCast ..];rw[BitVec.getLsbD_ofNat,Nat.testBit_two_pow];by_cases e:k=i
 .subst e;simp;omega
 .rw[bG e,Bool.and_false,bG (fun h=>e h.symm)]
def Qs (cs:List en)(s:cr)(i:Nat):∀k,k<=16->bt (qt cs s k) i=(decide (1<=i)&&decide (i<=k)&&oN s cs[i-1]!.v)
 |0,_=>by
  rw[qt,Gx];by_cases h:1<=i
  .rw[bG (show ¬i<=0 by omega)];simp
  .rw[bG h];rfl
 |k+1,hk=>by
  have ih:=Qs cs s i k ae;have hr:=On cs s k;rw[qt];split
  .rename_i h;rw[<-abr hr.1 (by have:=pJ (k+1);omega) ae,bt_or,ih,NH ae];by_cases e:i=k+1
   .subst e;rw[show k+1-1=k from rfl,h];simp
   .rw[bG e,Bool.or_false];congr 2;rw[lI];omega
  .rename_i h;rw[ih];by_cases e:i=k+1
   .subst e;simp only[Bool.not_eq_true]at h;rw[show k+1-1=k from rfl,h];simp
   .congr 2;rw[lI];omega
def VD {us:List cL}{w:Want}{u:Nat}(hw:w.u=((u:Nat):Int))(hu:u<us.length)(hs:∀x∈us,x.cands.length<=16)(i:Nat):bt (ui us w) i=(decide (1<=i)&&decide (i<=us[u]!.cands.length)&&oN w.s us[u]!.cands[i-1]!.v):=by
 have hc:=hs _ (aq hu);unfold ui;rw[ah ae,hw];exact Qs _ _ _ _ hc
abbrev S16 (us:List cL):Prop:=∀x∈us,x.cands.length<=16
def afX (us:List cL)(allow:List Int)(r:jf):Prop:=MW us r.terms=true/\(r.a=0/\r.b=0)/\(0<=r.unit/\r.unit<us.length)/\
 (r.kind=1/\r.unit=0/\mS us r.terms 0=1\/(r.kind=2\/r.kind=3)/\Qz us r (decide (r.kind=3))=true\/r.kind=4/\r.unit<allow.length/\Gy (mS us r.terms r.unit) allow[r.unit.toNat]! =0)
section
abbrev AllOK (us:List cL)(allow:List Int)(rows:List jf):Prop:=∀x∈rows,afX us allow x
section
variable {us:List cL} {allow:List Int}
end
end
def COK (us:List cL)(c:List Int):Prop:=c.length<=us.length/\∀u,u<c.length->-1<=c[u]! /\c[u]! <us[u]!.cands.length
def vb (c:List Int)(u:Nat):Nat:=(c[u]! +1).toNat
def Vi (w:bT)(allow:List Int)(rows:List jf):Prop:=∀i,i<rows.length->aiv ⟨w,allow,rows⟩ ((i:Nat):Int)=true
def Near (us:List cL)(c:List Int)(k:Nat)(l:List dR):Prop:=MW us l=true/\(∀t∈l,t.u<c.length+1)/\(∀u,u<c.length->bt (mS us l ((u:Nat):Int)) (vb c u)=true)/\∀j,j<k->bt (mS us l ((c.length:Nat):Int)) j=true
def COK.app {us:List cL}{c:List Int}{i:Int}(h:COK us c)(hl:c.length<us.length)(h1:-1<=i)(h2:i<us[c.length]!.cands.length):COK us (c++[i]):=by
 refine⟨fo,fun u hu=>?_⟩;rw[cn,List.length_singleton]at hu;rcases dQ u c.length with h3|h3
 .rw[List.getElem!_eq_getElem?_getD,List.getElem?_append_left h3,<-List.getElem!_eq_getElem?_getD];exact h.2 u h3
 .obtain rfl:u=c.length:=ae;simp only[List.getElem!_eq_getElem?_getD,List.getElem?_concat_length,Option.getD_some]at*
  exact⟨h1,h2⟩
section
def subsV:List (List bX):=(List.range 16).map fun m=>VB ((m:Nat):Int) 4
set_option maxRecDepth 10000
def wB:∀v∈bN,vH (dz v)=true/\gA v=true:=by decide+kernel
def RU.ok (u:RU):Prop:=u.name≠[]/\∃vs,vs∈subsV/\u.cs=vs.map rawC
def SInv (w:bT)(al c:List Int)(k:Nat)(now:Int)(R:List jf):Prop:=Vi w al R/\(k=0/\now=-1\/0<k/\(0<=now/\now<R.length)/\Near w.us c k R[now.toNat]!.terms)/\R.length<=5100+2*k
def NPre (w:bT)(al:List Int)(facts:List jf)(c:List Int)(rows:List jf):Prop:=((w.sm/\S16 w.us/\w.us.length<=48)/\AllOK w.us al facts)/\(COK w.us c/\Vi w al rows)/\rows.length<=100000
def NPre.app {w:bT}{al:List Int}{facts:List jf}{c:List Int}{rows R:List jf}{k:Nat}(h:NPre w al facts c rows)(hl:c.length<w.us.length)(hk:k<w.us[c.length]!.cands.length+1){now:Int}(hI:SInv w al c k now R):NPre w al facts (c++[((k:Nat):Int) -1]) R:=by
 have h16:=h.1.1.2.1 _ (aq hl);exact⟨h.1,⟨h.2.1.1.app hl ae ae,hI.1⟩,by have:=hI.2.2;omega⟩
def ae2 (r:jf):jf:=⟨r.kind,r.unit,r.b,r.a,r.terms⟩
def Vn (L R:List jf):Prop:=R.length=L.length/\∀k,k<L.length->R[k]! =L[k]! \/(L[k]!.kind=5/\R[k]! =ae2 L[k]!)
def Zf {xs:List jf}{i u:Nat}{v:jf}(hu:u<xs.length):(xs.set i v)[u]! =if i=u then v else xs[u]! :=by
 simp only[List.getElem!_eq_getElem?_getD,List.getElem?_set];split
 .rename_i h;subst h;rw[ak hu];rfl
 .rfl
def Vn.step {L R:List jf}{i:Nat}(h:Vn L R)(hi:i<L.length)(hk:R[i]!.kind=5):Vn L (R.set i (ae2 R[i]!)):=by
 refine⟨by rw[List.length_set];exact h.1,fun k hk2=>?_⟩;rw[Zf (by rw[h.1];exact hk2)];split
 .rename_i e;subst e;rcases h.2 i hi with h1|⟨h1,h2⟩
  .exact .inr ⟨by rw[<-h1];exact hk,by rw[h1]⟩
  .exact .inl (by rw[h2];rfl)
 .exact h.2 k hk2
end
def SH (us:List cL)(κ:Nat->Nat)(x:Want):Prop:=bt (ui us x) (κ x.u.toNat)=true
structure SolP (us:List cL)(κ:Nat->Nat):Prop where
 pos:0<us.length
 root:κ 0≠0
 le:∀u,u<us.length->κ u<=us[u]!.cands.length
 needs:∀u,u<us.length->κ u≠0->∀r∈us[u]!.cands[κ u-1]!.needs,∃x∈r,SH us κ x
 bars:∀u,u<us.length->κ u≠0->∀x∈us[u]!.cands[κ u-1]!.bars,¬SH us κ x
 inU:∀u,u<us.length->κ u≠0->(∀r∈us[u]!.cands[κ u-1]!.needs,∀x∈r,0<=x.u/\x.u<us.length)/\∀x∈us[u]!.cands[κ u-1]!.bars,0<=x.u/\x.u<us.length
def bt_p {k i:Nat}(hk:k<=40)(h:i=k):bt (2^k) i=true:=by
 rw[NH hk];simpa using h
def BD {f:Nat->Bool}:∀k i,¬mD f k i<i+k->∀j,i<=j->j<i+k->f j=true
 |0,i,_,j,h1,h2=>ae
 |k+1,i,h,j,h1,h2=>by
  rw[mD]at h;split at h
  .rename_i e;by_cases q:j=i
   .subst q;exact e
   .exact BD k (i+1) (by rw[show i+1+k=i+(k+1)by omega];exact h) j ae ae
  .omega
def er (us:List cL)(l:List Want):List dR:=l.map fun x=>⟨x.u,ui us x⟩
structure j3 where
 full:List Int
 needs:List (List (List (List dR)))
 bars:List (List (List dR))
 deriving Inhabited
def H2 (l:List dR):D:=.sl 2 (l.map dR.D)
def ox (l:List (List dR)):D:=.sl 1 (l.map H2)
def pQ (l:List (List (List dR))):D:=.sl 1 (l.map ox)
def j3.D (m:j3):D:=.agg [.sl 1 (m.full.map (D.int .i64)),.sl 1 (m.needs.map pQ),.sl 1 (m.bars.map ox)]
def kM (us:List cL)(l:List nH):List (List dR):=l.map (er us)
def eH (us:List cL)(cs:List en):List (List (List dR)):=cs.map fun c=>kM us c.needs
def jr (us:List cL)(cs:List en):List (List dR):=cs.map fun c=>er us c.bars
def ep (us:List cL)(i:Nat):List (List (List (List dR))):=(us.take i).map fun u=>eH us u.cands
def jq (us:List cL)(i:Nat):List (List (List dR)):=(us.take i).map fun u=>jr us u.cands
def dp (us:List cL):j3:=⟨iI us us.length,ep us us.length,jq us us.length⟩
def Cu (c:List Int)(x:dR):Bool:=decide (0<=c[x.u.toNat]!)&&decide (Gy x.m (2^(c[x.u.toNat]!.toNat+1))≠0)
def j6 (c:List Int)(l:List dR):Bool:=ot (fun i=>Cu c l[i]!) 0 l.length
def Wo (m:j3)(c:List Int)(u:Nat):Bool:=decide (c[u]! <0) ||(bU (fun k=>j6 c m.needs[u]![c[u]!.toNat]![k]!) 0 m.needs[u]![c[u]!.toNat]!.length&& !j6 c m.bars[u]![c[u]!.toNat]!)
def BU (m:j3)(c:List Int):Bool:=decide (0<=c[0]!)&&bU (Wo m c) 0 c.length
def ChP (us:List cL)(c:List Int):Prop:=c.length=us.length/\∀u,u<us.length->-1<=c[u]! /\c[u]! <us[u]!.cands.length
def zz (c:List Int)(u:Nat):Nat:=(c[u]! +1).toNat
def fC {α β:Type} [Inhabited α] [Inhabited β]{f:α->β}{l:List α}{i:Nat}(h:i<l.length):(l.map f)[i]! =f l[i]! :=by simp[h]
def Lr {us:List cL}{c:List Int}{x:Want}(hs:∀x∈us,x.cands.length<=16)(hc:ChP us c)(h0:0<=x.u)(h1:x.u<us.length):Cu c ⟨x.u,ui us x⟩=true↔SH us (zz c) x:=by
 obtain⟨u,hu⟩:∃u:Nat,x.u=((u:Nat):Int):=⟨x.u.toNat,ae⟩
 have hul:u<us.length:=ae;have hcu:=hc.2 u hul;have h16:=hs _ (aq hul);unfold Cu SH zz;dsimp only;rw[hu,Int.toNat_natCast,aD,aW,aW,agI];constructor
 .rintro⟨h2,i,h3,h4⟩;rw[NH ae]at h4;obtain rfl:i=c[u]!.toNat+1:=by simpa using h4
  rw[show(c[u]! +1).toNat=c[u]!.toNat+1 by omega];exact h3
 .intro h2;have h3:=h2;rw[VD hu hul hs]at h3;simp only[aD,aW]at h3;refine⟨ae,(c[u]! +1).toNat,h2,bt_p ae ae⟩
def K9 {c:List Int}{l:List dR}:j6 c l=true↔∃x∈l,Cu c x=true:=by
 unfold j6;rw[vZ];constructor
 .rintro⟨j,_,h2,h3⟩;exact⟨_,aq h2,h3⟩
 .rintro⟨x,hx,h⟩;obtain⟨j,hj,rfl⟩:=List.mem_iff_getElem.1 hx;exact⟨j,Nat.zero_le _,hj,by simpa[hj]using h⟩
def DP {w:bT}(h:eu w=true){u k:Nat}(hu:u<w.us.length)(hk:k<w.us[u]!.cands.length):(∀r∈w.us[u]!.cands[k]!.needs,∀x∈r,0<=x.u/\x.u<w.us.length)/\∀x∈w.us[u]!.cands[k]!.bars,0<=x.u/\x.u<w.us.length:=by
 unfold eu at h;rw[aD,bw]at h;have h3:=h.2 u ae hu;unfold lg at h3;rw[aD,bw]at h3;have h4:=h3.2 k ae hk;unfold mP at h4;simp only[aD]at h4;have h5:=h4.1.2;unfold mO at h5;simp only[aD,aW]at h5;have hw:∀(l:List Want),oX (w.us.length:Int) l=true->∀x∈l,0<=x.u/\x.u<w.us.length:=by
  intro l hl x hx;unfold oX at hl;rw[bw]at hl;obtain⟨j,hj,rfl⟩:=List.mem_iff_getElem.1 hx;have:=hl j ae hj;unfold sy at this;simp only[hj,getElem!_pos,aD,aW]at this;omega
 refine⟨fun r hr=>?_,hw _ h5.2⟩;have h6:=h5.1.2;rw[bw]at h6;obtain⟨j,hj,rfl⟩:=List.mem_iff_getElem.1 hr;have:=h6 j ae hj;unfold ra at this;simp only[hj,getElem!_pos,aD]at this;exact hw _ this.1
def Xz {us:List cL}{u k:Nat}(hu:u<us.length)(hk:k<us[u]!.cands.length):(dp us).needs[u]![k]! =kM us us[u]!.cands[k]!.needs:=by
 unfold dp ep eH;dsimp only;rw[List.take_length,fC hu,fC hk]
def abf {us:List cL}{u k:Nat}(hu:u<us.length)(hk:k<us[u]!.cands.length):(dp us).bars[u]![k]! =er us us[u]!.cands[k]!.bars:=by
 unfold dp jq jr;dsimp only;rw[List.take_length,fC hu,fC hk]
def akc {w:bT}{c:List Int}(hw:eu w=true)(hs:∀x∈w.us,x.cands.length<=16)(hc:ChP w.us c)(h:BU (dp w.us) c=true):SolP w.us (zz c):=by
 have hpos:0<w.us.length:=by
  unfold eu at hw;simp only[aD,aW]at hw;omega
 unfold BU at h;rw[aD,aW,bw,hc.1]at h;obtain⟨h0,hf⟩:=h;have hk:∀u,u<w.us.length->zz c u≠0->c[u]!.toNat=zz c u-1/\zz c u-1<w.us[u]!.cands.length/\bU (fun k=>j6 c (kM w.us w.us[u]!.cands[zz c u-1]!.needs)[k]!) 0 (kM w.us w.us[u]!.cands[zz c u-1]!.needs).length=true/\j6 c (er w.us w.us[u]!.cands[zz c u-1]!.bars)=false:=by
  intro u hu hk;have hcu:=hc.2 u hu;have h1:=hf u (Nat.zero_le _) hu;have e:c[u]!.toNat=zz c u-1:=by unfold zz at*;omega
  have hl:zz c u-1<w.us[u]!.cands.length:=by unfold zz at*;omega
  unfold Wo at h1;rw[dC,aW]at h1;have h2:=h1.resolve_left (by unfold zz at hk;omega);rw[e,Xz hu hl,abf hu hl]at h2;rw[aD,cz]at h2;exact⟨e,hl,h2.1,h2.2⟩
 have hin:∀u,u<w.us.length->zz c u≠0->(∀r∈w.us[u]!.cands[zz c u-1]!.needs,∀x∈r,0<=x.u/\x.u<w.us.length)/\∀x∈w.us[u]!.cands[zz c u-1]!.bars,0<=x.u/\x.u<w.us.length:=fun u hu h=>DP hw hu (hk u hu h).2.1
 refine⟨hpos,by unfold zz;omega,fun u hu=>?_,fun u hu hk0 r hr=>?_,fun u hu hk0 x hx hm=>?_,hin⟩
 .have:=hc.2 u hu;unfold zz;omega
 .have h1:=(hk u hu hk0).2.2.1;rw[bw]at h1;obtain⟨j,hj,rfl⟩:=List.mem_iff_getElem.1 hr;have h2:=h1 j (Nat.zero_le _) (by unfold kM;simpa using hj);unfold kM at h2;rw[fC hj,K9]at h2;obtain⟨y,hy,hm⟩:=h2;unfold er at hy;obtain⟨x,hx,rfl⟩:=bW.1 hy;simp only[hj,getElem!_pos]at hx;have:=(hin u hu hk0).1 _ hr x hx;exact⟨x,hx,(Lr hs hc this.1 this.2).1 hm⟩
 .have h1:=(hk u hu hk0).2.2.2;have hi:=(hin u hu hk0).2 x hx;have:j6 c (er w.us w.us[u]!.cands[zz c u-1]!.bars)=true:=K9.2 ⟨_,bW.2 ⟨x,hx,rfl⟩,(Lr hs hc hi.1 hi.2).2 hm⟩;rw[h1]at this;cases this
def ah6 (l k:Nat)(es:List D)(xs:List (List dR)):ow l k es (xs.map H2)=xs.map H2:=jU l k es _ (b7 (fun _=>rfl) _)
def ace (l k:Nat)(es:List D)(xs:List (List (List dR))):ow l k es (xs.map ox)=xs.map ox:=jU l k es _ (b7 (fun _=>rfl) _)
def Wx (l k:Nat)(es:List D)(xs:List (List (List (List dR)))):ow l k es (xs.map pQ)=xs.map pQ:=jU l k es _ (b7 (fun _=>rfl) _)
def acd (l k:Nat)(es:List D)(xs:List Int):ow l k es (xs.map (D.int .i64))=xs.map (D.int .i64):=jU l k es _ (b7 (fun _=>rfl) _)
def Uz {us:List cL}{l:List Want}{i:Nat}(h:i<l.length):er us (l.take i)++[⟨l[i]!.u,ui us l[i]!⟩]=er us (l.take (i+1)):=by
 unfold er;rw[<-nD h];simp
def UA (us:List cL)(l:List Want)(i:Nat):(er us (l.take i)).length<=i:=by
 unfold er;rw[bg,ek];omega
def Ul {us:List cL}{l:List nH}{i:Nat}(h:i<l.length):kM us (l.take i)++[er us l[i]!]=kM us (l.take (i+1)):=by
 unfold kM;rw[<-nD h];simp
def Um (us:List cL)(l:List nH)(i:Nat):(kM us (l.take i)).length<=i:=by
 unfold kM;rw[bg,ek];omega
def Oy {us:List cL}{l:List en}{i:Nat}(h:i<l.length):eH us (l.take i)++[kM us l[i]!.needs]=eH us (l.take (i+1)):=by
 unfold eH;rw[<-nD h];simp
def Oz (us:List cL)(l:List en)(i:Nat):(eH us (l.take i)).length<=i:=by
 unfold eH;rw[bg,ek];omega
def SS {us:List cL}{l:List en}{i:Nat}(h:i<l.length):jr us (l.take i)++[er us l[i]!.bars]=jr us (l.take (i+1)):=by
 unfold jr;rw[<-nD h];simp
def SU (us:List cL)(l:List en)(i:Nat):(jr us (l.take i)).length<=i:=by
 unfold jr;rw[bg,ek];omega
def Ov {us:List cL}{i:Nat}(h:i<us.length):ep us i++[eH us us[i]!.cands]=ep us (i+1):=by
 unfold ep;rw[<-nD h];simp
def Ox (us:List cL)(i:Nat):(ep us i).length<=i:=by
 unfold ep;rw[bg,ek];omega
def SQ {us:List cL}{i:Nat}(h:i<us.length):jq us i++[jr us us[i]!.cands]=jq us (i+1):=by
 unfold jq;rw[<-nD h];simp
def SR (us:List cL)(i:Nat):(jq us i).length<=i:=by
 unfold jq;rw[bg,ek];omega
def Kn (c:List Int)(x:dR):Prop:=(0<=x.u/\x.u<c.length)/\c[x.u.toNat]! <=30
def FineP (m:j3)(c:List Int):Prop:=(0<c.length/\c.length<=1000/\m.needs.length=c.length/\m.bars.length=c.length)/\∀u,u<c.length->0<=c[u]! ->(c[u]!.toNat<m.needs[u]!.length/\c[u]!.toNat<m.bars[u]!.length)/\(∀r∈m.needs[u]![c[u]!.toNat]!,∀x∈r,Kn c x)/\∀x∈m.bars[u]![c[u]!.toNat]!,Kn c x
def eO {α:Type} [Inhabited α]{f:α->Bool}:∀{l:List α}{k:Nat},(gu f l k=-1/\∀q,q<l.length->f l[q]! =false)\/∃j:Nat,gu f l k=((k+j:Nat):Int)/\j<l.length/\f l[j]! =true/\∀q,q<j->f l[q]! =false
 |[],k=>.inl ⟨rfl,fun q h=>absurd h (Nat.not_lt_zero q)⟩
 |x::r,k=>by
  rw[gu];split
  .rename_i h;exact .inr ⟨0,rfl,aF,qO,fun q h=>absurd h (Nat.not_lt_zero q)⟩
  .rename_i h;have hx:f x=false:=by simpa using h
   rcases eO (f:=f) (l:=r) (k:=k+1)with⟨h1,h2⟩|⟨j,h1,h2,h3,h4⟩
   .refine .inl ⟨h1,fun q hq=>?_⟩;cases q with
    |zero=>simpa using hx
    |succ q=>simpa using h2 q (by simpa using hq)
   .refine .inr ⟨j+1,by rw[h1];omega,by simpa using h2,by simpa using h3,fun q hq=>?_⟩;cases q with
    |zero=>simpa using hx
    |succ q=>simpa using h4 q ae
def acw {α:Type} [Inhabited α]{f:α->Bool}{l:List α}{i:Nat}(h:i<l.length)(hf:f l[i]! =true):0<=gu f l 0/\gu f l 0<=i:=by
 rcases eO (f:=f) (l:=l) (k:=0)with⟨h1,h2⟩|⟨j,h1,h2,h3,h4⟩
 .rw[h2 i h]at hf;cases hf
 .have:¬i<j:=fun hj=>by rw[h4 i hj]at hf;cases hf
  omega
def Fb (nm:av)(s:bJ):Bool:=decide (s.name=nm)
def mi (l:List bJ)(nm:av):Int:=gu (Fb nm) l 0
def AP (l:List bJ)(i:Nat):Bool:=gQ l[i]! &&decide (mi l l[i]!.name=(i:Nat))
def eJ (l:List bJ):Bool:=decide (l.length<=4)&&bU (AP l) 0 l.length
def ja (l:List bJ):Prop:=∀s∈l,∀x∈s.es,gZ x.r
def adN {l:List bJ}{i:Nat}(h:i<l.length):0<=mi l l[i]!.name/\mi l l[i]!.name<=i:=acw h (by simp[Fb])
def adM {l:List bJ}{i:Nat}(h:gQ l[i]! =false\/¬mi l l[i]!.name=(i:Nat)):AP l i=false:=by
 grind [AP]
def Zl {l:List bJ}{i:Nat}(h:gQ l[i]! =false\/mi l l[i]!.name<(i:Nat)):AP l i=false:=by
 grind [AP]
def MO {l:List bJ}{i:Nat}(h:gQ l[i]! =true/\mi l l[i]!.name=(i:Nat)):AP l i=true:=by
 grind [AP]
def Uq {l:List bJ}{i:Nat}(hi:i<l.length)(h:gQ l[i]! =true/\¬mi l l[i]!.name<(i:Nat)):AP l i=true:=by
 have:=adN hi;exact MO ⟨h.1,ae⟩
def bJ.fz (l k:Nat)(es:List Abs.D)(c:bJ):iW l k es c.D=c.D:=gW l k es _ (by simp only[bJ.D,D.aS,aL,gL])
def jE (s:bJ)(nm:av)(v:bX):Int:=if gQ s=false then-1 else r7 s.es nm v 0
def nP (a b:av)(u:cL):Bool:=decide (u.name=a)&&decide (u.feat=b)
def fN (us:List cL)(a b:av):Int:=gu (nP a b) (us.drop 1) 1
def UJ (v:bX)(whole:Bool)(c:en):Bool:=bif whole then decide (c.v=v)else decide (iz c.v v=0)
def me (us:List cL)(u:Int)(v:bX)(whole:Bool):Int:=if u<0 then-1 else gu (UJ v whole) us[u.toNat]!.cands 0
def n9 (shop:List bJ)(c:en)(x:eg):Int:=
 if c.sh=-1 then(if x.shelf≠[]then 12 else if x.sum≠0 then 13 else 0)
 else if c.sh<0\/(shop.length:Int)<=c.sh\/shop[c.sh.toNat]!.name≠x.shelf then 12
 else if jE shop[c.sh.toNat]! x.name x.v<0\/shop[c.sh.toNat]!.es[(jE shop[c.sh.toNat]! x.name x.v).toNat]!.sum≠x.sum then 13 else 0
def vi (us:List cL)(x:eg):List av->List Int->Int×List Int
 |[],c=>(0,c)
 |f::r,c=>if me us (fN us x.name f) x.v false<0 then(11,c)else vi us x r (c.set (fN us x.name f).toNat (me us (fN us x.name f) x.v false))
def mH (shop:List bJ)(us:List cL)(x:eg)(c:List Int):Int×List Int:=
 if me us (fN us x.name []) x.v true<0 then(9,c)
 else if n9 shop us[(fN us x.name []).toNat]!.cands[(me us (fN us x.name []) x.v true).toNat]! x≠0 then(n9 shop us[(fN us x.name []).toNat]!.cands[(me us (fN us x.name []) x.v true).toNat]! x,c)
 else vi us x x.feats (c.set (fN us x.name []).toNat (me us (fN us x.name []) x.v true))
def vt (shop:List bJ)(us:List cL):List eg->List Int->List Int×Int×av
 |[],c=>(c,0,[])
 |x::r,c=>if(mH shop us x c).1≠0 then([],(mH shop us x c).1,x.name)else vt shop us r (mH shop us x c).2
structure vT where
 kind:Int
 unit:Int
 at':Int
 deriving Inhabited,DecidableEq
def vT.D (f:vT):D:=.agg [.int .i64 f.kind,.int .i64 f.unit,.int .i64 f.at']
def Aw (w:bT)(c:List Int)(i:Nat):Bool:=decide (-1<=c[i]!)&&decide (c[i]! <(w.us[i]!.cands.length:Int))
def uf (w:bT)(c:List Int):Bool:=decide (c.length=w.us.length)&&bU (Aw w c) 0 c.length
def eB (w:bT)(c:List Int):Bool:=eu w&&uf w c
def kH (w:bT)(c:List Int)(x:Want):Bool:=decide (0<=c[x.u.toNat]!)&&oN x.s w.us[x.u.toNat]!.cands[c[x.u.toNat]!.toNat]!.v
def Du (w:bT)(c:List Int)(l:nH):Bool:=l.any (kH w c)
section
def m8 {w:bT}{c:List Int}(h:uf w c=true):c.length=w.us.length/\∀i,i<c.length->-1<=c[i]! /\c[i]! <(w.us[i]!.cands.length:Int):=by
 simp only[uf,aD,aW,bw,Aw]at h;exact⟨h.1,fun i hi=>h.2 i (Nat.zero_le _) hi⟩
def acQ {w:bT}{c:List Int}(h:¬(c.length:Int)=(w.us.length:Int)\/eu w=false):eB w c=false:=by
 unfold eB uf;rcases h with h|h
 .rw[bG ae];simp
 .rw[h];rfl
def QI {w:bT}{c:List Int}{i:Nat}(h:c[i]! < -1\/(w.us[i]!.cands.length:Int)<=c[i]!):Aw w c i=false:=by
 unfold Aw;rcases h with h|h
 .rw[bG ae];rfl
 .rw[bG (p:=c[i]! <_) ae];simp
def KQ {w:bT}{c:List Int}{i:Nat}(h:¬c[i]! < -1/\¬(w.us[i]!.cands.length:Int)<=c[i]!):Aw w c i=true:=by
 unfold Aw;rw[bo ae,bo ae];rfl
def MetW (w:bT)(c:List Int)(x:Want):Prop:=(w.sm/\x.sm)/\(0<=x.u/\x.u<(w.us.length:Int))/\uf w c=true
def fG (w:bT)(c:List Int)(u:Nat)(l:List nH)(n:Nat):List vT:=(List.range n).flatMap fun k=>if Du w c l[k]! =true then []else [⟨2,(u:Nat),(k:Nat)⟩]
def jT (w:bT)(c:List Int)(u:Nat)(l:List Want)(n:Nat):List vT:=(List.range n).flatMap fun k=>if kH w c l[k]! =true then [⟨3,(u:Nat),(k:Nat)⟩]else []
def aT (w:bT)(c:List Int)(u:Nat):en:=w.us[u]!.cands[c[u]!.toNat]!
def AG (w:bT)(c:List Int)(u:Nat):List vT:=fG w c u (aT w c u).needs (aT w c u).needs.length++jT w c u (aT w c u).bars (aT w c u).bars.length
def fY (w:bT)(c:List Int)(n:Nat):List vT:=(List.range n).flatMap fun u=>if c[u]! <0 then []else AG w c u
def jN (w:bT)(c:List Int):List vT:=if eB w c=false then []else fY w c c.length
section
variable {w:bT} {c:List Int} {u n:Nat} {l:List nH} {b:List Want}
def Ot (h:Du w c l[n]! =true):fG w c u l (n+1)=fG w c u l n:=by simp only[fG,List.range_succ,List.flatMap_append,List.flatMap_cons,List.flatMap_nil,h];simp
def Oq (h:Du w c l[n]! =false):fG w c u l (n+1)=fG w c u l n++[⟨2,(u:Nat),(n:Nat)⟩]:=by simp only[fG,List.range_succ,List.flatMap_append,List.flatMap_cons,List.flatMap_nil,h];simp
def Nz (h:kH w c b[n]! =true):jT w c u b (n+1)=jT w c u b n++[⟨3,(u:Nat),(n:Nat)⟩]:=by simp only[jT,List.range_succ,List.flatMap_append,List.flatMap_cons,List.flatMap_nil,h];simp
def Ny (h:kH w c b[n]! =false):jT w c u b (n+1)=jT w c u b n:=by simp only[jT,List.range_succ,List.flatMap_append,List.flatMap_cons,List.flatMap_nil,h];simp
def pG:∀n,(fG w c u l n).length<=n
 |0=>aO _
 |n+1=>by
  have:=pG n;cases h:Du w c l[n]!
  .rw[Oq h];simp;omega
  .rw[Ot h];omega
def wc:∀n,(jT w c u b n).length<=n
 |0=>aO _
 |n+1=>by
  have:=wc n;cases h:kH w c b[n]!
  .rw[Ny h];omega
  .rw[Nz h];simp;omega
def PM (h:0<=c[n]!):fY w c (n+1)=fY w c n++AG w c n:=by
 simp only[fY,List.range_succ,List.flatMap_append,List.flatMap_cons,List.flatMap_nil,ah (show ¬c[n]! <0 by omega),fZ]
def PL (h:c[n]! <0):fY w c (n+1)=fY w c n:=by simp only[fY,List.range_succ,List.flatMap_append,List.flatMap_cons,List.flatMap_nil,ak h,fZ]
def ZL (h:0<=c[n]!):(fY w c n++fG w c n (aT w c n).needs (aT w c n).needs.length)++jT w c n (aT w c n).bars (aT w c n).bars.length=fY w c (n+1):=by
 rw[PM h,AG,fm]
end
def OneP (w:bT)(c:List Int)(u:Nat):Prop:=(w.sm/\eu w=true)/\uf w c=true/\u<c.length/\0<=c[u]!
def Bj {w:bT}{c:List Int}{u:Nat}(h:OneP w c u):(c[u]!.toNat<w.us[u]!.cands.length/\c[u]! =((c[u]!.toNat:Nat):Int))/\((aT w c u).needs.length<=24/\(aT w c u).bars.length<=24)/\(∀r∈(aT w c u).needs,∀x∈r,MetW w c x)/\∀x∈(aT w c u).bars,MetW w c x:=by
 obtain⟨⟨h1,h2⟩,h3,h4,h5⟩:=h;obtain⟨h6,h7⟩:=m8 h3;have h8:=h7 u h4;have hu:u<w.us.length:=ae;have hk:c[u]!.toNat<w.us[u]!.cands.length:=ae;have hin:=DP h2 hu hk;have hs:=(h1 _ (aq hu)).2 _ (aq hk);have hl:(aT w c u).needs.length<=24/\(aT w c u).bars.length<=24:=by
  simp only[eu,aD,bw,lg,mP,mO,aW]at h2;have:=(h2.2 u (Nat.zero_le _) hu).2 _ (Nat.zero_le _) hk;exact⟨this.1.2.1.1.1,this.1.2.1.1.2⟩
 exact⟨⟨hk,ae⟩,hl,fun r hr x hx=>⟨⟨h1,hs.2.1 r hr x hx⟩,hin.1 r hr x hx,h3⟩,fun x hx=>⟨⟨h1,hs.2.2 x hx⟩,hin.2 x hx,h3⟩⟩
def LB {w:bT}{c:List Int}{u:Nat}(h:OneP w c u):(AG w c u).length<=48:=by
 obtain⟨_,⟨h1,h2⟩,_⟩:=Bj h;have h3:=pG (w:=w) (c:=c) (u:=u) (l:=(aT w c u).needs) (aT w c u).needs.length;have h4:=wc (w:=w) (c:=c) (u:=u) (b:=(aT w c u).bars) (aT w c u).bars.length;simp only[AG,cn];omega
def DS {w:bT}{c:List Int}(hm:w.sm)(h:eB w c=true):∀n,n<=c.length->(fY w c n).length<=n*48
 |0,_=>Nat.zero_le _
 |n+1,hn=>by
  have h1:=DS hm h n ae;simp only[eB,aD]at h;by_cases hc:c[n]! <0
  .rw[PL hc];omega
  .have:=LB (w:=w) (c:=c) (u:=n) ⟨⟨hm,h.1⟩,h.2,ae,ae⟩;rw[PM ae,cn];omega
def MQ {w:bT}{c:List Int}{l:nH}:Du w c l=ot (fun i=>kH w c l[i]!) 0 l.length:=by
 rw[Bool.eq_iff_iff,Du,List.any_eq_true,vZ];constructor
 .rintro⟨x,hx,h⟩;obtain⟨i,hi,rfl⟩:=List.mem_iff_getElem.1 hx;exact⟨i,Nat.zero_le _,hi,by simpa[hi]using h⟩
 .rintro⟨i,_,hi,h⟩;exact⟨_,aq hi,h⟩
def WrgP (w:bT)(c:List Int):Prop:=w.sm/\0<=c[0]!
def Q7 {w:bT}{c:List Int}{u:Nat}(hw:WrgP w c)(h:eB w c=true)(hu:u<c.length)(h0:0<=c[u]!):OneP w c u:=by
 simp only[eB,aD]at h;exact⟨⟨hw.1,h.1⟩,h.2,hu,h0⟩
def Om {w:bT}{c:List Int}(h:eB w c=true):1<=c.length/\c.length<=48:=by
 simp only[eB,aD]at h;have h1:=m8 h.2;simp only[eu,aD,aW]at h;omega
end
section
def Bo {S:List Int}{i:Nat}(h:i<S.length)(v:Int):(S.map (D.int .i64)).set (0+i) (su ((S.map (D.int .i64)).getD (0+i) .any) 1 1 0 (.int .i64 v))=(S.set i v).map (D.int .i64):=by
 rw[cD,getD_map (q:=D.int .i64) h,List.map_set];rfl
def Bk {l:List ki}{nm:av}{v:bX}:r7 l nm v 0=-1\/∃j:Nat,r7 l nm v 0=(j:Int)/\j<l.length:=by
 unfold r7;rw[dI];cases h:l.findIdx? (K6 nm v)with
 |none=>exact .inl rfl
 |some k=>
  have:=(List.findIdx?_eq_some_iff_getElem.1 h).1;exact .inr ⟨k,aF,this⟩
def E7 {s:bJ}{nm:av}{v:bX}:jE s nm v=-1\/∃j:Nat,jE s nm v=(j:Int)/\j<s.es.length:=by
 unfold jE;split
 .exact .inl rfl
 .exact Bk
def ov (s:bJ)(nm:av)(v:bX):ki×Bool:=if jE s nm v<0 then(default,false)else(s.es[(jE s nm v).toNat]!,true)
section
variable {shop:List bJ} {c:en} {x:eg}
def shl_a (h0:c.sh=-1)(h:¬x.shelf=[]):n9 shop c x=12:=by grind [n9]
def shl_d (h0:¬c.sh=-1)(h:(c.sh<0\/(shop.length:Int)<=c.sh)\/¬shop[c.sh.toNat]!.name=x.shelf):n9 shop c x=12:=by grind [n9]
def ae1 (h0:¬c.sh=-1)(h1:(¬c.sh<0/\¬(shop.length:Int)<=c.sh)/\shop[c.sh.toNat]!.name=x.shelf)(h:(ov shop[c.sh.toNat]! x.name x.v).2=false\/¬(ov shop[c.sh.toNat]! x.name x.v).1.sum=x.sum):n9 shop c x=13:=by grind [n9,ov]
def shl_f (h0:¬c.sh=-1)(h1:(¬c.sh<0/\¬(shop.length:Int)<=c.sh)/\shop[c.sh.toNat]!.name=x.shelf)(h:(ov shop[c.sh.toNat]! x.name x.v).2=true/\(ov shop[c.sh.toNat]! x.name x.v).1.sum=x.sum):n9 shop c x=0:=by grind [n9,ov]
end
def DI {us:List cL}{a b:av}:fN us a b=-1\/∃j:Nat,fN us a b=(j:Int)/\1<=j/\j<us.length:=by
 unfold fN;rcases eO (f:=nP a b) (l:=us.drop 1) (k:=1)with⟨h,_⟩|⟨j,h,h2,_⟩
 .exact .inl h
 .rw[jA]at h2;exact .inr ⟨1+j,h,ae,ae⟩
def LO {us:List cL}{u:Int}{v:bX}{t:Bool}:me us u v t=-1\/∃j k:Nat,u=(j:Int)/\me us u v t=(k:Int)/\k<us[j]!.cands.length:=by
 unfold me;split
 .exact .inl rfl
 .rcases eO (f:=UJ v t) (l:=us[u.toNat]!.cands) (k:=0)with⟨h,_⟩|⟨j,h,h2,_⟩
  .exact .inl h
  .exact .inr ⟨u.toNat,j,ae,iR,h2⟩
def KW {us:List cL}{x:eg}:∀{l:List av}{c:List Int},(vi us x l c).2.length=c.length
 |[],c=>rfl
 |f::r,c=>by
  rw[vi];split
  .rfl
  .rw[KW,List.length_set]
def wG {us:List cL}{x:eg}{c:List Int}{l:List av}{i:Nat}(h:i<l.length):vi us x (l.drop i) c=if me us (fN us x.name l[i]!) x.v false<0 then(11,c)else vi us x (l.drop (i+1)) (c.set (fN us x.name l[i]!).toNat (me us (fN us x.name l[i]!) x.v false)):=by
 rw[eY h,vi,show l[i]! =l[i]by simp[h]]
def KU {us:List cL}{x:eg}{c:List Int}{l:List av}{i:Nat}(h:l.length<=i):vi us x (l.drop i) c=(0,c):=by
 rw[j2 h,vi]
def Ym {shop:List bJ}{us:List cL}{x:eg}{c:List Int}:(mH shop us x c).2.length=c.length:=by
 unfold mH;split
 .rfl
 .split
  .rfl
  .rw[KW,List.length_set]
def QX {shop:List bJ}{us:List cL}{c:List Int}{l:List eg}{i:Nat}(h:i<l.length):vt shop us (l.drop i) c=if(mH shop us l[i]! c).1≠0 then([],(mH shop us l[i]! c).1,l[i]!.name)else vt shop us (l.drop (i+1)) (mH shop us l[i]! c).2:=by
 rw[eY h,vt,show l[i]! =l[i]by simp[h]]
def W8 {shop:List bJ}{us:List cL}{c:List Int}{l:List eg}{i:Nat}(h:l.length<=i):vt shop us (l.drop i) c=(c,0,[]):=by
 rw[j2 h,vt]
def LinP (shop:List bJ)(w:bT)(x:eg)(c:List Int):Prop:=(ja shop/\w.sm/\x.v.sm)/\c.length=w.us.length
end
section
section
variable {Y:Ctx} {draw:Bool} {r:List GI} {env rs:List aX} {nx:Nat} {m:List (Nat×bd)} {K:List aX->St->Prop} {g:Option (Nat×Bool)} {f:Bool}
def Yv {x:Src}{ng:Bool}{d:D}(h:∀b,nlB d b->ay Y draw r env (⟨true,.bool (bif ng then !b else b)⟩::rs) nx m K)(hg:GF rs g true:=by first|exact rfl|exact⟨_,_,rfl,rfl⟩)(hx:bO env rs x=⟨true,d⟩:=by exact rfl)(hs:slB d:=by exact trivial):ay Y draw (⟨.isNl x ng,g⟩::r) env rs nx m K:=by
 unfold ay;show yo rs.reverse g/\(flag rs.reverse g=true->(Src.ev env rs.reverse x).ok=true/\slB (Src.ev env rs.reverse x).d/\∀b,nlB (Src.ev env rs.reverse x).d b->_)/\(flag rs.reverse g=false->_);obtain⟨hg1,hg2⟩:=hg.flag;rw[oA,hx];refine⟨hg2,fun _=>⟨rfl,hs,fun b hb=>?_⟩,fun hh=>by rw[hg1]at hh;cases hh⟩;have:=h b hb;unfold ay at this;simpa using this
end
end
section
section
variable {Y:Ctx} {draw:Bool} {r:List GI} {env rs:List aX} {nx:Nat} {m:List (Nat×bd)} {K:List aX->St->Prop} {g:Option (Nat×Bool)} {f:Bool}
def r_mkM {L:Nat}{m2:List (Nat×bd)}(h:ay Y draw r env (⟨f,.fn 5000000 [.it L]⟩::rs) nx m2 K)(hg:GF rs g f:=by first|exact rfl|exact⟨_,_,rfl,rfl⟩)(hL:nx+rs.length=L:=by simp only[bD,b9,Nat.reduceAdd];exact rfl)(hm:cO m L (.mpb [])=m2:=by simp only[cO,cW,Nat.reduceEqDiff,bh,aZ,Nat.reduceAdd,reduceCtorEq];exact rfl):ay Y draw (⟨.mkM,g⟩::r) env rs nx m K:=
 fT rfl hg _ (fun _=>trivial) (fun hf=>by simp only[ax.val,hL]) _ (by simp only[ax.bL,hL];exact hm) (fun _=>h)
def r_upM {x y z:Src}{l:Nat}{k:D}{q:IntKind}{a:Int}{kvs:List D}{m2:List (Nat×bd)}(kvs2:List D)(h:ay Y draw r env (⟨true,.any⟩::rs) nx m2 K)(hx:bO env rs x=⟨true,.fn 5000000 [.it l]⟩:=by exact rfl)(hy:bO env rs y=⟨true,k⟩:=by exact rfl)(hz:bO env rs z=⟨true,.int q a⟩:=by exact rfl)(hl:look m l=some (.mpb kvs):=by exact rfl)(hk:vo k=true:=by exact rfl)(hb:wS kvs=true)(he:zF k (.int q a) kvs=kvs2)(hm:cO m l (.mpb kvs2)=m2:=by simp only[cO,cW,Nat.reduceEqDiff,bh,aZ,Nat.reduceAdd,reduceCtorEq];exact rfl):ay Y draw (⟨.upM x y z,none⟩::r) env rs nx m K:=
 oU rfl _ (by simp only[ax.ey,hx,hy,hz,mpO,hl];exact⟨trivial,trivial,trivial,⟨trivial,hb⟩,hk,q,a,rfl⟩) (by simp only[ax.val]) _ (by simp only[ax.bL,hx,hy,hz,Tz,hl,he];exact hm) (fun _=>h)
def aeW {x y:Src}{z:D}{fx fy:Bool}{l:Nat}{k:D}{kvs:List D}(v:D)(h:ay Y draw r env (⟨f,v⟩::rs) nx m K)(hg:GF rs g f:=by first|exact rfl|exact⟨_,_,rfl,rfl⟩)(hx:bO env rs x=⟨fx,.fn 5000000 [.it l]⟩:=by exact rfl)(hy:bO env rs y=⟨fy,k⟩:=by exact rfl)(kx:f=true->fx=true:=by first|exact fun _=>rfl|exact fun h=>h|(intro h;simp_all))(ky:f=true->fy=true:=by first|exact fun _=>rfl|exact fun h=>h|(intro h;simp_all))(hl:look m l=some (.mpb kvs):=by exact rfl)(hk:vo k=true:=by exact rfl)(hb:wS kvs=true)(hv:(match Nl k kvs with|some v=>D.tup [v,.bool true]|none=>D.tup [z,.bool false])=v):ay Y draw (⟨.lkM z x y,g⟩::r) env rs nx m K:=
 fT rfl hg _ (fun hf=>by simp only[ax.ey,hx,hy,mpO,hl];exact⟨kx hf,ky hf,⟨trivial,hb⟩,hk⟩) (fun hf=>by simp only[ax.val,hx,hy,Tz,hl];exact hv) m (by simp only[ax.bL]) (fun _=>h)
end
def bm.mp {lo c:Nat}{σ:List (Nat×Nat)}{m r:List (Nat×bd)}{l':Nat}{s s':List D}(l:Nat)(hl:mK lo σ l=some l')(hm:look m l=some (.mpb s))(hs:s'=s)(h:bm lo c σ m r):bm lo c σ m ((l',.mpb s')::r):=
 ⟨.inl ⟨l,_,hl,hm,hs⟩,h⟩
end
section
section
variable {shop:List bJ} {us:List cL} {x:eg} {c:List Int} {j k:Nat}
def Rx (h:me us (fN us x.name []) x.v true<0):mH shop us x c=(9,c):=by rw[mH,ak h]
def Fz (hj:fN us x.name []=(j:Nat))(hk:me us (fN us x.name []) x.v true=(k:Nat))(h:¬n9 shop us[j]!.cands[k]! x=0):mH shop us x c=(n9 shop us[j]!.cands[k]! x,c):=by
 rw[mH,ah ae,hk,hj,Int.toNat_natCast,Int.toNat_natCast,ak h]
def put_c (hj:fN us x.name []=(j:Nat))(hk:me us (fN us x.name []) x.v true=(k:Nat))(h:n9 shop us[j]!.cands[k]! x=0):mH shop us x c=vi us x x.feats (c.set j k):=by
 rw[mH,ah ae,hk,hj,Int.toNat_natCast,Int.toNat_natCast,ah iR]
end
def GL (us:List cL)(x:eg)(c:List Int):Nat->List Int
 |0=>c
 |i+1=>(GL us x c i).set (fN us x.name x.feats[i]!).toNat (me us (fN us x.name x.feats[i]!) x.v false)
def KT {us:List cL}{x:eg}{c:List Int}:∀i,(GL us x c i).length=c.length
 |0=>rfl
 |i+1=>by rw[GL,List.length_set,KT]
def vO (a b:av):D:=.agg [.str a,.str b]
def xR (us:List cL)(a b:av):Int×Bool:=(if fN us a b<0 then 0 else fN us a b,decide (0<=fN us a b))
def Vf (us:List cL)(kvs:List D):Prop:=wS kvs=true/\∀a b,(match Nl (vO a b) kvs with|some v=>D.tup [v,.bool true]|none=>D.tup [.int .i64 0,.bool false])=.tup [.int .i64 (xR us a b).1,.bool (xR us a b).2]
def H7 {us:List cL}{a b:av}(h:(xR us a b).2=false):fN us a b<0:=by simpa[xR]using h
def ZD {us:List cL}{a b:av}(h:(xR us a b).2=true):∃j:Nat,fN us a b=(j:Int)/\(xR us a b).1=(j:Int)/\1<=j/\j<us.length:=by
 have h0:0<=fN us a b:=by simpa[xR]using h
 rcases DI (us:=us) (a:=a) (b:=b)with h1|⟨j,h1,h2,h3⟩
 .omega
 .exact⟨j,h1,by simp only[xR];rw[ah ae,h1],h2,h3⟩
def X5 {us:List cL}{u:Int}{j:Nat}{v:bX}{t:Bool}(h:u=(j:Nat)):me us u v t=gu (UJ v t) us[j]!.cands 0:=by
 rw[me,ah ae,h,Int.toNat_natCast]
def aeU {us:List cL}{u:Int}{j:Nat}{v:bX}{t:Bool}(h:u=(j:Nat))(h2:¬me us u v t<0):∃k:Nat,me us u v t=(k:Int)/\k<us[j]!.cands.length:=by
 rcases LO (us:=us) (u:=u) (v:=v) (t:=t)with h3|⟨i,k,h3,h4,h5⟩
 .omega
 .have:i=j:=ae;exact⟨k,h4,this▸h5⟩
def Hn {us:List cL}{u:Int}{v:bX}{t:Bool}(h:u<0):me us u v t<0:=by rw[me,ak h];decide
def PB (shop:List bJ)(c:en)(x:eg):Int:=if c.sh=-1 then 0 else shop[c.sh.toNat]!.es[(jE shop[c.sh.toNat]! x.name x.v).toNat]!.sum
def Vm (shop:List bJ)(c:en)(x:eg):Prop:=n9 shop c x=if PB shop c x=x.sum then 0 else 13
section
variable {shop:List bJ} {c:en} {x:eg}
def sum_a (h:c.sh=-1/\x.shelf=[]):Vm shop c x/\PB shop c x=0:=by
 obtain⟨h1,h2⟩:=h;unfold Vm n9 PB;rw[ak h1,ah (by simpa using h2),ak h1];refine⟨?_,rfl⟩;by_cases h3:x.sum=0
 .rw[ah (by simpa using h3),ak h3.symm]
 .rw[ak h3,ah (fun h=>h3 h.symm)]
def PC (h:¬c.sh=-1\/¬x.shelf=[])(h2:(c.sh<0\/(shop.length:Int)<=c.sh)\/¬shop[c.sh.toNat]!.name=x.shelf):n9 shop c x=12:=by
 by_cases h0:c.sh=-1
 .exact shl_a h0 (h.resolve_left (by simpa using h0))
 .exact shl_d h0 h2
def PD (h2:(¬c.sh<0/\¬(shop.length:Int)<=c.sh)/\shop[c.sh.toNat]!.name=x.shelf)(h3:jE shop[c.sh.toNat]! x.name x.v<0):n9 shop c x=13:=
 ae1 ae h2 (.inl (by rw[ov,ak h3]))
def sum_c (h2:(¬c.sh<0/\¬(shop.length:Int)<=c.sh)/\shop[c.sh.toNat]!.name=x.shelf)(h3:¬jE shop[c.sh.toNat]! x.name x.v<0):Vm shop c x/\PB shop c x=shop[c.sh.toNat]!.es[(jE shop[c.sh.toNat]! x.name x.v).toNat]!.sum:=by
 have h4:PB shop c x=shop[c.sh.toNat]!.es[(jE shop[c.sh.toNat]! x.name x.v).toNat]!.sum:=by rw[PB,ah ae]
 have h5:ov shop[c.sh.toNat]! x.name x.v=(shop[c.sh.toNat]!.es[(jE shop[c.sh.toNat]! x.name x.v).toNat]!,true):=by rw[ov,ah h3]
 refine⟨?_,h4⟩;unfold Vm;rw[h4];split
 .rename_i h6;exact shl_f ae h2 (by rw[h5];exact⟨rfl,h6⟩)
 .rename_i h6;exact ae1 ae h2 (by rw[h5];exact .inr h6)
end
def Ww (l k:Nat)(es:List Abs.D)(c:List Int):ow l k es (c.map (D.int .i64))=c.map (D.int .i64):=jU l k es _ (b7 (fun _=>rfl) _)
def eg.fz (l k:Nat)(es:List Abs.D)(c:eg):iW l k es c.D=c.D:=gW l k es _ (by simp only[eg.D,D.aS,aL,gL])
end
def WT (a b:cZ):cZ.D a=cZ.D b↔a=b:=by cases a;cases b;simp[cZ.D,WQ]
def N0 (a b:List cZ):a.map cZ.D=b.map cZ.D↔a=b:=kF WT a b
def WL (a b:bj):bj.D a=bj.D b↔a=b:=by cases a;cases b;simp[bj.D,N0]
def Cb (a b:List bj):a.map bj.D=b.map bj.D↔a=b:=kF WL a b
def iBar (a b:mA):mA.D a=mA.D b↔a=b:=by cases a;cases b;simp[mA.D]
def K1 (a b:List mA):a.map mA.D=b.map mA.D↔a=b:=kF iBar a b
def WH (a b:b6):b6.D a=b6.D b↔a=b:=by cases a;cases b;simp[b6.D,WQ]
def Ca (a b:List b6):a.map b6.D=b.map b6.D↔a=b:=kF WH a b
def iRec (a b:Rec):Rec.D a=Rec.D b↔a=b:=by
 obtain⟨n,⟨v1,v2,v3,v4,v5⟩,x,y,z⟩:=a;obtain⟨n',⟨w1,w2,w3,w4,w5⟩,x',y',z'⟩:=b;simp[Rec.D,Cb,K1,Ca,and_assoc]
def iEtr (a b:ki):ki.D a=ki.D b↔a=b:=by
 obtain⟨⟨n,⟨v1,v2,v3,v4,v5⟩,x,y,z⟩,s,o⟩:=a;obtain⟨⟨n',⟨w1,w2,w3,w4,w5⟩,x',y',z'⟩,s',o'⟩:=b;simp[ki.D,Cb,K1,Ca,and_assoc]
def WG (a b:List ki):a.map ki.D=b.map ki.D↔a=b:=kF iEtr a b
def iShf (a b:bJ):bJ.D a=bJ.D b↔a=b:=by cases a;cases b;simp[bJ.D,WG]
def WN (a b:List bJ):a.map bJ.D=b.map bJ.D↔a=b:=kF iShf a b
def iEnv (a b:Env):Env.D a=Env.D b↔a=b:=by cases a;cases b;simp[Env.D]
def iLkd (a b:eg):eg.D a=eg.D b↔a=b:=by
 obtain⟨n,⟨v1,v2,v3,v4,v5⟩,x,y,z⟩:=a;obtain⟨n',⟨w1,w2,w3,w4,w5⟩,x',y',z'⟩:=b;simp[eg.D,WQ,and_assoc]
def WK (a b:List eg):a.map eg.D=b.map eg.D↔a=b:=kF iLkd a b
def iLck (a b:mB):mB.D a=mB.D b↔a=b:=by
 obtain⟨⟨a1,a2,a3⟩,l⟩:=a;obtain⟨⟨b1,b2,b3⟩,k⟩:=b;simp[mB.D,WK,and_assoc]
def aeJ (a b:Bool):((bif a then 690 else 691)=(bif b then 690 else 691:Nat))↔a=b:=by cases a<;>cases b<;>simp
def BL {A:FT->Prop}(h:A (fun d ds v s=>A fun d' ds' v' s'=>d'=d->ds'=ds->v=v'/\s=s'):=by
 (repeat' first|apply And.intro|intro _)
 all_goals rename_i e' e
 all_goals (try simp only[sE,D.str.injEq,D.int.injEq,D.bool.injEq,D.sl.injEq,D.ref.injEq,D.agg.injEq,D.fn.injEq,WQ,Tj,iByt,iVer,WT,N0,WL,Cb,iBar,K1,WH,Ca,iRec,WG,iEtr,iShf,WN,iEnv,iLkd,WK,iLck,iCut,aeF,WO,Cc,iSet,WS,GO,WU,N1,iCnd,WE,iUnt,WR,iWld,iKey,iGs,aeJ,iU8,oZ,iNat,dx,ee]at e e')
 all_goals first|rfl|(simp only[e,e'];done)|simp_all):yb (nR A):=abH h
structure Ask where
 allow:List Int
 order:List (List Int)
 deriving Inhabited
def jF (l:List Int):D:=.sl 1 (l.map (D.int .i64))
def Ask.D (a:Ask):D:=.agg [.sl 1 (a.allow.map (D.int .i64)),.sl 1 (a.order.map jF)]
def OA:Option (List Int)->D
 |none=>.aK
 |some c=>.sl 1 (c.map (D.int .i64))
def vV (m:j3):Prop:=(0<m.needs.length/\m.needs.length<=48/\m.bars.length=m.needs.length/\m.full.length=m.needs.length)/\∀u,u<m.needs.length->(m.bars[u]!.length=m.needs[u]!.length/\m.needs[u]!.length<=16)/\
 (∀c∈m.needs[u]!,∀r∈c,r.length<=1000/\∀x∈r,0<=x.u/\x.u<m.needs.length)/\∀r∈m.bars[u]!,∀x∈r,0<=x.u/\x.u<m.needs.length
def Ke (m:j3)(c:List Int):Prop:=c.length=m.needs.length/\∀u,u<m.needs.length->-1<=c[u]! /\c[u]! <m.needs[u]!.length
def KN {m:j3}{c:List Int}(hm:vV m)(hc:Ke m c):FineP m c:=by
 obtain⟨h1,h2⟩:=hm;have hcl:=hc.1;refine⟨ae,fun u hu h0=>?_⟩;have hun:u<m.needs.length:=ae;have hcu:=hc.2 u hun;obtain⟨h3,h4,h5⟩:=h2 u hun;have hk:c[u]!.toNat<m.needs[u]!.length:=ae;have hM:∀x:dR,0<=x.u/\x.u<m.needs.length->Kn c x:=fun x hx=>by
  have a:=hc.2 x.u.toNat ae;have b:=(h2 x.u.toNat ae).1;exact⟨ae,ae⟩
 exact⟨⟨hk,ae⟩,fun r hr x hx=>hM x ((h4 _ (aq hk) r hr).2 x hx),fun x hx=>hM x (h5 _ (aq ae) x hx)⟩
def uY (m:j3)(c:List Int)(u:Nat):Bool:=decide (c[u]! <0) ||!j6 c m.bars[u]![c[u]!.toNat]!
def yg (m:j3)(c:List Int):Bool:=bU (uY m c) 0 c.length
def HU (m:j3)(c:List Int)(u:Nat):Nat:=mD (fun k=>j6 c m.needs[u]![c[u]!.toNat]![k]!) m.needs[u]![c[u]!.toNat]!.length 0
def w9 (m:j3)(c:List Int)(u:Nat):Bool:=decide (c[u]! <0) ||decide (HU m c u=m.needs[u]![c[u]!.toNat]!.length)
def mT (m:j3)(c:List Int):Nat:=mD (w9 m c) c.length 0
def dV (m:j3)(c:List Int):Int×Int:=if c[0]! <0 then(0,-1)else if mT m c<c.length then(((mT m c:Nat):Int),((HU m c (mT m c):Nat):Int))else(-1,-1)
def Ql {f:Nat->Bool}:∀k i,i<=mD f k i/\mD f k i<=i+k
 |0,i=>by simp[mD]
 |k+1,i=>by
  have:=Ql (f:=f) k (i+1);rw[mD];split<;>omega
def Ky {f:Nat->Bool}:∀k i,mD f k i<i+k->f (mD f k i)=false
 |0,i,h=>by simp[mD]at h
 |k+1,i,h=>by
  rw[mD]at h⊢;split
  .rename_i e;rw[ak e]at h;exact Ky k (i+1) ae
  .rename_i e;simpa using e
def ab5 {m:j3}{c:List Int}(h1:yg m c=true)(h2:(dV m c).1<0):BU m c=true:=by
 unfold dV at h2;split at h2
 .exact absurd h2 aU
 .rename_i h0;split at h2
  .exact absurd h2 mz
  .rename_i hi;unfold BU;rw[bo (show 0<=c[0]! by omega),ew,bw];intro u _ hu;unfold yg at h1;rw[bw]at h1;have e1:=h1 u (Nat.zero_le _) hu;have e2:=BD c.length 0 (by rw[cD];exact hi) u (Nat.zero_le _) ae;unfold uY at e1;unfold w9 at e2;unfold Wo;by_cases hc:c[u]! <0
   .rw[bo hc];rfl
   .rw[bG hc,Bool.false_or]at e1 e2⊢;rw[e1,gL,bw];intro k _ hk;rw[aW]at e2;have e3:=BD (f:=fun k=>j6 c m.needs[u]![c[u]!.toNat]![k]!) m.needs[u]![c[u]!.toNat]!.length 0 (by unfold HU at e2;omega) k (Nat.zero_le _) ae;exact e3
def offB (l:List dR)(o:dR):Bool:=ot (fun i=>decide (l[i]! =o)) 0 l.length
def OC (mask u p:Int)(out:List dR):List dR:=if(decide (Gy mask (2^(p.toNat+1))≠0)&& !offB out ⟨u,p⟩)=true then out++[⟨u,p⟩]else out
def jW (mask u:Int)(ts:List Int):Nat->List dR->List dR
 |0,out=>out
 |i+1,out=>OC mask u ts[i]! (jW mask u ts i out)
def bz (m:j3)(c:List Int):List dR:=if 0<=(dV m c).2 then m.needs[(dV m c).1.toNat]![c[(dV m c).1.toNat]!.toNat]![(dV m c).2.toNat]! else [⟨(dV m c).1,m.full[(dV m c).1.toNat]!⟩]
def CA (mask u:Int)(ts:List Int):∀i out,(jW mask u ts i out).length<=out.length+i
 |0,out=>aO _
 |i+1,out=>by
  have:=CA mask u ts i out;rw[jW];unfold OC;split
  .rw[cn,List.length_singleton];omega
  .omega
def Vh (m:j3)(c:List Int)(o:dR):Prop:=(0<=o.u/\o.u<m.needs.length)/\c[o.u.toNat]! <0/\0<=o.m/\o.m<m.needs[o.u.toNat]!.length
def Rp {m:j3}{c:List Int}(hc:Ke m c)(h0:0<m.needs.length)(h:¬(dV m c).1<0):(0<=(dV m c).1/\(dV m c).1<c.length)/\(0<=(dV m c).2->0<=c[(dV m c).1.toNat]! /\(dV m c).2<m.needs[(dV m c).1.toNat]![c[(dV m c).1.toNat]!.toNat]!.length):=by
 have hl:=hc.1;unfold dV at*
 split
 .exact⟨⟨aU,mz⟩,fun h=>absurd h aU⟩
 .rename_i h1;rw[ah h1]at h;split
  .rename_i h2;have h3:=Ky (f:=w9 m c) c.length 0 (by rw[cD];exact h2);have h4:=(Ql (f:=fun k=>j6 c m.needs[mT m c]![c[mT m c]!.toNat]![k]!) m.needs[mT m c]![c[mT m c]!.toNat]!.length 0).2;rw[show mD (w9 m c) c.length 0=mT m c from rfl]at h3;rw[cD,show mD (fun k=>j6 c m.needs[mT m c]![c[mT m c]!.toNat]![k]!) m.needs[mT m c]![c[mT m c]!.toNat]!.length 0=HU m c (mT m c)from rfl]at h4;unfold w9 at h3;rw[eW,cv,cv]at h3;dsimp only;rw[Int.toNat_natCast];exact⟨⟨ae,ae⟩,fun _=>⟨ae,ae⟩⟩
  .rename_i h2;rw[ah h2]at h;exact absurd (by decide:((-1:Int),(-1:Int)).1<0) h
def M8 {m:j3}{c:List Int}(hm:vV m)(hc:Ke m c)(h:¬(dV m c).1<0):(∀x∈bz m c,0<=x.u/\x.u<m.needs.length)/\(bz m c).length<=1000:=by
 obtain⟨⟨h0,_⟩,hM⟩:=hm;obtain⟨h1,h2⟩:=Rp hc h0 h;have hl:=hc.1;unfold bz;split
 .rename_i h3;obtain⟨h4,h5⟩:=h2 h3;have hu:=hc.2 (dV m c).1.toNat ae;have h6:=(hM (dV m c).1.toNat ae).2.1 _ (aq (show c[(dV m c).1.toNat]!.toNat<m.needs[(dV m c).1.toNat]!.length by omega)) _ (aq (show(dV m c).2.toNat<m.needs[(dV m c).1.toNat]![c[(dV m c).1.toNat]!.toNat]!.length by omega));exact⟨h6.2,h6.1⟩
 .refine⟨fun x hx=>?_,aF⟩;obtain rfl:=aC.1 hx;exact⟨mz,mz⟩
def iH (f:dR->Option (List Int)):List dR->Option (List Int)
 |[]=>none
 |o::r=>match f o with
  |some c=>some c
  |none=>iH f r
def Ez (c:List Int):Nat:=c.countP fun x=>decide (x<0)
def xf (c:List Int)(o:dR):List Int:=c.set o.u.toNat o.m
def Lv:∀{c:List Int}{i:Nat}{v:Int},i<c.length->c[i]! <0->0<=v->Ez (c.set i v)+1=Ez c
 |[],i,v,h,_,_=>by simp at h
 |x::r,0,v,_,h1,h2=>by
  have h1:x<0:=h1;simp[Ez,List.countP_cons,h1,show ¬v<0 by omega]
 |x::r,i+1,v,h,h1,h2=>by
  have:=Lv (c:=r) (i:=i) (v:=v) qO (by simpa using h1) h2;simp only[Ez,List.set_cons_succ,List.countP_cons]at this⊢;omega
def Hp {m:j3}{c:List Int}{o:dR}(hc:Ke m c)(ho:Vh m c o):Ke m (xf c o)/\Ez (xf c o)+1=Ez c:=by
 obtain⟨h1,h2,h3,h4⟩:=ho;have hl:=hc.1;refine⟨⟨by unfold xf;rw[List.length_set];exact hl,fun u hu=>?_⟩,Lv ae h2 h3⟩;unfold xf;by_cases e:o.u.toNat=u
 .subst e;rw[List.getElem!_eq_getElem?_getD,List.getElem?_set_self ae];exact⟨by dsimp only[Option.getD_some];omega,h4⟩
 .rw[List.getElem!_eq_getElem?_getD,List.getElem?_set_ne e,<-List.getElem!_eq_getElem?_getD];exact hc.2 u hu
def wD {f g:dR->Option (List Int)}:∀{l:List dR},(∀o∈l,f o=g o)->iH f l=iH g l
 |[],_=>rfl
 |o::r,h=>by
  rw[iH,iH,h o (.head _),wD (l:=r) fun o ho=>h o (.tail _ ho)]
def zw {f:dR->Option (List Int)}{d:List Int}:∀{l:List dR},iH f l=some d->∃o∈l,f o=some d
 |[],h=>by cases h
 |o::r,h=>by
  rw[iH]at h;split at h
  .rename_i c e;obtain rfl:=aV h;exact⟨o,.head _,e⟩
  .obtain⟨o',h1,h2⟩:=zw h;exact⟨o',.tail _ h1,h2⟩
def nZ (n:Nat):List Int:=List.replicate n (-1)
def maskP {w:bT}(hw:eu w=true)(hs:∀x∈w.us,x.cands.length<=16)(hf:Few w.us):vV (dp w.us):=by
 have hpos:0<w.us.length/\w.us.length<=48:=by
  unfold eu at hw;simp only[aD,aW]at hw;omega
 have hn:(dp w.us).needs.length=w.us.length:=by simp[dp,ep]
 have hb:(dp w.us).bars.length=w.us.length:=by simp[dp,jq]
 have hfu:(dp w.us).full.length=w.us.length:=by simp[dp,iI]
 refine⟨⟨ae,ae,ae,ae⟩,fun u hu=>?_⟩;rw[hn]at hu⊢;have e1:(dp w.us).needs[u]! =eH w.us w.us[u]!.cands:=by unfold dp ep;dsimp only;rw[List.take_length,fC hu]
 have e2:(dp w.us).bars[u]! =jr w.us w.us[u]!.cands:=by unfold dp jq;dsimp only;rw[List.take_length,fC hu]
 have h16:=hs _ (aq hu);rw[e1,e2];refine⟨⟨by simp[eH,jr],by simpa[eH]using h16⟩,fun c hc r hr=>?_,fun r hr x hx=>?_⟩
 .unfold eH at hc;obtain⟨cd,h1,rfl⟩:=bW.1 hc;obtain⟨k,hk,rfl⟩:=List.mem_iff_getElem.1 h1;unfold kM at hr;obtain⟨r0,h2,rfl⟩:=bW.1 hr;have hfw:=(hf _ (aq hu) _ h1).2.2 r0 h2;refine⟨by simpa[er]using hfw,fun x hx=>?_⟩;unfold er at hx;obtain⟨y,h3,rfl⟩:=bW.1 hx;exact(DP hw hu (k:=k) hk).1 r0 (by rw[getElem!_pos w.us[u]!.cands k hk];exact h2) y h3
 .unfold jr at hr;obtain⟨cd,h1,rfl⟩:=bW.1 hr;obtain⟨k,hk,rfl⟩:=List.mem_iff_getElem.1 h1;unfold er at hx;obtain⟨y,h3,rfl⟩:=bW.1 hx;exact(DP hw hu (k:=k) hk).2 y (by rw[getElem!_pos w.us[u]!.cands k hk];exact h3)
def rY (us:List cL):Ke (dp us) (nZ us.length):=by
 refine⟨by simp[nZ,dp,ep],fun u hu=>?_⟩;have hul:u<us.length:=by simpa[dp,ep]using hu
 rw[show(nZ us.length)[u]! =-1 by unfold nZ;simp[hul]];exact⟨aU,ae⟩
def Qy {us:List cL}{c:List Int}(h:Ke (dp us) c):ChP us c:=by
 have hn:(dp us).needs.length=us.length:=by simp[dp,ep]
 refine⟨by rw[h.1,hn],fun u hu=>?_⟩;have h1:=h.2 u ae;have e1:(dp us).needs[u]!.length=us[u]!.cands.length:=by unfold dp ep;dsimp only;rw[List.take_length,fC hu];simp[eH]
 rw[e1]at h1;exact h1
def Rl:∀o:Option (List Int),slB (OA o)
 |none=>trivial
 |some _=>trivial
def NU {f:dR->Option (List Int)}{l:List dR}{i:Nat}{d:List Int}(hi:i<l.length)(h:f l[i]! =some d):iH f (l.drop i)=some d:=by
 rw[eY hi,iH,<-getElem!_pos l i hi,h]
def KO {f:dR->Option (List Int)}{l:List dR}{i:Nat}(hi:i<l.length)(h:f l[i]! =none):iH f (l.drop i)=iH f (l.drop (i+1)):=by
 rw[eY hi,iH,<-getElem!_pos l i hi,h]
def NT {f:dR->Option (List Int)}{l:List dR}{i:Nat}(hi:l.length<=i):iH f (l.drop i)=none:=by
 rw[j2 hi,iH]
def TC (i:Nat):nZ i++[-1]=nZ (i+1):=by unfold nZ;rw[List.replicate_succ']
def TD (i:Nat):(nZ i).length=i:=by unfold nZ;exact List.length_replicate
def negD (ds:List D):Nat:=match ds.getD 2 .any with
 | .sl _ es=>es.countP fun d=>match d with
  | .int _ x=>decide (x<0)
  |_=>false
 |_=>0
def Rf {a b:D}{c:List Int}:negD [a,b,.sl 1 (c.map (D.int .i64))]=Ez c:=by
 show(c.map (D.int .i64)).countP _=_;rw[List.countP_map];rfl
def iTr (a b:List dR):H2 a=H2 b↔a=b:=by simp[H2,aeK]
def iTrL (a b:List (List dR)):a.map H2=b.map H2↔a=b:=kF iTr a b
def iTrs (a b:List (List dR)):ox a=ox b↔a=b:=by simp[ox,iTrL]
def aeL (a b:List (List (List dR))):a.map ox=b.map ox↔a=b:=kF iTrs a b
def iTrss (a b:List (List (List dR))):pQ a=pQ b↔a=b:=by simp[pQ,aeL]
def aik (a b:List (List (List (List dR)))):a.map pQ=b.map pQ↔a=b:=kF iTrss a b
def iMsk (a b:j3):j3.D a=j3.D b↔a=b:=by
 obtain⟨x,y,z⟩:=a;obtain⟨x',y',z'⟩:=b;simp[j3.D,Tj,aik,aeL]
def WJ (a b:List (List Int)):a.map jF=b.map jF↔a=b:=kF (fun x y=>by simp[jF,Tj]) a b
def iAsk (a b:Ask):Ask.D a=Ask.D b↔a=b:=by
 obtain⟨x,y⟩:=a;obtain⟨x',y'⟩:=b;simp[Ask.D,Tj,WJ]
def Es (l:List av)(s:av):Int:=if gu (fun t=>decide (t=s)) l 0<0 then 0 else gu (fun t=>decide (t=s)) l 0
def cN (g:Gs)(own:av):av×Gs:=if cB[(g.val 4).toNat]! =own then(cB[((g.aR.val 3+1+Es cB own)%4).toNat]!,g.aR.aR)else(cB[(g.val 4).toNat]!,g.aR)
def dw (g:Gs)(own:av):cZ×Gs:=(⟨(cN g own).1,j0[((cN g own).2.val 8).toNat]!,[],decide (0<(cN g own).2.aR.val 3)⟩,(cN g own).2.aR.aR)
def gP (g:Gs)(own:av):List cZ×Gs:=
 if(dw g own).2.val 6=0 then([(dw g own).1,(dw (dw g own).2.aR own).1],(dw (dw g own).2.aR own).2)
 else if(dw g own).2.val 6=1 then([{(dw g own).1 with feats:=[fW]}],(dw g own).2.aR)else([(dw g own).1],(dw g own).2.aR)
def osY:av:=[111,115,32,61,32,108,105,110,117,120]
def osN:av:=[111,115,32,33,61,32,108,105,110,117,120]
def ju (g:Gs):av×Gs:=(if g.val 8=0 then osY else if g.val 8=1 then osN else [],g.aR)
def Hj (g:Gs):av×Gs:=(if g.val 5=0 then [111]else [],g.aR)
def mc (g:Gs)(own:av):bj×Gs:=(⟨(gP g own).1,(ju (gP g own).2).1,(Hj (ju (gP g own).2).2).1⟩,(Hj (ju (gP g own).2).2).2)
def TK (l:List bj):Bool:=l.any fun n=>decide (n.option=[111])
def ie:List bj->Gs->Option av×Gs
 |[],g=>(none,g)
 |n::r,g=>if n.any.length=1 then(if g.val 3=0 then(some n.any[0]!.name,g.aR)else ie r g.aR)else ie r g
def ofG (l:List bj)(g:Gs):List av×Gs:=((if TK l=true then [[63,111]]else [])++(match(ie l g).1 with|some s=>[s++[47,102]]|none=>[]),(ie l g).2)
def mQ (g:Gs)(l:List bj):b6×Gs:=(⟨[102],(ofG l g).1⟩,(ofG l g).2)
def nS (own:av)(g:Gs):Nat->List bj×Gs
 |0=>([],g)
 |i+1=>((nS own g i).1++[(mc (nS own g i).2 own).1],(mc (nS own g i).2 own).2)
def ez (g:Gs)(own:av):List mA×Gs:=if g.val 5=0 then([⟨(cN g.aR own).1,j0[((cN g.aR own).2.val 8).toNat]!,[]⟩],(cN g.aR own).2.aR)else([],g.aR)
def kZ (g:Gs)(l:List bj):List b6×Gs:=if g.val 2=0 then([(mQ g.aR l).1],(mQ g.aR l).2)else([],g.aR)
def oV (g:Gs)(nm:av)(v:bX)(most:Int):Rec×Gs:=
 let a:=nS nm g.aR (g.val (most+1)).toNat
 let b:=ez a.2 nm
 let c:=kZ b.2 a.1
 (⟨nm,v,a.1,b.1,c.1⟩,c.2)
def kK (s:bJ)(r:Rec):bJ×Int:=
 if gQ s=false then(default,1)else if(fh r).2≠0 then(default,(fh r).2)else if 0<=r7 s.es r.name r.v 0 then(default,8)else if 64<=s.es.length then(default,10)else(⟨s.name,s.es++[⟨r,vL r,false⟩]⟩,0)
def om (s:bJ)(nm:av)(v:bX)(on:Bool):bJ×Int:=
 if gQ s=false then(default,1)else if r7 s.es nm v 0<0 then(default,9)else(⟨s.name,s.es.set (r7 s.es nm v 0).toNat {s.es[(r7 s.es nm v 0).toNat]! with off:=on}⟩,0)
def qF (l:List bJ)(k:Nat)(p:bJ×Int):List bJ:=if p.2=0 then l.set k p.1 else l
def lF (g:Gs)(l:List bJ):List bJ×Gs:=
 let k:=(g.val l.length).toNat
 let nm:=cB[(g.aR.val 4).toNat]!
 let v:=bN[(g.aR.aR.val 4).toNat]!
 let h:=g.aR.aR.aR
 if h.val 6=0 then(qF l k (om l[k]! nm v (decide (0<h.aR.val 3))),h.aR.aR)else(qF l k (kK l[k]! (oV h.aR nm v 2).1),(oV h.aR nm v 2).2)
def MM:List bJ:=[⟨Xk,[]⟩,⟨Dq,[]⟩]
def pS (g:Gs):Nat->List bJ×Gs
 |0=>(MM,g)
 |i+1=>lF (pS g i).2 (pS g i).1
def kd (ks:List Int)(most:Int):List bJ:=(pS (⟨ks,0⟩:Gs).aR ((⟨ks,0⟩:Gs).val (most+1)).toNat).1
def WV (l:List av)(s:av):0<=Es l s/\Es l s<=l.length:=by
 unfold Es;rcases eO (f:=fun t=>decide (t=s)) (l:=l) (k:=0)with⟨h,_⟩|⟨j,h,h2,_⟩
 .rw[h];simp
 .rw[h,ah ae];omega
def oM (n:Int)(g g':Gs):Prop:=g.i<=g'.i/\g'.i<=g.i+n
def oM.tr {n k:Int}{a b c:Gs}(h:oM n a b)(h2:oM k b c):oM (n+k) a c:=by unfold oM at*;omega
def xd (g:Gs)(own:av):oM 2 g (cN g own).2:=by unfold cN oM;split<;>simp only[Gs.aR]<;>omega
def Br (g:Gs)(own:av):oM 4 g (dw g own).2:=by
 have:=xd g own;simp only[oM,dw,Gs.aR]at*;omega
def Vv (g:Gs)(own:av):oM 9 g (gP g own).2:=by
 have h1:=Br g own;have h2:=Br (dw g own).2.aR own;unfold gP;simp only[oM,Gs.aR]at*
 split
 .simp only;omega
 .split<;>simp only<;>omega
def Re (g:Gs)(own:av):oM 11 g (mc g own).2:=by
 have h1:=Vv g own;simp only[oM,mc,ju,Hj,Gs.aR]at*;omega
def Hm:∀(l:List bj) (g:Gs),oM l.length g (ie l g).2
 |[],g=>by simp[oM,ie]
 |n::r,g=>by
  have h1:=Hm r g;have h2:=Hm r g.aR;simp only[oM,Gs.aR,bD]at*
  rw[ie];split
  .split<;>simp only[Gs.aR]<;>omega
  .omega
def wU (own:av)(g:Gs):∀i:Nat,oM (11*i) g (nS own g i).2/\(nS own g i).1.length=i
 |0=>⟨by simp[oM,nS],rfl⟩
 |i+1=>by
  have h1:=wU own g i;have h2:=Re (nS own g i).2 own;simp only[oM,nS,cn,bD,b9]at*
  omega
def Gu (g:Gs)(own:av):oM 4 g (ez g own).2:=by
 have:=xd g.aR own;unfold ez;simp only[oM,Gs.aR]at*
 split<;>simp only<;>omega
def GH (g:Gs)(l:List bj):oM (1+l.length) g (kZ g l).2:=by
 have:=Hm l g.aR;unfold kZ;simp only[oM,Gs.aR,mQ,ofG]at*
 split<;>simp only<;>omega
def ajW (g:Gs)(nm:av)(v:bX):oM 30 g (oV g nm v 2).2:=by
 have h4:=(g.R6 (2+1)).1 ae;show oM 30 g (kZ (ez (nS nm g.aR (g.val (2+1)).toNat).2 nm).2 (nS nm g.aR (g.val (2+1)).toNat).1).2;generalize g.val (2+1)=z at h4⊢;have h1:=wU nm g.aR z.toNat;have h2:=Gu (nS nm g.aR z.toNat).2 nm;have h3:=GH (ez (nS nm g.aR z.toNat).2 nm).2 (nS nm g.aR z.toNat).1;generalize nS nm g.aR z.toNat=a at*
 generalize ez a.2 nm=b at*
 generalize kZ b.2 a.1=c at*
 simp only[oM,Gs.aR]at*
 omega
def ajA (g:Gs)(l:List bJ):oM 34 g (lF g l).2:=by
 have h1:=ajW g.aR.aR.aR.aR cB[(g.aR.val 4).toNat]! bN[(g.aR.aR.val 4).toNat]!;by_cases h:g.aR.aR.aR.val 6=0
 .rw[show lF g l=_ from ak h];simp only[oM,Gs.aR];omega
 .rw[show lF g l=_ from ah h];simp only[oM,Gs.aR]at*;omega
def adj (g:Gs)(l:List bJ):(lF g l).1.length=l.length:=by
 simp only[lF,qF];split<;>simp only<;>split<;>simp
def Rv (g:Gs):∀i:Nat,oM (34*i) g (pS g i).2/\(pS g i).1.length=2
 |0=>⟨by simp[oM,pS],rfl⟩
 |i+1=>by
  have h1:=Rv g i;have h2:=ajA (pS g i).2 (pS g i).1;have h3:=adj (pS g i).2 (pS g i).1;simp only[oM,pS]at*
  omega
def vj {α:Type} [Inhabited α]{l:List α}{P:α->Prop}(hd:P default)(h:∀x∈l,P x)(i:Nat):P l[i]! :=by
 by_cases hi:i<l.length
 .exact h _ (aq hi)
 .rw[show l[i]! =default by simp[List.getElem!_eq_getElem?_getD,List.getElem?_eq_none (Nat.le_of_not_lt hi)]];exact hd
def yB (i:Nat):cB[i]!.length<=3:=vj (P:=fun s:av=>s.length<=3) aU aU i
def yF (g:Gs)(own:av):(cN g own).1.length<=3:=by
 unfold cN;split<;>exact yB _
def Hx {g:Gs}:j9 j0[(g.val 8).toNat]! :=by
 have:=g.eI 8 ae;exact aq (by simp only[j0,bD,b9];omega)
def R9 (g:Gs)(own:av):(dw g own).1.sm:=⟨⟨by have:=yF g own;simp only[dw];omega,Hx⟩,fun _ h=>bZ⟩
def agu (g:Gs)(own:av):∀w∈(gP g own).1,w.sm:=by
 have h1:=R9 g own;have h2:=R9 (dw g own).2.aR own;unfold gP;split
 .intro w hw;simp only[bF,cP,or_false]at hw;rcases hw with rfl|rfl<;>assumption
 .split
  .intro w hw;rw[aC.1 hw];exact⟨h1.1,fun t ht=>by rw[aC.1 ht];decide⟩
  .intro w hw;rw[aC.1 hw];exact h1
def acZ (g:Gs)(own:av):(mc g own).1.sm:=by
 refine⟨agu g own, ?_, ?_⟩
 .show oG (ju (gP g own).2).1;unfold ju oG;simp only;split
  .decide
  .split<;>decide
 .show(Hj (ju (gP g own).2).2).1.length<=1048576;unfold Hj;simp only;split<;>decide
def Ra (own:av)(g:Gs):∀i,∀n∈(nS own g i).1,n.sm
 |0=>fun _ h=>by cases h
 |i+1=>fun n h=>by
  rcases List.mem_append.1 h with h|h
  .exact Ra own g i n h
  .rw[aC.1 h];exact acZ _ _
structure iC where
 name:av
 shelf:av
 deriving Inhabited,DecidableEq
def iC.D (x:iC):D:=.agg [.str x.name,.str x.shelf]
structure ko where
 name:av
 range:av
 deriving Inhabited,DecidableEq
def ko.D (x:ko):D:=.agg [.str x.name,.str x.range]
structure gO where
 r:Rec
 ps:List iC
 hs:List ko
 deriving Inhabited,DecidableEq
def gO.D (x:gO):D:=.agg [.str x.r.name,.int .i64 x.r.v.major,.int .i64 x.r.v.minor,.int .i64 x.r.v.patch,.str x.r.v.pre,.str x.r.v.build,.sl 3 (x.r.needs.map bj.D),.sl 3 (x.r.bars.map mA.D),.sl 2 (x.r.feats.map b6.D),.sl 2 (x.ps.map iC.D),.sl 2 (x.hs.map ko.D)]
def LM (l:List iC)(i:Nat):Int:=if(dd l[i]!.name=false\/dd l[i]!.shelf=false)\/(0<i/\Op.bytesLess l[i-1]!.name l[i]!.name=false)then 15 else 0
def B7 (l:List ko)(i:Nat):Int:=if dd l[i]!.name=false\/(0<i/\Op.bytesLess l[i-1]!.name l[i]!.name=false)then 4 else if qz l[i]!.range=false then 6 else 0
def CF (l:List iC):Int×Int:=gI (LM l) 0 l.length
def B9 (l:List ko):Int×Int:=gI (B7 l) 0 l.length
def kr (m:gO):Int×Int:=if ¬(cS m.r).1=0 then cS m.r else if 8<m.ps.length\/8<m.hs.length then(3,0)else if ¬(CF m.ps).1=0 then CF m.ps else B9 m.hs
def Xm (m:gO):Prop:=gZ m.r/\∀h∈m.hs,j9 h.range
structure ub where
 r:Rec
 sh:Int
 deriving Inhabited,DecidableEq
def ub.D (x:ub):D:=.agg [.str x.r.name,.int .i64 x.r.v.major,.int .i64 x.r.v.minor,.int .i64 x.r.v.patch,.str x.r.v.pre,.str x.r.v.build,.sl 3 (x.r.needs.map bj.D),.sl 3 (x.r.bars.map mA.D),.sl 2 (x.r.feats.map b6.D),.int .i64 x.sh]
def uj (l:List ub):D:=.sl 10 (l.map ub.D)
instance keyDec:DecidableEq Key:=fun a b=>decidable_of_iff (a.n=b.n/\a.f=b.f) (by cases a;cases b;simp)
structure je where
 k:Key
 s:cr
 deriving Inhabited,DecidableEq
def je.D (a:je):D:=.agg [.str a.k.n,.str a.k.f,.sl 14 (a.s.rel.map Span.D),.sl 14 (a.s.pr.map Span.D)]
abbrev fJ:=List je
def dL (r:fJ):D:=.sl 4 (r.map je.D)
structure cx where
 l:List gO
 shop:List bJ
 e:Env
 keeps:List Kp
 pins:List iC
 deriving Inhabited,DecidableEq
def cx.D (y:cx)(f:D):D:=.agg [.sl 11 (y.l.map gO.D),.sl 2 (y.shop.map bJ.D),.str y.e.e0,.str y.e.e1,.str y.e.e2,.sl 6 (y.keeps.map Kp.D),.sl 2 (y.pins.map iC.D),f]
def linW:av:=[108,105,110,117,120]
def Fs (w:av)(e:Env):Bool:=if w=osY then decide (e.e0=[]) ||decide (e.e0=linW)else if w=osN then !decide (e.e0=linW)else true
def eV (x:cZ):List Key:=(if x.bare=true then(if x.feats=[]then [⟨x.name,[]⟩]else [])else [⟨x.name,kW⟩])++x.feats.map fun f=>⟨x.name,f⟩
def bC (a b c:Int):Cut:=⟨0,⟨a,b,c,[],[]⟩,false⟩
def a1W:av:=[97,46,49]
def gN:List cr:=[⟨PJ,[]⟩,⟨[⟨bC 1 0 0,bC 2 0 0⟩],[]⟩,⟨[⟨bC 1 2 0,bC 1 2 1⟩],[]⟩,⟨[⟨bC 1 2 0,La⟩],[]⟩,⟨[⟨BW,bC 2 0 0⟩],[]⟩,
 ⟨[⟨bC 2 0 0,bC 3 0 0⟩],[⟨⟨0,⟨2,0,0,a1W,[]⟩,false⟩,bC 2 0 0⟩]⟩,⟨[⟨bC 1 0 0,bC 1 0 1⟩,⟨bC 2 0 0,bC 2 0 1⟩],[]⟩,⟨[⟨BW,bC 1 2 0⟩,⟨bC 1 2 1,La⟩],[]⟩]
def eU (s:av):cr:=gN[(gu (fun t=>decide (t=s)) j0 0).toNat]!
def plnW:av:=[112,108,97,110,57]
def qh:List Env:=[⟨[],[],[]⟩,⟨linW,[],[]⟩,⟨plnW,[],[]⟩]
def kX (e:Env):Prop:=e∈qh
def iA (n:bj):List fJ:=if n.any.length=1 then(eV n.any[0]!).map fun k=>[⟨k,eU n.any[0]!.range⟩]else [n.any.map fun w=>⟨(eV w)[0]!,eU w.range⟩]
def AI (e:Env)(o:av)(n:bj):List fJ:=if n.option=o/\Fs n.when' e=true then iA n else []
def qx (ns:List bj)(e:Env)(o:av):List fJ:=ns.flatMap (AI e o)
def qX (e:Env)(nm ft:av)(n:bj):List fJ:=if(n.any.length=1/\n.any[0]!.name=nm)/\Fs n.when' e=true then(if n.option=[]then []else iA n)++[[⟨⟨nm,ft⟩,eU n.any[0]!.range⟩]]else []
def iN (ns:List bj)(e:Env)(nm ft:av):List fJ:=ns.flatMap (qX e nm ft)
def lZ (r:Rec)(e:Env)(s:av):List fJ:=if(bI s).1=1 then [[⟨⟨r.name,(bI s).2.1⟩,dz r.v⟩]]else if(bI s).1=2 then qx r.needs e (bI s).2.1 else iN r.needs e (bI s).2.1 (bI s).2.2
def uC (l:List b6)(ft:av):List av:=if findF l ft 0<0 then []else l[(findF l ft 0).toNat]!.of
def cH (r:Rec)(e:Env)(ft:av):List fJ:=if ft=[]then qx r.needs e []else [[⟨⟨r.name,[]⟩,dz r.v⟩]]++(uC r.feats ft).flatMap (lZ r e)
def eC (l:List gO):List fJ:=l.map fun m=>[⟨⟨m.r.name,kW⟩,dz m.r.v⟩]
def fD:Key:=⟨[],[]⟩
def eP (a b:Key):Bool:=Op.bytesLess a.n b.n ||(decide (a.n=b.n)&&Op.bytesLess a.f b.f)
def Et (l:List Key)(k:Key)(i:Nat):Nat:=i+((l.drop i).takeWhile fun x=>eP x k).length
def r9 (l:List Key)(k:Key):List Key:=if Et l k 0<l.length/\l[Et l k 0]! =k then l else(l.take (Et l k 0)++[k])++l.drop (Et l k 0)
def ec (l:List Key)(k:Key):Int:=gu (fun x=>decide (x=k)) l 0
def isM (nm:av)(m:gO):Bool:=decide (m.r.name=nm)
def lE (l:List gO)(nm:av):Int:=gu (isM nm) l 0
def B6 (nm:av)(s:bJ):Bool:=s.es.any fun x=>decide (x.r.name=nm)
def zJ (l:List iC):Bool:=bU (fun i=>decide (LM l i=0)) 0 l.length
def EE (l:List iC)(nm:av):Int:=gu (fun p=>decide (p.name=nm)) l 0
def fS (shop:List bJ)(pins:List iC)(nm:av):Int×Int:=
 if eJ shop=false then(0,1)else if zJ pins=false then(0,15)
 else if 0<=EE pins nm then(if mi shop pins[(EE pins nm).toNat]!.shelf<0 then(0,12)else(mi shop pins[(EE pins nm).toNat]!.shelf,0))
 else if gu (B6 nm) shop 0<0 then(0,9)else(gu (B6 nm) shop 0,0)
def AD (es:List ki)(l:List Int)(i k:Nat):Nat:=k+((l.drop k).takeWhile fun j=>decide (iz es[j.toNat]!.r.v es[i]!.r.v<0)).length
def GU (es:List ki)(l:List Int)(i:Nat):List Int:=(l.take (AD es l i 0)++[(i:Int)])++l.drop (AD es l i 0)
def eA (es:List ki)(nm:av):Nat->List Int
 |0=>[]
 |i+1=>if es[i]!.r.name=nm then GU es (eA es nm i) i else eA es nm i
def j7 (s:bJ)(nm:av):List Int:=if gQ s=false then []else eA s.es nm s.es.length
def cE (shop:List bJ)(pins:List iC)(nm:av):Int×List Int×Int:=if(fS shop pins nm).2≠0 then(0,[],(fS shop pins nm).2)else((fS shop pins nm).1,j7 shop[(fS shop pins nm).1.toNat]! nm,0)
def K8 (ks:List Kp)(r:Rec):Bool:=ks.any fun k=>decide (k.name=r.name)&&LC k.v r.v
def kC (l:List gO)(nm:av):cr:=if l[0]!.hs.length≠0/\l[0]!.hs[0]!.name=nm then eU l[0]!.hs[0]!.range else pf
def R1 (y:cx)(nm:av)(x:ki):Bool:=(!x.off ||K8 y.keeps x.r)&&oN (kC y.l nm) x.r.v
def iM (y:cx)(nm:av)(at':Nat):List Int->List ub
 |[]=>[]
 |i::r=>(if R1 y nm y.shop[at']!.es[i.toNat]! =true then [⟨y.shop[at']!.es[i.toNat]!.r,(at':Int)⟩]else [])++iM y nm at' r
def dE (y:cx)(nm:av):List ub:=
 if 0<=lE y.l nm then [⟨y.l[(lE y.l nm).toNat]!.r,-1⟩]else if(cE y.shop y.pins nm).2.2≠0 then []else iM y nm (cE y.shop y.pins nm).1.toNat (cE y.shop y.pins nm).2.1
def XE (ft:av)(x:ub):Bool:=decide (ft=[]) ||isF x.r.feats ft
def eF (y:cx)(k:Key):List ub:=(dE y k.n).filter (XE k.f)
def cT (y:cx)(k:Key):List fJ:=if k=fD then eC y.l else(eF y k).flatMap fun x=>cH x.r y.e k.f
structure oL where
 all:List Key
 todo:List Key
 deriving Inhabited,DecidableEq
def mg (s:oL)(a:je):oL:=if s.all.length<(r9 s.all a.k).length then⟨r9 s.all a.k,s.todo++[a.k]⟩else s
def OO (s:oL)(r:List fJ):oL:=r.foldl (fun s row=>row.foldl mg s) s
def AM (y:cx)(s:oL):oL:=OO ⟨s.all,s.todo.drop 1⟩ (cT y s.todo[0]!)
def AL (y:cx):Nat->oL->Option (List Key)
 |0,_=>none
 |n+1,s=>if s.todo.length=0 then some s.all else if 48<(AM y s).all.length then none else AL y n (AM y s)
def nq:oL:=⟨[fD],[fD]⟩
def mI (y:cx):Option (List Key):=AL y 49 nq
def dy (all:List Key)(l:List fJ):List nH:=l.map fun r=>r.map fun a=>⟨ec all a.k,a.s⟩
def qb (all:List Key)(e:Env)(b:mA):List Want:=if 0<=ec all ⟨b.name,[]⟩/\Fs b.when' e=true then [⟨ec all ⟨b.name,[]⟩,eU b.range⟩]else []
def we (all:List Key)(r:Rec)(e:Env):List Want:=r.bars.flatMap (qb all e)
def dM (y:cx)(all:List Key)(k:Key)(x:ub):en:=⟨x.r.v,x.sh,dy all (cH x.r y.e k.f),if k.f=[]then we all x.r y.e else []⟩
def oe (c:en):Bool:=decide (24<c.needs.length) ||decide (24<c.bars.length)
def eh (y:cx)(all:List Key)(k:Key):List en×Bool:=
 if k=fD then([⟨zV,-1,dy all (eC y.l),[]⟩],true)
 else if((eF y k).map (dM y all k)).any oe=true then([],false)else((eF y k).map (dM y all k),decide ((dE y k.n).length<=16))
def rj (y:cx)(all:List Key)(k:Key):cL:=⟨k.n,k.f,(eh y all k).1⟩
def nw (y:cx)(all:List Key):Nat->List cL×Bool
 |0=>([],true)
 |i+1=>if(nw y all i).2=true then((nw y all i).1++[rj y all all[i]!],(eh y all all[i]!).2)else nw y all i
def ei (y:cx):bT×Bool:=match mI y with
 |none=>(⟨[]⟩,false)
 |some all=>(⟨(nw y all all.length).1⟩,(nw y all all.length).2)
def gw (l:List gO):List iC:=l[0]!.ps
def gG (l:List gO)(shop:List bJ)(e:Env)(keeps:List Kp):bT×Int:=
 if eJ shop=false\/nK e=false then(⟨[]⟩,1)else if(gw l).any (fun p=>decide (mi shop p.shelf<0))=true then(⟨[]⟩,12)
 else if(ei ⟨l,shop,e,keeps,gw l⟩).2=false then(⟨[]⟩,10)else((ei ⟨l,shop,e,keeps,gw l⟩).1,0)
end Go.Abs
section
namespace Go.Abs
def qoW:av:=[63,111]
def qE (l:List bj)(i:Nat):List av:=if TK (l.take i)=true then [qoW]else []
def Fu {l:List bj}{i:Nat}(h:i<l.length):TK (l.take (i+1))=(TK (l.take i) ||decide (l[i]!.option=[111])):=by
 have e:l.take (i+1)=l.take i++[l[i]!]:=by
  rw[List.take_add_one,List.getElem?_eq_getElem h];simp[h]
 rw[e];simp[TK]
def aj1 {l:List bj}{i:Nat}(h:i<l.length)(h2:l[i]!.option=[111]/\((qE l i).length:Int)=0):qE l (i+1)=[qoW]:=by
 unfold qE;rw[Fu h,ak (by rw[bo h2.1,Bool.or_true])]
def aj0 {l:List bj}{i:Nat}(h:i<l.length)(h2:¬l[i]!.option=[111]\/¬((qE l i).length:Int)=0):qE l i=qE l (i+1):=by
 unfold qE at*
 rw[Fu h];rcases h2 with h2|h2
 .simp only[bG h2,Bool.or_false]
 .split at h2
  .rename_i h3;rw[h3];rfl
  .simp at h2
def gS (l:List bj)(g:Gs):Nat->Gs
 |0=>g
 |i+1=>if l[i]!.any.length=1 then(gS l g i).aR else gS l g i
def aey (l:List bj)(g:Gs):∀i:Nat,oM (i:Int) g (gS l g i)
 |0=>by simp[oM,gS]
 |i+1=>by
  have:=aey l g i;rw[gS];split<;>simp only[oM,Gs.aR]at* <;>omega
def ajl {l:List bj}{g:Gs}{i:Nat}(h:i<l.length)(h1:l[i]!.any.length=1)(h2:(gS l g i).val 3=0):ie (l.drop i) (gS l g i)=(some l[i]!.any[0]!.name,(gS l g i).aR):=by
 rw[eY h,ie,show l[i]=l[i]! by simp[h],ak h1,ak h2]
def ajm {l:List bj}{g:Gs}{i:Nat}(h:i<l.length)(h1:l[i]!.any.length=1)(h2:¬(gS l g i).val 3=0):ie (l.drop i) (gS l g i)=ie (l.drop (i+1)) (gS l g (i+1)):=by
 rw[eY h,ie,show l[i]=l[i]! by simp[h],ak h1,ah h2,gS,ak h1]
def ajn {l:List bj}{g:Gs}{i:Nat}(h:i<l.length)(h1:¬l[i]!.any.length=1):ie (l.drop i) (gS l g i)=ie (l.drop (i+1)) (gS l g (i+1)):=by
 rw[eY h,ie,show l[i]=l[i]! by simp[h],ah h1,gS,ah h1]
def ajo {l:List bj}{g:Gs}{i:Nat}(h:l.length<=i):ie (l.drop i) (gS l g i)=(none,gS l g i):=by
 rw[j2 h,ie]
def Mz (l:List bj):qE l l.length=if TK l=true then [qoW]else []:=by rw[qE,List.take_length]
def MA (l:List bj)(i:Nat):(qE l i).length<=1:=by unfold qE;split<;>simp
def Wh {l:List bj}{g:Gs}{i:Nat}(hr:ie l g=ie (l.drop i) (gS l g i))(h:i<l.length)(h1:l[i]!.any.length=1)(h2:(gS l g i).val 3=0):mQ g l=(⟨[102],qE l l.length++[l[i]!.any[0]!.name++[47,102]]⟩,(gS l g i).aR):=by
 rw[mQ,ofG,hr,ajl h h1 h2,Mz];rfl
def Wi {l:List bj}{g:Gs}{i:Nat}(hr:ie l g=ie (l.drop i) (gS l g i))(h:l.length<=i):mQ g l=(⟨[102],qE l l.length⟩,gS l g i):=by
 rw[mQ,ofG,hr,ajo h,Mz];simp only[fZ];rfl
end Go.Abs
namespace Go.Abs
section
variable {s:bJ} {r:Rec} {nm:av} {v:bX} {on:Bool}
def put_1 (h:gQ s=false):kK s r=(default,1):=by rw[kK,ak h]
def put_2 (h:gQ s=true)(h2:¬(fh r).2=0):kK s r=(default,(fh r).2):=by rw[kK,ah fR,ak h2]
def put_3 (h:gQ s=true)(h2:(fh r).2=0)(h3:0<=r7 s.es r.name r.v 0):kK s r=(default,8):=by rw[kK,ah fR,ah (by simp[h2]),ak h3]
def put_4 (h:gQ s=true)(h2:(fh r).2=0)(h3:¬0<=r7 s.es r.name r.v 0)(h4:64<=s.es.length):kK s r=(default,10):=by rw[kK,ah fR,ah (by simp[h2]),ah h3,ak h4]
def put_5 (h:gQ s=true)(h2:(fh r).2=0)(h3:¬0<=r7 s.es r.name r.v 0)(h4:¬64<=s.es.length):kK s r=(⟨s.name,s.es++[⟨r,vL r,false⟩]⟩,0):=by rw[kK,ah fR,ah (by simp[h2]),ah h3,ah h4]
def akt (h:gQ s=false):om s nm v on=(default,1):=by rw[om,ak h]
def aku (h:gQ s=true)(h2:r7 s.es nm v 0<0):om s nm v on=(default,9):=by rw[om,ah fR,ak h2]
def akv {j:Nat}(h:gQ s=true)(h2:r7 s.es nm v 0=(j:Nat)):om s nm v on=(⟨s.name,s.es.set j {s.es[j]! with off:=on}⟩,0):=by
 rw[om,ah fR,ah ae,h2,Int.toNat_natCast]
end
def Rec.fz (l k:Nat)(es:List Abs.D)(c:Rec):iW l k es c.D=c.D:=gW l k es _ (by simp only[Rec.D,D.aS,aL,gL])
def HZ {α:Type} [Inhabited α]{q:α->D}{xs:List α}{i k n o:Nat}{v:D}{y:α}(h:i<xs.length)(he:su (q xs[i]!) k n o v=q y):(xs.map q).set (0+i) (su ((xs.map q).getD (0+i) .any) k n o v)=(xs.set i y).map q:=by
 rw[cD,getD_map h,he,List.map_set]
end Go.Abs
namespace Go.Abs
section
variable {g:Gs} {l:List bJ}
def kG (g:Gs)(l:List bJ):Nat:=(g.val l.length).toNat
def nmG (g:Gs):av:=cB[(g.aR.val 4).toNat]!
def vrG (g:Gs):bX:=bN[(g.aR.aR.val 4).toNat]!
def UN (g:Gs)(l:List bJ):bJ×Int:=om l[kG g l]! (nmG g) (vrG g) (decide (0<g.aR.aR.aR.aR.val 3))
def rcG (g:Gs):Rec×Gs:=oV g.aR.aR.aR.aR (nmG g) (vrG g) 2
def UL (g:Gs)(l:List bJ):bJ×Int:=kK l[kG g l]! (rcG g).1
def Yb (h:g.aR.aR.aR.val 6=0)(h2:(UN g l).2=0):lF g l=(l.set (kG g l) (UN g l).1,g.aR.aR.aR.aR.aR):=by
 rw[show lF g l=(qF l (kG g l) (UN g l),g.aR.aR.aR.aR.aR)from ak h,qF,ak h2]
def Yc (h:g.aR.aR.aR.val 6=0)(h2:¬(UN g l).2=0):lF g l=(l,g.aR.aR.aR.aR.aR):=by
 rw[show lF g l=(qF l (kG g l) (UN g l),g.aR.aR.aR.aR.aR)from ak h,qF,ah h2]
def Yd (h:¬g.aR.aR.aR.val 6=0)(h2:(UL g l).2=0):lF g l=(l.set (kG g l) (UL g l).1,(rcG g).2):=by
 rw[show lF g l=(qF l (kG g l) (UL g l),(rcG g).2)from ah h,qF,ak h2]
def Ye (h:¬g.aR.aR.aR.val 6=0)(h2:¬(UL g l).2=0):lF g l=(l,(rcG g).2):=by
 rw[show lF g l=(qF l (kG g l) (UL g l),(rcG g).2)from ah h,qF,ah h2]
end
def xS (i:Nat):bN[i]!.sm:=vj (P:=fun v:bX=>v.sm) ⟨aU,aU⟩ (by
 intro v hv;simp only[bN,bF,cP,or_false]at hv;rcases hv with rfl|rfl|rfl|rfl<;>exact⟨aU,aU⟩) i
def Cv {i:Nat}(h:i<4):cB[i]! ∈cB:=aq h
def LI (g:Gs)(own:av):(cN g own).1∈cB:=by
 have r4:=g.eI 4 ae;have r3:=g.aR.eI 3 ae;have rz:=WV cB own;unfold cN;split
 .exact Cv ae
 .exact Cv ae
def agt (g:Gs)(own:av):∀w∈(gP g own).1,w.name∈cB:=by
 have h1:=LI g own;have h2:=LI (dw g own).2.aR own;unfold gP;split
 .intro w hw;simp only[bF,cP,or_false]at hw;rcases hw with rfl|rfl<;>assumption
 .split<;>intro w hw<;>rw[aC.1 hw]<;>exact h1
def Xt (own:av)(g:Gs):∀i,∀n∈(nS own g i).1,∀w∈n.any,w.name∈cB
 |0=>fun _ h=>by cases h
 |i+1=>fun n h=>by
  rcases List.mem_append.1 h with h|h
  .exact Xt own g i n h
  .rw[aC.1 h];exact agt _ _
def Hl:∀(l:List bj) (g:Gs),(∀n∈l,∀w∈n.any,w.name∈cB)->∀s,(ie l g).1=some s->s∈cB
 |[],g,_,s,h=>by cases h
 |n::r,g,hl,s,h=>by
  rw[ie]at h;split at h
  .rename_i h1;split at h
   .simp only[aB]at h;rw[<-h];exact hl n (.head _) _ (aq ae)
   .exact Hl r _ (fun n hn=>hl n (.tail _ hn)) s h
  .exact Hl r _ (fun n hn=>hl n (.tail _ hn)) s h
def aeS {l:List bj}{g:Gs}(hl:∀n∈l,∀w∈n.any,w.name∈cB):(ofG l g).1∈ofL:=by
 have h:=Hl l g hl;unfold ofG;simp only;cases hp:(ie l g).1 with
 |none=>split<;>decide
 |some s=>
  have hs:=h s hp;simp only[cB,bF,cP,or_false]at hs;rcases hs with rfl|rfl|rfl|rfl<;>split<;>decide
def YO (g:Gs){nm:av}{v:bX}(hn:nm.length<=3)(hv:v.sm):gZ (oV g nm v 2).1:=by
 refine⟨⟨by show nm.length<=_;omega,hv⟩,Ra nm g.aR _, ?_, ?_⟩
 .show ∀b∈(ez (nS nm g.aR (g.val (2+1)).toNat).2 nm).1,b.sm
  unfold ez;split
  .intro b hb;rw[aC.1 hb];exact⟨by have:=yF (nS nm g.aR (g.val (2+1)).toNat).2.aR nm;simp only;omega,Hx,show([]:av)∈Ls by decide⟩
  .intro b hb;cases hb
 .show(kZ (ez (nS nm g.aR (g.val (2+1)).toNat).2 nm).2 (nS nm g.aR (g.val (2+1)).toNat).1).1∈BO;unfold kZ;split
  .exact .tail _ (bW.2 ⟨_,aeS (Xt nm g.aR _),rfl⟩)
  .exact .head _
def RS {l:List bJ}{k:Nat}{p:bJ×Int}(h:ja l)(hp:∀x∈p.1.es,gZ x.r):ja (qF l k p):=by
 unfold qF;split
 .intro s hs;rcases List.mem_or_eq_of_mem_set hs with h1|rfl
  .exact h s h1
  .exact hp
 .exact h
def adZ {s:bJ}{nm:av}{v:bX}{on:Bool}(h:∀x∈s.es,gZ x.r):∀x∈(om s nm v on).1.es,gZ x.r:=by
 unfold om;split
 .intro x hx;cases hx
 .split
  .intro x hx;cases hx
  .rename_i h2;obtain⟨j,hj,hjl⟩:=(Bk (l:=s.es) (nm:=nm) (v:=v)).resolve_left ae;rw[hj,Int.toNat_natCast];intro x hx;rcases List.mem_or_eq_of_mem_set hx with h1|rfl
   .exact h x h1
   .exact h s.es[j]! (aq hjl)
def ajB {s:bJ}{r:Rec}(h:∀x∈s.es,gZ x.r)(hr:gZ r):∀x∈(kK s r).1.es,gZ x.r:=by
 unfold kK;split
 .intro x hx;cases hx
 .split
  .intro x hx;cases hx
  .split
   .intro x hx;cases hx
   .split
    .intro x hx;cases hx
    .intro x hx;rcases List.mem_append.1 hx with h1|h1
     .exact h x h1
     .rw[aC.1 h1];exact hr
def GM {l:List bJ}(h:ja l)(k:Nat):∀x∈l[k]!.es,gZ x.r:=vj (P:=fun s:bJ=>∀x∈s.es,gZ x.r) (fun _ h=>bZ) h k
def ajz {g:Gs}{l:List bJ}(h:ja l):ja (lF g l).1:=by
 by_cases h1:g.aR.aR.aR.val 6=0
 .rw[show lF g l=(qF l (kG g l) (UN g l),g.aR.aR.aR.aR.aR)from ak h1];exact RS h (adZ (GM h _))
 .rw[show lF g l=(qF l (kG g l) (UL g l),(rcG g).2)from ah h1];exact RS h (ajB (GM h _) (YO _ (yB _) (xS _)))
def XY (g:Gs):∀i,ja (pS g i).1
 |0=>fun s hs=>by
  simp only[pS,MM,bF,cP,or_false]at hs;rcases hs with rfl|rfl<;>intro x hx<;>cases hx
 |i+1=>ajz (XY g i)
def MN (ks:List Int)(most:Int):ja (kd ks most):=XY _ _
end Go.Abs
end
namespace Go.Abs
def cM (ord:List (List Int))(u:Int):List Int:=if u<(ord.length:Int)then ord[u.toNat]! else []
def Tf (l:List Int)(x:Int):Bool:=ot (fun k=>decide (l[k]! =x)) 0 l.length
def cC (o:List Int)(n:Nat):Nat->List Int
 |0=>o
 |i+1=>if Tf (cC o n i) ((n:Int) -1-(i:Int))=true then cC o n i else cC o n i++[(n:Int) -1-(i:Int)]
def MX (m:j3)(ord:List (List Int))(u:Int):List Int:=cC (cM ord u) m.needs[u.toNat]!.length m.needs[u.toNat]!.length
def yc (m:j3)(ord:List (List Int)):Prop:=∀u:Nat,u<m.needs.length->(cM ord u).length<=16/\∀p∈cM ord u,0<=p/\p<m.needs[u]!.length
def R3 {o:List Int}{n:Nat}(ho:∀p∈o,0<=p/\p<(n:Int)):∀i,i<=n->(∀p∈cC o n i,0<=p/\p<(n:Int))/\(cC o n i).length<=o.length+i
 |0,_=>⟨ho,aO _⟩
 |i+1,h=>by
  obtain⟨h1,h2⟩:=R3 ho i ae;rw[cC];split
  .exact⟨h1,ae⟩
  .refine⟨fun p hp=>?_,Kb⟩;rcases List.mem_append.1 hp with hp|hp
   .exact h1 p hp
   .obtain rfl:=aC.1 hp;omega
def Fq (m:j3)(ord:List (List Int))(c:List Int)(x:dR)(out:List dR):List dR:=if 0<=c[x.u.toNat]! then out else jW x.m x.u (MX m ord x.u) (MX m ord x.u).length out
def dK (m:j3)(ord:List (List Int))(c:List Int)(l:List dR):Nat->List dR
 |0=>[]
 |k+1=>Fq m ord c l[k]! (dK m ord c l k)
def dX (m:j3)(ord:List (List Int))(c:List Int):List dR:=if(dV m c).1<0 then []else dK m ord c (bz m c) (bz m c).length
def Lz {m:j3}{c:List Int}{mask u:Int}{ts:List Int}(hu:(0<=u/\u<m.needs.length)/\c[u.toNat]! <0)(ht:∀p∈ts,0<=p/\p<m.needs[u.toNat]!.length):∀i out,i<=ts.length->(∀o∈out,Vh m c o)->(∀o∈jW mask u ts i out,Vh m c o)/\(jW mask u ts i out).length<=out.length+i
 |0,out,_,h=>⟨h,aO _⟩
 |i+1,out,hi,h=>by
  obtain⟨h1,h2⟩:=Lz (mask:=mask) hu ht i out ae h;have hg:=ht _ (aq (show i<ts.length by omega));rw[jW];unfold OC;split
  .refine⟨fun o ho=>?_,Kb⟩;rcases List.mem_append.1 ho with ho|ho
   .exact h1 o ho
   .obtain rfl:=aC.1 ho;exact⟨hu.1,hu.2,hg.1,hg.2⟩
  .exact⟨h1,ae⟩
def H3 {m:j3}{ord:List (List Int)}(h16:∀u,u<m.needs.length->m.needs[u]!.length<=16)(hO:yc m ord){u:Int}(hu:0<=u/\u<m.needs.length):(∀p∈MX m ord u,0<=p/\p<m.needs[u.toNat]!.length)/\(MX m ord u).length<=32:=by
 obtain⟨h1,h2⟩:=hO u.toNat ae;rw[show((u.toNat:Nat):Int)=u by omega]at h1 h2;obtain⟨h3,h4⟩:=R3 h2 m.needs[u.toNat]!.length (aO _);have:=h16 u.toNat ae;exact⟨h3,by unfold MX;omega⟩
def wZ {m:j3}{ord:List (List Int)}{c:List Int}{l:List dR}(h16:∀u,u<m.needs.length->m.needs[u]!.length<=16)(hO:yc m ord)(hl:∀x∈l,0<=x.u/\x.u<m.needs.length):∀k,k<=l.length->(∀o∈dK m ord c l k,Vh m c o)/\(dK m ord c l k).length<=32*k
 |0,_=>⟨fun o ho=>(by cases ho),Nat.zero_le _⟩
 |k+1,hk=>by
  obtain⟨h1,h2⟩:=wZ h16 hO hl k ae;have hx:=hl _ (aq (show k<l.length by omega));rw[dK];unfold Fq;split
  .exact⟨h1,ae⟩
  .obtain⟨ht,ht2⟩:=H3 h16 hO hx;obtain⟨h4,h5⟩:=Lz (mask:=l[k]!.m) ⟨hx,ae⟩ ht (MX m ord l[k]!.u).length (dK m ord c l k) (aO _) h1;exact⟨h4,ae⟩
def qw {m:j3}{ord:List (List Int)}{c:List Int}(hm:vV m)(hO:yc m ord)(hc:Ke m c):(∀o∈dX m ord c,Vh m c o)/\(dX m ord c).length<=32000:=by
 unfold dX;split
 .exact⟨fun o ho=>(by cases ho),aF⟩
 .rename_i h;obtain⟨h1,h2⟩:=M8 hm hc h;obtain⟨h3,h4⟩:=wZ (c:=c) (fun u hu=>(hm.2 u hu).1.2) hO h1 (bz m c).length (aO _);exact⟨h3,ae⟩
def Dx (m:j3)(ord:List (List Int)):Nat->List Int->Option (List Int)
 |0,_=>none
 |f+1,c=>if yg m c=false then none else if(dV m c).1<0 then some c else iH (fun o=>Dx m ord f (xf c o)) (dX m ord c)
def mq (m:j3)(ord:List (List Int))(c:List Int):Option (List Int):=Dx m ord (Ez c+1) c
def Dy {m:j3}{ord:List (List Int)}{c:List Int}(hm:vV m)(hO:yc m ord)(hc:Ke m c):mq m ord c=if yg m c=false then none else if(dV m c).1<0 then some c else iH (fun o=>mq m ord (xf c o)) (dX m ord c):=by
 rw[mq,Dx];congr 2;refine wD fun o ho=>?_
 have:=(Hp hc ((qw hm hO hc).1 o ho)).2;rw[mq,this]
def ml {m:j3}{ord:List (List Int)}(hm:vV m)(hO:yc m ord){d:List Int}:∀(f:Nat) (c:List Int),Ke m c->Dx m ord f c=some d->BU m d=true/\Ke m d
 |0,c,_,h=>by cases h
 |f+1,c,hc,h=>by
  rw[Dx]at h;split at h
  .cases h
  .rename_i h1;split at h
   .rename_i h2;obtain rfl:=aV h;exact⟨ab5 (by simpa using h1) h2,hc⟩
   .obtain⟨o,h3,h4⟩:=zw h;exact ml hm hO f _ (Hp hc ((qw hm hO hc).1 o h3)).1 h4
def kv (us:List cL)(ord:List (List Int)):Option (List Int):=mq (dp us) ord (nZ us.length)
end Go.Abs
