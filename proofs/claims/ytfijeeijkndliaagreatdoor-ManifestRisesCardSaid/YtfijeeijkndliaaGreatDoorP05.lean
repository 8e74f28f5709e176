/- A part of the proofs. -/
import Derived.Test.YtfijeeijkndliaaGreatDoorP04
set_option linter.all false
set_option maxRecDepth 4000
section
namespace Go.Abs
variable {Y:Ctx}(hm:(Y.at 0).cQ)
structure cu where
 name:ak
 range:ak
 feats:List ak
 bare:Bool
 deriving Inhabited,DecidableEq
def cu.D (x:cu):D:=.agg [.str x.name,.str x.range,.sl 1 (x.feats.map D.str),.bool x.bare]
structure bT where
 any:List cu
 when':ak
 option:ak
 deriving Inhabited,DecidableEq
def bT.D (x:bT):D:=.agg [.sl 4 (x.any.map cu.D),.str x.when',.str x.option]
structure jT where
 name:ak
 range:ak
 when':ak
 deriving Inhabited,DecidableEq
def jT.D (x:jT):D:=.agg [.str x.name,.str x.range,.str x.when']
structure ct where
 name:ak
 of:List ak
 deriving Inhabited,DecidableEq
def ct.D (x:ct):D:=.agg [.str x.name,.sl 1 (x.of.map D.str)]
structure Rec where
 name:ak
 v:gE
 needs:List bT
 bars:List jT
 feats:List ct
 deriving Inhabited,DecidableEq
def Rec.D (x:Rec):D:=.agg [.str x.name,.int .i64 x.v.major,.int .i64 x.v.minor,.int .i64 x.v.patch,.str x.v.pre,.str x.v.build,.sl 3 (x.needs.map bT.D),.sl 3 (x.bars.map jT.D),.sl 2 (x.feats.map ct.D)]
structure dx where
 op:Int
 parts:Int
 v:gE
 deriving Inhabited,DecidableEq
def dx.D (x:dx):D:=.agg [.int .i64 x.op,.int .i64 x.parts,.int .i64 x.v.major,.int .i64 x.v.minor,.int .i64 x.v.patch,.str x.v.pre,.str x.v.build]
structure Nd where
 op:Int
 a:Int
 b:Int
 key:Int
 text:ak
 deriving Inhabited,DecidableEq
def Nd.D (x:Nd):D:=.agg [.int .i64 x.op,.int .i64 x.a,.int .i64 x.b,.int .i64 x.key,.str x.text]
def jT.eq (a b:jT):gJ (jT.D a).cells (jT.D b).cells=decide (a=b):=by
 obtain⟨a1,a2,a3⟩:=a;obtain⟨b1,b2,b3⟩:=b
 grind [jT.D,D.cells,gJ,nv]
def cu.same {a b:cu}(e1:a.name=b.name)(e2:a.range=b.range)(e3:a.bare=b.bare):decide (a=b)=decide (a.feats=b.feats):=by
 obtain⟨a1,a2,a3,a4⟩:=a;obtain⟨b1,b2,b3,b4⟩:=b
 grind
def rising (l:List ak):Bool:=dz (fun i=>Op.bytesLess l[i-1]! l[i]!) 1 l.length
def dy (s:ak):Int×ak×ak:=
 if cJ s=true then(1,s,[])
 else if s.length>0/\at8 s 0=63/\cJ (s.drop 1)=true then(2,s.drop 1,[])
 else if(ai s 47).length=2/\ee (ai s 47)[0]! =true/\cJ (ai s 47)[1]! =true then(3,(ai s 47)[0]!,(ai s 47)[1]!)
 else(0,[],[])
def findF (l:List ct)(nm:ak)(i:Nat):Int:=match(l.drop i).findIdx? (fun x=>decide (x.name=nm))with
 |some k=>((i+k:Nat):Int)
 |none=>-1
def I9 {l:List ct}{nm:ak}{i:Nat}(h:i<l.length)(he:l[i]!.name=nm):findF l nm i=(i:Nat):=by
 unfold findF;rw[jn h,List.findIdx?_cons]
 grind
def Ja {l:List ct}{nm:ak}{i:Nat}(h:i<l.length)(he:¬l[i]!.name=nm):findF l nm i=findF l nm (i+1):=by
 unfold findF;have:¬l[i].name=nm:=by simpa[h]using he
 rw[jn h,List.findIdx?_cons]
 grind
def GM {l:List ct}{nm:ak}{i:Nat}(h:l.length<=i):findF l nm i=-1:=by
 unfold findF;rw[jR h];rfl
def N4:ak:=[100,101,102,97,117,108,116]
def G4 (l:List ct)(nm:ak):Bool:=decide (nm=N4) ||decide (0<=findF l nm 0)
def kj (l:List ct)(s:ak):Bool:=!(decide ((dy s).1=0) ||(decide ((dy s).1=1)&& !G4 l (dy s).2.1))
def vK (l:List ct)(of:List ak):Bool:=decide (of.length<=6)&&rising of&&dz (fun i=>kj l of[i]!) 0 of.length
def mD (l:List ct)(i:Nat):Bool:=cJ l[i]!.name&& !(decide (0<i)&& !Op.bytesLess l[i-1]!.name l[i]!.name)&&vK l l[i]!.of
def iU (l:List ct):Bool:=decide (l.length<=8)&&dz (mD l) 0 l.length
def ct.sm (x:ct):Prop:=x.name.length<=1048576/\x.of.length<=1048576/\∀t∈x.of,t.length<=1048576
def uA (l:List ct):Prop:=∀x∈l,x.sm
def yb (b:ak):∀(l:List ak) (i:Nat),(aR b (l.take i)).length<=(aR b l).length
 |[],i=>aJ
 |[t],0=>by simp[aR]
 |[t],i+1=>aJ
 |t::u::r,0=>by simp[aR]
 |t::u::r,1=>by simp[aR]
 |t::u::r,i+2=>by
  have:=yb b (u::r) (i+1)
  grind [aR]
theorem qL (b t:ak):∀(l:List ak),l≠[]->aR b (l++[t])=aR b l++b++t
 |[],h=>absurd rfl h
 |[u],_=>by simp[aR]
 |u::v::r,_=>by
  have:=qL b t (v::r) aJ
  grind [aR]
def qM (b:ak)(l:List ak)(i:Nat)(h:i<l.length):aR b (l.take (i+1))=(if 0<i then aR b (l.take i)++b else [])++l[i]! :=by
 have e:l.take (i+1)=l.take i++[l[i]!]:=by
  rw[List.take_add_one,List.getElem?_eq_getElem h];simp[h]
 rw[e];by_cases h0:0<i
 .rw[aw h0,qL _ _ _ (by intro hn;have:=ar List.length hn;simp only[fW,aO]at this;omega)]
 grind [aR]
end Go.Abs
namespace Go.Abs
variable {Y:Ctx}(hm:(Y.at 0).cQ)
def Mz {s:ak}(h0:cJ s=true):dy s=(1,s,[]):=by simp only[dy,aw h0]
def MA {s:ak}(h0:cJ s=false)(h:(0<(s.length:Int)/\at8 s 0=63)/\cJ (s.drop 1)=true):dy s=(2,s.drop 1,[]):=by
 grind [dy]
theorem A9 {s:ak}(h:(¬0<(s.length:Int)\/¬at8 s 0=63)\/cJ (s.drop 1)=false):¬(s.length>0/\at8 s 0=63/\cJ (s.drop 1)=true):=by
 grind
def MB {s:ak}(h0:cJ s=false)(h:(¬0<(s.length:Int)\/¬at8 s 0=63)\/cJ (s.drop 1)=false)(h2:(((ai s 47).length:Int)=2/\ee (ai s 47)[0]! =true)/\cJ (ai s 47)[1]! =true):dy s=((3:Int),(ai s 47)[0]!,(ai s 47)[1]!):=by
 grind [dy,A9]
def My {s:ak}(h0:cJ s=false)(h:(¬0<(s.length:Int)\/¬at8 s 0=63)\/cJ (s.drop 1)=false)(h2:(¬((ai s 47).length:Int)=2\/ee (ai s 47)[0]! =false)\/cJ (ai s 47)[1]! =false):dy s=(0,[],[]):=by
 grind [dy,A9]
end Go.Abs
end
namespace Go.Abs
variable {Y:Ctx}(hm:(Y.at 0).cQ)
theorem zb (s:ak)(i:Nat)(h:i<s.length):at8 s i=((s[i]'h).toNat:Int):=by simp[at8,h]
def Av (p:Int->Bool)(s:ak):dz (fun i=>p (at8 s i)) 0 s.length=true↔∀c∈s,p c.toNat=true:=by
 rw[eY];constructor
 .intro h c hc;obtain⟨i,hi,rfl⟩:=List.getElem_of_mem hc
  grind [zb]
 grind [zb]
theorem pd {b:Int}:∀{s cur:ak},(∀c∈s,(c.toNat:Int)≠b)->bH b s cur=[cur++s]
 |[],cur,_=>by simp[bH]
 |c::r,cur,h=>by
  simp only[bH];rw[aj (h c (.head _)),pd (fun d hd=>h d (.tail _ hd))];simp
def wK {b:Int}{x:UInt8}(hx:(x.toNat:Int)=b)(r:ak):∀{w cur:ak},(∀c∈w,(c.toNat:Int)≠b)->bH b (w++x::r) cur=(cur++w)::bH b r []
 |[],cur,_=>by simp[bH,hx]
 |c::w,cur,h=>by
  simp only[eV,bH];rw[aj (h c (.head _)),wK hx r (fun d hd=>h d (.tail _ hd))];simp
def tR {b:Int}{x:UInt8}(hx:(x.toNat:Int)=b):∀{ws:List ak},ws≠[]->(∀w∈ws,∀c∈w,(c.toNat:Int)≠b)->ai (aR [x] ws) b=ws
 |[],h,_=>absurd rfl h
 |[w],_,h=>by
  show bH b w []=[w];rw[pd (h w (.head _))];rfl
 |w::u::r,_,h=>by
  have ih:=tR (ws:=u::r) hx aJ (fun v hv=>h v (.tail _ hv));show bH b (w++[x]++aR [x] (u::r)) []=_;rw[dU,List.singleton_append,wK hx _ (h w (.head _))];rw[show bH b (aR [x] (u::r)) []=u::r from ih];rfl
def oF {b:Int}{x:UInt8}(hx:(x.toNat:Int)=b):∀(s cur:ak),aR [x] (bH b s cur)=cur++s
 |[],cur=>by simp[bH,aR]
 |c::r,cur=>by
  simp only[bH];split
  .rename_i h;rw[fQ _ _ _ (by intro h;have:=fm b r [];rw[h]at this;simp at this),oF hx r []];have:c=x:=lT.1 ae;simp[this]
  .rw[oF hx r];simp
theorem j6 {b:Int}{x:UInt8}(hx:(x.toNat:Int)=b)(s:ak):aR [x] (ai s b)=s:=by
 unfold ai;rw[oF hx];rfl
theorem AN {n:Nat}(h:n<10):bd (dg n).toNat=true:=by
 grind [IZ,bd]
def AM {Q:Nat->Prop}(h1:∀n,n<10->Q n)(h2:∀n,9<n->Q (n/10)->Q n)(n:Nat):Q n:=by
 induction n using Nat.strongRecOn with
 |ind n ih=>
  grind
theorem oq (n:Nat):∀c∈eh n,bd c.toNat=true:=by
 refine AM (Q:=fun n=>∀c∈eh n,bd c.toNat=true) (fun n h c hc=>?_) (fun n h ih c hc=>?_) n
 .grind [pF,AN]
 grind [pE,AN]
def L5 (n:Nat):eh n≠[]:=by
 refine AM (Q:=fun n=>eh n≠[]) (fun n h=>?_) (fun n h ih=>?_) n
 .rw[pF h];simp
 .rw[pE h];simp
theorem pK (x:UInt8):∀(ws:List ak) (c:UInt8),c∈aR [x] ws->c=x\/∃w∈ws,c∈w
 |[],c,h=>by simp[aR]at h
 |[w],c,h=>.inr ⟨w,.head _,h⟩
 |w::u::r,c,h=>by
  rw[fQ _ _ _ aJ]at h;simp only[List.mem_append,cT]at h;rcases h with(h|h)|h
  .exact .inr ⟨w,.head _,h⟩
  .exact .inl h
  .rcases pK x (u::r) c h with h|⟨v,hv,hc⟩
   .exact .inl h
   .exact .inr ⟨v,.tail _ hv,hc⟩
def KQ {s:ak}{p:Bool}(h:qn s p=true){c:UInt8}(hc:c∈s):lx c.toNat=true\/c=46:=by
 simp only[qn,dk,a8,mr,bt,eY]at h;rcases h with rfl|⟨_,h⟩
 .cases hc
 .rw[<-j6 (b:=46) (x:=46) rfl s]at hc;rcases pK 46 _ c hc with rfl|⟨w,hw,hcw⟩
  .exact .inr rfl
  .left;obtain⟨i,hi,rfl⟩:=List.getElem_of_mem hw;have:=h i ae hi;rw[show(ai s 46)[i]! =(ai s 46)[i]by simp[hi]]at this;simp only[gw,pe,bt]at this;exact(Av lx _).1 this.1.2 c hcw
def I0 {c:UInt8}(h:bd c.toNat=true):c.toNat≠46/\c.toNat≠45/\c.toNat≠43/\c.toNat≠32/\c.toNat≠10:=by
 grind [bd]
def coreS (v:gE):ak:=eh v.major.toNat++[46]++eh v.minor.toNat++[46]++eh v.patch.toNat
theorem H2 (v:gE):DS v=coreS v++(if v.pre=[]then []else 45::v.pre)++(if v.build=[]then []else 43::v.build):=rfl
def hv (c:UInt8):Nat:=if bd c.toNat=true then c.toNat-48 else c.toNat-87
def uc (s:ak):Nat:=s.foldl (fun n c=>n*16+hv c) 0
def Cg (a b:Int):0<=Cf a b/\Cf a b<18446744073709551616:=by
 unfold Cf;rw[IntKind.wrap_u64];omega
def DQ (s:ak):0<=QA s/\QA s<18446744073709551616:=Cg _ _
theorem NN {s:ak}(h:cJ s=true){c:UInt8}(hc:c∈s):yN c.toNat=true:=by
 simp only[cJ,bt]at h;exact(Av yN s).1 h.2 c hc
def sk.wf (x:sk):Prop:=0<=x.sum/\x.sum<18446744073709551616
def Ah.wf (l:Ah):Prop:=∀x∈l.lines,x.wf
end Go.Abs
section
namespace Go.Abs
variable {Y:Ctx}(hm:(Y.at 0).cQ)
theorem tS {b:Int}{x:UInt8}(hx:(x.toNat:Int)=b):∀(s cur:ak),bH b s cur=match s.findIdx? (fun c=>c==x)with
  |some k=>(cur++s.take k)::bH b (s.drop (k+1)) []
  |none=>[cur++s]
 |[],cur=>by simp[bH]
 |c::r,cur=>by
  simp only[bH,List.findIdx?_cons];by_cases h:c=x
  .subst h;rw[aw hx];simp
  .have h1:¬(c.toNat:Int)=b:=fun e=>h (lT.1 ae)
   have h2:(c==x)=false:=by simpa using h
   rw[aj h1,h2,tS hx r (cur++[c])]
   grind
def yI (s:ak)(x:UInt8):ai s x.toNat=if(fO s x).2.2=true then(fO s x).1::ai (fO s x).2.1 x.toNat else [s]:=by
 grind [ai,fO,tS]
def yB {s:ak}:(((fO s 47).2.2=true/\ee (fO s 47).1=true)/\cJ (fO s 47).2.1=true)↔(((ai s 47).length:Int)=2/\ee (ai s 47)[0]! =true)/\cJ (ai s 47)[1]! =true:=by
 have h:=yI s 47;rw[show(((47:UInt8).toNat:Nat):Int)=47 from rfl]at h;by_cases hc:(fO s 47).2.2=true
 .rw[aw hc]at h;rw[h];have hj:=j6 (b:=47) (x:=47) rfl (fO s 47).2.1;constructor
  .grind [ai,fO,bH,pd,NN,yN,iN,bd]
  .rintro⟨⟨h1,h2⟩,h3⟩;refine⟨⟨hc,h2⟩, ?_⟩;generalize ai (fO s 47).2.1 47=q at hj h1 h3
   match q,h1 with
   |[y],_=>
    have:y=(fO s 47).2.1:=hj;rw[<-this];exact h3
   |[],h1=>simp at h1
   |_::_::_,h1=>simp at h1;omega
 .rw[aj hc]at h;rw[h];constructor
  .rintro⟨⟨h1,_⟩,_⟩;exact absurd h1 hc
  .rintro⟨⟨h1,_⟩,_⟩;simp at h1
def Bk {s:ak}:(eH s [63]).2=true↔0<(s.length:Int)/\at8 s 0=63:=by
 match s with
 |[]=>simp[eH,List.isPrefixOf]
 |c::r=>
  have e:((c.toNat:Int)=63)↔c=63:=⟨fun h=>lT.1 (by have:(63:UInt8).toNat=63:=rfl;omega),fun h=>by subst h;rfl⟩
  grind [eH,at8]
theorem yl {s:ak}(h:(eH s [63]).2=true):(eH s [63]).1=s.drop 1:=by
 grind [eH]
def MD {s:ak}(h0:cJ s=false)(h:(eH s [63]).2=true/\cJ (eH s [63]).1=true):dy s=(2,(eH s [63]).1,[]):=by
 rw[yl h.1]at h⊢;exact MA h0 ⟨Bk.1 h.1,h.2⟩
def Em {s:ak}(h:(eH s [63]).2=false\/cJ (eH s [63]).1=false):(¬0<(s.length:Int)\/¬at8 s 0=63)\/cJ (s.drop 1)=false:=by
 by_cases hp:(eH s [63]).2=true
 .grind [yl]
 .have:=fun h2=>hp (Bk.2 h2)
  grind
def ME {s:ak}(h0:cJ s=false)(h:(eH s [63]).2=false\/cJ (eH s [63]).1=false)(h2:((fO s 47).2.2=true/\ee (fO s 47).1=true)/\cJ (fO s 47).2.1=true):dy s=((3:Int),(fO s 47).1,(fO s 47).2.1):=by
 have h3:=yB.1 h2;rw[MB h0 (Em h) h3];have hs:=yI s 47;rw[show(((47:UInt8).toNat:Nat):Int)=47 from rfl,aw h2.1.1]at hs;have hj:=j6 (b:=47) (x:=47) rfl (fO s 47).2.1;have hl:=h3.1.1;rw[hs]at hl⊢;generalize ai (fO s 47).2.1 47=q at hj hl
 match q,hl with
 |[y],_=>
  have:y=(fO s 47).2.1:=hj;rw[<-this];rfl
 |[],h1=>simp at h1
 |_::_::_,h1=>simp at h1;omega
def MC {s:ak}(h0:cJ s=false)(h:(eH s [63]).2=false\/cJ (eH s [63]).1=false)(h2:((fO s 47).2.2=false\/ee (fO s 47).1=false)\/cJ (fO s 47).2.1=false):dy s=(0,[],[]):=by
 refine My h0 (Em h) ?_;have hn:¬((((ai s 47).length:Int)=2/\ee (ai s 47)[0]! =true)/\cJ (ai s 47)[1]! =true):=fun h3=>by
  obtain⟨⟨g1,g2⟩,g3⟩:=yB.2 h3
  grind
 grind
end Go.Abs
namespace Go.Abs
variable {Y:Ctx}(hm:(Y.at 0).cQ)
def GG {l:List ct}{i:Nat}(h:(!cJ l[i]!.name ||(decide ((0:Int)<(i:Int))&& !Op.bytesLess l[i-1]!.name l[i]!.name) ||decide ((6:Int)<(l[i]!.of.length:Int)) ||!rising l[i]!.of)=false):
  mD l i=dz (fun j=>kj l l[i]!.of[j]!) 0 l[i]!.of.length:=by
 grind [mD,vK]
def GD {l:List ct}{i:Nat}(h:(!cJ l[i]!.name ||(decide ((0:Int)<(i:Int))&& !Op.bytesLess l[i-1]!.name l[i]!.name) ||decide ((6:Int)<(l[i]!.of.length:Int)) ||!rising l[i]!.of)=true):
  mD l i=false:=by
 grind [mD,vK,cJ,rising]
end Go.Abs
end
section
namespace Go.Abs
variable {Y:Ctx}(hm:(Y.at 0).cQ)
def c7 (op:Int):ak:=if op=1 then [61]else if op=2 then [33,61]else if op=3 then [60]else if op=4 then [60,61]else if op=5 then [62]else if op=6 then [62,61]else if op=7 then [94]else if op=8 then [126]else []
def ta (op:Int):(c7 op).length<=2:=by
 grind [c7]
def tY (s w:ak):Bool:=decide (w.length<=s.length)&&decide (s.take w.length=w)
def nW (c:dx):Bool:=(decide (0<c.parts) ||decide (c.v.major=0))&&(decide (1<c.parts) ||decide (c.v.minor=0))&&(decide (2<c.parts) ||decide (c.v.patch=0))
def lX (c:dx):Bool:=decide (1<=c.op)&&decide (c.op<=9)&&iP c.v&&decide (c.v.build=[])&&decide ((if c.op=9 then 0 else 1)<=c.parts)&&decide (c.parts<=if c.op=9 then 2 else 3)&&(decide (3<=c.parts) ||decide (c.v.pre=[]))&&nW c
def dx.sm (c:dx):Prop:=c.v.sm
def AI {c:dx}(h:(decide (c.op<1) ||decide (9<c.op) ||!iP c.v ||!decide (c.v.build=[]))=true):lX c=false:=by
 unfold lX
 grind
def xS {c:dx}(h:(decide (c.op<1) ||decide (9<c.op) ||!iP c.v ||!decide (c.v.build=[]))=false):1<=c.op/\c.op<=9/\iP c.v=true/\c.v.build=[]:=by
 grind
end Go.Abs
namespace Go.Abs
variable {Y:Ctx}(hm:(Y.at 0).cQ)
def pz {c:dx}(hy:1<=c.op/\c.op<=9/\iP c.v=true/\c.v.build=[]){lo hi:Int}(hlo:(if c.op=9 then 0 else 1)=lo)(hhi:(if c.op=9 then 2 else 3)=hi):
  lX c=(!(decide (c.parts<lo) ||decide (hi<c.parts) ||(decide (c.parts<3)&& !decide (c.v.pre=[])))&&nW c):=by
 grind [lX]
end Go.Abs
namespace Go.Abs
variable {Y:Ctx}(hm:(Y.at 0).cQ)
def dx.ku (c:dx):List Int:=[c.v.major,c.v.minor,c.v.patch]
def e8 (c:dx):Nat->ak
 |0=>[]
 |i+1=>e8 c i++(if 0<i then [46]else [])++eh (c.ku[i]!).toNat
def jA (c:dx):ak:=if c.op=9 then(if 0<c.parts then [46]else [])++[42]else if c.v.pre=[]then []else 45::c.v.pre
def j0 (c:dx):ak:=c7 c.op++e8 c c.parts.toNat++jA c
def eA (c:dx):ak:=if lX c=true then j0 c else []
def oN {c:dx}(h:iP c.v=true)(i:Nat):0<=c.ku[i]! /\c.ku[i]! <=9999:=by
 simp only[iP,xm,bt,a8]at h
 match i with
 |0=>exact h.1.1.1.1
 |1=>exact h.1.1.1.2
 |2=>exact h.1.1.2
 |k+3=>exact(by simp[dx.ku]:0<=c.ku[k+3]! /\c.ku[k+3]! <=9999)
def pQ {c:dx}(h:iP c.v=true):∀i,(e8 c i).length<=5*i
 |0=>by simp[e8]
 |i+1=>by
  have:=pQ h i;have hn:=oN h i;have:=fC 4 (c.ku[i]!).toNat ae ae
  grind [e8]
def mO {c:dx}(h:lX c=true):iP c.v=true/\0<=c.parts/\c.parts<=3/\1<=c.op/\c.op<=9:=by
 grind [lX]
end Go.Abs
namespace Go.Abs
variable {Y:Ctx}(hm:(Y.at 0).cQ)
def ke (c:dx):List ak:=(c.ku.map fun n=>eh n.toNat).take c.parts.toNat
def yt (c:dx):∀i,i<=3->aR [46] ((c.ku.map fun n=>eh n.toNat).take i)=e8 c i
 |0,_=>by simp[aR,e8]
 |i+1,h=>by
  have hl:i<(c.ku.map fun n=>eh n.toNat).length:=by simp[dx.ku];omega
  have hl2:i<c.ku.length:=by show i<3;omega
  rw[qM _ _ _ hl,yt c i ae];simp only[e8];have e:(c.ku.map fun n=>eh n.toNat)[i]! =eh (c.ku[i]!).toNat:=by simp[hl2]
  rw[e];split
  .simp
  grind [e8]
theorem B1 {c:dx}(h:c.parts<=3):(ke c).length=c.parts.toNat:=by
 simp[ke,dx.ku];omega
theorem yM {c:dx}(h:c.parts<=3):aR [46] (ke c)=e8 c c.parts.toNat:=yt c _ ae
def tf {c:dx}(h0:0<=c.parts)(h:c.parts<=3):aR [46] (ke c++[[42]])=e8 c c.parts.toNat++((if 0<c.parts then [46]else [])++[42]):=by
 by_cases hp:0<c.parts
 .grind [qL,B1,yM]
 .have:c.parts.toNat=0:=ae;rw[aj hp,this];have e:ke c=[]:=by simp[ke,this]
  rw[e];rfl
end Go.Abs
namespace Go.Abs
variable {Y:Ctx}(hm:(Y.at 0).cQ)
def opsL:List Int:=[2,4,6,1,3,5,7,8]
def qP (s:ak)(i:Nat):Option Int:=(opsL.drop i).find? fun o=>tY s (c7 o)
def kA (s:ak):Int×ak:=match qP s 0 with
 |some o=>(o,s.drop (c7 o).length)
 |none=>if 0<s.length/\at8 s (s.length-1)=42 then(9,s)else(7,s)
def M0 {s:ak}{i:Nat}(h:i<8)(hb:tY s (c7 opsL[i]!)=true):qP s i=some opsL[i]! :=by
 have hl:i<opsL.length:=h;unfold qP;rw[jn hl,List.find?_cons]
 grind
def M1 {s:ak}{i:Nat}(h:i<8)(hb:tY s (c7 opsL[i]!)=false):qP s i=qP s (i+1):=by
 have hl:i<opsL.length:=h;unfold qP;rw[jn hl,List.find?_cons]
 grind
def JP {s:ak}{i:Nat}(h:8<=i):qP s i=none:=by
 unfold qP;rw[jR h];rfl
def ix (s:ak)(i:Nat):ak×ak:=match(s.drop i).findIdx? (fun c=>c==45)with
 |some k=>(s.take (i+k),s.drop (i+k+1))
 |none=>(s,[])
def Nj {s:ak}{i:Nat}(h:i<s.length)(he:at8 s i=45):ix s i=(s.take i,s.drop (i+1)):=by
 unfold ix;rw[pH s i h,List.findIdx?_cons];have:s.getD i 0=45:=lT.1 (by simp only[at8]at he;show(s.getD i 0).toNat=45;omega);rw[this];rfl
def Nk {s:ak}{i:Nat}(h:i<s.length)(he:¬at8 s i=45):ix s i=ix s (i+1):=by
 unfold ix;rw[pH s i h,List.findIdx?_cons];have:(s.getD i 0==45)=false:=by
  rw[beq_eq_false_iff_ne];intro e;exact he (by simp only[at8,e];rfl)
 grind
def Kf {s:ak}{i:Nat}(h:s.length<=i):ix s i=(s,[]):=by
 unfold ix;rw[jR h];rfl
end Go.Abs
namespace Go.Abs
variable {Y:Ctx}(hm:(Y.at 0).cQ)
def iw (l:List ak):Bool:=decide (l.length<=3)&&dz (fun i=>gB l[i]!) 0 l.length
def numV (l:List ak):gE:=⟨if 0<l.length then eK l[0]! else 0,if 1<l.length then eK l[1]! else 0,if 2<l.length then eK l[2]! else 0,[],[]⟩
end Go.Abs
namespace Go.Abs
variable {Y:Ctx}(hm:(Y.at 0).cQ)
def fq:dx:=⟨0,0,kB⟩
def Oq (op:Int)(l:List ak):List ak:=if op=9 then l.take (l.length-1)else l
def qg (op:Int)(l:List ak)(pre:ak):dx:=⟨op,(l.length:Nat),{numV l with pre:=pre}⟩
def JN (s:ak)(op:Int)(l:List ak)(pre:ak):Bool:=iw l&& !(decide (eA (qg op l pre)=[]) ||(!decide (eA (qg op l pre)=s)&& !decide (eA (qg op l pre)=94::s)))
def hR (s:ak):Option dx:=
 let o:=kA s
 let p:=ix o.2 0
 let l:=Oq o.1 (ai p.1 46)
 if JN s o.1 l p.2=true then some (qg o.1 l p.2)else none
def DM (s:ak):(kA s).2.length<=s.length:=by
 grind [kA]
def Bw (s:ak):(ix s 0).1.length<=s.length/\(ix s 0).2.length<=s.length:=by
 unfold ix;split<;>simp<;>omega
end Go.Abs
namespace Go.Abs
variable {Y:Ctx}(hm:(Y.at 0).cQ)
def cU (s:ak):Int×ak:=match qP s 0 with
 |some o=>(o,s.drop (c7 o).length)
 |none=>(9,s)
def ec (s:ak):ak×ak:=ix (cU s).2 0
def dM (s:ak):List ak:=Oq (cU s).1 (ai (ec s).1 46)
def lR (s:ak):Prop:=(cU s).1=9->(ai (ec s).1 46)[(ai (ec s).1 46).length-1]! =[42]
instance (s:ak):Decidable (lR s):=by unfold lR;exact inferInstance
def dX (s:ak):dx:=qg (cU s).1 (dM s) (ec s).2
def fI (s:ak):Option dx:=if lR s/\iw (dM s)=true/\lX (dX s)=true/\eA (dX s)=s then some (dX s)else none
def Ew (l:List ak)(i:Nat):gE:=⟨if 0<i then eK l[0]! else 0,if 1<i then eK l[1]! else 0,if 2<i then eK l[2]! else 0,[],[]⟩
def HI (s:ak):(cU s).2.length<=s.length:=by
 unfold cU;split<;>simp
def ji {s:ak}(h:¬(lR s/\iw (dM s)=true/\lX (dX s)=true/\eA (dX s)=s)):fI s=none:=by
 unfold fI;rw[aj h]
end Go.Abs
namespace Go.Abs
variable {Y:Ctx}(hm:(Y.at 0).cQ)
def kH (s:ak):Option dx:=if(fI s).isSome=true then fI s else fI (94::s)
def B0 (c:dx):bp:=.buf 1 [.str (eh c.v.major.toNat),.str (eh c.v.minor.toNat),.str (eh c.v.patch.toNat)]
def wP (c:dx):[D.str (eh c.v.major.toNat),D.str (eh c.v.minor.toNat),D.str (eh c.v.patch.toNat)].take c.parts.toNat=(ke c).map D.str:=by
 unfold ke dx.ku;rw[List.map_take];rfl
def NF {c:dx}{m:List (Nat×bp)}{l:Nat}(hl:look m l=some (B0 c)):xV m [.sl 1 [.a]] (.own l 1 0 c.parts.toNat)=.sl 1 ((ke c).map D.str):=by
 show D.sl 1 _=_;simp only[aS,hl,B0,bN,wP,List.map_map];congr 1
def KU {c:dx}{m:List (Nat×bp)}{l:Nat}(h:c.parts<=3)(hl:look m l=some (B0 c)):Lr m [.sl 1 [.a]] (.own l 1 0 c.parts.toNat):=by
 simp only[Lr,OC,OB];refine⟨by simp[eZ,hl,B0];omega, ?_⟩;simp only[aS,hl,B0,bN,wP];intro e he;obtain⟨x,_,rfl⟩:=eW.1 he;trivial
end Go.Abs
end
namespace Go.Abs
variable {Y:Ctx}(hm:(Y.at 0).cQ)
def pA {c:dx}(h:eA c≠[]):lX c=true/\eA c=j0 c:=by
 grind [eA]
def zI {s:ak}{op:Int}{l:List ak}{pre:ak}:JN s op l pre=true↔iw l=true/\eA (qg op l pre)≠[]/\(eA (qg op l pre)=s\/eA (qg op l pre)=94::s):=by
 grind [JN]
def wm (c:UInt8):Prop:=c≠33/\c≠60/\c≠61/\c≠62/\c≠94/\c≠126
theorem ou {c:UInt8}(h:bd c.toNat=true):wm c/\c≠42:=by
 simp only[bd,bt,a8]at h;refine⟨⟨?_, ?_, ?_, ?_, ?_, ?_⟩, ?_⟩<;>rintro rfl<;>revert h<;>decide
def Bs {k:dx}:∀(i:Nat) (c:UInt8),c∈e8 k i->bd c.toNat=true\/c=46
 |0,c,h=>by simp[e8]at h
 |i+1,c,h=>by
  simp only[e8,List.mem_append]at h;rcases h with(h|h)|h
  .exact Bs i c h
  .grind
  .exact .inl (oq _ c h)
def v8 (k:dx):∀i,0<i->∃c r,e8 k i=c::r/\bd c.toNat=true
 |0,h=>ae
 |1,_=>by
  have hd:=oq (k.ku[0]!).toNat;have hn:=L5 (k.ku[0]!).toNat;simp only[e8,Nat.lt_irrefl,aM,eN];generalize eh (k.ku[0]!).toNat=w at hd hn
  match w,hn with
  |c::r,_=>exact⟨c,r,rfl,hd c (.head _)⟩
 |i+2,_=>by
  obtain⟨c,r,h1,h2⟩:=v8 k (i+1) ae
  grind [eh,e8]
def Gu {c:dx}(h:lX c=true)(h9:c.op≠9):0<c.parts.toNat:=by
 grind [lX]
def Hv {s:ak}{o:Int}(h:qP s 0=some o):1<=o/\o<=8/\∃x t,s=x::t/\¬wm x/\(x=94->o=7):=by
 have hm:=List.mem_of_find?_eq_some h;have hb:=List.find?_some h;simp only[tY,bt,a8]at hb;obtain⟨h1,h2⟩:=hb;have hne:s≠[]\/c7 o=[]:=by
  grind
 simp only[opsL,bN,cD,eD,or_false]at hm;have key:∀w:ak,w≠[]->s.take w.length=w->∃x t t',s=x::t/\w=x::t':=by
  intro w hw hs
  match w,hw with
  |x::t',_=>
   match s with
   |[]=>simp at hs
   |y::t=>
    grind
 rcases hm with rfl|rfl|rfl|rfl|rfl|rfl|rfl|rfl
 all_goals
  refine⟨ae,ae, ?_⟩;obtain⟨x,t,t',e1,e2⟩:=key _ aE h2;have hxx:=ar (fun w:ak=>w.headD 0) e2;simp only[List.headD_cons]at hxx;refine⟨x,t,e1, ?_, ?_⟩
  .rw[<-hxx];unfold wm;decide
  .rw[<-hxx];decide
theorem wc (t:ak):qP (94::t) 0=some 7:=by
 unfold qP opsL;have hn:∀w:ak,w≠[]->w.headD 0≠94->tY (94::t) w=false:=by
  intro w hw hx
  match w,hw with
  |x::r,_=>
   grind [tY]
 have hy:tY (94::t) (c7 7)=true:=by
  grind [tY,c7]
 simp only[bN,List.find?_cons,hn _ (show c7 2≠[]by decide) aE,hn _ (show c7 4≠[]by decide) aE,hn _ (show c7 6≠[]by decide) aE,hn _ (show c7 1≠[]by decide) aE,
  hn _ (show c7 3≠[]by decide) aE,hn _ (show c7 5≠[]by decide) aE,hy]
def BD (t:ak):cU (94::t)=(7,t):=by
 grind [cU,wc,c7]
def wI (b:Int):∀(s cur:ak),∃r l,bH b s cur=(cur++r)::l
 |[],cur=>⟨[],[],by simp[bH]⟩
 |c::s,cur=>by
  simp only[bH];split
  .exact⟨[],_,by rw[gD]⟩
  .obtain⟨r,l,h⟩:=wI b s (cur++[c]);exact⟨c::r,l,by rw[h];simp⟩
def HS {x:UInt8}{t:ak}(h:¬wm x):iw (ai (ix (x::t) 0).1 46)=false:=by
 have hx:x≠45/\x≠46/\bd x.toNat=false:=by
  grind [wm,bd,ou]
 have hp:∃r,(ix (x::t) 0).1=x::r:=by
  unfold ix;rw[bN,List.findIdx?_cons];rw[aj (by simpa using hx.1)];cases t.findIdx? (fun c=>c==45)with
  |none=>exact⟨t,rfl⟩
  |some k=>exact⟨t.take k,aJ⟩
 obtain⟨r,hr⟩:=hp;rw[hr];have h46:¬((x.toNat:Int)=46):=fun e=>hx.2.1 (lT.1 (by show x.toNat=46;omega))
 obtain⟨q,l,hs⟩:=wI 46 r [x]
 grind [ai,bH,iw,bc,gB,Dn,bd,at8]
def On {s:ak}(h:kA s=cU s):hR s=if JN s (cU s).1 (dM s) (ec s).2=true then some (dX s)else none:=by
 unfold hR;simp only[h];rfl
def wz {s:ak}:fI s=if lR s/\iw (dM s)=true/\lX (dX s)=true/\eA (dX s)=s then some (dX s)else none:=rfl
def HC {s:ak}(h:∀c∈s,c≠45):ix s 0=(s,[]):=by
 grind [ix]
def yK {k:dx}(hb:lX k=true)(h9:k.op=9):j0 k=aR [46] (ke k++[[42]]):=by
 obtain⟨_,h0,h3,_,_⟩:=mO hb;rw[tf h0 h3];unfold j0 jA;rw[aw h9,h9];rfl
theorem pg {k:dx}{w:ak}(h:w∈ke k++[[42]]){c:UInt8}(hc:c∈w):bd c.toNat=true\/c=42:=by
 rcases List.mem_append.1 h with h|h
 .have:=lU h
  grind [oq]
 grind
def yJ {k:dx}{s:ak}(hb:lX k=true)(h9:k.op=9)(hs:j0 k=s):(0<s.length/\at8 s (s.length-1)=42)/\ix s 0=(s,[])/\ai s 46=ke k++[[42]]:=by
 have ht:=yK hb h9;obtain⟨_,h0,h3,_,_⟩:=mO hb;rw[hs]at ht;have hch:∀c∈s,bd c.toNat=true\/c=42\/c=46:=by
  grind [pK,pg]
 refine⟨?_,HC (fun c hc=>?_), ?_⟩
 .have he:∃q,s=q++[42]:=by
   rw[ht,tf h0 h3];exact⟨e8 k k.parts.toNat++(if 0<k.parts then [46]else []),by rw[dU]⟩
  obtain⟨q,rfl⟩:=he;simp[at8]
 .rintro rfl;rcases hch 45 hc with h|h|h
  .revert h;decide
  .revert h;decide
  .revert h;decide
 .rw[ht];refine tR (b:=46) (x:=46) rfl aJ fun w hw c hc=>?_
  rcases pg hw hc with h|h
  .have:=(I0 h).1;omega
  .rw[h];decide
def vu {k:dx}{s:ak}(hb:lX k=true)(h7:k.op=7)(hs:j0 k=94::s):(∀c∈s,c≠42)/\∃c r,s=c::r/\bd c.toNat=true:=by
 have hp:=Gu hb ae;have e:s=e8 k k.parts.toNat++jA k:=by
  unfold j0 at hs;rw[h7,show c7 7=[94]by decide]at hs;simpa using hs.symm
 obtain⟨c,r,h1,h2⟩:=v8 k _ hp;refine⟨fun c hc=>?_,c,r++jA k,by rw[e,h1];rfl,h2⟩;rw[e]at hc;rcases List.mem_append.1 hc with hc|hc
 .rcases Bs _ c hc with h|h
  .exact(ou h).2
  .rw[h];decide
 .unfold jA at hc;rw[aj ae]at hc;split at hc
  .cases hc
  .rcases cD.1 hc with rfl|hc
   .decide
   .have hv:=(mO hb).1;simp only[iP,bt]at hv;rcases KQ hv.1.2 hc with h|h
    .rintro rfl;revert h;decide
    .rw[h];decide
def uK {s:ak}:JN s (cU s).1 (dM s) (ec s).2=true↔iw (dM s)=true/\eA (dX s)≠[]/\(eA (dX s)=s\/eA (dX s)=94::s):=zI
def IV (s:ak):kH s=hR s:=by
 have hcar:cU (94::s)=(7,s):=BD s;have hL7:dM (94::s)=ai (ix s 0).1 46:=by
  unfold dM ec;rw[hcar];rfl
 have hK7:dX (94::s)=qg 7 (ai (ix s 0).1 46) (ix s 0).2:=by
  unfold dX;rw[hL7];unfold ec;rw[hcar]
 cases ho:qP s 0 with
 |some o=>
  obtain⟨o1,o8,x,t,hs,hx,hx94⟩:=Hv ho;have hrw:cU s=(o,s.drop (c7 o).length):=by simp only[cU,ho]
  have hsp:kA s=cU s:=by rw[hrw];simp only[kA,ho]
  have hstar:lR s:=by
   intro h;rw[hrw]at h;simp only at h;omega
  have hcn:fI (94::s)=none:=ji fun h=>by
   have:=h.2.1;rw[hL7,hs,HS hx]at this;cases this
  have hop:(dX s).op=o:=by show(cU s).1=o;rw[hrw]
  rw[On hsp];by_cases hk:iw (dM s)=true/\eA (dX s)=s
  .have hne:eA (dX s)≠[]:=by rw[hk.2,hs];simp
   have hb:=(pA hne).1;have hr:fI s=some (dX s):=by rw[wz,aw ⟨hstar,hk.1,hb,hk.2⟩]
   have hok:JN s (cU s).1 (dM s) (ec s).2=true:=uK.2 ⟨hk.1,hne,.inl hk.2⟩;rw[aw hok];unfold kH;rw[hr];rfl
  .have hr:fI s=none:=ji fun h=>hk ⟨h.2.1,h.2.2.2⟩
   have hok:¬JN s (cU s).1 (dM s) (ec s).2=true:=fun h=>by
    obtain⟨h1,h2,h3⟩:=uK.1 h;rcases h3 with h3|h3
    .exact hk ⟨h1,h3⟩
    .obtain⟨hb,he⟩:=pA h2;have h3':j0 (dX s)=94::s:=by rw[<-he];exact h3
     have h7:o=7:=by
      have hh:∃y w,c7 o=y::w/\(y=94->o=7):=by
       have:o=1\/o=2\/o=3\/o=4\/o=5\/o=6\/o=7\/o=8:=ae;rcases this with rfl|rfl|rfl|rfl|rfl|rfl|rfl|rfl
       .exact⟨61,[],aE,aE⟩
       .exact⟨33,[61],aE,aE⟩
       .exact⟨60,[],aE,aE⟩
       .exact⟨60,[61],aE,aE⟩
       .exact⟨62,[],aE,aE⟩
       .exact⟨62,[61],aE,aE⟩
       .exact⟨94,[],aE,aE⟩
       .exact⟨126,[],aE,aE⟩
      obtain⟨y,w,e1,e2⟩:=hh;unfold j0 at h3';rw[hop,e1]at h3';simp only[eV,rl]at h3';exact e2 h3'.1
     obtain⟨_,c,r,e1,e2⟩:=vu hb (by rw[hop];exact h7) h3';rw[hs]at e1;simp only[rl]at e1;rw[<-e1.1]at e2;exact hx (ou e2).1
   rw[aj hok];unfold kH;rw[hr,aj aJ,hcn]
 |none=>
  have hrw:cU s=(9,s):=by simp only[cU,ho]
  have h94:∀t,s≠94::t:=by
   rintro t rfl;rw[wc]at ho;cases ho
  have hop:(dX s).op=9:=by show(cU s).1=9;rw[hrw]
  have hst7:lR (94::s):=by
   intro h;rw[hcar]at h;simp only at h;omega
  by_cases hl:0<s.length/\at8 s (s.length-1)=42
  .have hsp:kA s=cU s:=by rw[hrw];simp only[kA,ho,aw hl]
   have hcn:fI (94::s)=none:=ji fun h=>by
    obtain⟨_,h2,h3,h4⟩:=h;have he:=(pA (c:=dX (94::s)) (by rw[h4];simp)).2;rw[h4]at he;have hno:=(vu h3 (by rw[hK7];rfl) he.symm).1;have hmem:s[s.length-1]'(ae)∈s:=List.getElem_mem _;refine hno _ hmem (lT.1 ?_);have:=hl.2;rw[zb s _ ae]at this;show _=42;omega
   rw[On hsp];by_cases hk:iw (dM s)=true/\eA (dX s)=s
   .have hne:eA (dX s)≠[]:=by
     rw[hk.2];intro h;rw[h]at hl;simp at hl
    obtain⟨hb,he⟩:=pA hne;obtain⟨_,g2,g3⟩:=yJ (s:=s) hb hop (he.symm.trans hk.2);have hstar:lR s:=by
     intro _;have hP:ec s=(s,[]):=by unfold ec;rw[hrw];exact g2
     rw[hP];simp only;rw[g3];simp
    have hr:fI s=some (dX s):=by rw[wz,aw ⟨hstar,hk.1,hb,hk.2⟩]
    have hok:JN s (cU s).1 (dM s) (ec s).2=true:=uK.2 ⟨hk.1,hne,.inl hk.2⟩;rw[aw hok];unfold kH;rw[hr];rfl
   .have hr:fI s=none:=ji fun h=>hk ⟨h.2.1,h.2.2.2⟩
    have hok:¬JN s (cU s).1 (dM s) (ec s).2=true:=fun h=>by
     obtain⟨h1,h2,h3⟩:=uK.1 h;rcases h3 with h3|h3
     .exact hk ⟨h1,h3⟩
     .obtain⟨hb,he⟩:=pA h2;have h3':j0 (dX s)=94::s:=by rw[<-he];exact h3
      have ht:=yK hb hop;rw[h3']at ht;have hm:(94:UInt8)∈aR [46] (ke (dX s)++[[42]]):=by rw[<-ht];simp
      rcases pK 46 _ _ hm with h|⟨w,hw,hcw⟩
      .revert h;decide
      .rcases pg hw hcw with h|h
       .revert h;decide
       .revert h;decide
    rw[aj hok];unfold kH;rw[hr,aj aJ,hcn]
  .have hsp:kA s=(7,s):=by simp only[kA,ho,aj hl]
   have hr:fI s=none:=ji fun h=>by
    obtain⟨h1,h2,h3,h4⟩:=h;have he:j0 (dX s)=s:=(aw h3:eA (dX s)=j0 (dX s)).symm.trans h4;exact hl (yJ h3 hop he).1
   have h6:hR s=if JN s 7 (ai (ix s 0).1 46) (ix s 0).2=true then some (dX (94::s))else none:=by
    unfold hR;simp only[hsp];rw[hK7];rfl
   have hRC:kH s=fI (94::s):=by
    unfold kH;rw[hr];rfl
   rw[hRC,h6,wz];by_cases hok:JN s 7 (ai (ix s 0).1 46) (ix s 0).2=true
   .rw[aw hok];obtain⟨h1,h2,h3⟩:=zI.1 hok;obtain⟨hb,he⟩:=pA h2;rcases h3 with h3|h3
    .exfalso;rw[he]at h3;have hh:∃w,j0 (qg 7 (ai (ix s 0).1 46) (ix s 0).2)=94::w:=by
      unfold j0;exact⟨_,rfl⟩
     obtain⟨w,hw⟩:=hh;exact h94 w (by rw[<-h3,hw])
    .rw[aw ⟨hst7,by rw[hL7];exact h1,by rw[hK7];exact hb,by rw[hK7];exact h3⟩]
   .rw[aj hok,aj];rintro⟨_,g2,g3,g4⟩;rw[hK7]at g3 g4;rw[hL7]at g2;exact hok (zI.2 ⟨g2,by rw[g4];simp,.inr g4⟩)
abbrev Alt:=List dx
abbrev Co:=List Alt
def ry (a:Alt):D:=.sl 7 (a.map dx.D)
def Cy (a:Alt):(ry a).aX=true:=rfl
def uB (l k:Nat)(es:List D)(r:List Alt):jo l k es (r.map ry)=r.map ry:=qH l k es _ (bj Cy _)
def lP (r:Co):D:=.agg [.sl 1 (r.map ry)]
def nM (a:Alt):Bool:=decide (1<=a.length)&&decide (a.length<=6)&&dz (fun k=>lX a[k]!) 0 a.length
def ny (r:Co):Bool:=decide (1<=r.length)&&decide (r.length<=6)&&dz (fun i=>nM r[i]!) 0 r.length
def sr (a:Alt):ak:=aR [44,32] (a.map eA)
def KK (r:Co):ak:=aR [32,124,124,32] (r.map sr)
def dx.lo (c:dx):Prop:=c.v.pre.length<=1000/\c.v.build.length<=1000
def dx.lo.sm {c:dx}(h:c.lo):c.v.sm:=⟨cC h.1 aE,cC h.2 aE⟩
def tN (r:Co):Prop:=∀a∈r,∀c∈a,c.lo
def AJ {c:dx}(h:c.lo):(eA c).length<=1100:=by
 unfold eA;split
 .rename_i hb;obtain⟨hv,h0,h3,_⟩:=mO hb;have h1:=ta c.op;have h2:=pQ hv c.parts.toNat;have ht:(jA c).length<=1001:=by
   unfold jA;have:=h.1
   grind
  simp only[j0,bA];omega
 .simp
def tF (b:ak)(M:Nat):∀(l:List ak),(∀t∈l,t.length<=M)->(aR b l).length<=l.length*(M+b.length)
 |[],_=>by simp[aR]
 |[t],h=>by
  grind [aR]
 |t::u::r,h=>by
  have h1:=h t (.head _);have h2:=tF b M (u::r) fun x hx=>h x (.tail _ hx)
  simp only[aR,bA];simp only[aH,Nat.add_mul,Nat.one_mul]at h2⊢;omega
def Iz {a:Alt}(h:∀c∈a,c.lo)(hl:a.length<=6):(sr a).length<=6612:=by
 have:=tF [44,32] 1100 (a.map eA) (fun t ht=>by
  obtain⟨c,hc,rfl⟩:=eW.1 ht;exact AJ (h c hc))
 grind [sr]
def I7 {r:Co}(h:ny r=true){i:Nat}(hi:i<r.length):nM r[i]! =true:=by
 simp only[ny,bt,a8]at h;exact eY.1 h.2 i ae hi
def Gp {a:Alt}(h:nM a=true):1<=a.length/\a.length<=6:=by
 grind [nM]
def jX {α β:Type} [Inhabited α](f:α->β)(l:List α){i:Nat}(h:i<l.length):(l.map f).take (i+1)=(l.map f).take i++[f l[i]!]:=by
 rw[List.take_add_one];simp[h]
def ui (r:Co):Bool:=ny r&&decide ((KK r).length<=96)
def BN (r:Co):ak:=if ui r=true then KK r else []
def a7:ak->ak->List ak
 |[],cur=>[cur]
 |[c],cur=>[cur++[c]]
 |c::d::r,cur=>if c=124/\d=124 then cur::a7 r []else a7 (d::r) (cur++[c])
def rA:ak->ak
 |[]=>[]
 |c::r=>if c=32 then rA r else c::r
def gF (s:ak):ak:=(rA (rA s).reverse).reverse
theorem px:∀s,(rA s).length<=s.length
 |[]=>aF _
 |c::r=>by
  unfold rA;split
  .have:=px r;simp only[aH];omega
  .exact aF _
theorem xM (s:ak):(gF s).length<=s.length:=by
 grind [px,rA,gF]
def nG:∀(s cur:ak),(a7 s cur).length<=s.length+1/\(∀t∈a7 s cur,t.length<=cur.length+s.length)
 |[],cur=>by simp[a7]
 |[c],cur=>by simp[a7]
 |c::d::r,cur=>by
  unfold a7;split
  .have:=nG r []
   grind
  .have:=nG (d::r) (cur++[c])
   grind
def wOK (t:ak):Bool:=dz (fun k=>(hR (gF (ai t 44)[k]!)).isSome) 0 (ai t 44).length
def EM (s:ak):Bool:=dz (fun i=>wOK (a7 s [])[i]!) 0 (a7 s []).length
def su (t:ak):Alt:=(ai t 44).map fun x=>(hR (gF x)).getD fq
def mK (s:ak):Co:=(a7 s []).map su
def kd (s:ak):Co×Int:=
 if 96<s.length then([],3)else if EM s=false then([],6)else if ny (mK s)=false then([],6)else if 96<(KK (mK s)).length then([],3)else(mK s,0)
def im (s:ak):Bool:=decide ((kd s).2=0)&&decide (BN (kd s).1=s)
theorem IU {s:ak}(h:s.length<=1000):((hR s).getD fq).lo:=by
 unfold hR;simp only;split
 .have h1:=DM s;have h2:=Bw (kA s).2;exact⟨by show(ix (kA s).2 0).2.length<=1000;omega,by show([]:ak).length<=1000;decide⟩
 .exact⟨by show([]:ak).length<=1000;decide,by show([]:ak).length<=1000;decide⟩
theorem EO {s:ak}(h:s.length<=1000):tN (mK s):=by
 intro a ha c hc;obtain⟨t,ht,rfl⟩:=eW.1 ha;obtain⟨x,hx,rfl⟩:=eW.1 hc;have h1:=(nG s []).2 t ht;have h2:=dm t 44 hx
 grind [xM,IU]
def EN {s:ak}:tN (kd s).1/\((kd s).2=0->ny (kd s).1=true):=by
 unfold kd;split
 .exact⟨(fun a ha=>by cases ha),fun h=>by cases h⟩
 .split
  .exact⟨(fun a ha=>by cases ha),fun h=>by cases h⟩
  .split
   .exact⟨(fun a ha=>by cases ha),fun h=>by cases h⟩
   .rename_i hf;split
    .exact⟨(fun a ha=>by cases ha),fun h=>by cases h⟩
    grind [EO]
def Nd.eq (a b:Nd):gJ (Nd.D a).cells (Nd.D b).cells=decide (a=b):=by
 obtain⟨a1,a2,a3,a4,a5⟩:=a;obtain⟨b1,b2,b3,b4,b5⟩:=b
 grind [Nd.D,D.cells,gJ,nv,uy]
def ju (n:Nd):Bool:=decide (n.key=0)&&decide (n.text=[])
def qm (n:Nd):Bool:=decide (n.op=1)&&decide (0<=n.key)&&decide (n.key<3)&&cJ n.text&&decide (n.a=0)&&decide (n.b=0)
def jz (n:Nd)(i:Nat)(o:List Int):Option (List Int):=
 if qm n=true then some (o++[(i:Int)])
 else if(((n.op=2/\ju n=true)/\0<o.length)/\n.a=o[o.length-1]!)/\n.b=0 then some (o.take (o.length-1)++[(i:Int)])
 else if((((n.op=3\/n.op=4)/\ju n=true)/\1<o.length)/\n.a=o[o.length-2]!)/\n.b=o[o.length-1]! then some (o.take (o.length-2)++[(i:Int)])
 else none
def ml:List Nd->Nat->List Int->Option (List Int)
 |[],_,o=>some o
 |n::r,i,o=>match jz n i o with
  |some o'=>ml r (i+1) o'
  |none=>none
def qo (l:List Nd):Bool:=match ml l 0 []with
 |some o=>decide (l.length=0) ||decide (o.length=1)
 |none=>false
def xT {α:Type} [Inhabited α](l:List α){i:Nat}(h:i<l.length):l.drop i=l[i]! ::l.drop (i+1):=by
 rw[jn h];simp[h]
def lL {l:List Nd}{i:Nat}{o o':List Int}(h:i<l.length)(hs:jz l[i]! i o=some o'):ml (l.drop i) i o=ml (l.drop (i+1)) (i+1) o':=by
 rw[xT l h];simp only[ml,hs]
def fR {l:List Nd}{i:Nat}{o:List Int}(h:i<l.length)(hs:jz l[i]! i o=none):ml (l.drop i) i o=none:=by
 rw[xT l h];simp only[ml,hs]
def Hy {l:List Nd}{i:Nat}{o:List Int}(h:l.length<=i):ml (l.drop i) i o=some o:=by
 rw[jR h];rfl
def KW {l:List Nd}(h:ml l 0 []=none):qo l=false:=by simp only[qo,h]
def iI {l:List Nd}(h:ml l 0 []=none):(true&&qo l)=false:=by rw[KW h];rfl
def Ak (S:List Int):Int->List Int->Prop
 |e,[]=>e=0
 |e,t::r=>t=e-1/\0<=t/\0<=S[t.toNat]! /\S[t.toNat]! <=t/\Ak S S[t.toNat]! r
def zg {S:List Int}{i:Nat}{v:Int}:∀{r:List Int}{e:Int},e<=i->Ak S e r->Ak (S.set i v) e r
 |[],e,_,h=>h
 |t::r,e,he,⟨h1,h2,h3,h4,h5⟩=>by
  have hg:(S.set i v)[t.toNat]! =S[t.toNat]! :=by
   grind
  exact⟨h1,h2,by rw[hg];exact h3,by rw[hg];exact h4,by rw[hg];exact zg ae h5⟩
def Nz {S:List Int}{i:Nat}{v:Int}(h:i<S.length):(S.set i v)[i]! =v:=by
 simp[h]
def rE {S:List Int}{i:Nat}{v:Int}{r:List Int}(h:i<S.length)(h0:0<=v)(h1:v<=i)(hc:Ak S v r):Ak (S.set i v) ((i+1:Nat):Int) ((i:Int)::r):=by
 have hg:(S.set i v)[((i:Nat):Int).toNat]! =v:=by rw[Int.toNat_natCast];exact Nz h
 exact⟨ae,ae,by rw[hg];exact h0,by rw[hg];exact h1,by rw[hg];exact zg ae hc⟩
def rH {S:List Int}{i:Nat}{o:List Int}(h:Ak S (i:Nat) o.reverse):(0<o.length↔1<=i)/\(1<=i->o[o.length-1]! =(i:Int) -1/\0<=S[i-1]! /\S[i-1]! <=(i:Int) -1/\Ak S S[i-1]! (o.take (o.length-1)).reverse):=by
 rcases List.eq_nil_or_concat o with rfl|⟨p,t,rfl⟩
 .have h:((i:Nat):Int)=0:=h
  grind
 .rw[List.concat_eq_append,List.reverse_append,List.reverse_singleton,List.singleton_append]at h;obtain⟨h1,h2,h3,h4,h5⟩:=h
  grind
def zh {S:List Int}{i:Nat}{o:List Int}(h:Ak S (i:Nat) o.reverse):(1<o.length↔1<=i/\1<=S[i-1]!)/\(1<o.length->o[o.length-2]! =S[i-1]! -1/\0<=S[(S[i-1]! -1).toNat]! /\S[(S[i-1]! -1).toNat]! <=S[i-1]! -1/\Ak S S[(S[i-1]! -1).toNat]! (o.take (o.length-2)).reverse):=by
 obtain⟨h1,h2⟩:=rH h;by_cases hi:1<=i
 .obtain⟨g1,g2,g3,g4⟩:=h2 hi;have hl:=h1.2 hi;rcases List.eq_nil_or_concat o with rfl|⟨p,t,rfl⟩
  .simp at hl
  .rw[List.concat_eq_append]at g4⊢;rw[List.take_append_of_le_length aJ,eM aJ]at g4;rcases List.eq_nil_or_concat p with rfl|⟨q,u,rfl⟩
   .have g4:S[i-1]! =0:=g4;exact⟨⟨fun h=>absurd h aJ,fun h=>ae⟩,fun h=>absurd h aJ⟩
   .rw[List.concat_eq_append]at g4⊢;rw[List.reverse_append,List.reverse_singleton,List.singleton_append]at g4;obtain⟨k1,k2,k3,k4,k5⟩:=g4;subst k1;refine⟨⟨fun _=>⟨hi,ae⟩,fun _=>aJ⟩,fun _=>⟨aJ,k3,k4, ?_⟩⟩;rw[dU,List.take_append_of_le_length aJ,eM aJ];exact k5
 .have:¬0<o.length:=fun h=>hi (h1.1 h)
  exact⟨⟨fun h=>ae,fun h=>absurd h.1 hi⟩,fun h=>ae⟩
def KX {S:List Int}{n:Nat}{o:List Int}(t1:0<o.length↔1<=n)(t2:1<=n->o[o.length-1]! =(n:Int) -1/\0<=S[n-1]! /\S[n-1]! <=(n:Int) -1/\Ak S S[n-1]! (o.take (o.length-1)).reverse)(u1:1<o.length↔1<=n/\1<=S[n-1]!):
  (decide (n=0) ||decide (o.length=1))=(decide ((n:Nat)=(0:Int)) ||decide (S[n-1]! =0)):=by
 grind
theorem vN {n:Nd}(h:qm n=true):n.op=1:=by grind [qm]
def DP {n:Nd}{i:Nat}{o:List Int}(h:qm n=true):jz n i o=some (o++[(i:Int)]):=aw h
def zZ {n:Nd}{i:Nat}{o:List Int}(h1:n.op=1)(h:qm n=false):jz n i o=none:=by
 grind [jz]
def BX {n:Nd}{i:Nat}{o:List Int}(h1:n.op≠1)(h2:n.op≠2)(h3:n.op≠3)(h4:n.op≠4):jz n i o=none:=by
 grind [jz,vN]
def te {S:List Int}{n:Nd}{i:Nat}{o:List Int}(hc:Ak S (i:Nat) o.reverse)(h2:n.op=2):jz n i o=if(1<=i/\n.a=(i:Int) -1/\n.b=0)/\ju n=true then some (o.take (o.length-1)++[(i:Int)])else none:=by
 obtain⟨t1,t2⟩:=rH hc
 grind [jz,vN,ju]
def lv {S:List Int}{n:Nd}{i:Nat}{o:List Int}(hc:Ak S (i:Nat) o.reverse)(h2:n.op=3\/n.op=4):jz n i o=if(2<=i/\n.b=(i:Int) -1/\1<=S[i-1]! /\n.a=S[i-1]! -1)/\ju n=true then some (o.take (o.length-2)++[(i:Int)])else none:=by
 obtain⟨t1,t2⟩:=rH hc;obtain⟨u1,u2⟩:=zh hc;unfold jz;rw[aj (fun h=>by have:=vN h;omega),aj (by rintro⟨⟨⟨⟨h,_⟩,_⟩,_⟩,_⟩;omega)];by_cases hk:(2<=i/\n.b=(i:Int) -1/\1<=S[i-1]! /\n.a=S[i-1]! -1)/\ju n=true
 .grind
 .rw[aj hk,aj]
  grind
def jI (l:List Nd):Prop:=∀j,j<l.length->(l[j]!.op=1->0<=l[j]!.key/\l[j]!.key<3/\l[j]!.text.length<=12)/\(l[j]!.op≠1->0<=l[j]!.a/\l[j]!.a<j)/\(l[j]!.op≠1->l[j]!.op≠2->0<=l[j]!.b/\l[j]!.b<j)
def Dq {l:List Nd}:∀(k i:Nat) (o o':List Int),i+k=l.length->(∀x∈o,0<=x/\x<(i:Int))->ml (l.drop i) i o=some o'->
  ∀j,i<=j->j<l.length->(l[j]!.op=1->0<=l[j]!.key/\l[j]!.key<3/\l[j]!.text.length<=12)/\(l[j]!.op≠1->0<=l[j]!.a/\l[j]!.a<j)/\(l[j]!.op≠1->l[j]!.op≠2->0<=l[j]!.b/\l[j]!.b<j):=by
 intro k;induction k with
 |zero=>intro i o o' h1 h2 h3 j h4 h5;omega
 |succ k ih=>
  intro i o o' h1 h2 h3 j h4 h5;have hi:i<l.length:=ae;cases hs:jz l[i]! i o with
  |none=>rw[fR hi hs]at h3;cases h3
  |some o2=>
   rw[lL hi hs]at h3;have hm:∀m,0<m->m<=o.length->0<=o[o.length-m]! /\o[o.length-m]! <(i:Int):=fun m hm1 hm2=>h2 _ (bL ae)
   have hsub:∀m,∀x∈o.take m++[(i:Int)],0<=x/\x<((i+1:Nat):Int):=fun m x hx=>by
    rcases List.mem_append.1 hx with hx|hx
    .have:=h2 x (lU hx);omega
    .simp only[cT]at hx;omega
   unfold jz at hs;split at hs
   .rename_i hl;cases hs;rcases fH i j with hj|hj
    .exact ih (i+1) _ o' ae (by have:=hsub o.length;rwa [eM (aF _)]at this) h3 j hj h5
    .obtain rfl:i=j:=ae;simp only[qm,bt,a8]at hl;have hw:=hl.1.1.2;simp only[cJ,bt,a8]at hw;exact⟨fun _=>⟨hl.1.1.1.1.2,hl.1.1.1.2,hw.1.2⟩,fun h=>absurd hl.1.1.1.1.1 h,fun h=>absurd hl.1.1.1.1.1 h⟩
   .split at hs
    .rename_i hl;cases hs;rcases fH i j with hj|hj
     .exact ih (i+1) _ o' ae (hsub _) h3 j hj h5
     .obtain rfl:i=j:=ae;obtain⟨⟨⟨⟨g1,g2⟩,g3⟩,g4⟩,g5⟩:=hl;have:=hm 1 ae ae;exact⟨fun h=>ae,fun _=>by rw[g4];exact this,fun _ h=>absurd g1 h⟩
    .split at hs
     .rename_i hl;cases hs;rcases fH i j with hj|hj
      .exact ih (i+1) _ o' ae (hsub _) h3 j hj h5
      .obtain rfl:i=j:=ae;obtain⟨⟨⟨⟨g1,g2⟩,g3⟩,g4⟩,g5⟩:=hl;have q1:=hm 1 ae ae;have q2:=hm 2 ae ae;exact⟨fun h=>ae,fun _=>by rw[g4];exact q2,fun _ _=>by rw[g5];exact q1⟩
     .cases hs
def wQ {l:List Nd}(h:qo l=true):jI l:=by
 unfold qo at h;cases ho:ml l 0 []with
 |none=>rw[ho]at h;cases h
 |some o=>exact fun j hj=>Dq l.length 0 [] o ae aJ ho j (Nat.zero_le _) hj
def Ep {n:Nd}(h:n.op=1):qm n=!((((decide (n.key<0) ||decide (3<=n.key)) ||!cJ n.text) ||!decide (n.a=0)) ||!decide (n.b=0)):=by
 grind [qm,cJ]
def uN {S:List Int}{i:Nat}(h:i<S.length)(v:Int):(S.map (D.int .i64)).set (0+i) (wM ((S.map (D.int .i64)).getD (0+i) .any) 1 1 0 (.int .i64 v))=(S.set i v).map (D.int .i64):=by
 rw[bD,getD_map (q:=D.int .i64) h,List.map_set];rfl
abbrev QJ:=List Nd
def oJ (m:QJ):D:=.agg [.sl 5 (m.map Nd.D)]
def oG:List ak:=[[111,115],[97,114,99,104],[97,98,105]]
def zA (k:Int):ak:=if k=0 then [111,115]else if k=1 then [97,114,99,104]else [97,98,105]
def lS (s:ak)(b:Bool):ak:=if b=true then [40,32]++s++[32,41]else s
def rk (l:List Nd):Nat->Int->ak
 |0,_=>[]
 |f+1,i=>
  if l[i.toNat]!.op=1 then zA l[i.toNat]!.key++[32,61,32]++l[i.toNat]!.text
  else if l[i.toNat]!.op=2 then
   if l[l[i.toNat]!.a.toNat]!.op=1 then zA l[l[i.toNat]!.a.toNat]!.key++[32,33,61,32]++l[l[i.toNat]!.a.toNat]!.text
   else [110,111,116,32]++lS (rk l f l[i.toNat]!.a) (!decide (l[l[i.toNat]!.a.toNat]!.op=2))
  else if l[i.toNat]!.op=3 then lS (rk l f l[i.toNat]!.a) (decide (l[l[i.toNat]!.a.toNat]!.op=4))++[32,97,110,100,32]++lS (rk l f l[i.toNat]!.b) (decide (l[l[i.toNat]!.b.toNat]!.op=4) ||decide (l[l[i.toNat]!.b.toNat]!.op=3))
  else rk l f l[i.toNat]!.a++[32,111,114,32]++lS (rk l f l[i.toNat]!.b) (decide (l[l[i.toNat]!.b.toNat]!.op=4))
def n6 (l:List Nd)(i:Int):ak:=rk l (i.toNat+1) i
theorem Ab {l:List Nd}(hk:jI l):∀(f g:Nat) (i:Int),0<=i->i<l.length->i<f->i<g->rk l f i=rk l g i
 |0,_,_,_,_,h,_=>ae
 |_,0,_,_,_,_,h=>ae
 |f+1,g+1,i,h0,h1,h2,h3=>by
  obtain⟨k1,k2,k3⟩:=hk i.toNat ae;simp only[rk];by_cases e1:l[i.toNat]!.op=1
  .rw[aw e1,aw e1]
  .rw[aj e1,aj e1];have ka:=k2 e1;rw[Ab hk f g l[i.toNat]!.a ae ae ae ae];by_cases e2:l[i.toNat]!.op=2
   .rw[aw e2,aw e2]
   .have kb:=k3 e1 e2;rw[Ab hk f g l[i.toNat]!.b ae ae ae ae]
def NK {l:List Nd}(hk:jI l){i:Int}(h0:0<=i)(h1:i<l.length):n6 l i=
  if l[i.toNat]!.op=1 then zA l[i.toNat]!.key++[32,61,32]++l[i.toNat]!.text
  else if l[i.toNat]!.op=2 then
   if l[l[i.toNat]!.a.toNat]!.op=1 then zA l[l[i.toNat]!.a.toNat]!.key++[32,33,61,32]++l[l[i.toNat]!.a.toNat]!.text
   else [110,111,116,32]++lS (n6 l l[i.toNat]!.a) (!decide (l[l[i.toNat]!.a.toNat]!.op=2))
  else if l[i.toNat]!.op=3 then lS (n6 l l[i.toNat]!.a) (decide (l[l[i.toNat]!.a.toNat]!.op=4))++[32,97,110,100,32]++lS (n6 l l[i.toNat]!.b) (decide (l[l[i.toNat]!.b.toNat]!.op=4) ||decide (l[l[i.toNat]!.b.toNat]!.op=3))
  else n6 l l[i.toNat]!.a++[32,111,114,32]++lS (n6 l l[i.toNat]!.b) (decide (l[l[i.toNat]!.b.toNat]!.op=4)):=by
 obtain⟨k1,k2,k3⟩:=hk i.toNat ae
 grind [n6,rk,Ab]
def pX (s:ak)(b:Bool):(lS s b).length<=s.length+4:=by
 unfold lS;split<;>simp
def yf {k:Int}(h0:0<=k)(h3:k<3):oG[k.toNat]! =zA k:=by
 obtain rfl|rfl|rfl:k=0\/k=1\/k=2:=ae
 .rfl
 .rfl
 .rfl
def rT (k:Int):(zA k).length<=4:=by
 grind [zA]
def wR {l:List Nd}(hk:jI l):∀(f:Nat) (i:Int),0<=i->i<l.length->(rk l f i).length+20<=20*2^(f+1)
 |0,i,_,_=>by simp[rk]
 |f+1,i,h0,h1=>by
  obtain⟨k1,k2,k3⟩:=hk i.toNat ae;have hp:20*2^(f+1+1)=20*2^(f+1)+20*2^(f+1):=by rw[Nat.pow_succ 2 (f+1)];omega
  have h1p:1<=2^(f+1):=Nat.one_le_two_pow;simp only[rk];by_cases e1:l[i.toNat]!.op=1
  .rw[aw e1];have:=rT l[i.toNat]!.key;have:=k1 e1;simp only[bA,aH,aO];omega
  .rw[aj e1];have ka:=k2 e1;have la:=wR hk f l[i.toNat]!.a ae ae;have wa:=fun b=>pX (rk l f l[i.toNat]!.a) b
   by_cases e2:l[i.toNat]!.op=2
   .rw[aw e2];split
    .rename_i e3;have:=rT l[l[i.toNat]!.a.toNat]!.key;have:=((hk l[i.toNat]!.a.toNat ae).1 e3).2.2;simp only[bA,aH,aO];omega
    .have:=wa (!decide (l[l[i.toNat]!.a.toNat]!.op=2));simp only[bA,aH,aO];omega
   .rw[aj e2];have kb:=k3 e1 e2;have lb:=wR hk f l[i.toNat]!.b ae ae;have wb:=fun b=>pX (rk l f l[i.toNat]!.b) b
    split
    .have:=wa (decide (l[l[i.toNat]!.a.toNat]!.op=4));have:=wb (decide (l[l[i.toNat]!.b.toNat]!.op=4) ||decide (l[l[i.toNat]!.b.toNat]!.op=3));simp only[bA,aH,aO];omega
    .have:=wb (decide (l[l[i.toNat]!.b.toNat]!.op=4));simp only[bA,aH,aO];omega
def wS {l:List Nd}(hk:jI l)(hl:l.length<=15){i:Int}(h0:0<=i)(h1:i<l.length):(n6 l i).length<=1310720:=by
 have h:=wR hk (i.toNat+1) i h0 h1;have:2^(i.toNat+1+1)<=2^16:=Nat.pow_le_pow_right ae ae;unfold n6;omega
def tj (l:List Nd):ak:=if l.length=0 then []else n6 l ((l.length:Int) -1)
def Bl (l:List Nd):Bool:=(decide (l.length<=15)&&qo l)&&decide ((tj l).length<=96)
def Tc (l:List Nd):ak:=if Bl l=true then tj l else []
abbrev PR:=Option (Int×List ak×List Nd)
def zz (k:ak):Int:=if k=[111,115]then 0 else if k=[97,114,99,104]then 1 else if k=[97,98,105]then 2 else-1
def CA (k s v:ak):Bool:=(decide (0<=zz k)&&cJ v)&&(decide (s=[61]) ||decide (s=[33,61]))
def Ay (k s v:ak)(r:List ak)(nd:List Nd):Int×List ak×List Nd:=
 if s=[33,61]then(((nd++[(⟨1,0,0,zz k,v⟩:Nd)]).length:Nat),r,(nd++[⟨1,0,0,zz k,v⟩])++[⟨2,(nd.length:Nat),0,0,[]⟩])
 else((nd.length:Nat),r,nd++[⟨1,0,0,zz k,v⟩])
def tt (k:ak)(w:List ak)(nd:List Nd):PR:=match w with
 |s::v::r=>if CA k s v=true then some (Ay k s v r nd)else none
 |_=>none
def jv (part:List ak->List Nd->PR)(wd:ak)(op:Int):Nat->Int->List ak->List Nd->PR
 |0,a,w,nd=>some (a,w,nd)
 |f+1,a,w,nd=>match w with
  |[]=>some (a,w,nd)
  |x::r=>if x=wd then(match part r nd with
    |none=>none
    |some (b,w',nd')=>jv part wd op f (nd'.length:Nat) w' (nd'++[⟨op,a,b,0,[]⟩]))
   else some (a,w,nd)
def hY (part:List ak->List Nd->PR)(wd:ak)(op:Int)(w:List ak)(nd:List Nd):PR:=match part w nd with
 |none=>none
 |some (a,w',nd')=>jv part wd op w'.length a w' nd'
def yO:ak:=[110,111,116]
def nI:ak:=[40]
def uR:ak:=[41]
def tT:ak:=[97,110,100]
def B8:ak:=[111,114]
def qz (r:PR):PR:=match r with
 |some (a,x::w',nd')=>if x=uR then some (a,w',nd')else none
 |_=>none
def P0 (r:PR):PR:=match r with
 |some (a,w',nd')=>some ((nd'.length:Nat),w',nd'++[⟨2,a,0,0,[]⟩])
 |none=>none
def p7:Nat->List ak->List Nd->PR
 |0,_,_=>none
 |f+1,w,nd=>match w with
  |[]=>none
  |k::r=>if k=yO then P0 (p7 f r nd)
   else if k=nI then qz (hY (hY (p7 f) tT 3) B8 4 r nd)
   else tt k r nd
def PB (w:List ak)(nd:List Nd)(w':List ak)(nd':List Nd):Prop:=w'.length<=w.length/\nd'.length+2*w'.length<=nd.length+2*w.length/\w'<:+w
def tW (part:List ak->List Nd->PR):Prop:=∀w nd a w' nd',part w nd=some (a,w',nd')->PB w nd w' nd'/\w'.length<w.length
def PB.refl (w:List ak)(nd:List Nd):PB w nd w nd:=⟨aF _,aF _,kD _⟩
def PB.trans {w nd w' nd' w2 nd2}(h:PB w nd w' nd')(h2:PB w' nd' w2 nd2):PB w nd w2 nd2:=⟨cC h2.1 h.1,cC h2.2.1 h.2.1,h2.2.2.trans h.2.2⟩
def PB.tail {x:ak}{w:List ak}{nd:List Nd}{w':List ak}{nd':List Nd}(h:PB w nd w' nd')(n:Nd):PB (x::w) nd w' (nd'++[n]):=by
 obtain⟨h1,h2,h3⟩:=h;refine⟨by simp only[aH];omega,by simp only[bA,aH,aO];omega,h3.trans (List.suffix_cons x w)⟩
def PB.BY {x:ak}{w:List ak}{nd:List Nd}{w':List ak}{nd':List Nd}(h:PB w nd w' nd'):PB (x::w) nd w' nd':=by
 obtain⟨h1,h2,h3⟩:=h;exact⟨by simp only[aH];omega,by simp only[aH];omega,h3.trans (List.suffix_cons x w)⟩
def vP {part:List ak->List Nd->PR}(hp:tW part)(wd:ak)(op:Int):∀(f:Nat) (a:Int) (w:List ak) (nd:List Nd) (a':Int) (w':List ak) (nd':List Nd),jv part wd op f a w nd=some (a',w',nd')->PB w nd w' nd'
 |0,a,w,nd,a',w',nd',h=>by simp only[jv,aL,dn]at h;obtain⟨rfl,rfl,rfl⟩:=h;exact .refl _ _
 |f+1,a,[],nd,a',w',nd',h=>by simp only[jv,aL,dn]at h;obtain⟨rfl,rfl,rfl⟩:=h;exact .refl _ _
 |f+1,a,x::r,nd,a',w',nd',h=>by
  simp only[jv]at h;by_cases hx:x=wd
  .rw[aw hx]at h;cases hq:part r nd with
   |none=>rw[hq]at h;cases h
   |some t=>
    obtain⟨b,w2,nd2⟩:=t;rw[hq]at h;exact((hp _ _ _ _ _ hq).1.tail _).trans (vP hp wd op f _ _ _ _ _ _ h)
  .rw[aj hx]at h;simp only[aL,dn]at h;obtain⟨rfl,rfl,rfl⟩:=h;exact .refl _ _
def jZ {part:List ak->List Nd->PR}(hp:tW part)(wd:ak)(op:Int):tW (hY part wd op):=by
 intro w nd a w' nd' h;unfold hY at h;cases hq:part w nd with
 |none=>rw[hq]at h;cases h
 |some t=>
  obtain⟨b,w2,nd2⟩:=t;rw[hq]at h;obtain⟨h1,h2⟩:=hp _ _ _ _ _ hq;have:=vP hp wd op _ _ _ _ _ _ _ h;exact⟨h1.trans this,Nat.lt_of_le_of_lt this.1 h2⟩
theorem qq {k:ak}{w:List ak}{nd:List Nd}{a:Int}{w':List ak}{nd':List Nd}(h:tt k w nd=some (a,w',nd')):PB w nd w' nd':=by
 match w,h with
 |s::v::r,h=>
  simp only[tt]at h;split at h
  .simp only[aL]at h;unfold Ay at h;have hs:r<:+s::v::r:=(List.suffix_cons v r).trans (List.suffix_cons s _);split at h<;>(simp only[dn]at h;obtain⟨rfl,rfl,rfl⟩:=h;exact⟨by simp only[aH];omega,by simp only[bA,aH,aO];omega,hs⟩)
  .cases h
 |[_],h=>cases h
 |[],h=>cases h
def jF:∀f,tW (p7 f)
 |0=>fun w nd a w' nd' h=>by cases h
 |f+1=>by
  intro w nd a w' nd' h
  match w,h with
  |[],h=>cases h
  |k::r,h=>
   simp only[p7]at h;split at h
   .cases hq:p7 f r nd with
    |none=>rw[hq]at h;cases h
    |some t=>
     obtain⟨b,w2,nd2⟩:=t;rw[hq]at h;simp only[P0,aL,dn]at h;obtain⟨rfl,rfl,rfl⟩:=h;obtain⟨h1,h2⟩:=jF f _ _ _ _ _ hq;exact⟨h1.tail _,by simp only[aH];omega⟩
   .split at h
    .cases hq:hY (hY (p7 f) tT 3) B8 4 r nd with
     |none=>rw[hq]at h;cases h
     |some t=>
      obtain⟨b,w2,nd2⟩:=t;rw[hq]at h;obtain⟨h1,h2⟩:=jZ (jZ (jF f) _ _) _ _ _ _ _ _ _ hq
      match w2,h,h1,h2 with
      |[],h,_,_=>cases h
      |x::w3,h,h1,h2=>
       simp only[qz]at h;split at h
       .simp only[aL,dn]at h;obtain⟨rfl,rfl,rfl⟩:=h;exact⟨(h1.trans (PB.refl _ _).BY).BY,by simp only[aH]at h2⊢;omega⟩
       .cases h
    .exact⟨(qq h).BY,by have:=(qq h).1;simp only[aH];omega⟩
def Bj {p p':List ak->List Nd->PR}(hp:tW p)(wd:ak)(op:Int){u:Nat}(h:∀w nd,w.length<u->p w nd=p' w nd):∀(f:Nat) (a:Int) (w:List ak) (nd:List Nd),w.length<=u->jv p wd op f a w nd=jv p' wd op f a w nd
 |0,a,w,nd,hu=>rfl
 |f+1,a,[],nd,hu=>rfl
 |f+1,a,x::r,nd,hu=>by
  simp only[aH]at hu;simp only[jv];split
  .rw[<-h r nd ae];cases hq:p r nd with
   |none=>rfl
   |some t=>
    obtain⟨b,w2,nd2⟩:=t;have:=hp _ _ _ _ _ hq;exact Bj hp wd op h f _ _ _ ae
  .rfl
def py {p p':List ak->List Nd->PR}(hp:tW p)(wd:ak)(op:Int){u:Nat}(h:∀w nd,w.length<u->p w nd=p' w nd):∀w nd,w.length<u->hY p wd op w nd=hY p' wd op w nd:=by
 intro w nd hu;unfold hY;rw[<-h w nd hu];cases hq:p w nd with
 |none=>rfl
 |some t=>
  obtain⟨b,w2,nd2⟩:=t;have:=hp _ _ _ _ _ hq;exact Bj hp wd op h _ _ _ _ ae
def Eb:∀(u f g:Nat) (w:List ak) (nd:List Nd),w.length<u->w.length<=f->w.length<=g->p7 f w nd=p7 g w nd
 |0,_,_,_,_,h,_,_=>absurd h (Nat.not_lt_zero _)
 |u+1,f,g,[],nd,hu,hf,hg=>by cases f<;>cases g<;>rfl
 |u+1,0,_,_::_,_,_,h,_=>by simp at h
 |u+1,_,0,_::_,_,_,_,h=>by simp at h
 |u+1,f+1,g+1,k::r,nd,hu,hf,hg=>by
  simp only[aH]at hu hf hg;have ih:∀w nd,w.length<r.length+1->p7 f w nd=p7 g w nd:=fun w nd h=>Eb u f g w nd ae ae ae
  simp only[p7];rw[ih r nd ae,py (jZ (jF f) _ _) B8 4 (py (jF f) tT 3 ih) r nd ae]
def nw (w:List ak)(nd:List Nd):PR:=p7 w.length w nd
def rC:List ak->List Nd->PR:=hY nw tT 3
def lA:List ak->List Nd->PR:=hY rC B8 4
def xU:tW nw:=fun w nd a w' nd' h=>jF _ w nd a w' nd' h
def CL:tW rC:=jZ xU _ _
def zl (k:ak)(r:List ak)(nd:List Nd):nw (k::r) nd=if k=yO then P0 (nw r nd)else if k=nI then qz (lA r nd)else tt k r nd:=by
 show p7 (r.length+1) (k::r) nd=_;simp only[p7];have ih:∀w nd,w.length<r.length+1->p7 r.length w nd=nw w nd:=fun w nd h=>Eb (r.length+1) _ _ w nd h ae (aF _)
 rw[show p7 r.length r nd=nw r nd from rfl,py (jZ (jF _) _ _) B8 4 (py (jF _) tT 3 ih) r nd ae];rfl
def yk {part:List ak->List Nd->PR}{wd:ak}{op:Int}{f:Nat}{a:Int}{nd:List Nd}:jv part wd op f a [] nd=some (a,[],nd):=by cases f<;>rfl
theorem JB {part:List ak->List Nd->PR}{wd:ak}{op:Int}{f:Nat}{a:Int}{w:List ak}{nd:List Nd}(h:w.head? ≠some wd):jv part wd op f a w nd=some (a,w,nd):=by
 cases f with
 |zero=>rfl
 |succ f=>match w,h with
  |[],_=>rfl
  |x::r,h=>simp only[jv];rw[aj (by rintro rfl;exact h rfl)]
def vQ {part:List ak->List Nd->PR}(hp:tW part){wd:ak}{op:Int}:∀(f g:Nat) (a:Int) (w:List ak) (nd:List Nd),w.length<=f->w.length<=g->jv part wd op f a w nd=jv part wd op g a w nd
 |_,_,a,[],nd,_,_=>by rw[yk,yk]
 |0,_,_,_::_,_,h,_=>by simp at h
 |_,0,_,_::_,_,_,h=>by simp at h
 |f+1,g+1,a,x::r,nd,hf,hg=>by
  simp only[aH]at hf hg;simp only[jv];split
  .cases hq:part r nd with
   |none=>rfl
   |some t=>
    obtain⟨b,w2,nd2⟩:=t;have:=hp _ _ _ _ _ hq;exact vQ hp f g _ _ _ ae ae
  .rfl
def Er (part:List ak->List Nd->PR)(wd:ak)(op:Int)(a:Int)(w:List ak)(nd:List Nd):PR:=jv part wd op w.length a w nd
def Hi {part:List ak->List Nd->PR}(hp:tW part){wd:ak}{op:Int}{a:Int}{r:List ak}{nd:List Nd}:Er part wd op a (wd::r) nd=match part r nd with
  |none=>none
  |some (b,w',nd')=>Er part wd op (nd'.length:Nat) w' (nd'++[⟨op,a,b,0,[]⟩]):=by
 show jv part wd op (r.length+1) a (wd::r) nd=_;simp only[jv,aP];cases hq:part r nd with
 |none=>rfl
 |some t=>
  obtain⟨b,w2,nd2⟩:=t;have:=hp _ _ _ _ _ hq;exact vQ hp _ _ _ _ _ ae (aF _)
structure PO where
 a:Int
 w:List ak
 nd:List Nd
 bad:Bool
def fB (R:PR)(w:List ak)(nd:List Nd)(o:PO):Prop:=(R=some (o.a,o.w,o.nd)/\o.bad=false\/R=none/\o.bad=true)/\PB w nd o.w o.nd
def Dh (s:ak):Option (List Nd):=match lA (ai s 32) []with
 |some (_,[],nd)=>if Bl nd=true then some nd else none
 |_=>none
def oK (s:ak):List Nd×Int:=if 96<s.length then([],3)else if s=[]then([],0)else match Dh s with
 |some nd=>(nd,0)
 |none=>([],7)
def pN (s:ak):Bool:=decide ((oK s).2=0)&&decide (Tc (oK s).1=s)
abbrev Cw:=List ak->D->Bool->D
def gy:Cw:=fun w X b=>.agg [.sl 1 (w.map D.str),X,.bool b]
def sn (Y:Ctx)(k:Nat)(ob:Cw)(n:Nat)(aai:List D)(w:List ak)(nd:List Nd)(b:Bool)(P:PO->Prop)(V:PO->D):Prop:=
 ∀(nx lp ln:Nat) (m:List (Nat×bp)) (K:D->St->Prop),look m lp=some (.buf k [ob w (.own ln 5 0 nd.length) b])->look m ln=some (.buf 5 (nd.map Nd.D))->lp<nx->ln<nx->
  (∀o,P o->K (V o) ⟨nx+1,(nx,.buf 5 (o.nd.map Nd.D))::cM (cd m ln) lp (.buf k [ob o.w (.own nx 5 0 o.nd.length) o.bad])⟩)->Y.tr n (.ptr lp k 0 0::aai) ⟨nx,m⟩ K
def SI (Y:Ctx)(k:Nat)(ob:Cw)(n:Nat)(aai:List D)(w:List ak)(nd:List Nd)(b:Bool)(P:PO->Prop)(V:PO->D):Prop:=
 ∀(nx lp ln:Nat) (m:List (Nat×bp)) (K:D->St->Prop),look m lp=some (.buf k [ob w (.own ln 5 0 nd.length) b])->look m ln=some (.buf 5 (nd.map Nd.D))->lp<nx->ln<nx->
  (∀o,P o->K (V o) ⟨nx,cM m lp (.buf k [ob o.w (.own ln 5 0 nd.length) o.bad])⟩)->Y.tr n (.ptr lp k 0 0::aai) ⟨nx,m⟩ K
def Cx (k:Nat)(ob:Cw)(P:PO->Prop)(V:PO->D):D->List (Nat×bp)->Prop:=fun d m=>∃(o:PO) (j:Nat),2<=j/\P o/\d=V o/\look m 0=some (.buf k [ob o.w (.own j 5 0 o.nd.length) o.bad])/\look m j=some (.buf 5 (o.nd.map Nd.D))
def NY (k:Nat)(ob:Cw)(nd:List Nd)(P:PO->Prop)(V:PO->D):D->List (Nat×bp)->Prop:=fun d m=>∃(o:PO),P o/\d=V o/\look m 0=some (.buf k [ob o.w (.own 1 5 0 nd.length) o.bad])/\look m 1=some (.buf 5 (nd.map Nd.D))
def Va:PO->D:=fun o=>.int .i64 o.a
def PU {m:List (Nat×bp)}(x:Nd):Lr m [.a,.a,.a,.a,.a] (Nd.D x):=⟨rfl,rfl,rfl,rfl,rfl,rfl⟩
def JL {m:List (Nat×bp)}{lp ln:Nat}{w:List ak}{nd:List Nd}{b:Bool}(h1:look m lp=some (.buf 3 [gy w (.own ln 5 0 nd.length) b]))(h2:look m ln=some (.buf 5 (nd.map Nd.D))):
  jh m [[.pt [.sl 1 [.a],.sl 5 [.a,.a,.a,.a,.a],.a]]] [.ptr lp 3 0 0]:=by
 refine⟨⟨by simp[eZ,h1], ?_⟩,trivial⟩;intro e he;simp only[aS,h1,cT]at he;subst he;refine⟨rfl,⟨by simp[eZ,h2], ?_⟩,rfl,rfl⟩;simp only[aS,h2,bN,aI];intro e he;obtain⟨x,_,rfl⟩:=eW.1 he;exact PU x
def cF (w:List ak):ak:=w.headD []
def bn (w:List ak):List ak:=if cF w=[]then w else w.drop 1
def cO (w:List ak)(b:Bool):Bool:=if cF w=[]then true else b
def pV {w:List ak}{x:ak}(hx:x≠[])(h:cF w=x):∃r,w=x::r:=by
 match w,h with
 |[],h=>exact absurd h.symm hx
 |y::r,h=>exact⟨r,by rw[show y=x from h]⟩
def KS {w:List ak}(h:¬cF w=[]):1<=w.length:=by
 match w,h with
 |[],h=>exact absurd rfl h
 |_::_,_=>simp
def iD {x:ak}{r:List ak}(hx:x≠[]):bn (x::r)=r:=aj hx
def iC {x:ak}{r:List ak}{b:Bool}(hx:x≠[]):cO (x::r) b=b:=aj hx
def HZ (w:List ak):bn w<:+w:=by
 unfold bn;split
 .exact kD _
 .exact List.drop_suffix 1 w
def na (w:List ak)(nd:List Nd):PB w nd (bn w) nd:=by
 have h:=HZ w;have:=h.length_le;exact⟨this,ae,h⟩
theorem KR {w:List ak}{b:Bool}(h:cO w b=false):b=false/\cF w≠[]/\w=cF w::bn w:=by
 unfold cO at h;split at h
 .cases h
 .rename_i hs;refine⟨h,hs, ?_⟩
  match w,hs with
  |x::r,hs=>rw[iD (x:=x) (r:=r) hs];rfl
def lz (b:Bool)(k:ak)(w:List ak)(nd:List Nd):PR:=if b=true then none else tt k w nd
theorem Ju {j:Nat}{k:ak}(hj:j<3)(h:oG[j]! =k):zz k=(j:Nat):=by
 obtain rfl|rfl|rfl:j=0\/j=1\/j=2:=ae
 all_goals (subst h;rfl)
def G8 {k:ak}(h:0<=zz k):∃j,j<3/\oG[j]! =k/\zz k=(j:Nat):=by
 unfold zz at h⊢;by_cases h1:k=[111,115]
 .exact⟨0,ae,h1.symm,by rw[aw h1];rfl⟩
 .by_cases h2:k=[97,114,99,104]
  .exact⟨1,ae,h2.symm,by rw[aj h1,aw h2];rfl⟩
  .by_cases h3:k=[97,98,105]
   .exact⟨2,ae,h3.symm,by rw[aj h1,aj h2,aw h3];rfl⟩
   grind
def CX (j:Nat)(k s v:ak)(bad:Bool):Bool:=!(((!decide (oG[j]! =k) ||bad) ||(!decide (s=[61])&& !decide (s=[33,61]))) ||!cJ v)
def Jj {j:Nat}{k:ak}{w:List ak}{nd:List Nd}{b:Bool}(hj:j<3)(h:CX j k (cF w) (cF (bn w)) (cO (bn w) (cO w b))=true):
  lz b k w nd=some (Ay k (cF w) (cF (bn w)) (bn (bn w)) nd)/\zz k=(j:Nat)/\cO (bn w) (cO w b)=false:=by
 grind [CX,Ju,KR,lz,tt,CA]
def Mr {k:ak}{w:List ak}{nd:List Nd}{b:Bool}(h:∀j,j<3->CX j k (cF w) (cF (bn w)) (cO (bn w) (cO w b))=false):lz b k w nd=none:=by
 unfold lz;split
 .rfl
 .rename_i hb
  match w with
  |[]=>rfl
  |[_]=>rfl
  |s::v::r=>
   simp only[tt];rw[aj];intro ha;simp only[CA,bt,dk,a8]at ha;obtain⟨⟨h1,h2⟩,h3⟩:=ha;obtain⟨j,hj,hj2,_⟩:=G8 h1;have hs:s≠[]:=by rintro rfl;rcases h3 with h|h<;>cases h
   have hv:v≠[]:=by rintro rfl;cases h2
   have:=h j hj;rw[iD hs,iC hs,iC hv]at this;simp only[Bool.not_eq_true]at hb;subst hb;revert this;simp only[CX,cF,List.headD_cons,hj2,h2,decide_true];rcases h3 with rfl|rfl<;>simp
def D3 (w:List ak)(nd:List Nd):PB w nd (bn (bn w)) nd:=(na w nd).trans (na _ nd)
def ve {b:Bool}{k:ak}{w:List ak}{nd:List Nd}{a:Int}{w':List ak}{nd':List Nd}(h:lz b k w nd=some (a,w',nd')):PB w nd w' nd':=by
 grind [lz,qq]
def I6 {w:List ak}{nd:List Nd}(h1:cF w≠yO)(h2:cF w≠nI):nw w nd=lz (cO w false) (cF w) (bn w) nd:=by
 match w with
 |[]=>rfl
 |k::r=>
  have h1:k≠yO:=h1;have h2:k≠nI:=h2;rw[zl,aj h1,aj h2];by_cases hk:k=[]
  .subst hk;show tt [] r nd=none
   match r with
   |[]=>rfl
   |[_]=>rfl
   |s::v::r=>rfl
  .rw[iD hk,iC hk];rfl
def IP {R:PR}{o:PO}{w:List ak}{nd:List Nd}(h:fB R w nd o)(hs:cF o.w≠uR):qz R=none:=by
 rcases h.1 with⟨h1,_⟩|⟨h1,_⟩
 .rw[h1]
  match ho:o.w,hs with
  |[],_=>rfl
  |x::r,hs=>simp only[qz];exact aj hs
 .rw[h1];rfl
def fB.pb {R:PR}{o:PO}{w:List ak}{nd:List Nd}(h:fB R w nd o):PB w nd o.w o.nd:=h.2
def M9 {r:List ak}{nd:List Nd}{o:PO}(h:fB (nw r nd) r nd o):fB (nw (yO::r) nd) (yO::r) nd ⟨(o.nd.length:Nat),o.w,o.nd++[⟨2,o.a,0,0,[]⟩],o.bad⟩:=by
 refine⟨?_,h.2.tail _⟩;rw[zl,aw rfl];rcases h.1 with⟨h1,h2⟩|⟨h1,h2⟩
 .left;rw[h1];exact⟨rfl,h2⟩
 .right;rw[h1];exact⟨rfl,h2⟩
def AP (r:List ak)(nd:List Nd):nw (nI::r) nd=qz (lA r nd):=by rw[zl,aj aE,aw rfl]
def Bu {r:List ak}{nd:List Nd}{o:PO}(h:fB (lA r nd) r nd o)(hs:¬cF o.w=uR):fB (nw (nI::r) nd) (nI::r) nd ⟨o.a,bn o.w,o.nd,true⟩:=
 ⟨.inr ⟨by rw[AP,IP h hs],rfl⟩,h.2.BY.trans (na _ _)⟩
def J2 {r:List ak}{nd:List Nd}{o:PO}(h:fB (lA r nd) r nd o)(hs:cF o.w=uR):fB (nw (nI::r) nd) (nI::r) nd ⟨o.a,bn o.w,o.nd,cO o.w o.bad⟩:=by
 refine⟨?_,h.2.BY.trans (na _ _)⟩;obtain⟨q,hq⟩:=pV aE hs;rw[AP,hq,iD aE,iC aE];rcases h.1 with⟨h1,h2⟩|⟨h1,h2⟩
 .grind [qz]
 .right;rw[h1];exact⟨rfl,h2⟩
def J1 {w:List ak}{nd:List Nd}{o:PO}(hf:nw w nd=lz (cO w false) (cF w) (bn w) nd)(h:fB (lz (cO w false) (cF w) (bn w) nd) (bn w) nd o):fB (nw w nd) w nd o:=
 ⟨by rw[hf];exact h.1,(na w nd).trans h.2⟩
def PT {s:ak}{o:PO}(h:fB (lA (ai s 32) []) (ai s 32) [] o)(hc:((o.bad ||decide ((0:Int)<(o.w.length:Nat))) ||!Bl o.nd)=true):Dh s=none:=by
 unfold Dh;rcases h.1 with⟨h1,h2⟩|⟨h1,h2⟩
 .grind
 .rw[h1]
def MV {s:ak}{o:PO}(h:fB (lA (ai s 32) []) (ai s 32) [] o)(hc:((o.bad ||decide ((0:Int)<(o.w.length:Nat))) ||!Bl o.nd)=false):Dh s=some o.nd:=by
 simp only[dT,bC,cL]at hc;unfold Dh;rcases h.1 with⟨h1,h2⟩|⟨h1,h2⟩
 .rw[h1]
  match hw:o.w with
  |[]=>simp only[hc.2,aP]
  |x::r=>exact absurd hc.1.2 (by rw[hw];simp)
 grind
def MU {s:ak}{nd:List Nd}(h1:¬96<s.length)(h2:¬s=[])(h:Dh s=some nd):oK s=(nd,0):=by simp only[oK,h,aj h1,aj h2]
def MT {s:ak}(h1:¬96<s.length)(h2:¬s=[])(h:Dh s=none):oK s=([],7):=by simp only[oK,h,aj h1,aj h2]
def Lo (part:List ak->List Nd->PR)(wd:ak)(op:Int)(R:PR)(w:List ak)(nd:List Nd)(o:PO):Prop:=(o.bad=false/\R=Er part wd op o.a o.w o.nd\/o.bad=true/\R=none)/\PB w nd o.w o.nd
def Lo.first {part:List ak->List Nd->PR}{wd:ak}{op:Int}{w:List ak}{nd:List Nd}{o:PO}(h:fB (part w nd) w nd o):Lo part wd op (hY part wd op w nd) w nd o:=by
 refine⟨?_,h.2⟩;rcases h.1 with⟨h1,h2⟩|⟨h1,h2⟩
 .left;refine⟨h2, ?_⟩;unfold hY;rw[h1];rfl
 grind [hY]
def Lo.next {part:List ak->List Nd->PR}(hp:tW part){wd:ak}{op:Int}{R:PR}{w:List ak}{nd:List Nd}{a:Int}{r:List ak}{nd1:List Nd}{o:PO}(h:Lo part wd op R w nd ⟨a,wd::r,nd1,false⟩)(h2:fB (part r nd1) r nd1 o):
  Lo part wd op R w nd ⟨(o.nd.length:Nat),o.w,o.nd++[⟨op,a,o.a,0,[]⟩],o.bad⟩:=by
 refine⟨?_,h.2.trans (h2.2.tail _)⟩;rcases h.1 with⟨_,h1⟩|⟨h1,_⟩
 .rw[Hi hp]at h1;rcases h2.1 with⟨g1,g2⟩|⟨g1,g2⟩
  .left;exact⟨g2,by rw[h1,g1]⟩
  .right;exact⟨g2,by rw[h1,g1]⟩
 .cases h1
def Lo.last {part:List ak->List Nd->PR}{wd:ak}{op:Int}{R:PR}{w:List ak}{nd:List Nd}{o:PO}(h:Lo part wd op R w nd o)(hx:o.bad=true\/o.w.head? ≠some wd):fB R w nd o:=by
 refine⟨?_,h.2⟩;rcases h.1 with⟨h1,h2⟩|⟨h1,h2⟩
 .grind [Er,JB]
 .right;exact⟨h2,h1⟩
def PB.uO {w w':List ak}{nd nd':List Nd}{W:List ak}(h:PB w nd w' nd')(hW:w<:+W):w'<:+W:=h.2.2.trans hW
def sF (f:Nat->Int):Nat->Nat->Int
 |_,0=>0
 |i,k+1=>if f i=0 then sF f (i+1) k else f i
def iV (f:Nat->Int)(i n:Nat):Int:=sF f i (n-i)
def sE {f:Nat->Int}{i n:Nat}(h:i<n)(hf:f i=0):iV f i n=iV f (i+1) n:=by
 unfold iV;obtain⟨k,hk⟩:∃k,n-i=k+1:=⟨n-i-1,ae⟩
 grind [sF]
def vA {f:Nat->Int}{i n:Nat}(h:i<n)(hf:f i≠0):iV f i n=f i:=by
 unfold iV;obtain⟨k,hk⟩:∃k,n-i=k+1:=⟨n-i-1,ae⟩
 rw[hk];simp only[sF,hf,aM]
def sD {f:Nat->Int}{i n:Nat}(h:n<=i):iV f i n=0:=by
 unfold iV;rw[show n-i=0 by omega];rfl
def nA (f:Nat->Int):Nat->Nat->Int×Int
 |_,0=>(0,0)
 |i,k+1=>if f i=0 then nA f (i+1) k else(f i,((i:Nat):Int))
def fD (f:Nat->Int)(i n:Nat):Int×Int:=nA f i (n-i)
def kZ {f:Nat->Int}{i n:Nat}(h:i<n)(hf:f i=0):fD f i n=fD f (i+1) n:=by
 unfold fD;obtain⟨k,hk⟩:∃k,n-i=k+1:=⟨n-i-1,ae⟩
 grind [nA]
def iv {f:Nat->Int}{i n:Nat}(h:i<n)(hf:f i≠0):fD f i n=(f i,((i:Nat):Int)):=by
 unfold fD;obtain⟨k,hk⟩:∃k,n-i=k+1:=⟨n-i-1,ae⟩
 rw[hk];simp only[nA,hf,aM]
def kY {f:Nat->Int}{i n:Nat}(h:n<=i):fD f i n=(0,0):=by
 unfold fD;rw[show n-i=0 by omega];rfl
def kO (r:Rec)(name sa:ak):Int:=if ee name=false then 4 else if name=r.name then 8 else if im sa=false then 6 else 0
def QG (l:List ak)(i:Nat):Bool:=cJ l[i]! && !(decide (0<i)&& !Op.bytesLess l[i-1]! l[i]!)
def mz (l:List ak)(alone:Bool):Bool:=(decide (l.length<=6)&&(alone ||decide (l.length=0)))&&dz (QG l) 0 l.length
def mA (r:Rec)(w:cu)(alone:Bool):Int:=if kO r w.name w.range≠0 then kO r w.name w.range else if mz w.feats alone=false then 11 else 0
def nJ (r:Rec)(l:List cu):Int:=iV (fun i=>mA r l[i]! (decide ((l.length:Int)=1))) 0 l.length
def lI (r:Rec)(n:bT):Int:=if n.any.length=0 then 9 else if 3<n.any.length then 3 else if nJ r n.any≠0 then nJ r n.any else
 if pN n.when'=false then 7 else if n.option≠[]/\cJ n.option=false then 14 else 0
def vi (r:Rec)(b:jT):Int:=if kO r b.name b.range≠0 then kO r b.name b.range else if pN b.when'=false then 7 else 0
def M7 (l:List bT)(x:ak):Bool:=l.any fun n=>decide (n.option=x)
def EB (l:List bT)(x:ak):Bool:=l.any fun n=>decide (n.any.length=1)&&decide (n.any[0]!.name=x)
def lD (r:Rec)(s:ak):Int:=if(dy s).1=2/\M7 r.needs (dy s).2.1=false then 14 else if(dy s).1=3/\EB r.needs (dy s).2.1=false then 16 else 0
def qK (r:Rec)(of:List ak):Int:=iV (fun i=>lD r of[i]!) 0 of.length
def lJ (r:Rec):Int×Int:=fD (fun i=>lI r r.needs[i]!) 0 r.needs.length
def tu (r:Rec):Int×Int:=fD (fun i=>vi r r.bars[i]!) 0 r.bars.length
def sC (r:Rec):Int×Int:=fD (fun i=>qK r r.feats[i]!.of) 0 r.feats.length
def gC (r:Rec):Int×Int:=if(lJ r).1≠0 then lJ r else if(tu r).1≠0 then tu r else if iU r.feats=false then(11,0)else sC r
def K1 (n:Nat)(al:Bool):(decide ((6:Int)<(n:Nat)) ||(decide ((0:Int)<(n:Nat))&& !al))=!(decide (n<=6)&&(al ||decide (n=0))):=by
 grind
def TG (l:List ak)(i:Nat):(!cJ l[i]! ||(decide ((0:Int)<(i:Nat))&& !Op.bytesLess l[i-1]! l[i]!))=!QG l i:=by
 unfold QG
 grind
def S3 (k:Int)(x:ak)(n:bT):Bool:=(decide (k=2)&&decide (n.option=x)) ||((decide (k=3)&&decide ((n.any.length:Int)=1))&&decide (n.any[0]!.name=x))
def PK (k:Int):Int:=if k=2 then 14 else if k=3 then 16 else 0
def Js (r:Rec)(s:ak):lD r s=if r.needs.any (S3 (dy s).1 (dy s).2.1)=true then 0 else PK (dy s).1:=by
 grind [lD,PK,M7,EB,dy,S3]
def LR {α:Type} [Inhabited α]{c:α->Bool}{l:List α}{i:Nat}(h:i<l.length)(hc:c l[i]! =true):(l.drop i).any c=true:=by
 rw[jn h,List.any_cons]
 grind
def Pq {α:Type} [Inhabited α]{c:α->Bool}{l:List α}{i:Nat}(h:i<l.length)(hc:c l[i]! =false):(l.drop i).any c=(l.drop (i+1)).any c:=by
 rw[jn h,List.any_cons]
 grind
def LP {α:Type}{c:α->Bool}{l:List α}{i:Nat}(h:l.length<=i):(l.drop i).any c=false:=by
 rw[jR h];rfl
def jB:ak:=[110,101,101,100]
def ma:ak:=[97,110,121]
def my:ak:=[119,104,101,110]
def fA:ak:=[111,112,116,105,111,110]
def kX:ak:=[98,97,114]
def dQ:ak:=[102,101,97,116,117,114,101]
def fg:ak:=[112,97,99,107,97,103,101]
def pj:ak:=[102,117,108,108]
def kf:ak:=[98,97,114,101]
def b9 (l:List ak):ak:=aR [32] l++[10]
def nR (w:cu):List ak:=[ma,w.name,if w.feats.length=0 then [45]else aR [44] w.feats,if w.bare=true then kf else pj,w.range]
def jC (s:ak):ak:=if s=[]then []else b9 [my,s]
def xw (s:ak):ak:=if s=[]then []else b9 [fA,s]
def oL (n:bT):ak:=b9 [jB]++(n.any.map fun w=>b9 (nR w)).flatten++jC n.when'++xw n.option
def vj (b:jT):ak:=b9 [kX,b.name,b.range]++jC b.when'
def rN (f:ct):ak:=b9 ([dQ,f.name]++f.of)
def qk (r:Rec):ak:=b9 [fg,r.name,qe r.v]
def jm (r:Rec):ak:=qk r++(r.needs.map oL).flatten++(r.bars.map vj).flatten++(r.feats.map rN).flatten
def cw (r:Rec):Int×Int:=if ee r.name=false then(4,0)else if iP r.v=false then(5,0)else if 8<r.needs.length\/8<r.bars.length then(3,0)else
 if(gC r).1≠0 then gC r else if 4096<(jm r).length then(3,0)else(0,0)
def kv (r:Rec):ak×Int:=if(cw r).1≠0 then([],(cw r).1)else(jm r,0)
def cu.sm (w:cu):Prop:=(w.name.length<=1048576/\w.range.length<=1048576)/\∀t∈w.feats,t.length<=1048576
def bT.sm (n:bT):Prop:=(∀w∈n.any,w.sm)/\n.when'.length<=1048576/\n.option.length<=1048576
def jT.sm (b:jT):Prop:=b.name.length<=1048576/\b.range.length<=1048576/\b.when'.length<=1048576
def m4 (r:Rec):Prop:=(r.name.length<=1048576/\r.v.sm)/\(∀n∈r.needs,n.sm)/\(∀b∈r.bars,b.sm)/\uA r.feats
def J4 {r:Rec}{e:Int×Int}(h:lJ r=e)(hn:e.1≠0):gC r=e:=by grind [gC]
def Bv {r:Rec}{e:Int×Int}(h0:lJ r=(0,0))(h:tu r=e)(hn:e.1≠0):gC r=e:=by grind [gC]
def J5 {r:Rec}(h0:lJ r=(0,0))(h1:tu r=(0,0))(h:iU r.feats=false):gC r=(11,0):=by grind [gC]
def wi {r:Rec}{e:Int×Int}(h0:lJ r=(0,0))(h1:tu r=(0,0))(h:iU r.feats=true)(h2:sC r=e):gC r=e:=by grind [gC]
def AU (f:Nat->Int):∀(k i:Nat),(nA f i k).1=0->nA f i k=(0,0)
 |0,_,_=>rfl
 |k+1,i,h=>by
  simp only[nA]at h⊢;by_cases hf:f i=0
  .rw[aw hf]at h⊢;exact AU f k (i+1) h
  .rw[aj hf]at h;exact absurd h hf
def J6 {r:Rec}(h:(gC r).1=0):gC r=(0,0):=by
 unfold gC at h⊢;split
 .rename_i h1;rw[aw h1]at h;exact absurd h h1
 .rename_i h1;rw[aj h1]at h;split
  .rename_i h2;rw[aw h2]at h;exact absurd h h2
  .rename_i h2;rw[aj h2]at h;split
   .rename_i h3;rw[aw h3]at h;cases h
   .rename_i h3;rw[aj h3]at h;exact AU _ _ _ h
def om {r:Rec}{e:Int×Int}(h0:ee r.name=true)(h1:iP r.v=true)(h2:¬8<r.needs.length)(h3:¬8<r.bars.length)(hp:gC r=e)(hn:e.1≠0):cw r=e:=by
 grind [cw]
def vv {r:Rec}(h0:ee r.name=true)(h1:iP r.v=true)(h2:¬8<r.needs.length)(h3:¬8<r.bars.length)(hp:gC r=(0,0)):cw r=if 4096<(jm r).length then(3,0)else(0,0):=by
 grind [cw]
def x8 (r:Rec):Prop:=(ee r.name=true/\iP r.v=true)/\(r.needs.length<=8/\r.bars.length<=8)/\gC r=(0,0)
def nX (n:Nat)(l:List ak):List ak:=if l.length<=n then l else l.take (n-1)++[aR [32] (l.drop (n-1))]
def dZ (n:Nat)(op:Bool)(t:ak):List ak:=if op=true then nX n (ai t 32)else ai t 32
def lK (w:ak)(n:Nat)(op:Bool)(t:ak):Option (List ak):=
 if(dZ n op t)[0]! =w/\(n=0\/(dZ n op t).length=n)/\[]∉dZ n op t then some (dZ n op t)else none
def cb (w:ak)(n:Nat)(op:Bool):List ak->Option (List ak×List ak)
 |[]=>none
 |t::r=>match lK w n op t with
  |some l=>some (l,r)
  |none=>none
def bW (ls:List ak):ak×List ak:=match cb my 2 true ls with
 |some (l,r)=>(l[1]!,r)
 |none=>([],ls)
def tE (l:List ak):Bool:=decide (l[3]! =kf) ||decide (l[3]! =pj)
def ic (l:List ak):cu:=⟨l[1]!,l[4]!,if l[2]! =[45]then []else ai l[2]! 44,decide (l[3]! =kf)⟩
def cV:List ak->List cu×List ak
 |[]=>([],[])
 |t::r=>match lK ma 5 true t with
  |some l=>if tE l=true then(ic l::(cV r).1,(cV r).2)else([],t::r)
  |none=>([],t::r)
def sT (ls:List ak):ak×List ak:=match cb fA 2 false ls with
 |some (l,r)=>(l[1]!,r)
 |none=>([],ls)
def eE (ls:List ak):bT×List ak:=(⟨(cV ls).1,(bW (cV ls).2).1,(sT (bW (cV ls).2).2).1⟩,(sT (bW (cV ls).2).2).2)
def kr:Nat->List ak->List bT×List ak
 |0,ls=>([],ls)
 |f+1,ls=>match cb jB 1 false ls with
  |some (_,r)=>((eE r).1::(kr f (eE r).2).1,(kr f (eE r).2).2)
  |none=>([],ls)
def nN:Nat->List ak->List jT×List ak
 |0,ls=>([],ls)
 |f+1,ls=>match cb kX 3 true ls with
  |some (l,r)=>(⟨l[1]!,l[2]!,(bW r).1⟩::(nN f (bW r).2).1,(nN f (bW r).2).2)
  |none=>([],ls)
def fj:List ak->List ct×List ak
 |[]=>([],[])
 |t::r=>match lK dQ 0 false t with
  |some l=>if 2<=l.length then(⟨l[1]!,l.drop 2⟩::(fj r).1,(fj r).2)else([],t::r)
  |none=>([],t::r)
def qd:Rec:=⟨[],kB,[],[],[]⟩
def gS (ls:List ak):List bT×List ak:=kr ls.length ls
def mc (ls:List ak):List jT×List ak:=nN ls.length ls
def vn (nm:ak)(v:gE)(r:List ak):Rec×List ak:=(⟨nm,v,(gS r).1,(mc (gS r).2).1,(fj (mc (gS r).2).2).1⟩,(fj (mc (gS r).2).2).2)
def sY (ls:List ak):Option (Rec×List ak):=match cb fg 3 false ls with
 |some (l,r)=>match ph l[2]! with
  |some v=>some (vn l[1]! v r)
  |none=>none
 |none=>none
theorem jL {w:ak}{n:Nat}{op:Bool}{ls l r:List ak}(h:cb w n op ls=some (l,r)):r.length+1=ls.length:=by
 match ls,h with
 |t::q,h=>
  grind [cb]
 |[],h=>cases h
theorem tg (ls:List ak):(bW ls).2.length<=ls.length:=by
 grind [bW,jL]
def JW (ls:List ak):(sT ls).2.length<=ls.length:=by
 grind [sT,jL]
def tV:∀ls:List ak,(cV ls).2.length<=ls.length
 |[]=>aF _
 |t::r=>by
  have:=tV r
  grind [cV]
theorem ym (ls:List ak):(eE ls).2.length<=ls.length:=by
 have h1:=tV ls;have h2:=tg (cV ls).2;have h3:=JW (bW (cV ls).2).2;show(sT (bW (cV ls).2).2).2.length<=_;omega
theorem yn:∀(f g:Nat) (ls:List ak),ls.length<=f->ls.length<=g->kr f ls=kr g ls
 |0,0,_,_,_=>rfl
 |0,g+1,ls,h,_=>by
  have:ls=[]:=tl.1 ae;subst this;rfl
 |f+1,0,ls,_,h=>by
  have:ls=[]:=tl.1 ae;subst this;rfl
 |f+1,g+1,ls,hf,hg=>by
  simp only[kr];cases h:cb jB 1 false ls with
  |none=>rfl
  |some p=>
   obtain⟨l,r⟩:=p;have h1:=jL h;have h2:=ym r;simp only;rw[yn f g _ ae ae]
theorem Az:∀(f g:Nat) (ls:List ak),ls.length<=f->ls.length<=g->nN f ls=nN g ls
 |0,0,_,_,_=>rfl
 |0,g+1,ls,h,_=>by
  have:ls=[]:=tl.1 ae;subst this;rfl
 |f+1,0,ls,_,h=>by
  have:ls=[]:=tl.1 ae;subst this;rfl
 |f+1,g+1,ls,hf,hg=>by
  simp only[nN];cases h:cb kX 3 true ls with
  |none=>rfl
  |some p=>
   obtain⟨l,r⟩:=p;have h1:=jL h;have h2:=tg r;simp only;rw[Az f g _ ae ae]
def Bo {ls l r:List ak}(h:cb jB 1 false ls=some (l,r)):gS ls=((eE r).1::(gS (eE r).2).1,(gS (eE r).2).2):=by
 grind [jL,ym,gS,kr,yn,eE]
def Bn {ls:List ak}(h:cb jB 1 false ls=none):gS ls=([],ls):=by
 unfold gS
 match ls,h with
 |[],_=>rfl
 |t::r,h=>simp only[aH,kr,h]
def CD {ls l r:List ak}(h:cb kX 3 true ls=some (l,r)):mc ls=(⟨l[1]!,l[2]!,(bW r).1⟩::(mc (bW r).2).1,(mc (bW r).2).2):=by
 grind [jL,tg,mc,nN,Az,bW]
def CB {ls:List ak}(h:cb kX 3 true ls=none):mc ls=([],ls):=by
 unfold mc
 match ls,h with
 |[],_=>rfl
 |t::r,h=>simp only[aH,nN,h]
structure RdS where
 r:Rec
 st:Nat
 deriving Inhabited
def vB {f:Nat->Int}:∀{k i:Nat},sF f i k=0->∀j,i<=j->j<i+k->f j=0
 |0,i,_,j,h1,h2=>absurd h2 ae
 |k+1,i,h,j,h1,h2=>by
  simp only[sF]at h;by_cases hf:f i=0
  .rw[aw hf]at h;by_cases hj:j=i
   .rw[hj];exact hf
   .exact vB h j ae ae
  .rw[aj hf]at h;exact absurd h hf
def CS {f:Nat->Int}{n:Nat}(h:iV f 0 n=0)(j:Nat)(hj:j<n):f j=0:=vB h j ae ae
def vC {f:Nat->Int}:∀{k i:Nat},(nA f i k).1=0->∀j,i<=j->j<i+k->f j=0
 |0,i,_,j,h1,h2=>absurd h2 ae
 |k+1,i,h,j,h1,h2=>by
  simp only[nA]at h;by_cases hf:f i=0
  .rw[aw hf]at h;by_cases hj:j=i
   .rw[hj];exact hf
   .exact vC h j ae ae
  .rw[aj hf]at h;exact absurd h hf
def qF {f:Nat->Int}{n:Nat}(h:(fD f 0 n).1=0)(j:Nat)(hj:j<n):f j=0:=vC h j ae ae
def cu.fit (w:cu):Prop:=w.sm/\(w.feats.length<=6/\∀t∈w.feats,t.length<=12)
def bT.fit (n:bT):Prop:=(n.any.length<=3/\∀w∈n.any,w.fit)/\n.when'.length<=1048576/\n.option.length<=1048576
def ct.fit (x:ct):Prop:=x.sm/\x.of.length<=6
structure Rec.fit (r:Rec):Prop where
 nm:r.name.length<=1048576
 v:r.v.sm
 ns:r.needs.length<=8
 n:∀x∈r.needs,x.fit
 bs:r.bars.length<=8
 b:∀x∈r.bars,x.sm
 fs:r.feats.length<=8
 f:∀x∈r.feats,x.fit
theorem uH {α:Type} [Inhabited α]{l:List α}{x:α}(h:x∈l):∃i,i<l.length/\l[i]! =x:=by
 obtain⟨i,hi,e⟩:=List.mem_iff_getElem.1 h;exact⟨i,hi,by rw[<-e];simp[hi]⟩
def K7 {r:Rec}{w:cu}{al:Bool}(h:mA r w al=0)(hs:w.sm):w.fit:=by
 refine⟨hs, ?_⟩
 grind [mA,mz,eY,uH,QG,cJ]
def JI {r:Rec}{n:bT}(h:lI r n=0)(hs:n.sm):n.fit:=by
 unfold lI at h;split at h
 .cases h
 split at h
 .cases h
 rename_i h1 h2;split at h
 .rename_i h3;exact absurd h h3
 rename_i h3;refine⟨⟨ae,fun w hw=>?_⟩,hs.2⟩;obtain⟨i,hi,rfl⟩:=uH hw;exact K7 (CS (Classical.not_not.1 h3) i hi) (hs.1 _ hw)
def G0 {r:Rec}(h:x8 r/\m4 r):r.fit:=by
 obtain⟨⟨_,⟨h1,h2⟩,hp⟩,⟨s1,s2⟩,s3,s4,s5⟩:=h;have h0:(lJ r).1=0/\iU r.feats=true:=by
  grind [gC]
 obtain⟨h3,h4⟩:=h0;simp only[iU,bt,a8,eY]at h4;refine⟨s1,s2,h1,fun x hx=>?_,h2,s4,h4.1,fun x hx=>⟨s5 x hx, ?_⟩⟩
 .obtain⟨i,hi,rfl⟩:=uH hx;exact JI (qF h3 i hi) (s3 _ hx)
 grind [uH,mD,vK]
def lf (x:UInt8)(B:Nat):∀l:List ak,(∀t∈l,t.length<=B)->(aR [x] l).length<=l.length*(B+1)
 |[],_=>by simp[aR]
 |[t],h=>by have:=h t (.head _);simp only[aR,aH,aO];omega
 |t::u::r,h=>by
  have h1:=h t (.head _);have h2:=lf x B (u::r) fun y hy=>h y (.tail _ hy)
  simp only[aR,bA,aH,aO,Nat.succ_mul]at h2⊢;omega
def DT {w:cu}(h:w.fit):(aR [44] w.feats).length<=6291462:=by
 have h1:=lf 44 1048576 w.feats h.1.2;have h2:=eu (1048576+1) h.2.1;omega
def Ae {w:cu}(h:w.fit):(aR [44] w.feats).length<=78:=by
 have h1:=lf 44 12 w.feats h.2.2;have h2:=eu (12+1) h.2.1;omega
def kP (w:cu):ak:=b9 (nR w)
def yS {w:cu}(h:w.fit):(kP w).length<=8400000:=by
 have h1:=DT h;have h2:=h.1.1;simp only[kP,b9,nR,aR,bA,aH,aO]
 grind [ma,kf,pj]
def pW {s:ak}(h:s.length<=1048576):(jC s).length<=1048590:=by
 unfold jC;split
 .simp
 .simp only[b9,aR,my,bA,aH,aO];omega
def JZ {s:ak}(h:s.length<=1048576):(xw s).length<=1048590:=by
 unfold xw;split
 .simp
 .simp only[b9,aR,fA,bA,aH,aO];omega
def rQ {α:Type}(q:α->ak)(B:Nat){l:List α}(h:∀x∈l,(q x).length<=B)(i:Nat):(((l.take i).map q).flatten).length<=i*B:=by
 have h1:=oy q B (l.take i) fun x hx=>h x (lU hx)
 have h2:=eu B (List.length_take_le i l);omega
theorem pI {α:Type} [Inhabited α](q:α->ak){l:List α}{i:Nat}(h:i<l.length):((l.take (i+1)).map q).flatten=((l.take i).map q).flatten++q l[i]! :=by
 rw[List.take_add_one,List.getElem?_eq_getElem h,List.map_append,List.flatten_append];simp[h]
def Hs {n:bT}(h:n.fit):(oL n).length<=27400000:=by
 have h1:=oy kP 8400000 n.any fun w hw=>yS (h.1.2 w hw)
 have h2:=eu 8400000 h.1.1;have h3:=pW h.2.1;have h4:=JZ h.2.2;have h5:(b9 [jB]).length=5:=rfl;unfold kP at h1
 grind [oL]
def II {b:jT}(h:b.sm):(vj b).length<=3145800:=by
 have h1:=pW h.2.2;have h2:=h.1;have h3:=h.2.1;simp only[vj,b9,aR,kX,bA,aH,aO];omega
def GJ {x:ct}(h:x.fit):(rN x).length<=8400000:=by
 have h1:=lf 32 1048576 ([dQ,x.name]++x.of) (by
  intro t ht;simp only[eV,eN,cD]at ht;rcases ht with rfl|rfl|ht
  .simp[dQ]
  .exact h.1.1
  .exact h.1.2.2 _ ht)
 have h2:=h.2
 grind [dQ,rN,b9]
def G2 {r:Rec}(h1:r.name.length<=1048576)(h2:r.v.sm):(qk r).length<=3145800:=by
 have h3:=B4 r.v h2;simp only[qk,b9,aR,fg,bA,aH,aO];omega
def dG (n:bT)(j:Nat):ak:=b9 [jB]++((n.any.take j).map kP).flatten
def nF {n:bT}{j:Nat}(h:j<n.any.length):dG n (j+1)=dG n j++kP n.any[j]! :=by grind [dG,pI,kP]
def Hq {n:bT}{j:Nat}(h:n.any.length<=j):oL n=dG n j++jC n.when'++xw n.option:=by
 rw[dG,eM h];rfl
def Hr {n:bT}(h:n.fit)(j:Nat)(hj:j<=3):(dG n j).length<=25200005:=by
 have h1:=rQ kP 8400000 (fun w hw=>yS (h.1.2 w hw)) j;have h2:=eu 8400000 hj;have h5:(b9 [jB]).length=5:=rfl
 grind [dG]
def jY (r:Rec)(i:Nat):ak:=qk r++((r.needs.take i).map oL).flatten
def xf (r:Rec)(i:Nat):ak:=jY r r.needs.length++((r.bars.take i).map vj).flatten
def z8 (r:Rec)(i:Nat):ak:=xf r r.bars.length++((r.feats.take i).map rN).flatten
def Ox (r:Rec):jY r 0=qk r:=by simp[jY]
def Oy (r:Rec):xf r 0=jY r r.needs.length:=by simp[xf]
def Oz (r:Rec):z8 r 0=xf r r.bars.length:=by simp[z8]
def EZ (r:Rec):z8 r r.feats.length=jm r:=by grind [z8,xf,jY,jm]
def nb {r:Rec}{i:Nat}(h:i<r.needs.length):jY r (i+1)=jY r i++oL r.needs[i]! :=by grind [jY,pI,oL]
def KY {r:Rec}{i:Nat}(h:i<r.bars.length):xf r (i+1)=xf r i++vj r.bars[i]! :=by grind [xf,pI,vj]
def KZ {r:Rec}{i:Nat}(h:i<r.feats.length):z8 r (i+1)=z8 r i++rN r.feats[i]! :=by grind [z8,pI,rN]
def EX {r:Rec}(h:r.fit)(i:Nat)(hi:i<=r.needs.length):(jY r i).length<=222400000:=by
 have a0:=G2 h.nm h.v;have a1:=rQ oL 27400000 (fun x hx=>Hs (h.n x hx)) i;have b1:=eu 27400000 (cC hi h.ns);simp only[jY,bA];omega
def EY {r:Rec}(h:r.fit)(i:Nat)(hi:i<=r.bars.length):(xf r i).length<=247600000:=by
 have a0:=EX h r.needs.length (aF _);have a1:=rQ vj 3145800 (fun x hx=>II (h.b x hx)) i;have b1:=eu 3145800 (cC hi h.bs);simp only[xf,bA];omega
def NG {r:Rec}(h:r.fit)(i:Nat)(hi:i<=r.feats.length):(z8 r i).length<=314800000:=by
 have a0:=EY h r.bars.length (aF _);have a1:=rQ rN 8400000 (fun x hx=>GJ (h.f x hx)) i;have b1:=eu 8400000 (cC hi h.fs);simp only[z8,bA];omega
def AG {r:Rec}(h:(cw r).1=0):x8 r:=by
 unfold cw at h;split at h
 .cases h
 split at h
 .cases h
 split at h
 .cases h
 rename_i a b c;split at h
 .rename_i d;exact absurd h d
 rename_i d;exact⟨⟨by simpa using a,by simpa using b⟩,⟨ae,ae⟩,J6 (Classical.not_not.1 d)⟩
def Tw (r:Rec):Int:=if(kv r).2≠0 then 0 else QA (kv r).1
def sN (l:List ak)(x:ak)(i:Nat):Int:=match(l.drop i).findIdx? (fun t=>decide (x=t))with
 |some k=>((i+k:Nat):Int)
 |none=>-1
def Mv {l:List ak}{x:ak}{i:Nat}(h:i<l.length)(he:x=l[i]!):sN l x i=(i:Nat):=by
 unfold sN;rw[jn h,List.findIdx?_cons]
 grind
def Mw {l:List ak}{x:ak}{i:Nat}(h:i<l.length)(he:¬x=l[i]!):sN l x i=sN l x (i+1):=by
 unfold sN;have:¬x=l[i]:=by simpa[h]using he
 rw[jn h,List.findIdx?_cons]
 grind
def Jo {l:List ak}{x:ak}{i:Nat}(h:l.length<=i):sN l x i=-1:=by
 unfold sN;rw[jR h];rfl
def Jp (l:List ak)(x:ak):decide (0<=sN l x 0)=decide (x∈l):=by
 grind [sN]
structure Ld where
 ls:List ak
 at':Nat
 deriving Inhabited,DecidableEq
def Ld.D (r:Ld):D:=.agg [.sl 1 (r.ls.map D.str),.int .i64 (r.at':Nat)]
def Ld.rest (r:Ld):List ak:=r.ls.drop r.at'
def Ld.sm (r:Ld):Prop:=(r.at'<=r.ls.length/\r.ls.length<=1048577)/\∀t∈r.ls,t.length<=1048576
def Ld.to (r:Ld)(q:List ak):Ld:=⟨r.ls,r.ls.length-q.length⟩
def iE (n:Int)(t:ak):List ak:=if n<0 then ai t 32 else nX n.toNat (ai t 32)
def yU (n:Nat)(op:Bool)(t:ak):iE (if op=true then(n:Int)else-1) t=dZ n op t:=by
 grind [iE,dZ]
def xu:Option (List ak×List ak)->D
 |none=>.au
 |some (l,_)=>.sl 1 (l.map D.str)
def Ld.after (r:Ld)(o:Option (List ak×List ak)):Ld:=match o with
 |none=>r
 |some _=>⟨r.ls,r.at'+1⟩
def Ld.KI {r:Ld}(h:r.ls.length<=r.at'):r.rest=[]:=jR h
def Ld.pT {r:Ld}(h:r.at'<r.ls.length):r.rest=r.ls[r.at']! ::r.ls.drop (r.at'+1):=by
 unfold Ld.rest;rw[jn h];simp[h]
def H7 (n:Nat)(op:Bool)(t:ak)(h:op=true->1<=n):1<=(dZ n op t).length:=by
 grind [ai,fm,dZ,nX]
def Bp {w:ak}{n:Nat}{op:Bool}{t:ak}(h:((¬(dZ n op t)[0]! =w\/((dZ n op t).length:Int)<1)\/((0:Int)<n/\¬((dZ n op t).length:Int)=n))\/[]∈dZ n op t)(h1:1<=(dZ n op t).length):lK w n op t=none:=by
 grind [lK]
def yp {w:ak}{n:Nat}{op:Bool}{t:ak}(h:(((dZ n op t)[0]! =w/\¬((dZ n op t).length:Int)<1)/\(¬(0:Int)<n\/((dZ n op t).length:Int)=n))/\¬[]∈dZ n op t):lK w n op t=some (dZ n op t):=by
 grind [lK]
def drop_one {α:Type} [Inhabited α]{l:List α}{n:Nat}(h:l.length=n+1):l.drop n=[l[n]!]/\l=l.take n++[l[n]!]:=by
 have h1:l.drop n=[l[n]!]:=by
  rw[jn ae,jR ae];simp[show n<l.length by omega]
 exact⟨h1,by rw[<-h1,List.take_append_drop]⟩
def anyL (t:ak):Option (List ak):=match lK ma 5 true t with
 |some l=>if tE l=true then some l else none
 |none=>none
def No (p:ak->Option (List ak))(ls:List ak):Prop:=∀t r,ls=t::r->p t=none
theorem eJ {w:ak}{n:Nat}{op:Bool}{ls l r:List ak}(h:cb w n op ls=some (l,r)):∃t,ls=t::r/\lK w n op t=some l:=by
 match ls,h with
 |[],h=>cases h
 |t::q,h=>
  grind [cb]
def Stop (s:Nat)(ls:List ak):Prop:=(s=2->No anyL ls/\No (lK my 2 true) ls)/\(s=2\/s=3->No (lK fA 2 false) ls)/\(s=5->No (lK my 2 true) ls)
def qf (m:List (Nat×bp))(l:Nat)(t:List UInt8):Prop:=(∃u,look m l=some (.bld none 0 u)/\t=[])\/(∃l2 u,look m l=some (.bld (some l2) t.length u)/\look m l2=some (.row t))
@[go_sem] def eU (m:List (Nat×bp))(l:Nat):List (Nat×bp):=match look m l with
 |some (.bld (some l2) _ _)=>cd m l2
 |_=>m
@[go_sem] def oe (m:List (Nat×bp))(l L:Nat)(t:List UInt8):List (Nat×bp):=(L,.row t)::cM (eU m l) l (.bld (some L) t.length true)
def TrW (aai:D)(s:List UInt8)(ds:List D)(st:St)(K:D->St->Prop):Prop:=∃l t,ds=[.ptr l 2 0 0,aai]/\qf st.m l t/\l<st.nx/\s≠[]/\t.length+s.length<=1099511627776/\K .any ⟨st.nx+1,oe st.m l st.nx (t++s)⟩
def Tz (ds:List D)(st:St)(K:D->St->Prop):Prop:=∃s,TrW (.str s) s ds st K
def Ty (ds:List D)(st:St)(K:D->St->Prop):Prop:=∃c,TrW (.int .u8 c.toNat) [c] ds st K
def Tx (ds:List D)(st:St)(K:D->St->Prop):Prop:=∃l t,ds=[.ptr l 2 0 0]/\qf st.m l t/\t≠[]/\K (.str t) ⟨st.nx,cd (eU st.m l) l⟩
def OV (Y:Ctx):Prop:=∀(ds:List D) (st:St) (K:D->St->Prop),Tz ds st K->Y.tr 489 ds st K
def O3 (Y:Ctx):Prop:=∀(ds:List D) (st:St) (K:D->St->Prop),Ty ds st K->Y.tr 664 ds st K
def OR (Y:Ctx):Prop:=∀(ds:List D) (st:St) (K:D->St->Prop),Tx ds st K->Y.tr 452 ds st K
def G6 (b a:ak)(l:List ak)(h:a≠[]):aR b (a::l)≠[]:=by
 match l with
 |[]=>exact h
 |c::r=>
  rw[fQ b a (c::r) aJ];intro e;have:=List.append_eq_nil_iff.1 e;exact h (List.append_eq_nil_iff.1 this.1).1
def y9 (ws:List ak)(t:ak):Prop:=(aR [32] ws≠[]/\ws.length<=1048600)/\(∀w∈ws,w.length<=2097200)/\t.length+(aR [32] ws).length+1<=1099511627776
def y9.mk {a:ak}{l:List ak}{t:ak}(h1:a≠[])(h2:l.length<=99)(h3:∀w∈a::l,w.length<=2097200)(h4:t.length<=1000000000):y9 (a::l) t:=by
 have h5:=lf 32 2097200 (a::l) h3;have h6:(a::l).length<=100:=by simp only[aH];omega
 have h7:=eu (2097200+1) h6;exact⟨⟨G6 _ _ _ h1,ae⟩,h3,ae⟩
def OP (Y:Ctx):Prop:=∀(ws:List ak) (t:ak) (l lw nx:Nat) (m:List (Nat×bp)) (K:D->St->Prop),qf m l t->look m lw=some (.buf 1 (ws.map D.str))->l<nx->lw<nx->y9 ws t->
 K (.tup []) ⟨nx+1,oe (cd m lw) l nx (t++b9 ws)⟩->Y.tr 450 [.ptr l 2 0 0,.own lw 1 0 ws.length] ⟨nx,m⟩ K
def sR {m:List (Nat×bp)}{l L:Nat}{t:List UInt8}(h:l≠L):look (oe m l L t) l=some (.bld (some L) t.length true)/\look (oe m l L t) L=some (.row t):=by
 constructor
 .simp only[oe,look,aj (fun e=>h (Eq.symm e))]
  haveI:cP:={gd:=fun _=>True,le:=fun _ _ _ _ _=>trivial}
  rw[bU,aw rfl]
 .simp only[oe,look,aw]
def LZ {m:List (Nat×bp)}{l L:Nat}{t:List UInt8}(h:l≠L):qf (oe m l L t) l t:=.inr ⟨L,true,sR h⟩
end Go.Abs
section
namespace Go.Abs
variable {Y:Ctx}(hm:(Y.at 0).cQ)
def ah {p:Prop}(h:p:=by exact rfl):p:=h
def lZ {p:Prop}(h:p:=by repeat(first|exact dr.nil|refine dr.un ?_|refine dr.eq aT ?_)):p:=h
def eL {p:Prop}(h:p:=by first|exact rfl|exact bj (fun _=>rfl) _):p:=h
def fF {p:Prop}(h:p:=by repeat(first|exact dr.nil|refine dr.un ?_|refine dr.eq aT ?_|refine dr.nl aT aT ?_)):p:=h
def js {p:Prop}(h:p:=by repeat' first|exact trivial|exact rfl|refine And.intro ?_ ?_):p:=h
def uk {p:Prop}(h:p:=by repeat' first|exact trivial|exact rfl|exact aF _|refine And.intro ?_ ?_):p:=h
def qb {p:Prop}(h:p:=by repeat(first|exact bg.nil|refine bg.gH aT aT (by first|exact rfl|exact bj (fun _=>rfl) _) ?_|refine bg.Ih aT aT aT ?_|refine bg.idi aT aT aT aT ?_)):p:=h
def b0 {p:Prop} [Decidable p]:(decide p=true)=p:=a8
def b1 {p:Prop} [Decidable p]:decide p=false↔¬p:=bC
def b2 (b:Bool):((!b)=true)=(b=false):=bP b
def b3 (b:Bool):((!b)=false)=(b=true):=cL b
def b4 (b:Bool):(¬(b=false))=(b=true):=Bool.not_eq_false b
def b5 (a b:Bool):((a ||b)=true)=(a=true\/b=true):=dk a b
end Go.Abs
namespace Go.Abs
variable {Y:Ctx}(hm:(Y.at 0).cQ)
abbrev fo (Y:Ctx)(a:aN)(d:D)(ds:List D):Prop:=ca (Y.at 0) a.body (Pl a d) (gh a ds) ⟨0,[]⟩
def cv {a:aN}{d d2:D}{e:Ex}{nx:Nat}{m:List (Nat×bp)}{env:List bE}(h:d2=d)(he:e.home:=by exact trivial)(h1:n4 m env a.res:=by exact uk)(h2:yZ a env m:=by exact js)(h3:Ib a env m=d2:=by exact rfl):Pl a d e env ⟨nx,m⟩:=Qs he h1 h2 (h3.trans h)
def cz {a:aN}{d d2:Bool}{e:Ex}{nx:Nat}{m:List (Nat×bp)}{env:List bE}(h:d2=d)(he:e.home:=by exact trivial)(h1:n4 m env a.res:=by exact uk)(h2:yZ a env m:=by exact js)(h3:Ib a env m=.bool d2:=by exact rfl):Pl a (.bool d) e env ⟨nx,m⟩:=cv (ar _ h) he h1 h2 h3
def du {a:aN}{d d2:List UInt8}{e:Ex}{nx:Nat}{m:List (Nat×bp)}{env:List bE}(h:d2=d)(he:e.home:=by exact trivial)(h1:n4 m env a.res:=by exact uk)(h2:yZ a env m:=by exact js)(h3:Ib a env m=.str d2:=by exact rfl):Pl a (.str d) e env ⟨nx,m⟩:=cv (ar _ h) he h1 h2 h3
def jj {a:aN}{d d2:Int}{e:Ex}{nx:Nat}{m:List (Nat×bp)}{env:List bE}(h:d2=d)(he:e.home:=by exact trivial)(h1:n4 m env a.res:=by exact uk)(h2:yZ a env m:=by exact js)(h3:Ib a env m=.int .i64 d2:=by exact rfl):Pl a (.int .i64 d) e env ⟨nx,m⟩:=cv (ar _ h) he h1 h2 h3
def fP {lo c nx nx2:Nat}{env env2:List bE}{m m2:List (Nat×bp)}(σ:List (Nat×Nat))(hc:nx2=c:=by exact ah)(h:gN lo c σ=true:=by exact ah)(he:dr lo σ env env2:=by exact fF)(hm:bg lo c σ m m2:=by exact qb):aW lo env ⟨nx,m⟩ env2 ⟨nx2,m2⟩:=aW.to σ hc h he hm
def n8 {Y:Ctx}{draw f:Bool}{r:List GI}{env rs:List bE}{nx:Nat}{m:List (Nat×bp)}{K:List bE->St->Prop}{g:Option (Nat×Bool)}{x y:Src}{fx fy:Bool}{a b:List UInt8}(h:aB Y draw r env (⟨f,.str (a++b)⟩::rs) nx m K)(hg:GF rs g f:=by first|exact rfl|exact⟨_,_,rfl,rfl⟩)(hx:cq env rs x=⟨fx,.str a⟩:=by exact rfl)(hy:cq env rs y=⟨fy,.str b⟩:=by exact rfl)(kx:f=true->fx=true:=by first|exact fun _=>rfl|exact fun h=>h|(intro h;simp_all))(ky:f=true->fy=true:=by first|exact fun _=>rfl|exact fun h=>h|(intro h;simp_all))(hb:f=true->a.length+b.length<=9223372036854775807:=by intro _;simp only[bA,aH,aO];omega):aB Y draw (⟨.bin .add x y,g⟩::r) env rs nx m K:=eB h hg hx hy kx ky hb
end Go.Abs
namespace Go.Abs
variable {Y:Ctx}(hm:(Y.at 0).cQ)
def jS {lo c l:Nat}{σ:List (Nat×Nat)}{m r:List (Nat×bp)}{b:bp}(h:bg lo c σ m r)(hh:bg lo c σ m [(l,b)]:=by(first|refine bg.gH aT aT (by first|exact rfl|exact bj (fun _=>rfl) _) ?_|refine bg.Ih aT aT aT ?_|refine bg.idi aT aT aT aT ?_)<;>exact bg.nil):bg lo c σ m ((l,b)::r):=⟨hh.1,h⟩
end Go.Abs
namespace Go.Abs
variable {Y:Ctx}(hm:(Y.at 0).cQ)
section
variable {Y:Ctx} {Q:Ex->List bE->St->Prop}
def cmN {env rs:List bE}:IQ env rs []=env:=rfl
def cmC {s p:Nat}{r:List (Nat×Nat)}{env rs env1 env':List bE}{f:Bool}{d:D}(e:cq [] rs (.l p)=⟨f,d⟩)(hs:env.set s ⟨f,d⟩=env1)(h:IQ env1 rs r=env'):IQ env rs ((s,p)::r)=env':=by
 simp only[IQ,e,hs,h]
def rrrg {draw:Bool}{cm:List (Nat×Nat)}{b:AC}{nx nx':Nat}{m:List (Nat×bp)}{rs env gh env':List bE}(h:ca Y b Q env' ⟨nx',m⟩)
  (he:IQ env rs cm=env':=by repeat(first|apply cmC aT (by simp only[List.set_cons_zero,List.set_cons_succ];exact rfl)|with_reducible exact cmN)) (hn:nx+rs.length=nx':=by simp only[aH,aO,Nat.reduceAdd];exact rfl):aB Y draw [] gh rs nx m (fun vs st'=>ca Y b Q (gz env vs cm) st'):=
 Ns h he hn
def rrrh {draw:Bool}{cm:List (Nat×Nat)}{nx nx':Nat}{m:List (Nat×bp)}{rs env gh env':List bE}(h:Q .normal env' ⟨nx',m⟩)
  (he:IQ env rs cm=env':=by repeat(first|apply cmC aT (by simp only[List.set_cons_zero,List.set_cons_succ];exact rfl)|with_reducible exact cmN)) (hn:nx+rs.length=nx':=by simp only[aH,aO,Nat.reduceAdd];exact rfl):aB Y draw [] gh rs nx m (fun vs st'=>Q .normal (gz env vs cm) st'):=
 Nt h he hn
end
def Fam (_:Prop):Type:=Unit
def uz {q:Prop}:Fam q:=()
structure Hid (q:Prop)(f:Fam q):Prop where
 val:q
section
variable {Y:Ctx} {draw b1:Bool} {r:List GI} {env rs:List bE} {nx n0 n1:Nat} {m:List (Nat×bp)} {K:List bE->St->Prop} {g:Option (Nat×Bool)} {x0 x1 x2:Src}
def tg0 {Y:Ctx}{a:AC}{Q:Ex->List bE->St->Prop}{env:List bE}{st:St}(h:ca Y a Q env st):ca Y a Q env st:=h
def tg1 (h:aB Y draw (⟨.mv x0,g⟩::r) env rs nx m K):aB Y draw (⟨.mv x0,g⟩::r) env rs nx m K:=h
def tg2 (h:aB Y draw [] env rs nx m K):aB Y draw [] env rs nx m K:=h
def tg3 (h:aB Y draw (⟨.fa n0 x1,g⟩::r) env rs nx m K):aB Y draw (⟨.fa n0 x1,g⟩::r) env rs nx m K:=h
def tg4 (h:aB Y draw (⟨.ld n0 b1 x2,g⟩::r) env rs nx m K):aB Y draw (⟨.ld n0 b1 x2,g⟩::r) env rs nx m K:=h
def tg5 (h:aB Y draw (⟨.bin .lss x0 x1,g⟩::r) env rs nx m K):aB Y draw (⟨.bin .lss x0 x1,g⟩::r) env rs nx m K:=h
def tg6 (h:aB Y draw (⟨.bin .eql x0 x1,g⟩::r) env rs nx m K):aB Y draw (⟨.bin .eql x0 x1,g⟩::r) env rs nx m K:=h
def tg7 (h:aB Y draw (⟨.bin .add x0 x1,g⟩::r) env rs nx m K):aB Y draw (⟨.bin .add x0 x1,g⟩::r) env rs nx m K:=h
def tg8 (h:aB Y draw (⟨.bin .gtr x0 x1,g⟩::r) env rs nx m K):aB Y draw (⟨.bin .gtr x0 x1,g⟩::r) env rs nx m K:=h
def tg9 (h:aB Y draw (⟨.bin .neq x0 x1,g⟩::r) env rs nx m K):aB Y draw (⟨.bin .neq x0 x1,g⟩::r) env rs nx m K:=h
def tg10 (h:aB Y draw (⟨.bin .leq x0 x1,g⟩::r) env rs nx m K):aB Y draw (⟨.bin .leq x0 x1,g⟩::r) env rs nx m K:=h
def tg11 (h:aB Y draw (⟨.bin .geq x0 x1,g⟩::r) env rs nx m K):aB Y draw (⟨.bin .geq x0 x1,g⟩::r) env rs nx m K:=h
def tg12 (h:aB Y draw (⟨.bin .sub x0 x1,g⟩::r) env rs nx m K):aB Y draw (⟨.bin .sub x0 x1,g⟩::r) env rs nx m K:=h
def tg13 (h:aB Y draw (⟨.ext x0 n1,g⟩::r) env rs nx m K):aB Y draw (⟨.ext x0 n1,g⟩::r) env rs nx m K:=h
def tg14 (h:aB Y draw (⟨.pick x0 x1 (.c (.bool false)),g⟩::r) env rs nx m K):aB Y draw (⟨.pick x0 x1 (.c (.bool false)),g⟩::r) env rs nx m K:=h
def tg15 (h:aB Y draw (⟨.pick x0 (.c (.bool true)) x1,g⟩::r) env rs nx m K):aB Y draw (⟨.pick x0 (.c (.bool true)) x1,g⟩::r) env rs nx m K:=h
def tg16 (h:aB Y draw (⟨.un .not x0,g⟩::r) env rs nx m K):aB Y draw (⟨.un .not x0,g⟩::r) env rs nx m K:=h
def tg17 (h:aB Y draw (⟨.nilck x0,g⟩::r) env rs nx m K):aB Y draw (⟨.nilck x0,g⟩::r) env rs nx m K:=h
def tg18 (h:aB Y draw (⟨.box n0 x1,g⟩::r) env rs nx m K):aB Y draw (⟨.box n0 x1,g⟩::r) env rs nx m K:=h
def tg19 (h:aB Y draw (⟨.ia n0 x1 x2,g⟩::r) env rs nx m K):aB Y draw (⟨.ia n0 x1 x2,g⟩::r) env rs nx m K:=h
def tg20 (h:aB Y draw (⟨.ixS x0 x1,g⟩::r) env rs nx m K):aB Y draw (⟨.ixS x0 x1,g⟩::r) env rs nx m K:=h
def tg21 (h:aB Y draw (⟨.st n0 x1 x2,g⟩::r) env rs nx m K):aB Y draw (⟨.st n0 x1 x2,g⟩::r) env rs nx m K:=h
def tg22 (h:aB Y draw (⟨.len x0,g⟩::r) env rs nx m K):aB Y draw (⟨.len x0,g⟩::r) env rs nx m K:=h
def tg23 (h:aB Y draw (⟨.lenS x0,g⟩::r) env rs nx m K):aB Y draw (⟨.lenS x0,g⟩::r) env rs nx m K:=h
def tg24 (h:aB Y draw (⟨.sa x0,g⟩::r) env rs nx m K):aB Y draw (⟨.sa x0,g⟩::r) env rs nx m K:=h
def tg25 (h:aB Y draw (⟨.s2b x0,g⟩::r) env rs nx m K):aB Y draw (⟨.s2b x0,g⟩::r) env rs nx m K:=h
def tg26 (h:aB Y draw (⟨.mkB,g⟩::r) env rs nx m K):aB Y draw (⟨.mkB,g⟩::r) env rs nx m K:=h
def tg27 (h:aB Y draw (⟨.app n0 x1 x2,g⟩::r) env rs nx m K):aB Y draw (⟨.app n0 x1 x2,g⟩::r) env rs nx m K:=h
end
def az {p q:Prop}(k:q)(h:Hid q uz->p:=by
 intro h;first
 |((with_reducible refine tg0 ?_);first|with_reducible exact av h.1|with_reducible exact K9 h.1|with_reducible exact DX h.1|with_reducible exact QI h.1|with_reducible exact Ia h.1|with_reducible exact wp_ret h.1|with_reducible exact wp_skip h.1|with_reducible exact DW h.1|with_reducible exact wp_exit h.1|with_reducible exact Cd h.1 hm|with_reducible exact H9 h.1 hm)
 |((with_reducible refine tg1 ?_);(refine r_mv ?_;exact h.1))
 |((with_reducible refine tg2 ?_);first|(refine rrrh ?_;exact h.1)|(refine rrrg ?_;exact h.1))
 |((with_reducible refine tg3 ?_);first|(refine Tg ?_;exact h.1)|(refine Th ?_;exact h.1))
 |((with_reducible refine tg4 ?_);first|exact bZ (.int _ _) h.1|exact bZ (.str _) h.1|(refine b6 (v:=.str _) ?_;exact h.1)|(refine jx (v:=.str _) ?_;exact h.1)|(refine b6 (v:=.int _ _) ?_;exact h.1)|(refine jx (v:=.int _ _) ?_;exact h.1)|exact bZ (.sl _ _) h.1|exact bZ (.own _ _ _ _) h.1|exact bZ (.bool _) h.1|(refine b6 (v:=.sl _ _) ?_;exact h.1)|(refine jx (v:=.sl _ _) ?_;exact h.1)|(refine b6 (v:=.bool _) ?_;exact h.1)|(refine jx (v:=.bool _) ?_;exact h.1)|exact dj h.1|exact bZ .au h.1)
 |((with_reducible refine tg5 ?_);first|(refine Qk ?_;exact h.1)|(refine Ql ?_;exact h.1))
 |((with_reducible refine tg6 ?_);first|(refine Qb ?_;exact h.1)|(refine Qc ?_;exact h.1))
 |((with_reducible refine tg7 ?_);(refine Nn ?_;exact h.1))
 |((with_reducible refine tg8 ?_);first|(refine Du ?_;exact h.1)|(refine Dv ?_;exact h.1))
 |((with_reducible refine tg9 ?_);first|(refine Qm ?_;exact h.1)|(refine Qn ?_;exact h.1))
 |((with_reducible refine tg10 ?_);first|(refine Qi ?_;exact h.1)|(refine Qj ?_;exact h.1))
 |((with_reducible refine tg11 ?_);first|(refine Qd ?_;exact h.1)|(refine Qe ?_;exact h.1))
 |((with_reducible refine tg12 ?_);(refine r5 ?_;exact h.1))
 |((with_reducible refine tg13 ?_);first|exact hX (.int _ _) h.1|exact hX (.str _) h.1|exact hX (.bool _) h.1)
 |((with_reducible refine tg14 ?_);(refine Te ?_;exact h.1))
 |((with_reducible refine tg15 ?_);(refine BA ?_;exact h.1))
 |((with_reducible refine tg16 ?_);(refine Tm ?_;exact h.1))
 |((with_reducible refine tg17 ?_);first|(refine Qo ?_;exact h.1)|(refine Qp ?_;exact h.1))
 |((with_reducible refine tg18 ?_);(refine Tf ?_;exact h.1))
 |((with_reducible refine tg19 ?_);first|exact cr _ h.1|exact Kr h.1|exact mZ _ h.1|exact Qf h.1)
 |((with_reducible refine tg20 ?_);first|exact ED _ h.1|exact Qg h.1)
 |((with_reducible refine tg21 ?_);exact aQ _ h.1)
 |((with_reducible refine tg22 ?_);first|exact Kv fun a=>(h.1:_->_) (a rfl rfl)|exact Kw fun a=>(h.1:_->_) (a rfl rfl)|(refine Qh ?_;exact h.1))
 |((with_reducible refine tg23 ?_);exact Kx fun a=>(h.1:_->_) (a rfl rfl))
 |((with_reducible refine tg24 ?_);(refine To ?_;exact h.1))
 |((with_reducible refine tg25 ?_);(refine Tp ?_;exact h.1))
 |((with_reducible refine tg26 ?_);(refine Tj ?_;exact h.1))
 |((with_reducible refine tg27 ?_);(refine jg ?_;exact h.1))
 |with_reducible exact BQ.normal h.1|with_reducible exact BQ.ret h.1|with_reducible exact LQ.normal h.1|with_reducible exact LQ.out h.1|with_reducible exact LQ.ret h.1|with_reducible exact BQ.out h.1|with_reducible exact Cm.normal h.1|with_reducible exact Cm.ret h.1|with_reducible exact Cn.normal h.1|with_reducible exact Cn.ret h.1|with_reducible exact Cm.out h.1|with_reducible exact Cn.out h.1|with_reducible exact CQ.normal h.1|with_reducible exact CQ.ret h.1|with_reducible exact CQ.other h.1|((with_reducible refine BQ.other ?_ h.1);exact rfl)|((with_reducible refine LQ.other ?_ h.1);exact rfl)|((with_reducible refine Cm.other ?_ h.1);exact rfl)|((with_reducible refine Cn.other ?_ h.1);exact rfl)):p:=h ⟨k⟩
def nk {p q:Prop}(k:q)(h:Hid q uz->p:=by intro h;first|exact Kv fun _=>h.1|exact Kx fun _=>h.1|exact Kw fun _=>h.1):p:=h ⟨k⟩
section
variable {Y:Ctx} {Q:Ex->List bE->St->Prop}
end
def ed:(∀{p:Prop} [Decidable p],(decide p=true)=p)/\(∀{p:Prop} [Decidable p],decide p=false↔¬p)/\(∀b:Bool,((!b)=true)=(b=false))/\(∀b:Bool,((!b)=false)=(b=true))/\(∀b:Bool,(¬(b=false))=(b=true))/\(∀a b:Bool,((a ||b)=true)=(a=true\/b=true))/\(∀{a b:Bool},(a ||b)=false↔a=false/\b=false)/\(∀a b:Bool,((a&&b)=true)=(a=true/\b=true))/\(∀{a b:Bool},(a&&b)=false↔a=false\/b=false)/\(∀b:Bool,(¬(b=true))=(b=false))/\(∀b:Bool,(true&&b)=b)/\∀b:Bool,(b&&true)=b:=
 ⟨a8,bC,bP,cL,Bool.not_eq_false,dk,dT,bt,dF,Bool.not_eq_true,iF,kE⟩
section
variable {Y:Ctx} {Q:Ex->List bE->St->Prop} {env:List bE} {st:St}
def dR {c:Src}{a b r:AC}{t:Bool}{c1 c2:Prop}(h1:c1->ca Y (.seq a r) Q env st)(h2:c2->ca Y (.seq b r) Q env st)(hc:cq env [] c=⟨true,.bool t⟩:=by exact rfl)(e1:t=true->c1:=by intro h;(try simp only[ed]at h);exact h)(e2:t=false->c2:=by intro h;(try simp only[ed]at h);exact h):ca Y (.seq (.cond c a b) r) Q env st:=ax (fun h=>h1 (e1 h)) (fun h=>h2 (e2 h)) hc
def iR {c:Src}{a b:AC}{t:Bool}{c1 c2:Prop}(h1:c1->ca Y a Q env st)(h2:c2->ca Y b Q env st)(hc:cq env [] c=⟨true,.bool t⟩:=by exact rfl)(e1:t=true->c1:=by intro h;(try simp only[ed]at h);exact h)(e2:t=false->c2:=by intro h;(try simp only[ed]at h);exact h):ca Y (.cond c a b) Q env st:=wp_cond (fun h=>h1 (e1 h)) (fun h=>h2 (e2 h)) hc
end
end Go.Abs
namespace Go.Abs
variable {Y:Ctx}(hm:(Y.at 0).cQ)
def aA {p q:Prop}(k:q)(h:Hid q uz->p:=by intro h;(iterate 2 refine az ?_);exact h.1):p:=h ⟨k⟩
def aG {p q:Prop}(k:q)(h:Hid q uz->p:=by intro h;(iterate 3 refine az ?_);exact h.1):p:=h ⟨k⟩
def aK {p q:Prop}(k:q)(h:Hid q uz->p:=by intro h;(iterate 4 refine az ?_);exact h.1):p:=h ⟨k⟩
def bm {p q:Prop}(k:q)(h:Hid q uz->p:=by intro h;(iterate 5 refine az ?_);exact h.1):p:=h ⟨k⟩
def bh {p q:Prop}(k:q)(h:Hid q uz->p:=by intro h;(iterate 6 refine az ?_);exact h.1):p:=h ⟨k⟩
def bI {p q:Prop}(k:q)(h:Hid q uz->p:=by intro h;(iterate 7 refine az ?_);exact h.1):p:=h ⟨k⟩
def cH {p q:Prop}(k:q)(h:Hid q uz->p:=by intro h;(iterate 8 refine az ?_);exact h.1):p:=h ⟨k⟩
def ez {p q:Prop}(k:q)(h:Hid q uz->p:=by intro h;(iterate 9 refine az ?_);exact h.1):p:=h ⟨k⟩
def lV {p q:Prop}(k:q)(h:Hid q uz->p:=by intro h;(iterate 10 refine az ?_);exact h.1):p:=h ⟨k⟩
def fJ {p q:Prop}(k:q)(h:Hid q uz->p:=by intro h;(iterate 11 refine az ?_);exact h.1):p:=h ⟨k⟩
def jD {p q:Prop}(k:q)(h:Hid q uz->p:=by intro h;(iterate 12 refine az ?_);exact h.1):p:=h ⟨k⟩
def nT {p q:Prop}(k:q)(h:Hid q uz->p:=by intro h;(iterate 13 refine az ?_);exact h.1):p:=h ⟨k⟩
def y6 {p q:Prop}(k:q)(h:Hid q uz->p:=by intro h;(iterate 14 refine az ?_);exact h.1):p:=h ⟨k⟩
def Cl {p q:Prop}(k:q)(h:Hid q uz->p:=by intro h;(iterate 15 refine az ?_);exact h.1):p:=h ⟨k⟩
def y7 {p q:Prop}(k:q)(h:Hid q uz->p:=by intro h;(iterate 16 refine az ?_);exact h.1):p:=h ⟨k⟩
def Ll {p q:Prop}(k:q)(h:Hid q uz->p:=by intro h;(iterate 17 refine az ?_);exact h.1):p:=h ⟨k⟩
def Lm {p q:Prop}(k:q)(h:Hid q uz->p:=by intro h;(iterate 18 refine az ?_);exact h.1):p:=h ⟨k⟩
def TH {p q:Prop}(k:q)(h:Hid q uz->p:=by intro h;(iterate 24 refine az ?_);exact h.1):p:=h ⟨k⟩
def OD {p q:Prop}(k:q)(h:Hid q uz->p:=by intro h;(iterate 25 refine az ?_);exact h.1):p:=h ⟨k⟩
def TI {p q:Prop}(k:q)(h:Hid q uz->p:=by intro h;(iterate 26 refine az ?_);exact h.1):p:=h ⟨k⟩
def Ln {p q:Prop}(k:q)(h:Hid q uz->p:=by intro h;(iterate 28 refine az ?_);exact h.1):p:=h ⟨k⟩
def OE {p q:Prop}(k:q)(h:Hid q uz->p:=by intro h;(iterate 36 refine az ?_);exact h.1):p:=h ⟨k⟩
end Go.Abs
namespace Go.Abs
variable {Y:Ctx}(hm:(Y.at 0).cQ)
abbrev rm:List Sh:=[.a,.a,.a,.a,.a,.a,.sl 3 [.sl 4 [.a,.a,.sl 1 [.a],.a],.a,.a],.sl 3 [.a,.a,.a],.sl 2 [.a,.sl 1 [.a]]]
abbrev s0:Src:=.s 0
abbrev s1:Src:=.s 1
abbrev s2:Src:=.s 2
abbrev s3:Src:=.s 3
abbrev s4:Src:=.s 4
abbrev s5:Src:=.s 5
abbrev s6:Src:=.s 6
abbrev s7:Src:=.s 7
abbrev s8:Src:=.s 8
abbrev s9:Src:=.s 9
abbrev mL:Src:=.s 10
abbrev pU:Src:=.s 11
abbrev m6:Src:=.s 12
abbrev rq:Src:=.s 13
abbrev rr:Src:=.s 14
abbrev tP:Src:=.s 15
abbrev An:Src:=.s 16
abbrev yz:Src:=.s 17
abbrev yA:Src:=.s 18
abbrev HQ:Src:=.s 19
abbrev DI:Src:=.s 20
abbrev Qt:Src:=.s 21
abbrev QY:Src:=.s 22
abbrev s23:Src:=.s 23
abbrev Qu:Src:=.s 24
abbrev QZ:Src:=.s 25
abbrev Ts:Src:=.s 26
abbrev s27:Src:=.s 27
abbrev s28:Src:=.s 28
abbrev s29:Src:=.s 29
abbrev Ot:Src:=.s 30
abbrev s31:Src:=.s 31
abbrev s32:Src:=.s 32
abbrev s33:Src:=.s 33
abbrev s34:Src:=.s 34
abbrev s35:Src:=.s 35
abbrev s36:Src:=.s 36
abbrev s37:Src:=.s 37
abbrev s38:Src:=.s 38
abbrev l0:Src:=.l 0
abbrev l1:Src:=.l 1
abbrev l2:Src:=.l 2
abbrev l3:Src:=.l 3
abbrev l4:Src:=.l 4
abbrev l5:Src:=.l 5
abbrev l6:Src:=.l 6
abbrev l7:Src:=.l 7
abbrev l8:Src:=.l 8
abbrev l9:Src:=.l 9
abbrev l10:Src:=.l 10
abbrev kl:Src:=.l 11
abbrev mG:Src:=.l 12
abbrev nQ:Src:=.l 13
abbrev n7:Src:=.l 14
abbrev pL:Src:=.l 15
abbrev si:Src:=.l 16
abbrev xd:Src:=.l 17
abbrev yg:Src:=.l 18
abbrev Bc:Src:=.l 19
abbrev C1:Src:=.l 20
abbrev En:Src:=.l 21
abbrev Ii:Src:=.l 22
abbrev MI:Src:=.l 23
abbrev MJ:Src:=.l 24
abbrev Oi:Src:=.l 25
abbrev PM:Src:=.l 26
abbrev QS:Src:=.l 27
abbrev QT:Src:=.l 28
abbrev QU:Src:=.l 29
abbrev S6:Src:=.l 30
abbrev l31:Src:=.l 31
abbrev l32:Src:=.l 32
abbrev l33:Src:=.l 33
abbrev l34:Src:=.l 34
abbrev gm (x:Src):GI:=⟨.mv x,none⟩
abbrev gn (x:aC):GI:=⟨x,none⟩
abbrev i6 (n:Int):Src:=.c (.int .i64 n)
abbrev cs (s:List UInt8):Src:=.c (.str s)
abbrev gd (x:Src):GI:=⟨.ld 1 false x,none⟩
abbrev gk (n:Nat)(b:Bool)(x:Src):GI:=⟨.ld n b x,none⟩
abbrev gf (n:Nat)(x:Src):GI:=⟨.fa n x,none⟩
abbrev gl (x:Src):GI:=⟨.len x,none⟩
abbrev ga (n:Nat)(x y:Src):GI:=⟨.ia n x y,none⟩
abbrev ge (x:Src)(n:Nat):GI:=⟨.ext x n,none⟩
abbrev gb (n:Nat)(x:Src):GI:=⟨.box n x,none⟩
abbrev gc (x:Src):GI:=⟨.nilck x,none⟩
abbrev gt (n:Nat)(x y:Src):GI:=⟨.st n x y,none⟩
abbrev gx (n:Nat)(x:List Src)(y:List (List Sh)):GI:=⟨.call n x y,none⟩
abbrev rg (x:List GI)(y:List (Nat×Nat)):AC:=.reg false x y
abbrev rt (x:List GI)(y:List (Nat×Nat)):AC:=.reg true x y
abbrev rz (x y:Src):aC:=.bin .lss x y
abbrev dP (x y:Src):aC:=.bin .eql x y
abbrev D4 (x y:Src):aC:=.bin .add x y
abbrev ew (x y:Src):aC:=.bin .gtr x y
abbrev gO (x y:Src):aC:=.bin .neq x y
abbrev oc (x y:Src):aC:=.bin .leq x y
abbrev vg (x y:Src):aC:=.bin .geq x y
abbrev mb (x y:Src):aC:=.bin .sub x y
abbrev IE (x y:Src):aC:=.bin .and x y
abbrev eS:Src:=.c (.bool false)
abbrev xc:Src:=.c (.bool true)
abbrev cse:Src:=.c (.str [])
abbrev b7:Src:=.c (.int .i64 0)
abbrev cN:Src:=.c (.int .i64 1)
abbrev mi:Src:=.c (.int .i64 2)
abbrev k9:Src:=.c (.int .i64 3)
abbrev ud:Src:=.c (.int .i64 4)
abbrev Ek:Src:=.c (.int .i64 5)
abbrev Al:Src:=.c (.int .i64 6)
abbrev PH:Src:=.c (.int .i64 7)
abbrev Jn:Src:=.c (.int .i64 8)
abbrev El:Src:=.c (.int .i64 9)
abbrev gmt (n:Nat)(x:Src):GI:=⟨.mv x,some (n,true)⟩
abbrev pJ (n:Nat)(x:Src):GI:=⟨.ld 1 false x,some (n,true)⟩
abbrev rp (n o:Nat)(x:Src):GI:=⟨.fa o x,some (n,true)⟩
abbrev dC (n:Nat)(x:aC):GI:=⟨x,some (n,true)⟩
abbrev fZ (n:Nat)(x:Src):GI:=⟨.mv x,some (n,false)⟩
abbrev mg (n:Nat)(x:Src):GI:=⟨.ld 1 false x,some (n,false)⟩
abbrev mh (n o:Nat)(x:Src):GI:=⟨.fa o x,some (n,false)⟩
abbrev dc (n:Nat)(x:aC):GI:=⟨x,some (n,false)⟩
abbrev sq (a b:AC):AC:=.seq a b
abbrev CW (x:Src):AC:=.seq (.reg false [⟨.mv x,none⟩] [(1,0)]) .ret
abbrev qj (c x:Src):AC:=.cond c (.seq (.reg false [⟨.mv x,none⟩] [(1,0)]) .ret) .skip
abbrev di:List (List Sh):=[[.a]]
abbrev ha2:List (List Sh):=[[.a,.a]]
abbrev PE:List (List Sh):=[[.a,.a,.a,.a,.a]]
abbrev PF:List (List Sh):=[[.a,.a,.a,.a,.a,.a,.a]]
abbrev iZ:List (List Sh):=[[.a],[.a]]
abbrev QQ:List (List Sh):=[[.a],[.a],[.a]]
abbrev hb4:List (List Sh):=[[.a],[.a],[.a],[.a]]
abbrev gR (c x:Src):GI:=⟨.pick c (.c (.bool true)) x,none⟩
abbrev iM (c x:Src):GI:=⟨.pick c x (.c (.bool false)),none⟩
abbrev QP (n:Nat)(c x:Src):GI:=⟨.pick c (.c (.bool true)) x,some (n,true)⟩
abbrev Ei (n:Nat)(c x:Src):GI:=⟨.pick c x (.c (.bool false)),some (n,false)⟩
abbrev bo (x y:Src):GI:=⟨.bin .lss x y,none⟩
abbrev aU (x y:Src):GI:=⟨.bin .eql x y,none⟩
abbrev ay (x y:Src):GI:=⟨.bin .add x y,none⟩
abbrev eI (x y:Src):GI:=⟨.bin .gtr x y,none⟩
abbrev dd (x y:Src):GI:=⟨.bin .neq x y,none⟩
abbrev zF (x y:Src):GI:=⟨.bin .leq x y,none⟩
abbrev jf (x y:Src):GI:=⟨.bin .geq x y,none⟩
abbrev gA (x y:Src):GI:=⟨.bin .sub x y,none⟩
abbrev jG (c:Src)(n:Nat):AC:=.cond c .skip (.exit n)
abbrev i8 (n:Int):Src:=.c (.int .u8 n)
abbrev i3 (n:Int):Src:=.c (.int .i32 n)
abbrev iu (n:Int):Src:=.c (.int .u64 n)
abbrev uE (x:Src):GI:=⟨.lenS x,none⟩
abbrev p8 (x:Src):GI:=⟨.un .not x,none⟩
abbrev Mm (x y:Src):GI:=⟨.ixS x y,none⟩
abbrev r1 (x:List GI)(a b:Nat):AC:=.reg false x [(a,b)]
abbrev r2 (x:List GI)(a b:Nat):AC:=.reg true x [(a,b)]
abbrev mJ:List Cr:=[⟨1,none⟩]
end Go.Abs
end
namespace Go.Abs
variable {Y:Ctx}(hm:(Y.at 0).cQ)
def HJ:aN:=⟨2,7,[⟨2,none⟩],di,(sq (r1 [gm cse] 2 0) (sq (r1 [gm cse] 6 0) (sq (sq (r1 [gm b7] 3 0) (.block 0 (.loop (sq (sq (r1 [gm s3,gm s0,gl l1,bo l0 l2] 4 3) (jG s4 0)) (sq (.block 1 (sq (sq (r1 [gm s3,eI l0 b7] 5 1) (.cond s5 (r1 [gm s6,gm s1,gn (.bsl 1 (.int .u8 0) 1 [(0,l1)]),gn (.b2s l2),ay l0 l3,gm l4] 6 5) .skip)) (r1 [gm s6,gm s0,gm s3,ga 1 l1 l2,gd l3,ay l0 l4,gm l5] 6 6))) (r1 [gm s3,ay l0 cN,gm l1] 3 2)))))) (sq (r1 [gm s6,gm l0] 2 1) .ret))))⟩
def w249  (l:List ak)(x:UInt8)  (hp0:(aR [x] l).length<=1099511627776):fo Y HJ (.str (aR [x] l)) [.sl 1 (l.map D.str),.int .u8 (x.toNat:Nat)]:=by
 show ca _ _ _ [⟨_,_⟩,⟨_,_⟩,_,_,_,_,_] _;refine av ?_;refine ez ?_;refine bO hm (ι:=Nat) (fun i=>[⟨true,.sl 1 (l.map D.str)⟩,⟨true,.int .u8 (x.toNat:Nat)⟩,.un,⟨true,.int .i64 (i:Nat)⟩,.un,.un,⟨true,.str (aR [x] (l.take i))⟩]) (fun i=>[]) 3 (fun i=>i<=l.length) (fun i=>l.length-i) 0 ae (fP []) ?_;intro i hi;refine bm ?_;intro u0;refine aA ?_;refine dR (fun hc0=>?_) fun hc0=>?_
 .refine aK ?_;have hj:=yb [x] l (i+1);refine aG ?_;refine ax (fun hc1=>?_) (fun hc1=>?_)
  .simp only[a8]at hc1;have ht:=qM [x] l i ae;rw[aw ae]at ht;have htl:=ar List.length ht;simp only[bA,List.length_singleton]at htl;refine aG ?_;refine cZ [.int .u8 _] ?_;refine Ko [x] (he:=fun _=>sg.all ah rfl) (hs:=fun _=>rfl) ?_;refine eB (hb:=fun _=>by simp only[List.length_singleton];omega) ?_;refine cH ?_;refine eB (hb:=fun _=>by first|(simp only[bA,List.length_singleton];omega)|(subst hi0;simp only[List.take_zero,aR,aO]at htl⊢;omega)) ?_;refine ez ?_;exact⟨i+1,ae,ae,(aW.to [] ah ah (by repeat(first|exact dr.nil|refine dr.un ?_|refine dr.eq ah ?_|refine dr.nl (ar D.str (by rw[ht])) ah ?_)) qb)⟩
  simp only[bC]at hc1;have ht:=qM [x] l i ae;rw[aj ae]at ht;have htl:=ar List.length ht;simp only[bA,aO]at htl;have hi0:i=0:=ae;refine bI ?_;refine eB (hb:=fun _=>by first|(simp only[bA,List.length_singleton];omega)|(subst hi0;simp only[List.take_zero,aR,aO]at htl⊢;omega)) ?_;refine ez ?_;exact⟨i+1,ae,ae,(aW.to [] ah ah (by repeat(first|exact dr.nil|refine dr.un ?_|refine dr.eq ah ?_|refine dr.nl (ar D.str (by rw[ht];subst hi0;rfl)) ah ?_)) qb)⟩
 refine bI ?_;refine du ?_;rw[eM ae]
def Fu (T:List D->D->Prop):Prop:=∀(l:List ak) (x:UInt8),((aR [x] l).length<=1099511627776)->T [.sl 1 (l.map D.str),.int .u8 (x.toNat:Nat)] (.str (aR [x] l))
def Rj (Y:Ctx):Prop:=Fu (ch Y 249)
def F7 (T:List D->D->Prop):Prop:=∀(l:List ak),T [.sl 1 (l.map D.str)] (.bool (rising l))
def xl:aN:=⟨1,5,mJ,di,(sq (r1 [gm eS] 1 0) (sq (sq (r1 [gm cN] 2 0) (.block 0 (.loop (sq (sq (r1 [gm s2,gm s0,gl l1,bo l0 l2] 3 3) (jG s3 0)) (sq (.block 1 (sq (r2 [gm s0,gm s2,gA l1 cN,ga 1 l0 l2,gd l3,gm s0,gm s2,ga 1 l5 l6,gd l7,jf l4 l8] 4 9) (qj s4 eS))) (r1 [gm s2,ay l0 cN,gm l1] 2 2)))))) (CW xc)))⟩
def w447  (l:List ak)   :fo Y xl (.bool (rising l)) [.sl 1 (l.map D.str)]:=by
 show ca _ _ _ [⟨_,_⟩,_,_,_,_] _;refine av ?_;refine bh ?_;refine bO hm (ι:=Nat) (fun i=>[⟨true,.sl 1 (l.map D.str)⟩,.un,⟨true,.int .i64 (i:Nat)⟩,.un,.un]) (fun i=>[]) 2 (fun i=>1<=i/\(i<=l.length\/i=1)/\rising l=dz (fun i=>Op.bytesLess l[i-1]! l[i]!) i l.length) (fun i=>l.length-i) 1 ⟨ae,ae,rfl⟩ (fP []) ?_;rintro i ⟨h1,hi,hr⟩;refine bm ?_;intro u0;refine aA ?_;refine dR (fun hc0=>?_) fun hc0=>?_
 .refine bh ?_;refine cr (i-1) ?_;refine bI ?_;refine wp_cond (fun hc1=>?_) (fun hc1=>?_)
  .simp only[bP]at hc1;refine bh ?_;refine cz ?_;rw[hr,bc ae,hc1];rfl
  simp only[cL]at hc1;refine cH ?_;exact⟨i+1,⟨ae,ae,by rw[hr,bc ae,hc1];rfl⟩,ae,(fP [])⟩
 refine bh ?_;refine cz ?_;rw[hr,c8 ae]
def Ru (Y:Ctx):Prop:=F7 (ch Y 447)
def CZ:aN:=⟨1,8,mJ,di,(sq (r1 [gm eS] 1 0) (sq (sq (r1 [gm s0,aU l0 cse,gm l1,fZ 2 s0,dc 2 (.lenS l3),dc 2 (ew l4 (i6 12)),gR l2 l5] 2 6) (qj s2 eS)) (sq (sq (r1 [gm s0,gn (.sa l0)] 3 1) (.block 0 (.loop (sq (rg [gn (.xe s3),ge l0 0] [(5,0),(4,1)]) (sq (jG s4 0) (.block 1 (sq (r1 [ge s5 2,gm l0] 6 1) (.block 2 (sq (sq (r1 [gm s6,jf l0 (i3 97),gm l1,gmt 2 s6,dC 2 (oc l3 (i3 122)),iM l2 l4,gm l5] 7 6) (.cond s7 .skip (sq (r1 [gm s6,jf l0 (i3 48),gm l1,gmt 2 s6,dC 2 (oc l3 (i3 57)),iM l2 l4,gm l5] 7 6) (.cond s7 .skip (r1 [gm s6,aU l0 (i3 95),gm l1] 7 2))))) (.cond s7 .skip (CW eS))))))))))) (CW xc))))⟩
def w349  (s:ak)   :fo Y CZ (.bool (cJ s)) [.str s]:=by
 show ca _ _ _ [⟨_,_⟩,_,_,_,_,_,_,_] _;refine av ?_;refine cH ?_;refine nk ?_;refine aG ?_;refine dR (fun hc0=>?_) fun hc0=>?_
 .refine bm ?_;refine cz ?_;symm;simp only[cJ,dF,bC];rcases hc0 with h|h
  .subst h;exact Or.inl (Or.inl aJ)
  .exact Or.inl ae
 refine bh ?_;have hP:cJ s=dz (fun i=>yN (at8 s i)) 0 s.length:=by
  have:=List.length_pos_iff.2 hc0.1;simp only[cJ];rw[cK ae,cK ae];rfl
 refine bO hm (ι:=Nat) (fun i=>[⟨true,.str s⟩,.un,.un,⟨true,.it 9⟩,.un,.un,.un,.un]) (fun i=>[(9,.iter s i)]) 10 (fun i=>i<=s.length/\cJ s=dz (fun i=>yN (at8 s i)) i s.length) (fun i=>s.length-i) 0 ⟨ae,hP⟩ (fP [(9,9)]) ?_;rintro i ⟨hi,hr⟩;refine az ?_;by_cases hnx:i<s.length
 .obtain⟨c,w,hdec,hw,hcw⟩:=rJ s i hnx;refine zS c w (hp:=hnx) (hc:=hdec) ?_;refine aA ?_;refine ax (t:=true) (fun _=>?_) (fun h=>by cases h);refine Ll ?_;refine dR (fun hc2=>?_) fun hc2=>?_
  .refine az ?_;refine iR (fun hc4=>?_) fun hc4=>?_
   .refine aK ?_;obtain⟨rfl,hat,-⟩:w=1/\(c:Int)=at8 s i/\c<128:=by
     rcases hcw with h|h
     .exact h
     .omega
    have hz:yN (at8 s i)=true:=by
     simp only[yN,iN,bd,dk,bt,a8];omega
    exact⟨i+1,⟨ae,by rw[hr,bc hnx,hz];rfl⟩,ae,(fP [(9,9)])⟩
   refine bI ?_;refine cz ?_;first
    |(exfalso;omega)
    |(rw[hr,c8 ae];done)
    |(
     have hz:yN (at8 s i)=false:=by
      rcases hcw with⟨_,h,_⟩|⟨_,h⟩<;>(simp only[yN,iN,bd,dT,dF,bC];omega)
     rw[hr,bc hnx,hz];rfl)
  refine lV ?_;refine dR (fun hc3=>?_) fun hc3=>?_
  .refine az ?_;refine iR (fun hc4=>?_) fun hc4=>?_
   .refine aK ?_;obtain⟨rfl,hat,-⟩:w=1/\(c:Int)=at8 s i/\c<128:=by
     rcases hcw with h|h
     .exact h
     .omega
    have hz:yN (at8 s i)=true:=by
     simp only[yN,iN,bd,dk,bt,a8];omega
    exact⟨i+1,⟨ae,by rw[hr,bc hnx,hz];rfl⟩,ae,(fP [(9,9)])⟩
   refine bI ?_;refine cz ?_;first
    |(exfalso;omega)
    |(rw[hr,c8 ae];done)
    |(
     have hz:yN (at8 s i)=false:=by
      rcases hcw with⟨_,h,_⟩|⟨_,h⟩<;>(simp only[yN,iN,bd,dT,dF,bC];omega)
     rw[hr,bc hnx,hz];rfl)
  refine bm ?_;refine iR (fun hc4=>?_) fun hc4=>?_
  .refine aK ?_;obtain⟨rfl,hat,-⟩:w=1/\(c:Int)=at8 s i/\c<128:=by
    rcases hcw with h|h
    .exact h
    .omega
   have hz:yN (at8 s i)=true:=by
    simp only[yN,iN,bd,dk,bt,a8];omega
   exact⟨i+1,⟨ae,by rw[hr,bc hnx,hz];rfl⟩,ae,(fP [(9,9)])⟩
  refine bI ?_;refine cz ?_;first
   |(exfalso;omega)
   |(rw[hr,c8 ae];done)
   |(
    have hz:yN (at8 s i)=false:=by
     rcases hcw with⟨_,h,_⟩|⟨_,h⟩<;>(simp only[yN,iN,bd,dT,dF,bC];omega)
    rw[hr,bc hnx,hz];rfl)
 .refine zR (hp:=hnx) ?_;refine aA ?_;refine ax (t:=false) (fun h=>by cases h) (fun _=>?_);refine bh ?_;refine cz ?_;first
   |(exfalso;omega)
   |(rw[hr,c8 ae];done)
   |(
    have hz:yN (at8 s i)=false:=by
     rcases hcw with⟨_,h,_⟩|⟨_,h⟩<;>(simp only[yN,iN,bd,dT,dF,bC];omega)
    rw[hr,bc hnx,hz];rfl)
def Fx (T:List D->D->Prop):Prop:=∀(s:ak),T [.str s] (.bool (cJ s))
def Ct (Y:Ctx):Prop:=Fx (ch Y 349)
def CY:aN:=⟨1,13,mJ,di,(sq (r1 [gm eS] 1 0) (sq (sq (r1 [gm s0,aU l0 cse,gm l1,fZ 2 s0,dc 2 (.lenS l3),dc 2 (ew l4 (i6 16)),gR l2 l5] 2 6) (qj s2 eS)) (sq (sq (r1 [gm s0,gn (.sa l0)] 3 1) (.block 0 (.loop (sq (rg [gn (.xe s3),ge l0 0] [(5,0),(4,1)]) (sq (jG s4 0) (.block 1 (sq (rg [ge s5 1,ge s5 2,gm l0,gm l1] [(9,2),(6,3)]) (.block 2 (sq (r1 [gm s6,jf l0 (i3 97),gm l1,gmt 2 s6,dC 2 (oc l3 (i3 122)),iM l2 l4,gm l5] 7 6) (.cond s7 .skip (sq (r1 [gm s6,jf l0 (i3 48),gm l1,gmt 2 s6,dC 2 (oc l3 (i3 57)),iM l2 l4,gm l5] 8 6) (.cond s8 (sq (r1 [gm s9,aU l0 b7] 10 1) (qj mL eS)) (sq (r1 [gm s6,aU l0 (i3 45),gm l1] 11 2) (.cond pU (sq (r1 [gm s9,aU l0 b7,gm l1,fZ 2 s9,fZ 2 s0,dc 2 (.lenS l4),dc 2 (mb l5 cN),dc 2 (dP l3 l6),gR l2 l7,gm l8,fZ 9 s0,fZ 9 s9,dc 9 (mb kl cN),dc 9 (.ixS l10 mG),dc 9 (dP nQ (i8 45)),gR l9 n7] 12 15) (qj m6 eS)) (CW eS))))))))))))))) (CW xc))))⟩
def w208  (s:ak)   :fo Y CY (.bool (ee s)) [.str s]:=by
 show ca _ _ _ [⟨_,_⟩,_,_,_,_,_,_,_,_,_,_,_,_] _;refine av ?_;refine cH ?_;refine nk ?_;refine aG ?_;refine dR (fun hc0=>?_) fun hc0=>?_
 .refine bm ?_;refine cz ?_;symm;simp only[ee];rcases hc0 with h|h
  .subst h;simp
  .rw[dJ (by omega:¬s.length<=16)];simp
 refine bh ?_;have h0:=List.length_pos_iff.2 hc0.1;have hP:=MX s ae ae;refine bO hm (ι:=Nat) (fun i=>[⟨true,.str s⟩,.un,.un,⟨true,.it 9⟩,.un,.un,.un,.un,.un,.un,.un,.un,.un]) (fun i=>[(9,.iter s i)]) 10 (fun i=>i<=s.length/\ee s=dz (mI s) i s.length) (fun i=>s.length-i) 0 ⟨ae,hP⟩ (fP [(9,9)]) ?_;rintro i ⟨hi,hr⟩;refine az ?_;by_cases hnx:i<s.length
 .obtain⟨c,w,hdec,hw,hcw⟩:=rJ s i hnx;refine zS c w (hp:=hnx) (hc:=hdec) ?_;refine aA ?_;refine ax (t:=true) (fun _=>?_) (fun h=>by cases h);refine Lm ?_;refine iR (fun hc2=>?_) fun hc2=>?_
  .refine aK ?_;obtain⟨rfl,hat,-⟩:w=1/\(c:Int)=at8 s i/\c<128:=by
    rcases hcw with h|h
    .exact h
    .omega
   have hz:mI s i=true:=by
    simp only[mI,iN,bd,dk,bt,bP,a8,bC];omega
   exact⟨i+1,⟨ae,by rw[hr,bc hnx,hz];rfl⟩,ae,(fP [(9,9)])⟩
  refine ez ?_;refine iR (fun hc3=>?_) fun hc3=>?_
  .refine aK ?_;refine iR (fun hc4=>?_) fun hc4=>?_
   .refine bI ?_;refine cz ?_;first
     |(exfalso;omega)
     |(rw[hr,c8 ae];done)
     |(have hz:mI s i=false:=by
        rcases hcw with⟨_,h,_⟩|⟨_,h⟩<;>(simp only[mI,iN,bd,dT,dF,cL,a8,bC];omega)
       rw[hr,bc hnx,hz];rfl)
   refine aK ?_;obtain⟨rfl,hat,-⟩:w=1/\(c:Int)=at8 s i/\c<128:=by
    rcases hcw with h|h
    .exact h
    .omega
   have hz:mI s i=true:=by
    simp only[mI,iN,bd,dk,bt,bP,a8,bC];omega
   exact⟨i+1,⟨ae,by rw[hr,bc hnx,hz];rfl⟩,ae,(fP [(9,9)])⟩
  refine bm ?_;refine iR (fun hc5=>?_) fun hc5=>?_
  .refine bh ?_;refine nk ?_;refine bI ?_;refine ED (i-1) ?_;refine aG ?_;refine iR (fun hc6=>?_) fun hc6=>?_
   .refine bI ?_;refine cz ?_;first
     |(exfalso;omega)
     |(rw[hr,c8 ae];done)
     |(have hz:mI s i=false:=by
        rcases hcw with⟨_,h,_⟩|⟨_,h⟩<;>(simp only[mI,iN,bd,dT,dF,cL,a8,bC];omega)
       rw[hr,bc hnx,hz];rfl)
   refine aK ?_;obtain⟨rfl,hat,-⟩:w=1/\(c:Int)=at8 s i/\c<128:=by
    rcases hcw with h|h
    .exact h
    .omega
   have hz:mI s i=true:=by
    simp only[mI,iN,bd,dk,bt,bP,a8,bC];omega
   exact⟨i+1,⟨ae,by rw[hr,bc hnx,hz];rfl⟩,ae,(fP [(9,9)])⟩
  refine bI ?_;refine cz ?_;first
   |(exfalso;omega)
   |(rw[hr,c8 ae];done)
   |(have hz:mI s i=false:=by
      rcases hcw with⟨_,h,_⟩|⟨_,h⟩<;>(simp only[mI,iN,bd,dT,dF,cL,a8,bC];omega)
     rw[hr,bc hnx,hz];rfl)
 .refine zR (hp:=hnx) ?_;refine aA ?_;refine ax (t:=false) (fun h=>by cases h) (fun _=>?_);refine bh ?_;refine cz ?_;first
   |(exfalso;omega)
   |(rw[hr,c8 ae];done)
   |(have hz:mI s i=false:=by
      rcases hcw with⟨_,h,_⟩|⟨_,h⟩<;>(simp only[mI,iN,bd,dT,dF,cL,a8,bC];omega)
     rw[hr,bc hnx,hz];rfl)
def E6 (T:List D->D->Prop):Prop:=∀(s:ak),T [.str s] (.bool (ee s))
def Im (Y:Ctx):Prop:=E6 (ch Y 208)
def zx:aN:=⟨1,10,[⟨1,none⟩,⟨2,none⟩],iZ,(sq (rg [gm b7,gm eS] [(1,0),(2,1)]) (sq (sq (r1 [gm s0,aU l0 cse,gm l1,fZ 2 s0,dc 2 (.lenS l3),dc 2 (ew l4 ud),gR l2 l5,gm l6,fZ 7 s0,dc 7 (.ixS l8 b7),dc 7 (dP l9 (i8 48)),fZ 7 l10,gmt 11 s0,dC 11 (.lenS mG),dC 11 (ew nQ cN),Ei 7 kl n7,gR l7 pL] 3 16) (.cond s3 (sq (rg [gm b7,gm eS] [(1,0),(2,1)]) .ret) .skip)) (sq (r1 [gm b7] 9 0) (sq (sq (r1 [gm s0,gn (.sa l0)] 4 1) (.block 0 (.loop (sq (rg [gn (.xe s4),ge l0 0] [(6,0),(5,1)]) (sq (jG s5 0) (.block 1 (sq (r1 [ge s6 2,gm l0] 7 1) (.block 2 (sq (r1 [gm s7,jf l0 (i3 48),gm l1,gmt 2 s7,dC 2 (oc l3 (i3 57)),iM l2 l4,gm l5] 8 6) (.cond s8 (r1 [gm s9,gn (.bin .mul (i6 10) l0),gm s7,gA l2 (i3 48),gn (.cvi .i64 l3),ay l1 l4,gm l5] 9 6) (sq (rg [gm b7,gm eS] [(1,0),(2,1)]) .ret))))))))))) (sq (rg [gm s9,gm s9,zF l1 (i6 9999),gm l0,gm l2] [(1,3),(2,4)]) .ret)))))⟩
def w658  (s:ak)   :fo Y zx (.tup [.int .i64 (eK s),.bool (gB s)]) [.str s]:=by
 show ca _ _ _ [⟨_,_⟩,_,_,_,_,_,_,_,_,_] _;refine av ?_;refine ez ?_;refine nk ?_;refine aK ?_;refine ED 0 (hb:=fun h=>by simp at h;exact List.length_pos_iff.2 h.1) ?_;refine aG ?_;refine nk ?_;refine aK ?_;refine dR (fun hc0=>?_) fun hc0=>?_
 .refine bh ?_;refine cv (aZ (ar (D.int .i64) ?_) (ar D.bool ?_));all_goals
   have:gB s=false:=by
    rw[Dn];rcases hc0 with(h|h)|h
    .subst h;simp
    .rw[dJ (by omega:¬s.length<=4)];simp
    .rw[cK (by omega:1<s.length),cK h.1];simp
   simp[eK,this]
 refine ez ?_;have h0:=List.length_pos_iff.2 hc0.1.1;have hP:gB s=dz (fun i=>bd (at8 s i)) 0 s.length:=by
  rw[Dn,cK (by omega:1<=s.length),cK (by omega:s.length<=4)];rcases hc0.2 with h|h
  .rw[dJ h,Bool.and_false];rfl
  .rw[dJ (by omega:¬1<s.length)];rfl
 refine bO hm (ι:=Nat) (fun i=>[⟨true,.str s⟩,.un,.un,.un,⟨true,.it 21⟩,.un,.un,.un,.un,⟨true,.int .i64 (ef (s.take i):Nat)⟩]) (fun i=>[(21,.iter s i)]) 22 (fun i=>i<=s.length/\s.length<=4/\gB s=dz (fun i=>bd (at8 s i)) i s.length) (fun i=>s.length-i) 0 ⟨ae,ae,hP⟩ (fP [(21,21)]) ?_;rintro i ⟨hi,h9,hr⟩;refine az ?_;by_cases hnx:i<s.length
 .obtain⟨c,w,hdec,hw,hcw⟩:=rJ s i hnx;refine zS c w (hp:=hnx) (hc:=hdec) ?_;refine aA ?_;refine ax (t:=true) (fun _=>?_) (fun h=>by cases h);refine y7 ?_;refine iR (fun hc2=>?_) fun hc2=>?_
  .refine az ?_;obtain⟨rfl,hat,-⟩:w=1/\(c:Int)=at8 s i/\c<128:=by
    rcases hcw with h|h
    .exact h
    .omega
   have hn:=rX s i ae;have hn2:=tI s i ae;have h256:=ID s i;refine az ?_;refine uL ?_;refine az ?_;refine Ky ((c:Int) -48) (hb:=fun _=>IntWalk.i32_in _ ae) ?_;refine tK ((c:Int) -48) (hb:=fun _=>IntWalk.i64_in _ ae) ?_;refine aG ?_;rw[show 10*(ef (s.take i):Int)+((c:Int) -48)=(ef (s.take (i+1)):Nat)by omega];refine aG ?_;have hz:bd (at8 s i)=true:=by
    simp only[bd,bt,a8];omega
   exact⟨i+1,⟨ae,h9,by rw[hr,bc ae,hz];rfl⟩,ae,(fP [(21,21)])⟩
  refine cH ?_;refine cv (aZ (ar (D.int .i64) ?_) (ar D.bool ?_));all_goals
   have hz:bd (at8 s i)=false:=by
    rcases hcw with⟨_,h,_⟩|⟨_,h⟩<;>(simp only[bd,dF,bC];omega)
   have:gB s=false:=by rw[hr,bc ae,hz];rfl
   simp[eK,this]
 .refine zR (hp:=hnx) ?_;refine aA ?_;refine ax (t:=false) (fun h=>by cases h) (fun _=>?_);refine lV ?_;refine cv (aZ (ar (D.int .i64) ?_) (ar D.bool ?_));all_goals
   have this:gB s=true:=by rw[hr,c8 ae]
   have ht:s.take i=s:=eM ae;have h9:=this;simp only[gB,bt,a8]at h9;have h99:=h9.2;rw[ht];first
   |(simp only[eK,this];rfl)
   |(rw[this,a8];omega)
def uX (T:List D->D->Prop):Prop:=∀(s:ak),T [.str s] (.tup [.int .i64 (eK s),.bool (gB s)])
def Ly (Y:Ctx):Prop:=uX (ch Y 658)
end Go.Abs
