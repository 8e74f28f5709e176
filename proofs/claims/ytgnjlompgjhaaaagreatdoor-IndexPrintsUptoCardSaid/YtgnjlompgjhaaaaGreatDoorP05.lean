/- A part of the proofs. -/
import Derived.Test.YtgnjlompgjhaaaaGreatDoorP04
set_option linter.all false
set_option maxRecDepth 4000
section
namespace Go.Abs
structure cQ where
 name:au
 range:au
 feats:List au
 bare:Bool
 deriving Inhabited,DecidableEq
def cQ.D (x:cQ):D:=.agg [.str x.name,.str x.range,.sl 1 (x.feats.map D.str),.bool x.bare]
structure cB where
 any:List cQ
 when':au
 option:au
 deriving Inhabited,DecidableEq
def cB.D (x:cB):D:=.agg [.sl 4 (x.any.map cQ.D),.str x.when',.str x.option]
structure kJ where
 name:au
 range:au
 when':au
 deriving Inhabited,DecidableEq
def kJ.D (x:kJ):D:=.agg [.str x.name,.str x.range,.str x.when']
structure bW where
 name:au
 of:List au
 deriving Inhabited,DecidableEq
def bW.D (x:bW):D:=.agg [.str x.name,.sl 1 (x.of.map D.str)]
structure Rec where
 name:au
 v:bX
 needs:List cB
 bars:List kJ
 feats:List bW
 deriving Inhabited,DecidableEq
def Rec.D (x:Rec):D:=.agg [.str x.name,.int .i64 x.v.major,.int .i64 x.v.minor,.int .i64 x.v.patch,.str x.v.pre,.str x.v.build,.sl 3 (x.needs.map cB.D),.sl 3 (x.bars.map kJ.D),.sl 2 (x.feats.map bW.D)]
structure cG where
 op:Int
 parts:Int
 v:bX
 deriving Inhabited,DecidableEq
def cG.D (x:cG):D:=.agg [.int .i64 x.op,.int .i64 x.parts,.int .i64 x.v.major,.int .i64 x.v.minor,.int .i64 x.v.patch,.str x.v.pre,.str x.v.build]
structure Nd where
 op:Int
 a:Int
 b:Int
 key:Int
 text:au
 deriving Inhabited,DecidableEq
def Nd.D (x:Nd):D:=.agg [.int .i64 x.op,.int .i64 x.a,.int .i64 x.b,.int .i64 x.key,.str x.text]
def kJ.eq (a b:kJ):gL (kJ.D a).cells (kJ.D b).cells=decide (a=b):=by
 obtain⟨a1,a2,a3⟩:=a;obtain⟨b1,b2,b3⟩:=b;simp only[kJ.D,D.cells,gL,qS,kJ.mk.injEq,jr];simp only[Bool.decide_and]
def cQ.same {a b:cQ}(e1:a.name=b.name)(e2:a.range=b.range)(e3:a.bare=b.bare):decide (a=b)=decide (a.feats=b.feats):=by
 obtain⟨a1,a2,a3,a4⟩:=a;obtain⟨b1,b2,b3,b4⟩:=b;simp only at e1 e2 e3;subst e1;subst e2;subst e3;simp
def rising (l:List au):Bool:=cr (fun i=>Op.bytesLess l[i-1]! l[i]!) 1 l.length
def cF (s:au):Int×au×au:=
 if cb s=true then(1,s,[])
 else if s.length>0/\at8 s 0=63/\cb (s.drop 1)=true then(2,s.drop 1,[])
 else if(ar s 47).length=2/\ey (ar s 47)[0]! =true/\cb (ar s 47)[1]! =true then(3,(ar s 47)[0]!,(ar s 47)[1]!)
 else(0,[],[])
def findF (l:List bW)(nm:au)(i:Nat):Int:=match(l.drop i).findIdx? (fun x=>decide (x.name=nm))with
 |some k=>((i+k:Nat):Int)
 |none=>-1
def zu {l:List bW}{nm:au}{i:Nat}(h:i<l.length)(he:l[i]!.name=nm):findF l nm i=(i:Nat):=by
 unfold findF;rw[kt h,List.findIdx?_cons];have:l[i].name=nm:=by simpa[h]using he
 simp[this]
def zv {l:List bW}{nm:au}{i:Nat}(h:i<l.length)(he:¬l[i]!.name=nm):findF l nm i=findF l nm (i+1):=by
 unfold findF;have:¬l[i].name=nm:=by simpa[h]using he
 rw[kt h,List.findIdx?_cons];simp only[this,decide_false,et,bn];cases(l.drop (i+1)).findIdx? (fun x=>decide (x.name=nm))with
 |none=>rfl
 |some k=>simp only[Option.map_some];congr 1;omega
def wO {l:List bW}{nm:au}{i:Nat}(h:l.length<=i):findF l nm i=-1:=by
 unfold findF;rw[mj h];rfl
def Q7:au:=[100,101,102,97,117,108,116]
def MH (l:List bW)(nm:au):Bool:=decide (nm=Q7) ||decide (0<=findF l nm 0)
def jH (l:List bW)(s:au):Bool:=!(decide ((cF s).1=0) ||(decide ((cF s).1=1)&& !MH l (cF s).2.1))
def jI (l:List bW)(of:List au):Bool:=decide (of.length<=6)&&rising of&&cr (fun i=>jH l of[i]!) 0 of.length
def iD (l:List bW)(i:Nat):Bool:=cb l[i]!.name&& !(decide (0<i)&& !Op.bytesLess l[i-1]!.name l[i]!.name)&&jI l l[i]!.of
def fF (l:List bW):Bool:=decide (l.length<=8)&&cr (iD l) 0 l.length
def bW.sm (x:bW):Prop:=x.name.length<=1048576/\x.of.length<=1048576/\∀t∈x.of,t.length<=1048576
def mZ (l:List bW):Prop:=∀x∈l,x.sm
def pc (b:au):∀(l:List au)(i:Nat),(bc b (l.take i)).length<=(bc b l).length
 |[],i=>aT
 |[t],0=>by simp[bc]
 |[t],i+1=>aT
 |t::u::r,0=>by simp[bc]
 |t::u::r,1=>by simp[bc]
 |t::u::r,i+2=>by
  have:=pc b (u::r) (i+1);simp only[List.take_succ_cons,bc,bA]at this⊢;omega
def p9 (b t:au):∀(l:List au),l≠[]->bc b (l++[t])=bc b l++b++t
 |[],h=>absurd rfl h
 |[u],_=>by simp[bc]
 |u::v::r,_=>by
  have:=p9 b t (v::r) aT;simp only[fk,bc]at this⊢;rw[this];simp
def nb (b:au)(l:List au)(i:Nat)(h:i<l.length):bc b (l.take (i+1))=(if 0<i then bc b (l.take i)++b else [])++l[i]! :=by
 have e:l.take (i+1)=l.take i++[l[i]!]:=by
  rw[List.take_add_one,List.getElem?_eq_getElem h];simp[h]
 rw[e];by_cases h0:0<i
 ·rw[av h0,p9 _ _ _ (by intro hn;have:=aj List.length hn;simp only[fU,az]at this;omega)]
 ·obtain rfl:i=0:=ae;simp[bc]
end Go.Abs
namespace Go.Abs
def Da {s:au}(h0:cb s=true):cF s=(1,s,[]):=by simp only[cF,av h0]
def Db {s:au}(h0:cb s=false)(h:(0<(s.length:Int)/\at8 s 0=63)/\cb (s.drop 1)=true):cF s=(2,s.drop 1,[]):=by
 simp only[cF,h0,et,bn];rw[av ⟨ae,h.1.2,h.2⟩]
def zL {s:au}(h:(¬0<(s.length:Int)\/¬at8 s 0=63)\/cb (s.drop 1)=false):¬(s.length>0/\at8 s 0=63/\cb (s.drop 1)=true):=by
 rintro⟨h1,h2,h3⟩;rcases h with(h|h)|h
 ·omega
 ·exact h h2
 ·rw[h3]at h;cases h
def Dc {s:au}(h0:cb s=false)(h:(¬0<(s.length:Int)\/¬at8 s 0=63)\/cb (s.drop 1)=false)(h2:(((ar s 47).length:Int)=2/\ey (ar s 47)[0]! =true)/\cb (ar s 47)[1]! =true):cF s=((3:Int),(ar s 47)[0]!,(ar s 47)[1]!):=by
 simp only[cF,h0,et,bn];rw[ai (zL h),av ⟨ae,h2.1.2,h2.2⟩]
def C9 {s:au}(h0:cb s=false)(h:(¬0<(s.length:Int)\/¬at8 s 0=63)\/cb (s.drop 1)=false)(h2:(¬((ar s 47).length:Int)=2\/ey (ar s 47)[0]! =false)\/cb (ar s 47)[1]! =false):cF s=(0,[],[]):=by
 simp only[cF,h0,et,bn];rw[ai (zL h),ai];rintro⟨g1,g2,g3⟩;rcases h2 with(h2|h2)|h2
 ·omega
 ·rw[g2]at h2;cases h2
 ·rw[g3]at h2;cases h2
end Go.Abs
end
namespace Go.Abs
def xS (s:au)(i:Nat)(h:i<s.length):at8 s i=((s[i]'h).toNat:Int):=by simp[at8,h]
def zf (p:Int->Bool)(s:au):cr (fun i=>p (at8 s i)) 0 s.length=true↔∀c∈s,p c.toNat=true:=by
 rw[fX];constructor
 ·intro h c hc;obtain⟨i,hi,rfl⟩:=List.getElem_of_mem hc;have:=h i ae hi
  rwa [xS s i hi]at this
 ·intro h j _ hj;rw[xS s j hj];exact h _ (List.getElem_mem hj)
def oK {b:Int}:∀{s cur:au},(∀c∈s,(c.toNat:Int)≠b)->ch b s cur=[cur++s]
 |[],cur,_=>by simp[ch]
 |c::r,cur,h=>by
  simp only[ch];rw[ai (h c (.head _)),oK (fun d hd=>h d (.tail _ hd))];simp
def vx {b:Int}{x:UInt8}(hx:(x.toNat:Int)=b)(r:au):∀{w cur:au},(∀c∈w,(c.toNat:Int)≠b)->ch b (w++x::r) cur=(cur++w)::ch b r []
 |[],cur,_=>by simp[ch,hx]
 |c::w,cur,h=>by
  simp only[fk,ch];rw[ai (h c (.head _)),vx hx r (fun d hd=>h d (.tail _ hd))];simp
def sV {b:Int}{x:UInt8}(hx:(x.toNat:Int)=b):∀{ws:List au},ws≠[]->(∀w∈ws,∀c∈w,(c.toNat:Int)≠b)->ar (bc [x] ws) b=ws
 |[],h,_=>absurd rfl h
 |[w],_,h=>by
  show ch b w []=[w];rw[oK (h w (.head _))];rfl
 |w::u::r,_,h=>by
  have ih:=sV (ws:=u::r) hx aT (fun v hv=>h v (.tail _ hv));show ch b (w++[x]++bc [x] (u::r)) []=_;rw[dG,List.singleton_append,vx hx _ (h w (.head _))];rw[show ch b (bc [x] (u::r)) []=u::r from ih];rfl
def ot {b:Int}{x:UInt8}(hx:(x.toNat:Int)=b):∀(s cur:au),bc [x] (ch b s cur)=cur++s
 |[],cur=>by simp[ch,bc]
 |c::r,cur=>by
  simp only[ch];split
  ·rename_i h;rw[jJ _ _ _ (by intro h;have:=fR b r [];rw[h]at this;simp at this),ot hx r []];have:c=x:=jR.1 ae;simp[this]
  ·rw[ot hx r];simp
def lR {b:Int}{x:UInt8}(hx:(x.toNat:Int)=b)(s:au):bc [x] (ar s b)=s:=by
 unfold ar;rw[ot hx];rfl
def zn {n:Nat}(h:n<10):bg (dg n).toNat=true:=by
 have:=GQ h;simp only[bg,aZ,aR];omega
def zm {Q:Nat->Prop}(h1:∀n,n<10->Q n)(h2:∀n,9<n->Q (n/10)->Q n)(n:Nat):Q n:=by
 induction n using Nat.strongRecOn with
 |ind n ih=>
  by_cases h:n<10
  ·exact h1 n h
  ·exact h2 n ae (ih _ ae)
def n4 (n:Nat):∀c∈dw n,bg c.toNat=true:=by
 refine zm (Q:=fun n=>∀c∈dw n,bg c.toNat=true) (fun n h c hc=>?_) (fun n h ih c hc=>?_) n
 ·rw[oZ h]at hc;obtain rfl:=cJ.1 hc;exact zn h
 ·rw[oY h]at hc;rcases List.mem_append.1 hc with hc|hc
  ·exact ih c hc
  ·obtain rfl:=cJ.1 hc;exact zn ae
def Jq (n:Nat):dw n≠[]:=by
 refine zm (Q:=fun n=>dw n≠[]) (fun n h=>?_) (fun n h ih=>?_) n
 ·rw[oZ h];simp
 ·rw[oY h];simp
def pd (x:UInt8):∀(ws:List au)(c:UInt8),c∈bc [x] ws->c=x\/∃w∈ws,c∈w
 |[],c,h=>by simp[bc]at h
 |[w],c,h=>.inr ⟨w,.head _,h⟩
 |w::u::r,c,h=>by
  rw[jJ _ _ _ aT]at h;simp only[List.mem_append,cJ]at h;rcases h with(h|h)|h
  ·exact .inr ⟨w,.head _,h⟩
  ·exact .inl h
  ·rcases pd x (u::r) c h with h|⟨v,hv,hc⟩
   ·exact .inl h
   ·exact .inr ⟨v,.tail _ hv,hc⟩
def Iv {s:au}{p:Bool}(h:oM s p=true){c:UInt8}(hc:c∈s):k9 c.toNat=true\/c=46:=by
 simp only[oM,cu,aR,kF,aZ,fX]at h;rcases h with rfl|⟨_,h⟩
 ·cases hc
 ·rw[<-lR (b:=46) (x:=46) rfl s]at hc;rcases pd 46 _ c hc with rfl|⟨w,hw,hcw⟩
  ·exact .inr rfl
  ·left;obtain⟨i,hi,rfl⟩:=List.getElem_of_mem hw;have:=h i ae hi;rw[show(ar s 46)[i]! =(ar s 46)[i]by simp[hi]]at this;simp only[gu,nR,aZ]at this;exact(zf k9 _).1 this.1.2 c hcw
def GR {c:UInt8}(h:bg c.toNat=true):c.toNat≠46/\c.toNat≠45/\c.toNat≠43/\c.toNat≠32/\c.toNat≠10:=by
 simp only[bg,aZ,aR]at h;omega
def coreS (v:bX):au:=dw v.major.toNat++[46]++dw v.minor.toNat++[46]++dw v.patch.toNat
def FU (v:bX):vH v=coreS v++(if v.pre=[]then []else 45::v.pre)++(if v.build=[]then []else 43::v.build):=rfl
def hv (c:UInt8):Nat:=if bg c.toNat=true then c.toNat-48 else c.toNat-87
def tf (s:au):Nat:=s.foldl (fun n c=>n*16+hv c) 0
def A7 (a b:Int):0<=vM a b/\vM a b<18446744073709551616:=by
 unfold vM;rw[IntKind.wrap_u64];omega
def CD (s:au):0<=vA s/\vA s<18446744073709551616:=A7 _ _
def Kw {s:au}(h:cb s=true){c:UInt8}(hc:c∈s):vI c.toNat=true:=by
 simp only[cb,aZ]at h;exact(zf vI s).1 h.2 c hc
def tw.wf (x:tw):Prop:=0<=x.sum/\x.sum<18446744073709551616
def y5.wf (l:y5):Prop:=∀x∈l.lines,x.wf
end Go.Abs
section
namespace Go.Abs
def sW {b:Int}{x:UInt8}(hx:(x.toNat:Int)=b):∀(s cur:au),ch b s cur=match s.findIdx? (fun c=>c==x)with
  |some k=>(cur++s.take k)::ch b (s.drop (k+1)) []
  |none=>[cur++s]
 |[],cur=>by simp[ch]
 |c::r,cur=>by
  simp only[ch,List.findIdx?_cons];by_cases h:c=x
  ·subst h;rw[av hx];simp
  ·have h1:¬(c.toNat:Int)=b:=fun e=>h (jR.1 ae)
   have h2:(c==x)=false:=by simpa using h
   rw[ai h1,h2,sW hx r (cur++[c])];cases r.findIdx? (fun c=>c==x)with
   |none=>simp
   |some k=>simp
def xu (s:au)(x:UInt8):ar s x.toNat=if(fE s x).2.2=true then(fE s x).1::ar (fE s x).2.1 x.toNat else [s]:=by
 unfold ar fE;rw[sW (x:=x) rfl];cases s.findIdx? (fun c=>c==x)with
 |none=>simp
 |some k=>simp
def xn {s:au}:(((fE s 47).2.2=true/\ey (fE s 47).1=true)/\cb (fE s 47).2.1=true)↔(((ar s 47).length:Int)=2/\ey (ar s 47)[0]! =true)/\cb (ar s 47)[1]! =true:=by
 have h:=xu s 47;rw[show(((47:UInt8).toNat:Nat):Int)=47 from rfl]at h;by_cases hc:(fE s 47).2.2=true
 ·rw[av hc]at h;rw[h];have hj:=lR (b:=47) (x:=47) rfl (fE s 47).2.1;constructor
  ·rintro⟨⟨_,h1⟩,h2⟩;have h3:ar (fE s 47).2.1 47=[(fE s 47).2.1]:=by
    show ch 47 _ []=_;rw[oK (fun c hc=>?_)]
    ·rfl
    ·have:=Kw h2 hc;simp only[vI,gO,bg,cu,aZ,aR]at this;omega
   rw[h3];exact⟨⟨rfl,h1⟩,h2⟩
  ·rintro⟨⟨h1,h2⟩,h3⟩;refine⟨⟨hc,h2⟩, ?_⟩;generalize ar (fE s 47).2.1 47=q at hj h1 h3
   match q,h1 with
   |[y],_=>
    have:y=(fE s 47).2.1:=hj;rw[<-this];exact h3
   |[],h1=>simp at h1
   |_::_::_,h1=>simp at h1;omega
 ·rw[ai hc]at h;rw[h];constructor
  ·rintro⟨⟨h1,_⟩,_⟩;exact absurd h1 hc
  ·rintro⟨⟨h1,_⟩,_⟩;simp at h1
def zS {s:au}:(cO s [63]).2=true↔0<(s.length:Int)/\at8 s 0=63:=by
 match s with
 |[]=>simp[cO,List.isPrefixOf]
 |c::r=>
  have e:((c.toNat:Int)=63)↔c=63:=⟨fun h=>jR.1 (by have:(63:UInt8).toNat=63:=rfl;omega),fun h=>by subst h;rfl⟩;simp only[cO,List.isPrefixOf,jr,at8,ku,ay];by_cases h:c=63
  ·subst h;simp
  ·have:¬(c.toNat:Int)=63:=fun h2=>h (e.1 h2)
   have h3:((63:UInt8)==c)=false:=by simpa using fun h2=>h h2.symm
   simp[h3,this]
def wZ {s:au}(h:(cO s [63]).2=true):(cO s [63]).1=s.drop 1:=by
 unfold cO at h⊢;split at h
 ·rename_i hp;rw[av hp];rfl
 ·cases h
def JP {s:au}(h0:cb s=false)(h:(cO s [63]).2=true/\cb (cO s [63]).1=true):cF s=(2,(cO s [63]).1,[]):=by
 rw[wZ h.1]at h⊢;exact Db h0 ⟨zS.1 h.1,h.2⟩
def Dd {s:au}(h:(cO s [63]).2=false\/cb (cO s [63]).1=false):(¬0<(s.length:Int)\/¬at8 s 0=63)\/cb (s.drop 1)=false:=by
 by_cases hp:(cO s [63]).2=true
 ·rw[wZ hp]at h;rcases h with h|h
  ·rw[hp]at h;cases h
  ·exact .inr h
 ·have:=fun h2=>hp (zS.2 h2)
  by_cases h1:0<(s.length:Int)
  ·exact .inl (.inr fun h2=>this ⟨h1,h2⟩)
  ·exact .inl (.inl h1)
def JQ {s:au}(h0:cb s=false)(h:(cO s [63]).2=false\/cb (cO s [63]).1=false)(h2:((fE s 47).2.2=true/\ey (fE s 47).1=true)/\cb (fE s 47).2.1=true):cF s=((3:Int),(fE s 47).1,(fE s 47).2.1):=by
 have h3:=xn.1 h2;rw[Dc h0 (Dd h) h3];have hs:=xu s 47;rw[show(((47:UInt8).toNat:Nat):Int)=47 from rfl,av h2.1.1]at hs;have hj:=lR (b:=47) (x:=47) rfl (fE s 47).2.1;have hl:=h3.1.1;rw[hs]at hl⊢;generalize ar (fE s 47).2.1 47=q at hj hl
 match q,hl with
 |[y],_=>
  have:y=(fE s 47).2.1:=hj;rw[<-this];rfl
 |[],h1=>simp at h1
 |_::_::_,h1=>simp at h1;omega
def JO {s:au}(h0:cb s=false)(h:(cO s [63]).2=false\/cb (cO s [63]).1=false)(h2:((fE s 47).2.2=false\/ey (fE s 47).1=false)\/cb (fE s 47).2.1=false):cF s=(0,[],[]):=by
 refine C9 h0 (Dd h) ?_;have hn:¬((((ar s 47).length:Int)=2/\ey (ar s 47)[0]! =true)/\cb (ar s 47)[1]! =true):=fun h3=>by
  obtain⟨⟨g1,g2⟩,g3⟩:=xn.2 h3;rcases h2 with(h2|h2)|h2
  ·rw[g1]at h2;cases h2
  ·rw[g2]at h2;cases h2
  ·rw[g3]at h2;cases h2
 by_cases k1:((ar s 47).length:Int)=2
 ·by_cases k2:ey (ar s 47)[0]! =true
  ·right;cases k3:cb (ar s 47)[1]! with
   |false=>rfl
   |true=>exact absurd ⟨⟨k1,k2⟩,k3⟩ hn
  ·exact .inl (.inr (by simpa using k2))
 ·exact .inl (.inl k1)
end Go.Abs
namespace Go.Abs
def Ew {l:List bW}{i:Nat}(h:(!cb l[i]!.name ||(decide ((0:Int)<(i:Int))&& !Op.bytesLess l[i-1]!.name l[i]!.name) ||decide ((6:Int)<(l[i]!.of.length:Int)) ||!rising l[i]!.of)=false):
  iD l i=cr (fun j=>jH l l[i]!.of[j]!) 0 l[i]!.of.length:=by
 simp only[dc,bY,bx]at h;obtain⟨⟨⟨h1,h2⟩,h3⟩,h4⟩:=h;have e:(decide (0<i)&& !Op.bytesLess l[i-1]!.name l[i]!.name)=false:=by
  rw[show decide (0<i)=decide ((0:Int)<(i:Int))from dz.2 ae];exact h2
 simp only[iD,jI,h1,e,h4];rw[bD ae];rfl
def Ev {l:List bW}{i:Nat}(h:(!cb l[i]!.name ||(decide ((0:Int)<(i:Int))&& !Op.bytesLess l[i-1]!.name l[i]!.name) ||decide ((6:Int)<(l[i]!.of.length:Int)) ||!rising l[i]!.of)=true):
  iD l i=false:=by
 have e:decide ((0:Int)<(i:Int))=decide (0<i):=dz.2 ae;have e6:decide ((6:Int)<(l[i]!.of.length:Int))=!decide (l[i]!.of.length<=6):=by
  by_cases h6:l[i]!.of.length<=6
  ·rw[bD h6,cj ae];rfl
  ·rw[cj h6,bD ae];rfl
 rw[e,e6]at h;simp only[iD,jI];revert h;generalize cb l[i]!.name=a;generalize (decide (0<i)&& !Op.bytesLess l[i-1]!.name l[i]!.name)=b;generalize decide (l[i]!.of.length<=6)=c;generalize rising l[i]!.of=d;cases a<;>cases b<;>cases c<;>cases d<;>simp
end Go.Abs
end
section
namespace Go.Abs
def cR (op:Int):au:=if op=1 then [61]else if op=2 then [33,61]else if op=3 then [60]else if op=4 then [60,61]else if op=5 then [62]else if op=6 then [62,61]else if op=7 then [94]else if op=8 then [126]else []
def sk (op:Int):(cR op).length<=2:=by
 unfold cR;repeat' split
 all_goals decide
def nJ (s w:au):Bool:=decide (w.length<=s.length)&&decide (s.take w.length=w)
def nK (c:cG):Bool:=(decide (0<c.parts) ||decide (c.v.major=0))&&(decide (1<c.parts) ||decide (c.v.minor=0))&&(decide (2<c.parts) ||decide (c.v.patch=0))
def jC (c:cG):Bool:=decide (1<=c.op)&&decide (c.op<=9)&&eF c.v&&decide (c.v.build=[])&&decide ((if c.op=9 then 0 else 1)<=c.parts)&&decide (c.parts<=if c.op=9 then 2 else 3)&&(decide (3<=c.parts) ||decide (c.v.pre=[]))&&nK c
def cG.sm (c:cG):Prop:=c.v.sm
def zj {c:cG}(h:(decide (c.op<1) ||decide (9<c.op) ||!eF c.v ||!decide (c.v.build=[]))=true):jC c=false:=by
 unfold jC;rw[show decide (c.op<1)=!decide (1<=c.op)by rw[<-decide_not];exact dz.2 ae,show decide (9<c.op)=!decide (c.op<=9)by rw[<-decide_not];exact dz.2 ae]at h;revert h;generalize decide (1<=c.op)=a1;generalize decide (c.op<=9)=a2;generalize eF c.v=a3;generalize decide (c.v.build=[])=a4;cases a1<;>cases a2<;>cases a3<;>cases a4<;>simp
def wH {c:cG}(h:(decide (c.op<1) ||decide (9<c.op) ||!eF c.v ||!decide (c.v.build=[]))=false):1<=c.op/\c.op<=9/\eF c.v=true/\c.v.build=[]:=by
 simp only[dc,bx,bY,aR]at h;exact⟨ae,ae,h.1.2,h.2⟩
end Go.Abs
namespace Go.Abs
def oU {c:cG}(hy:1<=c.op/\c.op<=9/\eF c.v=true/\c.v.build=[]){lo hi:Int}(hlo:(if c.op=9 then 0 else 1)=lo)(hhi:(if c.op=9 then 2 else 3)=hi):
  jC c=(!(decide (c.parts<lo) ||decide (hi<c.parts) ||(decide (c.parts<3)&& !decide (c.v.pre=[])))&&nK c):=by
 obtain⟨h1,h2,h3,h4⟩:=hy;unfold jC;rw[bD h1,bD h2,h3,bD h4,hlo,hhi];rw[show decide (c.parts<lo)=!decide (lo<=c.parts)by rw[<-decide_not];exact dz.2 ae,show decide (hi<c.parts)=!decide (c.parts<=hi)by rw[<-decide_not];exact dz.2 ae,show decide (c.parts<3)=!decide (3<=c.parts)by rw[<-decide_not];exact dz.2 ae];generalize decide (lo<=c.parts)=a1;generalize decide (c.parts<=hi)=a2;generalize decide (3<=c.parts)=a3;generalize decide (c.v.pre=[])=a4;cases a1<;>cases a2<;>cases a3<;>cases a4<;>simp
end Go.Abs
namespace Go.Abs
def cG.j3 (c:cG):List Int:=[c.v.major,c.v.minor,c.v.patch]
def eZ (c:cG):Nat->au
 |0=>[]
 |i+1=>eZ c i++(if 0<i then [46]else [])++dw (c.j3[i]!).toNat
def jA (c:cG):au:=if c.op=9 then(if 0<c.parts then [46]else [])++[42]else if c.v.pre=[]then []else 45::c.v.pre
def jW (c:cG):au:=cR c.op++eZ c c.parts.toNat++jA c
def dk (c:cG):au:=if jC c=true then jW c else []
def oy {c:cG}(h:eF c.v=true)(i:Nat):0<=c.j3[i]! /\c.j3[i]! <=9999:=by
 simp only[eF,kN,aZ,aR]at h
 match i with
 |0=>exact h.1.1.1.1
 |1=>exact h.1.1.1.2
 |2=>exact h.1.1.2
 |k+3=>exact(by simp[cG.j3]:0<=c.j3[k+3]! /\c.j3[k+3]! <=9999)
def pg {c:cG}(h:eF c.v=true):∀i,(eZ c i).length<=5*i
 |0=>by simp[eZ]
 |i+1=>by
  have:=pg h i;have hn:=oy h i;have:=dT 4 (c.j3[i]!).toNat ae ae;simp only[eZ,bA];split
  ·simp only[List.length_singleton];omega
  ·simp only[az];omega
def mz {c:cG}(h:jC c=true):eF c.v=true/\0<=c.parts/\c.parts<=3/\1<=c.op/\c.op<=9:=by
 simp only[jC,aZ,aR]at h;obtain⟨⟨⟨⟨⟨⟨⟨h1,h2⟩,h3⟩,h4⟩,h5⟩,h6⟩,h7⟩,h8⟩:=h;refine⟨h3, ?_, ?_,h1,h2⟩
 ·split at h5<;>omega
 ·split at h6<;>omega
end Go.Abs
namespace Go.Abs
def j6 (c:cG):List au:=(c.j3.map fun n=>dw n.toNat).take c.parts.toNat
def xb (c:cG):∀i,i<=3->bc [46] ((c.j3.map fun n=>dw n.toNat).take i)=eZ c i
 |0,_=>by simp[bc,eZ]
 |i+1,h=>by
  have hl:i<(c.j3.map fun n=>dw n.toNat).length:=by simp[cG.j3];omega
  have hl2:i<c.j3.length:=by show i<3;omega
  rw[nb _ _ _ hl,xb c i ae];simp only[eZ];have e:(c.j3.map fun n=>dw n.toNat)[i]! =dw (c.j3[i]!).toNat:=by simp[hl2]
  rw[e];split
  ·simp
  ·obtain rfl:i=0:=ae;simp[eZ]
def AW {c:cG}(h:c.parts<=3):(j6 c).length=c.parts.toNat:=by
 simp[j6,cG.j3];omega
def xE {c:cG}(h:c.parts<=3):bc [46] (j6 c)=eZ c c.parts.toNat:=xb c _ ae
def sz {c:cG}(h0:0<=c.parts)(h:c.parts<=3):bc [46] (j6 c++[[42]])=eZ c c.parts.toNat++((if 0<c.parts then [46]else [])++[42]):=by
 by_cases hp:0<c.parts
 ·rw[p9 _ _ _ (by intro hn;have:=aj List.length hn;rw[AW h]at this;simp only[az]at this;omega),xE h,av hp];simp
 ·have:c.parts.toNat=0:=ae;rw[ai hp,this];have e:j6 c=[]:=by simp[j6,this]
  rw[e];rfl
end Go.Abs
namespace Go.Abs
def opsL:List Int:=[2,4,6,1,3,5,7,8]
def nq (s:au)(i:Nat):Option Int:=(opsL.drop i).find? fun o=>nJ s (cR o)
def eS (s:au):Int×au:=match nq s 0 with
 |some o=>(o,s.drop (cR o).length)
 |none=>if 0<s.length/\at8 s (s.length-1)=42 then(9,s)else(7,s)
def Dv {s:au}{i:Nat}(h:i<8)(hb:nJ s (cR opsL[i]!)=true):nq s i=some opsL[i]! :=by
 have hl:i<opsL.length:=h;unfold nq;rw[kt hl,List.find?_cons];rw[show opsL[i]! =opsL[i]by simp[hl]]at hb⊢;rw[hb]
def Dw {s:au}{i:Nat}(h:i<8)(hb:nJ s (cR opsL[i]!)=false):nq s i=nq s (i+1):=by
 have hl:i<opsL.length:=h;unfold nq;rw[kt hl,List.find?_cons];rw[show opsL[i]! =opsL[i]by simp[hl]]at hb;rw[hb]
def uO {s:au}{i:Nat}(h:8<=i):nq s i=none:=by
 unfold nq;rw[mj h];rfl
def fL (s:au)(i:Nat):au×au:=match(s.drop i).findIdx? (fun c=>c==45)with
 |some k=>(s.take (i+k),s.drop (i+k+1))
 |none=>(s,[])
def DA {s:au}{i:Nat}(h:i<s.length)(he:at8 s i=45):fL s i=(s.take i,s.drop (i+1)):=by
 unfold fL;rw[lO s i h,List.findIdx?_cons];have:s.getD i 0=45:=jR.1 (by simp only[at8]at he;show(s.getD i 0).toNat=45;omega);rw[this];rfl
def DB {s:au}{i:Nat}(h:i<s.length)(he:¬at8 s i=45):fL s i=fL s (i+1):=by
 unfold fL;rw[lO s i h,List.findIdx?_cons];have:(s.getD i 0==45)=false:=by
  rw[beq_eq_false_iff_ne];intro e;exact he (by simp only[at8,e];rfl)
 rw[this];simp only[et,bn];cases(s.drop (i+1)).findIdx? (fun c=>c==45)with
 |none=>rfl
 |some k=>simp only[Option.map_some];rw[show i+(k+1)=i+1+k by omega]
def Ab {s:au}{i:Nat}(h:s.length<=i):fL s i=(s,[]):=by
 unfold fL;rw[mj h];rfl
end Go.Abs
namespace Go.Abs
def ei (l:List au):Bool:=decide (l.length<=3)&&cr (fun i=>gp l[i]!) 0 l.length
def Hx (l:List au):bX:=⟨if 0<l.length then iF l[0]! else 0,if 1<l.length then iF l[1]! else 0,if 2<l.length then iF l[2]! else 0,[],[]⟩
def tm (l:List au):bX:=if ei l=true then Hx l else pC
end Go.Abs
namespace Go.Abs
def dF:cG:=⟨0,0,pC⟩
def xk (op:Int)(l:List au):List au:=if op=9 then l.take (l.length-1)else l
def eX (op:Int)(l:List au)(pre:au):cG:=⟨op,(l.length:Nat),{Hx l with pre:=pre}⟩
def sQ (s:au)(op:Int)(l:List au)(pre:au):Bool:=ei l&& !(decide (dk (eX op l pre)=[]) ||(!decide (dk (eX op l pre)=s)&& !decide (dk (eX op l pre)=94::s)))
def dJ (s:au):Option cG:=
 let o:=eS s
 let p:=fL o.2 0
 let l:=xk o.1 (ar p.1 46)
 if sQ s o.1 l p.2=true then some (eX o.1 l p.2)else none
def vu (s:au):(eS s).2.length<=s.length:=by
 unfold eS;split
 ·simp
 ·split<;>exact aY _
def uV (s:au):(fL s 0).1.length<=s.length/\(fL s 0).2.length<=s.length:=by
 unfold fL;split<;>simp<;>omega
end Go.Abs
namespace Go.Abs
def c8 (s:au):Int×au:=match nq s 0 with
 |some o=>(o,s.drop (cR o).length)
 |none=>(9,s)
def ef (s:au):au×au:=fL (c8 s).2 0
def dR (s:au):List au:=xk (c8 s).1 (ar (ef s).1 46)
def lG (s:au):Prop:=(c8 s).1=9->(ar (ef s).1 46)[(ar (ef s).1 46).length-1]! =[42]
instance (s:au):Decidable (lG s):=by unfold lG;exact inferInstance
def dX (s:au):cG:=eX (c8 s).1 (dR s) (ef s).2
def fq (s:au):Option cG:=if lG s/\ei (dR s)=true/\jC (dX s)=true/\dk (dX s)=s then some (dX s)else none
def Dt (l:List au)(i:Nat):bX:=⟨if 0<i then iF l[0]! else 0,if 1<i then iF l[1]! else 0,if 2<i then iF l[2]! else 0,[],[]⟩
def Fa (s:au):(c8 s).2.length<=s.length:=by
 unfold c8;split<;>simp
def je {s:au}(h:¬(lG s/\ei (dR s)=true/\jC (dX s)=true/\dk (dX s)=s)):fq s=none:=by
 unfold fq;rw[ai h]
end Go.Abs
namespace Go.Abs
def jv (s:au):Option cG:=if(fq s).isSome=true then fq s else fq (94::s)
def AV (c:cG):bK:=.buf 1 [.str (dw c.v.major.toNat),.str (dw c.v.minor.toNat),.str (dw c.v.patch.toNat)]
def vB (c:cG):[D.str (dw c.v.major.toNat),D.str (dw c.v.minor.toNat),D.str (dw c.v.patch.toNat)].take c.parts.toNat=(j6 c).map D.str:=by
 unfold j6 cG.j3;rw[List.map_take];rfl
def Ku {c:cG}{m:List (Nat×bK)}{l:Nat}(hl:look m l=some (AV c)):xV m [.sl 1 [.a]] (.own l 1 0 c.parts.toNat)=.sl 1 ((j6 c).map D.str):=by
 show D.sl 1 _=_;simp only[bf,hl,AV,dx,vB,List.map_map];congr 1
def Iz {c:cG}{m:List (Nat×bK)}{l:Nat}(h:c.parts<=3)(hl:look m l=some (AV c)):IX m [.sl 1 [.a]] (.own l 1 0 c.parts.toNat):=by
 simp only[IX,Lj,Li];refine⟨by simp[fm,hl,AV];omega, ?_⟩;simp only[bf,hl,AV,dx,vB];intro e he;obtain⟨x,_,rfl⟩:=eI.1 he;trivial
end Go.Abs
end
namespace Go.Abs
def oV {c:cG}(h:dk c≠[]):jC c=true/\dk c=jW c:=by
 unfold dk at h⊢;split at h
 ·rename_i hb;exact⟨hb,av hb⟩
 ·exact absurd rfl h
def yy {s:au}{op:Int}{l:List au}{pre:au}:sQ s op l pre=true↔ei l=true/\dk (eX op l pre)≠[]/\(dk (eX op l pre)=s\/dk (eX op l pre)=94::s):=by
 simp only[sQ,aZ,bB,dc,bx,dr,bY,aR]
def sd (c:UInt8):Prop:=c≠33/\c≠60/\c≠61/\c≠62/\c≠94/\c≠126
def n6 {c:UInt8}(h:bg c.toNat=true):sd c/\c≠42:=by
 simp only[bg,aZ,aR]at h;refine⟨⟨?_, ?_, ?_, ?_, ?_, ?_⟩, ?_⟩<;>rintro rfl<;>revert h<;>decide
def zX {k:cG}:∀(i:Nat)(c:UInt8),c∈eZ k i->bg c.toNat=true\/c=46
 |0,c,h=>by simp[eZ]at h
 |i+1,c,h=>by
  simp only[eZ,List.mem_append]at h;rcases h with(h|h)|h
  ·exact zX i c h
  ·split at h
   ·exact .inr (cJ.1 h)
   ·cases h
  ·exact .inl (n4 _ c h)
def uL (k:cG):∀i,0<i->∃c r,eZ k i=c::r/\bg c.toNat=true
 |0,h=>ae
 |1,_=>by
  have hd:=n4 (k.j3[0]!).toNat;have hn:=Jq (k.j3[0]!).toNat;simp only[eZ,Nat.lt_irrefl,bn,eG];generalize dw (k.j3[0]!).toNat=w at hd hn
  match w,hn with
  |c::r,_=>exact⟨c,r,rfl,hd c (.head _)⟩
 |i+2,_=>by
  obtain⟨c,r,h1,h2⟩:=uL k (i+1) ae;refine⟨c,r++(if 0<i+1 then [46]else [])++dw (k.j3[i+1]!).toNat, ?_,h2⟩;show eZ k (i+1)++_++_=_;rw[h1];simp
def En {c:cG}(h:jC c=true)(h9:c.op≠9):0<c.parts.toNat:=by
 simp only[jC,aZ,aR]at h;have:=h.1.1.1.2;rw[ai h9]at this;omega
def E2 {s:au}{o:Int}(h:nq s 0=some o):1<=o/\o<=8/\∃x t,s=x::t/\¬sd x/\(x=94->o=7):=by
 have hm:=List.mem_of_find?_eq_some h;have hb:=List.find?_some h;simp only[nJ,aZ,aR]at hb;obtain⟨h1,h2⟩:=hb;have hne:s≠[]\/cR o=[]:=by
  by_cases e:s=[]
  ·right;subst e;simpa using h1
  ·exact .inl e
 simp only[opsL,dx,dy,fK,or_false]at hm;have key:∀w:au,w≠[]->s.take w.length=w->∃x t t',s=x::t/\w=x::t':=by
  intro w hw hs
  match w,hw with
  |x::t',_=>
   match s with
   |[]=>simp at hs
   |y::t=>
    simp only[ay,List.take_succ_cons,kv]at hs;exact⟨x,t,t',by rw[hs.1],rfl⟩
 rcases hm with rfl|rfl|rfl|rfl|rfl|rfl|rfl|rfl
 all_goals
  refine⟨ae,ae, ?_⟩;obtain⟨x,t,t',e1,e2⟩:=key _ aM h2;have hxx:=aj (fun w:au=>w.headD 0) e2;simp only[List.headD_cons]at hxx;refine⟨x,t,e1, ?_, ?_⟩
  ·rw[<-hxx];unfold sd;decide
  ·rw[<-hxx];decide
def uN (t:au):nq (94::t) 0=some 7:=by
 unfold nq opsL;have hn:∀w:au,w≠[]->w.headD 0≠94->nJ (94::t) w=false:=by
  intro w hw hx
  match w,hw with
  |x::r,_=>
   unfold nJ;rw[dr];right;rw[bx];intro h;simp only[ay,List.take_succ_cons,kv]at h;exact hx h.1.symm
 have hy:nJ (94::t) (cR 7)=true:=by
  unfold nJ;rw[show cR 7=[94]by decide];simp
 simp only[dx,List.find?_cons,hn _ (show cR 2≠[]by decide) aM,hn _ (show cR 4≠[]by decide) aM,hn _ (show cR 6≠[]by decide) aM,hn _ (show cR 1≠[]by decide) aM,
  hn _ (show cR 3≠[]by decide) aM,hn _ (show cR 5≠[]by decide) aM,hy]
def Af (t:au):c8 (94::t)=(7,t):=by
 simp only[c8,uN];rw[show cR 7=[94]by decide];rfl
def vv (b:Int):∀(s cur:au),∃r l,ch b s cur=(cur++r)::l
 |[],cur=>⟨[],[],by simp[ch]⟩
 |c::s,cur=>by
  simp only[ch];split
  ·exact⟨[],_,by rw[jq]⟩
  ·obtain⟨r,l,h⟩:=vv b s (cur++[c]);exact⟨c::r,l,by rw[h];simp⟩
def FJ {x:UInt8}{t:au}(h:¬sd x):ei (ar (fL (x::t) 0).1 46)=false:=by
 have hx:x≠45/\x≠46/\bg x.toNat=false:=by
  refine⟨?_, ?_, ?_⟩
  ·rintro rfl;exact h (by unfold sd;decide)
  ·rintro rfl;exact h (by unfold sd;decide)
  ·cases hd:bg x.toNat with
   |false=>rfl
   |true=>exact absurd (n6 hd).1 h
 have hp:∃r,(fL (x::t) 0).1=x::r:=by
  unfold fL;rw[dx,List.findIdx?_cons];rw[ai (by simpa using hx.1)];cases t.findIdx? (fun c=>c==45)with
  |none=>exact⟨t,rfl⟩
  |some k=>exact⟨t.take k,aT⟩
 obtain⟨r,hr⟩:=hp;rw[hr];have h46:¬((x.toNat:Int)=46):=fun e=>hx.2.1 (jR.1 (by show x.toNat=46;omega))
 obtain⟨q,l,hs⟩:=vv 46 r [x];have e:ar (x::r) 46=(x::q)::l:=by
  unfold ar;simp only[ch];rw[ai h46];simpa using hs
 rw[e];unfold ei;rw[dr];right;rw[aK aT];have hn:gp ((x::q)::l)[0]! =false:=by
  show gp (x::q)=false;rw[B1];rw[aK aT];have:bg (at8 (x::q) 0)=false:=by simpa[at8]using hx.2.2
  rw[this];simp
 rw[hn];rfl
def La {s:au}(h:eS s=c8 s):dJ s=if sQ s (c8 s).1 (dR s) (ef s).2=true then some (dX s)else none:=by
 unfold dJ;simp only[h];rfl
def vg {s:au}:fq s=if lG s/\ei (dR s)=true/\jC (dX s)=true/\dk (dX s)=s then some (dX s)else none:=rfl
def E8 {s:au}(h:∀c∈s,c≠45):fL s 0=(s,[]):=by
 unfold fL;rw[dx,List.findIdx?_eq_none_iff.2 (fun c hc=>by simpa using h c hc)]
def xx {k:cG}(hb:jC k=true)(h9:k.op=9):jW k=bc [46] (j6 k++[[42]]):=by
 obtain⟨_,h0,h3,_,_⟩:=mz hb;rw[sz h0 h3];unfold jW jA;rw[av h9,h9];rfl
def oN {k:cG}{w:au}(h:w∈j6 k++[[42]]){c:UInt8}(hc:c∈w):bg c.toNat=true\/c=42:=by
 rcases List.mem_append.1 h with h|h
 ·have:=oQ h;obtain⟨n,_,rfl⟩:=eI.1 this;exact .inl (n4 _ c hc)
 ·obtain rfl:=cJ.1 h;exact .inr (cJ.1 hc)
def xw {k:cG}{s:au}(hb:jC k=true)(h9:k.op=9)(hs:jW k=s):(0<s.length/\at8 s (s.length-1)=42)/\fL s 0=(s,[])/\ar s 46=j6 k++[[42]]:=by
 have ht:=xx hb h9;obtain⟨_,h0,h3,_,_⟩:=mz hb;rw[hs]at ht;have hch:∀c∈s,bg c.toNat=true\/c=42\/c=46:=by
  intro c hc;rw[ht]at hc;rcases pd 46 _ c hc with h|⟨w,hw,hcw⟩
  ·exact .inr (.inr h)
  ·rcases oN hw hcw with h|h
   ·exact .inl h
   ·exact .inr (.inl h)
 refine⟨?_,E8 (fun c hc=>?_), ?_⟩
 ·have he:∃q,s=q++[42]:=by
   rw[ht,sz h0 h3];exact⟨eZ k k.parts.toNat++(if 0<k.parts then [46]else []),by rw[dG]⟩
  obtain⟨q,rfl⟩:=he;simp[at8]
 ·rintro rfl;rcases hch 45 hc with h|h|h
  ·revert h;decide
  ·revert h;decide
  ·revert h;decide
 ·rw[ht];refine sV (b:=46) (x:=46) rfl aT fun w hw c hc=>?_
  rcases oN hw hc with h|h
  ·have:=(GR h).1;omega
  ·rw[h];decide
def ua {k:cG}{s:au}(hb:jC k=true)(h7:k.op=7)(hs:jW k=94::s):(∀c∈s,c≠42)/\∃c r,s=c::r/\bg c.toNat=true:=by
 have hp:=En hb ae;have e:s=eZ k k.parts.toNat++jA k:=by
  unfold jW at hs;rw[h7,show cR 7=[94]by decide]at hs;simpa using hs.symm
 obtain⟨c,r,h1,h2⟩:=uL k _ hp;refine⟨fun c hc=>?_,c,r++jA k,by rw[e,h1];rfl,h2⟩;rw[e]at hc;rcases List.mem_append.1 hc with hc|hc
 ·rcases zX _ c hc with h|h
  ·exact(n6 h).2
  ·rw[h];decide
 ·unfold jA at hc;rw[ai ae]at hc;split at hc
  ·cases hc
  ·rcases dy.1 hc with rfl|hc
   ·decide
   ·have hv:=(mz hb).1;simp only[eF,aZ]at hv;rcases Iv hv.1.2 hc with h|h
    ·rintro rfl;revert h;decide
    ·rw[h];decide
def tI {s:au}:sQ s (c8 s).1 (dR s) (ef s).2=true↔ei (dR s)=true/\dk (dX s)≠[]/\(dk (dX s)=s\/dk (dX s)=94::s):=yy
def GL (s:au):jv s=dJ s:=by
 have hcar:c8 (94::s)=(7,s):=Af s;have hL7:dR (94::s)=ar (fL s 0).1 46:=by
  unfold dR ef;rw[hcar];rfl
 have hK7:dX (94::s)=eX 7 (ar (fL s 0).1 46) (fL s 0).2:=by
  unfold dX;rw[hL7];unfold ef;rw[hcar]
 cases ho:nq s 0 with
 |some o=>
  obtain⟨o1,o8,x,t,hs,hx,hx94⟩:=E2 ho;have hrw:c8 s=(o,s.drop (cR o).length):=by simp only[c8,ho]
  have hsp:eS s=c8 s:=by rw[hrw];simp only[eS,ho]
  have hstar:lG s:=by
   intro h;rw[hrw]at h;simp only at h;omega
  have hcn:fq (94::s)=none:=je fun h=>by
   have:=h.2.1;rw[hL7,hs,FJ hx]at this;cases this
  have hop:(dX s).op=o:=by show(c8 s).1=o;rw[hrw]
  rw[La hsp];by_cases hk:ei (dR s)=true/\dk (dX s)=s
  ·have hne:dk (dX s)≠[]:=by rw[hk.2,hs];simp
   have hb:=(oV hne).1;have hr:fq s=some (dX s):=by rw[vg,av ⟨hstar,hk.1,hb,hk.2⟩]
   have hok:sQ s (c8 s).1 (dR s) (ef s).2=true:=tI.2 ⟨hk.1,hne,.inl hk.2⟩;rw[av hok];unfold jv;rw[hr];rfl
  ·have hr:fq s=none:=je fun h=>hk ⟨h.2.1,h.2.2.2⟩
   have hok:¬sQ s (c8 s).1 (dR s) (ef s).2=true:=fun h=>by
    obtain⟨h1,h2,h3⟩:=tI.1 h;rcases h3 with h3|h3
    ·exact hk ⟨h1,h3⟩
    ·obtain⟨hb,he⟩:=oV h2;have h3':jW (dX s)=94::s:=by rw[<-he];exact h3
     have h7:o=7:=by
      have hh:∃y w,cR o=y::w/\(y=94->o=7):=by
       have:o=1\/o=2\/o=3\/o=4\/o=5\/o=6\/o=7\/o=8:=ae;rcases this with rfl|rfl|rfl|rfl|rfl|rfl|rfl|rfl
       ·exact⟨61,[],aM,aM⟩
       ·exact⟨33,[61],aM,aM⟩
       ·exact⟨60,[],aM,aM⟩
       ·exact⟨60,[61],aM,aM⟩
       ·exact⟨62,[],aM,aM⟩
       ·exact⟨62,[61],aM,aM⟩
       ·exact⟨94,[],aM,aM⟩
       ·exact⟨126,[],aM,aM⟩
      obtain⟨y,w,e1,e2⟩:=hh;unfold jW at h3';rw[hop,e1]at h3';simp only[fk,kv]at h3';exact e2 h3'.1
     obtain⟨_,c,r,e1,e2⟩:=ua hb (by rw[hop];exact h7) h3';rw[hs]at e1;simp only[kv]at e1;rw[<-e1.1]at e2;exact hx (n6 e2).1
   rw[ai hok];unfold jv;rw[hr,ai aT,hcn]
 |none=>
  have hrw:c8 s=(9,s):=by simp only[c8,ho]
  have h94:∀t,s≠94::t:=by
   rintro t rfl;rw[uN]at ho;cases ho
  have hop:(dX s).op=9:=by show(c8 s).1=9;rw[hrw]
  have hst7:lG (94::s):=by
   intro h;rw[hcar]at h;simp only at h;omega
  by_cases hl:0<s.length/\at8 s (s.length-1)=42
  ·have hsp:eS s=c8 s:=by rw[hrw];simp only[eS,ho,av hl]
   have hcn:fq (94::s)=none:=je fun h=>by
    obtain⟨_,h2,h3,h4⟩:=h;have he:=(oV (c:=dX (94::s)) (by rw[h4];simp)).2;rw[h4]at he;have hno:=(ua h3 (by rw[hK7];rfl) he.symm).1;have hmem:s[s.length-1]'(ae)∈s:=List.getElem_mem _;refine hno _ hmem (jR.1 ?_);have:=hl.2;rw[xS s _ ae]at this;show _=42;omega
   rw[La hsp];by_cases hk:ei (dR s)=true/\dk (dX s)=s
   ·have hne:dk (dX s)≠[]:=by
     rw[hk.2];intro h;rw[h]at hl;simp at hl
    obtain⟨hb,he⟩:=oV hne;obtain⟨_,g2,g3⟩:=xw (s:=s) hb hop (he.symm.trans hk.2);have hstar:lG s:=by
     intro _;have hP:ef s=(s,[]):=by unfold ef;rw[hrw];exact g2
     rw[hP];simp only;rw[g3];simp
    have hr:fq s=some (dX s):=by rw[vg,av ⟨hstar,hk.1,hb,hk.2⟩]
    have hok:sQ s (c8 s).1 (dR s) (ef s).2=true:=tI.2 ⟨hk.1,hne,.inl hk.2⟩;rw[av hok];unfold jv;rw[hr];rfl
   ·have hr:fq s=none:=je fun h=>hk ⟨h.2.1,h.2.2.2⟩
    have hok:¬sQ s (c8 s).1 (dR s) (ef s).2=true:=fun h=>by
     obtain⟨h1,h2,h3⟩:=tI.1 h;rcases h3 with h3|h3
     ·exact hk ⟨h1,h3⟩
     ·obtain⟨hb,he⟩:=oV h2;have h3':jW (dX s)=94::s:=by rw[<-he];exact h3
      have ht:=xx hb hop;rw[h3']at ht;have hm:(94:UInt8)∈bc [46] (j6 (dX s)++[[42]]):=by rw[<-ht];simp
      rcases pd 46 _ _ hm with h|⟨w,hw,hcw⟩
      ·revert h;decide
      ·rcases oN hw hcw with h|h
       ·revert h;decide
       ·revert h;decide
    rw[ai hok];unfold jv;rw[hr,ai aT,hcn]
  ·have hsp:eS s=(7,s):=by simp only[eS,ho,ai hl]
   have hr:fq s=none:=je fun h=>by
    obtain⟨h1,h2,h3,h4⟩:=h;have he:jW (dX s)=s:=(av h3:dk (dX s)=jW (dX s)).symm.trans h4;exact hl (xw h3 hop he).1
   have h6:dJ s=if sQ s 7 (ar (fL s 0).1 46) (fL s 0).2=true then some (dX (94::s))else none:=by
    unfold dJ;simp only[hsp];rw[hK7];rfl
   have hRC:jv s=fq (94::s):=by
    unfold jv;rw[hr];rfl
   rw[hRC,h6,vg];by_cases hok:sQ s 7 (ar (fL s 0).1 46) (fL s 0).2=true
   ·rw[av hok];obtain⟨h1,h2,h3⟩:=yy.1 hok;obtain⟨hb,he⟩:=oV h2;rcases h3 with h3|h3
    ·exfalso;rw[he]at h3;have hh:∃w,jW (eX 7 (ar (fL s 0).1 46) (fL s 0).2)=94::w:=by
      unfold jW;exact⟨_,rfl⟩
     obtain⟨w,hw⟩:=hh;exact h94 w (by rw[<-h3,hw])
    ·rw[av ⟨hst7,by rw[hL7];exact h1,by rw[hK7];exact hb,by rw[hK7];exact h3⟩]
   ·rw[ai hok,ai];rintro⟨_,g2,g3,g4⟩;rw[hK7]at g3 g4;rw[hL7]at g2;exact hok (yy.2 ⟨g2,by rw[g4];simp,.inr g4⟩)
abbrev Alt:=List cG
abbrev pF:=List Alt
def nV (a:Alt):D:=.sl 7 (a.map cG.D)
def Bl (a:Alt):(nV a).bG=true:=rfl
def lP (l k:Nat)(es:List D)(r:List Alt):rz l k es (r.map nV)=r.map nV:=uq l k es _ (fQ Bl _)
def dV (r:pF):D:=.agg [.sl 1 (r.map nV)]
def iV (a:Alt):Bool:=decide (1<=a.length)&&decide (a.length<=6)&&cr (fun k=>jC a[k]!) 0 a.length
def hE (r:pF):Bool:=decide (1<=r.length)&&decide (r.length<=6)&&cr (fun i=>iV r[i]!) 0 r.length
def ie (a:Alt):au:=bc [44,32] (a.map dk)
def vr (r:pF):au:=bc [32,124,124,32] (r.map ie)
def cG.lo (c:cG):Prop:=c.v.pre.length<=1000/\c.v.build.length<=1000
def cG.lo.sm {c:cG}(h:c.lo):c.v.sm:=⟨cW h.1 aM,cW h.2 aM⟩
def gF (r:pF):Prop:=∀a∈r,∀c∈a,c.lo
def pB (b:au)(l:List au)(i:Nat):au:=if 0<i then bc b (l.take i)++b else []
def rX (b:au)(l:List au)(i:Nat)(h:i<l.length):bc b (l.take (i+1))=pB b l i++l[i]! :=nb b l i h
def HO (b:au)(l:List au){i:Nat}(h:¬0<i):bc b (l.take i)=pB b l i:=by
 obtain rfl:i=0:=ae;simp[pB,bc]
def ub {c:cG}(h:c.lo):(dk c).length<=1100:=by
 unfold dk;split
 ·rename_i hb;obtain⟨hv,h0,h3,_⟩:=mz hb;have h1:=sk c.op;have h2:=pg hv c.parts.toNat;have ht:(jA c).length<=1001:=by
   unfold jA;have:=h.1;split
   ·split<;>simp
   ·split
    ·simp
    ·simp only[ay];omega
  simp only[jW,bA];omega
 ·simp
def om (b:au)(M:Nat):∀(l:List au),(∀t∈l,t.length<=M)->(bc b l).length<=l.length*(M+b.length)
 |[],_=>by simp[bc]
 |[t],h=>by
  have:=h t (.head _);simp only[bc,List.length_singleton,Nat.one_mul];omega
 |t::u::r,h=>by
  have h1:=h t (.head _);have h2:=om b M (u::r) fun x hx=>h x (.tail _ hx)
  simp only[bc,bA];simp only[ay,Nat.add_mul,Nat.one_mul]at h2⊢;omega
def yr {α β:Type} [Inhabited α] [Inhabited β](f:α->β)(l:List α){i:Nat}(h:i<l.length):(l.map f)[i]! =f l[i]! :=by
 simp[h]
def tQ {a:Alt}(h:∀c∈a,c.lo)(hl:a.length<=6):(ie a).length<=6612:=by
 have:=om [44,32] 1100 (a.map dk) (fun t ht=>by
  obtain⟨c,hc,rfl⟩:=eI.1 ht;exact ub (h c hc))
 simp only[cI]at this;have h2:a.length*(1100+([44,32]:au).length)<=6*1102:=Nat.mul_le_mul hl aM;unfold ie;omega
def uh {r:pF}(h:hE r=true){i:Nat}(hi:i<r.length):iV r[i]! =true:=by
 simp only[hE,aZ,aR]at h;exact fX.1 h.2 i ae hi
def rE {a:Alt}(h:iV a=true):1<=a.length/\a.length<=6:=by
 simp only[iV,aZ,aR]at h;exact h.1
def Ir {r:pF}(h:hE r=true)(hs:gF r):(vr r).length<=40000:=by
 have h6:r.length<=6:=by simp only[hE,aZ,aR]at h;exact h.1.2
 have:=om [32,124,124,32] 6612 (r.map ie) (fun t ht=>by
  obtain⟨a,ha,rfl⟩:=eI.1 ht;obtain⟨i,hi,rfl⟩:=List.mem_iff_getElem.1 ha;have h1:=uh h hi;rw[show r[i]! =r[i]by simp[hi]]at h1;exact tQ (hs _ ha) (rE h1).2)
 simp only[cI]at this;have h2:r.length*(6612+([32,124,124,32]:au).length)<=6*6616:=Nat.mul_le_mul h6 aM;unfold vr;omega
def gz {α β:Type} [Inhabited α](f:α->β)(l:List α){i:Nat}(h:i<l.length):(l.map f).take (i+1)=(l.map f).take i++[f l[i]!]:=by
 rw[List.take_add_one];simp[h]
def nO (r:pF):Bool:=hE r&&decide ((vr r).length<=96)
def oH (r:pF):au:=if nO r=true then vr r else []
def aD:au->au->List au
 |[],cur=>[cur]
 |[c],cur=>[cur++[c]]
 |c::d::r,cur=>if c=124/\d=124 then cur::aD r []else aD (d::r) (cur++[c])
def iW:au->au
 |[]=>[]
 |c::r=>if c=32 then iW r else c::r
def dI (s:au):au:=(iW (iW s).reverse).reverse
def mq:∀s,(iW s).length<=s.length
 |[]=>aY _
 |c::r=>by
  unfold iW;split
  ·have:=mq r;simp only[ay];omega
  ·exact aY _
def rI (s:au):(dI s).length<=s.length:=by
 have h1:=mq s;have h2:=mq (iW s).reverse;simp only[List.length_reverse]at h2;simp only[dI,List.length_reverse];omega
def lF:∀(s cur:au),(aD s cur).length<=s.length+1/\(∀t∈aD s cur,t.length<=cur.length+s.length)
 |[],cur=>by simp[aD]
 |[c],cur=>by simp[aD]
 |c::d::r,cur=>by
  unfold aD;split
  ·have:=lF r [];refine⟨by simp only[ay];omega,fun t ht=>?_⟩;rcases dy.1 ht with rfl|ht
   ·simp
   ·have:=this.2 t ht;simp only[az,ay]at this⊢;omega
  ·have:=lF (d::r) (cur++[c]);refine⟨by have:=this.1;simp only[ay]at this⊢;omega,fun t ht=>?_⟩;have:=this.2 t ht;simp only[bA,ay,az]at this⊢;omega
def Sb (t:au):Bool:=cr (fun k=>(dJ (dI (ar t 44)[k]!)).isSome) 0 (ar t 44).length
def vo (s:au):Bool:=cr (fun i=>Sb (aD s [])[i]!) 0 (aD s []).length
def kf (t:au):Alt:=(ar t 44).map fun x=>(dJ (dI x)).getD dF
def gr (s:au):pF:=(aD s []).map kf
def e8 (s:au):pF×Int:=
 if 96<s.length then([],3)else if vo s=false then([],6)else if hE (gr s)=false then([],6)else if 96<(vr (gr s)).length then([],3)else(gr s,0)
def lT (s:au):Bool:=decide ((e8 s).2=0)&&decide (oH (e8 s).1=s)
def GJ {s:au}(h:s.length<=1000):((dJ s).getD dF).lo:=by
 unfold dJ;simp only;split
 ·have h1:=vu s;have h2:=uV (eS s).2;exact⟨by show(fL (eS s).2 0).2.length<=1000;omega,by show([]:au).length<=1000;decide⟩
 ·exact⟨by show([]:au).length<=1000;decide,by show([]:au).length<=1000;decide⟩
def yQ {s:au}(h:s.length<=1000):gF (gr s):=by
 intro a ha c hc;obtain⟨t,ht,rfl⟩:=eI.1 ha;obtain⟨x,hx,rfl⟩:=eI.1 hc;have h1:=(lF s []).2 t ht;have h2:=gS t 44 hx;have h3:=rI x;simp only[az]at h1;exact GJ ae
def DL {s:au}:gF (e8 s).1/\((e8 s).2=0->hE (e8 s).1=true):=by
 unfold e8;split
 ·exact⟨(fun a ha=>by cases ha),fun h=>by cases h⟩
 ·split
  ·exact⟨(fun a ha=>by cases ha),fun h=>by cases h⟩
  ·split
   ·exact⟨(fun a ha=>by cases ha),fun h=>by cases h⟩
   ·rename_i hf;split
    ·exact⟨(fun a ha=>by cases ha),fun h=>by cases h⟩
    ·exact⟨yQ ae,fun _=>by simpa using hf⟩
def CA {s:au}{i:Nat}(cur:au)(h:i+1<s.length)(h1:at8 s i=124)(h2:at8 s (i+1)=124):aD (s.drop i) cur=cur::aD (s.drop (i+2)) []:=by
 rw[lO s i ae,lO s (i+1) h];have e1:s.getD i 0=124:=jR.1 (by simp only[at8]at h1;show(s.getD i 0).toNat=124;omega);have e2:s.getD (i+1) 0=124:=jR.1 (by simp only[at8]at h2;show(s.getD (i+1) 0).toNat=124;omega);rw[e1,e2];simp only[aD,iM,br]
def AO {s:au}{i:Nat}(cur:au)(h:i+1<s.length)(hn:¬(at8 s i=124/\at8 s (i+1)=124)):aD (s.drop i) cur=aD (s.drop (i+1)) (cur++[s.getD i 0]):=by
 rw[lO s i ae,lO s (i+1) h];simp only[aD];rw[ai];rintro⟨e1,e2⟩;exact hn ⟨by simp only[at8,e1];rfl,by simp only[at8,e2];rfl⟩
def Cz {s:au}{i:Nat}(cur:au)(h:s.length<=i+1):aD (s.drop i) cur=[cur++s.drop i]:=by
 have hl:(s.drop i).length<=1:=by rw[qA];omega
 match s.drop i,hl with
 |[],_=>simp[aD]
 |[c],_=>simp[aD]
def GO {s:au}{i fr:Nat}(h:i<s.length)(hf:fr<=i):(s.take i).drop fr++[s.getD i 0]=(s.take (i+1)).drop fr:=by
 rw[List.take_add_one,List.drop_append_of_le_length (by rw[fU];omega)];simp[h]
def pG (s:au)(i fr:Nat)(acc:List au):Prop:=aD s []=acc++aD (s.drop (max i fr)) ((s.take (max i fr)).drop fr)
def Ec {s:au}{i fr:Nat}{acc:List au}(hI:pG s i fr acc)(h:i+1<s.length)(hc:(at8 s i=124/\at8 s (i+1)=124)/\(fr:Int)<=i):pG s (i+1) (i+2) (acc++[(s.take i).drop fr]):=by
 unfold pG at hI⊢;rw[hI,Nat.max_eq_left ae,CA _ h hc.1.1 hc.1.2,Nat.max_eq_right ae,show(s.take (i+2)).drop (i+2)=[]from mj (by rw[fU];omega)];simp
def Gq {s:au}{i fr:Nat}{acc:List au}(hI:pG s i fr acc)(h:i+1<s.length)(hf:fr<=i+1)(hc:(¬at8 s i=124\/¬at8 s (i+1)=124)\/¬(fr:Int)<=i):pG s (i+1) fr acc:=by
 unfold pG at hI⊢;by_cases hl:fr<=i
 ·rw[hI,Nat.max_eq_left hl,AO _ h (by rcases hc with(hc|hc)|hc;exact fun h=>hc h.1;exact fun h=>hc h.2;omega),Nat.max_eq_left ae,GO ae hl]
 ·rw[hI,Nat.max_eq_right ae,Nat.max_eq_right ae]
def Eb {s:au}{i fr:Nat}{acc:List au}(hI:pG s i fr acc)(h:s.length<=i+1)(hl:fr<=s.length):aD s []=acc++[s.drop fr]:=by
 unfold pG at hI;rw[hI,Cz _ (by have:=Nat.le_max_left i fr;omega)];congr 2
 conv=>rhs;rw[<-List.take_append_drop (max i fr) s]
 by_cases hm:max i fr<=s.length
 ·rw[List.drop_append_of_le_length (by rw[fU];have:=Nat.le_max_right i fr;omega)]
 ·rw[mj (by omega:s.length<=max i fr),jq,jq]
def wC {t:au}(h:0<t.length)(h0:at8 t 0=32):iW t=iW (t.drop 1):=by
 match t,h with
 |c::r,_=>
  have:c=32:=jR.1 (by have h0:((c.toNat:Nat):Int)=32:=h0;show c.toNat=32;omega);subst this;simp[iW]
def tV {t:au}(h:¬(0:Int)<(t.length:Nat)\/¬at8 t 0=32):iW t=t:=by
 match t with
 |[]=>rfl
 |c::r=>
  rcases h with h|h
  ·simp only[ay]at h;omega
  ·simp only[iW];rw[ai];rintro rfl;exact h rfl
def tW (u:au):au:=(iW u.reverse).reverse
def CS {u:au}(h:0<u.length):at8 u.reverse 0=at8 u (u.length-1):=by
 unfold at8;congr 2;rw[List.getD_eq_getElem?_getD,List.getD_eq_getElem?_getD,List.getElem?_reverse h,Nat.sub_zero]
def Ef {u:au}(h:0<u.length)(h0:at8 u (u.length-1)=32):tW u=tW (u.take (u.length-1)):=by
 unfold tW;rw[wC (by simpa using h) (by rw[CS h];exact h0)];congr 2;rw[List.drop_reverse]
def Bq {u:au}(h:¬(0:Int)<(u.length:Nat)\/¬at8 u (u.length-1)=32):tW u=u:=by
 unfold tW;by_cases hu:0<u.length
 ·rw[tV (by rw[CS hu];rcases h with h|h;omega;exact Or.inr h)];simp
 ·have:u=[]:=CL.1 ae;subst this;rfl
def Nd.eq (a b:Nd):gL (Nd.D a).cells (Nd.D b).cells=decide (a=b):=by
 obtain⟨a1,a2,a3,a4,a5⟩:=a;obtain⟨b1,b2,b3,b4,b5⟩:=b;simp only[Nd.D,D.cells,gL,qS,tC,Nd.mk.injEq,jr];simp only[Bool.decide_and]
def hY (n:Nd):Bool:=decide (n.key=0)&&decide (n.text=[])
def lv (n:Nd):Bool:=decide (n.op=1)&&decide (0<=n.key)&&decide (n.key<3)&&cb n.text&&decide (n.a=0)&&decide (n.b=0)
def gT (n:Nd)(i:Nat)(o:List Int):Option (List Int):=
 if lv n=true then some (o++[(i:Int)])
 else if(((n.op=2/\hY n=true)/\0<o.length)/\n.a=o[o.length-1]!)/\n.b=0 then some (o.take (o.length-1)++[(i:Int)])
 else if((((n.op=3\/n.op=4)/\hY n=true)/\1<o.length)/\n.a=o[o.length-2]!)/\n.b=o[o.length-1]! then some (o.take (o.length-2)++[(i:Int)])
 else none
def kD:List Nd->Nat->List Int->Option (List Int)
 |[],_,o=>some o
 |n::r,i,o=>match gT n i o with
  |some o'=>kD r (i+1) o'
  |none=>none
def kH (l:List Nd):Bool:=match kD l 0 []with
 |some o=>decide (l.length=0) ||decide (o.length=1)
 |none=>false
def wK {α:Type} [Inhabited α](l:List α){i:Nat}(h:i<l.length):l.drop i=l[i]! ::l.drop (i+1):=by
 rw[kt h];simp[h]
def gP {l:List Nd}{i:Nat}{o o':List Int}(h:i<l.length)(hs:gT l[i]! i o=some o'):kD (l.drop i) i o=kD (l.drop (i+1)) (i+1) o':=by
 rw[wK l h];simp only[kD,hs]
def fg {l:List Nd}{i:Nat}{o:List Int}(h:i<l.length)(hs:gT l[i]! i o=none):kD (l.drop i) i o=none:=by
 rw[wK l h];simp only[kD,hs]
def xc {l:List Nd}{i:Nat}{o:List Int}(h:l.length<=i):kD (l.drop i) i o=some o:=by
 rw[mj h];rfl
def AX {l:List Nd}(h:kD l 0 []=none):kH l=false:=by simp only[kH,h]
def iQ {l:List Nd}(h:kD l 0 []=none):(true&&kH l)=false:=by rw[AX h];rfl
def y7 (S:List Int):Int->List Int->Prop
 |e,[]=>e=0
 |e,t::r=>t=e-1/\0<=t/\0<=S[t.toNat]! /\S[t.toNat]! <=t/\y7 S S[t.toNat]! r
def xY {S:List Int}{i:Nat}{v:Int}:∀{r:List Int}{e:Int},e<=i->y7 S e r->y7 (S.set i v) e r
 |[],e,_,h=>h
 |t::r,e,he,⟨h1,h2,h3,h4,h5⟩=>by
  have hg:(S.set i v)[t.toNat]! =S[t.toNat]! :=by
   have:i≠t.toNat:=ae;simp[List.getElem?_set,this]
  exact⟨h1,h2,by rw[hg];exact h3,by rw[hg];exact h4,by rw[hg];exact xY ae h5⟩
def Ko {S:List Int}{i:Nat}{v:Int}(h:i<S.length):(S.set i v)[i]! =v:=by
 simp[h]
def qL {S:List Int}{i:Nat}{v:Int}{r:List Int}(h:i<S.length)(h0:0<=v)(h1:v<=i)(hc:y7 S v r):y7 (S.set i v) ((i+1:Nat):Int) ((i:Int)::r):=by
 have hg:(S.set i v)[((i:Nat):Int).toNat]! =v:=by rw[Int.toNat_natCast];exact Ko h
 exact⟨ae,ae,by rw[hg];exact h0,by rw[hg];exact h1,by rw[hg];exact xY ae hc⟩
def qM {S:List Int}{i:Nat}{o:List Int}(h:y7 S (i:Nat) o.reverse):(0<o.length↔1<=i)/\(1<=i->o[o.length-1]! =(i:Int) -1/\0<=S[i-1]! /\S[i-1]! <=(i:Int) -1/\y7 S S[i-1]! (o.take (o.length-1)).reverse):=by
 rcases List.eq_nil_or_concat o with rfl|⟨p,t,rfl⟩
 ·have h:((i:Nat):Int)=0:=h;exact⟨⟨fun h=>absurd h aT,fun h2=>ae⟩,fun h2=>ae⟩
 ·rw[List.concat_eq_append,List.reverse_append,List.reverse_singleton,List.singleton_append]at h;obtain⟨h1,h2,h3,h4,h5⟩:=h;have ht:t.toNat=i-1:=ae;rw[ht]at h3 h4 h5;rw[List.concat_eq_append];refine⟨⟨fun _=>ae,fun _=>aT⟩,fun _=>⟨by simp[h1],h3,ae, ?_⟩⟩;rw[List.take_append_of_le_length aT,dQ aT];exact h5
def xZ {S:List Int}{i:Nat}{o:List Int}(h:y7 S (i:Nat) o.reverse):(1<o.length↔1<=i/\1<=S[i-1]!)/\(1<o.length->o[o.length-2]! =S[i-1]! -1/\0<=S[(S[i-1]! -1).toNat]! /\S[(S[i-1]! -1).toNat]! <=S[i-1]! -1/\y7 S S[(S[i-1]! -1).toNat]! (o.take (o.length-2)).reverse):=by
 obtain⟨h1,h2⟩:=qM h;by_cases hi:1<=i
 ·obtain⟨g1,g2,g3,g4⟩:=h2 hi;have hl:=h1.2 hi;rcases List.eq_nil_or_concat o with rfl|⟨p,t,rfl⟩
  ·simp at hl
  ·rw[List.concat_eq_append]at g4⊢;rw[List.take_append_of_le_length aT,dQ aT]at g4;rcases List.eq_nil_or_concat p with rfl|⟨q,u,rfl⟩
   ·have g4:S[i-1]! =0:=g4;exact⟨⟨fun h=>absurd h aT,fun h=>ae⟩,fun h=>absurd h aT⟩
   ·rw[List.concat_eq_append]at g4⊢;rw[List.reverse_append,List.reverse_singleton,List.singleton_append]at g4;obtain⟨k1,k2,k3,k4,k5⟩:=g4;subst k1;refine⟨⟨fun _=>⟨hi,ae⟩,fun _=>aT⟩,fun _=>⟨aT,k3,k4, ?_⟩⟩;rw[dG,List.take_append_of_le_length aT,dQ aT];exact k5
 ·have:¬0<o.length:=fun h=>hi (h1.1 h)
  exact⟨⟨fun h=>ae,fun h=>absurd h.1 hi⟩,fun h=>ae⟩
def IA {S:List Int}{n:Nat}{o:List Int}(t1:0<o.length↔1<=n)(t2:1<=n->o[o.length-1]! =(n:Int) -1/\0<=S[n-1]! /\S[n-1]! <=(n:Int) -1/\y7 S S[n-1]! (o.take (o.length-1)).reverse)(u1:1<o.length↔1<=n/\1<=S[n-1]!):
  (decide (n=0) ||decide (o.length=1))=(decide ((n:Nat)=(0:Int)) ||decide (S[n-1]! =0)):=by
 rw[Bool.eq_iff_iff];simp only[cu,aR];constructor
 ·rintro(h|h)
  ·left;omega
  ·by_cases hn:1<=n
   ·have:=t2 hn;right;omega
   ·left;omega
 ·rintro(h|h)
  ·left;omega
  ·by_cases hn:1<=n
   ·right;omega
   ·left;omega
def uC {n:Nd}(h:lv n=true):n.op=1:=by simp only[lv,aZ,aR]at h;exact h.1.1.1.1.1
def CB {n:Nd}{i:Nat}{o:List Int}(h:lv n=true):gT n i o=some (o++[(i:Int)]):=av h
def yR {n:Nd}{i:Nat}{o:List Int}(h1:n.op=1)(h:lv n=false):gT n i o=none:=by
 unfold gT;rw[ai (by simp[h]),ai (by rintro⟨⟨⟨⟨h,_⟩,_⟩,_⟩,_⟩;omega),ai (by rintro⟨⟨⟨⟨h|h,_⟩,_⟩,_⟩,_⟩<;>omega)]
def AP {n:Nd}{i:Nat}{o:List Int}(h1:n.op≠1)(h2:n.op≠2)(h3:n.op≠3)(h4:n.op≠4):gT n i o=none:=by
 unfold gT;rw[ai (fun h=>h1 (uC h)),ai (by rintro⟨⟨⟨⟨h,_⟩,_⟩,_⟩,_⟩;exact h2 h),ai (by rintro⟨⟨⟨⟨h|h,_⟩,_⟩,_⟩,_⟩;exact h3 h;exact h4 h)]
def sx {S:List Int}{n:Nd}{i:Nat}{o:List Int}(hc:y7 S (i:Nat) o.reverse)(h2:n.op=2):gT n i o=if(1<=i/\n.a=(i:Int) -1/\n.b=0)/\hY n=true then some (o.take (o.length-1)++[(i:Int)])else none:=by
 obtain⟨t1,t2⟩:=qM hc;unfold gT;rw[ai (fun h=>by have:=uC h;omega)];by_cases hk:(1<=i/\n.a=(i:Int) -1/\n.b=0)/\hY n=true
 ·rw[av hk,av ⟨⟨⟨⟨h2,hk.2⟩,t1.2 hk.1.1⟩,by rw[(t2 hk.1.1).1];exact hk.1.2.1⟩,hk.1.2.2⟩]
 ·rw[ai hk,ai,ai (by rintro⟨⟨⟨⟨h|h,_⟩,_⟩,_⟩,_⟩<;>omega)];rintro⟨⟨⟨⟨_,g1⟩,g2⟩,g3⟩,g4⟩;have hi:=t1.1 g2;exact hk ⟨⟨hi,by rw[g3];exact(t2 hi).1,g4⟩,g1⟩
def k8 {S:List Int}{n:Nd}{i:Nat}{o:List Int}(hc:y7 S (i:Nat) o.reverse)(h2:n.op=3\/n.op=4):gT n i o=if(2<=i/\n.b=(i:Int) -1/\1<=S[i-1]! /\n.a=S[i-1]! -1)/\hY n=true then some (o.take (o.length-2)++[(i:Int)])else none:=by
 obtain⟨t1,t2⟩:=qM hc;obtain⟨u1,u2⟩:=xZ hc;unfold gT;rw[ai (fun h=>by have:=uC h;omega),ai (by rintro⟨⟨⟨⟨h,_⟩,_⟩,_⟩,_⟩;omega)];by_cases hk:(2<=i/\n.b=(i:Int) -1/\1<=S[i-1]! /\n.a=S[i-1]! -1)/\hY n=true
 ·have hl:=u1.2 ⟨ae,hk.1.2.2.1⟩;rw[av hk,av ⟨⟨⟨⟨h2,hk.2⟩,hl⟩,by rw[(u2 hl).1];exact hk.1.2.2.2⟩,by rw[(t2 ae).1];exact hk.1.2.1⟩]
 ·rw[ai hk,ai];rintro⟨⟨⟨⟨_,g1⟩,g2⟩,g3⟩,g4⟩;obtain⟨hi,hS⟩:=u1.1 g2;obtain⟨w1,w2,w3,_⟩:=t2 hi;exact hk ⟨⟨ae,by rw[g4];exact w1,hS,by rw[g3];exact(u2 g2).1⟩,g1⟩
def eQ (l:List Nd):Prop:=∀j,j<l.length->(l[j]!.op=1->0<=l[j]!.key/\l[j]!.key<3/\l[j]!.text.length<=12)/\(l[j]!.op≠1->0<=l[j]!.a/\l[j]!.a<j)/\(l[j]!.op≠1->l[j]!.op≠2->0<=l[j]!.b/\l[j]!.b<j)
def B4 {l:List Nd}:∀(k i:Nat)(o o':List Int),i+k=l.length->(∀x∈o,0<=x/\x<(i:Int))->kD (l.drop i) i o=some o'->
  ∀j,i<=j->j<l.length->(l[j]!.op=1->0<=l[j]!.key/\l[j]!.key<3/\l[j]!.text.length<=12)/\(l[j]!.op≠1->0<=l[j]!.a/\l[j]!.a<j)/\(l[j]!.op≠1->l[j]!.op≠2->0<=l[j]!.b/\l[j]!.b<j):=by
 intro k;induction k with
 |zero=>intro i o o' h1 h2 h3 j h4 h5;omega
 |succ k ih=>
  intro i o o' h1 h2 h3 j h4 h5;have hi:i<l.length:=ae;cases hs:gT l[i]! i o with
  |none=>rw[fg hi hs]at h3;cases h3
  |some o2=>
   rw[gP hi hs]at h3;have hm:∀m,0<m->m<=o.length->0<=o[o.length-m]! /\o[o.length-m]! <(i:Int):=fun m hm1 hm2=>h2 _ (bS ae)
   have hsub:∀m,∀x∈o.take m++[(i:Int)],0<=x/\x<((i+1:Nat):Int):=fun m x hx=>by
    rcases List.mem_append.1 hx with hx|hx
    ·have:=h2 x (oQ hx);omega
    ·simp only[cJ]at hx;omega
   unfold gT at hs;split at hs
   ·rename_i hl;cases hs;rcases eJ i j with hj|hj
    ·exact ih (i+1) _ o' ae (by have:=hsub o.length;rwa [dQ (aY _)]at this) h3 j hj h5
    ·obtain rfl:i=j:=ae;simp only[lv,aZ,aR]at hl;have hw:=hl.1.1.2;simp only[cb,aZ,aR]at hw;exact⟨fun _=>⟨hl.1.1.1.1.2,hl.1.1.1.2,hw.1.2⟩,fun h=>absurd hl.1.1.1.1.1 h,fun h=>absurd hl.1.1.1.1.1 h⟩
   ·split at hs
    ·rename_i hl;cases hs;rcases eJ i j with hj|hj
     ·exact ih (i+1) _ o' ae (hsub _) h3 j hj h5
     ·obtain rfl:i=j:=ae;obtain⟨⟨⟨⟨g1,g2⟩,g3⟩,g4⟩,g5⟩:=hl;have:=hm 1 ae ae;exact⟨fun h=>ae,fun _=>by rw[g4];exact this,fun _ h=>absurd g1 h⟩
    ·split at hs
     ·rename_i hl;cases hs;rcases eJ i j with hj|hj
      ·exact ih (i+1) _ o' ae (hsub _) h3 j hj h5
      ·obtain rfl:i=j:=ae;obtain⟨⟨⟨⟨g1,g2⟩,g3⟩,g4⟩,g5⟩:=hl;have q1:=hm 1 ae ae;have q2:=hm 2 ae ae;exact⟨fun h=>ae,fun _=>by rw[g4];exact q2,fun _ _=>by rw[g5];exact q1⟩
     ·cases hs
def ny {l:List Nd}(h:kH l=true):eQ l:=by
 unfold kH at h;cases ho:kD l 0 []with
 |none=>rw[ho]at h;cases h
 |some o=>exact fun j hj=>B4 l.length 0 [] o ae aT ho j (Nat.zero_le _) hj
def Eh (n:Nd)(o:List Int):Bool:=(((decide (n.op=2)&&(decide (n.key=0)&&decide (n.text=[])))&&decide ((0:Int)<(o.length:Nat)))&&decide (n.a=o[o.length-1]!))&&decide (n.b=0)
def Ei (n:Nd)(o:List Int):Bool:=((((decide (n.op=3) ||decide (n.op=4))&&(decide (n.key=0)&&decide (n.text=[])))&&decide ((1:Int)<(o.length:Nat)))&&decide (n.a=o[o.length-2]!))&&decide (n.b=o[o.length-1]!)
def tL (n:Nd)(i:Nat)(o:List Int):gT n i o=if lv n=true then some (o++[(i:Int)])else if Eh n o=true then some (o.take (o.length-1)++[(i:Int)])else if Ei n o=true then some (o.take (o.length-2)++[(i:Int)])else none:=by
 have e1:(Eh n o=true)=((((n.op=2/\hY n=true)/\0<o.length)/\n.a=o[o.length-1]!)/\n.b=0):=by
  simp only[Eh,hY,aZ,aR,eq_iff_iff,Int.natCast_pos]
 have e2:(Ei n o=true)=(((((n.op=3\/n.op=4)/\hY n=true)/\1<o.length)/\n.a=o[o.length-2]!)/\n.b=o[o.length-1]!):=by
  simp only[Ei,hY,aZ,cu,aR,eq_iff_iff];rw[show((1:Int)<(o.length:Nat))↔1<o.length from ae]
 simp only[gT,e1,e2]
def Di {n:Nd}(h:n.op=1):lv n=!((((decide (n.key<0) ||decide (3<=n.key)) ||!cb n.text) ||!decide (n.a=0)) ||!decide (n.b=0)):=by
 simp only[lv,h,decide_true,eH];rw[show decide (n.key<0)=!decide (0<=n.key)from by rw[<-decide_not];exact dz.2 ae,show decide (3<=n.key)=!decide (n.key<3)from by rw[<-decide_not];exact dz.2 ae];generalize decide (0<=n.key)=a;generalize decide (n.key<3)=b;generalize cb n.text=c;generalize decide (n.a=0)=d;generalize decide (n.b=0)=e;cases a<;>cases b<;>cases c<;>cases d<;>cases e<;>rfl
def tK {S:List Int}{i:Nat}(h:i<S.length)(v:Int):(S.map (D.int .i64)).set (0+i) (sw ((S.map (D.int .i64)).getD (0+i) .any) 1 1 0 (.int .i64 v))=(S.set i v).map (D.int .i64):=by
 rw[cT,getD_map (q:=D.int .i64) h,List.map_set];rfl
abbrev CO:=List Nd
def fH (m:CO):D:=.agg [.sl 5 (m.map Nd.D)]
def nE:List au:=[[111,115],[97,114,99,104],[97,98,105]]
def pz (k:Int):au:=if k=0 then [111,115]else if k=1 then [97,114,99,104]else [97,98,105]
def iR (s:au)(b:Bool):au:=if b=true then [40,32]++s++[32,41]else s
def oO (l:List Nd):Nat->Int->au
 |0,_=>[]
 |f+1,i=>
  if l[i.toNat]!.op=1 then pz l[i.toNat]!.key++[32,61,32]++l[i.toNat]!.text
  else if l[i.toNat]!.op=2 then
   if l[l[i.toNat]!.a.toNat]!.op=1 then pz l[l[i.toNat]!.a.toNat]!.key++[32,33,61,32]++l[l[i.toNat]!.a.toNat]!.text
   else [110,111,116,32]++iR (oO l f l[i.toNat]!.a) (!decide (l[l[i.toNat]!.a.toNat]!.op=2))
  else if l[i.toNat]!.op=3 then iR (oO l f l[i.toNat]!.a) (decide (l[l[i.toNat]!.a.toNat]!.op=4))++[32,97,110,100,32]++iR (oO l f l[i.toNat]!.b) (decide (l[l[i.toNat]!.b.toNat]!.op=4) ||decide (l[l[i.toNat]!.b.toNat]!.op=3))
  else oO l f l[i.toNat]!.a++[32,111,114,32]++iR (oO l f l[i.toNat]!.b) (decide (l[l[i.toNat]!.b.toNat]!.op=4))
def iJ (l:List Nd)(i:Int):au:=oO l (i.toNat+1) i
def tN {l:List Nd}(hk:eQ l):∀(f g:Nat)(i:Int),0<=i->i<l.length->i<f->i<g->oO l f i=oO l g i
 |0,_,_,_,_,h,_=>ae
 |_,0,_,_,_,_,h=>ae
 |f+1,g+1,i,h0,h1,h2,h3=>by
  obtain⟨k1,k2,k3⟩:=hk i.toNat ae;simp only[oO];by_cases e1:l[i.toNat]!.op=1
  ·rw[av e1,av e1]
  ·rw[ai e1,ai e1];have ka:=k2 e1;rw[tN hk f g l[i.toNat]!.a ae ae ae ae];by_cases e2:l[i.toNat]!.op=2
   ·rw[av e2,av e2]
   ·have kb:=k3 e1 e2;rw[tN hk f g l[i.toNat]!.b ae ae ae ae]
def DV {l:List Nd}(hk:eQ l){i:Int}(h0:0<=i)(h1:i<l.length):iJ l i=
  if l[i.toNat]!.op=1 then pz l[i.toNat]!.key++[32,61,32]++l[i.toNat]!.text
  else if l[i.toNat]!.op=2 then
   if l[l[i.toNat]!.a.toNat]!.op=1 then pz l[l[i.toNat]!.a.toNat]!.key++[32,33,61,32]++l[l[i.toNat]!.a.toNat]!.text
   else [110,111,116,32]++iR (iJ l l[i.toNat]!.a) (!decide (l[l[i.toNat]!.a.toNat]!.op=2))
  else if l[i.toNat]!.op=3 then iR (iJ l l[i.toNat]!.a) (decide (l[l[i.toNat]!.a.toNat]!.op=4))++[32,97,110,100,32]++iR (iJ l l[i.toNat]!.b) (decide (l[l[i.toNat]!.b.toNat]!.op=4) ||decide (l[l[i.toNat]!.b.toNat]!.op=3))
  else iJ l l[i.toNat]!.a++[32,111,114,32]++iR (iJ l l[i.toNat]!.b) (decide (l[l[i.toNat]!.b.toNat]!.op=4)):=by
 obtain⟨k1,k2,k3⟩:=hk i.toNat ae
 conv=>lhs;unfold iJ
 simp only[oO];by_cases e1:l[i.toNat]!.op=1
 ·rw[av e1,av e1]
 ·rw[ai e1,ai e1];have ka:=k2 e1;rw[show oO l i.toNat l[i.toNat]!.a=iJ l l[i.toNat]!.a from tN hk _ _ _ ae ae ae ae];by_cases e2:l[i.toNat]!.op=2
  ·rw[av e2,av e2]
  ·have kb:=k3 e1 e2;rw[show oO l i.toNat l[i.toNat]!.b=iJ l l[i.toNat]!.b from tN hk _ _ _ ae ae ae ae]
def lg (s:au)(b:Bool):(iR s b).length<=s.length+4:=by
 unfold iR;split<;>simp
def pe {k:Int}(h0:0<=k)(h3:k<3):nE[k.toNat]! =pz k:=by
 obtain rfl|rfl|rfl:k=0\/k=1\/k=2:=ae
 ·rfl
 ·rfl
 ·rfl
def Hj {k:Int}(h0:0<=k)(h3:k<3):ov (([.str [111,115],.str [97,114,99,104],.str [97,98,105]]:List D).getD (0+k.toNat) .any) 1 1 0 false=.str (pz k):=by
 obtain rfl|rfl|rfl:k=0\/k=1\/k=2:=ae
 ·rfl
 ·rfl
 ·rfl
def mG (k:Int):(pz k).length<=4:=by
 unfold pz;split
 ·decide
 ·split<;>decide
def vE {l:List Nd}(hk:eQ l):∀(f:Nat)(i:Int),0<=i->i<l.length->(oO l f i).length+20<=20*2^(f+1)
 |0,i,_,_=>by simp[oO]
 |f+1,i,h0,h1=>by
  obtain⟨k1,k2,k3⟩:=hk i.toNat ae;have hp:20*2^(f+1+1)=20*2^(f+1)+20*2^(f+1):=by rw[Nat.pow_succ 2 (f+1)];omega
  have h1p:1<=2^(f+1):=Nat.one_le_two_pow;simp only[oO];by_cases e1:l[i.toNat]!.op=1
  ·rw[av e1];have:=mG l[i.toNat]!.key;have:=k1 e1;simp only[bA,ay,az];omega
  ·rw[ai e1];have ka:=k2 e1;have la:=vE hk f l[i.toNat]!.a ae ae;have wa:=fun b=>lg (oO l f l[i.toNat]!.a) b
   by_cases e2:l[i.toNat]!.op=2
   ·rw[av e2];split
    ·rename_i e3;have:=mG l[l[i.toNat]!.a.toNat]!.key;have:=((hk l[i.toNat]!.a.toNat ae).1 e3).2.2;simp only[bA,ay,az];omega
    ·have:=wa (!decide (l[l[i.toNat]!.a.toNat]!.op=2));simp only[bA,ay,az];omega
   ·rw[ai e2];have kb:=k3 e1 e2;have lb:=vE hk f l[i.toNat]!.b ae ae;have wb:=fun b=>lg (oO l f l[i.toNat]!.b) b
    split
    ·have:=wa (decide (l[l[i.toNat]!.a.toNat]!.op=4));have:=wb (decide (l[l[i.toNat]!.b.toNat]!.op=4) ||decide (l[l[i.toNat]!.b.toNat]!.op=3));simp only[bA,ay,az];omega
    ·have:=wb (decide (l[l[i.toNat]!.b.toNat]!.op=4));simp only[bA,ay,az];omega
def oP {l:List Nd}(hk:eQ l)(hl:l.length<=15){i:Int}(h0:0<=i)(h1:i<l.length):(iJ l i).length<=1310720:=by
 have h:=vE hk (i.toNat+1) i h0 h1;have:2^(i.toNat+1+1)<=2^16:=Nat.pow_le_pow_right ae ae;unfold iJ;omega
def kq (l:List Nd):au:=if l.length=0 then []else iJ l ((l.length:Int) -1)
def qb (l:List Nd):Bool:=(decide (l.length<=15)&&kH l)&&decide ((kq l).length<=96)
def HS (l:List Nd):au:=if qb l=true then kq l else []
abbrev PR:=Option (Int×List au×List Nd)
def fP (k:au):Int:=if k=[111,115]then 0 else if k=[97,114,99,104]then 1 else if k=[97,98,105]then 2 else-1
def kg (k s v:au):Bool:=(decide (0<=fP k)&&cb v)&&(decide (s=[61]) ||decide (s=[33,61]))
def sE (k s v:au)(r:List au)(nd:List Nd):Int×List au×List Nd:=
 if s=[33,61]then(((nd++[(⟨1,0,0,fP k,v⟩:Nd)]).length:Nat),r,(nd++[⟨1,0,0,fP k,v⟩])++[⟨2,(nd.length:Nat),0,0,[]⟩])
 else((nd.length:Nat),r,nd++[⟨1,0,0,fP k,v⟩])
def nW (k:au)(w:List au)(nd:List Nd):PR:=match w with
 |s::v::r=>if kg k s v=true then some (sE k s v r nd)else none
 |_=>none
def jy (part:List au->List Nd->PR)(wd:au)(op:Int):Nat->Int->List au->List Nd->PR
 |0,a,w,nd=>some (a,w,nd)
 |f+1,a,w,nd=>match w with
  |[]=>some (a,w,nd)
  |x::r=>if x=wd then(match part r nd with
    |none=>none
    |some (b,w',nd')=>jy part wd op f (nd'.length:Nat) w' (nd'++[⟨op,a,b,0,[]⟩]))
   else some (a,w,nd)
def gA (part:List au->List Nd->PR)(wd:au)(op:Int)(w:List au)(nd:List Nd):PR:=match part w nd with
 |none=>none
 |some (a,w',nd')=>jy part wd op w'.length a w' nd'
def nI:au:=[110,111,116]
def fI:au:=[40]
def jn:au:=[41]
def jB:au:=[97,110,100]
def nS:au:=[111,114]
def ma (r:PR):PR:=match r with
 |some (a,x::w',nd')=>if x=jn then some (a,w',nd')else none
 |_=>none
def MS (r:PR):PR:=match r with
 |some (a,w',nd')=>some ((nd'.length:Nat),w',nd'++[⟨2,a,0,0,[]⟩])
 |none=>none
def py:Nat->List au->List Nd->PR
 |0,_,_=>none
 |f+1,w,nd=>match w with
  |[]=>none
  |k::r=>if k=nI then MS (py f r nd)
   else if k=fI then ma (gA (gA (py f) jB 3) nS 4 r nd)
   else nW k r nd
def PB (w:List au)(nd:List Nd)(w':List au)(nd':List Nd):Prop:=w'.length<=w.length/\nd'.length+2*w'.length<=nd.length+2*w.length/\w'<:+w
def qD (part:List au->List Nd->PR):Prop:=∀w nd a w' nd',part w nd=some (a,w',nd')->PB w nd w' nd'/\w'.length<w.length
def PB.refl (w:List au)(nd:List Nd):PB w nd w nd:=⟨aY _,aY _,CJ _⟩
def PB.trans {w nd w' nd' w2 nd2}(h:PB w nd w' nd')(h2:PB w' nd' w2 nd2):PB w nd w2 nd2:=⟨cW h2.1 h.1,cW h2.2.1 h.2.1,h2.2.2.trans h.2.2⟩
def PB.tail {x:au}{w:List au}{nd:List Nd}{w':List au}{nd':List Nd}(h:PB w nd w' nd')(n:Nd):PB (x::w) nd w' (nd'++[n]):=by
 obtain⟨h1,h2,h3⟩:=h;refine⟨by simp only[ay];omega,by simp only[bA,ay,az];omega,h3.trans (List.suffix_cons x w)⟩
def PB.rv {x:au}{w:List au}{nd:List Nd}{w':List au}{nd':List Nd}(h:PB w nd w' nd'):PB (x::w) nd w' nd':=by
 obtain⟨h1,h2,h3⟩:=h;exact⟨by simp only[ay];omega,by simp only[ay];omega,h3.trans (List.suffix_cons x w)⟩
def uD {part:List au->List Nd->PR}(hp:qD part)(wd:au)(op:Int):∀(f:Nat)(a:Int)(w:List au)(nd:List Nd)(a':Int)(w':List au)(nd':List Nd),jy part wd op f a w nd=some (a',w',nd')->PB w nd w' nd'
 |0,a,w,nd,a',w',nd',h=>by simp only[jy,aQ,dU]at h;obtain⟨rfl,rfl,rfl⟩:=h;exact .refl _ _
 |f+1,a,[],nd,a',w',nd',h=>by simp only[jy,aQ,dU]at h;obtain⟨rfl,rfl,rfl⟩:=h;exact .refl _ _
 |f+1,a,x::r,nd,a',w',nd',h=>by
  simp only[jy]at h;by_cases hx:x=wd
  ·rw[av hx]at h;cases hq:part r nd with
   |none=>rw[hq]at h;cases h
   |some t=>
    obtain⟨b,w2,nd2⟩:=t;rw[hq]at h;exact((hp _ _ _ _ _ hq).1.tail _).trans (uD hp wd op f _ _ _ _ _ _ h)
  ·rw[ai hx]at h;simp only[aQ,dU]at h;obtain⟨rfl,rfl,rfl⟩:=h;exact .refl _ _
def jV {part:List au->List Nd->PR}(hp:qD part)(wd:au)(op:Int):qD (gA part wd op):=by
 intro w nd a w' nd' h;unfold gA at h;cases hq:part w nd with
 |none=>rw[hq]at h;cases h
 |some t=>
  obtain⟨b,w2,nd2⟩:=t;rw[hq]at h;obtain⟨h1,h2⟩:=hp _ _ _ _ _ hq;have:=uD hp wd op _ _ _ _ _ _ _ h;exact⟨h1.trans this,Nat.lt_of_le_of_lt this.1 h2⟩
def mT {k:au}{w:List au}{nd:List Nd}{a:Int}{w':List au}{nd':List Nd}(h:nW k w nd=some (a,w',nd')):PB w nd w' nd':=by
 match w,h with
 |s::v::r,h=>
  simp only[nW]at h;split at h
  ·simp only[aQ]at h;unfold sE at h;have hs:r<:+s::v::r:=(List.suffix_cons v r).trans (List.suffix_cons s _);split at h<;>(simp only[dU]at h;obtain⟨rfl,rfl,rfl⟩:=h;exact⟨by simp only[ay];omega,by simp only[bA,ay,az];omega,hs⟩)
  ·cases h
 |[_],h=>cases h
 |[],h=>cases h
def jE:∀f,qD (py f)
 |0=>fun w nd a w' nd' h=>by cases h
 |f+1=>by
  intro w nd a w' nd' h
  match w,h with
  |[],h=>cases h
  |k::r,h=>
   simp only[py]at h;split at h
   ·cases hq:py f r nd with
    |none=>rw[hq]at h;cases h
    |some t=>
     obtain⟨b,w2,nd2⟩:=t;rw[hq]at h;simp only[MS,aQ,dU]at h;obtain⟨rfl,rfl,rfl⟩:=h;obtain⟨h1,h2⟩:=jE f _ _ _ _ _ hq;exact⟨h1.tail _,by simp only[ay];omega⟩
   ·split at h
    ·cases hq:gA (gA (py f) jB 3) nS 4 r nd with
     |none=>rw[hq]at h;cases h
     |some t=>
      obtain⟨b,w2,nd2⟩:=t;rw[hq]at h;obtain⟨h1,h2⟩:=jV (jV (jE f) _ _) _ _ _ _ _ _ _ hq
      match w2,h,h1,h2 with
      |[],h,_,_=>cases h
      |x::w3,h,h1,h2=>
       simp only[ma]at h;split at h
       ·simp only[aQ,dU]at h;obtain⟨rfl,rfl,rfl⟩:=h;exact⟨(h1.trans (PB.refl _ _).rv).rv,by simp only[ay]at h2⊢;omega⟩
       ·cases h
    ·exact⟨(mT h).rv,by have:=(mT h).1;simp only[ay];omega⟩
def zR {p p':List au->List Nd->PR}(hp:qD p)(wd:au)(op:Int){u:Nat}(h:∀w nd,w.length<u->p w nd=p' w nd):∀(f:Nat)(a:Int)(w:List au)(nd:List Nd),w.length<=u->jy p wd op f a w nd=jy p' wd op f a w nd
 |0,a,w,nd,hu=>rfl
 |f+1,a,[],nd,hu=>rfl
 |f+1,a,x::r,nd,hu=>by
  simp only[ay]at hu;simp only[jy];split
  ·rw[<-h r nd ae];cases hq:p r nd with
   |none=>rfl
   |some t=>
    obtain⟨b,w2,nd2⟩:=t;have:=hp _ _ _ _ _ hq;exact zR hp wd op h f _ _ _ ae
  ·rfl
def oT {p p':List au->List Nd->PR}(hp:qD p)(wd:au)(op:Int){u:Nat}(h:∀w nd,w.length<u->p w nd=p' w nd):∀w nd,w.length<u->gA p wd op w nd=gA p' wd op w nd:=by
 intro w nd hu;unfold gA;rw[<-h w nd hu];cases hq:p w nd with
 |none=>rfl
 |some t=>
  obtain⟨b,w2,nd2⟩:=t;have:=hp _ _ _ _ _ hq;exact zR hp wd op h _ _ _ _ ae
def C1:∀(u f g:Nat)(w:List au)(nd:List Nd),w.length<u->w.length<=f->w.length<=g->py f w nd=py g w nd
 |0,_,_,_,_,h,_,_=>absurd h (Nat.not_lt_zero _)
 |u+1,f,g,[],nd,hu,hf,hg=>by cases f<;>cases g<;>rfl
 |u+1,0,_,_::_,_,_,h,_=>by simp at h
 |u+1,_,0,_::_,_,_,_,h=>by simp at h
 |u+1,f+1,g+1,k::r,nd,hu,hf,hg=>by
  simp only[ay]at hu hf hg;have ih:∀w nd,w.length<r.length+1->py f w nd=py g w nd:=fun w nd h=>C1 u f g w nd ae ae ae
  simp only[py];rw[ih r nd ae,oT (jV (jE f) _ _) nS 4 (oT (jE f) jB 3 ih) r nd ae]
def iC (w:List au)(nd:List Nd):PR:=py w.length w nd
def iY:List au->List Nd->PR:=gA iC jB 3
def gE:List au->List Nd->PR:=gA iY nS 4
def rR:qD iC:=fun w nd a w' nd' h=>jE _ w nd a w' nd' h
def tX:qD iY:=jV rR _ _
def tD (k:au)(r:List au)(nd:List Nd):iC (k::r) nd=if k=nI then MS (iC r nd)else if k=fI then ma (gE r nd)else nW k r nd:=by
 show py (r.length+1) (k::r) nd=_;simp only[py];have ih:∀w nd,w.length<r.length+1->py r.length w nd=iC w nd:=fun w nd h=>C1 (r.length+1) _ _ w nd h ae (aY _)
 rw[show py r.length r nd=iC r nd from rfl,oT (jV (jE _) _ _) nS 4 (oT (jE _) jB 3 ih) r nd ae];rfl
def wY {part:List au->List Nd->PR}{wd:au}{op:Int}{f:Nat}{a:Int}{nd:List Nd}:jy part wd op f a [] nd=some (a,[],nd):=by cases f<;>rfl
def Hp {part:List au->List Nd->PR}{wd:au}{op:Int}{f:Nat}{a:Int}{w:List au}{nd:List Nd}(h:w.head? ≠some wd):jy part wd op f a w nd=some (a,w,nd):=by
 cases f with
 |zero=>rfl
 |succ f=>match w,h with
  |[],_=>rfl
  |x::r,h=>simp only[jy];rw[ai (by rintro rfl;exact h rfl)]
def uE {part:List au->List Nd->PR}(hp:qD part){wd:au}{op:Int}:∀(f g:Nat)(a:Int)(w:List au)(nd:List Nd),w.length<=f->w.length<=g->jy part wd op f a w nd=jy part wd op g a w nd
 |_,_,a,[],nd,_,_=>by rw[wY,wY]
 |0,_,_,_::_,_,h,_=>by simp at h
 |_,0,_,_::_,_,_,h=>by simp at h
 |f+1,g+1,a,x::r,nd,hf,hg=>by
  simp only[ay]at hf hg;simp only[jy];split
  ·cases hq:part r nd with
   |none=>rfl
   |some t=>
    obtain⟨b,w2,nd2⟩:=t;have:=hp _ _ _ _ _ hq;exact uE hp f g _ _ _ ae ae
  ·rfl
def Dj (part:List au->List Nd->PR)(wd:au)(op:Int)(a:Int)(w:List au)(nd:List Nd):PR:=jy part wd op w.length a w nd
def EO {part:List au->List Nd->PR}(hp:qD part){wd:au}{op:Int}{a:Int}{r:List au}{nd:List Nd}:Dj part wd op a (wd::r) nd=match part r nd with
  |none=>none
  |some (b,w',nd')=>Dj part wd op (nd'.length:Nat) w' (nd'++[⟨op,a,b,0,[]⟩]):=by
 show jy part wd op (r.length+1) a (wd::r) nd=_;simp only[jy,br];cases hq:part r nd with
 |none=>rfl
 |some t=>
  obtain⟨b,w2,nd2⟩:=t;have:=hp _ _ _ _ _ hq;exact uE hp _ _ _ _ _ ae (aY _)
structure PO where
 a:Int
 w:List au
 nd:List Nd
 bad:Bool
def dD (R:PR)(w:List au)(nd:List Nd)(o:PO):Prop:=(R=some (o.a,o.w,o.nd)/\o.bad=false\/R=none/\o.bad=true)/\PB w nd o.w o.nd
def BV (s:au):Option (List Nd):=match gE (ar s 32) []with
 |some (_,[],nd)=>if qb nd=true then some nd else none
 |_=>none
def iw (s:au):List Nd×Int:=if 96<s.length then([],3)else if s=[]then([],0)else match BV s with
 |some nd=>(nd,0)
 |none=>([],7)
def kQ (s:au):Bool:=decide ((iw s).2=0)&&decide (HS (iw s).1=s)
abbrev za:=List au->D->Bool->D
def fW:za:=fun w X b=>.agg [.sl 1 (w.map D.str),X,.bool b]
def gH (W:List au):za:=fun w X b=>.agg [.sl 1 (W.map D.str),.int .i64 ((W.length-w.length:Nat):Int),X,.bool b]
def lZ (Y:Ctx)(k:Nat)(ob:za)(n:Nat)(acV:List D)(w:List au)(nd:List Nd)(b:Bool)(P:PO->Prop)(V:PO->D):Prop:=
 ∀(nx lp ln:Nat) (m:List (Nat×bK)) (K:D->St->Prop),look m lp=some (.buf k [ob w (.own ln 5 0 nd.length) b])->look m ln=some (.buf 5 (nd.map Nd.D))->lp<nx->ln<nx->
  (∀o,P o->K (V o) ⟨nx+1,(nx,.buf 5 (o.nd.map Nd.D))::dC (dH m ln) lp (.buf k [ob o.w (.own nx 5 0 o.nd.length) o.bad])⟩)->Y.tr n (.ptr lp k 0 0::acV) ⟨nx,m⟩ K
def Jg (Y:Ctx)(k:Nat)(ob:za)(n:Nat)(acV:List D)(w:List au)(nd:List Nd)(b:Bool)(P:PO->Prop)(V:PO->D):Prop:=
 ∀(nx lp ln:Nat) (m:List (Nat×bK)) (K:D->St->Prop),look m lp=some (.buf k [ob w (.own ln 5 0 nd.length) b])->look m ln=some (.buf 5 (nd.map Nd.D))->lp<nx->ln<nx->
  (∀o,P o->K (V o) ⟨nx,dC m lp (.buf k [ob o.w (.own ln 5 0 nd.length) o.bad])⟩)->Y.tr n (.ptr lp k 0 0::acV) ⟨nx,m⟩ K
def sY (k:Nat)(ob:za)(P:PO->Prop)(V:PO->D):D->List (Nat×bK)->Prop:=fun d m=>∃(o:PO)(j:Nat),2<=j/\P o/\d=V o/\look m 0=some (.buf k [ob o.w (.own j 5 0 o.nd.length) o.bad])/\look m j=some (.buf 5 (o.nd.map Nd.D))
def CP (k:Nat)(ob:za)(nd:List Nd)(P:PO->Prop)(V:PO->D):D->List (Nat×bK)->Prop:=fun d m=>∃(o:PO),P o/\d=V o/\look m 0=some (.buf k [ob o.w (.own 1 5 0 nd.length) o.bad])/\look m 1=some (.buf 5 (nd.map Nd.D))
def Va:PO->D:=fun o=>.int .i64 o.a
def MP {m:List (Nat×bK)}(x:Nd):IX m [.a,.a,.a,.a,.a] (Nd.D x):=⟨rfl,rfl,rfl,rfl,rfl,rfl⟩
def Hw {m:List (Nat×bK)}{lp ln:Nat}{w:List au}{nd:List Nd}{b:Bool}(h1:look m lp=some (.buf 3 [fW w (.own ln 5 0 nd.length) b]))(h2:look m ln=some (.buf 5 (nd.map Nd.D))):
  jd m [[.pt [.sl 1 [.a],.sl 5 [.a,.a,.a,.a,.a],.a]]] [.ptr lp 3 0 0]:=by
 refine⟨⟨by simp[fm,h1], ?_⟩,trivial⟩;intro e he;simp only[bf,h1,cJ]at he;subst he;refine⟨rfl,⟨by simp[fm,h2], ?_⟩,rfl,rfl⟩;simp only[bf,h2,dx,cA];intro e he;obtain⟨x,_,rfl⟩:=eI.1 he;exact MP x
def aW (w:List au):au:=w.headD []
def bw (w:List au):List au:=if aW w=[]then w else w.drop 1
def cY (w:List au)(b:Bool):Bool:=if aW w=[]then true else b
def pj {w:List au}{x:au}(hx:x≠[])(h:aW w=x):∃r,w=x::r:=by
 match w,h with
 |[],h=>exact absurd h.symm hx
 |y::r,h=>exact⟨r,by rw[show y=x from h]⟩
def Iw {w:List au}(h:¬aW w=[]):1<=w.length:=by
 match w,h with
 |[],h=>exact absurd rfl h
 |_::_,_=>simp
def iI {x:au}{r:List au}(hx:x≠[]):bw (x::r)=r:=ai hx
def iH {x:au}{r:List au}{b:Bool}(hx:x≠[]):cY (x::r) b=b:=ai hx
def FO (w:List au):bw w<:+w:=by
 unfold bw;split
 ·exact CJ _
 ·exact List.drop_suffix 1 w
def mO (w:List au)(nd:List Nd):PB w nd (bw w) nd:=by
 have h:=FO w;have:=h.length_le;exact⟨this,ae,h⟩
def AU {w:List au}{b:Bool}(h:cY w b=false):b=false/\aW w≠[]/\w=aW w::bw w:=by
 unfold cY at h;split at h
 ·cases h
 ·rename_i hs;refine⟨h,hs, ?_⟩
  match w,hs with
  |x::r,hs=>rw[iI (x:=x) (r:=r) hs];rfl
def lj (b:Bool)(k:au)(w:List au)(nd:List Nd):PR:=if b=true then none else nW k w nd
def zN {j:Nat}{k:au}(hj:j<3)(h:nE[j]! =k):fP k=(j:Nat):=by
 obtain rfl|rfl|rfl:j=0\/j=1\/j=2:=ae
 all_goals (subst h;rfl)
def wV {k:au}(h:0<=fP k):∃j,j<3/\nE[j]! =k/\fP k=(j:Nat):=by
 unfold fP at h⊢;by_cases h1:k=[111,115]
 ·exact⟨0,ae,h1.symm,by rw[av h1];rfl⟩
 ·by_cases h2:k=[97,114,99,104]
  ·exact⟨1,ae,h2.symm,by rw[ai h1,av h2];rfl⟩
  ·by_cases h3:k=[97,98,105]
   ·exact⟨2,ae,h3.symm,by rw[ai h1,ai h2,av h3];rfl⟩
   ·rw[ai h1,ai h2,ai h3]at h;omega
def BG (j:Nat)(k s v:au)(bad:Bool):Bool:=!(((!decide (nE[j]! =k) ||bad) ||(!decide (s=[61])&& !decide (s=[33,61]))) ||!cb v)
def Hd {j:Nat}{k:au}{w:List au}{nd:List Nd}{b:Bool}(hj:j<3)(h:BG j k (aW w) (aW (bw w)) (cY (bw w) (cY w b))=true):
  lj b k w nd=some (sE k (aW w) (aW (bw w)) (bw (bw w)) nd)/\fP k=(j:Nat)/\cY (bw w) (cY w b)=false:=by
 have h0:=h;simp only[BG,Bool.not_or,aZ,Bool.not_not,aR,bB,Bool.not_and,cu]at h;obtain⟨⟨⟨h1,h2⟩,h3⟩,h4⟩:=h;have hk:=zN hj h1;obtain⟨g1,g2,g3⟩:=AU h2;obtain⟨g4,g5,g6⟩:=AU g1;refine⟨?_,hk,h2⟩;unfold lj;rw[g4,ai aT]
 conv=>lhs;rw[g6,g3]
 simp only[nW];rw[av];simp only[kg,aZ,cu,aR];exact⟨⟨ae,h4⟩,h3⟩
def JL {k:au}{w:List au}{nd:List Nd}{b:Bool}(h:∀j,j<3->BG j k (aW w) (aW (bw w)) (cY (bw w) (cY w b))=false):lj b k w nd=none:=by
 unfold lj;split
 ·rfl
 ·rename_i hb
  match w with
  |[]=>rfl
  |[_]=>rfl
  |s::v::r=>
   simp only[nW];rw[ai];intro ha;simp only[kg,aZ,cu,aR]at ha;obtain⟨⟨h1,h2⟩,h3⟩:=ha;obtain⟨j,hj,hj2,_⟩:=wV h1;have hs:s≠[]:=by rintro rfl;rcases h3 with h|h<;>cases h
   have hv:v≠[]:=by rintro rfl;cases h2
   have:=h j hj;rw[iI hs,iH hs,iH hv]at this;simp only[Bool.not_eq_true]at hb;subst hb;revert this;simp only[BG,aW,List.headD_cons,hj2,h2,decide_true];rcases h3 with rfl|rfl<;>simp
def CT (w:List au)(nd:List Nd):PB w nd (bw (bw w)) nd:=(mO w nd).trans (mO _ nd)
def tS {b:Bool}{k:au}{w:List au}{nd:List Nd}{a:Int}{w':List au}{nd':List Nd}(h:lj b k w nd=some (a,w',nd')):PB w nd w' nd':=by
 unfold lj at h;split at h
 ·cases h
 ·exact mT h
def GX {w:List au}{nd:List Nd}(h1:aW w≠nI)(h2:aW w≠fI):iC w nd=lj (cY w false) (aW w) (bw w) nd:=by
 match w with
 |[]=>rfl
 |k::r=>
  have h1:k≠nI:=h1;have h2:k≠fI:=h2;rw[tD,ai h1,ai h2];by_cases hk:k=[]
  ·subst hk;show nW [] r nd=none
   match r with
   |[]=>rfl
   |[_]=>rfl
   |s::v::r=>rfl
  ·rw[iI hk,iH hk];rfl
def GG {R:PR}{o:PO}{w:List au}{nd:List Nd}(h:dD R w nd o)(hs:aW o.w≠jn):ma R=none:=by
 rcases h.1 with⟨h1,_⟩|⟨h1,_⟩
 ·rw[h1]
  match ho:o.w,hs with
  |[],_=>rfl
  |x::r,hs=>simp only[ma];exact ai hs
 ·rw[h1];rfl
def dD.pb {R:PR}{o:PO}{w:List au}{nd:List Nd}(h:dD R w nd o):PB w nd o.w o.nd:=h.2
def Dx {r:List au}{nd:List Nd}{o:PO}(h:dD (iC r nd) r nd o):dD (iC (nI::r) nd) (nI::r) nd ⟨(o.nd.length:Nat),o.w,o.nd++[⟨2,o.a,0,0,[]⟩],o.bad⟩:=by
 refine⟨?_,h.2.tail _⟩;rw[tD,av rfl];rcases h.1 with⟨h1,h2⟩|⟨h1,h2⟩
 ·left;rw[h1];exact⟨rfl,h2⟩
 ·right;rw[h1];exact⟨rfl,h2⟩
def qV (r:List au)(nd:List Nd):iC (fI::r) nd=ma (gE r nd):=by rw[tD,ai aM,av rfl]
def z6 {r:List au}{nd:List Nd}{o:PO}(h:dD (gE r nd) r nd o)(hs:¬aW o.w=jn):dD (iC (fI::r) nd) (fI::r) nd ⟨o.a,bw o.w,o.nd,true⟩:=
 ⟨.inr ⟨by rw[qV,GG h hs],rfl⟩,h.2.rv.trans (mO _ _)⟩
def HJ {r:List au}{nd:List Nd}{o:PO}(h:dD (gE r nd) r nd o)(hs:aW o.w=jn):dD (iC (fI::r) nd) (fI::r) nd ⟨o.a,bw o.w,o.nd,cY o.w o.bad⟩:=by
 refine⟨?_,h.2.rv.trans (mO _ _)⟩;obtain⟨q,hq⟩:=pj aM hs;rw[qV,hq,iI aM,iH aM];rcases h.1 with⟨h1,h2⟩|⟨h1,h2⟩
 ·left;rw[h1,hq];exact⟨by simp only[ma,br],h2⟩
 ·right;rw[h1];exact⟨rfl,h2⟩
def HI {w:List au}{nd:List Nd}{o:PO}(hf:iC w nd=lj (cY w false) (aW w) (bw w) nd)(h:dD (lj (cY w false) (aW w) (bw w) nd) (bw w) nd o):dD (iC w nd) w nd o:=
 ⟨by rw[hf];exact h.1,(mO w nd).trans h.2⟩
def Hr {s:au}{o:PO}(h:dD (gE (ar s 32) []) (ar s 32) [] o)(hc:((o.bad ||decide ((0:Int)<(o.w.length:Nat))) ||!qb o.nd)=true):BV s=none:=by
 unfold BV;rcases h.1 with⟨h1,h2⟩|⟨h1,h2⟩
 ·rw[h1]
  match hw:o.w with
  |[]=>
   simp only[h2,hw,az,Bool.false_or]at hc;have:qb o.nd=false:=by simpa using hc
   simp only[this,et,bn]
  |x::r=>rfl
 ·rw[h1]
def Dn {s:au}{o:PO}(h:dD (gE (ar s 32) []) (ar s 32) [] o)(hc:((o.bad ||decide ((0:Int)<(o.w.length:Nat))) ||!qb o.nd)=false):BV s=some o.nd:=by
 simp only[dc,bx,bY]at hc;unfold BV;rcases h.1 with⟨h1,h2⟩|⟨h1,h2⟩
 ·rw[h1]
  match hw:o.w with
  |[]=>simp only[hc.2,br]
  |x::r=>exact absurd hc.1.2 (by rw[hw];simp)
 ·rw[h2]at hc;exact absurd hc.1.1 aT
def Dm {s:au}{nd:List Nd}(h1:¬96<s.length)(h2:¬s=[])(h:BV s=some nd):iw s=(nd,0):=by simp only[iw,h,ai h1,ai h2]
def Dl {s:au}(h1:¬96<s.length)(h2:¬s=[])(h:BV s=none):iw s=([],7):=by simp only[iw,h,ai h1,ai h2]
def Ba (part:List au->List Nd->PR)(wd:au)(op:Int)(R:PR)(w:List au)(nd:List Nd)(o:PO):Prop:=(o.bad=false/\R=Dj part wd op o.a o.w o.nd\/o.bad=true/\R=none)/\PB w nd o.w o.nd
def Ba.first {part:List au->List Nd->PR}{wd:au}{op:Int}{w:List au}{nd:List Nd}{o:PO}(h:dD (part w nd) w nd o):Ba part wd op (gA part wd op w nd) w nd o:=by
 refine⟨?_,h.2⟩;rcases h.1 with⟨h1,h2⟩|⟨h1,h2⟩
 ·left;refine⟨h2, ?_⟩;unfold gA;rw[h1];rfl
 ·right;refine⟨h2, ?_⟩;unfold gA;rw[h1]
def Ba.next {part:List au->List Nd->PR}(hp:qD part){wd:au}{op:Int}{R:PR}{w:List au}{nd:List Nd}{a:Int}{r:List au}{nd1:List Nd}{o:PO}(h:Ba part wd op R w nd ⟨a,wd::r,nd1,false⟩)(h2:dD (part r nd1) r nd1 o):
  Ba part wd op R w nd ⟨(o.nd.length:Nat),o.w,o.nd++[⟨op,a,o.a,0,[]⟩],o.bad⟩:=by
 refine⟨?_,h.2.trans (h2.2.tail _)⟩;rcases h.1 with⟨_,h1⟩|⟨h1,_⟩
 ·rw[EO hp]at h1;rcases h2.1 with⟨g1,g2⟩|⟨g1,g2⟩
  ·left;exact⟨g2,by rw[h1,g1]⟩
  ·right;exact⟨g2,by rw[h1,g1]⟩
 ·cases h1
def Ba.last {part:List au->List Nd->PR}{wd:au}{op:Int}{R:PR}{w:List au}{nd:List Nd}{o:PO}(h:Ba part wd op R w nd o)(hx:o.bad=true\/o.w.head? ≠some wd):dD R w nd o:=by
 refine⟨?_,h.2⟩;rcases h.1 with⟨h1,h2⟩|⟨h1,h2⟩
 ·left;refine⟨?_,h1⟩;rw[h2];unfold Dj;rw[Hp];rcases hx with hx|hx
  ·rw[h1]at hx;cases hx
  ·exact hx
 ·right;exact⟨h2,h1⟩
def fo (w:List au)(s:au):Bool:=match w with
 |x::_=>decide (x=s)
 |[]=>false
def lS (w:List au)(s:au):List au:=if fo w s=true then w.drop 1 else w
def rB (w:List au)(b:Bool):Bool:=if w=[]then true else b
def kY {w:List au}{s:au}(h:fo w s=true):∃r,w=s::r:=by
 match w,h with
 |x::r,h=>exact⟨r,by rw[show x=s by simpa[fo]using h]⟩
def qd (s:au)(r:List au):fo (s::r) s=true:=by simp[fo]
def jM (s:au)(r:List au):lS (s::r) s=r:=by unfold lS;rw[av (qd s r)];rfl
def mH {w:List au}{s:au}(h:fo w s=false):lS w s=w:=by unfold lS;rw[ai (by rw[h];simp)]
def uI {w:List au}{s:au}(h:fo w s=false):w.head? ≠some s:=by
 match w,h with
 |[],_=>simp
 |x::r,h=>intro e;have e:x=s:=(by simpa using e);subst e;rw[qd]at h;cases h
def DO {W w:List au}(h:w<:+W)(hw:1<=w.length):W.length-w.length<W.length/\W[W.length-w.length]! =w[0]! :=by
 have hl:=h.length_le;have he:=List.suffix_iff_eq_drop.1 h;refine⟨ae, ?_⟩;have h1:(W.drop (W.length-w.length))[0]! =w[0]! :=by rw[<-he]
 rw[<-h1];have h2:W.length-w.length<W.length:=ae;simp[h2]
def Ds {W w:List au}(h:w<:+W)(s:au):(decide (((W.length-w.length:Nat):Int)<(W.length:Nat))&&decide (W[W.length-w.length]! =s))=fo w s:=by
 have hl:=h.length_le
 match w with
 |[]=>
  have:decide (((W.length-([]:List au).length:Nat):Int)<(W.length:Nat))=false:=cj aT;rw[this];rfl
 |x::r=>
  obtain⟨h1,h2⟩:=DO h aT;rw[h2,bD ae,eH];rfl
def DG {W:List au}{x:au}{r:List au}{X:D}{b:Bool}(h:(x::r).length<=W.length):sw (gH W (x::r) X b) 4 1 1 (.int .i64 (((W.length-(x::r).length:Nat):Int)+1))=gH W r X b:=by
 have:((W.length-(x::r).length:Nat):Int)+1=((W.length-r.length:Nat):Int):=by simp only[ay]at h⊢;omega
 rw[this];rfl
def uf (w:List au)(nd:List Nd):PR:=match w with
 |k::r=>nW k r nd
 |[]=>none
def De (k:au)(i:Nat):Int:=if fP k<i then fP k else-1
def Df (k:au):-1<=fP k:=by
 unfold fP;split
 ·decide
 ·split
  ·decide
  ·split<;>decide
def JT (k:au):fP k<3:=by
 unfold fP;split
 ·decide
 ·split
  ·decide
  ·split<;>decide
def JS {k:au}{i:Nat}(hi:i<3)(h:pz (i:Int)=k):De k (i+1)=(i:Int):=by
 have:fP k=(i:Nat):=zN hi (by rw[<-h];exact pe (k:=(i:Int)) ae ae);unfold De;rw[this,av ae]
def MK {k:au}{i:Nat}(hi:i<3)(h:¬pz (i:Int)=k):De k (i+1)=De k i:=by
 have h1:fP k≠(i:Nat):=by
  intro e;obtain⟨j,hj,hj2,hj3⟩:=wV (k:=k) ae;have:j=i:=ae;subst this;exact h (by rw[<-hj2];exact(pe (k:=(j:Int)) ae ae).symm)
 have:=Df k;unfold De;by_cases h2:fP k<i
 ·rw[av ae,av h2]
 ·rw[ai ae,ai h2]
def Ri (k:au):De k 0=-1:=by
 have:=Df k;unfold De;split
 ·omega
 ·rfl
def Rj (k:au):De k 3=fP k:=by
 have:=JT k;unfold De;rw[av ae]
def wB (k s v:au):(((decide (fP k<0) ||!cb v)) ||(!decide (s=[61])&& !decide (s=[33,61])))=!kg k s v:=by
 unfold kg;rw[show decide (0<=fP k)=!decide (fP k<0)from by rw[<-decide_not];exact dz.2 ae];generalize decide (fP k<0)=a;generalize cb v=b;generalize decide (s=[61])=c;generalize decide (s=[33,61])=d;cases a<;>cases b<;>cases c<;>cases d<;>rfl
def Ed {w:List au}{nd:List Nd}(h:kg (aW w) (aW (w.drop 1)) (aW ((w.drop 1).drop 1))=true):∃r,w=aW w::aW (w.drop 1)::aW ((w.drop 1).drop 1)::r/\uf w nd=some (sE (aW w) (aW (w.drop 1)) (aW ((w.drop 1).drop 1)) r nd):=by
 match w,h with
 |[],h=>cases h
 |[_],h=>simp[kg,aW,cb]at h
 |[_,_],h=>simp[kg,aW,cb]at h
 |k::s::v::r,h=>exact⟨r,rfl,by simp only[uf,nW];exact av h⟩
def Gv {w:List au}{nd:List Nd}(h:kg (aW w) (aW (w.drop 1)) (aW ((w.drop 1).drop 1))=false):uf w nd=none:=by
 match w,h with
 |[],h=>rfl
 |[_],h=>rfl
 |[_,_],h=>rfl
 |k::s::v::r,h=>simp only[uf,nW];exact ai (by rw[show kg k s v=false from h];simp)
def yb (w:List au)(nd:List Nd):PB w nd (w.drop 1) nd:=by
 have h:w.drop 1<:+w:=List.drop_suffix 1 w;have:=h.length_le;exact⟨this,ae,h⟩
def wL {w:List au}{nd:List Nd}{a:Int}{w':List au}{nd':List Nd}(h:uf w nd=some (a,w',nd')):PB w nd w' nd':=by
 match w,h with
 |k::r,h=>exact(mT h).rv
def My {w:List au}{nd:List Nd}(h1:fo w nI=false)(h2:fo w fI=false):iC w nd=uf w nd:=by
 match w,h1,h2 with
 |[],_,_=>rfl
 |k::r,h1,h2=>
  have h1:¬k=nI:=by simpa[fo]using h1
  have h2:¬k=fI:=by simpa[fo]using h2
  rw[tD,ai h1,ai h2];rfl
def Ek {R:PR}{o:PO}{w:List au}{nd:List Nd}(h:dD R w nd o)(hs:fo o.w jn=false):ma R=none:=by
 rcases h.1 with⟨h1,_⟩|⟨h1,_⟩
 ·rw[h1]
  match ho:o.w,hs with
  |[],_=>rfl
  |x::r,hs=>simp only[ma];exact ai (by simpa[fo]using hs)
 ·rw[h1];rfl
def yB {r:List au}{nd:List Nd}{o:PO}(h:dD (gE r nd) r nd o)(hs:fo o.w jn=false):dD (iC (fI::r) nd) (fI::r) nd ⟨o.a,o.w,o.nd,true⟩:=
 ⟨.inr ⟨by rw[qV,Ek h hs],rfl⟩,h.2.rv⟩
def E5 {r:List au}{nd:List Nd}{o:PO}{q:List au}(h:dD (gE r nd) r nd o)(hs:o.w=jn::q):dD (iC (fI::r) nd) (fI::r) nd ⟨o.a,q,o.nd,o.bad⟩:=by
 refine⟨?_,(h.2.rv (x:=fI)).trans (by rw[hs];exact(PB.refl _ _).rv)⟩;rw[qV];rcases h.1 with⟨h1,h2⟩|⟨h1,h2⟩
 ·left;rw[h1,hs];exact⟨by simp only[ma,br],h2⟩
 ·right;rw[h1];exact⟨rfl,h2⟩
def PB.suf {w w':List au}{nd nd':List Nd}{W:List au}(h:PB w nd w' nd')(hW:w<:+W):w'<:+W:=h.2.2.trans hW
def p7 (f:Nat->Int):Nat->Nat->Int
 |_,0=>0
 |i,k+1=>if f i=0 then p7 f (i+1) k else f i
def eA (f:Nat->Int)(i n:Nat):Int:=p7 f i (n-i)
def mB {f:Nat->Int}{i n:Nat}(h:i<n)(hf:f i=0):eA f i n=eA f (i+1) n:=by
 unfold eA;obtain⟨k,hk⟩:∃k,n-i=k+1:=⟨n-i-1,ae⟩
 rw[hk,show n-(i+1)=k by omega];simp only[p7,hf,br]
def jF {f:Nat->Int}{i n:Nat}(h:i<n)(hf:f i≠0):eA f i n=f i:=by
 unfold eA;obtain⟨k,hk⟩:∃k,n-i=k+1:=⟨n-i-1,ae⟩
 rw[hk];simp only[p7,hf,bn]
def mA {f:Nat->Int}{i n:Nat}(h:n<=i):eA f i n=0:=by
 unfold eA;rw[show n-i=0 by omega];rfl
def na (f:Nat->Int):Nat->Nat->Int×Int
 |_,0=>(0,0)
 |i,k+1=>if f i=0 then na f (i+1) k else(f i,((i:Nat):Int))
def gM (f:Nat->Int)(i n:Nat):Int×Int:=na f i (n-i)
def kT {f:Nat->Int}{i n:Nat}(h:i<n)(hf:f i=0):gM f i n=gM f (i+1) n:=by
 unfold gM;obtain⟨k,hk⟩:∃k,n-i=k+1:=⟨n-i-1,ae⟩
 rw[hk,show n-(i+1)=k by omega];simp only[na,hf,br]
def iE {f:Nat->Int}{i n:Nat}(h:i<n)(hf:f i≠0):gM f i n=(f i,((i:Nat):Int)):=by
 unfold gM;obtain⟨k,hk⟩:∃k,n-i=k+1:=⟨n-i-1,ae⟩
 rw[hk];simp only[na,hf,bn]
def kS {f:Nat->Int}{i n:Nat}(h:n<=i):gM f i n=(0,0):=by
 unfold gM;rw[show n-i=0 by omega];rfl
def fe (r:Rec)(name nT:au):Int:=if ey name=false then 4 else if name=r.name then 8 else if lT nT=false then 6 else 0
def Kv (l:List au)(i:Nat):Bool:=cb l[i]! && !(decide (0<i)&& !Op.bytesLess l[i-1]! l[i]!)
def jo (l:List au)(alone:Bool):Bool:=(decide (l.length<=6)&&(alone ||decide (l.length=0)))&&cr (Kv l) 0 l.length
def ib (r:Rec)(w:cQ)(alone:Bool):Int:=if fe r w.name w.range≠0 then fe r w.name w.range else if jo w.feats alone=false then 11 else 0
def lV (r:Rec)(l:List cQ):Int:=eA (fun i=>ib r l[i]! (decide ((l.length:Int)=1))) 0 l.length
def gh (r:Rec)(n:cB):Int:=if n.any.length=0 then 9 else if 3<n.any.length then 3 else if lV r n.any≠0 then lV r n.any else
 if kQ n.when'=false then 7 else if n.option≠[]/\cb n.option=false then 14 else 0
def mU (r:Rec)(b:kJ):Int:=if fe r b.name b.range≠0 then fe r b.name b.range else if kQ b.when'=false then 7 else 0
def B5 (l:List cB)(x:au):Bool:=l.any fun n=>decide (n.option=x)
def uX (l:List cB)(x:au):Bool:=l.any fun n=>decide (n.any.length=1)&&decide (n.any[0]!.name=x)
def jZ (r:Rec)(s:au):Int:=if(cF s).1=2/\B5 r.needs (cF s).2.1=false then 14 else if(cF s).1=3/\uX r.needs (cF s).2.1=false then 16 else 0
def jb (r:Rec)(of:List au):Int:=eA (fun i=>jZ r of[i]!) 0 of.length
def lC (r:Rec):Int×Int:=gM (fun i=>gh r r.needs[i]!) 0 r.needs.length
def qI (r:Rec):Int×Int:=gM (fun i=>mU r r.bars[i]!) 0 r.bars.length
def ug (r:Rec):Int×Int:=gM (fun i=>jb r r.feats[i]!.of) 0 r.feats.length
def dL (r:Rec):Int×Int:=if(lC r).1≠0 then lC r else if(qI r).1≠0 then qI r else if fF r.feats=false then(11,0)else ug r
def IH (n:Nat)(al:Bool):(decide ((6:Int)<(n:Nat)) ||(decide ((0:Int)<(n:Nat))&& !al))=!(decide (n<=6)&&(al ||decide (n=0))):=by
 rw[show decide ((6:Int)<(n:Nat))=!decide (n<=6)from by rw[<-decide_not];exact dz.2 ae,show decide ((0:Int)<(n:Nat))=!decide (n=0)from by rw[<-decide_not];exact dz.2 ae];generalize decide (n<=6)=a;generalize decide (n=0)=b;cases a<;>cases b<;>cases al<;>rfl
def Sc (l:List au)(i:Nat):(!cb l[i]! ||(decide ((0:Int)<(i:Nat))&& !Op.bytesLess l[i-1]! l[i]!))=!Kv l i:=by
 unfold Kv;rw[show decide ((0:Int)<(i:Nat))=decide (0<i)from dz.2 ae];generalize cb l[i]! =a;generalize decide (0<i)=b;generalize Op.bytesLess l[i-1]! l[i]! =c;cases a<;>cases b<;>cases c<;>rfl
def wf_2 (l:List au)(al:Bool):(cr (fun i=>cb l[i]!) 0 l.length&&((decide (l.length<=6)&&rising l)&&(al ||decide (l.length=0))))=jo l al:=by
 have h1:cr (Kv l) 0 l.length=(cr (fun i=>cb l[i]!) 0 l.length&&rising l):=by
  rw[Bool.eq_iff_iff,aZ];unfold rising;simp only[fX,Kv,aZ,bB,dr,bx,bY];constructor
  ·intro h;exact⟨fun j a b=>(h j a b).1,fun j a b=>((h j ae b).2).resolve_left ae⟩
  ·rintro⟨h1,h2⟩ j a b;exact⟨h1 j a b,by by_cases hj:0<j;exact .inr (h2 j ae b);exact .inl hj⟩
 unfold jo;rw[h1];generalize cr (fun i=>cb l[i]!) 0 l.length=a;generalize decide (l.length<=6)=b;generalize rising l=c;generalize decide (l.length=0)=d;cases a<;>cases b<;>cases c<;>cases d<;>cases al<;>rfl
def IU (k:Int)(x:au)(n:cB):Bool:=(decide (k=2)&&decide (n.option=x)) ||((decide (k=3)&&decide ((n.any.length:Int)=1))&&decide (n.any[0]!.name=x))
def MJ (k:Int):Int:=if k=2 then 14 else if k=3 then 16 else 0
def Hi (r:Rec)(s:au):jZ r s=if r.needs.any (IU (cF s).1 (cF s).2.1)=true then 0 else MJ (cF s).1:=by
 unfold jZ MJ B5 uX;generalize (cF s).1=k;generalize (cF s).2.1=x;by_cases h2:k=2
 ·subst h2;have:IU 2 x=fun n=>decide (n.option=x):=by funext n;simp[IU]
  rw[this];cases r.needs.any fun n=>decide (n.option=x)<;>simp
 ·by_cases h3:k=3
  ·subst h3;have:IU 3 x=fun n=>decide (n.any.length=1)&&decide (n.any[0]!.name=x):=by
    funext n;simp only[IU];rw[show decide ((n.any.length:Int)=1)=decide (n.any.length=1)from dz.2 ae];simp
   rw[this];cases r.needs.any fun n=>decide (n.any.length=1)&&decide (n.any[0]!.name=x)<;>simp
  ·have:IU k x=fun _=>false:=by funext n;simp[IU,h2,h3]
   rw[this];simp[h2,h3]
def xQ {α:Type} [Inhabited α]{c:α->Bool}{l:List α}{i:Nat}(h:i<l.length)(hc:c l[i]! =true):(l.drop i).any c=true:=by
 rw[kt h,List.any_cons];have:l[i]! =l[i]:=by simp[h]
 rw[<-this,hc,Bool.true_or]
def Bm {α:Type} [Inhabited α]{c:α->Bool}{l:List α}{i:Nat}(h:i<l.length)(hc:c l[i]! =false):(l.drop i).any c=(l.drop (i+1)).any c:=by
 rw[kt h,List.any_cons];have:l[i]! =l[i]:=by simp[h]
 rw[<-this,hc,Bool.false_or]
def xP {α:Type}{c:α->Bool}{l:List α}{i:Nat}(h:l.length<=i):(l.drop i).any c=false:=by
 rw[mj h];rfl
def sX:au:=[110,101,101,100]
def mP:au:=[97,110,121]
def nH:au:=[119,104,101,110]
def jm:au:=[111,112,116,105,111,110]
def qy:au:=[98,97,114]
def gU:au:=[102,101,97,116,117,114,101]
def lH:au:=[112,97,99,107,97,103,101]
def mQ:au:=[102,117,108,108]
def lU:au:=[98,97,114,101]
def bQ (l:List au):au:=bc [32] l++[10]
def kI (w:cQ):List au:=[mP,w.name,if w.feats.length=0 then [45]else bc [44] w.feats,if w.bare=true then lU else mQ,w.range]
def gw (s:au):au:=if s=[]then []else bQ [nH,s]
def pA (s:au):au:=if s=[]then []else bQ [jm,s]
def ow (n:cB):au:=bQ [sX]++(n.any.map fun w=>bQ (kI w)).flatten++gw n.when'++pA n.option
def ta (b:kJ):au:=bQ [qy,b.name,b.range]++gw b.when'
def oc (f:bW):au:=bQ ([gU,f.name]++f.of)
def og (r:Rec):au:=bQ [lH,r.name,kR r.v]
def kG (r:Rec):au:=og r++(r.needs.map ow).flatten++(r.bars.map ta).flatten++(r.feats.map oc).flatten
def ct (r:Rec):Int×Int:=if ey r.name=false then(4,0)else if eF r.v=false then(5,0)else if 8<r.needs.length\/8<r.bars.length then(3,0)else
 if(dL r).1≠0 then dL r else if 4096<(kG r).length then(3,0)else(0,0)
def cP (r:Rec):au×Int:=if(ct r).1≠0 then([],(ct r).1)else(kG r,0)
def cQ.sm (w:cQ):Prop:=(w.name.length<=1048576/\w.range.length<=1048576)/\∀t∈w.feats,t.length<=1048576
def cB.sm (n:cB):Prop:=(∀w∈n.any,w.sm)/\n.when'.length<=1048576/\n.option.length<=1048576
def kJ.sm (b:kJ):Prop:=b.name.length<=1048576/\b.range.length<=1048576/\b.when'.length<=1048576
def dh (r:Rec):Prop:=(r.name.length<=1048576/\r.v.sm)/\(∀n∈r.needs,n.sm)/\(∀b∈r.bars,b.sm)/\mZ r.feats
def z7 {r:Rec}{e:Int×Int}(h:lC r=e)(hn:e.1≠0):dL r=e:=by rw[dL,av (by rw[h];exact hn),h]
def uS {r:Rec}{e:Int×Int}(h0:lC r=(0,0))(h:qI r=e)(hn:e.1≠0):dL r=e:=by rw[dL,ai (by rw[h0];simp),av (by rw[h];exact hn),h]
def z8 {r:Rec}(h0:lC r=(0,0))(h1:qI r=(0,0))(h:fF r.feats=false):dL r=(11,0):=by rw[dL,ai (by rw[h0];simp),ai (by rw[h1];simp),av h]
def ri {r:Rec}{e:Int×Int}(h0:lC r=(0,0))(h1:qI r=(0,0))(h:fF r.feats=true)(h2:ug r=e):dL r=e:=by rw[dL,ai (by rw[h0];simp),ai (by rw[h1];simp),ai (by rw[h];simp),h2]
def zw (f:Nat->Int):∀(k i:Nat),(na f i k).1=0->na f i k=(0,0)
 |0,_,_=>rfl
 |k+1,i,h=>by
  simp only[na]at h⊢;by_cases hf:f i=0
  ·rw[av hf]at h⊢;exact zw f k (i+1) h
  ·rw[ai hf]at h;exact absurd h hf
def Aa {r:Rec}(h:(dL r).1=0):dL r=(0,0):=by
 unfold dL at h⊢;split
 ·rename_i h1;rw[av h1]at h;exact absurd h h1
 ·rename_i h1;rw[ai h1]at h;split
  ·rename_i h2;rw[av h2]at h;exact absurd h h2
  ·rename_i h2;rw[ai h2]at h;split
   ·rename_i h3;rw[av h3]at h;cases h
   ·rename_i h3;rw[ai h3]at h;exact zw _ _ _ h
def my {r:Rec}{e:Int×Int}(h0:ey r.name=true)(h1:eF r.v=true)(h2:¬8<r.needs.length)(h3:¬8<r.bars.length)(hp:dL r=e)(hn:e.1≠0):ct r=e:=by
 rw[ct,ai (by simp[h0]),ai (by simp[h1]),ai (by rintro(h|h);exact h2 h;exact h3 h),av (by rw[hp];exact hn),hp]
def qN {r:Rec}(h0:ey r.name=true)(h1:eF r.v=true)(h2:¬8<r.needs.length)(h3:¬8<r.bars.length)(hp:dL r=(0,0)):ct r=if 4096<(kG r).length then(3,0)else(0,0):=by
 rw[ct,ai (by simp[h0]),ai (by simp[h1]),ai (by rintro(h|h);exact h2 h;exact h3 h),ai (by rw[hp];simp)]
def pI (r:Rec):Prop:=(ey r.name=true/\eF r.v=true)/\(r.needs.length<=8/\r.bars.length<=8)/\dL r=(0,0)
def Mt (n:Nat)(l:List au):List au:=if l.length<=n then l else l.take (n-1)++[bc [32] (l.drop (n-1))]
def nC (n:Nat)(op:Bool)(t:au):List au:=if op=true then Mt n (ar t 32)else ar t 32
def pK (w:au)(n:Nat)(op:Bool)(t:au):Option (List au):=
 if(nC n op t)[0]! =w/\(n=0\/(nC n op t).length=n)/\[]∉nC n op t then some (nC n op t)else none
def sN (w:au)(n:Nat)(op:Bool):List au->Option (List au×List au)
 |[]=>none
 |t::r=>match pK w n op t with
  |some l=>some (l,r)
  |none=>none
def xG (ls:List au):au×List au:=match sN nH 2 true ls with
 |some (l,r)=>(l[1]!,r)
 |none=>([],ls)
def K0 (l:List au):Bool:=decide (l[3]! =lU) ||decide (l[3]! =mQ)
def ND (l:List au):cQ:=⟨l[1]!,l[4]!,if l[2]! =[45]then []else ar l[2]! 44,decide (l[3]! =lU)⟩
def po:List au->List cQ×List au
 |[]=>([],[])
 |t::r=>match pK mP 5 true t with
  |some l=>if K0 l=true then(ND l::(po r).1,(po r).2)else([],t::r)
  |none=>([],t::r)
def Rn (ls:List au):au×List au:=match sN jm 2 false ls with
 |some (l,r)=>(l[1]!,r)
 |none=>([],ls)
def Ht (ls:List au):cB×List au:=(⟨(po ls).1,(xG (po ls).2).1,(Rn (xG (po ls).2).2).1⟩,(Rn (xG (po ls).2).2).2)
def BY:Nat->List au->List cB×List au
 |0,ls=>([],ls)
 |f+1,ls=>match sN sX 1 false ls with
  |some (_,r)=>((Ht r).1::(BY f (Ht r).2).1,(BY f (Ht r).2).2)
  |none=>([],ls)
def GC:Nat->List au->List kJ×List au
 |0,ls=>([],ls)
 |f+1,ls=>match sN qy 3 true ls with
  |some (l,r)=>(⟨l[1]!,l[2]!,(xG r).1⟩::(GC f (xG r).2).1,(GC f (xG r).2).2)
  |none=>([],ls)
def ye:List au->List bW×List au
 |[]=>([],[])
 |t::r=>match pK gU 0 false t with
  |some l=>if 2<=l.length then(⟨l[1]!,l.drop 2⟩::(ye r).1,(ye r).2)else([],t::r)
  |none=>([],t::r)
def Ke:Rec:=⟨[],pC,[],[],[]⟩
def yv (ls:List au):List cB×List au:=BY ls.length ls
def GD (ls:List au):List kJ×List au:=GC ls.length ls
def Q6 (nm:au)(v:bX)(r:List au):Rec×List au:=(⟨nm,v,(yv r).1,(GD (yv r).2).1,(ye (GD (yv r).2).2).1⟩,(ye (GD (yv r).2).2).2)
def RE (ls:List au):Option (Rec×List au):=match sN lH 3 false ls with
 |some (l,r)=>match verQ l[2]! with
  |some v=>some (Q6 l[1]! v r)
  |none=>none
 |none=>none
structure RdS where
 r:Rec
 st:Nat
 deriving Inhabited
def eqBb (a b:Bool):gL (D.bool a).cells (D.bool b).cells=decide (a=b):=by cases a<;>cases b<;>rfl
def uk {f:Nat->Int}:∀{k i:Nat},p7 f i k=0->∀j,i<=j->j<i+k->f j=0
 |0,i,_,j,h1,h2=>absurd h2 ae
 |k+1,i,h,j,h1,h2=>by
  simp only[p7]at h;by_cases hf:f i=0
  ·rw[av hf]at h;by_cases hj:j=i
   ·rw[hj];exact hf
   ·exact uk h j ae ae
  ·rw[ai hf]at h;exact absurd h hf
def BB {f:Nat->Int}{n:Nat}(h:eA f 0 n=0)(j:Nat)(hj:j<n):f j=0:=uk h j ae ae
def um {f:Nat->Int}:∀{k i:Nat},(na f i k).1=0->∀j,i<=j->j<i+k->f j=0
 |0,i,_,j,h1,h2=>absurd h2 ae
 |k+1,i,h,j,h1,h2=>by
  simp only[na]at h;by_cases hf:f i=0
  ·rw[av hf]at h;by_cases hj:j=i
   ·rw[hj];exact hf
   ·exact um h j ae ae
  ·rw[ai hf]at h;exact absurd h hf
def BA {f:Nat->Int}{n:Nat}(h:(gM f 0 n).1=0)(j:Nat)(hj:j<n):f j=0:=um h j ae ae
def cQ.fit (w:cQ):Prop:=w.sm/\(w.feats.length<=6/\∀t∈w.feats,t.length<=12)
def cB.fit (n:cB):Prop:=(n.any.length<=3/\∀w∈n.any,w.fit)/\n.when'.length<=1048576/\n.option.length<=1048576
def bW.fit (x:bW):Prop:=x.sm/\x.of.length<=6
structure Rec.fit (r:Rec):Prop where
 nm:r.name.length<=1048576
 v:r.v.sm
 ns:r.needs.length<=8
 n:∀x∈r.needs,x.fit
 bs:r.bars.length<=8
 b:∀x∈r.bars,x.sm
 fs:r.feats.length<=8
 f:∀x∈r.feats,x.fit
def tH {α:Type} [Inhabited α]{l:List α}{x:α}(h:x∈l):∃i,i<l.length/\l[i]! =x:=by
 obtain⟨i,hi,e⟩:=List.mem_iff_getElem.1 h;exact⟨i,hi,by rw[<-e];simp[hi]⟩
def IJ {r:Rec}{w:cQ}{al:Bool}(h:ib r w al=0)(hs:w.sm):w.fit:=by
 refine⟨hs, ?_⟩;unfold ib at h;split at h
 ·rename_i h1;exact absurd h h1
 ·split at h
  ·cases h
  ·rename_i h2;simp only[jo,Bool.not_eq_false,aZ,aR,fX]at h2;refine⟨h2.1.1,fun t ht=>?_⟩;obtain⟨i,hi,rfl⟩:=tH ht;have:=h2.2 i ae hi;simp only[Kv,cb,aZ,aR]at this;exact this.1.1.2
def Hu {r:Rec}{n:cB}(h:gh r n=0)(hs:n.sm):n.fit:=by
 unfold gh at h;split at h
 ·cases h
 split at h
 ·cases h
 rename_i h1 h2;split at h
 ·rename_i h3;exact absurd h h3
 rename_i h3;refine⟨⟨ae,fun w hw=>?_⟩,hs.2⟩;obtain⟨i,hi,rfl⟩:=tH hw;exact IJ (BB (Classical.not_not.1 h3) i hi) (hs.1 _ hw)
def wS {r:Rec}(h:pI r/\dh r):r.fit:=by
 obtain⟨⟨_,⟨h1,h2⟩,hp⟩,⟨s1,s2⟩,s3,s4,s5⟩:=h;have h0:(lC r).1=0/\fF r.feats=true:=by
  unfold dL at hp;split at hp
  ·rename_i h;rw[hp]at h;exact absurd rfl h
  split at hp
  ·rename_i h;rw[hp]at h;exact absurd rfl h
  split at hp
  ·cases hp
  rename_i a b c;exact⟨Classical.not_not.1 a,by simpa using c⟩
 obtain⟨h3,h4⟩:=h0;simp only[fF,aZ,aR,fX]at h4;refine⟨s1,s2,h1,fun x hx=>?_,h2,s4,h4.1,fun x hx=>⟨s5 x hx, ?_⟩⟩
 ·obtain⟨i,hi,rfl⟩:=tH hx;exact Hu (BA h3 i hi) (s3 _ hx)
 ·obtain⟨i,hi,rfl⟩:=tH hx;have:=h4.2 i ae hi;simp only[iD,jI,aZ,aR]at this;exact this.2.1.1
def kV (x:UInt8)(B:Nat):∀l:List au,(∀t∈l,t.length<=B)->(bc [x] l).length<=l.length*(B+1)
 |[],_=>by simp[bc]
 |[t],h=>by have:=h t (.head _);simp only[bc,ay,az];omega
 |t::u::r,h=>by
  have h1:=h t (.head _);have h2:=kV x B (u::r) fun y hy=>h y (.tail _ hy)
  simp only[bc,bA,ay,az,Nat.succ_mul]at h2⊢;omega
def vJ {w:cQ}(h:w.fit):(bc [44] w.feats).length<=6291462:=by
 have h1:=kV 44 1048576 w.feats h.1.2;have h2:=ek (1048576+1) h.2.1;omega
def yZ {w:cQ}(h:w.fit):(bc [44] w.feats).length<=78:=by
 have h1:=kV 44 12 w.feats h.2.2;have h2:=ek (12+1) h.2.1;omega
def gV (w:cQ):au:=bQ (kI w)
def sA {w:cQ}(h:w.fit):(gV w).length<=8400000:=by
 have h1:=vJ h;have h2:=h.1.1;simp only[gV,bQ,kI,bc,bA,ay,az];split<;>split<;>simp only[mP,lU,mQ,bA,ay,az]<;>omega
def lf {s:au}(h:s.length<=1048576):(gw s).length<=1048590:=by
 unfold gw;split
 ·simp
 ·simp only[bQ,bc,nH,bA,ay,az];omega
def HG {s:au}(h:s.length<=1048576):(pA s).length<=1048590:=by
 unfold pA;split
 ·simp
 ·simp only[bQ,bc,jm,bA,ay,az];omega
def qX {α:Type}(q:α->au)(B:Nat){l:List α}(h:∀x∈l,(q x).length<=B)(i:Nat):(((l.take i).map q).flatten).length<=i*B:=by
 have h1:=od q B (l.take i) fun x hx=>h x (oQ hx)
 have h2:=ek B (List.length_take_le i l);omega
def o9 {α:Type} [Inhabited α](q:α->au){l:List α}{i:Nat}(h:i<l.length):((l.take (i+1)).map q).flatten=((l.take i).map q).flatten++q l[i]! :=by
 rw[List.take_add_one,List.getElem?_eq_getElem h,List.map_append,List.flatten_append];simp[h]
def EW {n:cB}(h:n.fit):(ow n).length<=27400000:=by
 have h1:=od gV 8400000 n.any fun w hw=>sA (h.1.2 w hw)
 have h2:=ek 8400000 h.1.1;have h3:=lf h.2.1;have h4:=HG h.2.2;have h5:(bQ [sX]).length=5:=rfl;unfold gV at h1;simp only[ow,bA];omega
def Gz {b:kJ}(h:b.sm):(ta b).length<=3145800:=by
 have h1:=lf h.2.2;have h2:=h.1;have h3:=h.2.1;simp only[ta,bQ,bc,qy,bA,ay,az];omega
def wM {x:bW}(h:x.fit):(oc x).length<=8400000:=by
 have h1:=kV 32 1048576 ([gU,x.name]++x.of) (by
  intro t ht;simp only[fk,eG,dy]at ht;rcases ht with rfl|rfl|ht
  ·simp[gU]
  ·exact h.1.1
  ·exact h.1.2.2 _ ht)
 have h2:=h.2;have h3:([gU,x.name]++x.of).length<=8:=by simp only[bA,ay,az];omega
 have h4:=ek (1048576+1) h3;simp only[oc,bQ,bA,ay,az]at h1 h4⊢;omega
def EI {r:Rec}(h1:r.name.length<=1048576)(h2:r.v.sm):(og r).length<=3145800:=by
 have h3:=vG r.v h2;simp only[og,bQ,bc,lH,bA,ay,az];omega
def du (n:cB)(j:Nat):au:=bQ [sX]++((n.any.take j).map gV).flatten
def JZ (n:cB):du n 0=[110,101,101,100,10]:=rfl
def lB {n:cB}{j:Nat}(h:j<n.any.length):du n (j+1)=du n j++gV n.any[j]! :=by simp only[du,o9 gV h,dG]
def sb {n:cB}{j:Nat}(h:n.any.length<=j):ow n=du n j++gw n.when'++pA n.option:=by
 rw[du,dQ h];rfl
def w9 {n:cB}(h:n.fit)(j:Nat)(hj:j<=3):(du n j).length<=25200005:=by
 have h1:=qX gV 8400000 (fun w hw=>sA (h.1.2 w hw)) j;have h2:=ek 8400000 hj;have h5:(bQ [sX]).length=5:=rfl;simp only[du,bA];omega
def iU (r:Rec)(i:Nat):au:=og r++((r.needs.take i).map ow).flatten
def vC (r:Rec)(i:Nat):au:=iU r r.needs.length++((r.bars.take i).map ta).flatten
def xF (r:Rec)(i:Nat):au:=vC r r.bars.length++((r.feats.take i).map oc).flatten
def IB (r:Rec):iU r 0=og r:=by simp[iU]
def IC (r:Rec):vC r 0=iU r r.needs.length:=by simp[vC]
def IE (r:Rec):xF r 0=vC r r.bars.length:=by simp[xF]
def yV (r:Rec):xF r r.feats.length=kG r:=by simp only[xF,vC,iU,List.take_length,kG]
def j7 {r:Rec}{i:Nat}(h:i<r.needs.length):iU r (i+1)=iU r i++ow r.needs[i]! :=by simp only[iU,o9 ow h,dG]
def AY {r:Rec}{i:Nat}(h:i<r.bars.length):vC r (i+1)=vC r i++ta r.bars[i]! :=by simp only[vC,o9 ta h,dG]
def AZ {r:Rec}{i:Nat}(h:i<r.feats.length):xF r (i+1)=xF r i++oc r.feats[i]! :=by simp only[xF,o9 oc h,dG]
def yS {r:Rec}(h:r.fit)(i:Nat)(hi:i<=r.needs.length):(iU r i).length<=222400000:=by
 have a0:=EI h.nm h.v;have a1:=qX ow 27400000 (fun x hx=>EW (h.n x hx)) i;have b1:=ek 27400000 (cW hi h.ns);simp only[iU,bA];omega
def yT {r:Rec}(h:r.fit)(i:Nat)(hi:i<=r.bars.length):(vC r i).length<=247600000:=by
 have a0:=yS h r.needs.length (aY _);have a1:=qX ta 3145800 (fun x hx=>Gz (h.b x hx)) i;have b1:=ek 3145800 (cW hi h.bs);simp only[vC,bA];omega
def DU {r:Rec}(h:r.fit)(i:Nat)(hi:i<=r.feats.length):(xF r i).length<=314800000:=by
 have a0:=yT h r.bars.length (aY _);have a1:=qX oc 8400000 (fun x hx=>wM (h.f x hx)) i;have b1:=ek 8400000 (cW hi h.fs);simp only[xF,bA];omega
def n3 {r:Rec}(h:(ct r).1=0):pI r:=by
 unfold ct at h;split at h
 ·cases h
 split at h
 ·cases h
 split at h
 ·cases h
 rename_i a b c;split at h
 ·rename_i d;exact absurd h d
 rename_i d;exact⟨⟨by simpa using a,by simpa using b⟩,⟨ae,ae⟩,Aa (Classical.not_not.1 d)⟩
def oL (r:Rec):Int:=if(cP r).2≠0 then 0 else vA (cP r).1
structure Ld where
 ls:List au
 at':Nat
 deriving Inhabited,DecidableEq
def Ld.D (r:Ld):D:=.agg [.sl 1 (r.ls.map D.str),.int .i64 (r.at':Nat)]
def Ld.rest (r:Ld):List au:=r.ls.drop r.at'
def Ld.sm (r:Ld):Prop:=(r.at'<=r.ls.length/\r.ls.length<=1048577)/\∀t∈r.ls,t.length<=1048576
def Ld.to (r:Ld)(q:List au):Ld:=⟨r.ls,r.ls.length-q.length⟩
def Ld.after (r:Ld)(o:Option (List au×List au)):Ld:=match o with
 |none=>r
 |some _=>⟨r.ls,r.at'+1⟩
def anyL (t:au):Option (List au):=match pK mP 5 true t with
 |some l=>if K0 l=true then some l else none
 |none=>none
def No (p:au->Option (List au))(ls:List au):Prop:=∀t r,ls=t::r->p t=none
def BZ {w:au}{n:Nat}{op:Bool}{ls l r:List au}(h:sN w n op ls=some (l,r)):∃t,ls=t::r/\pK w n op t=some l:=by
 match ls,h with
 |[],h=>cases h
 |t::q,h=>
  simp only[sN]at h;split at h
  ·rename_i l' hl;simp only[aQ,dU]at h;obtain⟨rfl,rfl⟩:=h;exact⟨t,rfl,hl⟩
  ·cases h
def Stop (s:Nat)(ls:List au):Prop:=(s=2->No anyL ls/\No (pK nH 2 true) ls)/\(s=2\/s=3->No (pK jm 2 false) ls)/\(s=5->No (pK nH 2 true) ls)
def pD (m:List (Nat×bK))(l:Nat)(t:List UInt8):Prop:=(∃u,look m l=some (.bld none 0 u)/\t=[])\/(∃l2 u,look m l=some (.bld (some l2) t.length u)/\look m l2=some (.row t))
@[go_sem] def eR (m:List (Nat×bK))(l:Nat):List (Nat×bK):=match look m l with
 |some (.bld (some l2) _ _)=>dH m l2
 |_=>m
@[go_sem] def nY (m:List (Nat×bK))(l L:Nat)(t:List UInt8):List (Nat×bK):=(L,.row t)::dC (eR m l) l (.bld (some L) t.length true)
def TrW (acV:D)(s:List UInt8)(ds:List D)(st:St)(K:D->St->Prop):Prop:=∃l t,ds=[.ptr l 2 0 0,acV]/\pD st.m l t/\l<st.nx/\s≠[]/\t.length+s.length<=1099511627776/\K .any ⟨st.nx+1,nY st.m l st.nx (t++s)⟩
def RM (ds:List D)(st:St)(K:D->St->Prop):Prop:=∃s,TrW (.str s) s ds st K
def RL (ds:List D)(st:St)(K:D->St->Prop):Prop:=∃c,TrW (.int .u8 c.toNat) [c] ds st K
def RJ (ds:List D)(st:St)(K:D->St->Prop):Prop:=∃l t,ds=[.ptr l 2 0 0]/\pD st.m l t/\t≠[]/\K (.str t) ⟨st.nx,dH (eR st.m l) l⟩
def I4 (Y:Ctx):Prop:=∀(ds:List D)(st:St)(K:D->St->Prop),RM ds st K->Y.tr 489 ds st K
def LI (Y:Ctx):Prop:=∀(ds:List D)(st:St)(K:D->St->Prop),RL ds st K->Y.tr 664 ds st K
def I2 (Y:Ctx):Prop:=∀(ds:List D)(st:St)(K:D->St->Prop),RJ ds st K->Y.tr 452 ds st K
def EK (b a:au)(l:List au)(h:a≠[]):bc b (a::l)≠[]:=by
 match l with
 |[]=>exact h
 |c::r=>
  rw[jJ b a (c::r) aT];intro e;have:=List.append_eq_nil_iff.1 e;exact h (List.append_eq_nil_iff.1 this.1).1
def xO (ws:List au)(t:au):Prop:=(bc [32] ws≠[]/\ws.length<=1048600)/\(∀w∈ws,w.length<=2097200)/\t.length+(bc [32] ws).length+1<=1099511627776
def xO.mk {a:au}{l:List au}{t:au}(h1:a≠[])(h2:l.length<=99)(h3:∀w∈a::l,w.length<=2097200)(h4:t.length<=1000000000):xO (a::l) t:=by
 have h5:=kV 32 2097200 (a::l) h3;have h6:(a::l).length<=100:=by simp only[ay];omega
 have h7:=ek (2097200+1) h6;exact⟨⟨EK _ _ _ h1,ae⟩,h3,ae⟩
def Ly (Y:Ctx):Prop:=∀(ws:List au)(t:au)(l lw nx:Nat)(m:List (Nat×bK))(K:D->St->Prop),pD m l t->look m lw=some (.buf 1 (ws.map D.str))->l<nx->lw<nx->xO ws t->
 K (.tup []) ⟨nx+1,nY (dH m lw) l nx (t++bQ ws)⟩->Y.tr 450 [.ptr l 2 0 0,.own lw 1 0 ws.length] ⟨nx,m⟩ K
def rZ {m:List (Nat×bK)}{l L:Nat}{t:List UInt8}(h:l≠L):look (nY m l L t) l=some (.bld (some L) t.length true)/\look (nY m l L t) L=some (.row t):=by
 constructor
 ·simp only[nY,look,ai (fun e=>h (Eq.symm e))]
  haveI:c7:={gd:=fun _=>True,le:=fun _ _ _ _ _=>trivial}
  rw[cn,av rfl]
 ·simp only[nY,look,av]
def Jm {m:List (Nat×bK)}{l L:Nat}{t:List UInt8}(h:l≠L):pD (nY m l L t) l t:=.inr ⟨L,true,rZ h⟩
end Go.Abs
section
namespace Go.Abs
def ah {p:Prop}(h:p:=by exact rfl):p:=h
def J9 {p:Prop}(h:p:=by repeat(first|exact c9.nil|refine c9.un ?_|refine c9.eq bN ?_)):p:=h
def dm {p:Prop}(h:p:=by first|exact rfl|exact fQ (fun _=>rfl) _):p:=h
def dZ {p:Prop}(h:p:=by repeat(first|exact c9.nil|refine c9.un ?_|refine c9.eq bN ?_|refine c9.nl bN bN ?_)):p:=h
def gR {p:Prop}(h:p:=by repeat' first|exact trivial|exact rfl|refine And.intro ?_ ?_):p:=h
def J8 {p:Prop}(h:p:=by repeat' first|exact trivial|exact rfl|exact aY _|refine And.intro ?_ ?_):p:=h
def nP {p:Prop}(h:p:=by repeat(first|exact ba.nil|refine ba.gN bN bN (by first|exact rfl|exact fQ (fun _=>rfl) _) ?_|refine ba.kU bN bN bN ?_|refine ba.lK bN bN bN bN ?_)):p:=h
def b0 {p:Prop} [Decidable p]:(decide p=true)=p:=aR
def b1 {p:Prop} [Decidable p]:decide p=false↔¬p:=bx
def b2 (b:Bool):((!b)=true)=(b=false):=bB b
def b3 (b:Bool):((!b)=false)=(b=true):=bY b
def b4 (b:Bool):(¬(b=false))=(b=true):=Bool.not_eq_false b
def b5 (a b:Bool):((a ||b)=true)=(a=true\/b=true):=cu a b
def b7 (a b:Bool):((a&&b)=true)=(a=true/\b=true):=aZ a b
def b8 {a b:Bool}:(a&&b)=false↔a=false\/b=false:=dr
def b9 (b:Bool):(¬(b=true))=(b=false):=Bool.not_eq_true b
end Go.Abs
namespace Go.Abs
abbrev dd (Y:Ctx)(a:aC)(d:D)(ds:List D):Prop:=bH (Y.at 0) a.body (Mg a d) (gG a ds) ⟨0,[]⟩
def bO {a:aC}{d d2:D}{e:Ex}{nx:Nat}{m:List (Nat×bK)}{env:List bI}(h:d2=d)(he:e.home:=by exact trivial)(h1:qm m env a.res:=by exact J8)(h2:xM a env m:=by exact gR)(h3:F0 a env m=d2:=by exact rfl):Mg a d e env ⟨nx,m⟩:=Ns he h1 h2 (h3.trans h)
def bF {a:aC}{d d2:Bool}{e:Ex}{nx:Nat}{m:List (Nat×bK)}{env:List bI}(h:d2=d)(he:e.home:=by exact trivial)(h1:qm m env a.res:=by exact J8)(h2:xM a env m:=by exact gR)(h3:F0 a env m=.bool d2:=by exact rfl):Mg a (.bool d) e env ⟨nx,m⟩:=bO (aj _ h) he h1 h2 h3
def cD {a:aC}{d d2:List UInt8}{e:Ex}{nx:Nat}{m:List (Nat×bK)}{env:List bI}(h:d2=d)(he:e.home:=by exact trivial)(h1:qm m env a.res:=by exact J8)(h2:xM a env m:=by exact gR)(h3:F0 a env m=.str d2:=by exact rfl):Mg a (.str d) e env ⟨nx,m⟩:=bO (aj _ h) he h1 h2 h3
def cL {a:aC}{d d2:Int}{e:Ex}{nx:Nat}{m:List (Nat×bK)}{env:List bI}(h:d2=d)(he:e.home:=by exact trivial)(h1:qm m env a.res:=by exact J8)(h2:xM a env m:=by exact gR)(h3:F0 a env m=.int .i64 d2:=by exact rfl):Mg a (.int .i64 d) e env ⟨nx,m⟩:=bO (aj _ h) he h1 h2 h3
def dn {lo c nx nx2:Nat}{env env2:List bI}{m m2:List (Nat×bK)}(σ:List (Nat×Nat))(hc:nx2=c:=by exact ah)(h:gY lo c σ=true:=by exact ah)(he:c9 lo σ env env2:=by exact dZ)(hm:ba lo c σ m m2:=by exact nP):bj lo env ⟨nx,m⟩ env2 ⟨nx2,m2⟩:=bj.to σ hc h he hm
def eo {Y:Ctx}{draw f:Bool}{r:List GI}{env rs:List bI}{nx:Nat}{m:List (Nat×bK)}{K:List bI->St->Prop}{g:Option (Nat×Bool)}{x y:Src}{fx fy:Bool}{a b:List UInt8}(h:aG Y draw r env (⟨f,.str (a++b)⟩::rs) nx m K)(hg:GF rs g f:=by first|exact rfl|exact⟨_,_,rfl,rfl⟩)(hx:cv env rs x=⟨fx,.str a⟩:=by exact rfl)(hy:cv env rs y=⟨fy,.str b⟩:=by exact rfl)(kx:f=true->fx=true:=by first|exact fun _=>rfl|exact fun h=>h|(intro h;simp_all))(ky:f=true->fy=true:=by first|exact fun _=>rfl|exact fun h=>h|(intro h;simp_all))(hb:f=true->a.length+b.length<=9223372036854775807:=by intro _;simp only[bA,ay,az];omega):aG Y draw (⟨.bin .add x y,g⟩::r) env rs nx m K:=df h hg hx hy kx ky hb
end Go.Abs
namespace Go.Abs
section
variable {Y:Ctx} {Q:Ex->List bI->St->Prop}
def cmN {env rs:List bI}:GH env rs []=env:=rfl
def cmC {s p:Nat}{r:List (Nat×Nat)}{env rs env1 env':List bI}{f:Bool}{d:D}(e:cv [] rs (.l p)=⟨f,d⟩)(hs:env.set s ⟨f,d⟩=env1)(h:GH env1 rs r=env'):GH env rs ((s,p)::r)=env':=by
 simp only[GH,e,hs,h]
def rrrg {draw:Bool}{cm:List (Nat×Nat)}{b:AC}{nx nx':Nat}{m:List (Nat×bK)}{rs env gG env':List bI}(h:bH Y b Q env' ⟨nx',m⟩)
  (he:GH env rs cm=env':=by repeat(first|apply cmC bN (by simp only[List.set_cons_zero,List.set_cons_succ];exact rfl)|with_reducible exact cmN)) (hn:nx+rs.length=nx':=by simp only[ay,az,Nat.reduceAdd];exact rfl):aG Y draw [] gG rs nx m (fun vs st'=>bH Y b Q (gJ env vs cm) st'):=
 Kf h he hn
def rrrh {draw:Bool}{cm:List (Nat×Nat)}{nx nx':Nat}{m:List (Nat×bK)}{rs env gG env':List bI}(h:Q .normal env' ⟨nx',m⟩)
  (he:GH env rs cm=env':=by repeat(first|apply cmC bN (by simp only[List.set_cons_zero,List.set_cons_succ];exact rfl)|with_reducible exact cmN)) (hn:nx+rs.length=nx':=by simp only[ay,az,Nat.reduceAdd];exact rfl):aG Y draw [] gG rs nx m (fun vs st'=>Q .normal (gJ env vs cm) st'):=
 Kg h he hn
end
def Fam (_:Prop):Type:=Unit
def sI {q:Prop}:Fam q:=()
structure Hid (q:Prop)(f:Fam q):Prop where
 val:q
section
variable {Y:Ctx} {draw b1:Bool} {r:List GI} {env rs:List bI} {nx n0 n1:Nat} {m:List (Nat×bK)} {K:List bI->St->Prop} {g:Option (Nat×Bool)} {x0 x1 x2:Src}
def tg0 {Y:Ctx}{a:AC}{Q:Ex->List bI->St->Prop}{env:List bI}{st:St}(h:bH Y a Q env st):bH Y a Q env st:=h
def tg1 (h:aG Y draw (⟨.mv x0,g⟩::r) env rs nx m K):aG Y draw (⟨.mv x0,g⟩::r) env rs nx m K:=h
def tg2 (h:aG Y draw [] env rs nx m K):aG Y draw [] env rs nx m K:=h
def tg3 (h:aG Y draw (⟨.fa n0 x1,g⟩::r) env rs nx m K):aG Y draw (⟨.fa n0 x1,g⟩::r) env rs nx m K:=h
def tg4 (h:aG Y draw (⟨.ld n0 b1 x2,g⟩::r) env rs nx m K):aG Y draw (⟨.ld n0 b1 x2,g⟩::r) env rs nx m K:=h
def tg5 (h:aG Y draw (⟨.bin .lss x0 x1,g⟩::r) env rs nx m K):aG Y draw (⟨.bin .lss x0 x1,g⟩::r) env rs nx m K:=h
def tg6 (h:aG Y draw (⟨.bin .eql x0 x1,g⟩::r) env rs nx m K):aG Y draw (⟨.bin .eql x0 x1,g⟩::r) env rs nx m K:=h
def tg7 (h:aG Y draw (⟨.bin .add x0 x1,g⟩::r) env rs nx m K):aG Y draw (⟨.bin .add x0 x1,g⟩::r) env rs nx m K:=h
def tg8 (h:aG Y draw (⟨.bin .gtr x0 x1,g⟩::r) env rs nx m K):aG Y draw (⟨.bin .gtr x0 x1,g⟩::r) env rs nx m K:=h
def tg9 (h:aG Y draw (⟨.bin .neq x0 x1,g⟩::r) env rs nx m K):aG Y draw (⟨.bin .neq x0 x1,g⟩::r) env rs nx m K:=h
def tg10 (h:aG Y draw (⟨.bin .leq x0 x1,g⟩::r) env rs nx m K):aG Y draw (⟨.bin .leq x0 x1,g⟩::r) env rs nx m K:=h
def tg11 (h:aG Y draw (⟨.bin .geq x0 x1,g⟩::r) env rs nx m K):aG Y draw (⟨.bin .geq x0 x1,g⟩::r) env rs nx m K:=h
def tg12 (h:aG Y draw (⟨.bin .sub x0 x1,g⟩::r) env rs nx m K):aG Y draw (⟨.bin .sub x0 x1,g⟩::r) env rs nx m K:=h
def tg13 (h:aG Y draw (⟨.ext x0 n1,g⟩::r) env rs nx m K):aG Y draw (⟨.ext x0 n1,g⟩::r) env rs nx m K:=h
def tg14 (h:aG Y draw (⟨.pick x0 x1 (.c (.bool false)),g⟩::r) env rs nx m K):aG Y draw (⟨.pick x0 x1 (.c (.bool false)),g⟩::r) env rs nx m K:=h
def tg15 (h:aG Y draw (⟨.pick x0 (.c (.bool true)) x1,g⟩::r) env rs nx m K):aG Y draw (⟨.pick x0 (.c (.bool true)) x1,g⟩::r) env rs nx m K:=h
def tg16 (h:aG Y draw (⟨.un .not x0,g⟩::r) env rs nx m K):aG Y draw (⟨.un .not x0,g⟩::r) env rs nx m K:=h
def tg17 (h:aG Y draw (⟨.nilck x0,g⟩::r) env rs nx m K):aG Y draw (⟨.nilck x0,g⟩::r) env rs nx m K:=h
def tg18 (h:aG Y draw (⟨.box n0 x1,g⟩::r) env rs nx m K):aG Y draw (⟨.box n0 x1,g⟩::r) env rs nx m K:=h
def tg19 (h:aG Y draw (⟨.ia n0 x1 x2,g⟩::r) env rs nx m K):aG Y draw (⟨.ia n0 x1 x2,g⟩::r) env rs nx m K:=h
def tg20 (h:aG Y draw (⟨.ixS x0 x1,g⟩::r) env rs nx m K):aG Y draw (⟨.ixS x0 x1,g⟩::r) env rs nx m K:=h
def tg21 (h:aG Y draw (⟨.st n0 x1 x2,g⟩::r) env rs nx m K):aG Y draw (⟨.st n0 x1 x2,g⟩::r) env rs nx m K:=h
def tg22 (h:aG Y draw (⟨.len x0,g⟩::r) env rs nx m K):aG Y draw (⟨.len x0,g⟩::r) env rs nx m K:=h
def tg23 (h:aG Y draw (⟨.lenS x0,g⟩::r) env rs nx m K):aG Y draw (⟨.lenS x0,g⟩::r) env rs nx m K:=h
def tg24 (h:aG Y draw (⟨.nT x0,g⟩::r) env rs nx m K):aG Y draw (⟨.nT x0,g⟩::r) env rs nx m K:=h
def tg25 (h:aG Y draw (⟨.s2b x0,g⟩::r) env rs nx m K):aG Y draw (⟨.s2b x0,g⟩::r) env rs nx m K:=h
def tg26 (h:aG Y draw (⟨.mkB,g⟩::r) env rs nx m K):aG Y draw (⟨.mkB,g⟩::r) env rs nx m K:=h
def tg27 (h:aG Y draw (⟨.app n0 x1 x2,g⟩::r) env rs nx m K):aG Y draw (⟨.app n0 x1 x2,g⟩::r) env rs nx m K:=h
end
def aS {p q:Prop}(k:q)(h:Hid q sI->p:=by
 intro h;first
 |((with_reducible refine tg0 ?_);first|with_reducible exact ak h.1|with_reducible exact IM h.1|with_reducible exact CH h.1|with_reducible exact NF h.1|with_reducible exact FZ h.1|with_reducible exact wp_ret h.1|with_reducible exact wp_skip h.1|with_reducible exact CG h.1|with_reducible exact wp_exit h.1|with_reducible exact A5 h.1 hm|with_reducible exact FY h.1 hm)
 |((with_reducible refine tg1 ?_);(refine r_mv ?_;exact h.1))
 |((with_reducible refine tg2 ?_);first|(refine rrrh ?_;exact h.1)|(refine rrrg ?_;exact h.1))
 |((with_reducible refine tg3 ?_);first|(refine Ru ?_;exact h.1)|(refine Rv ?_;exact h.1))
 |((with_reducible refine tg4 ?_);first|exact bR (.int _ _) h.1|exact bR (.str _) h.1|(refine cy (v:=.str _) ?_;exact h.1)|(refine eO (v:=.str _) ?_;exact h.1)|(refine cy (v:=.int _ _) ?_;exact h.1)|(refine eO (v:=.int _ _) ?_;exact h.1)|exact bR (.sl _ _) h.1|exact bR (.own _ _ _ _) h.1|exact bR (.bool _) h.1|(refine cy (v:=.sl _ _) ?_;exact h.1)|(refine eO (v:=.sl _ _) ?_;exact h.1)|(refine cy (v:=.bool _) ?_;exact h.1)|(refine eO (v:=.bool _) ?_;exact h.1)|exact ee h.1|exact bR .aV h.1)
 |((with_reducible refine tg5 ?_);first|(refine H6 ?_;exact h.1)|(refine H7 ?_;exact h.1))
 |((with_reducible refine tg6 ?_);first|(refine M6 ?_;exact h.1)|(refine M7 ?_;exact h.1))
 |((with_reducible refine tg7 ?_);(refine Ka ?_;exact h.1))
 |((with_reducible refine tg8 ?_);first|(refine Na ?_;exact h.1)|(refine Nb ?_;exact h.1))
 |((with_reducible refine tg9 ?_);first|(refine Nk ?_;exact h.1)|(refine Nl ?_;exact h.1))
 |((with_reducible refine tg10 ?_);first|(refine Ni ?_;exact h.1)|(refine Nj ?_;exact h.1))
 |((with_reducible refine tg11 ?_);first|(refine M8 ?_;exact h.1)|(refine M9 ?_;exact h.1))
 |((with_reducible refine tg12 ?_);(refine Kc ?_;exact h.1))
 |((with_reducible refine tg13 ?_);first|exact lD (.int _ _) h.1|exact lD (.str _) h.1|exact lD (.bool _) h.1)
 |((with_reducible refine tg14 ?_);(refine Rq ?_;exact h.1))
 |((with_reducible refine tg15 ?_);(refine r_or ?_;exact h.1))
 |((with_reducible refine tg16 ?_);(refine Rz ?_;exact h.1))
 |((with_reducible refine tg17 ?_);first|(refine Nn ?_;exact h.1)|(refine Np ?_;exact h.1))
 |((with_reducible refine tg18 ?_);(refine Rr ?_;exact h.1))
 |((with_reducible refine tg19 ?_);first|exact cC _ h.1|exact Nc h.1|exact jz _ h.1|exact Nf h.1)
 |((with_reducible refine tg20 ?_);first|exact mL _ h.1|exact Ng h.1)
 |((with_reducible refine tg21 ?_);exact bL _ h.1)
 |((with_reducible refine tg22 ?_);first|exact H3 fun a=>(h.1:_->_) (a rfl rfl)|exact H4 fun a=>(h.1:_->_) (a rfl rfl)|(refine Nh ?_;exact h.1))
 |((with_reducible refine tg23 ?_);exact H5 fun a=>(h.1:_->_) (a rfl rfl))
 |((with_reducible refine tg24 ?_);(refine RB ?_;exact h.1))
 |((with_reducible refine tg25 ?_);(refine RC ?_;exact h.1))
 |((with_reducible refine tg26 ?_);(refine Rx ?_;exact h.1))
 |((with_reducible refine tg27 ?_);(refine yC ?_;exact h.1))
 |with_reducible exact BQ.normal h.1|with_reducible exact BQ.ret h.1|with_reducible exact LQ.normal h.1|with_reducible exact LQ.out h.1|with_reducible exact LQ.ret h.1|with_reducible exact BQ.out h.1|with_reducible exact A9.normal h.1|with_reducible exact A9.ret h.1|with_reducible exact Bb.normal h.1|with_reducible exact Bb.ret h.1|with_reducible exact A9.out h.1|with_reducible exact Bb.out h.1|with_reducible exact CQ.normal h.1|with_reducible exact CQ.ret h.1|with_reducible exact CQ.other h.1|((with_reducible refine BQ.other ?_ h.1);exact rfl)|((with_reducible refine LQ.other ?_ h.1);exact rfl)|((with_reducible refine A9.other ?_ h.1);exact rfl)|((with_reducible refine Bb.other ?_ h.1);exact rfl)):p:=h ⟨k⟩
def kd {p q:Prop}(k:q)(h:Hid q sI->p:=by intro h;first|exact H3 fun _=>h.1|exact H5 fun _=>h.1|exact H4 fun _=>h.1):p:=h ⟨k⟩
section
variable {Y:Ctx} {Q:Ex->List bI->St->Prop}
end
def fu:(∀{p:Prop} [Decidable p],(decide p=true)=p)/\(∀{p:Prop} [Decidable p],decide p=false↔¬p)/\(∀b:Bool,((!b)=true)=(b=false))/\(∀b:Bool,((!b)=false)=(b=true))/\(∀b:Bool,(¬(b=false))=(b=true))/\(∀a b:Bool,((a ||b)=true)=(a=true\/b=true))/\(∀{a b:Bool},(a ||b)=false↔a=false/\b=false)/\(∀a b:Bool,((a&&b)=true)=(a=true/\b=true))/\(∀{a b:Bool},(a&&b)=false↔a=false\/b=false)/\(∀b:Bool,(¬(b=true))=(b=false))/\(∀b:Bool,(true&&b)=b)/\∀b:Bool,(b&&true)=b:=
 ⟨aR,bx,bB,bY,Bool.not_eq_false,cu,dc,aZ,dr,Bool.not_eq_true,eH,jr⟩
section
variable {Y:Ctx} {Q:Ex->List bI->St->Prop} {env:List bI} {st:St}
def cw {c:Src}{a b r:AC}{t:Bool}{c1 c2:Prop}(h1:c1->bH Y (.seq a r) Q env st)(h2:c2->bH Y (.seq b r) Q env st)(hc:cv env [] c=⟨true,.bool t⟩:=by exact rfl)(e1:t=true->c1:=by intro h;(try simp only[fu]at h);exact h)(e2:t=false->c2:=by intro h;(try simp only[fu]at h);exact h):bH Y (.seq (.cond c a b) r) Q env st:=aw (fun h=>h1 (e1 h)) (fun h=>h2 (e2 h)) hc
def eP {c:Src}{a b:AC}{t:Bool}{c1 c2:Prop}(h1:c1->bH Y a Q env st)(h2:c2->bH Y b Q env st)(hc:cv env [] c=⟨true,.bool t⟩:=by exact rfl)(e1:t=true->c1:=by intro h;(try simp only[fu]at h);exact h)(e2:t=false->c2:=by intro h;(try simp only[fu]at h);exact h):bH Y (.cond c a b) Q env st:=wp_cond (fun h=>h1 (e1 h)) (fun h=>h2 (e2 h)) hc
end
end Go.Abs
namespace Go.Abs
def aA {p q:Prop}(k:q)(h:Hid q sI->p:=by intro h;(iterate 2 refine aS ?_);exact h.1):p:=h ⟨k⟩
def aB {p q:Prop}(k:q)(h:Hid q sI->p:=by intro h;(iterate 3 refine aS ?_);exact h.1):p:=h ⟨k⟩
def aE {p q:Prop}(k:q)(h:Hid q sI->p:=by intro h;(iterate 4 refine aS ?_);exact h.1):p:=h ⟨k⟩
def aI {p q:Prop}(k:q)(h:Hid q sI->p:=by intro h;(iterate 5 refine aS ?_);exact h.1):p:=h ⟨k⟩
def aF {p q:Prop}(k:q)(h:Hid q sI->p:=by intro h;(iterate 6 refine aS ?_);exact h.1):p:=h ⟨k⟩
def aU {p q:Prop}(k:q)(h:Hid q sI->p:=by intro h;(iterate 7 refine aS ?_);exact h.1):p:=h ⟨k⟩
def bP {p q:Prop}(k:q)(h:Hid q sI->p:=by intro h;(iterate 8 refine aS ?_);exact h.1):p:=h ⟨k⟩
def cU {p q:Prop}(k:q)(h:Hid q sI->p:=by intro h;(iterate 9 refine aS ?_);exact h.1):p:=h ⟨k⟩
def ic {p q:Prop}(k:q)(h:Hid q sI->p:=by intro h;(iterate 10 refine aS ?_);exact h.1):p:=h ⟨k⟩
def gy {p q:Prop}(k:q)(h:Hid q sI->p:=by intro h;(iterate 11 refine aS ?_);exact h.1):p:=h ⟨k⟩
def gW {p q:Prop}(k:q)(h:Hid q sI->p:=by intro h;(iterate 12 refine aS ?_);exact h.1):p:=h ⟨k⟩
def lJ {p q:Prop}(k:q)(h:Hid q sI->p:=by intro h;(iterate 13 refine aS ?_);exact h.1):p:=h ⟨k⟩
def A8 {p q:Prop}(k:q)(h:Hid q sI->p:=by intro h;(iterate 14 refine aS ?_);exact h.1):p:=h ⟨k⟩
def vP {p q:Prop}(k:q)(h:Hid q sI->p:=by intro h;(iterate 15 refine aS ?_);exact h.1):p:=h ⟨k⟩
def vQ {p q:Prop}(k:q)(h:Hid q sI->p:=by intro h;(iterate 16 refine aS ?_);exact h.1):p:=h ⟨k⟩
def vR {p q:Prop}(k:q)(h:Hid q sI->p:=by intro h;(iterate 17 refine aS ?_);exact h.1):p:=h ⟨k⟩
def Lk {p q:Prop}(k:q)(h:Hid q sI->p:=by intro h;(iterate 18 refine aS ?_);exact h.1):p:=h ⟨k⟩
def Ll {p q:Prop}(k:q)(h:Hid q sI->p:=by intro h;(iterate 20 refine aS ?_);exact h.1):p:=h ⟨k⟩
def Lm {p q:Prop}(k:q)(h:Hid q sI->p:=by intro h;(iterate 22 refine aS ?_);exact h.1):p:=h ⟨k⟩
def Sd {p q:Prop}(k:q)(h:Hid q sI->p:=by intro h;(iterate 24 refine aS ?_);exact h.1):p:=h ⟨k⟩
def Ln {p q:Prop}(k:q)(h:Hid q sI->p:=by intro h;(iterate 25 refine aS ?_);exact h.1):p:=h ⟨k⟩
def Se {p q:Prop}(k:q)(h:Hid q sI->p:=by intro h;(iterate 26 refine aS ?_);exact h.1):p:=h ⟨k⟩
def IP {p q:Prop}(k:q)(h:Hid q sI->p:=by intro h;(iterate 28 refine aS ?_);exact h.1):p:=h ⟨k⟩
def Lo {p q:Prop}(k:q)(h:Hid q sI->p:=by intro h;(iterate 36 refine aS ?_);exact h.1):p:=h ⟨k⟩
end Go.Abs
namespace Go.Abs
abbrev s0:Src:=.s 0
abbrev s1:Src:=.s 1
abbrev s2:Src:=.s 2
abbrev s3:Src:=.s 3
abbrev s4:Src:=.s 4
abbrev s5:Src:=.s 5
abbrev s6:Src:=.s 6
abbrev s7:Src:=.s 7
abbrev s8:Src:=.s 8
abbrev s9:Src:=.s 9
abbrev iP:Src:=.s 10
abbrev kp:Src:=.s 11
abbrev mS:Src:=.s 12
abbrev qp:Src:=.s 13
abbrev tq:Src:=.s 14
abbrev wu:Src:=.s 15
abbrev Cw:Src:=.s 16
abbrev Cx:Src:=.s 17
abbrev FB:Src:=.s 18
abbrev Nt:Src:=.s 19
abbrev DM:Src:=.s 20
abbrev NO:Src:=.s 21
abbrev NP:Src:=.s 22
abbrev s23:Src:=.s 23
abbrev Nu:Src:=.s 24
abbrev NQ:Src:=.s 25
abbrev RF:Src:=.s 26
abbrev s27:Src:=.s 27
abbrev s28:Src:=.s 28
abbrev s29:Src:=.s 29
abbrev Lg:Src:=.s 30
abbrev s31:Src:=.s 31
abbrev s32:Src:=.s 32
abbrev s33:Src:=.s 33
abbrev s34:Src:=.s 34
abbrev s35:Src:=.s 35
abbrev s36:Src:=.s 36
abbrev s37:Src:=.s 37
abbrev s38:Src:=.s 38
abbrev l0:Src:=.l 0
abbrev l1:Src:=.l 1
abbrev l2:Src:=.l 2
abbrev l3:Src:=.l 3
abbrev l4:Src:=.l 4
abbrev l5:Src:=.l 5
abbrev l6:Src:=.l 6
abbrev l7:Src:=.l 7
abbrev l8:Src:=.l 8
abbrev l9:Src:=.l 9
abbrev l10:Src:=.l 10
abbrev im:Src:=.l 11
abbrev js:Src:=.l 12
abbrev ki:Src:=.l 13
abbrev kW:Src:=.l 14
abbrev me:Src:=.l 15
abbrev ng:Src:=.l 16
abbrev pJ:Src:=.l 17
abbrev qB:Src:=.l 18
abbrev rA:Src:=.l 19
abbrev vT:Src:=.l 20
abbrev wW:Src:=.l 21
abbrev yo:Src:=.l 22
abbrev Bd:Src:=.l 23
abbrev BM:Src:=.l 24
abbrev EL:Src:=.l 25
abbrev Hk:Src:=.l 26
abbrev JU:Src:=.l 27
abbrev K7:Src:=.l 28
abbrev K8:Src:=.l 29
abbrev NL:Src:=.l 30
abbrev l31:Src:=.l 31
abbrev l32:Src:=.l 32
abbrev l33:Src:=.l 33
abbrev l34:Src:=.l 34
abbrev gm (x:Src):GI:=⟨.mv x,none⟩
abbrev gn (x:aJ):GI:=⟨x,none⟩
abbrev i6 (n:Int):Src:=.c (.int .i64 n)
abbrev cs (s:List UInt8):Src:=.c (.str s)
abbrev gd (x:Src):GI:=⟨.ld 1 false x,none⟩
abbrev gk (n:Nat)(b:Bool)(x:Src):GI:=⟨.ld n b x,none⟩
abbrev gf (n:Nat)(x:Src):GI:=⟨.fa n x,none⟩
abbrev gl (x:Src):GI:=⟨.len x,none⟩
abbrev ga (n:Nat)(x y:Src):GI:=⟨.ia n x y,none⟩
abbrev ge (x:Src)(n:Nat):GI:=⟨.ext x n,none⟩
abbrev gb (n:Nat)(x:Src):GI:=⟨.box n x,none⟩
abbrev gc (x:Src):GI:=⟨.nilck x,none⟩
abbrev gt (n:Nat)(x y:Src):GI:=⟨.st n x y,none⟩
abbrev gx (n:Nat)(x:List Src)(y:List (List Sh)):GI:=⟨.call n x y,none⟩
abbrev rg (x:List GI)(y:List (Nat×Nat)):AC:=.reg false x y
abbrev rt (x:List GI)(y:List (Nat×Nat)):AC:=.reg true x y
abbrev qH (x y:Src):aJ:=.bin .lss x y
abbrev cM (x y:Src):aJ:=.bin .eql x y
abbrev Gx (x y:Src):aJ:=.bin .add x y
abbrev dE (x y:Src):aJ:=.bin .gtr x y
abbrev eW (x y:Src):aJ:=.bin .neq x y
abbrev kB (x y:Src):aJ:=.bin .leq x y
abbrev qG (x y:Src):aJ:=.bin .geq x y
abbrev ju (x y:Src):aJ:=.bin .sub x y
abbrev dt:Src:=.c (.bool false)
abbrev px:Src:=.c (.bool true)
abbrev cse:Src:=.c (.str [])
abbrev bp:Src:=.c (.int .i64 0)
abbrev cq:Src:=.c (.int .i64 1)
abbrev nM:Src:=.c (.int .i64 2)
abbrev ml:Src:=.c (.int .i64 3)
abbrev tg:Src:=.c (.int .i64 4)
abbrev NJ:Src:=.c (.int .i64 5)
abbrev uy:Src:=.c (.int .i64 6)
abbrev Hg:Src:=.c (.int .i64 7)
abbrev BJ:Src:=.c (.int .i64 8)
abbrev Bc:Src:=.c (.int .i64 9)
abbrev gmt (n:Nat)(x:Src):GI:=⟨.mv x,some (n,true)⟩
abbrev ke (n:Nat)(x:Src):GI:=⟨.ld 1 false x,some (n,true)⟩
abbrev lr (n o:Nat)(x:Src):GI:=⟨.fa o x,some (n,true)⟩
abbrev ca (n:Nat)(x:aJ):GI:=⟨x,some (n,true)⟩
abbrev eC (n:Nat)(x:Src):GI:=⟨.mv x,some (n,false)⟩
abbrev iT (n:Nat)(x:Src):GI:=⟨.ld 1 false x,some (n,false)⟩
abbrev hZ (n o:Nat)(x:Src):GI:=⟨.fa o x,some (n,false)⟩
abbrev cl (n:Nat)(x:aJ):GI:=⟨x,some (n,false)⟩
abbrev sq (a b:AC):AC:=.seq a b
abbrev te (x:Src):AC:=.seq (.reg false [⟨.mv x,none⟩] [(1,0)]) .ret
abbrev jG (c x:Src):AC:=.cond c (.seq (.reg false [⟨.mv x,none⟩] [(1,0)]) .ret) .skip
abbrev bM:List (List Sh):=[[.a]]
abbrev wg:List (List Sh):=[[.a,.a,.a,.a,.a]]
abbrev JI:List (List Sh):=[[.a,.a,.a,.a,.a,.a,.a]]
abbrev fV:List (List Sh):=[[.a],[.a]]
abbrev NI:List (List Sh):=[[.a],[.a],[.a]]
abbrev hb4:List (List Sh):=[[.a],[.a],[.a],[.a]]
abbrev eK (c x:Src):GI:=⟨.pick c (.c (.bool true)) x,none⟩
abbrev ew (c x:Src):GI:=⟨.pick c x (.c (.bool false)),none⟩
abbrev MD (n:Nat)(c x:Src):GI:=⟨.pick c (.c (.bool true)) x,some (n,true)⟩
abbrev zC (n:Nat)(c x:Src):GI:=⟨.pick c x (.c (.bool false)),some (n,false)⟩
abbrev aP (x y:Src):GI:=⟨.bin .lss x y,none⟩
abbrev aL (x y:Src):GI:=⟨.bin .eql x y,none⟩
abbrev ax (x y:Src):GI:=⟨.bin .add x y,none⟩
abbrev cH (x y:Src):GI:=⟨.bin .gtr x y,none⟩
abbrev cg (x y:Src):GI:=⟨.bin .neq x y,none⟩
abbrev yu (x y:Src):GI:=⟨.bin .leq x y,none⟩
abbrev gB (x y:Src):GI:=⟨.bin .geq x y,none⟩
abbrev ep (x y:Src):GI:=⟨.bin .sub x y,none⟩
abbrev BW (x y:Src):GI:=⟨.bin .and x y,none⟩
abbrev Dp (x y:Src):GI:=⟨.bin .or x y,none⟩
abbrev eN (c:Src)(n:Nat):AC:=.cond c .skip (.exit n)
abbrev i8 (n:Int):Src:=.c (.int .u8 n)
abbrev i3 (n:Int):Src:=.c (.int .i32 n)
abbrev iu (n:Int):Src:=.c (.int .u64 n)
abbrev mE (x:Src):GI:=⟨.lenS x,none⟩
abbrev jx (x:Src):GI:=⟨.un .not x,none⟩
abbrev C8 (x y:Src):GI:=⟨.ixS x y,none⟩
abbrev r1 (x:List GI)(a b:Nat):AC:=.reg false x [(a,b)]
abbrev r2 (x:List GI)(a b:Nat):AC:=.reg true x [(a,b)]
abbrev fM:List Be:=[⟨1,none⟩]
end Go.Abs
end
namespace Go.Abs
def Fj:aC:=⟨2,7,[⟨2,none⟩],bM,(sq (r1 [gm cse] 2 0) (sq (r1 [gm cse] 6 0) (sq (sq (r1 [gm bp] 3 0) (.block 0 (.loop (sq (sq (r1 [gm s3,gm s0,gl l1,aP l0 l2] 4 3) (eN s4 0)) (sq (.block 1 (sq (sq (r1 [gm s3,cH l0 bp] 5 1) (.cond s5 (r1 [gm s6,gm s1,gn (.bsl 1 (.int .u8 0) 1 [(0,l1)]),gn (.b2s l2),ax l0 l3,gm l4] 6 5) .skip)) (r1 [gm s6,gm s0,gm s3,ga 1 l1 l2,gd l3,ax l0 l4,gm l5] 6 6))) (r1 [gm s3,ax l0 cq,gm l1] 3 2)))))) (sq (r1 [gm s6,gm l0] 2 1) .ret))))⟩
def w249 {Y:Ctx}(hm:(Y.at 0).bd)  (l:List au)(x:UInt8)  (hp0:(bc [x] l).length<=1099511627776):dd Y Fj (.str (bc [x] l)) [.sl 1 (l.map D.str),.int .u8 (x.toNat:Nat)]:=by
 show bH _ _ _ [⟨_,_⟩,⟨_,_⟩,_,_,_,_,_] _;refine ak ?_;refine cU ?_;refine bh hm (ι:=Nat) (fun i=>[⟨true,.sl 1 (l.map D.str)⟩,⟨true,.int .u8 (x.toNat:Nat)⟩,.un,⟨true,.int .i64 (i:Nat)⟩,.un,.un,⟨true,.str (bc [x] (l.take i))⟩]) (fun i=>[]) 3 (fun i=>i<=l.length) (fun i=>l.length-i) 0 ae (dn []) ?_;intro i hi;refine aI ?_;intro u0;refine aA ?_;refine cw (fun hc0=>?_) fun hc0=>?_
 ·refine aE ?_;have hj:=pc [x] l (i+1);refine aB ?_;refine aw (fun hc1=>?_) (fun hc1=>?_)
  ·simp only[aR]at hc1;have ht:=nb [x] l i ae;rw[av ae]at ht;have htl:=aj List.length ht;simp only[bA,List.length_singleton]at htl;refine aB ?_;refine dK [.int .u8 _] ?_;refine Ac [x] (he:=fun _=>sC.all ah rfl) (hs:=fun _=>rfl) ?_;refine df (hb:=fun _=>by simp only[List.length_singleton];omega) ?_;refine bP ?_;refine df (hb:=fun _=>by first|(simp only[bA,List.length_singleton];omega)|(subst hi0;simp only[List.take_zero,bc,az]at htl⊢;omega)) ?_;refine cU ?_;exact⟨i+1,ae,ae,(bj.to [] ah ah (by repeat(first|exact c9.nil|refine c9.un ?_|refine c9.eq ah ?_|refine c9.nl (aj D.str (by rw[ht])) ah ?_)) nP)⟩
  simp only[bx]at hc1;have ht:=nb [x] l i ae;rw[ai ae]at ht;have htl:=aj List.length ht;simp only[bA,az]at htl;have hi0:i=0:=ae;refine aU ?_;refine df (hb:=fun _=>by first|(simp only[bA,List.length_singleton];omega)|(subst hi0;simp only[List.take_zero,bc,az]at htl⊢;omega)) ?_;refine cU ?_;exact⟨i+1,ae,ae,(bj.to [] ah ah (by repeat(first|exact c9.nil|refine c9.un ?_|refine c9.eq ah ?_|refine c9.nl (aj D.str (by rw[ht];subst hi0;rfl)) ah ?_)) nP)⟩
 refine aU ?_;refine cD ?_;rw[dQ ae]
def I1 (Y:Ctx):Prop:=∀(l:List au)(x:UInt8),((bc [x] l).length<=1099511627776)->Y.pre 249 [.sl 1 (l.map D.str),.int .u8 (x.toNat:Nat)]/\Y.val 249 [.sl 1 (l.map D.str),.int .u8 (x.toNat:Nat)]=.str (bc [x] l)
def Ay:aC:=⟨1,5,fM,bM,(sq (r1 [gm dt] 1 0) (sq (sq (r1 [gm cq] 2 0) (.block 0 (.loop (sq (sq (r1 [gm s2,gm s0,gl l1,aP l0 l2] 3 3) (eN s3 0)) (sq (.block 1 (sq (r2 [gm s0,gm s2,ep l1 cq,ga 1 l0 l2,gd l3,gm s0,gm s2,ga 1 l5 l6,gd l7,gB l4 l8] 4 9) (jG s4 dt))) (r1 [gm s2,ax l0 cq,gm l1] 2 2)))))) (te px)))⟩
def w815 {Y:Ctx}(hm:(Y.at 0).bd)  (l:List au)   :dd Y Ay (.bool (rising l)) [.sl 1 (l.map D.str)]:=by
 show bH _ _ _ [⟨_,_⟩,_,_,_,_] _;refine ak ?_;refine aF ?_;refine bh hm (ι:=Nat) (fun i=>[⟨true,.sl 1 (l.map D.str)⟩,.un,⟨true,.int .i64 (i:Nat)⟩,.un,.un]) (fun i=>[]) 2 (fun i=>1<=i/\(i<=l.length\/i=1)/\rising l=cr (fun i=>Op.bytesLess l[i-1]! l[i]!) i l.length) (fun i=>l.length-i) 1 ⟨ae,ae,rfl⟩ (dn []) ?_;rintro i ⟨h1,hi,hr⟩;refine aI ?_;intro u0;refine aA ?_;refine cw (fun hc0=>?_) fun hc0=>?_
 ·refine aF ?_;refine cC (i-1) ?_;refine aU ?_;refine wp_cond (fun hc1=>?_) (fun hc1=>?_)
  ·simp only[bB]at hc1;refine aF ?_;refine bF ?_;rw[hr,aK ae,hc1];rfl
  simp only[bY]at hc1;refine bP ?_;exact⟨i+1,⟨ae,ae,by rw[hr,aK ae,hc1];rfl⟩,ae,(dn [])⟩
 refine aF ?_;refine bF ?_;rw[hr,bV ae]
def LS (Y:Ctx):Prop:=∀(l:List au),Y.pre 815 [.sl 1 (l.map D.str)]/\Y.val 815 [.sl 1 (l.map D.str)]=.bool (rising l)
def v8:aC:=⟨1,5,fM,bM,(sq (r1 [gm dt] 1 0) (sq (sq (r1 [gm cq] 2 0) (.block 0 (.loop (sq (sq (r1 [gm s2,gm s0,gl l1,aP l0 l2] 3 3) (eN s3 0)) (sq (.block 1 (sq (r2 [gm s0,gm s2,ep l1 cq,ga 1 l0 l2,gd l3,gm s0,gm s2,ga 1 l5 l6,gd l7,gB l4 l8] 4 9) (jG s4 dt))) (r1 [gm s2,ax l0 cq,gm l1] 2 2)))))) (te px)))⟩
def w447 {Y:Ctx}(hm:(Y.at 0).bd)  (l:List au)   :dd Y v8 (.bool (rising l)) [.sl 1 (l.map D.str)]:=by
 show bH _ _ _ [⟨_,_⟩,_,_,_,_] _;refine ak ?_;refine aF ?_;refine bh hm (ι:=Nat) (fun i=>[⟨true,.sl 1 (l.map D.str)⟩,.un,⟨true,.int .i64 (i:Nat)⟩,.un,.un]) (fun i=>[]) 2 (fun i=>1<=i/\(i<=l.length\/i=1)/\rising l=cr (fun i=>Op.bytesLess l[i-1]! l[i]!) i l.length) (fun i=>l.length-i) 1 ⟨ae,ae,rfl⟩ (dn []) ?_;rintro i ⟨h1,hi,hr⟩;refine aI ?_;intro u0;refine aA ?_;refine cw (fun hc0=>?_) fun hc0=>?_
 ·refine aF ?_;refine cC (i-1) ?_;refine aU ?_;refine wp_cond (fun hc1=>?_) (fun hc1=>?_)
  ·simp only[bB]at hc1;refine aF ?_;refine bF ?_;rw[hr,aK ae,hc1];rfl
  simp only[bY]at hc1;refine bP ?_;exact⟨i+1,⟨ae,ae,by rw[hr,aK ae,hc1];rfl⟩,ae,(dn [])⟩
 refine aF ?_;refine bF ?_;rw[hr,bV ae]
def OA (Y:Ctx):Prop:=∀(l:List au),Y.pre 447 [.sl 1 (l.map D.str)]/\Y.val 447 [.sl 1 (l.map D.str)]=.bool (rising l)
end Go.Abs
