/- A part of the proofs. -/
import Derived.Test.YtgnjlompgjhaaaaGreatDoorP05
set_option linter.all false
set_option maxRecDepth 60000
section
namespace Go.Abs
variable {Y:Ctx}(hm:(Y.at 0).b7)
def dP (op:Int):au:=if op=1 then [61]else if op=2 then [33,61]else if op=3 then [60]else if op=4 then [60,61]else if op=5 then [62]else if op=6 then [62,61]else if op=7 then [94]else if op=8 then [126]else []
def xe (op:Int):(dP op).length<=2:=by
 grind [dP]
def tD (s w:au):Bool:=decide (w.length<=s.length)&&decide (s.take w.length=w)
def qP (c:dH):Bool:=(decide (0<c.parts) ||decide (c.v.major=0))&&(decide (1<c.parts) ||decide (c.v.minor=0))&&(decide (2<c.parts) ||decide (c.v.patch=0))
def nw (c:dH):Bool:=decide (1<=c.op)&&decide (c.op<=9)&&eZ c.v&&decide (c.v.build=[])&&decide ((if c.op=9 then 0 else 1)<=c.parts)&&decide (c.parts<=if c.op=9 then 2 else 3)&&(decide (3<=c.parts) ||decide (c.v.pre=[]))&&qP c
def dH.sm (c:dH):Prop:=c.v.sm
def F6 {c:dH}(h:(decide (c.op<1) ||decide (9<c.op) ||!eZ c.v ||!decide (c.v.build=[]))=true):nw c=false:=by
 unfold nw
 grind
def CJ {c:dH}(h:(decide (c.op<1) ||decide (9<c.op) ||!eZ c.v ||!decide (c.v.build=[]))=false):1<=c.op/\c.op<=9/\eZ c.v=true/\c.v.build=[]:=by
 grind
end Go.Abs
namespace Go.Abs
variable {Y:Ctx}(hm:(Y.at 0).b7)
def sH {c:dH}(hy:1<=c.op/\c.op<=9/\eZ c.v=true/\c.v.build=[]){lo hi:Int}(hlo:(if c.op=9 then 0 else 1)=lo)(hhi:(if c.op=9 then 2 else 3)=hi):
  nw c=(!(decide (c.parts<lo) ||decide (hi<c.parts) ||(decide (c.parts<3)&& !decide (c.v.pre=[])))&&qP c):=by
 grind [nw]
end Go.Abs
namespace Go.Abs
variable {Y:Ctx}(hm:(Y.at 0).b7)
def dH.m8 (c:dH):List Int:=[c.v.major,c.v.minor,c.v.patch]
def gG (c:dH):Nat->au
 |0=>[]
 |i+1=>gG c i++(if 0<i then [46]else [])++dI (c.m8[i]!).toNat
def lL (c:dH):au:=if c.op=9 then(if 0<c.parts then [46]else [])++[42]else if c.v.pre=[]then []else 45::c.v.pre
def mB (c:dH):au:=dP c.op++gG c c.parts.toNat++lL c
def ek (c:dH):au:=if nw c=true then mB c else []
def rO {c:dH}(h:eZ c.v=true)(i:Nat):0<=c.m8[i]! /\c.m8[i]! <=9999:=by
 simp only[eZ,qi,bB,aK]at h
 match i with
 |0=>exact h.1.1.1.1
 |1=>exact h.1.1.1.2
 |2=>exact h.1.1.2
 |k+3=>exact(by simp[dH.m8]:0<=c.m8[k+3]! /\c.m8[k+3]! <=9999)
def sU {c:dH}(h:eZ c.v=true):∀i,(gG c i).length<=5*i
 |0=>by simp[gG]
 |i+1=>by
  have:=sU h i;have hn:=rO h i;have:=eJ 4 (c.m8[i]!).toNat ae ae
  grind [gG]
def pC {c:dH}(h:nw c=true):eZ c.v=true/\0<=c.parts/\c.parts<=3/\1<=c.op/\c.op<=9:=by
 grind [nw]
end Go.Abs
namespace Go.Abs
variable {Y:Ctx}(hm:(Y.at 0).b7)
def mQ (c:dH):List au:=(c.m8.map fun n=>dI n.toNat).take c.parts.toNat
def Dj (c:dH):∀i,i<=3->aS [46] ((c.m8.map fun n=>dI n.toNat).take i)=gG c i
 |0,_=>by simp[aS,gG]
 |i+1,h=>by
  have hl:i<(c.m8.map fun n=>dI n.toNat).length:=by simp[dH.m8];omega
  have hl2:i<c.m8.length:=by show i<3;omega
  rw[qo _ _ _ hl,Dj c i ae];simp only[gG];have e:(c.m8.map fun n=>dI n.toNat)[i]! =dI (c.m8[i]!).toNat:=by simp[hl2]
  rw[e];split
  .simp
  grind [gG]
theorem H4 {c:dH}(h:c.parts<=3):(mQ c).length=c.parts.toNat:=by
 simp[mQ,dH.m8];omega
theorem DT {c:dH}(h:c.parts<=3):aS [46] (mQ c)=gG c c.parts.toNat:=Dj c _ ae
def xj {c:dH}(h0:0<=c.parts)(h:c.parts<=3):aS [46] (mQ c++[[42]])=gG c c.parts.toNat++((if 0<c.parts then [46]else [])++[42]):=by
 by_cases hp:0<c.parts
 .grind [tZ,H4,DT]
 .have:c.parts.toNat=0:=ae;rw[ak hp,this];have e:mQ c=[]:=by simp[mQ,this]
  rw[e];rfl
end Go.Abs
namespace Go.Abs
variable {Y:Ctx}(hm:(Y.at 0).b7)
def opsL:List Int:=[2,4,6,1,3,5,7,8]
def qw (s:au)(i:Nat):Option Int:=(opsL.drop i).find? fun o=>tD s (dP o)
def gX (s:au):Int×au:=match qw s 0 with
 |some o=>(o,s.drop (dP o).length)
 |none=>if 0<s.length/\at8 s (s.length-1)=42 then(9,s)else(7,s)
def Lx {s:au}{i:Nat}(h:i<8)(hb:tD s (dP opsL[i]!)=true):qw s i=some opsL[i]! :=by
 have hl:i<opsL.length:=h;unfold qw;rw[iW hl,List.find?_cons]
 grind
def Ly {s:au}{i:Nat}(h:i<8)(hb:tD s (dP opsL[i]!)=false):qw s i=qw s (i+1):=by
 have hl:i<opsL.length:=h;unfold qw;rw[iW hl,List.find?_cons]
 grind
def A0 {s:au}{i:Nat}(h:8<=i):qw s i=none:=by
 unfold qw;rw[lC h];rfl
def iH (s:au)(i:Nat):au×au:=match(s.drop i).findIdx? (fun c=>c==45)with
 |some k=>(s.take (i+k),s.drop (i+k+1))
 |none=>(s,[])
def LC {s:au}{i:Nat}(h:i<s.length)(he:at8 s i=45):iH s i=(s.take i,s.drop (i+1)):=by
 unfold iH;rw[mq s i h,List.findIdx?_cons];have:s.getD i 0=45:=hX.1 (by simp only[at8]at he;show(s.getD i 0).toNat=45;omega);rw[this];rfl
def LD {s:au}{i:Nat}(h:i<s.length)(he:¬at8 s i=45):iH s i=iH s (i+1):=by
 unfold iH;rw[mq s i h,List.findIdx?_cons];have:(s.getD i 0==45)=false:=by
  rw[beq_eq_false_iff_ne];intro e;exact he (by simp only[at8,e];rfl)
 grind
def Hc {s:au}{i:Nat}(h:s.length<=i):iH s i=(s,[]):=by
 unfold iH;rw[lC h];rfl
end Go.Abs
namespace Go.Abs
variable {Y:Ctx}(hm:(Y.at 0).b7)
def fK (l:List au):Bool:=decide (l.length<=3)&&cQ (fun i=>fU l[i]!) 0 l.length
def R7 (l:List au):cn:=⟨if 0<l.length then ef l[0]! else 0,if 1<l.length then ef l[1]! else 0,if 2<l.length then ef l[2]! else 0,[],[]⟩
def AS (l:List au):cn:=if fK l=true then R7 l else gm
end Go.Abs
namespace Go.Abs
variable {Y:Ctx}(hm:(Y.at 0).b7)
def eP:dH:=⟨0,0,gm⟩
def Dr (op:Int)(l:List au):List au:=if op=9 then l.take (l.length-1)else l
def gC (op:Int)(l:List au)(pre:au):dH:=⟨op,(l.length:Nat),{R7 l with pre:=pre}⟩
def xO (s:au)(op:Int)(l:List au)(pre:au):Bool:=fK l&& !(decide (ek (gC op l pre)=[]) ||(!decide (ek (gC op l pre)=s)&& !decide (ek (gC op l pre)=94::s)))
def eO (s:au):Option dH:=
 let o:=gX s
 let p:=iH o.2 0
 let l:=Dr o.1 (ai p.1 46)
 if xO s o.1 l p.2=true then some (gC o.1 l p.2)else none
def BC (s:au):(gX s).2.length<=s.length:=by
 grind [gX]
def A9 (s:au):(iH s 0).1.length<=s.length/\(iH s 0).2.length<=s.length:=by
 unfold iH;split<;>simp<;>omega
end Go.Abs
namespace Go.Abs
variable {Y:Ctx}(hm:(Y.at 0).b7)
def dV (s:au):Int×au:=match qw s 0 with
 |some o=>(o,s.drop (dP o).length)
 |none=>(9,s)
def fo (s:au):au×au:=iH (dV s).2 0
def eS (s:au):List au:=Dr (dV s).1 (ai (fo s).1 46)
def oC (s:au):Prop:=(dV s).1=9->(ai (fo s).1 46)[(ai (fo s).1 46).length-1]! =[42]
instance (s:au):Decidable (oC s):=by unfold oC;exact inferInstance
def fh (s:au):dH:=gC (dV s).1 (eS s) (fo s).2
def ig (s:au):Option dH:=if oC s/\fK (eS s)=true/\nw (fh s)=true/\ek (fh s)=s then some (fh s)else none
def Lw (l:List au)(i:Nat):cn:=⟨if 0<i then ef l[0]! else 0,if 1<i then ef l[1]! else 0,if 2<i then ef l[2]! else 0,[],[]⟩
def Pe (s:au):(dV s).2.length<=s.length:=by
 unfold dV;split<;>simp
def kZ {s:au}(h:¬(oC s/\fK (eS s)=true/\nw (fh s)=true/\ek (fh s)=s)):ig s=none:=by
 unfold ig;rw[ak h]
end Go.Abs
namespace Go.Abs
variable {Y:Ctx}(hm:(Y.at 0).b7)
def nk (s:au):Option dH:=if(ig s).isSome=true then ig s else ig (94::s)
def H3 (c:dH):bW:=.buf 1 [.str (dI c.v.major.toNat),.str (dI c.v.minor.toNat),.str (dI c.v.patch.toNat)]
def BH (c:dH):[D.str (dI c.v.major.toNat),D.str (dI c.v.minor.toNat),D.str (dI c.v.patch.toNat)].take c.parts.toNat=(mQ c).map D.str:=by
 unfold mQ dH.m8;rw[List.map_take];rfl
def VW {c:dH}{m:List (Nat×bW)}{l:Nat}(hl:look m l=some (H3 c)):xV m [.sl 1 [.a]] (.own l 1 0 c.parts.toNat)=.sl 1 ((mQ c).map D.str):=by
 show D.sl 1 _=_;simp only[bC,hl,H3,bY,BH,List.map_map];congr 1
def Tx {c:dH}{m:List (Nat×bW)}{l:Nat}(h:c.parts<=3)(hl:look m l=some (H3 c)):TR m [.sl 1 [.a]] (.own l 1 0 c.parts.toNat):=by
 simp only[TR,WU,WT];refine⟨by simp[fX,hl,H3];omega, ?_⟩;simp only[bC,hl,H3,bY,BH];intro e he;obtain⟨x,_,rfl⟩:=ey.1 he;trivial
end Go.Abs
end
namespace Go.Abs
variable {Y:Ctx}(hm:(Y.at 0).b7)
def sI {c:dH}(h:ek c≠[]):nw c=true/\ek c=mB c:=by
 grind [ek]
def ER {s:au}{op:Int}{l:List au}{pre:au}:xO s op l pre=true↔fK l=true/\ek (gC op l pre)≠[]/\(ek (gC op l pre)=s\/ek (gC op l pre)=94::s):=by
 grind [xO]
def A6 (c:UInt8):Prop:=c≠33/\c≠60/\c≠61/\c≠62/\c≠94/\c≠126
theorem rp {c:UInt8}(h:bn c.toNat=true):A6 c/\c≠42:=by
 simp only[bn,bB,aK]at h;refine⟨⟨?_, ?_, ?_, ?_, ?_, ?_⟩, ?_⟩<;>rintro rfl<;>revert h<;>decide
def G3 {k:dH}:∀(i:Nat) (c:UInt8),c∈gG k i->bn c.toNat=true\/c=46
 |0,c,h=>by simp[gG]at h
 |i+1,c,h=>by
  simp only[gG,List.mem_append]at h;rcases h with(h|h)|h
  .exact G3 i c h
  .grind
  .exact .inl (ib _ c h)
def AV (k:dH):∀i,0<i->∃c r,gG k i=c::r/\bn c.toNat=true
 |0,h=>ae
 |1,_=>by
  have hd:=ib (k.m8[0]!).toNat;have hn:=yC (k.m8[0]!).toNat;simp only[gG,Nat.lt_irrefl,aX,fe];generalize dI (k.m8[0]!).toNat=w at hd hn
  match w,hn with
  |c::r,_=>exact⟨c,r,rfl,hd c (.head _)⟩
 |i+2,_=>by
  obtain⟨c,r,h1,h2⟩:=AV k (i+1) ae
  grind [dI,gG]
def N2 {c:dH}(h:nw c=true)(h9:c.op≠9):0<c.parts.toNat:=by
 grind [nw]
def O3 {s:au}{o:Int}(h:qw s 0=some o):1<=o/\o<=8/\∃x t,s=x::t/\¬A6 x/\(x=94->o=7):=by
 have hm:=List.mem_of_find?_eq_some h;have hb:=List.find?_some h;simp only[tD,bB,aK]at hb;obtain⟨h1,h2⟩:=hb;have hne:s≠[]\/dP o=[]:=by
  grind
 simp only[opsL,bY,ca,eI,or_false]at hm;have key:∀w:au,w≠[]->s.take w.length=w->∃x t t',s=x::t/\w=x::t':=by
  intro w hw hs
  match w,hw with
  |x::t',_=>
   match s with
   |[]=>simp at hs
   |y::t=>
    grind
 rcases hm with rfl|rfl|rfl|rfl|rfl|rfl|rfl|rfl
 all_goals
  refine⟨ae,ae, ?_⟩;obtain⟨x,t,t',e1,e2⟩:=key _ aF h2;have hxx:=aj (fun w:au=>w.headD 0) e2;simp only[List.headD_cons]at hxx;refine⟨x,t,e1, ?_, ?_⟩
  .rw[<-hxx];unfold A6;decide
  .rw[<-hxx];decide
theorem AZ (t:au):qw (94::t) 0=some 7:=by
 unfold qw opsL;have hn:∀w:au,w≠[]->w.headD 0≠94->tD (94::t) w=false:=by
  intro w hw hx
  match w,hw with
  |x::r,_=>
   grind [tD]
 have hy:tD (94::t) (dP 7)=true:=by
  grind [tD,dP]
 simp only[bY,List.find?_cons,hn _ (show dP 2≠[]by decide) aF,hn _ (show dP 4≠[]by decide) aF,hn _ (show dP 6≠[]by decide) aF,hn _ (show dP 1≠[]by decide) aF,
  hn _ (show dP 3≠[]by decide) aF,hn _ (show dP 5≠[]by decide) aF,hy]
def Hg (t:au):dV (94::t)=(7,t):=by
 grind [dV,AZ,dP]
def BD (b:Int):∀(s cur:au),∃r l,cD b s cur=(cur++r)::l
 |[],cur=>⟨[],[],by simp[cD]⟩
 |c::s,cur=>by
  simp only[cD];split
  .exact⟨[],_,by rw[gN]⟩
  .obtain⟨r,l,h⟩:=BD b s (cur++[c]);exact⟨c::r,l,by rw[h];simp⟩
def PQ {x:UInt8}{t:au}(h:¬A6 x):fK (ai (iH (x::t) 0).1 46)=false:=by
 have hx:x≠45/\x≠46/\bn x.toNat=false:=by
  grind [A6,bn,rp]
 have hp:∃r,(iH (x::t) 0).1=x::r:=by
  unfold iH;rw[bY,List.findIdx?_cons];rw[ak (by simpa using hx.1)];cases t.findIdx? (fun c=>c==45)with
  |none=>exact⟨t,rfl⟩
  |some k=>exact⟨t.take k,aJ⟩
 obtain⟨r,hr⟩:=hp;rw[hr];have h46:¬((x.toNat:Int)=46):=fun e=>hx.2.1 (hX.1 (by show x.toNat=46;omega))
 obtain⟨q,l,hs⟩:=BD 46 r [x]
 grind [ai,cD,fK,aU,fU,EN,bn,at8]
def WM {s:au}(h:gX s=dV s):eO s=if xO s (dV s).1 (eS s) (fo s).2=true then some (fh s)else none:=by
 unfold eO;simp only[h];rfl
def Bj {s:au}:ig s=if oC s/\fK (eS s)=true/\nw (fh s)=true/\ek (fh s)=s then some (fh s)else none:=rfl
def O9 {s:au}(h:∀c∈s,c≠45):iH s 0=(s,[]):=by
 grind [iH]
def DM {k:dH}(hb:nw k=true)(h9:k.op=9):mB k=aS [46] (mQ k++[[42]]):=by
 obtain⟨_,h0,h3,_,_⟩:=pC hb;rw[xj h0 h3];unfold mB lL;rw[aw h9,h9];rfl
theorem sr {k:dH}{w:au}(h:w∈mQ k++[[42]]){c:UInt8}(hc:c∈w):bn c.toNat=true\/c=42:=by
 rcases List.mem_append.1 h with h|h
 .have:=kl h
  grind [ib]
 grind
def DL {k:dH}{s:au}(hb:nw k=true)(h9:k.op=9)(hs:mB k=s):(0<s.length/\at8 s (s.length-1)=42)/\iH s 0=(s,[])/\ai s 46=mQ k++[[42]]:=by
 have ht:=DM hb h9;obtain⟨_,h0,h3,_,_⟩:=pC hb;rw[hs]at ht;have hch:∀c∈s,bn c.toNat=true\/c=42\/c=46:=by
  grind [nM,sr]
 refine⟨?_,O9 (fun c hc=>?_), ?_⟩
 .have he:∃q,s=q++[42]:=by
   rw[ht,xj h0 h3];exact⟨gG k k.parts.toNat++(if 0<k.parts then [46]else []),by rw[eu]⟩
  obtain⟨q,rfl⟩:=he;simp[at8]
 .rintro rfl;rcases hch 45 hc with h|h|h
  .revert h;decide
  .revert h;decide
  .revert h;decide
 .rw[ht];refine kv (b:=46) (x:=46) rfl aJ fun w hw c hc=>?_
  rcases sr hw hc with h|h
  .have:=(rm h).1;omega
  .rw[h];decide
def Ae {k:dH}{s:au}(hb:nw k=true)(h7:k.op=7)(hs:mB k=94::s):(∀c∈s,c≠42)/\∃c r,s=c::r/\bn c.toNat=true:=by
 have hp:=N2 hb ae;have e:s=gG k k.parts.toNat++lL k:=by
  unfold mB at hs;rw[h7,show dP 7=[94]by decide]at hs;simpa using hs.symm
 obtain⟨c,r,h1,h2⟩:=AV k _ hp;refine⟨fun c hc=>?_,c,r++lL k,by rw[e,h1];rfl,h2⟩;rw[e]at hc;rcases List.mem_append.1 hc with hc|hc
 .rcases G3 _ c hc with h|h
  .exact(rp h).2
  .rw[h];decide
 .unfold lL at hc;rw[ak ae]at hc;split at hc
  .cases hc
  .rcases ca.1 hc with rfl|hc
   .decide
   .have hv:=(pC hb).1;simp only[eZ,bB]at hv;rcases H0 hv.1.2 hc with h|h
    .rintro rfl;revert h;decide
    .rw[h];decide
def yQ {s:au}:xO s (dV s).1 (eS s) (fo s).2=true↔fK (eS s)=true/\ek (fh s)≠[]/\(ek (fh s)=s\/ek (fh s)=94::s):=ER
def QV (s:au):nk s=eO s:=by
 have hcar:dV (94::s)=(7,s):=Hg s;have hL7:eS (94::s)=ai (iH s 0).1 46:=by
  unfold eS fo;rw[hcar];rfl
 have hK7:fh (94::s)=gC 7 (ai (iH s 0).1 46) (iH s 0).2:=by
  unfold fh;rw[hL7];unfold fo;rw[hcar]
 cases ho:qw s 0 with
 |some o=>
  obtain⟨o1,o8,x,t,hs,hx,hx94⟩:=O3 ho;have hrw:dV s=(o,s.drop (dP o).length):=by simp only[dV,ho]
  have hsp:gX s=dV s:=by rw[hrw];simp only[gX,ho]
  have hstar:oC s:=by
   intro h;rw[hrw]at h;simp only at h;omega
  have hcn:ig (94::s)=none:=kZ fun h=>by
   have:=h.2.1;rw[hL7,hs,PQ hx]at this;cases this
  have hop:(fh s).op=o:=by show(dV s).1=o;rw[hrw]
  rw[WM hsp];by_cases hk:fK (eS s)=true/\ek (fh s)=s
  .have hne:ek (fh s)≠[]:=by rw[hk.2,hs];simp
   have hb:=(sI hne).1;have hr:ig s=some (fh s):=by rw[Bj,aw ⟨hstar,hk.1,hb,hk.2⟩]
   have hok:xO s (dV s).1 (eS s) (fo s).2=true:=yQ.2 ⟨hk.1,hne,.inl hk.2⟩;rw[aw hok];unfold nk;rw[hr];rfl
  .have hr:ig s=none:=kZ fun h=>hk ⟨h.2.1,h.2.2.2⟩
   have hok:¬xO s (dV s).1 (eS s) (fo s).2=true:=fun h=>by
    obtain⟨h1,h2,h3⟩:=yQ.1 h;rcases h3 with h3|h3
    .exact hk ⟨h1,h3⟩
    .obtain⟨hb,he⟩:=sI h2;have h3':mB (fh s)=94::s:=by rw[<-he];exact h3
     have h7:o=7:=by
      have hh:∃y w,dP o=y::w/\(y=94->o=7):=by
       have:o=1\/o=2\/o=3\/o=4\/o=5\/o=6\/o=7\/o=8:=ae;rcases this with rfl|rfl|rfl|rfl|rfl|rfl|rfl|rfl
       .exact⟨61,[],aF,aF⟩
       .exact⟨33,[61],aF,aF⟩
       .exact⟨60,[],aF,aF⟩
       .exact⟨60,[61],aF,aF⟩
       .exact⟨62,[],aF,aF⟩
       .exact⟨62,[61],aF,aF⟩
       .exact⟨94,[],aF,aF⟩
       .exact⟨126,[],aF,aF⟩
      obtain⟨y,w,e1,e2⟩:=hh;unfold mB at h3';rw[hop,e1]at h3';simp only[fB,oD]at h3';exact e2 h3'.1
     obtain⟨_,c,r,e1,e2⟩:=Ae hb (by rw[hop];exact h7) h3';rw[hs]at e1;simp only[oD]at e1;rw[<-e1.1]at e2;exact hx (rp e2).1
   rw[ak hok];unfold nk;rw[hr,ak aJ,hcn]
 |none=>
  have hrw:dV s=(9,s):=by simp only[dV,ho]
  have h94:∀t,s≠94::t:=by
   rintro t rfl;rw[AZ]at ho;cases ho
  have hop:(fh s).op=9:=by show(dV s).1=9;rw[hrw]
  have hst7:oC (94::s):=by
   intro h;rw[hcar]at h;simp only at h;omega
  by_cases hl:0<s.length/\at8 s (s.length-1)=42
  .have hsp:gX s=dV s:=by rw[hrw];simp only[gX,ho,aw hl]
   have hcn:ig (94::s)=none:=kZ fun h=>by
    obtain⟨_,h2,h3,h4⟩:=h;have he:=(sI (c:=fh (94::s)) (by rw[h4];simp)).2;rw[h4]at he;have hno:=(Ae h3 (by rw[hK7];rfl) he.symm).1;have hmem:s[s.length-1]'(ae)∈s:=List.getElem_mem _;refine hno _ hmem (hX.1 ?_);have:=hl.2;rw[uQ s _ ae]at this;show _=42;omega
   rw[WM hsp];by_cases hk:fK (eS s)=true/\ek (fh s)=s
   .have hne:ek (fh s)≠[]:=by
     rw[hk.2];intro h;rw[h]at hl;simp at hl
    obtain⟨hb,he⟩:=sI hne;obtain⟨_,g2,g3⟩:=DL (s:=s) hb hop (he.symm.trans hk.2);have hstar:oC s:=by
     intro _;have hP:fo s=(s,[]):=by unfold fo;rw[hrw];exact g2
     rw[hP];simp only;rw[g3];simp
    have hr:ig s=some (fh s):=by rw[Bj,aw ⟨hstar,hk.1,hb,hk.2⟩]
    have hok:xO s (dV s).1 (eS s) (fo s).2=true:=yQ.2 ⟨hk.1,hne,.inl hk.2⟩;rw[aw hok];unfold nk;rw[hr];rfl
   .have hr:ig s=none:=kZ fun h=>hk ⟨h.2.1,h.2.2.2⟩
    have hok:¬xO s (dV s).1 (eS s) (fo s).2=true:=fun h=>by
     obtain⟨h1,h2,h3⟩:=yQ.1 h;rcases h3 with h3|h3
     .exact hk ⟨h1,h3⟩
     .obtain⟨hb,he⟩:=sI h2;have h3':mB (fh s)=94::s:=by rw[<-he];exact h3
      have ht:=DM hb hop;rw[h3']at ht;have hm:(94:UInt8)∈aS [46] (mQ (fh s)++[[42]]):=by rw[<-ht];simp
      rcases nM 46 _ _ hm with h|⟨w,hw,hcw⟩
      .revert h;decide
      .rcases sr hw hcw with h|h
       .revert h;decide
       .revert h;decide
    rw[ak hok];unfold nk;rw[hr,ak aJ,hcn]
  .have hsp:gX s=(7,s):=by simp only[gX,ho,ak hl]
   have hr:ig s=none:=kZ fun h=>by
    obtain⟨h1,h2,h3,h4⟩:=h;have he:mB (fh s)=s:=(aw h3:ek (fh s)=mB (fh s)).symm.trans h4;exact hl (DL h3 hop he).1
   have h6:eO s=if xO s 7 (ai (iH s 0).1 46) (iH s 0).2=true then some (fh (94::s))else none:=by
    unfold eO;simp only[hsp];rw[hK7];rfl
   have hRC:nk s=ig (94::s):=by
    unfold nk;rw[hr];rfl
   rw[hRC,h6,Bj];by_cases hok:xO s 7 (ai (iH s 0).1 46) (iH s 0).2=true
   .rw[aw hok];obtain⟨h1,h2,h3⟩:=ER.1 hok;obtain⟨hb,he⟩:=sI h2;rcases h3 with h3|h3
    .exfalso;rw[he]at h3;have hh:∃w,mB (gC 7 (ai (iH s 0).1 46) (iH s 0).2)=94::w:=by
      unfold mB;exact⟨_,rfl⟩
     obtain⟨w,hw⟩:=hh;exact h94 w (by rw[<-h3,hw])
    .rw[aw ⟨hst7,by rw[hL7];exact h1,by rw[hK7];exact hb,by rw[hK7];exact h3⟩]
   .rw[ak hok,ak];rintro⟨_,g2,g3,g4⟩;rw[hK7]at g3 g4;rw[hL7]at g2;exact hok (ER.2 ⟨g2,by rw[g4];simp,.inr g4⟩)
abbrev Alt:=List dH
abbrev zT:=List Alt
def ra (a:Alt):D:=.sl 7 (a.map dH.D)
def IL (a:Alt):(ra a).bI=true:=rfl
def oO (l k:Nat)(es:List D)(r:List Alt):iN l k es (r.map ra)=r.map ra:=qj l k es _ (br IL _)
def iB (r:zT):D:=.agg [.sl 1 (r.map ra)]
def kK (a:Alt):Bool:=decide (1<=a.length)&&decide (a.length<=6)&&cQ (fun k=>nw a[k]!) 0 a.length
def kG (r:zT):Bool:=decide (1<=r.length)&&decide (r.length<=6)&&cQ (fun i=>kK r[i]!) 0 r.length
def jH (a:Alt):au:=aS [44,32] (a.map ek)
def Ff (r:zT):au:=aS [32,124,124,32] (r.map jH)
def dH.lo (c:dH):Prop:=c.v.pre.length<=1000/\c.v.build.length<=1000
def dH.lo.sm {c:dH}(h:c.lo):c.v.sm:=⟨dm h.1 aF,dm h.2 aF⟩
def oz (r:zT):Prop:=∀a∈r,∀c∈a,c.lo
def tg (b:au)(l:List au)(i:Nat):au:=if 0<i then aS b (l.take i)++b else []
def wC (b:au)(l:List au)(i:Nat)(h:i<l.length):aS b (l.take (i+1))=tg b l i++l[i]! :=qo b l i h
def Sz (b:au)(l:List au){i:Nat}(h:¬0<i):aS b (l.take i)=tg b l i:=by
 grind [tg,aS]
def Af {c:dH}(h:c.lo):(ek c).length<=1100:=by
 unfold ek;split
 .rename_i hb;obtain⟨hv,h0,h3,_⟩:=pC hb;have h1:=xe c.op;have h2:=sU hv c.parts.toNat;have ht:(lL c).length<=1001:=by
   unfold lL;have:=h.1
   grind
  simp only[mB,bP];omega
 .simp
def rI (b:au)(M:Nat):∀(l:List au),(∀t∈l,t.length<=M)->(aS b l).length<=l.length*(M+b.length)
 |[],_=>by simp[aS]
 |[t],h=>by
  grind [aS]
 |t::u::r,h=>by
  have h1:=h t (.head _);have h2:=rI b M (u::r) fun x hx=>h x (.tail _ hx)
  simp only[aS,bP];simp only[aP,Nat.add_mul,Nat.one_mul]at h2⊢;omega
def EK {α β:Type} [Inhabited α] [Inhabited β](f:α->β)(l:List α){i:Nat}(h:i<l.length):(l.map f)[i]! =f l[i]! :=by
 simp[h]
def zU {a:Alt}(h:∀c∈a,c.lo)(hl:a.length<=6):(jH a).length<=6612:=by
 have:=rI [44,32] 1100 (a.map ek) (fun t ht=>by
  obtain⟨c,hc,rfl⟩:=ey.1 ht;exact Af (h c hc))
 grind [jH]
def Al {r:zT}(h:kG r=true){i:Nat}(hi:i<r.length):kK r[i]! =true:=by
 simp only[kG,bB,aK]at h;exact eC.1 h.2 i ae hi
def vQ {a:Alt}(h:kK a=true):1<=a.length/\a.length<=6:=by
 grind [kK]
def Tl {r:zT}(h:kG r=true)(hs:oz r):(Ff r).length<=40000:=by
 have h6:r.length<=6:=by simp only[kG,bB,aK]at h;exact h.1.2
 have:=rI [32,124,124,32] 6612 (r.map jH) (fun t ht=>by
  obtain⟨a,ha,rfl⟩:=ey.1 ht;obtain⟨i,hi,rfl⟩:=List.mem_iff_getElem.1 ha;have h1:=Al h hi;rw[show r[i]! =r[i]by simp[hi]]at h1;exact zU (hs _ ha) (vQ h1).2)
 grind [Ff]
def iQ {α β:Type} [Inhabited α](f:α->β)(l:List α){i:Nat}(h:i<l.length):(l.map f).take (i+1)=(l.map f).take i++[f l[i]!]:=by
 rw[List.take_add_one];simp[h]
def ue (r:zT):Bool:=kG r&&decide ((Ff r).length<=96)
def xW (r:zT):au:=if ue r=true then Ff r else []
def aR:au->au->List au
 |[],cur=>[cur]
 |[c],cur=>[cur++[c]]
 |c::d::r,cur=>if c=124/\d=124 then cur::aR r []else aR (d::r) (cur++[c])
def kM:au->au
 |[]=>[]
 |c::r=>if c=32 then kM r else c::r
def eN (s:au):au:=(kM (kM s).reverse).reverse
theorem sD:∀s,(kM s).length<=s.length
 |[]=>aL _
 |c::r=>by
  unfold kM;split
  .have:=sD r;simp only[aP];omega
  .exact aL _
theorem vU (s:au):(eN s).length<=s.length:=by
 grind [sD,kM,eN]
def oA:∀(s cur:au),(aR s cur).length<=s.length+1/\(∀t∈aR s cur,t.length<=cur.length+s.length)
 |[],cur=>by simp[aR]
 |[c],cur=>by simp[aR]
 |c::d::r,cur=>by
  unfold aR;split
  .have:=oA r []
   grind
  .have:=oA (d::r) (cur++[c])
   grind
def wOK (t:au):Bool:=cQ (fun k=>(eO (eN (ai t 44)[k]!)).isSome) 0 (ai t 44).length
def Bv (s:au):Bool:=cQ (fun i=>wOK (aR s [])[i]!) 0 (aR s []).length
def mV (t:au):Alt:=(ai t 44).map fun x=>(eO (eN x)).getD eP
def iK (s:au):zT:=(aR s []).map mV
def iJ (s:au):zT×Int:=
 if 96<s.length then([],3)else if Bv s=false then([],6)else if kG (iK s)=false then([],6)else if 96<(Ff (iK s)).length then([],3)else(iK s,0)
def sV (s:au):Bool:=decide ((iJ s).2=0)&&decide (xW (iJ s).1=s)
theorem QT {s:au}(h:s.length<=1000):((eO s).getD eP).lo:=by
 unfold eO;simp only;split
 .have h1:=BC s;have h2:=A9 (gX s).2;exact⟨by show(iH (gX s).2 0).2.length<=1000;omega,by show([]:au).length<=1000;decide⟩
 .exact⟨by show([]:au).length<=1000;decide,by show([]:au).length<=1000;decide⟩
theorem Fg {s:au}(h:s.length<=1000):oz (iK s):=by
 intro a ha c hc;obtain⟨t,ht,rfl⟩:=ey.1 ha;obtain⟨x,hx,rfl⟩:=ey.1 hc;have h1:=(oA s []).2 t ht;have h2:=dS t 44 hx
 grind [vU,QT]
def LP {s:au}:oz (iJ s).1/\((iJ s).2=0->kG (iJ s).1=true):=by
 unfold iJ;split
 .exact⟨(fun a ha=>by cases ha),fun h=>by cases h⟩
 .split
  .exact⟨(fun a ha=>by cases ha),fun h=>by cases h⟩
  .split
   .exact⟨(fun a ha=>by cases ha),fun h=>by cases h⟩
   .rename_i hf;split
    .exact⟨(fun a ha=>by cases ha),fun h=>by cases h⟩
    grind [Fg]
theorem Ki {s:au}{i:Nat}(cur:au)(h:i+1<s.length)(h1:at8 s i=124)(h2:at8 s (i+1)=124):aR (s.drop i) cur=cur::aR (s.drop (i+2)) []:=by
 rw[mq s i ae,mq s (i+1) h];have e1:s.getD i 0=124:=hX.1 (by simp only[at8]at h1;show(s.getD i 0).toNat=124;omega);have e2:s.getD (i+1) 0=124:=hX.1 (by simp only[at8]at h2;show(s.getD (i+1) 0).toNat=124;omega)
 grind [aR]
def HT {s:au}{i:Nat}(cur:au)(h:i+1<s.length)(hn:¬(at8 s i=124/\at8 s (i+1)=124)):aR (s.drop i) cur=aR (s.drop (i+1)) (cur++[s.getD i 0]):=by
 rw[mq s i ae,mq s (i+1) h];simp only[aR];rw[ak];rintro⟨e1,e2⟩;exact hn ⟨by simp only[at8,e1];rfl,by simp only[at8,e2];rfl⟩
def Kh {s:au}{i:Nat}(cur:au)(h:s.length<=i+1):aR (s.drop i) cur=[cur++s.drop i]:=by
 have hl:(s.drop i).length<=1:=by rw[jO];omega
 match s.drop i,hl with
 |[],_=>simp[aR]
 |[c],_=>simp[aR]
def QY {s:au}{i fr:Nat}(h:i<s.length)(hf:fr<=i):(s.take i).drop fr++[s.getD i 0]=(s.take (i+1)).drop fr:=by
 rw[List.take_add_one,List.drop_append_of_le_length (by rw[er];omega)];simp[h]
def tm (s:au)(i fr:Nat)(acc:List au):Prop:=aR s []=acc++aR (s.drop (max i fr)) ((s.take (max i fr)).drop fr)
def NU {s:au}{i fr:Nat}{acc:List au}(hI:tm s i fr acc)(h:i+1<s.length)(hc:(at8 s i=124/\at8 s (i+1)=124)/\(fr:Int)<=i):tm s (i+1) (i+2) (acc++[(s.take i).drop fr]):=by
 grind [tm,Ki]
def QE {s:au}{i fr:Nat}{acc:List au}(hI:tm s i fr acc)(h:i+1<s.length)(hf:fr<=i+1)(hc:(¬at8 s i=124\/¬at8 s (i+1)=124)\/¬(fr:Int)<=i):tm s (i+1) fr acc:=by
 unfold tm at hI⊢;by_cases hl:fr<=i
 .rw[hI,Nat.max_eq_left hl,HT _ h (by rcases hc with(hc|hc)|hc;exact fun h=>hc h.1;exact fun h=>hc h.2;omega),Nat.max_eq_left ae,QY ae hl]
 grind
def NT {s:au}{i fr:Nat}{acc:List au}(hI:tm s i fr acc)(h:s.length<=i+1)(hl:fr<=s.length):aR s []=acc++[s.drop fr]:=by
 unfold tm at hI;rw[hI,Kh _ (by have:=Nat.le_max_left i fr;omega)];congr 2
 conv=>rhs;rw[<-List.take_append_drop (max i fr) s]
 grind
def CB {t:au}(h:0<t.length)(h0:at8 t 0=32):kM t=kM (t.drop 1):=by
 match t,h with
 |c::r,_=>
  have:c=32:=hX.1 (by have h0:((c.toNat:Nat):Int)=32:=h0;show c.toNat=32;omega);subst this;simp[kM]
theorem zZ {t:au}(h:¬(0:Int)<(t.length:Nat)\/¬at8 t 0=32):kM t=t:=by
 match t with
 |[]=>rfl
 |c::r=>
  rcases h with h|h
  .simp only[aP]at h;omega
  .simp only[kM];rw[ak];rintro rfl;exact h rfl
def z6 (u:au):au:=(kM u.reverse).reverse
theorem KH {u:au}(h:0<u.length):at8 u.reverse 0=at8 u (u.length-1):=by
 grind [at8]
def NX {u:au}(h:0<u.length)(h0:at8 u (u.length-1)=32):z6 u=z6 (u.take (u.length-1)):=by
 unfold z6;rw[CB (by simpa using h) (by rw[KH h];exact h0)];congr 2;rw[List.drop_reverse]
def IQ {u:au}(h:¬(0:Int)<(u.length:Nat)\/¬at8 u (u.length-1)=32):z6 u=u:=by
 grind [z6,zZ,KH]
def Nd.eq (a b:Nd):jk (Nd.D a).cells (Nd.D b).cells=decide (a=b):=by
 obtain⟨a1,a2,a3,a4,a5⟩:=a;obtain⟨b1,b2,b3,b4,b5⟩:=b
 grind [Nd.D,D.cells,jk,vb,yE]
def kN (n:Nd):Bool:=decide (n.key=0)&&decide (n.text=[])
def oP (n:Nd):Bool:=decide (n.op=1)&&decide (0<=n.key)&&decide (n.key<3)&&cV n.text&&decide (n.a=0)&&decide (n.b=0)
def js (n:Nd)(i:Nat)(o:List Int):Option (List Int):=
 if oP n=true then some (o++[(i:Int)])
 else if(((n.op=2/\kN n=true)/\0<o.length)/\n.a=o[o.length-1]!)/\n.b=0 then some (o.take (o.length-1)++[(i:Int)])
 else if((((n.op=3\/n.op=4)/\kN n=true)/\1<o.length)/\n.a=o[o.length-2]!)/\n.b=o[o.length-1]! then some (o.take (o.length-2)++[(i:Int)])
 else none
def nr:List Nd->Nat->List Int->Option (List Int)
 |[],_,o=>some o
 |n::r,i,o=>match js n i o with
  |some o'=>nr r (i+1) o'
  |none=>none
def oW (l:List Nd):Bool:=match nr l 0 []with
 |some o=>decide (l.length=0) ||decide (o.length=1)
 |none=>false
def CN {α:Type} [Inhabited α](l:List α){i:Nat}(h:i<l.length):l.drop i=l[i]! ::l.drop (i+1):=by
 rw[iW h];simp[h]
def jn {l:List Nd}{i:Nat}{o o':List Int}(h:i<l.length)(hs:js l[i]! i o=some o'):nr (l.drop i) i o=nr (l.drop (i+1)) (i+1) o':=by
 rw[CN l h];simp only[nr,hs]
def gJ {l:List Nd}{i:Nat}{o:List Int}(h:i<l.length)(hs:js l[i]! i o=none):nr (l.drop i) i o=none:=by
 rw[CN l h];simp only[nr,hs]
def Dk {l:List Nd}{i:Nat}{o:List Int}(h:l.length<=i):nr (l.drop i) i o=some o:=by
 rw[lC h];rfl
def H5 {l:List Nd}(h:nr l 0 []=none):oW l=false:=by simp only[oW,h]
def kB {l:List Nd}(h:nr l 0 []=none):(true&&oW l)=false:=by rw[H5 h];rfl
def FI (S:List Int):Int->List Int->Prop
 |e,[]=>e=0
 |e,t::r=>t=e-1/\0<=t/\0<=S[t.toNat]! /\S[t.toNat]! <=t/\FI S S[t.toNat]! r
def Eg {S:List Int}{i:Nat}{v:Int}:∀{r:List Int}{e:Int},e<=i->FI S e r->FI (S.set i v) e r
 |[],e,_,h=>h
 |t::r,e,he,⟨h1,h2,h3,h4,h5⟩=>by
  have hg:(S.set i v)[t.toNat]! =S[t.toNat]! :=by
   grind
  exact⟨h1,h2,by rw[hg];exact h3,by rw[hg];exact h4,by rw[hg];exact Eg ae h5⟩
def VQ {S:List Int}{i:Nat}{v:Int}(h:i<S.length):(S.set i v)[i]! =v:=by
 simp[h]
def uU {S:List Int}{i:Nat}{v:Int}{r:List Int}(h:i<S.length)(h0:0<=v)(h1:v<=i)(hc:FI S v r):FI (S.set i v) ((i+1:Nat):Int) ((i:Int)::r):=by
 have hg:(S.set i v)[((i:Nat):Int).toNat]! =v:=by rw[Int.toNat_natCast];exact VQ h
 exact⟨ae,ae,by rw[hg];exact h0,by rw[hg];exact h1,by rw[hg];exact Eg ae hc⟩
def uV {S:List Int}{i:Nat}{o:List Int}(h:FI S (i:Nat) o.reverse):(0<o.length↔1<=i)/\(1<=i->o[o.length-1]! =(i:Int) -1/\0<=S[i-1]! /\S[i-1]! <=(i:Int) -1/\FI S S[i-1]! (o.take (o.length-1)).reverse):=by
 rcases List.eq_nil_or_concat o with rfl|⟨p,t,rfl⟩
 .have h:((i:Nat):Int)=0:=h
  grind
 .rw[List.concat_eq_append,List.reverse_append,List.reverse_singleton,List.singleton_append]at h;obtain⟨h1,h2,h3,h4,h5⟩:=h
  grind
def Eh {S:List Int}{i:Nat}{o:List Int}(h:FI S (i:Nat) o.reverse):(1<o.length↔1<=i/\1<=S[i-1]!)/\(1<o.length->o[o.length-2]! =S[i-1]! -1/\0<=S[(S[i-1]! -1).toNat]! /\S[(S[i-1]! -1).toNat]! <=S[i-1]! -1/\FI S S[(S[i-1]! -1).toNat]! (o.take (o.length-2)).reverse):=by
 obtain⟨h1,h2⟩:=uV h;by_cases hi:1<=i
 .obtain⟨g1,g2,g3,g4⟩:=h2 hi;have hl:=h1.2 hi;rcases List.eq_nil_or_concat o with rfl|⟨p,t,rfl⟩
  .simp at hl
  .rw[List.concat_eq_append]at g4⊢;rw[List.take_append_of_le_length aJ,ed aJ]at g4;rcases List.eq_nil_or_concat p with rfl|⟨q,u,rfl⟩
   .have g4:S[i-1]! =0:=g4;exact⟨⟨fun h=>absurd h aJ,fun h=>ae⟩,fun h=>absurd h aJ⟩
   .rw[List.concat_eq_append]at g4⊢;rw[List.reverse_append,List.reverse_singleton,List.singleton_append]at g4;obtain⟨k1,k2,k3,k4,k5⟩:=g4;subst k1;refine⟨⟨fun _=>⟨hi,ae⟩,fun _=>aJ⟩,fun _=>⟨aJ,k3,k4, ?_⟩⟩;rw[eu,List.take_append_of_le_length aJ,ed aJ];exact k5
 .have:¬0<o.length:=fun h=>hi (h1.1 h)
  exact⟨⟨fun h=>ae,fun h=>absurd h.1 hi⟩,fun h=>ae⟩
def Tz {S:List Int}{n:Nat}{o:List Int}(t1:0<o.length↔1<=n)(t2:1<=n->o[o.length-1]! =(n:Int) -1/\0<=S[n-1]! /\S[n-1]! <=(n:Int) -1/\FI S S[n-1]! (o.take (o.length-1)).reverse)(u1:1<o.length↔1<=n/\1<=S[n-1]!):
  (decide (n=0) ||decide (o.length=1))=(decide ((n:Nat)=(0:Int)) ||decide (S[n-1]! =0)):=by
 grind
theorem AE {n:Nd}(h:oP n=true):n.op=1:=by grind [oP]
def Kl {n:Nd}{i:Nat}{o:List Int}(h:oP n=true):js n i o=some (o++[(i:Int)]):=aw h
def Fl {n:Nd}{i:Nat}{o:List Int}(h1:n.op=1)(h:oP n=false):js n i o=none:=by
 grind [js]
def HV {n:Nd}{i:Nat}{o:List Int}(h1:n.op≠1)(h2:n.op≠2)(h3:n.op≠3)(h4:n.op≠4):js n i o=none:=by
 grind [js,AE]
def xh {S:List Int}{n:Nd}{i:Nat}{o:List Int}(hc:FI S (i:Nat) o.reverse)(h2:n.op=2):js n i o=if(1<=i/\n.a=(i:Int) -1/\n.b=0)/\kN n=true then some (o.take (o.length-1)++[(i:Int)])else none:=by
 obtain⟨t1,t2⟩:=uV hc
 grind [js,AE,kN]
def nT {S:List Int}{n:Nd}{i:Nat}{o:List Int}(hc:FI S (i:Nat) o.reverse)(h2:n.op=3\/n.op=4):js n i o=if(2<=i/\n.b=(i:Int) -1/\1<=S[i-1]! /\n.a=S[i-1]! -1)/\kN n=true then some (o.take (o.length-2)++[(i:Int)])else none:=by
 obtain⟨t1,t2⟩:=uV hc;obtain⟨u1,u2⟩:=Eh hc;unfold js;rw[ak (fun h=>by have:=AE h;omega),ak (by rintro⟨⟨⟨⟨h,_⟩,_⟩,_⟩,_⟩;omega)];by_cases hk:(2<=i/\n.b=(i:Int) -1/\1<=S[i-1]! /\n.a=S[i-1]! -1)/\kN n=true
 .grind
 .rw[ak hk,ak]
  grind
def jL (l:List Nd):Prop:=∀j,j<l.length->(l[j]!.op=1->0<=l[j]!.key/\l[j]!.key<3/\l[j]!.text.length<=12)/\(l[j]!.op≠1->0<=l[j]!.a/\l[j]!.a<j)/\(l[j]!.op≠1->l[j]!.op≠2->0<=l[j]!.b/\l[j]!.b<j)
def JA {l:List Nd}:∀(k i:Nat) (o o':List Int),i+k=l.length->(∀x∈o,0<=x/\x<(i:Int))->nr (l.drop i) i o=some o'->
  ∀j,i<=j->j<l.length->(l[j]!.op=1->0<=l[j]!.key/\l[j]!.key<3/\l[j]!.text.length<=12)/\(l[j]!.op≠1->0<=l[j]!.a/\l[j]!.a<j)/\(l[j]!.op≠1->l[j]!.op≠2->0<=l[j]!.b/\l[j]!.b<j):=by
 intro k;induction k with
 |zero=>intro i o o' h1 h2 h3 j h4 h5;omega
 |succ k ih=>
  intro i o o' h1 h2 h3 j h4 h5;have hi:i<l.length:=ae;cases hs:js l[i]! i o with
  |none=>rw[gJ hi hs]at h3;cases h3
  |some o2=>
   rw[jn hi hs]at h3;have hm:∀m,0<m->m<=o.length->0<=o[o.length-m]! /\o[o.length-m]! <(i:Int):=fun m hm1 hm2=>h2 _ (bE ae)
   have hsub:∀m,∀x∈o.take m++[(i:Int)],0<=x/\x<((i+1:Nat):Int):=fun m x hx=>by
    rcases List.mem_append.1 hx with hx|hx
    .have:=h2 x (kl hx);omega
    .simp only[cI]at hx;omega
   unfold js at hs;split at hs
   .rename_i hl;cases hs;rcases hY i j with hj|hj
    .exact ih (i+1) _ o' ae (by have:=hsub o.length;rwa [ed (aL _)]at this) h3 j hj h5
    .obtain rfl:i=j:=ae;simp only[oP,bB,aK]at hl;have hw:=hl.1.1.2;simp only[cV,bB,aK]at hw;exact⟨fun _=>⟨hl.1.1.1.1.2,hl.1.1.1.2,hw.1.2⟩,fun h=>absurd hl.1.1.1.1.1 h,fun h=>absurd hl.1.1.1.1.1 h⟩
   .split at hs
    .rename_i hl;cases hs;rcases hY i j with hj|hj
     .exact ih (i+1) _ o' ae (hsub _) h3 j hj h5
     .obtain rfl:i=j:=ae;obtain⟨⟨⟨⟨g1,g2⟩,g3⟩,g4⟩,g5⟩:=hl;have:=hm 1 ae ae;exact⟨fun h=>ae,fun _=>by rw[g4];exact this,fun _ h=>absurd g1 h⟩
    .split at hs
     .rename_i hl;cases hs;rcases hY i j with hj|hj
      .exact ih (i+1) _ o' ae (hsub _) h3 j hj h5
      .obtain rfl:i=j:=ae;obtain⟨⟨⟨⟨g1,g2⟩,g3⟩,g4⟩,g5⟩:=hl;have q1:=hm 1 ae ae;have q2:=hm 2 ae ae;exact⟨fun h=>ae,fun _=>by rw[g4];exact q2,fun _ _=>by rw[g5];exact q1⟩
     .cases hs
def qC {l:List Nd}(h:oW l=true):jL l:=by
 unfold oW at h;cases ho:nr l 0 []with
 |none=>rw[ho]at h;cases h
 |some o=>exact fun j hj=>JA l.length 0 [] o ae aJ ho j (Nat.zero_le _) hj
def QP (n:Nd)(o:List Int):Bool:=(((decide (n.op=2)&&(decide (n.key=0)&&decide (n.text=[])))&&decide ((0:Int)<(o.length:Nat)))&&decide (n.a=o[o.length-1]!))&&decide (n.b=0)
def QQ (n:Nd)(o:List Int):Bool:=((((decide (n.op=3) ||decide (n.op=4))&&(decide (n.key=0)&&decide (n.text=[])))&&decide ((1:Int)<(o.length:Nat)))&&decide (n.a=o[o.length-2]!))&&decide (n.b=o[o.length-1]!)
def yW (n:Nd)(i:Nat)(o:List Int):js n i o=if oP n=true then some (o++[(i:Int)])else if QP n o=true then some (o.take (o.length-1)++[(i:Int)])else if QQ n o=true then some (o.take (o.length-2)++[(i:Int)])else none:=by
 grind [QP,kN,QQ,js]
def Lc {n:Nd}(h:n.op=1):oP n=!((((decide (n.key<0) ||decide (3<=n.key)) ||!cV n.text) ||!decide (n.a=0)) ||!decide (n.b=0)):=by
 grind [oP,cV]
def yV {S:List Int}{i:Nat}(h:i<S.length)(v:Int):(S.map (D.int .i64)).set (0+i) (vD ((S.map (D.int .i64)).getD (0+i) .any) 1 1 0 (.int .i64 v))=(S.set i v).map (D.int .i64):=by
 rw[bQ,getD_map (q:=D.int .i64) h,List.map_set];rfl
abbrev Wq:=List Nd
def lE (m:Wq):D:=.agg [.sl 5 (m.map Nd.D)]
def rK:List au:=[[111,115],[97,114,99,104],[97,98,105]]
def ua (k:Int):au:=if k=0 then [111,115]else if k=1 then [97,114,99,104]else [97,98,105]
def lB (s:au)(b:Bool):au:=if b=true then [40,32]++s++[32,41]else s
def uD (l:List Nd):Nat->Int->au
 |0,_=>[]
 |f+1,i=>
  if l[i.toNat]!.op=1 then ua l[i.toNat]!.key++[32,61,32]++l[i.toNat]!.text
  else if l[i.toNat]!.op=2 then
   if l[l[i.toNat]!.a.toNat]!.op=1 then ua l[l[i.toNat]!.a.toNat]!.key++[32,33,61,32]++l[l[i.toNat]!.a.toNat]!.text
   else [110,111,116,32]++lB (uD l f l[i.toNat]!.a) (!decide (l[l[i.toNat]!.a.toNat]!.op=2))
  else if l[i.toNat]!.op=3 then lB (uD l f l[i.toNat]!.a) (decide (l[l[i.toNat]!.a.toNat]!.op=4))++[32,97,110,100,32]++lB (uD l f l[i.toNat]!.b) (decide (l[l[i.toNat]!.b.toNat]!.op=4) ||decide (l[l[i.toNat]!.b.toNat]!.op=3))
  else uD l f l[i.toNat]!.a++[32,111,114,32]++lB (uD l f l[i.toNat]!.b) (decide (l[l[i.toNat]!.b.toNat]!.op=4))
def mS (l:List Nd)(i:Int):au:=uD l (i.toNat+1) i
theorem Fv {l:List Nd}(hk:jL l):∀(f g:Nat) (i:Int),0<=i->i<l.length->i<f->i<g->uD l f i=uD l g i
 |0,_,_,_,_,h,_=>ae
 |_,0,_,_,_,_,h=>ae
 |f+1,g+1,i,h0,h1,h2,h3=>by
  obtain⟨k1,k2,k3⟩:=hk i.toNat ae;simp only[uD];by_cases e1:l[i.toNat]!.op=1
  .rw[aw e1,aw e1]
  .rw[ak e1,ak e1];have ka:=k2 e1;rw[Fv hk f g l[i.toNat]!.a ae ae ae ae];by_cases e2:l[i.toNat]!.op=2
   .rw[aw e2,aw e2]
   .have kb:=k3 e1 e2;rw[Fv hk f g l[i.toNat]!.b ae ae ae ae]
def L3 {l:List Nd}(hk:jL l){i:Int}(h0:0<=i)(h1:i<l.length):mS l i=
  if l[i.toNat]!.op=1 then ua l[i.toNat]!.key++[32,61,32]++l[i.toNat]!.text
  else if l[i.toNat]!.op=2 then
   if l[l[i.toNat]!.a.toNat]!.op=1 then ua l[l[i.toNat]!.a.toNat]!.key++[32,33,61,32]++l[l[i.toNat]!.a.toNat]!.text
   else [110,111,116,32]++lB (mS l l[i.toNat]!.a) (!decide (l[l[i.toNat]!.a.toNat]!.op=2))
  else if l[i.toNat]!.op=3 then lB (mS l l[i.toNat]!.a) (decide (l[l[i.toNat]!.a.toNat]!.op=4))++[32,97,110,100,32]++lB (mS l l[i.toNat]!.b) (decide (l[l[i.toNat]!.b.toNat]!.op=4) ||decide (l[l[i.toNat]!.b.toNat]!.op=3))
  else mS l l[i.toNat]!.a++[32,111,114,32]++lB (mS l l[i.toNat]!.b) (decide (l[l[i.toNat]!.b.toNat]!.op=4)):=by
 obtain⟨k1,k2,k3⟩:=hk i.toNat ae
 grind [mS,uD,Fv]
def nV (s:au)(b:Bool):(lB s b).length<=s.length+4:=by
 unfold lB;split<;>simp
def sO {k:Int}(h0:0<=k)(h3:k<3):rK[k.toNat]! =ua k:=by
 obtain rfl|rfl|rfl:k=0\/k=1\/k=2:=ae
 .rfl
 .rfl
 .rfl
def RI {k:Int}(h0:0<=k)(h3:k<3):oF (([.str [111,115],.str [97,114,99,104],.str [97,98,105]]:List D).getD (0+k.toNat) .any) 1 1 0 false=.str (ua k):=by
 obtain rfl|rfl|rfl:k=0\/k=1\/k=2:=ae
 .rfl
 .rfl
 .rfl
def pM (k:Int):(ua k).length<=4:=by
 grind [ua]
def BK {l:List Nd}(hk:jL l):∀(f:Nat) (i:Int),0<=i->i<l.length->(uD l f i).length+20<=20*2^(f+1)
 |0,i,_,_=>by simp[uD]
 |f+1,i,h0,h1=>by
  obtain⟨k1,k2,k3⟩:=hk i.toNat ae;have hp:20*2^(f+1+1)=20*2^(f+1)+20*2^(f+1):=by rw[Nat.pow_succ 2 (f+1)];omega
  have h1p:1<=2^(f+1):=Nat.one_le_two_pow;simp only[uD];by_cases e1:l[i.toNat]!.op=1
  .rw[aw e1];have:=pM l[i.toNat]!.key;have:=k1 e1;simp only[bP,aP,a8];omega
  .rw[ak e1];have ka:=k2 e1;have la:=BK hk f l[i.toNat]!.a ae ae;have wa:=fun b=>nV (uD l f l[i.toNat]!.a) b
   by_cases e2:l[i.toNat]!.op=2
   .rw[aw e2];split
    .rename_i e3;have:=pM l[l[i.toNat]!.a.toNat]!.key;have:=((hk l[i.toNat]!.a.toNat ae).1 e3).2.2;simp only[bP,aP,a8];omega
    .have:=wa (!decide (l[l[i.toNat]!.a.toNat]!.op=2));simp only[bP,aP,a8];omega
   .rw[ak e2];have kb:=k3 e1 e2;have lb:=BK hk f l[i.toNat]!.b ae ae;have wb:=fun b=>nV (uD l f l[i.toNat]!.b) b
    split
    .have:=wa (decide (l[l[i.toNat]!.a.toNat]!.op=4));have:=wb (decide (l[l[i.toNat]!.b.toNat]!.op=4) ||decide (l[l[i.toNat]!.b.toNat]!.op=3));simp only[bP,aP,a8];omega
    .have:=wb (decide (l[l[i.toNat]!.b.toNat]!.op=4));simp only[bP,aP,a8];omega
def su {l:List Nd}(hk:jL l)(hl:l.length<=15){i:Int}(h0:0<=i)(h1:i<l.length):(mS l i).length<=1310720:=by
 have h:=BK hk (i.toNat+1) i h0 h1;have:2^(i.toNat+1+1)<=2^16:=Nat.pow_le_pow_right ae ae;unfold mS;omega
def qE (l:List Nd):au:=if l.length=0 then []else mS l ((l.length:Int) -1)
def AL (l:List Nd):Bool:=(decide (l.length<=15)&&oW l)&&decide ((qE l).length<=96)
def WL (l:List Nd):au:=if AL l=true then qE l else []
abbrev PR:=Option (Int×List au×List Nd)
def jd (k:au):Int:=if k=[111,115]then 0 else if k=[97,114,99,104]then 1 else if k=[97,98,105]then 2 else-1
def mX (k s v:au):Bool:=(decide (0<=jd k)&&cV v)&&(decide (s=[61]) ||decide (s=[33,61]))
def xr (k s v:au)(r:List au)(nd:List Nd):Int×List au×List Nd:=
 if s=[33,61]then(((nd++[(⟨1,0,0,jd k,v⟩:Nd)]).length:Nat),r,(nd++[⟨1,0,0,jd k,v⟩])++[⟨2,(nd.length:Nat),0,0,[]⟩])
 else((nd.length:Nat),r,nd++[⟨1,0,0,jd k,v⟩])
def rb (k:au)(w:List au)(nd:List Nd):PR:=match w with
 |s::v::r=>if mX k s v=true then some (xr k s v r nd)else none
 |_=>none
def lI (part:List au->List Nd->PR)(wd:au)(op:Int):Nat->Int->List au->List Nd->PR
 |0,a,w,nd=>some (a,w,nd)
 |f+1,a,w,nd=>match w with
  |[]=>some (a,w,nd)
  |x::r=>if x=wd then(match part r nd with
    |none=>none
    |some (b,w',nd')=>lI part wd op f (nd'.length:Nat) w' (nd'++[⟨op,a,b,0,[]⟩]))
   else some (a,w,nd)
def iR (part:List au->List Nd->PR)(wd:au)(op:Int)(w:List au)(nd:List Nd):PR:=match part w nd with
 |none=>none
 |some (a,w',nd')=>lI part wd op w'.length a w' nd'
def qN:au:=[110,111,116]
def gZ:au:=[40]
def lz:au:=[41]
def lM:au:=[97,110,100]
def qZ:au:=[111,114]
def pd (r:PR):PR:=match r with
 |some (a,x::w',nd')=>if x=lz then some (a,w',nd')else none
 |_=>none
def YP (r:PR):PR:=match r with
 |some (a,w',nd')=>some ((nd'.length:Nat),w',nd'++[⟨2,a,0,0,[]⟩])
 |none=>none
def te:Nat->List au->List Nd->PR
 |0,_,_=>none
 |f+1,w,nd=>match w with
  |[]=>none
  |k::r=>if k=qN then YP (te f r nd)
   else if k=gZ then pd (iR (iR (te f) lM 3) qZ 4 r nd)
   else rb k r nd
def PB (w:List au)(nd:List Nd)(w':List au)(nd':List Nd):Prop:=w'.length<=w.length/\nd'.length+2*w'.length<=nd.length+2*w.length/\w'<:+w
def uK (part:List au->List Nd->PR):Prop:=∀w nd a w' nd',part w nd=some (a,w',nd')->PB w nd w' nd'/\w'.length<w.length
def PB.refl (w:List au)(nd:List Nd):PB w nd w nd:=⟨aL _,aL _,mi _⟩
def PB.trans {w nd w' nd' w2 nd2}(h:PB w nd w' nd')(h2:PB w' nd' w2 nd2):PB w nd w2 nd2:=⟨dm h2.1 h.1,dm h2.2.1 h.2.1,h2.2.2.trans h.2.2⟩
def PB.tail {x:au}{w:List au}{nd:List Nd}{w':List au}{nd':List Nd}(h:PB w nd w' nd')(n:Nd):PB (x::w) nd w' (nd'++[n]):=by
 obtain⟨h1,h2,h3⟩:=h;refine⟨by simp only[aP];omega,by simp only[bP,aP,a8];omega,h3.trans (List.suffix_cons x w)⟩
def PB.vF {x:au}{w:List au}{nd:List Nd}{w':List au}{nd':List Nd}(h:PB w nd w' nd'):PB (x::w) nd w' nd':=by
 obtain⟨h1,h2,h3⟩:=h;exact⟨by simp only[aP];omega,by simp only[aP];omega,h3.trans (List.suffix_cons x w)⟩
def AG {part:List au->List Nd->PR}(hp:uK part)(wd:au)(op:Int):∀(f:Nat) (a:Int) (w:List au) (nd:List Nd) (a':Int) (w':List au) (nd':List Nd),lI part wd op f a w nd=some (a',w',nd')->PB w nd w' nd'
 |0,a,w,nd,a',w',nd',h=>by simp only[lI,bh,eG]at h;obtain⟨rfl,rfl,rfl⟩:=h;exact .refl _ _
 |f+1,a,[],nd,a',w',nd',h=>by simp only[lI,bh,eG]at h;obtain⟨rfl,rfl,rfl⟩:=h;exact .refl _ _
 |f+1,a,x::r,nd,a',w',nd',h=>by
  simp only[lI]at h;by_cases hx:x=wd
  .rw[aw hx]at h;cases hq:part r nd with
   |none=>rw[hq]at h;cases h
   |some t=>
    obtain⟨b,w2,nd2⟩:=t;rw[hq]at h;exact((hp _ _ _ _ _ hq).1.tail _).trans (AG hp wd op f _ _ _ _ _ _ h)
  .rw[ak hx]at h;simp only[bh,eG]at h;obtain⟨rfl,rfl,rfl⟩:=h;exact .refl _ _
def mA {part:List au->List Nd->PR}(hp:uK part)(wd:au)(op:Int):uK (iR part wd op):=by
 intro w nd a w' nd' h;unfold iR at h;cases hq:part w nd with
 |none=>rw[hq]at h;cases h
 |some t=>
  obtain⟨b,w2,nd2⟩:=t;rw[hq]at h;obtain⟨h1,h2⟩:=hp _ _ _ _ _ hq;have:=AG hp wd op _ _ _ _ _ _ _ h;exact⟨h1.trans this,Nat.lt_of_le_of_lt this.1 h2⟩
theorem qa {k:au}{w:List au}{nd:List Nd}{a:Int}{w':List au}{nd':List Nd}(h:rb k w nd=some (a,w',nd')):PB w nd w' nd':=by
 match w,h with
 |s::v::r,h=>
  simp only[rb]at h;split at h
  .simp only[bh]at h;unfold xr at h;have hs:r<:+s::v::r:=(List.suffix_cons v r).trans (List.suffix_cons s _);split at h<;>(simp only[eG]at h;obtain⟨rfl,rfl,rfl⟩:=h;exact⟨by simp only[aP];omega,by simp only[bP,aP,a8];omega,hs⟩)
  .cases h
 |[_],h=>cases h
 |[],h=>cases h
def lP:∀f,uK (te f)
 |0=>fun w nd a w' nd' h=>by cases h
 |f+1=>by
  intro w nd a w' nd' h
  match w,h with
  |[],h=>cases h
  |k::r,h=>
   simp only[te]at h;split at h
   .cases hq:te f r nd with
    |none=>rw[hq]at h;cases h
    |some t=>
     obtain⟨b,w2,nd2⟩:=t;rw[hq]at h;simp only[YP,bh,eG]at h;obtain⟨rfl,rfl,rfl⟩:=h;obtain⟨h1,h2⟩:=lP f _ _ _ _ _ hq;exact⟨h1.tail _,by simp only[aP];omega⟩
   .split at h
    .cases hq:iR (iR (te f) lM 3) qZ 4 r nd with
     |none=>rw[hq]at h;cases h
     |some t=>
      obtain⟨b,w2,nd2⟩:=t;rw[hq]at h;obtain⟨h1,h2⟩:=mA (mA (lP f) _ _) _ _ _ _ _ _ _ hq
      match w2,h,h1,h2 with
      |[],h,_,_=>cases h
      |x::w3,h,h1,h2=>
       simp only[pd]at h;split at h
       .simp only[bh,eG]at h;obtain⟨rfl,rfl,rfl⟩:=h;exact⟨(h1.trans (PB.refl _ _).vF).vF,by simp only[aP]at h2⊢;omega⟩
       .cases h
    .exact⟨(qa h).vF,by have:=(qa h).1;simp only[aP];omega⟩
def GU {p p':List au->List Nd->PR}(hp:uK p)(wd:au)(op:Int){u:Nat}(h:∀w nd,w.length<u->p w nd=p' w nd):∀(f:Nat) (a:Int) (w:List au) (nd:List Nd),w.length<=u->lI p wd op f a w nd=lI p' wd op f a w nd
 |0,a,w,nd,hu=>rfl
 |f+1,a,[],nd,hu=>rfl
 |f+1,a,x::r,nd,hu=>by
  simp only[aP]at hu;simp only[lI];split
  .rw[<-h r nd ae];cases hq:p r nd with
   |none=>rfl
   |some t=>
    obtain⟨b,w2,nd2⟩:=t;have:=hp _ _ _ _ _ hq;exact GU hp wd op h f _ _ _ ae
  .rfl
def sE {p p':List au->List Nd->PR}(hp:uK p)(wd:au)(op:Int){u:Nat}(h:∀w nd,w.length<u->p w nd=p' w nd):∀w nd,w.length<u->iR p wd op w nd=iR p' wd op w nd:=by
 intro w nd hu;unfold iR;rw[<-h w nd hu];cases hq:p w nd with
 |none=>rfl
 |some t=>
  obtain⟨b,w2,nd2⟩:=t;have:=hp _ _ _ _ _ hq;exact GU hp wd op h _ _ _ _ ae
def KR:∀(u f g:Nat) (w:List au) (nd:List Nd),w.length<u->w.length<=f->w.length<=g->te f w nd=te g w nd
 |0,_,_,_,_,h,_,_=>absurd h (Nat.not_lt_zero _)
 |u+1,f,g,[],nd,hu,hf,hg=>by cases f<;>cases g<;>rfl
 |u+1,0,_,_::_,_,_,h,_=>by simp at h
 |u+1,_,0,_::_,_,_,_,h=>by simp at h
 |u+1,f+1,g+1,k::r,nd,hu,hf,hg=>by
  simp only[aP]at hu hf hg;have ih:∀w nd,w.length<r.length+1->te f w nd=te g w nd:=fun w nd h=>KR u f g w nd ae ae ae
  simp only[te];rw[ih r nd ae,sE (mA (lP f) _ _) qZ 4 (sE (lP f) lM 3 ih) r nd ae]
def j6 (w:List au)(nd:List Nd):PR:=te w.length w nd
def kP:List au->List Nd->PR:=iR j6 lM 3
def iX:List au->List Nd->PR:=iR kP qZ 4
def wi:uK j6:=fun w nd a w' nd' h=>lP _ w nd a w' nd' h
def Ab:uK kP:=mA wi _ _
def yF (k:au)(r:List au)(nd:List Nd):j6 (k::r) nd=if k=qN then YP (j6 r nd)else if k=gZ then pd (iX r nd)else rb k r nd:=by
 show te (r.length+1) (k::r) nd=_;simp only[te];have ih:∀w nd,w.length<r.length+1->te r.length w nd=j6 w nd:=fun w nd h=>KR (r.length+1) _ _ w nd h ae (aL _)
 rw[show te r.length r nd=j6 r nd from rfl,sE (mA (lP _) _ _) qZ 4 (sE (lP _) lM 3 ih) r nd ae];rfl
def C8 {part:List au->List Nd->PR}{wd:au}{op:Int}{f:Nat}{a:Int}{nd:List Nd}:lI part wd op f a [] nd=some (a,[],nd):=by cases f<;>rfl
theorem RU {part:List au->List Nd->PR}{wd:au}{op:Int}{f:Nat}{a:Int}{w:List au}{nd:List Nd}(h:w.head? ≠some wd):lI part wd op f a w nd=some (a,w,nd):=by
 cases f with
 |zero=>rfl
 |succ f=>match w,h with
  |[],_=>rfl
  |x::r,h=>simp only[lI];rw[ak (by rintro rfl;exact h rfl)]
def AH {part:List au->List Nd->PR}(hp:uK part){wd:au}{op:Int}:∀(f g:Nat) (a:Int) (w:List au) (nd:List Nd),w.length<=f->w.length<=g->lI part wd op f a w nd=lI part wd op g a w nd
 |_,_,a,[],nd,_,_=>by rw[C8,C8]
 |0,_,_,_::_,_,h,_=>by simp at h
 |_,0,_,_::_,_,_,h=>by simp at h
 |f+1,g+1,a,x::r,nd,hf,hg=>by
  simp only[aP]at hf hg;simp only[lI];split
  .cases hq:part r nd with
   |none=>rfl
   |some t=>
    obtain⟨b,w2,nd2⟩:=t;have:=hp _ _ _ _ _ hq;exact AH hp f g _ _ _ ae ae
  .rfl
def Ll (part:List au->List Nd->PR)(wd:au)(op:Int)(a:Int)(w:List au)(nd:List Nd):PR:=lI part wd op w.length a w nd
def OO {part:List au->List Nd->PR}(hp:uK part){wd:au}{op:Int}{a:Int}{r:List au}{nd:List Nd}:Ll part wd op a (wd::r) nd=match part r nd with
  |none=>none
  |some (b,w',nd')=>Ll part wd op (nd'.length:Nat) w' (nd'++[⟨op,a,b,0,[]⟩]):=by
 show lI part wd op (r.length+1) a (wd::r) nd=_;simp only[lI,aW];cases hq:part r nd with
 |none=>rfl
 |some t=>
  obtain⟨b,w2,nd2⟩:=t;have:=hp _ _ _ _ _ hq;exact AH hp _ _ _ _ _ ae (aL _)
structure PO where
 a:Int
 w:List au
 nd:List Nd
 bad:Bool
def eB (R:PR)(w:List au)(nd:List Nd)(o:PO):Prop:=(R=some (o.a,o.w,o.nd)/\o.bad=false\/R=none/\o.bad=true)/\PB w nd o.w o.nd
def Ju (s:au):Option (List Nd):=match iX (ai s 32) []with
 |some (_,[],nd)=>if AL nd=true then some nd else none
 |_=>none
def mL (s:au):List Nd×Int:=if 96<s.length then([],3)else if s=[]then([],0)else match Ju s with
 |some nd=>(nd,0)
 |none=>([],7)
def qt (s:au):Bool:=decide ((mL s).2=0)&&decide (WL (mL s).1=s)
abbrev FP:=List au->D->Bool->D
def iO:FP:=fun w X b=>.agg [.sl 1 (w.map D.str),X,.bool b]
def jf (W:List au):FP:=fun w X b=>.agg [.sl 1 (W.map D.str),.int .i64 ((W.length-w.length:Nat):Int),X,.bool b]
def pc (Y:Ctx)(k:Nat)(ob:FP)(n:Nat)(aoF:List D)(w:List au)(nd:List Nd)(b:Bool)(P:PO->Prop)(V:PO->D):Prop:=
 ∀(nx lp ln:Nat) (m:List (Nat×bW)) (K:D->St->Prop),look m lp=some (.buf k [ob w (.own ln 5 0 nd.length) b])->look m ln=some (.buf 5 (nd.map Nd.D))->lp<nx->ln<nx->
  (∀o,P o->K (V o) ⟨nx+1,(nx,.buf 5 (o.nd.map Nd.D))::dG (cH m ln) lp (.buf k [ob o.w (.own nx 5 0 o.nd.length) o.bad])⟩)->Y.tr n (.ptr lp k 0 0::aoF) ⟨nx,m⟩ K
def Um (Y:Ctx)(k:Nat)(ob:FP)(n:Nat)(aoF:List D)(w:List au)(nd:List Nd)(b:Bool)(P:PO->Prop)(V:PO->D):Prop:=
 ∀(nx lp ln:Nat) (m:List (Nat×bW)) (K:D->St->Prop),look m lp=some (.buf k [ob w (.own ln 5 0 nd.length) b])->look m ln=some (.buf 5 (nd.map Nd.D))->lp<nx->ln<nx->
  (∀o,P o->K (V o) ⟨nx,dG m lp (.buf k [ob o.w (.own ln 5 0 nd.length) o.bad])⟩)->Y.tr n (.ptr lp k 0 0::aoF) ⟨nx,m⟩ K
def yf (k:Nat)(ob:FP)(P:PO->Prop)(V:PO->D):D->List (Nat×bW)->Prop:=fun d m=>∃(o:PO) (j:Nat),2<=j/\P o/\d=V o/\look m 0=some (.buf k [ob o.w (.own j 5 0 o.nd.length) o.bad])/\look m j=some (.buf 5 (o.nd.map Nd.D))
def KE (k:Nat)(ob:FP)(nd:List Nd)(P:PO->Prop)(V:PO->D):D->List (Nat×bW)->Prop:=fun d m=>∃(o:PO),P o/\d=V o/\look m 0=some (.buf k [ob o.w (.own 1 5 0 nd.length) o.bad])/\look m 1=some (.buf 5 (nd.map Nd.D))
def Va:PO->D:=fun o=>.int .i64 o.a
def YL {m:List (Nat×bW)}(x:Nd):TR m [.a,.a,.a,.a,.a] (Nd.D x):=⟨rfl,rfl,rfl,rfl,rfl,rfl⟩
def R6 {m:List (Nat×bW)}{lp ln:Nat}{w:List au}{nd:List Nd}{b:Bool}(h1:look m lp=some (.buf 3 [iO w (.own ln 5 0 nd.length) b]))(h2:look m ln=some (.buf 5 (nd.map Nd.D))):
  kY m [[.pt [.sl 1 [.a],.sl 5 [.a,.a,.a,.a,.a],.a]]] [.ptr lp 3 0 0]:=by
 refine⟨⟨by simp[fX,h1], ?_⟩,trivial⟩;intro e he;simp only[bC,h1,cI]at he;subst he;refine⟨rfl,⟨by simp[fX,h2], ?_⟩,rfl,rfl⟩;simp only[bC,h2,bY,aN];intro e he;obtain⟨x,_,rfl⟩:=ey.1 he;exact YL x
def bz (w:List au):au:=w.headD []
def bX (w:List au):List au:=if bz w=[]then w else w.drop 1
def dQ (w:List au)(b:Bool):Bool:=if bz w=[]then true else b
def s6 {w:List au}{x:au}(hx:x≠[])(h:bz w=x):∃r,w=x::r:=by
 match w,h with
 |[],h=>exact absurd h.symm hx
 |y::r,h=>exact⟨r,by rw[show y=x from h]⟩
def Tv {w:List au}(h:¬bz w=[]):1<=w.length:=by
 match w,h with
 |[],h=>exact absurd rfl h
 |_::_,_=>simp
def kj {x:au}{r:List au}(hx:x≠[]):bX (x::r)=r:=ak hx
def ki {x:au}{r:List au}{b:Bool}(hx:x≠[]):dQ (x::r) b=b:=ak hx
def PZ (w:List au):bX w<:+w:=by
 unfold bX;split
 .exact mi _
 .exact List.drop_suffix 1 w
def p7 (w:List au)(nd:List Nd):PB w nd (bX w) nd:=by
 have h:=PZ w;have:=h.length_le;exact⟨this,ae,h⟩
theorem Tu {w:List au}{b:Bool}(h:dQ w b=false):b=false/\bz w≠[]/\w=bz w::bX w:=by
 unfold dQ at h;split at h
 .cases h
 .rename_i hs;refine⟨h,hs, ?_⟩
  match w,hs with
  |x::r,hs=>rw[kj (x:=x) (r:=r) hs];rfl
def nY (b:Bool)(k:au)(w:List au)(nd:List Nd):PR:=if b=true then none else rb k w nd
theorem GN {j:Nat}{k:au}(hj:j<3)(h:rK[j]! =k):jd k=(j:Nat):=by
 obtain rfl|rfl|rfl:j=0\/j=1\/j=2:=ae
 all_goals (subst h;rfl)
def C5 {k:au}(h:0<=jd k):∃j,j<3/\rK[j]! =k/\jd k=(j:Nat):=by
 unfold jd at h⊢;by_cases h1:k=[111,115]
 .exact⟨0,ae,h1.symm,by rw[aw h1];rfl⟩
 .by_cases h2:k=[97,114,99,104]
  .exact⟨1,ae,h2.symm,by rw[ak h1,aw h2];rfl⟩
  .by_cases h3:k=[97,98,105]
   .exact⟨2,ae,h3.symm,by rw[ak h1,ak h2,aw h3];rfl⟩
   grind
def Jc (j:Nat)(k s v:au)(bad:Bool):Bool:=!(((!decide (rK[j]! =k) ||bad) ||(!decide (s=[61])&& !decide (s=[33,61]))) ||!cV v)
def Rv {j:Nat}{k:au}{w:List au}{nd:List Nd}{b:Bool}(hj:j<3)(h:Jc j k (bz w) (bz (bX w)) (dQ (bX w) (dQ w b))=true):
  nY b k w nd=some (xr k (bz w) (bz (bX w)) (bX (bX w)) nd)/\jd k=(j:Nat)/\dQ (bX w) (dQ w b)=false:=by
 grind [Jc,GN,Tu,nY,rb,mX]
def U2 {k:au}{w:List au}{nd:List Nd}{b:Bool}(h:∀j,j<3->Jc j k (bz w) (bz (bX w)) (dQ (bX w) (dQ w b))=false):nY b k w nd=none:=by
 unfold nY;split
 .rfl
 .rename_i hb
  match w with
  |[]=>rfl
  |[_]=>rfl
  |s::v::r=>
   simp only[rb];rw[ak];intro ha;simp only[mX,bB,cM,aK]at ha;obtain⟨⟨h1,h2⟩,h3⟩:=ha;obtain⟨j,hj,hj2,_⟩:=C5 h1;have hs:s≠[]:=by rintro rfl;rcases h3 with h|h<;>cases h
   have hv:v≠[]:=by rintro rfl;cases h2
   have:=h j hj;rw[kj hs,ki hs,ki hv]at this;simp only[Bool.not_eq_true]at hb;subst hb;revert this;simp only[Jc,bz,List.headD_cons,hj2,h2,decide_true];rcases h3 with rfl|rfl<;>simp
def KI (w:List au)(nd:List Nd):PB w nd (bX (bX w)) nd:=(p7 w nd).trans (p7 _ nd)
def zX {b:Bool}{k:au}{w:List au}{nd:List Nd}{a:Int}{w':List au}{nd':List Nd}(h:nY b k w nd=some (a,w',nd')):PB w nd w' nd':=by
 grind [nY,qa]
def Rb {w:List au}{nd:List Nd}(h1:bz w≠qN)(h2:bz w≠gZ):j6 w nd=nY (dQ w false) (bz w) (bX w) nd:=by
 match w with
 |[]=>rfl
 |k::r=>
  have h1:k≠qN:=h1;have h2:k≠gZ:=h2;rw[yF,ak h1,ak h2];by_cases hk:k=[]
  .subst hk;show rb [] r nd=none
   match r with
   |[]=>rfl
   |[_]=>rfl
   |s::v::r=>rfl
  .rw[kj hk,ki hk];rfl
def QR {R:PR}{o:PO}{w:List au}{nd:List Nd}(h:eB R w nd o)(hs:bz o.w≠lz):pd R=none:=by
 rcases h.1 with⟨h1,_⟩|⟨h1,_⟩
 .rw[h1]
  match ho:o.w,hs with
  |[],_=>rfl
  |x::r,hs=>simp only[pd];exact ak hs
 .rw[h1];rfl
def eB.pb {R:PR}{o:PO}{w:List au}{nd:List Nd}(h:eB R w nd o):PB w nd o.w o.nd:=h.2
def Lz {r:List au}{nd:List Nd}{o:PO}(h:eB (j6 r nd) r nd o):eB (j6 (qN::r) nd) (qN::r) nd ⟨(o.nd.length:Nat),o.w,o.nd++[⟨2,o.a,0,0,[]⟩],o.bad⟩:=by
 refine⟨?_,h.2.tail _⟩;rw[yF,aw rfl];rcases h.1 with⟨h1,h2⟩|⟨h1,h2⟩
 .left;rw[h1];exact⟨rfl,h2⟩
 .right;rw[h1];exact⟨rfl,h2⟩
def ve (r:List au)(nd:List Nd):j6 (gZ::r) nd=pd (iX r nd):=by rw[yF,ak aF,aw rfl]
def G7 {r:List au}{nd:List Nd}{o:PO}(h:eB (iX r nd) r nd o)(hs:¬bz o.w=lz):eB (j6 (gZ::r) nd) (gZ::r) nd ⟨o.a,bX o.w,o.nd,true⟩:=
 ⟨.inr ⟨by rw[ve,QR h hs],rfl⟩,h.2.vF.trans (p7 _ _)⟩
def Sr {r:List au}{nd:List Nd}{o:PO}(h:eB (iX r nd) r nd o)(hs:bz o.w=lz):eB (j6 (gZ::r) nd) (gZ::r) nd ⟨o.a,bX o.w,o.nd,dQ o.w o.bad⟩:=by
 refine⟨?_,h.2.vF.trans (p7 _ _)⟩;obtain⟨q,hq⟩:=s6 aF hs;rw[ve,hq,kj aF,ki aF];rcases h.1 with⟨h1,h2⟩|⟨h1,h2⟩
 .grind [pd]
 .right;rw[h1];exact⟨rfl,h2⟩
def Sq {w:List au}{nd:List Nd}{o:PO}(hf:j6 w nd=nY (dQ w false) (bz w) (bX w) nd)(h:eB (nY (dQ w false) (bz w) (bX w) nd) (bX w) nd o):eB (j6 w nd) w nd o:=
 ⟨by rw[hf];exact h.1,(p7 w nd).trans h.2⟩
def RX {s:au}{o:PO}(h:eB (iX (ai s 32) []) (ai s 32) [] o)(hc:((o.bad ||decide ((0:Int)<(o.w.length:Nat))) ||!AL o.nd)=true):Ju s=none:=by
 unfold Ju;rcases h.1 with⟨h1,h2⟩|⟨h1,h2⟩
 .grind
 .rw[h1]
def Lp {s:au}{o:PO}(h:eB (iX (ai s 32) []) (ai s 32) [] o)(hc:((o.bad ||decide ((0:Int)<(o.w.length:Nat))) ||!AL o.nd)=false):Ju s=some o.nd:=by
 simp only[dd,bc,bK]at hc;unfold Ju;rcases h.1 with⟨h1,h2⟩|⟨h1,h2⟩
 .rw[h1]
  match hw:o.w with
  |[]=>simp only[hc.2,aW]
  |x::r=>exact absurd hc.1.2 (by rw[hw];simp)
 grind
def Lo {s:au}{nd:List Nd}(h1:¬96<s.length)(h2:¬s=[])(h:Ju s=some nd):mL s=(nd,0):=by simp only[mL,h,ak h1,ak h2]
def Ln {s:au}(h1:¬96<s.length)(h2:¬s=[])(h:Ju s=none):mL s=([],7):=by simp only[mL,h,ak h1,ak h2]
def Iy (part:List au->List Nd->PR)(wd:au)(op:Int)(R:PR)(w:List au)(nd:List Nd)(o:PO):Prop:=(o.bad=false/\R=Ll part wd op o.a o.w o.nd\/o.bad=true/\R=none)/\PB w nd o.w o.nd
def Iy.first {part:List au->List Nd->PR}{wd:au}{op:Int}{w:List au}{nd:List Nd}{o:PO}(h:eB (part w nd) w nd o):Iy part wd op (iR part wd op w nd) w nd o:=by
 refine⟨?_,h.2⟩;rcases h.1 with⟨h1,h2⟩|⟨h1,h2⟩
 .left;refine⟨h2, ?_⟩;unfold iR;rw[h1];rfl
 grind [iR]
def Iy.next {part:List au->List Nd->PR}(hp:uK part){wd:au}{op:Int}{R:PR}{w:List au}{nd:List Nd}{a:Int}{r:List au}{nd1:List Nd}{o:PO}(h:Iy part wd op R w nd ⟨a,wd::r,nd1,false⟩)(h2:eB (part r nd1) r nd1 o):
  Iy part wd op R w nd ⟨(o.nd.length:Nat),o.w,o.nd++[⟨op,a,o.a,0,[]⟩],o.bad⟩:=by
 refine⟨?_,h.2.trans (h2.2.tail _)⟩;rcases h.1 with⟨_,h1⟩|⟨h1,_⟩
 .rw[OO hp]at h1;rcases h2.1 with⟨g1,g2⟩|⟨g1,g2⟩
  .left;exact⟨g2,by rw[h1,g1]⟩
  .right;exact⟨g2,by rw[h1,g1]⟩
 .cases h1
def Iy.last {part:List au->List Nd->PR}{wd:au}{op:Int}{R:PR}{w:List au}{nd:List Nd}{o:PO}(h:Iy part wd op R w nd o)(hx:o.bad=true\/o.w.head? ≠some wd):eB R w nd o:=by
 refine⟨?_,h.2⟩;rcases h.1 with⟨h1,h2⟩|⟨h1,h2⟩
 .grind [Ll,RU]
 .right;exact⟨h2,h1⟩
def gP (w:List au)(s:au):Bool:=match w with
 |x::_=>decide (x=s)
 |[]=>false
def oR (w:List au)(s:au):List au:=if gP w s=true then w.drop 1 else w
def rB (w:List au)(b:Bool):Bool:=if w=[]then true else b
def nO {w:List au}{s:au}(h:gP w s=true):∃r,w=s::r:=by
 match w,h with
 |x::r,h=>exact⟨r,by rw[show x=s by simpa[gP]using h]⟩
theorem ug (s:au)(r:List au):gP (s::r) s=true:=by simp[gP]
def l5 (s:au)(r:List au):oR (s::r) s=r:=by grind [oR,ug]
def pP {w:List au}{s:au}(h:gP w s=false):oR w s=w:=by grind [oR]
def AP {w:List au}{s:au}(h:gP w s=false):w.head? ≠some s:=by
 match w,h with
 |[],_=>simp
 |x::r,h=>intro e;have e:x=s:=(by simpa using e);subst e;rw[ug]at h;cases h
def LW {W w:List au}(h:w<:+W)(hw:1<=w.length):W.length-w.length<W.length/\W[W.length-w.length]! =w[0]! :=by
 have hl:=h.length_le;have he:=List.suffix_iff_eq_drop.1 h
 grind
def Lt {W w:List au}(h:w<:+W)(s:au):(decide (((W.length-w.length:Nat):Int)<(W.length:Nat))&&decide (W[W.length-w.length]! =s))=gP w s:=by
 have hl:=h.length_le
 match w with
 |[]=>
  have:decide (((W.length-([]:List au).length:Nat):Int)<(W.length:Nat))=false:=cG aJ;rw[this];rfl
 |x::r=>
  obtain⟨h1,h2⟩:=LW h aJ;rw[h2,b9 ae,gz];rfl
def LK {W:List au}{x:au}{r:List au}{X:D}{b:Bool}(h:(x::r).length<=W.length):vD (jf W (x::r) X b) 4 1 1 (.int .i64 (((W.length-(x::r).length:Nat):Int)+1))=jf W r X b:=by
 have:((W.length-(x::r).length:Nat):Int)+1=((W.length-r.length:Nat):Int):=by simp only[aP]at h⊢;omega
 rw[this];rfl
def Aj (w:List au)(nd:List Nd):PR:=match w with
 |k::r=>rb k r nd
 |[]=>none
def K9 (k:au)(i:Nat):Int:=if jd k<i then jd k else-1
theorem La (k:au):-1<=jd k:=by
 grind [jd]
theorem Vf (k:au):jd k<3:=by
 grind [jd]
def Ve {k:au}{i:Nat}(hi:i<3)(h:ua (i:Int)=k):K9 k (i+1)=(i:Int):=by
 have:jd k=(i:Nat):=GN hi (by rw[<-h];exact sO (k:=(i:Int)) ae ae);unfold K9;rw[this,aw ae]
def YF {k:au}{i:Nat}(hi:i<3)(h:¬ua (i:Int)=k):K9 k (i+1)=K9 k i:=by
 have h1:jd k≠(i:Nat):=by
  intro e;obtain⟨j,hj,hj2,hj3⟩:=C5 (k:=k) ae;have:j=i:=ae;subst this;exact h (by rw[<-hj2];exact(sO (k:=(j:Int)) ae ae).symm)
 grind [La,K9,jd]
def kAt_0 (k:au):K9 k 0=-1:=by
 have:=La k;unfold K9;split
 .omega
 .rfl
def kAt_3 (k:au):K9 k 3=jd k:=by
 grind [Vf,K9]
def Cz (k s v:au):(((decide (jd k<0) ||!cV v)) ||(!decide (s=[61])&& !decide (s=[33,61])))=!mX k s v:=by
 unfold mX
 grind
def NV {w:List au}{nd:List Nd}(h:mX (bz w) (bz (w.drop 1)) (bz ((w.drop 1).drop 1))=true):∃r,w=bz w::bz (w.drop 1)::bz ((w.drop 1).drop 1)::r/\Aj w nd=some (xr (bz w) (bz (w.drop 1)) (bz ((w.drop 1).drop 1)) r nd):=by
 match w,h with
 |[],h=>cases h
 |[_],h=>simp[mX,bz,cV]at h
 |[_,_],h=>simp[mX,bz,cV]at h
 |k::s::v::r,h=>exact⟨r,rfl,by simp only[Aj,rb];exact aw h⟩
def QI {w:List au}{nd:List Nd}(h:mX (bz w) (bz (w.drop 1)) (bz ((w.drop 1).drop 1))=false):Aj w nd=none:=by
 match w,h with
 |[],h=>rfl
 |[_],h=>rfl
 |[_,_],h=>rfl
 |k::s::v::r,h=>simp only[Aj,rb];exact ak (by rw[show mX k s v=false from h];simp)
def El (w:List au)(nd:List Nd):PB w nd (w.drop 1) nd:=by
 have h:w.drop 1<:+w:=List.drop_suffix 1 w;have:=h.length_le;exact⟨this,ae,h⟩
def CP {w:List au}{nd:List Nd}{a:Int}{w':List au}{nd':List Nd}(h:Aj w nd=some (a,w',nd')):PB w nd w' nd':=by
 match w,h with
 |k::r,h=>exact(qa h).vF
def Ys {w:List au}{nd:List Nd}(h1:gP w qN=false)(h2:gP w gZ=false):j6 w nd=Aj w nd:=by
 match w,h1,h2 with
 |[],_,_=>rfl
 |k::r,h1,h2=>
  have h1:¬k=qN:=by simpa[gP]using h1
  have h2:¬k=gZ:=by simpa[gP]using h2
  rw[yF,ak h1,ak h2];rfl
def NZ {R:PR}{o:PO}{w:List au}{nd:List Nd}(h:eB R w nd o)(hs:gP o.w lz=false):pd R=none:=by
 rcases h.1 with⟨h1,_⟩|⟨h1,_⟩
 .rw[h1]
  match ho:o.w,hs with
  |[],_=>rfl
  |x::r,hs=>simp only[pd];exact ak (by simpa[gP]using hs)
 .rw[h1];rfl
def EU {r:List au}{nd:List Nd}{o:PO}(h:eB (iX r nd) r nd o)(hs:gP o.w lz=false):eB (j6 (gZ::r) nd) (gZ::r) nd ⟨o.a,o.w,o.nd,true⟩:=
 ⟨.inr ⟨by rw[ve,NZ h hs],rfl⟩,h.2.vF⟩
def O6 {r:List au}{nd:List Nd}{o:PO}{q:List au}(h:eB (iX r nd) r nd o)(hs:o.w=lz::q):eB (j6 (gZ::r) nd) (gZ::r) nd ⟨o.a,q,o.nd,o.bad⟩:=by
 refine⟨?_,(h.2.vF (x:=gZ)).trans (by rw[hs];exact(PB.refl _ _).vF)⟩;rw[ve];rcases h.1 with⟨h1,h2⟩|⟨h1,h2⟩
 .grind [pd]
 .right;rw[h1];exact⟨rfl,h2⟩
def PB.vM {w w':List au}{nd nd':List Nd}{W:List au}(h:PB w nd w' nd')(hW:w<:+W):w'<:+W:=h.2.2.trans hW
def tO (f:Nat->Int):Nat->Nat->Int
 |_,0=>0
 |i,k+1=>if f i=0 then tO f (i+1) k else f i
def fJ (f:Nat->Int)(i n:Nat):Int:=tO f i (n-i)
def nK {f:Nat->Int}{i n:Nat}(h:i<n)(hf:f i=0):fJ f i n=fJ f (i+1) n:=by
 unfold fJ;obtain⟨k,hk⟩:∃k,n-i=k+1:=⟨n-i-1,ae⟩
 grind [tO]
def lS {f:Nat->Int}{i n:Nat}(h:i<n)(hf:f i≠0):fJ f i n=f i:=by
 unfold fJ;obtain⟨k,hk⟩:∃k,n-i=k+1:=⟨n-i-1,ae⟩
 rw[hk];simp only[tO,hf,aX]
def nJ {f:Nat->Int}{i n:Nat}(h:n<=i):fJ f i n=0:=by
 unfold fJ;rw[show n-i=0 by omega];rfl
def qh (f:Nat->Int):Nat->Nat->Int×Int
 |_,0=>(0,0)
 |i,k+1=>if f i=0 then qh f (i+1) k else(f i,((i:Nat):Int))
def iw (f:Nat->Int)(i n:Nat):Int×Int:=qh f i (n-i)
def lR {f:Nat->Int}{i n:Nat}(h:i<n)(hf:f i=0):iw f i n=iw f (i+1) n:=by
 unfold iw;obtain⟨k,hk⟩:∃k,n-i=k+1:=⟨n-i-1,ae⟩
 grind [qh]
def j7 {f:Nat->Int}{i n:Nat}(h:i<n)(hf:f i≠0):iw f i n=(f i,((i:Nat):Int)):=by
 unfold iw;obtain⟨k,hk⟩:∃k,n-i=k+1:=⟨n-i-1,ae⟩
 rw[hk];simp only[qh,hf,aX]
def lQ {f:Nat->Int}{i n:Nat}(h:n<=i):iw f i n=(0,0):=by
 unfold iw;rw[show n-i=0 by omega];rfl
def fR (r:Rec)(name xU:au):Int:=if dK name=false then 4 else if name=r.name then 8 else if sV xU=false then 6 else 0
def WS (l:List au)(i:Nat):Bool:=cV l[i]! && !(decide (0<i)&& !Op.bytesLess l[i-1]! l[i]!)
def jD (l:List au)(alone:Bool):Bool:=(decide (l.length<=6)&&(alone ||decide (l.length=0)))&&cQ (WS l) 0 l.length
def jF (r:Rec)(w:bS)(alone:Bool):Int:=if fR r w.name w.range≠0 then fR r w.name w.range else if jD w.feats alone=false then 11 else 0
def mz (r:Rec)(l:List bS):Int:=fJ (fun i=>jF r l[i]! (decide ((l.length:Int)=1))) 0 l.length
def iZ (r:Rec)(n:bp):Int:=if n.any.length=0 then 9 else if 3<n.any.length then 3 else if mz r n.any≠0 then mz r n.any else
 if qt n.when'=false then 7 else if n.option≠[]/\cV n.option=false then 14 else 0
def pw (r:Rec)(b:fq):Int:=if fR r b.name b.range≠0 then fR r b.name b.range else if qt b.when'=false then 7 else 0
def G6 (l:List bp)(x:au):Bool:=l.any fun n=>decide (n.option=x)
def xR (l:List bp)(x:au):Bool:=l.any fun n=>decide (n.any.length=1)&&decide (n.any[0]!.name=x)
def jU (r:Rec)(s:au):Int:=if(dJ s).1=2/\G6 r.needs (dJ s).2.1=false then 14 else if(dJ s).1=3/\xR r.needs (dJ s).2.1=false then 16 else 0
def kU (r:Rec)(of:List au):Int:=fJ (fun i=>jU r of[i]!) 0 of.length
def lZ (r:Rec):Int×Int:=iw (fun i=>iZ r r.needs[i]!) 0 r.needs.length
def tn (r:Rec):Int×Int:=iw (fun i=>pw r r.bars[i]!) 0 r.bars.length
def tM (r:Rec):Int×Int:=iw (fun i=>kU r r.feats[i]!.of) 0 r.feats.length
def eW (r:Rec):Int×Int:=if(lZ r).1≠0 then lZ r else if(tn r).1≠0 then tn r else if iv r.feats=false then(11,0)else tM r
def TK (n:Nat)(al:Bool):(decide ((6:Int)<(n:Nat)) ||(decide ((0:Int)<(n:Nat))&& !al))=!(decide (n<=6)&&(al ||decide (n=0))):=by
 grind
def wf_c (l:List au)(i:Nat):(!cV l[i]! ||(decide ((0:Int)<(i:Nat))&& !Op.bytesLess l[i-1]! l[i]!))=!WS l i:=by
 unfold WS
 grind
def wf_2 (l:List au)(al:Bool):(cQ (fun i=>cV l[i]!) 0 l.length&&((decide (l.length<=6)&&rising l)&&(al ||decide (l.length=0))))=jD l al:=by
 grind [cQ,WS,cV,rising,eC,jD]
def itC (k:Int)(x:au)(n:bp):Bool:=(decide (k=2)&&decide (n.option=x)) ||((decide (k=3)&&decide ((n.any.length:Int)=1))&&decide (n.any[0]!.name=x))
def YE (k:Int):Int:=if k=2 then 14 else if k=3 then 16 else 0
def RF (r:Rec)(s:au):jU r s=if r.needs.any (itC (dJ s).1 (dJ s).2.1)=true then 0 else YE (dJ s).1:=by
 grind [jU,YE,G6,xR,dJ,itC]
def uP {α:Type} [Inhabited α]{c:α->Bool}{l:List α}{i:Nat}(h:i<l.length)(hc:c l[i]! =true):(l.drop i).any c=true:=by
 rw[iW h,List.any_cons]
 grind
def zV {α:Type} [Inhabited α]{c:α->Bool}{l:List α}{i:Nat}(h:i<l.length)(hc:c l[i]! =false):(l.drop i).any c=(l.drop (i+1)).any c:=by
 rw[iW h,List.any_cons]
 grind
def uO {α:Type}{c:α->Bool}{l:List α}{i:Nat}(h:l.length<=i):(l.drop i).any c=false:=by
 rw[lC h];rfl
def ei:au:=[110,101,101,100]
def gn:au:=[97,110,121]
def eF:au:=[119,104,101,110]
def cT:au:=[111,112,116,105,111,110]
def fE:au:=[98,97,114]
def b8:au:=[102,101,97,116,117,114,101]
def dM:au:=[112,97,99,107,97,103,101]
def jb:au:=[102,117,108,108]
def dF:au:=[98,97,114,101]
def cv (l:List au):au:=aS [32] l++[10]
def jc (w:bS):List au:=[gn,w.name,if w.feats.length=0 then [45]else aS [44] w.feats,if w.bare=true then dF else jb,w.range]
def ij (s:au):au:=if s=[]then []else cv [eF,s]
def qV (s:au):au:=if s=[]then []else cv [cT,s]
def pN (n:bp):au:=cv [ei]++(n.any.map fun w=>cv (jc w)).flatten++ij n.when'++qV n.option
def uR (b:fq):au:=cv [fE,b.name,b.range]++ij b.when'
def qK (f:bZ):au:=cv ([b8,f.name]++f.of)
def qL (r:Rec):au:=cv [dM,r.name,jW r.v]
def gr (r:Rec):au:=qL r++(r.needs.map pN).flatten++(r.bars.map uR).flatten++(r.feats.map qK).flatten
def cK (r:Rec):Int×Int:=if dK r.name=false then(4,0)else if eZ r.v=false then(5,0)else if 8<r.needs.length\/8<r.bars.length then(3,0)else
 if(eW r).1≠0 then eW r else if 4096<(gr r).length then(3,0)else(0,0)
def dt (r:Rec):au×Int:=if(cK r).1≠0 then([],(cK r).1)else(gr r,0)
def bS.sm (w:bS):Prop:=(w.name.length<=1048576/\w.range.length<=1048576)/\∀t∈w.feats,t.length<=1048576
def bp.sm (n:bp):Prop:=(∀w∈n.any,w.sm)/\n.when'.length<=1048576/\n.option.length<=1048576
def fq.sm (b:fq):Prop:=b.name.length<=1048576/\b.range.length<=1048576/\b.when'.length<=1048576
def fA (r:Rec):Prop:=(r.name.length<=1048576/\r.v.sm)/\(∀n∈r.needs,n.sm)/\(∀b∈r.bars,b.sm)/\yG r.feats
def G8 {r:Rec}{e:Int×Int}(h:lZ r=e)(hn:e.1≠0):eW r=e:=by grind [eW]
def A4 {r:Rec}{e:Int×Int}(h0:lZ r=(0,0))(h:tn r=e)(hn:e.1≠0):eW r=e:=by grind [eW]
def G9 {r:Rec}(h0:lZ r=(0,0))(h1:tn r=(0,0))(h:iv r.feats=false):eW r=(11,0):=by grind [eW]
def rR {r:Rec}{e:Int×Int}(h0:lZ r=(0,0))(h1:tn r=(0,0))(h:iv r.feats=true)(h2:tM r=e):eW r=e:=by grind [eW]
def Gl (f:Nat->Int):∀(k i:Nat),(qh f i k).1=0->qh f i k=(0,0)
 |0,_,_=>rfl
 |k+1,i,h=>by
  simp only[qh]at h⊢;by_cases hf:f i=0
  .rw[aw hf]at h⊢;exact Gl f k (i+1) h
  .rw[ak hf]at h;exact absurd h hf
def Ha {r:Rec}(h:(eW r).1=0):eW r=(0,0):=by
 unfold eW at h⊢;split
 .rename_i h1;rw[aw h1]at h;exact absurd h h1
 .rename_i h1;rw[ak h1]at h;split
  .rename_i h2;rw[aw h2]at h;exact absurd h h2
  .rename_i h2;rw[ak h2]at h;split
   .rename_i h3;rw[aw h3]at h;cases h
   .rename_i h3;rw[ak h3]at h;exact Gl _ _ _ h
def pB {r:Rec}{e:Int×Int}(h0:dK r.name=true)(h1:eZ r.v=true)(h2:¬8<r.needs.length)(h3:¬8<r.bars.length)(hp:eW r=e)(hn:e.1≠0):cK r=e:=by
 grind [cK]
def rk {r:Rec}(h0:dK r.name=true)(h1:eZ r.v=true)(h2:¬8<r.needs.length)(h3:¬8<r.bars.length)(hp:eW r=(0,0)):cK r=if 4096<(gr r).length then(3,0)else(0,0):=by
 grind [cK]
def xG (r:Rec):Prop:=(dK r.name=true/\eZ r.v=true)/\(r.needs.length<=8/\r.bars.length<=8)/\eW r=(0,0)
def qQ (n:Nat)(l:List au):List au:=if l.length<=n then l else l.take (n-1)++[aS [32] (l.drop (n-1))]
def ec (n:Nat)(op:Bool)(t:au):List au:=if op=true then qQ n (ai t 32)else ai t 32
def dU (w:au)(n:Nat)(op:Bool)(t:au):Option (List au):=
 if(ec n op t)[0]! =w/\(n=0\/(ec n op t).length=n)/\[]∉ec n op t then some (ec n op t)else none
def ch (w:au)(n:Nat)(op:Bool):List au->Option (List au×List au)
 |[]=>none
 |t::r=>match dU w n op t with
  |some l=>some (l,r)
  |none=>none
def cy (ls:List au):au×List au:=match ch eF 2 true ls with
 |some (l,r)=>(l[1]!,r)
 |none=>([],ls)
def kT (l:List au):Bool:=decide (l[3]! =dF) ||decide (l[3]! =jb)
def gM (l:List au):bS:=⟨l[1]!,l[4]!,if l[2]! =[45]then []else ai l[2]! 44,decide (l[3]! =dF)⟩
def cE:List au->List bS×List au
 |[]=>([],[])
 |t::r=>match dU gn 5 true t with
  |some l=>if kT l=true then(gM l::(cE r).1,(cE r).2)else([],t::r)
  |none=>([],t::r)
def oo (ls:List au):au×List au:=match ch cT 2 false ls with
 |some (l,r)=>(l[1]!,r)
 |none=>([],ls)
def eQ (ls:List au):bp×List au:=(⟨(cE ls).1,(cy (cE ls).2).1,(oo (cy (cE ls).2).2).1⟩,(oo (cy (cE ls).2).2).2)
def m7:Nat->List au->List bp×List au
 |0,ls=>([],ls)
 |f+1,ls=>match ch ei 1 false ls with
  |some (_,r)=>((eQ r).1::(m7 f (eQ r).2).1,(m7 f (eQ r).2).2)
  |none=>([],ls)
def qI:Nat->List au->List fq×List au
 |0,ls=>([],ls)
 |f+1,ls=>match ch fE 3 true ls with
  |some (l,r)=>(⟨l[1]!,l[2]!,(cy r).1⟩::(qI f (cy r).2).1,(qI f (cy r).2).2)
  |none=>([],ls)
def dA:List au->List bZ×List au
 |[]=>([],[])
 |t::r=>match dU b8 0 false t with
  |some l=>if 2<=l.length then(⟨l[1]!,l.drop 2⟩::(dA r).1,(dA r).2)else([],t::r)
  |none=>([],t::r)
def gR:Rec:=⟨[],gm,[],[],[]⟩
def eD (ls:List au):List bp×List au:=m7 ls.length ls
def iE (ls:List au):List fq×List au:=qI ls.length ls
def pz (nm:au)(v:cn)(r:List au):Rec×List au:=(⟨nm,v,(eD r).1,(iE (eD r).2).1,(dA (iE (eD r).2).2).1⟩,(dA (iE (eD r).2).2).2)
def oH (ls:List au):Option (Rec×List au):=match ch dM 3 false ls with
 |some (l,r)=>match gf l[2]! with
  |some v=>some (pz l[1]! v r)
  |none=>none
 |none=>none
theorem jB {w:au}{n:Nat}{op:Bool}{ls l r:List au}(h:ch w n op ls=some (l,r)):r.length+1=ls.length:=by
 match ls,h with
 |t::q,h=>
  grind [ch]
 |[],h=>cases h
theorem s9 (ls:List au):(cy ls).2.length<=ls.length:=by
 grind [cy,jB]
def Sj (ls:List au):(oo ls).2.length<=ls.length:=by
 grind [oo,jB]
def yc:∀ls:List au,(cE ls).2.length<=ls.length
 |[]=>aL _
 |t::r=>by
  have:=yc r
  grind [cE]
theorem wJ (ls:List au):(eQ ls).2.length<=ls.length:=by
 have h1:=yc ls;have h2:=s9 (cE ls).2;have h3:=Sj (cy (cE ls).2).2;show(oo (cy (cE ls).2).2).2.length<=_;omega
theorem Dc:∀(f g:Nat) (ls:List au),ls.length<=f->ls.length<=g->m7 f ls=m7 g ls
 |0,0,_,_,_=>rfl
 |0,g+1,ls,h,_=>by
  have:ls=[]:=qH.1 ae;subst this;rfl
 |f+1,0,ls,_,h=>by
  have:ls=[]:=qH.1 ae;subst this;rfl
 |f+1,g+1,ls,hf,hg=>by
  simp only[m7];cases h:ch ei 1 false ls with
  |none=>rfl
  |some p=>
   obtain⟨l,r⟩:=p;have h1:=jB h;have h2:=wJ r;simp only;rw[Dc f g _ ae ae]
theorem F4:∀(f g:Nat) (ls:List au),ls.length<=f->ls.length<=g->qI f ls=qI g ls
 |0,0,_,_,_=>rfl
 |0,g+1,ls,h,_=>by
  have:ls=[]:=qH.1 ae;subst this;rfl
 |f+1,0,ls,_,h=>by
  have:ls=[]:=qH.1 ae;subst this;rfl
 |f+1,g+1,ls,hf,hg=>by
  simp only[qI];cases h:ch fE 3 true ls with
  |none=>rfl
  |some p=>
   obtain⟨l,r⟩:=p;have h1:=jB h;have h2:=s9 r;simp only;rw[F4 f g _ ae ae]
def rL {ls l r:List au}(h:ch ei 1 false ls=some (l,r)):eD ls=((eQ r).1::(eD (eQ r).2).1,(eD (eQ r).2).2):=by
 grind [jB,wJ,eD,m7,Dc,eQ]
def oQ {ls:List au}(h:ch ei 1 false ls=none):eD ls=([],ls):=by
 unfold eD
 match ls,h with
 |[],_=>rfl
 |t::r,h=>simp only[aP,m7,h]
def tA {ls l r:List au}(h:ch fE 3 true ls=some (l,r)):iE ls=(⟨l[1]!,l[2]!,(cy r).1⟩::(iE (cy r).2).1,(iE (cy r).2).2):=by
 grind [jB,s9,iE,qI,F4,cy]
def qb {ls:List au}(h:ch fE 3 true ls=none):iE ls=([],ls):=by
 unfold iE
 match ls,h with
 |[],_=>rfl
 |t::r,h=>simp only[aP,qI,h]
structure jg where
 r:Rec
 st:Nat
 deriving Inhabited
def ov (t:au)(n:Nat):Option (List au×au):=
 if n<(ai t 32).length/\[]∉(ai t 32).take n/\aS [32] ((ai t 32).drop n)≠[]then some ((ai t 32).take n,aS [32] ((ai t 32).drop n))else none
def wS (l:List au)(n:Nat):Bool:=decide (l.length=n)&& !l.contains []
def gh {α:Type}(l:List α)(f:α->α):List α:=match l.getLast? with
 |some x=>l.dropLast++[f x]
 |none=>[]
def Ay (l:List au):Option jg:=if(l.length=3/\l[0]! =dM)/\l[1]! ≠[]then(match gf l[2]! with
 |some v=>some ⟨⟨l[1]!,v,[],[],[]⟩,1⟩
 |none=>none)else none
def vR (x:jg)(t:au):Option jg:=match ov t 4 with
 |some (l,u)=>if x.st=2/\kT l=true then some ⟨{x.r with needs:=gh x.r.needs fun n=>{n with any:=n.any++[⟨l[1]!,u,if l[2]! =[45]then []else ai l[2]! 44,decide (l[3]! =dF)⟩]}},2⟩else none
 |none=>none
def oX (x:jg)(t:au):Option jg:=match ov t 1 with
 |some (_,u)=>if x.st=2 then some ⟨{x.r with needs:=gh x.r.needs fun n=>{n with when':=u}},3⟩else if x.st=5 then some ⟨{x.r with bars:=gh x.r.bars fun b=>{b with when':=u}},6⟩else none
 |none=>none
def eE (x:jg)(t:au):Option jg:=
 let l:=ai t 32
 if x.st=0 then Ay l
 else if l[0]! =ei then(if l.length=1/\x.st<5 then some ⟨{x.r with needs:=x.r.needs++[⟨[],[],[]⟩]},2⟩else none)
 else if l[0]! =gn then vR x t
 else if l[0]! =eF then oX x t
 else if l[0]! =cT then(if wS l 2=true/\(x.st=2\/x.st=3)then some ⟨{x.r with needs:=gh x.r.needs fun n=>{n with option:=l[1]!}},4⟩else none)
 else if l[0]! =fE then(match ov t 2 with
  |some (w,u)=>if x.st<=6 then some ⟨{x.r with bars:=x.r.bars++[⟨w[1]!,u,[]⟩]},5⟩else none
  |none=>none)
 else if l[0]! =b8 then(if 2<=l.length/\wS l l.length=true then some ⟨{x.r with feats:=x.r.feats++[⟨l[1]!,l.drop 2⟩]},7⟩else none)
 else none
def Yp (a b:Bool):jk (D.bool a).cells (D.bool b).cells=decide (a=b):=by cases a<;>cases b<;>rfl
theorem bS.xY (a b:bS):decide (a=b)=(((decide (a.name=b.name)&&decide (a.range=b.range))&&decide (a.bare=b.bare))&&decide (a.feats=b.feats)):=by
 obtain⟨a1,a2,a3,a4⟩:=a;obtain⟨b1,b2,b3,b4⟩:=b
 grind
theorem bp.xY (a b:bp):decide (a=b)=((decide (a.when'=b.when')&&decide (a.option=b.option))&&decide (a.any=b.any)):=by
 obtain⟨a1,a2,a3⟩:=a;obtain⟨b1,b2,b3⟩:=b
 grind
def bp.same3 {a b:bp}(e1:a.when'=b.when')(e2:a.option=b.option)(e3:a.any.length=b.any.length):decide (a=b)=cQ (fun i=>decide (a.any[i]! =b.any[i]!)) 0 a.any.length:=by
 grind [bp.xY,pX]
theorem Rec.xY (a b:Rec):decide (a=b)=((((decide (a.name=b.name)&&decide (a.v=b.v))&&decide (a.needs=b.needs))&&decide (a.bars=b.bars))&&decide (a.feats=b.feats)):=by
 obtain⟨a1,a2,a3,a4,a5⟩:=a;obtain⟨b1,b2,b3,b4,b5⟩:=b
 grind
def bZ.eq2 {a b:bZ}(h1:a.name=b.name)(h2:a.of=b.of):a=b:=by
 obtain⟨a1,a2⟩:=a;obtain⟨b1,b2⟩:=b
 grind
def Ap {f:Nat->Int}:∀{k i:Nat},tO f i k=0->∀j,i<=j->j<i+k->f j=0
 |0,i,_,j,h1,h2=>absurd h2 ae
 |k+1,i,h,j,h1,h2=>by
  simp only[tO]at h;by_cases hf:f i=0
  .rw[aw hf]at h;by_cases hj:j=i
   .rw[hj];exact hf
   .exact Ap h j ae ae
  .rw[ak hf]at h;exact absurd h hf
def I8 {f:Nat->Int}{n:Nat}(h:fJ f 0 n=0)(j:Nat)(hj:j<n):f j=0:=Ap h j ae ae
def Aq {f:Nat->Int}:∀{k i:Nat},(qh f i k).1=0->∀j,i<=j->j<i+k->f j=0
 |0,i,_,j,h1,h2=>absurd h2 ae
 |k+1,i,h,j,h1,h2=>by
  simp only[qh]at h;by_cases hf:f i=0
  .rw[aw hf]at h;by_cases hj:j=i
   .rw[hj];exact hf
   .exact Aq h j ae ae
  .rw[ak hf]at h;exact absurd h hf
def I7 {f:Nat->Int}{n:Nat}(h:(iw f 0 n).1=0)(j:Nat)(hj:j<n):f j=0:=Aq h j ae ae
def bS.fit (w:bS):Prop:=w.sm/\(w.feats.length<=6/\∀t∈w.feats,t.length<=12)
def bp.fit (n:bp):Prop:=(n.any.length<=3/\∀w∈n.any,w.fit)/\n.when'.length<=1048576/\n.option.length<=1048576
def bZ.fit (x:bZ):Prop:=x.sm/\x.of.length<=6
structure Rec.fit (r:Rec):Prop where
 nm:r.name.length<=1048576
 v:r.v.sm
 ns:r.needs.length<=8
 n:∀x∈r.needs,x.fit
 bs:r.bars.length<=8
 b:∀x∈r.bars,x.sm
 fs:r.feats.length<=8
 f:∀x∈r.feats,x.fit
theorem vx {α:Type} [Inhabited α]{l:List α}{x:α}(h:x∈l):∃i,i<l.length/\l[i]! =x:=by
 obtain⟨i,hi,e⟩:=List.mem_iff_getElem.1 h;exact⟨i,hi,by rw[<-e];simp[hi]⟩
def TM {r:Rec}{w:bS}{al:Bool}(h:jF r w al=0)(hs:w.sm):w.fit:=by
 refine⟨hs, ?_⟩
 grind [jF,jD,eC,vx,WS,cV]
def R0 {r:Rec}{n:bp}(h:iZ r n=0)(hs:n.sm):n.fit:=by
 unfold iZ at h;split at h
 .cases h
 split at h
 .cases h
 rename_i h1 h2;split at h
 .rename_i h3;exact absurd h h3
 rename_i h3;refine⟨⟨ae,fun w hw=>?_⟩,hs.2⟩;obtain⟨i,hi,rfl⟩:=vx hw;exact TM (I8 (Classical.not_not.1 h3) i hi) (hs.1 _ hw)
def CZ {r:Rec}(h:xG r/\fA r):r.fit:=by
 obtain⟨⟨_,⟨h1,h2⟩,hp⟩,⟨s1,s2⟩,s3,s4,s5⟩:=h;have h0:(lZ r).1=0/\iv r.feats=true:=by
  grind [eW]
 obtain⟨h3,h4⟩:=h0;simp only[iv,bB,aK,eC]at h4;refine⟨s1,s2,h1,fun x hx=>?_,h2,s4,h4.1,fun x hx=>⟨s5 x hx, ?_⟩⟩
 .obtain⟨i,hi,rfl⟩:=vx hx;exact R0 (I7 h3 i hi) (s3 _ hx)
 grind [vx,jJ,lV]
def lW (x:UInt8)(B:Nat):∀l:List au,(∀t∈l,t.length<=B)->(aS [x] l).length<=l.length*(B+1)
 |[],_=>by simp[aS]
 |[t],h=>by have:=h t (.head _);simp only[aS,aP,a8];omega
 |t::u::r,h=>by
  have h1:=h t (.head _);have h2:=lW x B (u::r) fun y hy=>h y (.tail _ hy)
  simp only[aS,bP,aP,a8,Nat.succ_mul]at h2⊢;omega
def BP {w:bS}(h:w.fit):(aS [44] w.feats).length<=6291462:=by
 have h1:=lW 44 1048576 w.feats h.1.2;have h2:=fk (1048576+1) h.2.1;omega
def Fz {w:bS}(h:w.fit):(aS [44] w.feats).length<=78:=by
 have h1:=lW 44 12 w.feats h.2.2;have h2:=fk (12+1) h.2.1;omega
def jG (w:bS):au:=cv (jc w)
def xn {w:bS}(h:w.fit):(jG w).length<=8400000:=by
 have h1:=BP h;have h2:=h.1.1;simp only[jG,cv,jc,aS,bP,aP,a8]
 grind [gn,dF,jb]
def nU {s:au}(h:s.length<=1048576):(ij s).length<=1048590:=by
 unfold ij;split
 .simp
 .simp only[cv,aS,eF,bP,aP,a8];omega
def Sm {s:au}(h:s.length<=1048576):(qV s).length<=1048590:=by
 unfold qV;split
 .simp
 .simp only[cv,aS,cT,bP,aP,a8];omega
def vj {α:Type}(q:α->au)(B:Nat){l:List α}(h:∀x∈l,(q x).length<=B)(i:Nat):(((l.take i).map q).flatten).length<=i*B:=by
 have h1:=ry q B (l.take i) fun x hx=>h x (kl hx)
 have h2:=fk B (List.length_take_le i l);omega
theorem sM {α:Type} [Inhabited α](q:α->au){l:List α}{i:Nat}(h:i<l.length):((l.take (i+1)).map q).flatten=((l.take i).map q).flatten++q l[i]! :=by
 rw[List.take_add_one,List.getElem?_eq_getElem h,List.map_append,List.flatten_append];simp[h]
def OX {n:bp}(h:n.fit):(pN n).length<=27400000:=by
 have h1:=ry jG 8400000 n.any fun w hw=>xn (h.1.2 w hw)
 have h2:=fk 8400000 h.1.1;have h3:=nU h.2.1;have h4:=Sm h.2.2;have h5:(cv [ei]).length=5:=rfl;unfold jG at h1
 grind [pN]
def QM {b:fq}(h:b.sm):(uR b).length<=3145800:=by
 have h1:=nU h.2.2;have h2:=h.1;have h3:=h.2.1;simp only[uR,cv,aS,fE,bP,aP,a8];omega
def CR {x:bZ}(h:x.fit):(qK x).length<=8400000:=by
 have h1:=lW 32 1048576 ([b8,x.name]++x.of) (by
  intro t ht;simp only[fB,fe,ca]at ht;rcases ht with rfl|rfl|ht
  .simp[b8]
  .exact h.1.1
  .exact h.1.2.2 _ ht)
 have h2:=h.2
 grind [b8,qK,cv]
def OA {r:Rec}(h1:r.name.length<=1048576)(h2:r.v.sm):(qL r).length<=3145800:=by
 have h3:=BM r.v h2;simp only[qL,cv,aS,dM,bP,aP,a8];omega
def ee (n:bp)(j:Nat):au:=cv [ei]++((n.any.take j).map jG).flatten
def Vk (n:bp):ee n 0=[110,101,101,100,10]:=rfl
def og {n:bp}{j:Nat}(h:j<n.any.length):ee n (j+1)=ee n j++jG n.any[j]! :=by grind [ee,sM,jG]
def wH {n:bp}{j:Nat}(h:n.any.length<=j):pN n=ee n j++ij n.when'++qV n.option:=by
 rw[ee,ed h];rfl
def Da {n:bp}(h:n.fit)(j:Nat)(hj:j<=3):(ee n j).length<=25200005:=by
 have h1:=vj jG 8400000 (fun w hw=>xn (h.1.2 w hw)) j;have h2:=fk 8400000 hj;have h5:(cv [ei]).length=5:=rfl
 grind [ee]
def kJ (r:Rec)(i:Nat):au:=qL r++((r.needs.take i).map pN).flatten
def BI (r:Rec)(i:Nat):au:=kJ r r.needs.length++((r.bars.take i).map uR).flatten
def DU (r:Rec)(i:Nat):au:=BI r r.bars.length++((r.feats.take i).map qK).flatten
def TB (r:Rec):kJ r 0=qL r:=by simp[kJ]
def TC (r:Rec):BI r 0=kJ r r.needs.length:=by simp[BI]
def TE (r:Rec):DU r 0=BI r r.bars.length:=by simp[DU]
def Fu (r:Rec):DU r r.feats.length=gr r:=by grind [DU,BI,kJ,gr]
def mR {r:Rec}{i:Nat}(h:i<r.needs.length):kJ r (i+1)=kJ r i++pN r.needs[i]! :=by grind [kJ,sM,pN]
def H6 {r:Rec}{i:Nat}(h:i<r.bars.length):BI r (i+1)=BI r i++uR r.bars[i]! :=by grind [BI,sM,uR]
def H7 {r:Rec}{i:Nat}(h:i<r.feats.length):DU r (i+1)=DU r i++qK r.feats[i]! :=by grind [DU,sM,qK]
def Fq {r:Rec}(h:r.fit)(i:Nat)(hi:i<=r.needs.length):(kJ r i).length<=222400000:=by
 have a0:=OA h.nm h.v;have a1:=vj pN 27400000 (fun x hx=>OX (h.n x hx)) i;have b1:=fk 27400000 (dm hi h.ns);simp only[kJ,bP];omega
def Fs {r:Rec}(h:r.fit)(i:Nat)(hi:i<=r.bars.length):(BI r i).length<=247600000:=by
 have a0:=Fq h r.needs.length (aL _);have a1:=vj uR 3145800 (fun x hx=>QM (h.b x hx)) i;have b1:=fk 3145800 (dm hi h.bs);simp only[BI,bP];omega
def L2 {r:Rec}(h:r.fit)(i:Nat)(hi:i<=r.feats.length):(DU r i).length<=314800000:=by
 have a0:=Fs h r.bars.length (aL _);have a1:=vj qK 8400000 (fun x hx=>CR (h.f x hx)) i;have b1:=fk 8400000 (dm hi h.fs);simp only[DU,bP];omega
theorem oN {r:Rec}(h:(cK r).1=0):xG r:=by
 unfold cK at h;split at h
 .cases h
 split at h
 .cases h
 split at h
 .cases h
 rename_i a b c;split at h
 .rename_i d;exact absurd h d
 rename_i d;exact⟨⟨by simpa using a,by simpa using b⟩,⟨ae,ae⟩,Ha (Classical.not_not.1 d)⟩
def mP (r:Rec):Int:=if(dt r).2≠0 then 0 else HX (dt r).1
def ea (l:List au):cn×Bool:=if l.length=3 then(⟨ef l[0]!,ef l[1]!,ef l[2]!,[],[]⟩,(fU l[0]! &&fU l[1]!)&&fU l[2]!)else(gm,false)
def Q0 {c:UInt8}(h:bn c.toNat=true):dg (c.toNat-48)=c:=by
 simp only[bn,bB,aK]at h;have h1:48<=c.toNat:=ae;have h2:c.toNat<=57:=ae;apply hX.1;simp only[dg];simp;omega
def xx (s:au)(h0:s≠[])(hd:∀c∈s,bn c.toNat=true)(hz:1<s.length->at8 s 0≠48):dI (dL s)=s:=by
 obtain⟨r,c,rfl⟩:∃r c,s=r++[c]:=⟨s.dropLast,s.getLast h0,(List.dropLast_concat_getLast h0).symm⟩
 have hc:=hd c aJ;have hc2:=hc;simp only[bn,bB,aK]at hc2;rw[AU];by_cases hr:r=[]
 .subst hr;have:dL ([]:au)=0:=rfl;rw[this,ml ae];simp[Q0 hc]
 .have hz0:at8 (r++[c]) 0≠48:=hz (by have:=List.length_pos_iff.2 hr;simp only[bP,List.length_singleton];omega);have e0:at8 (r++[c]) 0=at8 r 0:=by
   cases r with
   |nil=>exact absurd rfl hr
   |cons b q=>rfl
  have ih:=xx r hr (fun x hx=>hd x (by simp[hx])) (fun _=>by rw[<-e0];exact hz0);have hn:1<=dL r:=by
   cases r with
   |nil=>exact absurd rfl hr
   |cons b q=>
    grind [bn,at8,Dh]
  rw[nA ae,show(dL r*10+(c.toNat-48)) /10=dL r by omega,show(dL r*10+(c.toNat-48))%10=c.toNat-48 by omega,ih,Q0 hc]
termination_by s.length
decreasing_by all_goals simp_all
def v7 {t:au}(h:fU t=true):dI (ef t).toNat=t:=by
 have h2:=h;simp only[fU,bB,aK,eC,bd,dy,bc]at h2;obtain⟨⟨⟨⟨h3,_⟩,h4⟩,h5⟩,_⟩:=h2;rw[ef,aw h,Int.toNat_natCast];refine xx t (by rintro rfl;simp at h3) (fun c hc=>?_) (fun h=>?_)
 .obtain⟨i,hi,rfl⟩:=List.mem_iff_getElem.1 hc
  grind [at8]
 grind
def qx (s:au)(b:Int):s.take (aG s b).2.length=(aG s b).2:=by
 grind [aG,il]
theorem l8 (s:au)(b:Int):(s.drop (aG s b).2.length=[]/\(aG s b).1=[])\/∃x:UInt8,(x.toNat:Int)=b/\s.drop (aG s b).2.length=x::(aG s b).1:=by
 unfold aG il;split
 .rename_i k h;right;obtain⟨hk,hx,_⟩:=List.findIdx?_eq_some_iff_getElem.1 h;simp only[bY]at hk hx;refine⟨s[k],by simpa using hx, ?_⟩;simp only[er,bQ];rw[show min k s.length=k by omega,iW hk]
 .left;simp
def dD (s:au):cn:=⟨(ea (ai (aG (aG s 43).2 45).2 46)).1.major,(ea (ai (aG (aG s 43).2 45).2 46)).1.minor,(ea (ai (aG (aG s 43).2 45).2 46)).1.patch,(aG (aG s 43).2 45).1,(aG s 43).1⟩
def F8 {s:au}{b:Int}{a r:au}(h:(s.drop (aG s b).2.length=[]/\(aG s b).1=[])\/∃x:UInt8,(x.toNat:Int)=b/\s.drop (aG s b).2.length=x::(aG s b).1)(x:UInt8)(hx:(x.toNat:Int)=b):((s.drop (aG s b).2.length).length≠1->s.drop (aG s b).2.length=if(aG s b).1=[]then []else x::(aG s b).1)/\((s.drop (aG s b).2.length).length=1->(aG s b).1=[]):=by
 rcases h with⟨h1,h2⟩|⟨y,hy,h1⟩
 .rw[h1,h2];simp
 .have:y=x:=hX.1 ae
  grind
def TH (s:au):gf s=if(((ea (ai (aG (aG s 43).2 45).2 46)).2=true/\((aG s 43).2.drop (aG (aG s 43).2 45).2.length).length≠1)/\(s.drop (aG s 43).2.length).length≠1)/\eZ (dD s)=true then some (dD s)else none:=by
 have t1:=qx s 43;have d1:=F8 (a:=[]) (r:=[]) (l8 s 43) 43 rfl;have t2:=qx (aG s 43).2 45;have d2:=F8 (a:=[]) (r:=[]) (l8 (aG s 43).2 45) 45 rfl;have e1:=List.take_append_drop (aG s 43).2.length s;have e2:=List.take_append_drop (aG (aG s 43).2 45).2.length (aG s 43).2;rw[t1]at e1;rw[t2]at e2;unfold gf dD;dsimp only;generalize aG s 43=A at*
 generalize aG A.2 45=B at*
 have hj:=jl (b:=46) (x:=46) rfl B.2;generalize ai B.2 46=L at*
 unfold ea;by_cases hT:L.length=3/\fU L[0]! =true/\fU L[1]! =true/\fU L[2]! =true
 .rw[aw hT];obtain⟨h3,n0,n1,n2⟩:=hT;rw[aw h3];simp only[n0,n1,n2,Bool.and_self,cr];by_cases hv:eZ ⟨ef L[0]!,ef L[1]!,ef L[2]!,B.1,A.1⟩=true
  .simp only[hv,cr,ct,jW,aW,sv,v7 n0,v7 n1,v7 n2];have hB:L[0]! ++([46]:au)++L[1]! ++([46]:au)++L[2]! =B.2:=by
    rw[<-hj]
    match L,h3 with
    |[a,b,c],_=>simp[aS]
   rw[hB];by_cases c1:(s.drop A.2.length).length=1
   .have h1:=d1.2 c1;rw[ak,ak (fun h=>h.2 c1)];intro h;have h':=aj List.length h;have h2:=aj List.length e1;have h4:=aj List.length e2;simp only[h1,aW,bP,a8]at h' h2 h4;by_cases c2:(A.2.drop B.2.length).length=1
    .rw[aw (d2.2 c2)]at h';simp only[a8]at h';omega
    .rw[<-d2.1 c2]at h';omega
   .by_cases c2:(A.2.drop B.2.length).length=1
    .have h1:=d2.2 c2;rw[ak,ak (fun h=>h.1 c2)];intro h;have h':=aj List.length h;have h2:=aj List.length e1;have h4:=aj List.length e2;rw[<-d1.1 c1]at h';simp only[h1,aW,bP,a8]at h' h2 h4;omega
    .rw[<-d1.1 c1,<-d2.1 c2,e2,e1,aw rfl,aw ⟨c2,c1⟩]
  .rw[ak (fun h=>hv h.1),ak (fun h=>hv h.2)]
 .rw[ak hT,ak];rintro⟨⟨⟨h,_⟩,_⟩,_⟩;split at h
  .rename_i h3;simp only[bB]at h;exact hT ⟨h3,h.1.1,h.1.2,h.2⟩
  .cases h
def Kr {s:au}{b:Int}(h:s.drop (aG s b).2.length≠[]):1<=(s.drop (aG s b).2.length).length/\(s.drop (aG s b).2.length).drop 1=(aG s b).1:=by
 grind [l8]
def Kq {s:au}{b:Int}(h:s.drop (aG s b).2.length=[]):(aG s b).1=[]:=by
 grind [l8]
def Ku (l:List au):(ea l).1=⟨(ea l).1.major,(ea l).1.minor,(ea l).1.patch,[],[]⟩:=by
 unfold ea;split<;>rfl
def wz (l:List au)(x:au)(i:Nat):Int:=match(l.drop i).findIdx? (fun t=>decide (x=t))with
 |some k=>((i+k:Nat):Int)
 |none=>-1
def U5 {l:List au}{x:au}{i:Nat}(h:i<l.length)(he:x=l[i]!):wz l x i=(i:Nat):=by
 unfold wz;rw[iW h,List.findIdx?_cons]
 grind
def U6 {l:List au}{x:au}{i:Nat}(h:i<l.length)(he:¬x=l[i]!):wz l x i=wz l x (i+1):=by
 unfold wz;have:¬x=l[i]:=by simpa[h]using he
 rw[iW h,List.findIdx?_cons]
 grind
def Ry {l:List au}{x:au}{i:Nat}(h:l.length<=i):wz l x i=-1:=by
 unfold wz;rw[lC h];rfl
def Rz (l:List au)(x:au):decide (0<=wz l x 0)=decide (x∈l):=by
 grind [wz]
structure Ld where
 ls:List au
 at':Nat
 deriving Inhabited,DecidableEq
def Ld.D (r:Ld):D:=.agg [.sl 1 (r.ls.map D.str),.int .i64 (r.at':Nat)]
def Ld.rest (r:Ld):List au:=r.ls.drop r.at'
def Ld.sm (r:Ld):Prop:=(r.at'<=r.ls.length/\r.ls.length<=1048577)/\∀t∈r.ls,t.length<=1048576
def Ld.to (r:Ld)(q:List au):Ld:=⟨r.ls,r.ls.length-q.length⟩
def mg (n:Int)(t:au):List au:=if n<0 then ai t 32 else qQ n.toNat (ai t 32)
def D0 (n:Nat)(op:Bool)(t:au):mg (if op=true then(n:Int)else-1) t=ec n op t:=by
 grind [mg,ec]
def Cj:Option (List au×List au)->D
 |none=>.bq
 |some (l,_)=>.sl 1 (l.map D.str)
def Ld.after (r:Ld)(o:Option (List au×List au)):Ld:=match o with
 |none=>r
 |some _=>⟨r.ls,r.at'+1⟩
def Ld.Tk {r:Ld}(h:r.ls.length<=r.at'):r.rest=[]:=lC h
def Ld.sX {r:Ld}(h:r.at'<r.ls.length):r.rest=r.ls[r.at']! ::r.ls.drop (r.at'+1):=by
 unfold Ld.rest;rw[iW h];simp[h]
def P7 (n:Nat)(op:Bool)(t:au)(h:op=true->1<=n):1<=(ec n op t).length:=by
 grind [ai,ep,ec,qQ]
def GY {w:au}{n:Nat}{op:Bool}{t:au}(h:((¬(ec n op t)[0]! =w\/((ec n op t).length:Int)<1)\/((0:Int)<n/\¬((ec n op t).length:Int)=n))\/[]∈ec n op t)(h1:1<=(ec n op t).length):dU w n op t=none:=by
 grind [dU]
def Df {w:au}{n:Nat}{op:Bool}{t:au}(h:(((ec n op t)[0]! =w/\¬((ec n op t).length:Int)<1)/\(¬(0:Int)<n\/((ec n op t).length:Int)=n))/\¬[]∈ec n op t):dU w n op t=some (ec n op t):=by
 grind [dU]
def mf (x:jg):List au->jg×List au
 |[]=>(x,[])
 |t::r=>match eE x t with
  |some y=>mf y r
  |none=>(x,t::r)
theorem iP {x y:jg}{t:au}{r:List au}(h:eE x t=some y):mf x (t::r)=mf y r:=by simp only[mf,h]
theorem sY {x:jg}{t:au}{r:List au}(h:eE x t=none):mf x (t::r)=(x,t::r):=by simp only[mf,h]
def uw (t:au)(b:Int):1<=(ai t b).length:=ep b t []
theorem s7 {α:Type} [Inhabited α]{l:List α}{n:Nat}(h:1<=n):(l.take n)[0]! =l[0]! :=by
 grind
theorem RH (b:au)(hb:b≠[]):∀l:List au,2<=l.length->aS b l≠[]
 |[],h=>by simp at h
 |[a],h=>by simp at h
 |a::c::r,_=>by
  rw[ga b a (c::r) aJ];intro h;have:=List.append_eq_nil_iff.1 h;have:=List.append_eq_nil_iff.1 this.1;exact hb this.2
theorem drop_one {α:Type} [Inhabited α]{l:List α}{n:Nat}(h:l.length=n+1):l.drop n=[l[n]!]/\l=l.take n++[l[n]!]:=by
 have h1:l.drop n=[l[n]!]:=by
  rw[iW ae,lC ae];simp[show n<l.length by omega]
 exact⟨h1,by rw[<-h1,List.take_append_drop]⟩
theorem wO {w:au}{n:Nat}(h1:1<=n)(t:au):
  dU w (n+1) true t=(match ov t n with
   |some (l,u)=>if l[0]! =w then some (l++[u])else none
   |none=>none):=by
 unfold dU ov ec
 grind [ai,qQ,drop_one,aS,s7,RH]
theorem xc {t:au}{n:Nat}{l:List au}{u:au}(h:ov t n=some (l,u)):l=(ai t 32).take n/\u=aS [32] ((ai t 32).drop n)/\n<(ai t 32).length/\[]∉l/\u≠[]:=by
 grind [ov]
def sR {w:au}{n:Nat}{t:au}{q:List au}(h1:1<=n)(h:dU w (n+1) true t=some q):∃l u,ov t n=some (l,u)/\(ai t 32)[0]! =w/\q=l++[u]/\l.length=n:=by
 grind [wO,ov,xc,s7]
theorem Vn {w:au}{n:Nat}{t:au}(h1:1<=n)(h:dU w (n+1) true t=none)(hw:(ai t 32)[0]! =w):ov t n=none:=by
 grind [wO,ov,xc,s7]
theorem yJ {α:Type} [Inhabited α]{l r:List α}{i:Nat}(h:i<l.length):(l++r)[i]! =l[i]! :=by
 grind
theorem Ax {α:Type} [Inhabited α]{l:List α}{u:α}{i:Nat}(h:l.length=i):(l++[u])[i]! =u:=by
 subst h;simp
theorem De {w:au}{n:Nat}{t:au}:dU w n false t=if(ai t 32)[0]! =w/\(n=0\/(ai t 32).length=n)/\[]∉ai t 32 then some (ai t 32)else none:=by
 grind [dU,ec]
theorem rQ {l:List au}{n:Nat}:wS l n=true↔l.length=n/\[]∉l:=by
 unfold wS;simp
def B5 (t:au):Option (List au):=match dU gn 5 true t with
 |some l=>if kT l=true then some l else none
 |none=>none
def vg (t:au):Option (List au):=match dU b8 0 false t with
 |some l=>if 2<=l.length then some l else none
 |none=>none
def No (p:au->Option (List au))(ls:List au):Prop:=∀t r,ls=t::r->p t=none
theorem eY {α:Type}(l:List α)(a:α)(f:α->α):gh (l++[a]) f=l++[f a]:=by
 unfold gh;simp
def BO:ei≠gn/\ei≠eF/\ei≠cT/\ei≠fE/\ei≠b8/\gn≠eF/\gn≠cT/\gn≠fE/\gn≠b8/\eF≠cT/\eF≠fE/\eF≠b8/\cT≠fE/\cT≠b8/\fE≠b8:=aF
def PX {x:jg}{t:au}{q:List au}(h0:x.st≠0)(h5:x.st<5)(h:dU ei 1 false t=some q):eE x t=some ⟨{x.r with needs:=x.r.needs++[⟨[],[],[]⟩]},2⟩:=by
 grind [De,ai,eE]
theorem Tr {x:jg}{t:au}{q:List au}(h2:x.st=2)(h:B5 t=some q):eE x t=some ⟨{x.r with needs:=gh x.r.needs fun n=>{n with any:=n.any++[gM q]}},2⟩:=by
 unfold B5 at h;cases hn:dU gn 5 true t with
 |none=>rw[hn]at h;cases h
 |some l=>
  rw[hn]at h;simp only at h;split at h
  .rename_i ho;obtain rfl:=bM h;obtain⟨l0,u,e1,e2,rfl,e4⟩:=sR ae hn;have ho':kT l0=true:=by
    unfold kT at ho⊢;rw[yJ ae]at ho;exact ho
   have hw:=BO
   grind [eE,vR,gM,yJ,Ax]
  .cases h
def Km {x:jg}{t:au}{q:List au}(h2:x.st=2)(h:dU eF 2 true t=some q):eE x t=some ⟨{x.r with needs:=gh x.r.needs fun n=>{n with when':=q[1]!}},3⟩:=by
 obtain⟨l0,u,e1,e2,rfl,e4⟩:=sR (n:=1) ae h;have hw:=BO
 grind [eE,oX,Ax]
def Kn {x:jg}{t:au}{q:List au}(h2:x.st=5)(h:dU eF 2 true t=some q):eE x t=some ⟨{x.r with bars:=gh x.r.bars fun n=>{n with when':=q[1]!}},6⟩:=by
 obtain⟨l0,u,e1,e2,rfl,e4⟩:=sR (n:=1) ae h;have hw:=BO
 grind [eE,oX,Ax]
def HW {x:jg}{t:au}{q:List au}(h2:x.st=2\/x.st=3)(h:dU cT 2 false t=some q):eE x t=some ⟨{x.r with needs:=gh x.r.needs fun n=>{n with option:=q[1]!}},4⟩:=by
 rw[De]at h;split at h
 .rename_i hc;obtain⟨e1,e2,e3⟩:=hc;obtain rfl:=bM h;have e2:(ai t 32).length=2:=by rcases e2 with h|h<;>omega
  have hw:=BO;have h0:¬x.st=0:=ae;unfold eE;simp only[h0,e1,Ne.symm hw.2.2.1,Ne.symm hw.2.2.2.2.2.2.1,Ne.symm hw.2.2.2.2.2.2.2.2.2.1,aX,aW,rQ.2 ⟨e2,e3⟩,h2,cN]
 .cases h
def Ts {x:jg}{t:au}{q:List au}(h0:x.st≠0)(h6:x.st<=6)(h:dU fE 3 true t=some q):eE x t=some ⟨{x.r with bars:=x.r.bars++[⟨q[1]!,q[2]!,[]⟩]},5⟩:=by
 obtain⟨l0,u,e1,e2,rfl,e4⟩:=sR (n:=2) ae h;have hw:=BO;unfold eE
 grind
def PW {x:jg}{t:au}{q:List au}(h0:x.st≠0)(h:vg t=some q):eE x t=some ⟨{x.r with feats:=x.r.feats++[⟨q[1]!,q.drop 2⟩]},7⟩:=by
 unfold vg at h;rw[De]at h;split at h
 .rename_i l hl;split at hl
  .rename_i hc;obtain rfl:=bM hl;split at h
   .rename_i h2;obtain rfl:=bM h;obtain⟨e1,_,e3⟩:=hc;have hw:=BO;unfold eE;simp only[h0,e1,Ne.symm hw.2.2.2.2.1,Ne.symm hw.2.2.2.2.2.2.2.2.1,Ne.symm hw.2.2.2.2.2.2.2.2.2.2.2.1,Ne.symm hw.2.2.2.2.2.2.2.2.2.2.2.2.2.1,Ne.symm hw.2.2.2.2.2.2.2.2.2.2.2.2.2.2,aX,aW,h2,rQ.2 ⟨rfl,e3⟩,cN]
   .cases h
  .cases hl
 .cases h
def VT {x:jg}{t:au}(h0:x.st≠0)(h1:x.st<5->dU ei 1 false t=none)(h2:x.st=2->B5 t=none)(h3:x.st=2\/x.st=5->dU eF 2 true t=none)
  (h4:x.st=2\/x.st=3->dU cT 2 false t=none) (h5:x.st<=6->dU fE 3 true t=none) (h6:vg t=none) (hne:(ai t 32).length=1->(ai t 32)[0]! =ei->[]∉ai t 32):eE x t=none:=by
 unfold eE;simp only[h0,aX];split
 .rename_i e1;rw[ak];rintro⟨e2,e3⟩;have:=h1 e3;rw[De,aw ⟨e1,.inr e2,hne e2 e1⟩]at this;cases this
 .split
  .rename_i e1;unfold vR;cases hr:ov t 4 with
   |none=>rfl
   |some p=>
    obtain⟨l,u⟩:=p;simp only;rw[ak];rintro⟨e2,e3⟩;have:=h2 e2;unfold B5 at this;rw[wO (n:=4) ae,hr]at this;obtain⟨q1,_,q3,_⟩:=xc hr;have hl4:l.length=4:=by rw[q1,er];omega
    simp only at this;rw[aw (by rw[q1,s7 ae];exact e1)]at this;simp only at this;have hh:kT (l++[u])=true:=by unfold kT at e3⊢;rw[yJ ae];exact e3
    rw[aw hh]at this;cases this
  grind [oX,ov,Vn,rQ,De,vg]
def l4 {w:au}{n:Nat}{op:Bool}{ls:List au}(h:ch w n op ls=none):No (dU w n op) ls:=by
 rintro t r rfl
 grind [ch]
theorem dX {w:au}{n:Nat}{op:Bool}{ls l r:List au}(h:ch w n op ls=some (l,r)):∃t,ls=t::r/\dU w n op t=some l:=by
 match ls,h with
 |[],h=>cases h
 |t::q,h=>
  grind [ch]
def Bx (R:Rec)(N:List bp):∀(ls:List au) (A:List bS),mf ⟨{R with needs:=N++[⟨A,[],[]⟩]},2⟩ ls=mf ⟨{R with needs:=N++[⟨A++(cE ls).1,[],[]⟩]},2⟩ (cE ls).2/\No B5 (cE ls).2
 |[],A=>⟨by simp[cE],fun t r h=>by simp[cE]at h⟩
 |t::r,A=>by
  have key:∀{l},dU gn 5 true t=some l->kT l=true->B5 t=some l:=fun h1 h2=>by simp only[B5,h1,h2,aW]
  cases hn:dU gn 5 true t with
  |none=>
   have e:cE (t::r)=([],t::r):=by simp only[cE,hn]
   rw[e];refine⟨aJ,fun t' r' h=>?_⟩;simp only[oD]at h;rw[<-h.1];simp only[B5,hn]
  |some l=>
   by_cases ho:kT l=true
   .have e:cE (t::r)=(gM l::(cE r).1,(cE r).2):=by simp only[cE,hn,ho,aW]
    rw[e];obtain⟨i1,i2⟩:=Bx R N r (A++[gM l])
    grind [iP,Tr,eY]
   .have e:cE (t::r)=([],t::r):=by simp only[cE,hn,ho,gy,aX]
    rw[e];refine⟨aJ,fun t' r' h=>?_⟩;simp only[oD]at h;rw[<-h.1];simp only[B5,hn,ho,gy,aX]
def Stop (s:Nat)(ls:List au):Prop:=(s=2->No B5 ls/\No (dU eF 2 true) ls)/\(s=2\/s=3->No (dU cT 2 false) ls)/\(s=5->No (dU eF 2 true) ls)
def To (R:Rec)(N:List bp)(ls:List au):∃s,(s=2\/s=3\/s=4)/\mf ⟨{R with needs:=N++[⟨[],[],[]⟩]},2⟩ ls=mf ⟨{R with needs:=N++[(eQ ls).1]},s⟩ (eQ ls).2/\Stop s (eQ ls).2:=by
 obtain⟨a1,a2⟩:=Bx R N ls [];rw[a1];unfold eQ;generalize cE ls=p at a2⊢;obtain⟨W,l1⟩:=p;simp only[fe]at a2⊢;cases hw:ch eF 2 true l1 with
 |none=>
  have ew:cy l1=([],l1):=by simp only[cy,hw]
  rw[ew];simp only;cases ho:ch cT 2 false l1 with
  |none=>
   have eo:oo l1=([],l1):=by simp only[oo,ho]
   rw[eo];exact⟨2,.inl rfl,rfl,fun _=>⟨a2,l4 hw⟩,fun _=>l4 ho,fun h=>ae⟩
  |some q=>
   obtain⟨l,r⟩:=q;have eo:oo l1=(l[1]!,r):=by simp only[oo,ho]
   rw[eo];obtain⟨t,rfl,ht⟩:=dX ho;refine⟨4,.inr (.inr rfl), ?_,fun h=>ae,fun h=>ae,fun h=>ae⟩;rw[iP (HW (.inl rfl) ht),eY]
 |some q=>
  obtain⟨l,r⟩:=q;have ew:cy l1=(l[1]!,r):=by simp only[cy,hw]
  rw[ew];simp only;obtain⟨t,rfl,ht⟩:=dX hw;rw[iP (Km rfl ht),eY];simp only;cases ho:ch cT 2 false r with
  |none=>
   have eo:oo r=([],r):=by simp only[oo,ho]
   rw[eo];exact⟨3,.inr (.inl rfl),rfl,fun h=>ae,fun _=>l4 ho,fun h=>ae⟩
  |some q=>
   obtain⟨l',r'⟩:=q;have eo:oo r=(l'[1]!,r'):=by simp only[oo,ho]
   rw[eo];obtain⟨t',rfl,ht'⟩:=dX ho;refine⟨4,.inr (.inr rfl), ?_,fun h=>ae,fun h=>ae,fun h=>ae⟩;rw[iP (HW (.inr rfl) ht'),eY]
def PH (R:Rec):∀(f:Nat) (ls:List au) (N:List bp) (s:Nat),ls.length<=f->1<=s->s<5->Stop s ls->
  ∃s',1<=s'/\s'<5/\mf ⟨{R with needs:=N},s⟩ ls=mf ⟨{R with needs:=N++(eD ls).1},s'⟩ (eD ls).2/\Stop s' (eD ls).2/\No (dU ei 1 false) (eD ls).2:=by
 intro f;induction f with
 |zero=>
  intro ls N s hl h1 h5 hs;have:ls=[]:=qH.1 ae;subst this;rw[oQ (by rfl)];exact⟨s,h1,h5,aJ,hs,fun t r h=>by cases h⟩
 |succ f ih=>
  intro ls N s hl h1 h5 hs;cases hn:ch ei 1 false ls with
  |none=>
   rw[oQ hn];exact⟨s,h1,h5,aJ,hs,l4 hn⟩
  |some q=>
   obtain⟨l,r⟩:=q;rw[rL hn];have hlen:=jB hn;obtain⟨t,rfl,ht⟩:=dX hn;rw[iP (PX (by simp only;omega) (by simpa using h5) ht)];obtain⟨s1,b1,b2,b3⟩:=To R N r;simp only;rw[b2];have:=wJ r;obtain⟨s2,c1,c2,c3,c4,c5⟩:=ih (eQ r).2 (N++[(eQ r).1]) s1 (by simp only[aP]at hl;omega) ae ae b3;exact⟨s2,c1,c2,by rw[c3];simp,c4,c5⟩
def Tm (R:Rec):∀(f:Nat) (ls:List au) (B:List fq) (s:Nat),ls.length<=f->1<=s->s<=6->Stop s ls->(s<5->No (dU ei 1 false) ls)->
  ∃s',1<=s'/\s'<=6/\mf ⟨{R with bars:=B},s⟩ ls=mf ⟨{R with bars:=B++(iE ls).1},s'⟩ (iE ls).2/\Stop s' (iE ls).2/\(s'<5->No (dU ei 1 false) (iE ls).2)/\No (dU fE 3 true) (iE ls).2:=by
 intro f;induction f with
 |zero=>
  intro ls B s hl h1 h5 hs hnd;have:ls=[]:=qH.1 ae;subst this;rw[qb (by rfl)];exact⟨s,h1,h5,aJ,hs,fun _ t r h=>by(cases h),fun t r h=>by cases h⟩
 |succ f ih=>
  intro ls B s hl h1 h5 hs hnd;cases hn:ch fE 3 true ls with
  |none=>
   rw[qb hn];exact⟨s,h1,h5,aJ,hs,hnd,l4 hn⟩
  |some q=>
   obtain⟨l,r⟩:=q;rw[tA hn];have hlen:=jB hn;obtain⟨t,rfl,ht⟩:=dX hn;rw[iP (Ts (by simp only;omega) (by simpa using h5) ht)];have hwl:=s9 r;simp only[aP]at hl;cases hw:ch eF 2 true r with
   |none=>
    have ew:cy r=([],r):=by simp only[cy,hw]
    rw[ew]at hwl⊢;simp only;obtain⟨s2,c1,c2,c3,c4,c5,c6⟩:=ih r (B++[⟨l[1]!,l[2]!,[]⟩]) 5 ae ae ae ⟨fun h=>ae,fun h=>ae,fun _=>l4 hw⟩ (fun h=>ae);exact⟨s2,c1,c2,by rw[c3];simp,c4,c5,c6⟩
   |some q=>
    obtain⟨l',r'⟩:=q;have ew:cy r=(l'[1]!,r'):=by simp only[cy,hw]
    rw[ew]at hwl⊢;obtain⟨t',rfl,ht'⟩:=dX hw;rw[iP (Kn rfl ht'),eY];simp only at hwl⊢;obtain⟨s2,c1,c2,c3,c4,c5,c6⟩:=ih r' (B++[⟨l[1]!,l[2]!,l'[1]!⟩]) 6 (by simp only[aP]at hl;omega) ae ae ⟨fun h=>ae,fun h=>ae,fun h=>ae⟩ (fun h=>ae);exact⟨s2,c1,c2,by rw[c3];simp,c4,c5,c6⟩
def Dx (R:Rec):∀(ls:List au) (F:List bZ) (s:Nat),1<=s->
  ∃s',(s'=7\/(s'=s/\(dA ls).2=ls))/\mf ⟨{R with feats:=F},s⟩ ls=mf ⟨{R with feats:=F++(dA ls).1},s'⟩ (dA ls).2/\No vg (dA ls).2
 |[],F,s,h=>⟨s,.inr ⟨rfl,rfl⟩,by simp[dA],fun t r h=>by simp[dA]at h⟩
 |t::r,F,s,h=>by
  cases hn:dU b8 0 false t with
  |none=>
   have e:dA (t::r)=([],t::r):=by simp only[dA,hn]
   rw[e];refine⟨s,.inr ⟨rfl,rfl⟩,aJ,fun t' r' h=>?_⟩;simp only[oD]at h;rw[<-h.1];simp only[vg,hn]
  |some l=>
   by_cases ho:2<=l.length
   .have e:dA (t::r)=(⟨l[1]!,l.drop 2⟩::(dA r).1,(dA r).2):=by simp only[dA,hn,ho,aW]
    rw[e];have hf:vg t=some l:=by simp only[vg,hn,ho,aW]
    rw[iP (PW (by simp only;omega) hf)];obtain⟨s',i1,i2,i3⟩:=Dx R r (F++[⟨l[1]!,l.drop 2⟩]) 7 ae
    grind
   .have e:dA (t::r)=([],t::r):=by simp only[dA,hn,ho,aX]
    rw[e];refine⟨s,.inr ⟨rfl,rfl⟩,aJ,fun t' r' h=>?_⟩;simp only[oD]at h;rw[<-h.1];simp only[vg,hn,ho,aX]
def Vm {t:au}(h1:(ai t 32).length=1)(h2:(ai t 32)[0]! =ei):[]∉ai t 32:=by
 obtain⟨a,ha⟩:=List.length_eq_one_iff.1 h1;rw[ha]at h2⊢;simp only[List.getElem!_cons_zero]at h2;subst h2;decide
def Tn (nm:au)(v:cn)(ls:List au):∃s,1<=s/\mf ⟨⟨nm,v,[],[],[]⟩,1⟩ ls=(⟨(pz nm v ls).1,s⟩,(pz nm v ls).2):=by
 obtain⟨s1,a1,a2,a3,a4,a5⟩:=PH ⟨nm,v,[],[],[]⟩ ls.length ls [] 1 (aL _) ae ae ⟨fun h=>ae,fun h=>ae,fun h=>ae⟩;obtain⟨s2,b1,b2,b3,b4,b5,b6⟩:=Tm ⟨nm,v,(eD ls).1,[],[]⟩ (eD ls).2.length (eD ls).2 [] s1 (aL _) a1 ae a4 (fun _=>a5);obtain⟨s3,c1,c2,c3⟩:=Dx ⟨nm,v,(eD ls).1,(iE (eD ls).2).1,[]⟩ (iE (eD ls).2).2 [] s2 b1;simp only[fe]at a3 b3 c2;have hs3:1<=s3:=by rcases c1 with h|h<;>omega
 refine⟨s3,hs3, ?_⟩;rw[a3,b3,c2];unfold pz;generalize hR:(⟨nm,v,(eD ls).1,(iE (eD ls).2).1,(dA (iE (eD ls).2).2).1⟩:Rec)=R
 match hq:(dA (iE (eD ls).2).2).2 with
 |[]=>rfl
 |t::r=>
  refine sY (VT (by simp only;omega) ?_ ?_ ?_ ?_ ?_ (c3 t r hq) Vm);all_goals
   intro h;simp only at h;rcases c1 with h7|⟨rfl,e⟩
   .omega
   rw[e]at hq
  .exact b5 h t r hq
  .exact(b4.1 h).1 t r hq
  .rcases h with h|h
   .exact(b4.1 h).2 t r hq
   .exact b4.2.2 h t r hq
  .exact b4.2.1 h t r hq
  .exact b6 t r hq
def head_eq {t:au}:Ay (ai t 32)=(match dU dM 3 false t with
  |some l=>(match gf l[2]! with
   |some v=>some ⟨⟨l[1]!,v,[],[],[]⟩,1⟩
   |none=>none)
  |none=>none):=by
 rw[De];unfold Ay;generalize ai t 32=l;by_cases h1:l.length=3/\l[0]! =dM
 .obtain⟨a,b,c,rfl⟩:∃a b c,l=[a,b,c]:=by
   match l,h1.1 with
   |[a,b,c],_=>exact⟨a,b,c,rfl⟩
  have h2:=h1.2;simp only[List.getElem!_cons_zero]at h2;subst h2;by_cases hb:b=[]
  .subst hb;rw[ak aJ,ak aJ]
  .rw[aw ⟨h1,by simpa using hb⟩];by_cases hc:c=[]
   .subst hc;rw[ak aJ];rfl
   .have hm:[]∉[dM,b,c]:=by
     simp only[ca,eI,or_false,not_or];exact⟨aF,fun h=>hb h.symm,fun h=>hc h.symm⟩
    rw[aw ⟨h1.2,.inr rfl,hm⟩];all_goals(cases hq:gf [dM,b,c][2]! <;>simp only[hq])
 .rw[ak (fun h=>h1 h.1),ak];rintro⟨a,b,_⟩;exact h1 ⟨by rcases b with b|b<;>omega,a⟩
def vE:jg:=⟨gR,0⟩
def Zn (t:au):eE vE t=Ay (ai t 32):=by unfold eE vE;simp
theorem Fh (ls:List au):match oH ls with
  |some (r,rest)=>∃s,1<=s/\mf vE ls=(⟨r,s⟩,rest)
  |none=>mf vE ls=(vE,ls):=by
 match ls with
 |[]=>rfl
 |t::q=>
  have hs:=Zn t;rw[head_eq]at hs;cases hn:dU dM 3 false t with
  |none=>
   grind [oH,ch,sY]
  |some l=>
   rw[hn]at hs;simp only[oH,ch,hn];cases hv:gf l[2]! with
   |none=>
    grind [sY]
   |some v=>
    simp only[hv]at hs;obtain⟨s,h1,h2⟩:=Tn l[1]! v q
    grind [iP]
def tl (m:List (Nat×bW))(l:Nat)(t:List UInt8):Prop:=(∃u,look m l=some (.bld none 0 u)/\t=[])\/(∃l2 u,look m l=some (.bld (some l2) t.length u)/\look m l2=some (.row t))
@[go_sem] def gw (m:List (Nat×bW))(l:Nat):List (Nat×bW):=match look m l with
 |some (.bld (some l2) _ _)=>cH m l2
 |_=>m
@[go_sem] def ri (m:List (Nat×bW))(l L:Nat)(t:List UInt8):List (Nat×bW):=(L,.row t)::dG (gw m l) l (.bld (some L) t.length true)
def TrW (aoF:D)(s:List UInt8)(ds:List D)(st:St)(K:D->St->Prop):Prop:=∃l t,ds=[.ptr l 2 0 0,aoF]/\tl st.m l t/\l<st.nx/\s≠[]/\t.length+s.length<=1099511627776/\K .any ⟨st.nx+1,ri st.m l st.nx (t++s)⟩
def trWS (ds:List D)(st:St)(K:D->St->Prop):Prop:=∃s,TrW (.str s) s ds st K
def trWB (ds:List D)(st:St)(K:D->St->Prop):Prop:=∃c,TrW (.int .u8 c.toNat) [c] ds st K
def trBS (ds:List D)(st:St)(K:D->St->Prop):Prop:=∃l t,ds=[.ptr l 2 0 0]/\tl st.m l t/\t≠[]/\K (.str t) ⟨st.nx,cH (gw st.m l) l⟩
def Uc (Y:Ctx):Prop:=∀(ds:List D) (st:St) (K:D->St->Prop),trWS ds st K->Y.tr 489 ds st K
def Xz (Y:Ctx):Prop:=∀(ds:List D) (st:St) (K:D->St->Prop),trWB ds st K->Y.tr 664 ds st K
def T5 (Y:Ctx):Prop:=∀(ds:List D) (st:St) (K:D->St->Prop),trBS ds st K->Y.tr 452 ds st K
def OD (b a:au)(l:List au)(h:a≠[]):aS b (a::l)≠[]:=by
 match l with
 |[]=>exact h
 |c::r=>
  rw[ga b a (c::r) aJ];intro e;have:=List.append_eq_nil_iff.1 e;exact h (List.append_eq_nil_iff.1 this.1).1
def D7 (ws:List au)(t:au):Prop:=(aS [32] ws≠[]/\ws.length<=1048600)/\(∀w∈ws,w.length<=2097200)/\t.length+(aS [32] ws).length+1<=1099511627776
def D7.mk {a:au}{l:List au}{t:au}(h1:a≠[])(h2:l.length<=99)(h3:∀w∈a::l,w.length<=2097200)(h4:t.length<=1000000000):D7 (a::l) t:=by
 have h5:=lW 32 2097200 (a::l) h3;have h6:(a::l).length<=100:=by simp only[aP];omega
 have h7:=fk (2097200+1) h6;exact⟨⟨OD _ _ _ h1,ae⟩,h3,ae⟩
def Xf (Y:Ctx):Prop:=∀(ws:List au) (t:au) (l lw nx:Nat) (m:List (Nat×bW)) (K:D->St->Prop),tl m l t->look m lw=some (.buf 1 (ws.map D.str))->l<nx->lw<nx->D7 ws t->
 K (.tup []) ⟨nx+1,ri (cH m lw) l nx (t++cv ws)⟩->Y.tr 450 [.ptr l 2 0 0,.own lw 1 0 ws.length] ⟨nx,m⟩ K
def wF {m:List (Nat×bW)}{l L:Nat}{t:List UInt8}(h:l≠L):look (ri m l L t) l=some (.bld (some L) t.length true)/\look (ri m l L t) L=some (.row t):=by
 constructor
 .simp only[ri,look,ak (fun e=>h (Eq.symm e))]
  haveI:dR:={gd:=fun _=>True,le:=fun _ _ _ _ _=>trivial}
  rw[cJ,aw rfl]
 .simp only[ri,look,aw]
def Us {m:List (Nat×bW)}{l L:Nat}{t:List UInt8}(h:l≠L):tl (ri m l L t) l t:=.inr ⟨L,true,wF h⟩
end Go.Abs
section
namespace Go.Abs
variable {Y:Ctx}(hm:(Y.at 0).b7)
def ah {p:Prop}(h:p:=by exact rfl):p:=h
def lF {p:Prop}(h:p:=by repeat(first|exact dp.nil|refine dp.un ?_|refine dp.eq aQ ?_)):p:=h
def eK {p:Prop}(h:p:=by first|exact rfl|exact br (fun _=>rfl) _):p:=h
def eh {p:Prop}(h:p:=by repeat(first|exact dp.nil|refine dp.un ?_|refine dp.eq aQ ?_|refine dp.nl aQ aQ ?_)):p:=h
def eg {p:Prop}(h:p:=by repeat' first|exact trivial|exact rfl|refine And.intro ?_ ?_):p:=h
def rW {p:Prop}(h:p:=by repeat' first|exact trivial|exact rfl|exact aL _|refine And.intro ?_ ?_):p:=h
def pT {p:Prop}(h:p:=by repeat(first|exact bo.nil|refine bo.fW aQ aQ (by first|exact rfl|exact br (fun _=>rfl) _) ?_|refine bo.FJ aQ aQ aQ ?_|refine bo.idi aQ aQ aQ aQ ?_)):p:=h
def qqq8 {p:Prop}(h:p:=by simp only[kS,iD,iN,lG,mU,cH,Nat.reduceEqDiff,aW,aX,cN,cr,ct,cS,cW,bQ,bN,aL,bY,aN,reduceCtorEq,aP,a8,Nat.reduceAdd,Nat.reduceLeDiff];exact rfl):p:=h
def b0 {p:Prop} [Decidable p]:(decide p=true)=p:=aK
def b1 {p:Prop} [Decidable p]:decide p=false↔¬p:=bc
def b2 (b:Bool):((!b)=true)=(b=false):=bd b
def b3 (b:Bool):((!b)=false)=(b=true):=bK b
def b4 (b:Bool):(¬(b=false))=(b=true):=Bool.not_eq_false b
def b5 (a b:Bool):((a ||b)=true)=(a=true\/b=true):=cM a b
def b6 {a b:Bool}:(a ||b)=false↔a=false/\b=false:=dd
end Go.Abs
namespace Go.Abs
variable {Y:Ctx}(hm:(Y.at 0).b7)
abbrev dh (Y:Ctx)(a:aC)(d:D)(ds:List D):Prop:=bJ (Y.at 0) a.body (X7 a d) (fD a ds) ⟨0,[]⟩
def bF {a:aC}{d d2:D}{e:Ex}{nx:Nat}{m:List (Nat×bW)}{env:List cg}(h:d2=d)(he:e.home:=by exact trivial)(h1:qW m env a.res:=by exact rW)(h2:D5 a env m:=by exact eg)(h3:Qb a env m=d2:=by exact rfl):X7 a d e env ⟨nx,m⟩:=Zg he h1 h2 (h3.trans h)
def bU {a:aC}{d d2:Bool}{e:Ex}{nx:Nat}{m:List (Nat×bW)}{env:List cg}(h:d2=d)(he:e.home:=by exact trivial)(h1:qW m env a.res:=by exact rW)(h2:D5 a env m:=by exact eg)(h3:Qb a env m=.bool d2:=by exact rfl):X7 a (.bool d) e env ⟨nx,m⟩:=bF (aj _ h) he h1 h2 h3
def c9 {a:aC}{d d2:List UInt8}{e:Ex}{nx:Nat}{m:List (Nat×bW)}{env:List cg}(h:d2=d)(he:e.home:=by exact trivial)(h1:qW m env a.res:=by exact rW)(h2:D5 a env m:=by exact eg)(h3:Qb a env m=.str d2:=by exact rfl):X7 a (.str d) e env ⟨nx,m⟩:=bF (aj _ h) he h1 h2 h3
def cX {a:aC}{d d2:Int}{e:Ex}{nx:Nat}{m:List (Nat×bW)}{env:List cg}(h:d2=d)(he:e.home:=by exact trivial)(h1:qW m env a.res:=by exact rW)(h2:D5 a env m:=by exact eg)(h3:Qb a env m=.int .i64 d2:=by exact rfl):X7 a (.int .i64 d) e env ⟨nx,m⟩:=bF (aj _ h) he h1 h2 h3
def dr {lo c nx nx2:Nat}{env env2:List cg}{m m2:List (Nat×bW)}(σ:List (Nat×Nat))(hc:nx2=c:=by exact ah)(h:gI lo c σ=true:=by exact ah)(he:dp lo σ env env2:=by exact eh)(hm:bo lo c σ m m2:=by exact pT):a7 lo env ⟨nx,m⟩ env2 ⟨nx2,m2⟩:=a7.to σ hc h he hm
def fF {Y:Ctx}{draw f:Bool}{r:List GI}{env rs:List cg}{nx:Nat}{m:List (Nat×bW)}{K:List cg->St->Prop}{g:Option (Nat×Bool)}{x y:Src}{fx fy:Bool}{a b:List UInt8}(h:aM Y draw r env (⟨f,.str (a++b)⟩::rs) nx m K)(hg:GF rs g f:=by first|exact rfl|exact⟨_,_,rfl,rfl⟩)(hx:cR env rs x=⟨fx,.str a⟩:=by exact rfl)(hy:cR env rs y=⟨fy,.str b⟩:=by exact rfl)(kx:f=true->fx=true:=by first|exact fun _=>rfl|exact fun h=>h|(intro h;simp_all))(ky:f=true->fy=true:=by first|exact fun _=>rfl|exact fun h=>h|(intro h;simp_all))(hb:f=true->a.length+b.length<=9223372036854775807:=by intro _;simp only[bP,aP,a8];omega):aM Y draw (⟨.bin .add x y,g⟩::r) env rs nx m K:=dj h hg hx hy kx ky hb
end Go.Abs
namespace Go.Abs
variable {Y:Ctx}(hm:(Y.at 0).b7)
def eM {lo c l:Nat}{σ:List (Nat×Nat)}{m r:List (Nat×bW)}{b:bW}(h:bo lo c σ m r)(hh:bo lo c σ m [(l,b)]:=by(first|refine bo.fW aQ aQ (by first|exact rfl|exact br (fun _=>rfl) _) ?_|refine bo.FJ aQ aQ aQ ?_|refine bo.idi aQ aQ aQ aQ ?_)<;>exact bo.nil):bo lo c σ m ((l,b)::r):=⟨hh.1,h⟩
end Go.Abs
namespace Go.Abs
variable {Y:Ctx}(hm:(Y.at 0).b7)
section
variable {Y:Ctx} {Q:Ex->List cg->St->Prop}
def cmN {env rs:List cg}:QS env rs []=env:=rfl
def cmC {s p:Nat}{r:List (Nat×Nat)}{env rs env1 env':List cg}{f:Bool}{d:D}(e:cR [] rs (.l p)=⟨f,d⟩)(hs:env.set s ⟨f,d⟩=env1)(h:QS env1 rs r=env'):QS env rs ((s,p)::r)=env':=by
 simp only[QS,e,hs,h]
def rrrg {draw:Bool}{cm:List (Nat×Nat)}{b:AC}{nx nx':Nat}{m:List (Nat×bW)}{rs env fD env':List cg}(h:bJ Y b Q env' ⟨nx',m⟩)
  (he:QS env rs cm=env':=by repeat(first|apply cmC aQ (by simp only[List.set_cons_zero,List.set_cons_succ];exact rfl)|with_reducible exact cmN)) (hn:nx+rs.length=nx':=by simp only[aP,a8,Nat.reduceAdd];exact rfl):aM Y draw [] fD rs nx m (fun vs st'=>bJ Y b Q (iS env vs cm) st'):=
 VJ h he hn
def rrrh {draw:Bool}{cm:List (Nat×Nat)}{nx nx':Nat}{m:List (Nat×bW)}{rs env fD env':List cg}(h:Q .normal env' ⟨nx',m⟩)
  (he:QS env rs cm=env':=by repeat(first|apply cmC aQ (by simp only[List.set_cons_zero,List.set_cons_succ];exact rfl)|with_reducible exact cmN)) (hn:nx+rs.length=nx':=by simp only[aP,a8,Nat.reduceAdd];exact rfl):aM Y draw [] fD rs nx m (fun vs st'=>Q .normal (iS env vs cm) st'):=
 VK h he hn
end
def Fam (_:Prop):Type:=Unit
def vL {q:Prop}:Fam q:=()
structure Hid (q:Prop)(f:Fam q):Prop where
 val:q
section
variable {Y:Ctx} {draw b1:Bool} {r:List GI} {env rs:List cg} {nx n0 n1:Nat} {m:List (Nat×bW)} {K:List cg->St->Prop} {g:Option (Nat×Bool)} {x0 x1 x2:Src}
def tg0 {Y:Ctx}{a:AC}{Q:Ex->List cg->St->Prop}{env:List cg}{st:St}(h:bJ Y a Q env st):bJ Y a Q env st:=h
def tg1 (h:aM Y draw (⟨.mv x0,g⟩::r) env rs nx m K):aM Y draw (⟨.mv x0,g⟩::r) env rs nx m K:=h
def tg2 (h:aM Y draw [] env rs nx m K):aM Y draw [] env rs nx m K:=h
def tg3 (h:aM Y draw (⟨.fa n0 x1,g⟩::r) env rs nx m K):aM Y draw (⟨.fa n0 x1,g⟩::r) env rs nx m K:=h
def tg4 (h:aM Y draw (⟨.ld n0 b1 x2,g⟩::r) env rs nx m K):aM Y draw (⟨.ld n0 b1 x2,g⟩::r) env rs nx m K:=h
def tg5 (h:aM Y draw (⟨.bin .lss x0 x1,g⟩::r) env rs nx m K):aM Y draw (⟨.bin .lss x0 x1,g⟩::r) env rs nx m K:=h
def tg6 (h:aM Y draw (⟨.bin .eql x0 x1,g⟩::r) env rs nx m K):aM Y draw (⟨.bin .eql x0 x1,g⟩::r) env rs nx m K:=h
def tg7 (h:aM Y draw (⟨.bin .add x0 x1,g⟩::r) env rs nx m K):aM Y draw (⟨.bin .add x0 x1,g⟩::r) env rs nx m K:=h
def tg8 (h:aM Y draw (⟨.bin .gtr x0 x1,g⟩::r) env rs nx m K):aM Y draw (⟨.bin .gtr x0 x1,g⟩::r) env rs nx m K:=h
def tg9 (h:aM Y draw (⟨.bin .neq x0 x1,g⟩::r) env rs nx m K):aM Y draw (⟨.bin .neq x0 x1,g⟩::r) env rs nx m K:=h
def tg10 (h:aM Y draw (⟨.bin .leq x0 x1,g⟩::r) env rs nx m K):aM Y draw (⟨.bin .leq x0 x1,g⟩::r) env rs nx m K:=h
def tg11 (h:aM Y draw (⟨.bin .geq x0 x1,g⟩::r) env rs nx m K):aM Y draw (⟨.bin .geq x0 x1,g⟩::r) env rs nx m K:=h
def tg12 (h:aM Y draw (⟨.bin .sub x0 x1,g⟩::r) env rs nx m K):aM Y draw (⟨.bin .sub x0 x1,g⟩::r) env rs nx m K:=h
def tg13 (h:aM Y draw (⟨.ext x0 n1,g⟩::r) env rs nx m K):aM Y draw (⟨.ext x0 n1,g⟩::r) env rs nx m K:=h
def tg14 (h:aM Y draw (⟨.pick x0 x1 (.c (.bool false)),g⟩::r) env rs nx m K):aM Y draw (⟨.pick x0 x1 (.c (.bool false)),g⟩::r) env rs nx m K:=h
def tg15 (h:aM Y draw (⟨.pick x0 (.c (.bool true)) x1,g⟩::r) env rs nx m K):aM Y draw (⟨.pick x0 (.c (.bool true)) x1,g⟩::r) env rs nx m K:=h
def tg16 (h:aM Y draw (⟨.un .not x0,g⟩::r) env rs nx m K):aM Y draw (⟨.un .not x0,g⟩::r) env rs nx m K:=h
def tg17 (h:aM Y draw (⟨.nilck x0,g⟩::r) env rs nx m K):aM Y draw (⟨.nilck x0,g⟩::r) env rs nx m K:=h
def tg18 (h:aM Y draw (⟨.box n0 x1,g⟩::r) env rs nx m K):aM Y draw (⟨.box n0 x1,g⟩::r) env rs nx m K:=h
def tg19 (h:aM Y draw (⟨.ia n0 x1 x2,g⟩::r) env rs nx m K):aM Y draw (⟨.ia n0 x1 x2,g⟩::r) env rs nx m K:=h
def tg20 (h:aM Y draw (⟨.ixS x0 x1,g⟩::r) env rs nx m K):aM Y draw (⟨.ixS x0 x1,g⟩::r) env rs nx m K:=h
def tg21 (h:aM Y draw (⟨.st n0 x1 x2,g⟩::r) env rs nx m K):aM Y draw (⟨.st n0 x1 x2,g⟩::r) env rs nx m K:=h
def tg22 (h:aM Y draw (⟨.len x0,g⟩::r) env rs nx m K):aM Y draw (⟨.len x0,g⟩::r) env rs nx m K:=h
def tg23 (h:aM Y draw (⟨.lenS x0,g⟩::r) env rs nx m K):aM Y draw (⟨.lenS x0,g⟩::r) env rs nx m K:=h
def tg24 (h:aM Y draw (⟨.xU x0,g⟩::r) env rs nx m K):aM Y draw (⟨.xU x0,g⟩::r) env rs nx m K:=h
def tg25 (h:aM Y draw (⟨.s2b x0,g⟩::r) env rs nx m K):aM Y draw (⟨.s2b x0,g⟩::r) env rs nx m K:=h
def tg26 (h:aM Y draw (⟨.mkB,g⟩::r) env rs nx m K):aM Y draw (⟨.mkB,g⟩::r) env rs nx m K:=h
def tg27 (h:aM Y draw (⟨.app n0 x1 x2,g⟩::r) env rs nx m K):aM Y draw (⟨.app n0 x1 x2,g⟩::r) env rs nx m K:=h
end
def aA {p q:Prop}(k:q)(h:Hid q vL->p:=by
 intro h;first
 |((with_reducible refine tg0 ?_);first|with_reducible exact ar h.1|with_reducible exact TO h.1|with_reducible exact Kz h.1|with_reducible exact Zu h.1|with_reducible exact Qa h.1|with_reducible exact wp_ret h.1|with_reducible exact wp_skip h.1|with_reducible exact Ky h.1|with_reducible exact wp_exit h.1|with_reducible exact Ii h.1 hm|with_reducible exact P9 h.1 hm)
 |((with_reducible refine tg1 ?_);(refine r_mv ?_;exact h.1))
 |((with_reducible refine tg2 ?_);first|(refine rrrh ?_;exact h.1)|(refine rrrg ?_;exact h.1))
 |((with_reducible refine tg3 ?_);first|(refine r_faP ?_;exact h.1)|(refine r_faR ?_;exact h.1))
 |((with_reducible refine tg4 ?_);first|exact aT (.int _ _) h.1|exact aT (.str _) h.1|(refine bD (v:=.str _) ?_;exact h.1)|(refine e7 (v:=.str _) ?_;exact h.1)|(refine bD (v:=.int _ _) ?_;exact h.1)|(refine e7 (v:=.int _ _) ?_;exact h.1)|exact aT (.sl _ _) h.1|exact aT (.own _ _ _ _) h.1|exact aT (.bool _) h.1|(refine bD (v:=.sl _ _) ?_;exact h.1)|(refine e7 (v:=.sl _ _) ?_;exact h.1)|(refine bD (v:=.bool _) ?_;exact h.1)|(refine e7 (v:=.bool _) ?_;exact h.1)|exact cz h.1|exact aT .bq h.1)
 |((with_reducible refine tg5 ?_);first|(refine SZ ?_;exact h.1)|(refine S0 ?_;exact h.1))
 |((with_reducible refine tg6 ?_);first|(refine YZ ?_;exact h.1)|(refine Y0 ?_;exact h.1))
 |((with_reducible refine tg7 ?_);(refine VE ?_;exact h.1))
 |((with_reducible refine tg8 ?_);first|(refine JC ?_;exact h.1)|(refine JD ?_;exact h.1))
 |((with_reducible refine tg9 ?_);first|(refine Y8 ?_;exact h.1)|(refine Y9 ?_;exact h.1))
 |((with_reducible refine tg10 ?_);first|(refine Y6 ?_;exact h.1)|(refine Y7 ?_;exact h.1))
 |((with_reducible refine tg11 ?_);first|(refine Y1 ?_;exact h.1)|(refine Y2 ?_;exact h.1))
 |((with_reducible refine tg12 ?_);(refine LJ ?_;exact h.1))
 |((with_reducible refine tg13 ?_);first|exact eX (.int _ _) h.1|exact eX (.str _) h.1|exact eX (.bool _) h.1)
 |((with_reducible refine tg14 ?_);(refine SM ?_;exact h.1))
 |((with_reducible refine tg15 ?_);(refine r_or ?_;exact h.1))
 |((with_reducible refine tg16 ?_);(refine r_not ?_;exact h.1))
 |((with_reducible refine tg17 ?_);first|(refine Za ?_;exact h.1)|(refine Zb ?_;exact h.1))
 |((with_reducible refine tg18 ?_);(refine r_box ?_;exact h.1))
 |((with_reducible refine tg19 ?_);first|exact bH _ h.1|exact SR h.1|exact ie _ h.1|exact Y3 h.1)
 |((with_reducible refine tg20 ?_);first|exact pU _ h.1|exact Y4 h.1)
 |((with_reducible refine tg21 ?_);exact aI _ h.1)
 |((with_reducible refine tg22 ?_);first|exact SW fun a=>(h.1:_->_) (a rfl rfl)|exact SX fun a=>(h.1:_->_) (a rfl rfl)|(refine Y5 ?_;exact h.1))
 |((with_reducible refine tg23 ?_);exact SY fun a=>(h.1:_->_) (a rfl rfl))
 |((with_reducible refine tg24 ?_);(refine r_rng ?_;exact h.1))
 |((with_reducible refine tg25 ?_);(refine r_s2b ?_;exact h.1))
 |((with_reducible refine tg26 ?_);(refine r_mkB ?_;exact h.1))
 |((with_reducible refine tg27 ?_);(refine gL ?_;exact h.1))
 |with_reducible exact BQ.normal h.1|with_reducible exact BQ.ret h.1|with_reducible exact LQ.normal h.1|with_reducible exact LQ.out h.1|with_reducible exact LQ.ret h.1|with_reducible exact BQ.out h.1|with_reducible exact Ix.normal h.1|with_reducible exact Ix.ret h.1|with_reducible exact Iz.normal h.1|with_reducible exact Iz.ret h.1|with_reducible exact Ix.out h.1|with_reducible exact Iz.out h.1|with_reducible exact CQ.normal h.1|with_reducible exact CQ.ret h.1|with_reducible exact CQ.other h.1|((with_reducible refine BQ.other ?_ h.1);exact rfl)|((with_reducible refine LQ.other ?_ h.1);exact rfl)|((with_reducible refine Ix.other ?_ h.1);exact rfl)|((with_reducible refine Iz.other ?_ h.1);exact rfl)):p:=h ⟨k⟩
def ik {p q:Prop}(k:q)(h:Hid q vL->p:=by intro h;first|exact SW fun _=>h.1|exact SY fun _=>h.1|exact SX fun _=>h.1):p:=h ⟨k⟩
section
variable {Y:Ctx} {Q:Ex->List cg->St->Prop}
end
def dn:(∀{p:Prop} [Decidable p],(decide p=true)=p)/\(∀{p:Prop} [Decidable p],decide p=false↔¬p)/\(∀b:Bool,((!b)=true)=(b=false))/\(∀b:Bool,((!b)=false)=(b=true))/\(∀b:Bool,(¬(b=false))=(b=true))/\(∀a b:Bool,((a ||b)=true)=(a=true\/b=true))/\(∀{a b:Bool},(a ||b)=false↔a=false/\b=false)/\(∀a b:Bool,((a&&b)=true)=(a=true/\b=true))/\(∀{a b:Bool},(a&&b)=false↔a=false\/b=false)/\(∀b:Bool,(¬(b=true))=(b=false))/\(∀b:Bool,(true&&b)=b)/\∀b:Bool,(b&&true)=b:=
 ⟨aK,bc,bd,bK,Bool.not_eq_false,cM,dd,bB,dy,Bool.not_eq_true,gz,nb⟩
section
variable {Y:Ctx} {Q:Ex->List cg->St->Prop} {env:List cg} {st:St}
def cF {c:Src}{a b r:AC}{t:Bool}{c1 c2:Prop}(h1:c1->bJ Y (.seq a r) Q env st)(h2:c2->bJ Y (.seq b r) Q env st)(hc:cR env [] c=⟨true,.bool t⟩:=by exact rfl)(e1:t=true->c1:=by intro h;(try simp only[dn]at h);exact h)(e2:t=false->c2:=by intro h;(try simp only[dn]at h);exact h):bJ Y (.seq (.cond c a b) r) Q env st:=av (fun h=>h1 (e1 h)) (fun h=>h2 (e2 h)) hc
def fM {c:Src}{a b:AC}{t:Bool}{c1 c2:Prop}(h1:c1->bJ Y a Q env st)(h2:c2->bJ Y b Q env st)(hc:cR env [] c=⟨true,.bool t⟩:=by exact rfl)(e1:t=true->c1:=by intro h;(try simp only[dn]at h);exact h)(e2:t=false->c2:=by intro h;(try simp only[dn]at h);exact h):bJ Y (.cond c a b) Q env st:=wp_cond (fun h=>h1 (e1 h)) (fun h=>h2 (e2 h)) hc
end
end Go.Abs
namespace Go.Abs
variable {Y:Ctx}(hm:(Y.at 0).b7)
def ax {p q:Prop}(k:q)(h:Hid q vL->p:=by intro h;(iterate 2 refine aA ?_);exact h.1):p:=h ⟨k⟩
def ay {p q:Prop}(k:q)(h:Hid q vL->p:=by intro h;(iterate 3 refine aA ?_);exact h.1):p:=h ⟨k⟩
def aB {p q:Prop}(k:q)(h:Hid q vL->p:=by intro h;(iterate 4 refine aA ?_);exact h.1):p:=h ⟨k⟩
def aE {p q:Prop}(k:q)(h:Hid q vL->p:=by intro h;(iterate 5 refine aA ?_);exact h.1):p:=h ⟨k⟩
def aD {p q:Prop}(k:q)(h:Hid q vL->p:=by intro h;(iterate 6 refine aA ?_);exact h.1):p:=h ⟨k⟩
def aZ {p q:Prop}(k:q)(h:Hid q vL->p:=by intro h;(iterate 7 refine aA ?_);exact h.1):p:=h ⟨k⟩
def bL {p q:Prop}(k:q)(h:Hid q vL->p:=by intro h;(iterate 8 refine aA ?_);exact h.1):p:=h ⟨k⟩
def cZ {p q:Prop}(k:q)(h:Hid q vL->p:=by intro h;(iterate 9 refine aA ?_);exact h.1):p:=h ⟨k⟩
def fS {p q:Prop}(k:q)(h:Hid q vL->p:=by intro h;(iterate 10 refine aA ?_);exact h.1):p:=h ⟨k⟩
def fH {p q:Prop}(k:q)(h:Hid q vL->p:=by intro h;(iterate 11 refine aA ?_);exact h.1):p:=h ⟨k⟩
def gu {p q:Prop}(k:q)(h:Hid q vL->p:=by intro h;(iterate 12 refine aA ?_);exact h.1):p:=h ⟨k⟩
def lN {p q:Prop}(k:q)(h:Hid q vL->p:=by intro h;(iterate 13 refine aA ?_);exact h.1):p:=h ⟨k⟩
def sy {p q:Prop}(k:q)(h:Hid q vL->p:=by intro h;(iterate 14 refine aA ?_);exact h.1):p:=h ⟨k⟩
def BW {p q:Prop}(k:q)(h:Hid q vL->p:=by intro h;(iterate 15 refine aA ?_);exact h.1):p:=h ⟨k⟩
def BX {p q:Prop}(k:q)(h:Hid q vL->p:=by intro h;(iterate 16 refine aA ?_);exact h.1):p:=h ⟨k⟩
def BY {p q:Prop}(k:q)(h:Hid q vL->p:=by intro h;(iterate 17 refine aA ?_);exact h.1):p:=h ⟨k⟩
def WV {p q:Prop}(k:q)(h:Hid q vL->p:=by intro h;(iterate 18 refine aA ?_);exact h.1):p:=h ⟨k⟩
def WW {p q:Prop}(k:q)(h:Hid q vL->p:=by intro h;(iterate 20 refine aA ?_);exact h.1):p:=h ⟨k⟩
def zzz21 {p q:Prop}(k:q)(h:Hid q vL->p:=by intro h;(iterate 21 refine aA ?_);exact h.1):p:=h ⟨k⟩
def TZ {p q:Prop}(k:q)(h:Hid q vL->p:=by intro h;(iterate 22 refine aA ?_);exact h.1):p:=h ⟨k⟩
def zzz24 {p q:Prop}(k:q)(h:Hid q vL->p:=by intro h;(iterate 24 refine aA ?_);exact h.1):p:=h ⟨k⟩
def WX {p q:Prop}(k:q)(h:Hid q vL->p:=by intro h;(iterate 25 refine aA ?_);exact h.1):p:=h ⟨k⟩
def zzz26 {p q:Prop}(k:q)(h:Hid q vL->p:=by intro h;(iterate 26 refine aA ?_);exact h.1):p:=h ⟨k⟩
def T0 {p q:Prop}(k:q)(h:Hid q vL->p:=by intro h;(iterate 28 refine aA ?_);exact h.1):p:=h ⟨k⟩
def zzz29 {p q:Prop}(k:q)(h:Hid q vL->p:=by intro h;(iterate 29 refine aA ?_);exact h.1):p:=h ⟨k⟩
def WY {p q:Prop}(k:q)(h:Hid q vL->p:=by intro h;(iterate 36 refine aA ?_);exact h.1):p:=h ⟨k⟩
end Go.Abs
namespace Go.Abs
variable {Y:Ctx}(hm:(Y.at 0).b7)
abbrev s0:Src:=.s 0
abbrev s1:Src:=.s 1
abbrev s2:Src:=.s 2
abbrev s3:Src:=.s 3
abbrev s4:Src:=.s 4
abbrev s5:Src:=.s 5
abbrev l0:Src:=.l 0
abbrev l1:Src:=.l 1
abbrev l2:Src:=.l 2
abbrev l3:Src:=.l 3
abbrev cs (s:List UInt8):Src:=.c (.str s)
abbrev gd (x:Src):GI:=⟨.ld 1 false x,none⟩
abbrev gl (x:Src):GI:=⟨.len x,none⟩
abbrev rg (x:List GI)(y:List (Nat×Nat)):AC:=.reg false x y
abbrev ha2:List (List Sh):=[[.a,.a]]
abbrev B3:List (List Sh):=[[.a],[.a]]
abbrev hb3:List (List Sh):=[[.a],[.a],[.a]]
abbrev i3 (n:Int):Src:=.c (.int .i32 n)
abbrev r1 (x:List GI)(a b:Nat):AC:=.reg false x [(a,b)]
abbrev r2 (x:List GI)(a b:Nat):AC:=.reg true x [(a,b)]
end Go.Abs
end
namespace Go.Abs
variable {Y:Ctx}(hm:(Y.at 0).b7)
noncomputable def Pr:aC:=cP 77
def w249  (l:List au)(x:UInt8)  (hp0:(aS [x] l).length<=1099511627776):dh Y Pr (.str (aS [x] l)) [.sl 1 (l.map D.str),.int .u8 (x.toNat:Nat)]:=by
 show bJ _ _ _ [⟨_,_⟩,⟨_,_⟩,_,_,_,_,_] _;refine ar ?_;refine cZ ?_;refine ba hm (ι:=Nat) (fun i=>[⟨true,.sl 1 (l.map D.str)⟩,⟨true,.int .u8 (x.toNat:Nat)⟩,.un,⟨true,.int .i64 (i:Nat)⟩,.un,.un,⟨true,.str (aS [x] (l.take i))⟩]) (fun i=>[]) 3 (fun i=>i<=l.length) (fun i=>l.length-i) 0 ae (dr []) ?_;intro i hi;refine aE ?_;intro u0;refine ax ?_;refine cF (fun hc0=>?_) fun hc0=>?_
 .refine aB ?_;have hj:=sN [x] l (i+1);refine ay ?_;refine av (fun hc1=>?_) (fun hc1=>?_)
  .simp only[aK]at hc1;have ht:=qo [x] l i ae;rw[aw ae]at ht;have htl:=aj List.length ht;simp only[bP,List.length_singleton]at htl;refine ay ?_;refine df [.int .u8 _] ?_;refine Hd [x] (he:=fun _=>sA.all ah rfl) (hs:=fun _=>rfl) ?_;refine dj (hb:=fun _=>by simp only[List.length_singleton];omega) ?_;refine bL ?_;refine dj (hb:=fun _=>by first|(simp only[bP,List.length_singleton];omega)|(subst hi0;simp only[List.take_zero,aS,a8]at htl⊢;omega)) ?_;refine cZ ?_;exact⟨i+1,ae,ae,(a7.to [] ah ah (by repeat(first|exact dp.nil|refine dp.un ?_|refine dp.eq ah ?_|refine dp.nl (aj D.str (by rw[ht])) ah ?_)) pT)⟩
  simp only[bc]at hc1;have ht:=qo [x] l i ae;rw[ak ae]at ht;have htl:=aj List.length ht;simp only[bP,a8]at htl;have hi0:i=0:=ae;refine aZ ?_;refine dj (hb:=fun _=>by first|(simp only[bP,List.length_singleton];omega)|(subst hi0;simp only[List.take_zero,aS,a8]at htl⊢;omega)) ?_;refine cZ ?_;exact⟨i+1,ae,ae,(a7.to [] ah ah (by repeat(first|exact dp.nil|refine dp.un ?_|refine dp.eq ah ?_|refine dp.nl (aj D.str (by rw[ht];subst hi0;rfl)) ah ?_)) pT)⟩
 refine aZ ?_;refine c9 ?_;rw[ed ae]
def Ms (T:List D->D->Prop):Prop:=∀(l:List au) (x:UInt8),((aS [x] l).length<=1099511627776)->T [.sl 1 (l.map D.str),.int .u8 (x.toNat:Nat)] (.str (aS [x] l))
def NF (Y:Ctx):Prop:=Ms (bx Y 249)
noncomputable def Bp:aC:=cP 128
def w226  (a:List au)(b:List au)   :dh Y Bp (.bool (decide (a=b))) [.sl 1 (a.map D.str),.sl 1 (b.map D.str)]:=by
 show bJ _ _ _ [⟨_,_⟩,⟨_,_⟩,_,_,_,_,_] _;refine ar ?_;refine aD ?_;intro u0;refine ax ?_;intro u1;refine ax ?_;refine cF (fun hc0=>?_) fun hc0=>?_
 .refine aE ?_;refine bU ?_;symm;rw[bc];rintro rfl;exact hc0 rfl
 refine aE ?_;have hab:a.length=b.length:=ae;have hb:=pX hab;refine ba hm (ι:=Nat) (fun i=>[⟨true,.sl 1 (a.map D.str)⟩,⟨true,.sl 1 (b.map D.str)⟩,.un,.un,⟨true,.int .i64 (i:Nat)⟩,.un,.un]) (fun i=>[]) 7 (fun i=>i<=a.length/\decide (a=b)=cQ (fun i=>decide (a[i]! =b[i]!)) i a.length) (fun i=>a.length-i) 0 ⟨ae,hb⟩ (dr []) ?_;rintro i ⟨hi,hr⟩;refine aE ?_;intro u2;refine ax ?_;refine cF (fun hc1=>?_) fun hc1=>?_
 .refine lN ?_;refine wp_cond (fun hc2=>?_) (fun hc2=>?_)
  .simp only[bd,bc]at hc2;refine aD ?_;refine bU ?_;rw[hr,aU ae,cG hc2];rfl
  simp only[bK,aK]at hc2;refine bL ?_;exact⟨i+1,⟨ae,by rw[hr,aU ae,b9 hc2];rfl⟩,ae,(dr [])⟩
 refine aD ?_;refine bU ?_;rw[hr,cj ae]
def Mg (T:List D->D->Prop):Prop:=∀(a:List au) (b:List au),T [.sl 1 (a.map D.str),.sl 1 (b.map D.str)] (.bool (decide (a=b)))
def W5 (Y:Ctx):Prop:=Mg (bx Y 226)
noncomputable def HF:aC:=cP 221
def w815  (l:List au)   :dh Y HF (.bool (rising l)) [.sl 1 (l.map D.str)]:=by
 show bJ _ _ _ [⟨_,_⟩,_,_,_,_] _;refine ar ?_;refine aD ?_;refine ba hm (ι:=Nat) (fun i=>[⟨true,.sl 1 (l.map D.str)⟩,.un,⟨true,.int .i64 (i:Nat)⟩,.un,.un]) (fun i=>[]) 2 (fun i=>1<=i/\(i<=l.length\/i=1)/\rising l=cQ (fun i=>Op.bytesLess l[i-1]! l[i]!) i l.length) (fun i=>l.length-i) 1 ⟨ae,ae,rfl⟩ (dr []) ?_;rintro i ⟨h1,hi,hr⟩;refine aE ?_;intro u0;refine ax ?_;refine cF (fun hc0=>?_) fun hc0=>?_
 .refine aD ?_;refine bH (i-1) ?_;refine aZ ?_;refine wp_cond (fun hc1=>?_) (fun hc1=>?_)
  .simp only[bd]at hc1;refine aD ?_;refine bU ?_;rw[hr,aU ae,hc1];rfl
  simp only[bK]at hc1;refine bL ?_;exact⟨i+1,⟨ae,ae,by rw[hr,aU ae,hc1];rfl⟩,ae,(dr [])⟩
 refine aD ?_;refine bU ?_;rw[hr,cj ae]
def zM (T:List D->D->Prop):Prop:=∀(l:List au),T [.sl 1 (l.map D.str)] (.bool (rising l))
def XI (Y:Ctx):Prop:=zM (bx Y 815)
noncomputable def Cc:aC:=cP 141
def w447  (l:List au)   :dh Y Cc (.bool (rising l)) [.sl 1 (l.map D.str)]:=by
 show bJ _ _ _ [⟨_,_⟩,_,_,_,_] _;refine ar ?_;refine aD ?_;refine ba hm (ι:=Nat) (fun i=>[⟨true,.sl 1 (l.map D.str)⟩,.un,⟨true,.int .i64 (i:Nat)⟩,.un,.un]) (fun i=>[]) 2 (fun i=>1<=i/\(i<=l.length\/i=1)/\rising l=cQ (fun i=>Op.bytesLess l[i-1]! l[i]!) i l.length) (fun i=>l.length-i) 1 ⟨ae,ae,rfl⟩ (dr []) ?_;rintro i ⟨h1,hi,hr⟩;refine aE ?_;intro u0;refine ax ?_;refine cF (fun hc0=>?_) fun hc0=>?_
 .refine aD ?_;refine bH (i-1) ?_;refine aZ ?_;refine wp_cond (fun hc1=>?_) (fun hc1=>?_)
  .simp only[bd]at hc1;refine aD ?_;refine bU ?_;rw[hr,aU ae,hc1];rfl
  simp only[bK]at hc1;refine bL ?_;exact⟨i+1,⟨ae,ae,by rw[hr,aU ae,hc1];rfl⟩,ae,(dr [])⟩
 refine aD ?_;refine bU ?_;rw[hr,cj ae]
def C447 (Y:Ctx):Prop:=zM (bx Y 447)
end Go.Abs
