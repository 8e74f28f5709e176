/- A part of the proofs. -/
import Derived.Test.YtgnjlompgjhaaaaGreatDoorP05
set_option linter.all false
set_option maxRecDepth 60000
set_option maxHeartbeats 2000000
section
namespace Go.Abs
def dQ (op:Int):au:=if op=1 then [61]else if op=2 then [33,61]else if op=3 then [60]else if op=4 then [60,61]else if op=5 then [62]else if op=6 then [62,61]else if op=7 then [94]else if op=8 then [126]else []
def xF (op:Int):(dQ op).length<=2:=by
 grind [dQ]
def uc (s w:au):Bool:=decide (w.length<=s.length)&&decide (s.take w.length=w)
def ri (c:dI):Bool:=(decide (0<c.parts) ||decide (c.v.major=0))&&(decide (1<c.parts) ||decide (c.v.minor=0))&&(decide (2<c.parts) ||decide (c.v.patch=0))
def nN (c:dI):Bool:=decide (1<=c.op)&&decide (c.op<=9)&&e8 c.v&&decide (c.v.build=[])&&decide ((if c.op=9 then 0 else 1)<=c.parts)&&decide (c.parts<=if c.op=9 then 2 else 3)&&(decide (3<=c.parts) ||decide (c.v.pre=[]))&&ri c
def dI.sm (c:dI):Prop:=c.v.sm
def Gz {c:dI}(h:(decide (c.op<1) ||decide (9<c.op) ||!e8 c.v ||!decide (c.v.build=[]))=true):nN c=false:=by
 unfold nN
 grind
def Da {c:dI}(h:(decide (c.op<1) ||decide (9<c.op) ||!e8 c.v ||!decide (c.v.build=[]))=false):1<=c.op/\c.op<=9/\e8 c.v=true/\c.v.build=[]:=by
 grind
end Go.Abs
namespace Go.Abs
def sY {c:dI}(hy:1<=c.op/\c.op<=9/\e8 c.v=true/\c.v.build=[]){lo hi:Int}(hlo:(if c.op=9 then 0 else 1)=lo)(hhi:(if c.op=9 then 2 else 3)=hi):
  nN c=(!(decide (c.parts<lo) ||decide (hi<c.parts) ||(decide (c.parts<3)&& !decide (c.v.pre=[])))&&ri c):=by
 grind [nN]
end Go.Abs
namespace Go.Abs
def dI.nB (c:dI):List Int:=[c.v.major,c.v.minor,c.v.patch]
def gQ (c:dI):Nat->au
 |0=>[]
 |i+1=>gQ c i++(if 0<i then [46]else [])++dJ (c.nB[i]!).toNat
def lV (c:dI):au:=if c.op=9 then(if 0<c.parts then [46]else [])++[42]else if c.v.pre=[]then []else 45::c.v.pre
def mR (c:dI):au:=dQ c.op++gQ c c.parts.toNat++lV c
def ep (c:dI):au:=if nN c=true then mR c else []
def sa {c:dI}(h:e8 c.v=true)(i:Nat):0<=c.nB[i]! /\c.nB[i]! <=9999:=by
 simp only[e8,qz,bC,aK]at h
 match i with
 |0=>exact h.1.1.1.1
 |1=>exact h.1.1.1.2
 |2=>exact h.1.1.2
 |k+3=>exact(by simp[dI.nB]:0<=c.nB[k+3]! /\c.nB[k+3]! <=9999)
def tq {c:dI}(h:e8 c.v=true):∀i,(gQ c i).length<=5*i
 |0=>by simp[gQ]
 |i+1=>by
  have:=tq h i;have hn:=sa h i;have:=eK 4 (c.nB[i]!).toNat ae ae
  grind [gQ]
def pQ {c:dI}(h:nN c=true):e8 c.v=true/\0<=c.parts/\c.parts<=3/\1<=c.op/\c.op<=9:=by
 grind [nN]
end Go.Abs
namespace Go.Abs
def na (c:dI):List au:=(c.nB.map fun n=>dJ n.toNat).take c.parts.toNat
def DL (c:dI):∀i,i<=3->aS [46] ((c.nB.map fun n=>dJ n.toNat).take i)=gQ c i
 |0,_=>by simp[aS,gQ]
 |i+1,h=>by
  have hl:i<(c.nB.map fun n=>dJ n.toNat).length:=by simp[dI.nB];omega
  have hl2:i<c.nB.length:=by show i<3;omega
  rw[qE _ _ _ hl,DL c i ae];simp only[gQ];have e:(c.nB.map fun n=>dJ n.toNat)[i]! =dJ (c.nB[i]!).toNat:=by simp[hl2]
  rw[e];split
  .simp
  grind [gQ]
theorem Iw {c:dI}(h:c.parts<=3):(na c).length=c.parts.toNat:=by
 simp[na,dI.nB];omega
theorem Ej {c:dI}(h:c.parts<=3):aS [46] (na c)=gQ c c.parts.toNat:=DL c _ ae
def xN {c:dI}(h0:0<=c.parts)(h:c.parts<=3):aS [46] (na c++[[42]])=gQ c c.parts.toNat++((if 0<c.parts then [46]else [])++[42]):=by
 by_cases hp:0<c.parts
 .grind [uC,Iw,Ej]
 .have:c.parts.toNat=0:=ae;rw[ak hp,this];have e:na c=[]:=by simp[na,this]
  rw[e];rfl
end Go.Abs
namespace Go.Abs
def opsL:List Int:=[2,4,6,1,3,5,7,8]
def qK (s:au)(i:Nat):Option Int:=(opsL.drop i).find? fun o=>uc s (dQ o)
def ie (s:au):Int×au:=match qK s 0 with
 |some o=>(o,s.drop (dQ o).length)
 |none=>if 0<s.length/\at8 s (s.length-1)=42 then(9,s)else(7,s)
def L2 {s:au}{i:Nat}(h:i<8)(hb:uc s (dQ opsL[i]!)=true):qK s i=some opsL[i]! :=by
 have hl:i<opsL.length:=h;unfold qK;rw[je hl,List.find?_cons]
 grind
def L3 {s:au}{i:Nat}(h:i<8)(hb:uc s (dQ opsL[i]!)=false):qK s i=qK s (i+1):=by
 have hl:i<opsL.length:=h;unfold qK;rw[je hl,List.find?_cons]
 grind
def Bq {s:au}{i:Nat}(h:8<=i):qK s i=none:=by
 unfold qK;rw[lM h];rfl
def iP (s:au)(i:Nat):au×au:=match(s.drop i).findIdx? (fun c=>c==45)with
 |some k=>(s.take (i+k),s.drop (i+k+1))
 |none=>(s,[])
def L7 {s:au}{i:Nat}(h:i<s.length)(he:at8 s i=45):iP s i=(s.take i,s.drop (i+1)):=by
 unfold iP;rw[mL s i h,List.findIdx?_cons];have:s.getD i 0=45:=im.1 (by simp only[at8]at he;show(s.getD i 0).toNat=45;omega);rw[this];rfl
def L8 {s:au}{i:Nat}(h:i<s.length)(he:¬at8 s i=45):iP s i=iP s (i+1):=by
 unfold iP;rw[mL s i h,List.findIdx?_cons];have:(s.getD i 0==45)=false:=by
  rw[beq_eq_false_iff_ne];intro e;exact he (by simp only[at8,e];rfl)
 grind
def HC {s:au}{i:Nat}(h:s.length<=i):iP s i=(s,[]):=by
 unfold iP;rw[lM h];rfl
end Go.Abs
namespace Go.Abs
def fM (l:List au):Bool:=decide (l.length<=3)&&cS (fun i=>fW l[i]!) 0 l.length
def SA (l:List au):cq:=⟨if 0<l.length then eg l[0]! else 0,if 1<l.length then eg l[1]! else 0,if 2<l.length then eg l[2]! else 0,[],[]⟩
def Bj (l:List au):cq:=if fM l=true then SA l else gz
end Go.Abs
namespace Go.Abs
def eQ:dI:=⟨0,0,gz⟩
def DS (op:Int)(l:List au):List au:=if op=9 then l.take (l.length-1)else l
def gL (op:Int)(l:List au)(pre:au):dI:=⟨op,(l.length:Nat),{SA l with pre:=pre}⟩
def yo (s:au)(op:Int)(l:List au)(pre:au):Bool:=fM l&& !(decide (ep (gL op l pre)=[]) ||(!decide (ep (gL op l pre)=s)&& !decide (ep (gL op l pre)=94::s)))
def eP (s:au):Option dI:=
 let o:=ie s
 let p:=iP o.2 0
 let l:=DS o.1 (ai p.1 46)
 if yo s o.1 l p.2=true then some (gL o.1 l p.2)else none
def B4 (s:au):(ie s).2.length<=s.length:=by
 grind [ie]
def Bz (s:au):(iP s 0).1.length<=s.length/\(iP s 0).2.length<=s.length:=by
 unfold iP;split<;>simp<;>omega
end Go.Abs
namespace Go.Abs
def dW (s:au):Int×au:=match qK s 0 with
 |some o=>(o,s.drop (dQ o).length)
 |none=>(9,s)
def fu (s:au):au×au:=iP (dW s).2 0
def eU (s:au):List au:=DS (dW s).1 (ai (fu s).1 46)
def oT (s:au):Prop:=(dW s).1=9->(ai (fu s).1 46)[(ai (fu s).1 46).length-1]! =[42]
instance (s:au):Decidable (oT s):=by unfold oT;exact inferInstance
def fk (s:au):dI:=gL (dW s).1 (eU s) (fu s).2
def iw (s:au):Option dI:=if oT s/\fM (eU s)=true/\nN (fk s)=true/\ep (fk s)=s then some (fk s)else none
def L1 (l:List au)(i:Nat):cq:=⟨if 0<i then eg l[0]! else 0,if 1<i then eg l[1]! else 0,if 2<i then eg l[2]! else 0,[],[]⟩
def PJ (s:au):(dW s).2.length<=s.length:=by
 unfold dW;split<;>simp
def lx {s:au}(h:¬(oT s/\fM (eU s)=true/\nN (fk s)=true/\ep (fk s)=s)):iw s=none:=by
 unfold iw;rw[ak h]
end Go.Abs
namespace Go.Abs
def nH (s:au):Option dI:=if(iw s).isSome=true then iw s else iw (94::s)
def Iv (c:dI):bX:=.buf 1 [.str (dJ c.v.major.toNat),.str (dJ c.v.minor.toNat),.str (dJ c.v.patch.toNat)]
def B9 (c:dI):[D.str (dJ c.v.major.toNat),D.str (dJ c.v.minor.toNat),D.str (dJ c.v.patch.toNat)].take c.parts.toNat=(na c).map D.str:=by
 unfold na dI.nB;rw[List.map_take];rfl
def Wq {c:dI}{m:List (Nat×bX)}{l:Nat}(hl:look m l=some (Iv c)):xV m [.sl 1 [.a]] (.own l 1 0 c.parts.toNat)=.sl 1 ((na c).map D.str):=by
 show D.sl 1 _=_;simp only[bD,hl,Iv,bZ,B9,List.map_map];congr 1
def TZ {c:dI}{m:List (Nat×bX)}{l:Nat}(h:c.parts<=3)(hl:look m l=some (Iv c)):Uj m [.sl 1 [.a]] (.own l 1 0 c.parts.toNat):=by
 simp only[Uj,Xs,Xr];refine⟨by simp[fZ,hl,Iv];omega, ?_⟩;simp only[bD,hl,Iv,bZ,B9];intro e he;obtain⟨x,_,rfl⟩:=ez.1 he;trivial
end Go.Abs
end
namespace Go.Abs
def sZ {c:dI}(h:ep c≠[]):nN c=true/\ep c=mR c:=by
 grind [ep]
def Fh {s:au}{op:Int}{l:List au}{pre:au}:yo s op l pre=true↔fM l=true/\ep (gL op l pre)≠[]/\(ep (gL op l pre)=s\/ep (gL op l pre)=94::s):=by
 grind [yo]
def Bw (c:UInt8):Prop:=c≠33/\c≠60/\c≠61/\c≠62/\c≠94/\c≠126
theorem rK {c:UInt8}(h:bn c.toNat=true):Bw c/\c≠42:=by
 simp only[bn,bC,aK]at h;refine⟨⟨?_, ?_, ?_, ?_, ?_, ?_⟩, ?_⟩<;>rintro rfl<;>revert h<;>decide
def Ht {k:dI}:∀(i:Nat) (c:UInt8),c∈gQ k i->bn c.toNat=true\/c=46
 |0,c,h=>by simp[gQ]at h
 |i+1,c,h=>by
  simp only[gQ,List.mem_append]at h;rcases h with(h|h)|h
  .exact Ht i c h
  .grind
  .exact .inl (ir _ c h)
def Bl (k:dI):∀i,0<i->∃c r,gQ k i=c::r/\bn c.toNat=true
 |0,h=>ae
 |1,_=>by
  have hd:=ir (k.nB[0]!).toNat;have hn:=y0 (k.nB[0]!).toNat;simp only[gQ,Nat.lt_irrefl,aX,fg];generalize dJ (k.nB[0]!).toNat=w at hd hn
  match w,hn with
  |c::r,_=>exact⟨c,r,rfl,hd c (.head _)⟩
 |i+2,_=>by
  obtain⟨c,r,h1,h2⟩:=Bl k (i+1) ae
  grind [dJ,gQ]
def Oy {c:dI}(h:nN c=true)(h9:c.op≠9):0<c.parts.toNat:=by
 grind [nN]
def Pw {s:au}{o:Int}(h:qK s 0=some o):1<=o/\o<=8/\∃x t,s=x::t/\¬Bw x/\(x=94->o=7):=by
 have hm:=List.mem_of_find?_eq_some h;have hb:=List.find?_some h;simp only[uc,bC,aK]at hb;obtain⟨h1,h2⟩:=hb;have hne:s≠[]\/dQ o=[]:=by
  grind
 simp only[opsL,bZ,cb,eJ,or_false]at hm;have key:∀w:au,w≠[]->s.take w.length=w->∃x t t',s=x::t/\w=x::t':=by
  intro w hw hs
  match w,hw with
  |x::t',_=>
   match s with
   |[]=>simp at hs
   |y::t=>
    grind
 rcases hm with rfl|rfl|rfl|rfl|rfl|rfl|rfl|rfl
 all_goals
  refine⟨ae,ae, ?_⟩;obtain⟨x,t,t',e1,e2⟩:=key _ aF h2;have hxx:=aj (fun w:au=>w.headD 0) e2;simp only[List.headD_cons]at hxx;refine⟨x,t,e1, ?_, ?_⟩
  .rw[<-hxx];unfold Bw;decide
  .rw[<-hxx];decide
theorem Bp (t:au):qK (94::t) 0=some 7:=by
 unfold qK opsL;have hn:∀w:au,w≠[]->w.headD 0≠94->uc (94::t) w=false:=by
  intro w hw hx
  match w,hw with
  |x::r,_=>
   grind [uc]
 have hy:uc (94::t) (dQ 7)=true:=by
  grind [uc,dQ]
 simp only[bZ,List.find?_cons,hn _ (show dQ 2≠[]by decide) aF,hn _ (show dQ 4≠[]by decide) aF,hn _ (show dQ 6≠[]by decide) aF,hn _ (show dQ 1≠[]by decide) aF,
  hn _ (show dQ 3≠[]by decide) aF,hn _ (show dQ 5≠[]by decide) aF,hy]
def HG (t:au):dW (94::t)=(7,t):=by
 grind [dW,Bp,dQ]
def B5 (b:Int):∀(s cur:au),∃r l,cE b s cur=(cur++r)::l
 |[],cur=>⟨[],[],by simp[cE]⟩
 |c::s,cur=>by
  simp only[cE];split
  .exact⟨[],_,by rw[gX]⟩
  .obtain⟨r,l,h⟩:=B5 b s (cur++[c]);exact⟨c::r,l,by rw[h];simp⟩
def Qj {x:UInt8}{t:au}(h:¬Bw x):fM (ai (iP (x::t) 0).1 46)=false:=by
 have hx:x≠45/\x≠46/\bn x.toNat=false:=by
  grind [Bw,bn,rK]
 have hp:∃r,(iP (x::t) 0).1=x::r:=by
  unfold iP;rw[bZ,List.findIdx?_cons];rw[ak (by simpa using hx.1)];cases t.findIdx? (fun c=>c==45)with
  |none=>exact⟨t,rfl⟩
  |some k=>exact⟨t.take k,aJ⟩
 obtain⟨r,hr⟩:=hp;rw[hr];have h46:¬((x.toNat:Int)=46):=fun e=>hx.2.1 (im.1 (by show x.toNat=46;omega))
 obtain⟨q,l,hs⟩:=B5 46 r [x]
 grind [ai,cE,fM,aU,fW,Fe,bn,at8]
def Xk {s:au}(h:ie s=dW s):eP s=if yo s (dW s).1 (eU s) (fu s).2=true then some (fk s)else none:=by
 unfold eP;simp only[h];rfl
def BJ {s:au}:iw s=if oT s/\fM (eU s)=true/\nN (fk s)=true/\ep (fk s)=s then some (fk s)else none:=rfl
def PD {s:au}(h:∀c∈s,c≠45):iP s 0=(s,[]):=by
 grind [iP]
def Ec {k:dI}(hb:nN k=true)(h9:k.op=9):mR k=aS [46] (na k++[[42]]):=by
 obtain⟨_,h0,h3,_,_⟩:=pQ hb;rw[xN h0 h3];unfold mR lV;rw[aw h9,h9];rfl
theorem sL {k:dI}{w:au}(h:w∈na k++[[42]]){c:UInt8}(hc:c∈w):bn c.toNat=true\/c=42:=by
 rcases List.mem_append.1 h with h|h
 .have:=kD h
  grind [ir]
 grind
def Eb {k:dI}{s:au}(hb:nN k=true)(h9:k.op=9)(hs:mR k=s):(0<s.length/\at8 s (s.length-1)=42)/\iP s 0=(s,[])/\ai s 46=na k++[[42]]:=by
 have ht:=Ec hb h9;obtain⟨_,h0,h3,_,_⟩:=pQ hb;rw[hs]at ht;have hch:∀c∈s,bn c.toNat=true\/c=42\/c=46:=by
  grind [n9,sL]
 refine⟨?_,PD (fun c hc=>?_), ?_⟩
 .have he:∃q,s=q++[42]:=by
   rw[ht,xN h0 h3];exact⟨gQ k k.parts.toNat++(if 0<k.parts then [46]else []),by rw[ey]⟩
  obtain⟨q,rfl⟩:=he;simp[at8]
 .rintro rfl;rcases hch 45 hc with h|h|h
  .revert h;decide
  .revert h;decide
  .revert h;decide
 .rw[ht];refine kJ (b:=46) (x:=46) rfl aJ fun w hw c hc=>?_
  rcases sL hw hc with h|h
  .have:=(rJ h).1;omega
  .rw[h];decide
def AD {k:dI}{s:au}(hb:nN k=true)(h7:k.op=7)(hs:mR k=94::s):(∀c∈s,c≠42)/\∃c r,s=c::r/\bn c.toNat=true:=by
 have hp:=Oy hb ae;have e:s=gQ k k.parts.toNat++lV k:=by
  unfold mR at hs;rw[h7,show dQ 7=[94]by decide]at hs;simpa using hs.symm
 obtain⟨c,r,h1,h2⟩:=Bl k _ hp;refine⟨fun c hc=>?_,c,r++lV k,by rw[e,h1];rfl,h2⟩;rw[e]at hc;rcases List.mem_append.1 hc with hc|hc
 .rcases Ht _ c hc with h|h
  .exact(rK h).2
  .rw[h];decide
 .unfold lV at hc;rw[ak ae]at hc;split at hc
  .cases hc
  .rcases cb.1 hc with rfl|hc
   .decide
   .have hv:=(pQ hb).1;simp only[e8,bC]at hv;rcases It hv.1.2 hc with h|h
    .rintro rfl;revert h;decide
    .rw[h];decide
def zm {s:au}:yo s (dW s).1 (eU s) (fu s).2=true↔fM (eU s)=true/\ep (fk s)≠[]/\(ep (fk s)=s\/ep (fk s)=94::s):=Fh
def Rp (s:au):nH s=eP s:=by
 have hcar:dW (94::s)=(7,s):=HG s;have hL7:eU (94::s)=ai (iP s 0).1 46:=by
  unfold eU fu;rw[hcar];rfl
 have hK7:fk (94::s)=gL 7 (ai (iP s 0).1 46) (iP s 0).2:=by
  unfold fk;rw[hL7];unfold fu;rw[hcar]
 cases ho:qK s 0 with
 |some o=>
  obtain⟨o1,o8,x,t,hs,hx,hx94⟩:=Pw ho;have hrw:dW s=(o,s.drop (dQ o).length):=by simp only[dW,ho]
  have hsp:ie s=dW s:=by rw[hrw];simp only[ie,ho]
  have hstar:oT s:=by
   intro h;rw[hrw]at h;simp only at h;omega
  have hcn:iw (94::s)=none:=lx fun h=>by
   have:=h.2.1;rw[hL7,hs,Qj hx]at this;cases this
  have hop:(fk s).op=o:=by show(dW s).1=o;rw[hrw]
  rw[Xk hsp];by_cases hk:fM (eU s)=true/\ep (fk s)=s
  .have hne:ep (fk s)≠[]:=by rw[hk.2,hs];simp
   have hb:=(sZ hne).1;have hr:iw s=some (fk s):=by rw[BJ,aw ⟨hstar,hk.1,hb,hk.2⟩]
   have hok:yo s (dW s).1 (eU s) (fu s).2=true:=zm.2 ⟨hk.1,hne,.inl hk.2⟩;rw[aw hok];unfold nH;rw[hr];rfl
  .have hr:iw s=none:=lx fun h=>hk ⟨h.2.1,h.2.2.2⟩
   have hok:¬yo s (dW s).1 (eU s) (fu s).2=true:=fun h=>by
    obtain⟨h1,h2,h3⟩:=zm.1 h;rcases h3 with h3|h3
    .exact hk ⟨h1,h3⟩
    .obtain⟨hb,he⟩:=sZ h2;have h3':mR (fk s)=94::s:=by rw[<-he];exact h3
     have h7:o=7:=by
      have hh:∃y w,dQ o=y::w/\(y=94->o=7):=by
       have:o=1\/o=2\/o=3\/o=4\/o=5\/o=6\/o=7\/o=8:=ae;rcases this with rfl|rfl|rfl|rfl|rfl|rfl|rfl|rfl
       .exact⟨61,[],aF,aF⟩
       .exact⟨33,[61],aF,aF⟩
       .exact⟨60,[],aF,aF⟩
       .exact⟨60,[61],aF,aF⟩
       .exact⟨62,[],aF,aF⟩
       .exact⟨62,[61],aF,aF⟩
       .exact⟨94,[],aF,aF⟩
       .exact⟨126,[],aF,aF⟩
      obtain⟨y,w,e1,e2⟩:=hh;unfold mR at h3';rw[hop,e1]at h3';simp only[fD,oU]at h3';exact e2 h3'.1
     obtain⟨_,c,r,e1,e2⟩:=AD hb (by rw[hop];exact h7) h3';rw[hs]at e1;simp only[oU]at e1;rw[<-e1.1]at e2;exact hx (rK e2).1
   rw[ak hok];unfold nH;rw[hr,ak aJ,hcn]
 |none=>
  have hrw:dW s=(9,s):=by simp only[dW,ho]
  have h94:∀t,s≠94::t:=by
   rintro t rfl;rw[Bp]at ho;cases ho
  have hop:(fk s).op=9:=by show(dW s).1=9;rw[hrw]
  have hst7:oT (94::s):=by
   intro h;rw[hcar]at h;simp only at h;omega
  by_cases hl:0<s.length/\at8 s (s.length-1)=42
  .have hsp:ie s=dW s:=by rw[hrw];simp only[ie,ho,aw hl]
   have hcn:iw (94::s)=none:=lx fun h=>by
    obtain⟨_,h2,h3,h4⟩:=h;have he:=(sZ (c:=fk (94::s)) (by rw[h4];simp)).2;rw[h4]at he;have hno:=(AD h3 (by rw[hK7];rfl) he.symm).1;have hmem:s[s.length-1]'(ae)∈s:=List.getElem_mem _;refine hno _ hmem (im.1 ?_);have:=hl.2;rw[vw s _ ae]at this;show _=42;omega
   rw[Xk hsp];by_cases hk:fM (eU s)=true/\ep (fk s)=s
   .have hne:ep (fk s)≠[]:=by
     rw[hk.2];intro h;rw[h]at hl;simp at hl
    obtain⟨hb,he⟩:=sZ hne;obtain⟨_,g2,g3⟩:=Eb (s:=s) hb hop (he.symm.trans hk.2);have hstar:oT s:=by
     intro _;have hP:fu s=(s,[]):=by unfold fu;rw[hrw];exact g2
     rw[hP];simp only;rw[g3];simp
    have hr:iw s=some (fk s):=by rw[BJ,aw ⟨hstar,hk.1,hb,hk.2⟩]
    have hok:yo s (dW s).1 (eU s) (fu s).2=true:=zm.2 ⟨hk.1,hne,.inl hk.2⟩;rw[aw hok];unfold nH;rw[hr];rfl
   .have hr:iw s=none:=lx fun h=>hk ⟨h.2.1,h.2.2.2⟩
    have hok:¬yo s (dW s).1 (eU s) (fu s).2=true:=fun h=>by
     obtain⟨h1,h2,h3⟩:=zm.1 h;rcases h3 with h3|h3
     .exact hk ⟨h1,h3⟩
     .obtain⟨hb,he⟩:=sZ h2;have h3':mR (fk s)=94::s:=by rw[<-he];exact h3
      have ht:=Ec hb hop;rw[h3']at ht;have hm:(94:UInt8)∈aS [46] (na (fk s)++[[42]]):=by rw[<-ht];simp
      rcases n9 46 _ _ hm with h|⟨w,hw,hcw⟩
      .revert h;decide
      .rcases sL hw hcw with h|h
       .revert h;decide
       .revert h;decide
    rw[ak hok];unfold nH;rw[hr,ak aJ,hcn]
  .have hsp:ie s=(7,s):=by simp only[ie,ho,ak hl]
   have hr:iw s=none:=lx fun h=>by
    obtain⟨h1,h2,h3,h4⟩:=h;have he:mR (fk s)=s:=(aw h3:ep (fk s)=mR (fk s)).symm.trans h4;exact hl (Eb h3 hop he).1
   have h6:eP s=if yo s 7 (ai (iP s 0).1 46) (iP s 0).2=true then some (fk (94::s))else none:=by
    unfold eP;simp only[hsp];rw[hK7];rfl
   have hRC:nH s=iw (94::s):=by
    unfold nH;rw[hr];rfl
   rw[hRC,h6,BJ];by_cases hok:yo s 7 (ai (iP s 0).1 46) (iP s 0).2=true
   .rw[aw hok];obtain⟨h1,h2,h3⟩:=Fh.1 hok;obtain⟨hb,he⟩:=sZ h2;rcases h3 with h3|h3
    .exfalso;rw[he]at h3;have hh:∃w,mR (gL 7 (ai (iP s 0).1 46) (iP s 0).2)=94::w:=by
      unfold mR;exact⟨_,rfl⟩
     obtain⟨w,hw⟩:=hh;exact h94 w (by rw[<-h3,hw])
    .rw[aw ⟨hst7,by rw[hL7];exact h1,by rw[hK7];exact hb,by rw[hK7];exact h3⟩]
   .rw[ak hok,ak];rintro⟨_,g2,g3,g4⟩;rw[hK7]at g3 g4;rw[hL7]at g2;exact hok (Fh.2 ⟨g2,by rw[g4];simp,.inr g4⟩)
abbrev Alt:=List dI
abbrev An:=List Alt
def rz (a:Alt):D:=.sl 7 (a.map dI.D)
def Jf (a:Alt):(rz a).bJ=true:=rfl
def pg (l k:Nat)(es:List D)(r:List Alt):iV l k es (r.map rz)=r.map rz:=qA l k es _ (br Jf _)
def iJ (r:An):D:=.agg [.sl 1 (r.map rz)]
def kU (a:Alt):Bool:=decide (1<=a.length)&&decide (a.length<=6)&&cS (fun k=>nN a[k]!) 0 a.length
def kQ (r:An):Bool:=decide (1<=r.length)&&decide (r.length<=6)&&cS (fun i=>kU r[i]!) 0 r.length
def jR (a:Alt):au:=aS [44,32] (a.map ep)
def FG (r:An):au:=aS [32,124,124,32] (r.map jR)
def dI.lo (c:dI):Prop:=c.v.pre.length<=1000/\c.v.build.length<=1000
def dI.lo.sm {c:dI}(h:c.lo):c.v.sm:=⟨dp h.1 aF,dp h.2 aF⟩
def oQ (r:An):Prop:=∀a∈r,∀c∈a,c.lo
def tL (b:au)(l:List au)(i:Nat):au:=if 0<i then aS b (l.take i)++b else []
def wZ (b:au)(l:List au)(i:Nat)(h:i<l.length):aS b (l.take (i+1))=tL b l i++l[i]! :=qE b l i h
def S1 (b:au)(l:List au){i:Nat}(h:¬0<i):aS b (l.take i)=tL b l i:=by
 grind [tL,aS]
def AE {c:dI}(h:c.lo):(ep c).length<=1100:=by
 unfold ep;split
 .rename_i hb;obtain⟨hv,h0,h3,_⟩:=pQ hb;have h1:=xF c.op;have h2:=tq hv c.parts.toNat;have ht:(lV c).length<=1001:=by
   unfold lV;have:=h.1
   grind
  simp only[mR,bQ];omega
 .simp
def rY (b:au)(M:Nat):∀(l:List au),(∀t∈l,t.length<=M)->(aS b l).length<=l.length*(M+b.length)
 |[],_=>by simp[aS]
 |[t],h=>by
  grind [aS]
 |t::u::r,h=>by
  have h1:=h t (.head _);have h2:=rY b M (u::r) fun x hx=>h x (.tail _ hx)
  simp only[aS,bQ];simp only[aP,Nat.add_mul,Nat.one_mul]at h2⊢;omega
def Fa {α β:Type} [Inhabited α] [Inhabited β](f:α->β)(l:List α){i:Nat}(h:i<l.length):(l.map f)[i]! =f l[i]! :=by
 simp[h]
def Ao {a:Alt}(h:∀c∈a,c.lo)(hl:a.length<=6):(jR a).length<=6612:=by
 have:=rY [44,32] 1100 (a.map ep) (fun t ht=>by
  obtain⟨c,hc,rfl⟩:=ez.1 ht;exact AE (h c hc))
 grind [jR]
def AK {r:An}(h:kQ r=true){i:Nat}(hi:i<r.length):kU r[i]! =true:=by
 simp only[kQ,bC,aK]at h;exact eD.1 h.2 i ae hi
def wv {a:Alt}(h:kU a=true):1<=a.length/\a.length<=6:=by
 grind [kU]
def TM {r:An}(h:kQ r=true)(hs:oQ r):(FG r).length<=40000:=by
 have h6:r.length<=6:=by simp only[kQ,bC,aK]at h;exact h.1.2
 have:=rY [32,124,124,32] 6612 (r.map jR) (fun t ht=>by
  obtain⟨a,ha,rfl⟩:=ez.1 ht;obtain⟨i,hi,rfl⟩:=List.mem_iff_getElem.1 ha;have h1:=AK h hi;rw[show r[i]! =r[i]by simp[hi]]at h1;exact Ao (hs _ ha) (wv h1).2)
 grind [FG]
def iY {α β:Type} [Inhabited α](f:α->β)(l:List α){i:Nat}(h:i<l.length):(l.map f).take (i+1)=(l.map f).take i++[f l[i]!]:=by
 rw[List.take_add_one];simp[h]
def uH (r:An):Bool:=kQ r&&decide ((FG r).length<=96)
def yv (r:An):au:=if uH r=true then FG r else []
def aR:au->au->List au
 |[],cur=>[cur]
 |[c],cur=>[cur++[c]]
 |c::d::r,cur=>if c=124/\d=124 then cur::aR r []else aR (d::r) (cur++[c])
def kW:au->au
 |[]=>[]
 |c::r=>if c=32 then kW r else c::r
def eO (s:au):au:=(kW (kW s).reverse).reverse
theorem sU:∀s,(kW s).length<=s.length
 |[]=>aL _
 |c::r=>by
  unfold kW;split
  .have:=sU r;simp only[aP];omega
  .exact aL _
theorem wA (s:au):(eO s).length<=s.length:=by
 grind [sU,kW,eO]
def oR:∀(s cur:au),(aR s cur).length<=s.length+1/\(∀t∈aR s cur,t.length<=cur.length+s.length)
 |[],cur=>by simp[aR]
 |[c],cur=>by simp[aR]
 |c::d::r,cur=>by
  unfold aR;split
  .have:=oR r []
   grind
  .have:=oR (d::r) (cur++[c])
   grind
def wOK (t:au):Bool:=cS (fun k=>(eP (eO (ai t 44)[k]!)).isSome) 0 (ai t 44).length
def BX (s:au):Bool:=cS (fun i=>wOK (aR s [])[i]!) 0 (aR s []).length
def nq (t:au):Alt:=(ai t 44).map fun x=>(eP (eO x)).getD eQ
def iS (s:au):An:=(aR s []).map nq
def iR (s:au):An×Int:=
 if 96<s.length then([],3)else if BX s=false then([],6)else if kQ (iS s)=false then([],6)else if 96<(FG (iS s)).length then([],3)else(iS s,0)
def tt (s:au):Bool:=decide ((iR s).2=0)&&decide (yv (iR s).1=s)
theorem Rn {s:au}(h:s.length<=1000):((eP s).getD eQ).lo:=by
 unfold eP;simp only;split
 .have h1:=B4 s;have h2:=Bz (ie s).2;exact⟨by show(iP (ie s).2 0).2.length<=1000;omega,by show([]:au).length<=1000;decide⟩
 .exact⟨by show([]:au).length<=1000;decide,by show([]:au).length<=1000;decide⟩
theorem FH {s:au}(h:s.length<=1000):oQ (iS s):=by
 intro a ha c hc;obtain⟨t,ht,rfl⟩:=ez.1 ha;obtain⟨x,hx,rfl⟩:=ez.1 hc;have h1:=(oR s []).2 t ht;have h2:=dT t 44 hx
 grind [wA,Rn]
def Mj {s:au}:oQ (iR s).1/\((iR s).2=0->kQ (iR s).1=true):=by
 unfold iR;split
 .exact⟨(fun a ha=>by cases ha),fun h=>by cases h⟩
 .split
  .exact⟨(fun a ha=>by cases ha),fun h=>by cases h⟩
  .split
   .exact⟨(fun a ha=>by cases ha),fun h=>by cases h⟩
   .rename_i hf;split
    .exact⟨(fun a ha=>by cases ha),fun h=>by cases h⟩
    grind [FH]
theorem KI {s:au}{i:Nat}(cur:au)(h:i+1<s.length)(h1:at8 s i=124)(h2:at8 s (i+1)=124):aR (s.drop i) cur=cur::aR (s.drop (i+2)) []:=by
 rw[mL s i ae,mL s (i+1) h];have e1:s.getD i 0=124:=im.1 (by simp only[at8]at h1;show(s.getD i 0).toNat=124;omega);have e2:s.getD (i+1) 0=124:=im.1 (by simp only[at8]at h2;show(s.getD (i+1) 0).toNat=124;omega)
 grind [aR]
def Il {s:au}{i:Nat}(cur:au)(h:i+1<s.length)(hn:¬(at8 s i=124/\at8 s (i+1)=124)):aR (s.drop i) cur=aR (s.drop (i+1)) (cur++[s.getD i 0]):=by
 rw[mL s i ae,mL s (i+1) h];simp only[aR];rw[ak];rintro⟨e1,e2⟩;exact hn ⟨by simp only[at8,e1];rfl,by simp only[at8,e2];rfl⟩
def KH {s:au}{i:Nat}(cur:au)(h:s.length<=i+1):aR (s.drop i) cur=[cur++s.drop i]:=by
 have hl:(s.drop i).length<=1:=by rw[jY];omega
 match s.drop i,hl with
 |[],_=>simp[aR]
 |[c],_=>simp[aR]
def Rs {s:au}{i fr:Nat}(h:i<s.length)(hf:fr<=i):(s.take i).drop fr++[s.getD i 0]=(s.take (i+1)).drop fr:=by
 rw[List.take_add_one,List.drop_append_of_le_length (by rw[eu];omega)];simp[h]
def tP (s:au)(i fr:Nat)(acc:List au):Prop:=aR s []=acc++aR (s.drop (max i fr)) ((s.take (max i fr)).drop fr)
def Om {s:au}{i fr:Nat}{acc:List au}(hI:tP s i fr acc)(h:i+1<s.length)(hc:(at8 s i=124/\at8 s (i+1)=124)/\(fr:Int)<=i):tP s (i+1) (i+2) (acc++[(s.take i).drop fr]):=by
 grind [tP,KI]
def Q8 {s:au}{i fr:Nat}{acc:List au}(hI:tP s i fr acc)(h:i+1<s.length)(hf:fr<=i+1)(hc:(¬at8 s i=124\/¬at8 s (i+1)=124)\/¬(fr:Int)<=i):tP s (i+1) fr acc:=by
 unfold tP at hI⊢;by_cases hl:fr<=i
 .rw[hI,Nat.max_eq_left hl,Il _ h (by rcases hc with(hc|hc)|hc;exact fun h=>hc h.1;exact fun h=>hc h.2;omega),Nat.max_eq_left ae,Rs ae hl]
 grind
def Ol {s:au}{i fr:Nat}{acc:List au}(hI:tP s i fr acc)(h:s.length<=i+1)(hl:fr<=s.length):aR s []=acc++[s.drop fr]:=by
 unfold tP at hI;rw[hI,KH _ (by have:=Nat.le_max_left i fr;omega)];congr 2
 conv=>rhs;rw[<-List.take_append_drop (max i fr) s]
 grind
def C3 {t:au}(h:0<t.length)(h0:at8 t 0=32):kW t=kW (t.drop 1):=by
 match t,h with
 |c::r,_=>
  have:c=32:=im.1 (by have h0:((c.toNat:Nat):Int)=32:=h0;show c.toNat=32;omega);subst this;simp[kW]
theorem At {t:au}(h:¬(0:Int)<(t.length:Nat)\/¬at8 t 0=32):kW t=t:=by
 match t with
 |[]=>rfl
 |c::r=>
  rcases h with h|h
  .simp only[aP]at h;omega
  .simp only[kW];rw[ak];rintro rfl;exact h rfl
def Au (u:au):au:=(kW u.reverse).reverse
theorem K6 {u:au}(h:0<u.length):at8 u.reverse 0=at8 u (u.length-1):=by
 grind [at8]
def Oq {u:au}(h:0<u.length)(h0:at8 u (u.length-1)=32):Au u=Au (u.take (u.length-1)):=by
 unfold Au;rw[C3 (by simpa using h) (by rw[K6 h];exact h0)];congr 2;rw[List.drop_reverse]
def Ji {u:au}(h:¬(0:Int)<(u.length:Nat)\/¬at8 u (u.length-1)=32):Au u=u:=by
 grind [Au,At,K6]
def Nd.eq (a b:Nd):jt (Nd.D a).cells (Nd.D b).cells=decide (a=b):=by
 obtain⟨a1,a2,a3,a4,a5⟩:=a;obtain⟨b1,b2,b3,b4,b5⟩:=b
 grind [Nd.D,D.cells,jt,vH,zb]
def kX (n:Nd):Bool:=decide (n.key=0)&&decide (n.text=[])
def ph (n:Nd):Bool:=decide (n.op=1)&&decide (0<=n.key)&&decide (n.key<3)&&cW n.text&&decide (n.a=0)&&decide (n.b=0)
def jB (n:Nd)(i:Nat)(o:List Int):Option (List Int):=
 if ph n=true then some (o++[(i:Int)])
 else if(((n.op=2/\kX n=true)/\0<o.length)/\n.a=o[o.length-1]!)/\n.b=0 then some (o.take (o.length-1)++[(i:Int)])
 else if((((n.op=3\/n.op=4)/\kX n=true)/\1<o.length)/\n.a=o[o.length-2]!)/\n.b=o[o.length-1]! then some (o.take (o.length-2)++[(i:Int)])
 else none
def nJ:List Nd->Nat->List Int->Option (List Int)
 |[],_,o=>some o
 |n::r,i,o=>match jB n i o with
  |some o'=>nJ r (i+1) o'
  |none=>none
def py (l:List Nd):Bool:=match nJ l 0 []with
 |some o=>decide (l.length=0) ||decide (o.length=1)
 |none=>false
def Dd {α:Type} [Inhabited α](l:List α){i:Nat}(h:i<l.length):l.drop i=l[i]! ::l.drop (i+1):=by
 rw[je h];simp[h]
def jx {l:List Nd}{i:Nat}{o o':List Int}(h:i<l.length)(hs:jB l[i]! i o=some o'):nJ (l.drop i) i o=nJ (l.drop (i+1)) (i+1) o':=by
 rw[Dd l h];simp only[nJ,hs]
def gU {l:List Nd}{i:Nat}{o:List Int}(h:i<l.length)(hs:jB l[i]! i o=none):nJ (l.drop i) i o=none:=by
 rw[Dd l h];simp only[nJ,hs]
def DM {l:List Nd}{i:Nat}{o:List Int}(h:l.length<=i):nJ (l.drop i) i o=some o:=by
 rw[lM h];rfl
def Ix {l:List Nd}(h:nJ l 0 []=none):py l=false:=by simp only[py,h]
def kL {l:List Nd}(h:nJ l 0 []=none):(true&&py l)=false:=by rw[Ix h];rfl
def Ga (S:List Int):Int->List Int->Prop
 |e,[]=>e=0
 |e,t::r=>t=e-1/\0<=t/\0<=S[t.toNat]! /\S[t.toNat]! <=t/\Ga S S[t.toNat]! r
def EH {S:List Int}{i:Nat}{v:Int}:∀{r:List Int}{e:Int},e<=i->Ga S e r->Ga (S.set i v) e r
 |[],e,_,h=>h
 |t::r,e,he,⟨h1,h2,h3,h4,h5⟩=>by
  have hg:(S.set i v)[t.toNat]! =S[t.toNat]! :=by
   grind
  exact⟨h1,h2,by rw[hg];exact h3,by rw[hg];exact h4,by rw[hg];exact EH ae h5⟩
def Wk {S:List Int}{i:Nat}{v:Int}(h:i<S.length):(S.set i v)[i]! =v:=by
 simp[h]
def vA {S:List Int}{i:Nat}{v:Int}{r:List Int}(h:i<S.length)(h0:0<=v)(h1:v<=i)(hc:Ga S v r):Ga (S.set i v) ((i+1:Nat):Int) ((i:Int)::r):=by
 have hg:(S.set i v)[((i:Nat):Int).toNat]! =v:=by rw[Int.toNat_natCast];exact Wk h
 exact⟨ae,ae,by rw[hg];exact h0,by rw[hg];exact h1,by rw[hg];exact EH ae hc⟩
def vB {S:List Int}{i:Nat}{o:List Int}(h:Ga S (i:Nat) o.reverse):(0<o.length↔1<=i)/\(1<=i->o[o.length-1]! =(i:Int) -1/\0<=S[i-1]! /\S[i-1]! <=(i:Int) -1/\Ga S S[i-1]! (o.take (o.length-1)).reverse):=by
 rcases List.eq_nil_or_concat o with rfl|⟨p,t,rfl⟩
 .have h:((i:Nat):Int)=0:=h
  grind
 .rw[List.concat_eq_append,List.reverse_append,List.reverse_singleton,List.singleton_append]at h;obtain⟨h1,h2,h3,h4,h5⟩:=h
  grind
def EI {S:List Int}{i:Nat}{o:List Int}(h:Ga S (i:Nat) o.reverse):(1<o.length↔1<=i/\1<=S[i-1]!)/\(1<o.length->o[o.length-2]! =S[i-1]! -1/\0<=S[(S[i-1]! -1).toNat]! /\S[(S[i-1]! -1).toNat]! <=S[i-1]! -1/\Ga S S[(S[i-1]! -1).toNat]! (o.take (o.length-2)).reverse):=by
 obtain⟨h1,h2⟩:=vB h;by_cases hi:1<=i
 .obtain⟨g1,g2,g3,g4⟩:=h2 hi;have hl:=h1.2 hi;rcases List.eq_nil_or_concat o with rfl|⟨p,t,rfl⟩
  .simp at hl
  .rw[List.concat_eq_append]at g4⊢;rw[List.take_append_of_le_length aJ,ee aJ]at g4;rcases List.eq_nil_or_concat p with rfl|⟨q,u,rfl⟩
   .have g4:S[i-1]! =0:=g4;exact⟨⟨fun h=>absurd h aJ,fun h=>ae⟩,fun h=>absurd h aJ⟩
   .rw[List.concat_eq_append]at g4⊢;rw[List.reverse_append,List.reverse_singleton,List.singleton_append]at g4;obtain⟨k1,k2,k3,k4,k5⟩:=g4;subst k1;refine⟨⟨fun _=>⟨hi,ae⟩,fun _=>aJ⟩,fun _=>⟨aJ,k3,k4, ?_⟩⟩;rw[ey,List.take_append_of_le_length aJ,ee aJ];exact k5
 .have:¬0<o.length:=fun h=>hi (h1.1 h)
  exact⟨⟨fun h=>ae,fun h=>absurd h.1 hi⟩,fun h=>ae⟩
def T1 {S:List Int}{n:Nat}{o:List Int}(t1:0<o.length↔1<=n)(t2:1<=n->o[o.length-1]! =(n:Int) -1/\0<=S[n-1]! /\S[n-1]! <=(n:Int) -1/\Ga S S[n-1]! (o.take (o.length-1)).reverse)(u1:1<o.length↔1<=n/\1<=S[n-1]!):
  (decide (n=0) ||decide (o.length=1))=(decide ((n:Nat)=(0:Int)) ||decide (S[n-1]! =0)):=by
 grind
theorem A3 {n:Nd}(h:ph n=true):n.op=1:=by grind [ph]
def KL {n:Nd}{i:Nat}{o:List Int}(h:ph n=true):jB n i o=some (o++[(i:Int)]):=aw h
def FM {n:Nd}{i:Nat}{o:List Int}(h1:n.op=1)(h:ph n=false):jB n i o=none:=by
 grind [jB]
def Io {n:Nd}{i:Nat}{o:List Int}(h1:n.op≠1)(h2:n.op≠2)(h3:n.op≠3)(h4:n.op≠4):jB n i o=none:=by
 grind [jB,A3]
def xJ {S:List Int}{n:Nd}{i:Nat}{o:List Int}(hc:Ga S (i:Nat) o.reverse)(h2:n.op=2):jB n i o=if(1<=i/\n.a=(i:Int) -1/\n.b=0)/\kX n=true then some (o.take (o.length-1)++[(i:Int)])else none:=by
 obtain⟨t1,t2⟩:=vB hc
 grind [jB,A3,kX]
def oo {S:List Int}{n:Nd}{i:Nat}{o:List Int}(hc:Ga S (i:Nat) o.reverse)(h2:n.op=3\/n.op=4):jB n i o=if(2<=i/\n.b=(i:Int) -1/\1<=S[i-1]! /\n.a=S[i-1]! -1)/\kX n=true then some (o.take (o.length-2)++[(i:Int)])else none:=by
 obtain⟨t1,t2⟩:=vB hc;obtain⟨u1,u2⟩:=EI hc;unfold jB;rw[ak (fun h=>by have:=A3 h;omega),ak (by rintro⟨⟨⟨⟨h,_⟩,_⟩,_⟩,_⟩;omega)];by_cases hk:(2<=i/\n.b=(i:Int) -1/\1<=S[i-1]! /\n.a=S[i-1]! -1)/\kX n=true
 .grind
 .rw[ak hk,ak]
  grind
def jV (l:List Nd):Prop:=∀j,j<l.length->(l[j]!.op=1->0<=l[j]!.key/\l[j]!.key<3/\l[j]!.text.length<=12)/\(l[j]!.op≠1->0<=l[j]!.a/\l[j]!.a<j)/\(l[j]!.op≠1->l[j]!.op≠2->0<=l[j]!.b/\l[j]!.b<j)
def JZ {l:List Nd}:∀(k i:Nat) (o o':List Int),i+k=l.length->(∀x∈o,0<=x/\x<(i:Int))->nJ (l.drop i) i o=some o'->
  ∀j,i<=j->j<l.length->(l[j]!.op=1->0<=l[j]!.key/\l[j]!.key<3/\l[j]!.text.length<=12)/\(l[j]!.op≠1->0<=l[j]!.a/\l[j]!.a<j)/\(l[j]!.op≠1->l[j]!.op≠2->0<=l[j]!.b/\l[j]!.b<j):=by
 intro k;induction k with
 |zero=>intro i o o' h1 h2 h3 j h4 h5;omega
 |succ k ih=>
  intro i o o' h1 h2 h3 j h4 h5;have hi:i<l.length:=ae;cases hs:jB l[i]! i o with
  |none=>rw[gU hi hs]at h3;cases h3
  |some o2=>
   rw[jx hi hs]at h3;have hm:∀m,0<m->m<=o.length->0<=o[o.length-m]! /\o[o.length-m]! <(i:Int):=fun m hm1 hm2=>h2 _ (bF ae)
   have hsub:∀m,∀x∈o.take m++[(i:Int)],0<=x/\x<((i+1:Nat):Int):=fun m x hx=>by
    rcases List.mem_append.1 hx with hx|hx
    .have:=h2 x (kD hx);omega
    .simp only[cK]at hx;omega
   unfold jB at hs;split at hs
   .rename_i hl;cases hs;rcases iq i j with hj|hj
    .exact ih (i+1) _ o' ae (by have:=hsub o.length;rwa [ee (aL _)]at this) h3 j hj h5
    .obtain rfl:i=j:=ae;simp only[ph,bC,aK]at hl;have hw:=hl.1.1.2;simp only[cW,bC,aK]at hw;exact⟨fun _=>⟨hl.1.1.1.1.2,hl.1.1.1.2,hw.1.2⟩,fun h=>absurd hl.1.1.1.1.1 h,fun h=>absurd hl.1.1.1.1.1 h⟩
   .split at hs
    .rename_i hl;cases hs;rcases iq i j with hj|hj
     .exact ih (i+1) _ o' ae (hsub _) h3 j hj h5
     .obtain rfl:i=j:=ae;obtain⟨⟨⟨⟨g1,g2⟩,g3⟩,g4⟩,g5⟩:=hl;have:=hm 1 ae ae;exact⟨fun h=>ae,fun _=>by rw[g4];exact this,fun _ h=>absurd g1 h⟩
    .split at hs
     .rename_i hl;cases hs;rcases iq i j with hj|hj
      .exact ih (i+1) _ o' ae (hsub _) h3 j hj h5
      .obtain rfl:i=j:=ae;obtain⟨⟨⟨⟨g1,g2⟩,g3⟩,g4⟩,g5⟩:=hl;have q1:=hm 1 ae ae;have q2:=hm 2 ae ae;exact⟨fun h=>ae,fun _=>by rw[g4];exact q2,fun _ _=>by rw[g5];exact q1⟩
     .cases hs
def qQ {l:List Nd}(h:py l=true):jV l:=by
 unfold py at h;cases ho:nJ l 0 []with
 |none=>rw[ho]at h;cases h
 |some o=>exact fun j hj=>JZ l.length 0 [] o ae aJ ho j (Nat.zero_le _) hj
def Rj (n:Nd)(o:List Int):Bool:=(((decide (n.op=2)&&(decide (n.key=0)&&decide (n.text=[])))&&decide ((0:Int)<(o.length:Nat)))&&decide (n.a=o[o.length-1]!))&&decide (n.b=0)
def Rk (n:Nd)(o:List Int):Bool:=((((decide (n.op=3) ||decide (n.op=4))&&(decide (n.key=0)&&decide (n.text=[])))&&decide ((1:Int)<(o.length:Nat)))&&decide (n.a=o[o.length-2]!))&&decide (n.b=o[o.length-1]!)
def zt (n:Nd)(i:Nat)(o:List Int):jB n i o=if ph n=true then some (o++[(i:Int)])else if Rj n o=true then some (o.take (o.length-1)++[(i:Int)])else if Rk n o=true then some (o.take (o.length-2)++[(i:Int)])else none:=by
 grind [Rj,kX,Rk,jB]
def LH {n:Nd}(h:n.op=1):ph n=!((((decide (n.key<0) ||decide (3<=n.key)) ||!cW n.text) ||!decide (n.a=0)) ||!decide (n.b=0)):=by
 grind [ph,cW]
def zr {S:List Int}{i:Nat}(h:i<S.length)(v:Int):(S.map (D.int .i64)).set (0+i) (v7 ((S.map (D.int .i64)).getD (0+i) .any) 1 1 0 (.int .i64 v))=(S.set i v).map (D.int .i64):=by
 rw[bR,getD_map (q:=D.int .i64) h,List.map_set];rfl
abbrev WW:=List Nd
def lO (m:WW):D:=.agg [.sl 5 (m.map Nd.D)]
def r5:List au:=[[111,115],[97,114,99,104],[97,98,105]]
def uD (k:Int):au:=if k=0 then [111,115]else if k=1 then [97,114,99,104]else [97,98,105]
def lL (s:au)(b:Bool):au:=if b=true then [40,32]++s++[32,41]else s
def vb (l:List Nd):Nat->Int->au
 |0,_=>[]
 |f+1,i=>
  if l[i.toNat]!.op=1 then uD l[i.toNat]!.key++[32,61,32]++l[i.toNat]!.text
  else if l[i.toNat]!.op=2 then
   if l[l[i.toNat]!.a.toNat]!.op=1 then uD l[l[i.toNat]!.a.toNat]!.key++[32,33,61,32]++l[l[i.toNat]!.a.toNat]!.text
   else [110,111,116,32]++lL (vb l f l[i.toNat]!.a) (!decide (l[l[i.toNat]!.a.toNat]!.op=2))
  else if l[i.toNat]!.op=3 then lL (vb l f l[i.toNat]!.a) (decide (l[l[i.toNat]!.a.toNat]!.op=4))++[32,97,110,100,32]++lL (vb l f l[i.toNat]!.b) (decide (l[l[i.toNat]!.b.toNat]!.op=4) ||decide (l[l[i.toNat]!.b.toNat]!.op=3))
  else vb l f l[i.toNat]!.a++[32,111,114,32]++lL (vb l f l[i.toNat]!.b) (decide (l[l[i.toNat]!.b.toNat]!.op=4))
def ng (l:List Nd)(i:Int):au:=vb l (i.toNat+1) i
theorem FW {l:List Nd}(hk:jV l):∀(f g:Nat) (i:Int),0<=i->i<l.length->i<f->i<g->vb l f i=vb l g i
 |0,_,_,_,_,h,_=>ae
 |_,0,_,_,_,_,h=>ae
 |f+1,g+1,i,h0,h1,h2,h3=>by
  obtain⟨k1,k2,k3⟩:=hk i.toNat ae;simp only[vb];by_cases e1:l[i.toNat]!.op=1
  .rw[aw e1,aw e1]
  .rw[ak e1,ak e1];have ka:=k2 e1;rw[FW hk f g l[i.toNat]!.a ae ae ae ae];by_cases e2:l[i.toNat]!.op=2
   .rw[aw e2,aw e2]
   .have kb:=k3 e1 e2;rw[FW hk f g l[i.toNat]!.b ae ae ae ae]
def Mu {l:List Nd}(hk:jV l){i:Int}(h0:0<=i)(h1:i<l.length):ng l i=
  if l[i.toNat]!.op=1 then uD l[i.toNat]!.key++[32,61,32]++l[i.toNat]!.text
  else if l[i.toNat]!.op=2 then
   if l[l[i.toNat]!.a.toNat]!.op=1 then uD l[l[i.toNat]!.a.toNat]!.key++[32,33,61,32]++l[l[i.toNat]!.a.toNat]!.text
   else [110,111,116,32]++lL (ng l l[i.toNat]!.a) (!decide (l[l[i.toNat]!.a.toNat]!.op=2))
  else if l[i.toNat]!.op=3 then lL (ng l l[i.toNat]!.a) (decide (l[l[i.toNat]!.a.toNat]!.op=4))++[32,97,110,100,32]++lL (ng l l[i.toNat]!.b) (decide (l[l[i.toNat]!.b.toNat]!.op=4) ||decide (l[l[i.toNat]!.b.toNat]!.op=3))
  else ng l l[i.toNat]!.a++[32,111,114,32]++lL (ng l l[i.toNat]!.b) (decide (l[l[i.toNat]!.b.toNat]!.op=4)):=by
 obtain⟨k1,k2,k3⟩:=hk i.toNat ae
 grind [ng,vb,FW]
def ot (s:au)(b:Bool):(lL s b).length<=s.length+4:=by
 unfold lL;split<;>simp
def tg {k:Int}(h0:0<=k)(h3:k<3):r5[k.toNat]! =uD k:=by
 obtain rfl|rfl|rfl:k=0\/k=1\/k=2:=ae
 .rfl
 .rfl
 .rfl
def Sa {k:Int}(h0:0<=k)(h3:k<3):nT (([.str [111,115],.str [97,114,99,104],.str [97,98,105]]:List D).getD (0+k.toNat) .any) 1 1 0 false=.str (uD k):=by
 obtain rfl|rfl|rfl:k=0\/k=1\/k=2:=ae
 .rfl
 .rfl
 .rfl
def p0 (k:Int):(uD k).length<=4:=by
 grind [uD]
def Cc {l:List Nd}(hk:jV l):∀(f:Nat) (i:Int),0<=i->i<l.length->(vb l f i).length+20<=20*2^(f+1)
 |0,i,_,_=>by simp[vb]
 |f+1,i,h0,h1=>by
  obtain⟨k1,k2,k3⟩:=hk i.toNat ae;have hp:20*2^(f+1+1)=20*2^(f+1)+20*2^(f+1):=by rw[Nat.pow_succ 2 (f+1)];omega
  have h1p:1<=2^(f+1):=Nat.one_le_two_pow;simp only[vb];by_cases e1:l[i.toNat]!.op=1
  .rw[aw e1];have:=p0 l[i.toNat]!.key;have:=k1 e1;simp only[bQ,aP,a8];omega
  .rw[ak e1];have ka:=k2 e1;have la:=Cc hk f l[i.toNat]!.a ae ae;have wa:=fun b=>ot (vb l f l[i.toNat]!.a) b
   by_cases e2:l[i.toNat]!.op=2
   .rw[aw e2];split
    .rename_i e3;have:=p0 l[l[i.toNat]!.a.toNat]!.key;have:=((hk l[i.toNat]!.a.toNat ae).1 e3).2.2;simp only[bQ,aP,a8];omega
    .have:=wa (!decide (l[l[i.toNat]!.a.toNat]!.op=2));simp only[bQ,aP,a8];omega
   .rw[ak e2];have kb:=k3 e1 e2;have lb:=Cc hk f l[i.toNat]!.b ae ae;have wb:=fun b=>ot (vb l f l[i.toNat]!.b) b
    split
    .have:=wa (decide (l[l[i.toNat]!.a.toNat]!.op=4));have:=wb (decide (l[l[i.toNat]!.b.toNat]!.op=4) ||decide (l[l[i.toNat]!.b.toNat]!.op=3));simp only[bQ,aP,a8];omega
    .have:=wb (decide (l[l[i.toNat]!.b.toNat]!.op=4));simp only[bQ,aP,a8];omega
def sM {l:List Nd}(hk:jV l)(hl:l.length<=15){i:Int}(h0:0<=i)(h1:i<l.length):(ng l i).length<=1310720:=by
 have h:=Cc hk (i.toNat+1) i h0 h1;have:2^(i.toNat+1+1)<=2^16:=Nat.pow_le_pow_right ae ae;unfold ng;omega
def qS (l:List Nd):au:=if l.length=0 then []else ng l ((l.length:Int) -1)
def Ba (l:List Nd):Bool:=(decide (l.length<=15)&&py l)&&decide ((qS l).length<=96)
def Xj (l:List Nd):au:=if Ba l=true then qS l else []
abbrev PR:=Option (Int×List au×List Nd)
def jl (k:au):Int:=if k=[111,115]then 0 else if k=[97,114,99,104]then 1 else if k=[97,98,105]then 2 else-1
def nt (k s v:au):Bool:=(decide (0<=jl k)&&cW v)&&(decide (s=[61]) ||decide (s=[33,61]))
def xW (k s v:au)(r:List au)(nd:List Nd):Int×List au×List Nd:=
 if s=[33,61]then(((nd++[(⟨1,0,0,jl k,v⟩:Nd)]).length:Nat),r,(nd++[⟨1,0,0,jl k,v⟩])++[⟨2,(nd.length:Nat),0,0,[]⟩])
 else((nd.length:Nat),r,nd++[⟨1,0,0,jl k,v⟩])
def rA (k:au)(w:List au)(nd:List Nd):PR:=match w with
 |s::v::r=>if nt k s v=true then some (xW k s v r nd)else none
 |_=>none
def lS (part:List au->List Nd->PR)(wd:au)(op:Int):Nat->Int->List au->List Nd->PR
 |0,a,w,nd=>some (a,w,nd)
 |f+1,a,w,nd=>match w with
  |[]=>some (a,w,nd)
  |x::r=>if x=wd then(match part r nd with
    |none=>none
    |some (b,w',nd')=>lS part wd op f (nd'.length:Nat) w' (nd'++[⟨op,a,b,0,[]⟩]))
   else some (a,w,nd)
def iZ (part:List au->List Nd->PR)(wd:au)(op:Int)(w:List au)(nd:List Nd):PR:=match part w nd with
 |none=>none
 |some (a,w',nd')=>lS part wd op w'.length a w' nd'
def rb:au:=[110,111,116]
def ij:au:=[40]
def lJ:au:=[41]
def lW:au:=[97,110,100]
def rv:au:=[111,114]
def pE (r:PR):PR:=match r with
 |some (a,x::w',nd')=>if x=lJ then some (a,w',nd')else none
 |_=>none
def Zn (r:PR):PR:=match r with
 |some (a,w',nd')=>some ((nd'.length:Nat),w',nd'++[⟨2,a,0,0,[]⟩])
 |none=>none
def tH:Nat->List au->List Nd->PR
 |0,_,_=>none
 |f+1,w,nd=>match w with
  |[]=>none
  |k::r=>if k=rb then Zn (tH f r nd)
   else if k=ij then pE (iZ (iZ (tH f) lW 3) rv 4 r nd)
   else rA k r nd
def PB (w:List au)(nd:List Nd)(w':List au)(nd':List Nd):Prop:=w'.length<=w.length/\nd'.length+2*w'.length<=nd.length+2*w.length/\w'<:+w
def vn (part:List au->List Nd->PR):Prop:=∀w nd a w' nd',part w nd=some (a,w',nd')->PB w nd w' nd'/\w'.length<w.length
def PB.refl (w:List au)(nd:List Nd):PB w nd w nd:=⟨aL _,aL _,mI _⟩
def PB.trans {w nd w' nd' w2 nd2}(h:PB w nd w' nd')(h2:PB w' nd' w2 nd2):PB w nd w2 nd2:=⟨dp h2.1 h.1,dp h2.2.1 h.2.1,h2.2.2.trans h.2.2⟩
def PB.tail {x:au}{w:List au}{nd:List Nd}{w':List au}{nd':List Nd}(h:PB w nd w' nd')(n:Nd):PB (x::w) nd w' (nd'++[n]):=by
 obtain⟨h1,h2,h3⟩:=h;refine⟨by simp only[aP];omega,by simp only[bQ,aP,a8];omega,h3.trans (List.suffix_cons x w)⟩
def PB.wc {x:au}{w:List au}{nd:List Nd}{w':List au}{nd':List Nd}(h:PB w nd w' nd'):PB (x::w) nd w' nd':=by
 obtain⟨h1,h2,h3⟩:=h;exact⟨by simp only[aP];omega,by simp only[aP];omega,h3.trans (List.suffix_cons x w)⟩
def A5 {part:List au->List Nd->PR}(hp:vn part)(wd:au)(op:Int):∀(f:Nat) (a:Int) (w:List au) (nd:List Nd) (a':Int) (w':List au) (nd':List Nd),lS part wd op f a w nd=some (a',w',nd')->PB w nd w' nd'
 |0,a,w,nd,a',w',nd',h=>by simp only[lS,bh,eH]at h;obtain⟨rfl,rfl,rfl⟩:=h;exact .refl _ _
 |f+1,a,[],nd,a',w',nd',h=>by simp only[lS,bh,eH]at h;obtain⟨rfl,rfl,rfl⟩:=h;exact .refl _ _
 |f+1,a,x::r,nd,a',w',nd',h=>by
  simp only[lS]at h;by_cases hx:x=wd
  .rw[aw hx]at h;cases hq:part r nd with
   |none=>rw[hq]at h;cases h
   |some t=>
    obtain⟨b,w2,nd2⟩:=t;rw[hq]at h;exact((hp _ _ _ _ _ hq).1.tail _).trans (A5 hp wd op f _ _ _ _ _ _ h)
  .rw[ak hx]at h;simp only[bh,eH]at h;obtain⟨rfl,rfl,rfl⟩:=h;exact .refl _ _
def mQ {part:List au->List Nd->PR}(hp:vn part)(wd:au)(op:Int):vn (iZ part wd op):=by
 intro w nd a w' nd' h;unfold iZ at h;cases hq:part w nd with
 |none=>rw[hq]at h;cases h
 |some t=>
  obtain⟨b,w2,nd2⟩:=t;rw[hq]at h;obtain⟨h1,h2⟩:=hp _ _ _ _ _ hq;have:=A5 hp wd op _ _ _ _ _ _ _ h;exact⟨h1.trans this,Nat.lt_of_le_of_lt this.1 h2⟩
theorem qp {k:au}{w:List au}{nd:List Nd}{a:Int}{w':List au}{nd':List Nd}(h:rA k w nd=some (a,w',nd')):PB w nd w' nd':=by
 match w,h with
 |s::v::r,h=>
  simp only[rA]at h;split at h
  .simp only[bh]at h;unfold xW at h;have hs:r<:+s::v::r:=(List.suffix_cons v r).trans (List.suffix_cons s _);split at h<;>(simp only[eH]at h;obtain⟨rfl,rfl,rfl⟩:=h;exact⟨by simp only[aP];omega,by simp only[bQ,aP,a8];omega,hs⟩)
  .cases h
 |[_],h=>cases h
 |[],h=>cases h
def lZ:∀f,vn (tH f)
 |0=>fun w nd a w' nd' h=>by cases h
 |f+1=>by
  intro w nd a w' nd' h
  match w,h with
  |[],h=>cases h
  |k::r,h=>
   simp only[tH]at h;split at h
   .cases hq:tH f r nd with
    |none=>rw[hq]at h;cases h
    |some t=>
     obtain⟨b,w2,nd2⟩:=t;rw[hq]at h;simp only[Zn,bh,eH]at h;obtain⟨rfl,rfl,rfl⟩:=h;obtain⟨h1,h2⟩:=lZ f _ _ _ _ _ hq;exact⟨h1.tail _,by simp only[aP];omega⟩
   .split at h
    .cases hq:iZ (iZ (tH f) lW 3) rv 4 r nd with
     |none=>rw[hq]at h;cases h
     |some t=>
      obtain⟨b,w2,nd2⟩:=t;rw[hq]at h;obtain⟨h1,h2⟩:=mQ (mQ (lZ f) _ _) _ _ _ _ _ _ _ hq
      match w2,h,h1,h2 with
      |[],h,_,_=>cases h
      |x::w3,h,h1,h2=>
       simp only[pE]at h;split at h
       .simp only[bh,eH]at h;obtain⟨rfl,rfl,rfl⟩:=h;exact⟨(h1.trans (PB.refl _ _).wc).wc,by simp only[aP]at h2⊢;omega⟩
       .cases h
    .exact⟨(qp h).wc,by have:=(qp h).1;simp only[aP];omega⟩
def Hk {p p':List au->List Nd->PR}(hp:vn p)(wd:au)(op:Int){u:Nat}(h:∀w nd,w.length<u->p w nd=p' w nd):∀(f:Nat) (a:Int) (w:List au) (nd:List Nd),w.length<=u->lS p wd op f a w nd=lS p' wd op f a w nd
 |0,a,w,nd,hu=>rfl
 |f+1,a,[],nd,hu=>rfl
 |f+1,a,x::r,nd,hu=>by
  simp only[aP]at hu;simp only[lS];split
  .rw[<-h r nd ae];cases hq:p r nd with
   |none=>rfl
   |some t=>
    obtain⟨b,w2,nd2⟩:=t;have:=hp _ _ _ _ _ hq;exact Hk hp wd op h f _ _ _ ae
  .rfl
def sV {p p':List au->List Nd->PR}(hp:vn p)(wd:au)(op:Int){u:Nat}(h:∀w nd,w.length<u->p w nd=p' w nd):∀w nd,w.length<u->iZ p wd op w nd=iZ p' wd op w nd:=by
 intro w nd hu;unfold iZ;rw[<-h w nd hu];cases hq:p w nd with
 |none=>rfl
 |some t=>
  obtain⟨b,w2,nd2⟩:=t;have:=hp _ _ _ _ _ hq;exact Hk hp wd op h _ _ _ _ ae
def Lk:∀(u f g:Nat) (w:List au) (nd:List Nd),w.length<u->w.length<=f->w.length<=g->tH f w nd=tH g w nd
 |0,_,_,_,_,h,_,_=>absurd h (Nat.not_lt_zero _)
 |u+1,f,g,[],nd,hu,hf,hg=>by cases f<;>cases g<;>rfl
 |u+1,0,_,_::_,_,_,h,_=>by simp at h
 |u+1,_,0,_::_,_,_,_,h=>by simp at h
 |u+1,f+1,g+1,k::r,nd,hu,hf,hg=>by
  simp only[aP]at hu hf hg;have ih:∀w nd,w.length<r.length+1->tH f w nd=tH g w nd:=fun w nd h=>Lk u f g w nd ae ae ae
  simp only[tH];rw[ih r nd ae,sV (mQ (lZ f) _ _) rv 4 (sV (lZ f) lW 3 ih) r nd ae]
def kn (w:List au)(nd:List Nd):PR:=tH w.length w nd
def kZ:List au->List Nd->PR:=iZ kn lW 3
def jf:List au->List Nd->PR:=iZ kZ rv 4
def wM:vn kn:=fun w nd a w' nd' h=>lZ _ w nd a w' nd' h
def Az:vn kZ:=mQ wM _ _
def zc (k:au)(r:List au)(nd:List Nd):kn (k::r) nd=if k=rb then Zn (kn r nd)else if k=ij then pE (jf r nd)else rA k r nd:=by
 show tH (r.length+1) (k::r) nd=_;simp only[tH];have ih:∀w nd,w.length<r.length+1->tH r.length w nd=kn w nd:=fun w nd h=>Lk (r.length+1) _ _ w nd h ae (aL _)
 rw[show tH r.length r nd=kn r nd from rfl,sV (mQ (lZ _) _ _) rv 4 (sV (lZ _) lW 3 ih) r nd ae];rfl
def Dz {part:List au->List Nd->PR}{wd:au}{op:Int}{f:Nat}{a:Int}{nd:List Nd}:lS part wd op f a [] nd=some (a,[],nd):=by cases f<;>rfl
theorem Sl {part:List au->List Nd->PR}{wd:au}{op:Int}{f:Nat}{a:Int}{w:List au}{nd:List Nd}(h:w.head? ≠some wd):lS part wd op f a w nd=some (a,w,nd):=by
 cases f with
 |zero=>rfl
 |succ f=>match w,h with
  |[],_=>rfl
  |x::r,h=>simp only[lS];rw[ak (by rintro rfl;exact h rfl)]
def A6 {part:List au->List Nd->PR}(hp:vn part){wd:au}{op:Int}:∀(f g:Nat) (a:Int) (w:List au) (nd:List Nd),w.length<=f->w.length<=g->lS part wd op f a w nd=lS part wd op g a w nd
 |_,_,a,[],nd,_,_=>by rw[Dz,Dz]
 |0,_,_,_::_,_,h,_=>by simp at h
 |_,0,_,_::_,_,_,h=>by simp at h
 |f+1,g+1,a,x::r,nd,hf,hg=>by
  simp only[aP]at hf hg;simp only[lS];split
  .cases hq:part r nd with
   |none=>rfl
   |some t=>
    obtain⟨b,w2,nd2⟩:=t;have:=hp _ _ _ _ _ hq;exact A6 hp f g _ _ _ ae ae
  .rfl
def LN (part:List au->List Nd->PR)(wd:au)(op:Int)(a:Int)(w:List au)(nd:List Nd):PR:=lS part wd op w.length a w nd
def Pf {part:List au->List Nd->PR}(hp:vn part){wd:au}{op:Int}{a:Int}{r:List au}{nd:List Nd}:LN part wd op a (wd::r) nd=match part r nd with
  |none=>none
  |some (b,w',nd')=>LN part wd op (nd'.length:Nat) w' (nd'++[⟨op,a,b,0,[]⟩]):=by
 show lS part wd op (r.length+1) a (wd::r) nd=_;simp only[lS,aW];cases hq:part r nd with
 |none=>rfl
 |some t=>
  obtain⟨b,w2,nd2⟩:=t;have:=hp _ _ _ _ _ hq;exact A6 hp _ _ _ _ _ ae (aL _)
structure PO where
 a:Int
 w:List au
 nd:List Nd
 bad:Bool
def eC (R:PR)(w:List au)(nd:List Nd)(o:PO):Prop:=(R=some (o.a,o.w,o.nd)/\o.bad=false\/R=none/\o.bad=true)/\PB w nd o.w o.nd
def JT (s:au):Option (List Nd):=match jf (ai s 32) []with
 |some (_,[],nd)=>if Ba nd=true then some nd else none
 |_=>none
def m5 (s:au):List Nd×Int:=if 96<s.length then([],3)else if s=[]then([],0)else match JT s with
 |some nd=>(nd,0)
 |none=>([],7)
def qH (s:au):Bool:=decide ((m5 s).2=0)&&decide (Xj (m5 s).1=s)
abbrev Gi:=List au->D->Bool->D
def iW:Gi:=fun w X b=>.agg [.sl 1 (w.map D.str),X,.bool b]
def jn (W:List au):Gi:=fun w X b=>.agg [.sl 1 (W.map D.str),.int .i64 ((W.length-w.length:Nat):Int),X,.bool b]
def pD (Y:Ctx)(k:Nat)(ob:Gi)(n:Nat)(apT:List D)(w:List au)(nd:List Nd)(b:Bool)(P:PO->Prop)(V:PO->D):Prop:=
 ∀(nx lp ln:Nat) (m:List (Nat×bX)) (K:D->St->Prop),look m lp=some (.buf k [ob w (.own ln 5 0 nd.length) b])->look m ln=some (.buf 5 (nd.map Nd.D))->lp<nx->ln<nx->
  (∀o,P o->K (V o) ⟨nx+1,(nx,.buf 5 (o.nd.map Nd.D))::dH (cJ m ln) lp (.buf k [ob o.w (.own nx 5 0 o.nd.length) o.bad])⟩)->Y.tr n (.ptr lp k 0 0::apT) ⟨nx,m⟩ K
def UO (Y:Ctx)(k:Nat)(ob:Gi)(n:Nat)(apT:List D)(w:List au)(nd:List Nd)(b:Bool)(P:PO->Prop)(V:PO->D):Prop:=
 ∀(nx lp ln:Nat) (m:List (Nat×bX)) (K:D->St->Prop),look m lp=some (.buf k [ob w (.own ln 5 0 nd.length) b])->look m ln=some (.buf 5 (nd.map Nd.D))->lp<nx->ln<nx->
  (∀o,P o->K (V o) ⟨nx,dH m lp (.buf k [ob o.w (.own ln 5 0 nd.length) o.bad])⟩)->Y.tr n (.ptr lp k 0 0::apT) ⟨nx,m⟩ K
def yE (k:Nat)(ob:Gi)(P:PO->Prop)(V:PO->D):D->List (Nat×bX)->Prop:=fun d m=>∃(o:PO) (j:Nat),2<=j/\P o/\d=V o/\look m 0=some (.buf k [ob o.w (.own j 5 0 o.nd.length) o.bad])/\look m j=some (.buf 5 (o.nd.map Nd.D))
def K3 (k:Nat)(ob:Gi)(nd:List Nd)(P:PO->Prop)(V:PO->D):D->List (Nat×bX)->Prop:=fun d m=>∃(o:PO),P o/\d=V o/\look m 0=some (.buf k [ob o.w (.own 1 5 0 nd.length) o.bad])/\look m 1=some (.buf 5 (nd.map Nd.D))
def Va:PO->D:=fun o=>.int .i64 o.a
def Zj {m:List (Nat×bX)}(x:Nd):Uj m [.a,.a,.a,.a,.a] (Nd.D x):=⟨rfl,rfl,rfl,rfl,rfl,rfl⟩
def Sz {m:List (Nat×bX)}{lp ln:Nat}{w:List au}{nd:List Nd}{b:Bool}(h1:look m lp=some (.buf 3 [iW w (.own ln 5 0 nd.length) b]))(h2:look m ln=some (.buf 5 (nd.map Nd.D))):
  lv m [[.pt [.sl 1 [.a],.sl 5 [.a,.a,.a,.a,.a],.a]]] [.ptr lp 3 0 0]:=by
 refine⟨⟨by simp[fZ,h1], ?_⟩,trivial⟩;intro e he;simp only[bD,h1,cK]at he;subst he;refine⟨rfl,⟨by simp[fZ,h2], ?_⟩,rfl,rfl⟩;simp only[bD,h2,bZ,aN];intro e he;obtain⟨x,_,rfl⟩:=ez.1 he;exact Zj x
def bA (w:List au):au:=w.headD []
def bY (w:List au):List au:=if bA w=[]then w else w.drop 1
def dR (w:List au)(b:Bool):Bool:=if bA w=[]then true else b
def tz {w:List au}{x:au}(hx:x≠[])(h:bA w=x):∃r,w=x::r:=by
 match w,h with
 |[],h=>exact absurd h.symm hx
 |y::r,h=>exact⟨r,by rw[show y=x from h]⟩
def TX {w:List au}(h:¬bA w=[]):1<=w.length:=by
 match w,h with
 |[],h=>exact absurd rfl h
 |_::_,_=>simp
def kC {x:au}{r:List au}(hx:x≠[]):bY (x::r)=r:=ak hx
def kB {x:au}{r:List au}{b:Bool}(hx:x≠[]):dR (x::r) b=b:=ak hx
def Qr (w:List au):bY w<:+w:=by
 unfold bY;split
 .exact mI _
 .exact List.drop_suffix 1 w
def qm (w:List au)(nd:List Nd):PB w nd (bY w) nd:=by
 have h:=Qr w;have:=h.length_le;exact⟨this,ae,h⟩
theorem TW {w:List au}{b:Bool}(h:dR w b=false):b=false/\bA w≠[]/\w=bA w::bY w:=by
 unfold dR at h;split at h
 .cases h
 .rename_i hs;refine⟨h,hs, ?_⟩
  match w,hs with
  |x::r,hs=>rw[kC (x:=x) (r:=r) hs];rfl
def ow (b:Bool)(k:au)(w:List au)(nd:List Nd):PR:=if b=true then none else rA k w nd
theorem He {j:Nat}{k:au}(hj:j<3)(h:r5[j]! =k):jl k=(j:Nat):=by
 obtain rfl|rfl|rfl:j=0\/j=1\/j=2:=ae
 all_goals (subst h;rfl)
def Dv {k:au}(h:0<=jl k):∃j,j<3/\r5[j]! =k/\jl k=(j:Nat):=by
 unfold jl at h⊢;by_cases h1:k=[111,115]
 .exact⟨0,ae,h1.symm,by rw[aw h1];rfl⟩
 .by_cases h2:k=[97,114,99,104]
  .exact⟨1,ae,h2.symm,by rw[ak h1,aw h2];rfl⟩
  .by_cases h3:k=[97,98,105]
   .exact⟨2,ae,h3.symm,by rw[ak h1,ak h2,aw h3];rfl⟩
   grind
def JB (j:Nat)(k s v:au)(bad:Bool):Bool:=!(((!decide (r5[j]! =k) ||bad) ||(!decide (s=[61])&& !decide (s=[33,61]))) ||!cW v)
def RY {j:Nat}{k:au}{w:List au}{nd:List Nd}{b:Bool}(hj:j<3)(h:JB j k (bA w) (bA (bY w)) (dR (bY w) (dR w b))=true):
  ow b k w nd=some (xW k (bA w) (bA (bY w)) (bY (bY w)) nd)/\jl k=(j:Nat)/\dR (bY w) (dR w b)=false:=by
 grind [JB,He,TW,ow,rA,nt]
def Vv {k:au}{w:List au}{nd:List Nd}{b:Bool}(h:∀j,j<3->JB j k (bA w) (bA (bY w)) (dR (bY w) (dR w b))=false):ow b k w nd=none:=by
 unfold ow;split
 .rfl
 .rename_i hb
  match w with
  |[]=>rfl
  |[_]=>rfl
  |s::v::r=>
   simp only[rA];rw[ak];intro ha;simp only[nt,bC,cN,aK]at ha;obtain⟨⟨h1,h2⟩,h3⟩:=ha;obtain⟨j,hj,hj2,_⟩:=Dv h1;have hs:s≠[]:=by rintro rfl;rcases h3 with h|h<;>cases h
   have hv:v≠[]:=by rintro rfl;cases h2
   have:=h j hj;rw[kC hs,kB hs,kB hv]at this;simp only[Bool.not_eq_true]at hb;subst hb;revert this;simp only[JB,bA,List.headD_cons,hj2,h2,decide_true];rcases h3 with rfl|rfl<;>simp
def K7 (w:List au)(nd:List Nd):PB w nd (bY (bY w)) nd:=(qm w nd).trans (qm _ nd)
def Ar {b:Bool}{k:au}{w:List au}{nd:List Nd}{a:Int}{w':List au}{nd':List Nd}(h:ow b k w nd=some (a,w',nd')):PB w nd w' nd':=by
 grind [ow,qp]
def RE {w:List au}{nd:List Nd}(h1:bA w≠rb)(h2:bA w≠ij):kn w nd=ow (dR w false) (bA w) (bY w) nd:=by
 match w with
 |[]=>rfl
 |k::r=>
  have h1:k≠rb:=h1;have h2:k≠ij:=h2;rw[zc,ak h1,ak h2];by_cases hk:k=[]
  .subst hk;show rA [] r nd=none
   match r with
   |[]=>rfl
   |[_]=>rfl
   |s::v::r=>rfl
  .rw[kC hk,kB hk];rfl
def Rl {R:PR}{o:PO}{w:List au}{nd:List Nd}(h:eC R w nd o)(hs:bA o.w≠lJ):pE R=none:=by
 rcases h.1 with⟨h1,_⟩|⟨h1,_⟩
 .rw[h1]
  match ho:o.w,hs with
  |[],_=>rfl
  |x::r,hs=>simp only[pE];exact ak hs
 .rw[h1];rfl
def eC.pb {R:PR}{o:PO}{w:List au}{nd:List Nd}(h:eC R w nd o):PB w nd o.w o.nd:=h.2
def L4 {r:List au}{nd:List Nd}{o:PO}(h:eC (kn r nd) r nd o):eC (kn (rb::r) nd) (rb::r) nd ⟨(o.nd.length:Nat),o.w,o.nd++[⟨2,o.a,0,0,[]⟩],o.bad⟩:=by
 refine⟨?_,h.2.tail _⟩;rw[zc,aw rfl];rcases h.1 with⟨h1,h2⟩|⟨h1,h2⟩
 .left;rw[h1];exact⟨rfl,h2⟩
 .right;rw[h1];exact⟨rfl,h2⟩
def vJ (r:List au)(nd:List Nd):kn (ij::r) nd=pE (jf r nd):=by rw[zc,ak aF,aw rfl]
def Hx {r:List au}{nd:List Nd}{o:PO}(h:eC (jf r nd) r nd o)(hs:¬bA o.w=lJ):eC (kn (ij::r) nd) (ij::r) nd ⟨o.a,bY o.w,o.nd,true⟩:=
 ⟨.inr ⟨by rw[vJ,Rl h hs],rfl⟩,h.2.wc.trans (qm _ _)⟩
def SU {r:List au}{nd:List Nd}{o:PO}(h:eC (jf r nd) r nd o)(hs:bA o.w=lJ):eC (kn (ij::r) nd) (ij::r) nd ⟨o.a,bY o.w,o.nd,dR o.w o.bad⟩:=by
 refine⟨?_,h.2.wc.trans (qm _ _)⟩;obtain⟨q,hq⟩:=tz aF hs;rw[vJ,hq,kC aF,kB aF];rcases h.1 with⟨h1,h2⟩|⟨h1,h2⟩
 .grind [pE]
 .right;rw[h1];exact⟨rfl,h2⟩
def SS {w:List au}{nd:List Nd}{o:PO}(hf:kn w nd=ow (dR w false) (bA w) (bY w) nd)(h:eC (ow (dR w false) (bA w) (bY w) nd) (bY w) nd o):eC (kn w nd) w nd o:=
 ⟨by rw[hf];exact h.1,(qm w nd).trans h.2⟩
def So {s:au}{o:PO}(h:eC (jf (ai s 32) []) (ai s 32) [] o)(hc:((o.bad ||decide ((0:Int)<(o.w.length:Nat))) ||!Ba o.nd)=true):JT s=none:=by
 unfold JT;rcases h.1 with⟨h1,h2⟩|⟨h1,h2⟩
 .grind
 .rw[h1]
def LU {s:au}{o:PO}(h:eC (jf (ai s 32) []) (ai s 32) [] o)(hc:((o.bad ||decide ((0:Int)<(o.w.length:Nat))) ||!Ba o.nd)=false):JT s=some o.nd:=by
 simp only[de,bc,bM]at hc;unfold JT;rcases h.1 with⟨h1,h2⟩|⟨h1,h2⟩
 .rw[h1]
  match hw:o.w with
  |[]=>simp only[hc.2,aW]
  |x::r=>exact absurd hc.1.2 (by rw[hw];simp)
 grind
def LR {s:au}{nd:List Nd}(h1:¬96<s.length)(h2:¬s=[])(h:JT s=some nd):m5 s=(nd,0):=by simp only[m5,h,ak h1,ak h2]
def LP {s:au}(h1:¬96<s.length)(h2:¬s=[])(h:JT s=none):m5 s=([],7):=by simp only[m5,h,ak h1,ak h2]
def I2 (part:List au->List Nd->PR)(wd:au)(op:Int)(R:PR)(w:List au)(nd:List Nd)(o:PO):Prop:=(o.bad=false/\R=LN part wd op o.a o.w o.nd\/o.bad=true/\R=none)/\PB w nd o.w o.nd
def I2.first {part:List au->List Nd->PR}{wd:au}{op:Int}{w:List au}{nd:List Nd}{o:PO}(h:eC (part w nd) w nd o):I2 part wd op (iZ part wd op w nd) w nd o:=by
 refine⟨?_,h.2⟩;rcases h.1 with⟨h1,h2⟩|⟨h1,h2⟩
 .left;refine⟨h2, ?_⟩;unfold iZ;rw[h1];rfl
 grind [iZ]
def I2.next {part:List au->List Nd->PR}(hp:vn part){wd:au}{op:Int}{R:PR}{w:List au}{nd:List Nd}{a:Int}{r:List au}{nd1:List Nd}{o:PO}(h:I2 part wd op R w nd ⟨a,wd::r,nd1,false⟩)(h2:eC (part r nd1) r nd1 o):
  I2 part wd op R w nd ⟨(o.nd.length:Nat),o.w,o.nd++[⟨op,a,o.a,0,[]⟩],o.bad⟩:=by
 refine⟨?_,h.2.trans (h2.2.tail _)⟩;rcases h.1 with⟨_,h1⟩|⟨h1,_⟩
 .rw[Pf hp]at h1;rcases h2.1 with⟨g1,g2⟩|⟨g1,g2⟩
  .left;exact⟨g2,by rw[h1,g1]⟩
  .right;exact⟨g2,by rw[h1,g1]⟩
 .cases h1
def I2.last {part:List au->List Nd->PR}{wd:au}{op:Int}{R:PR}{w:List au}{nd:List Nd}{o:PO}(h:I2 part wd op R w nd o)(hx:o.bad=true\/o.w.head? ≠some wd):eC R w nd o:=by
 refine⟨?_,h.2⟩;rcases h.1 with⟨h1,h2⟩|⟨h1,h2⟩
 .grind [LN,Sl]
 .right;exact⟨h2,h1⟩
def gZ (w:List au)(s:au):Bool:=match w with
 |x::_=>decide (x=s)
 |[]=>false
def pk (w:List au)(s:au):List au:=if gZ w s=true then w.drop 1 else w
def rB (w:List au)(b:Bool):Bool:=if w=[]then true else b
def oc {w:List au}{s:au}(h:gZ w s=true):∃r,w=s::r:=by
 match w,h with
 |x::r,h=>exact⟨r,by rw[show x=s by simpa[gZ]using h]⟩
theorem uJ (s:au)(r:List au):gZ (s::r) s=true:=by simp[gZ]
def mr (s:au)(r:List au):pk (s::r) s=r:=by grind [pk,uJ]
def p9 {w:List au}{s:au}(h:gZ w s=false):pk w s=w:=by grind [pk]
def Bg {w:List au}{s:au}(h:gZ w s=false):w.head? ≠some s:=by
 match w,h with
 |[],_=>simp
 |x::r,h=>intro e;have e:x=s:=(by simpa using e);subst e;rw[uJ]at h;cases h
def Mn {W w:List au}(h:w<:+W)(hw:1<=w.length):W.length-w.length<W.length/\W[W.length-w.length]! =w[0]! :=by
 have hl:=h.length_le;have he:=List.suffix_iff_eq_drop.1 h
 grind
def LY {W w:List au}(h:w<:+W)(s:au):(decide (((W.length-w.length:Nat):Int)<(W.length:Nat))&&decide (W[W.length-w.length]! =s))=gZ w s:=by
 have hl:=h.length_le
 match w with
 |[]=>
  have:decide (((W.length-([]:List au).length:Nat):Int)<(W.length:Nat))=false:=cI aJ;rw[this];rfl
 |x::r=>
  obtain⟨h1,h2⟩:=Mn h aJ;rw[h2,ca ae,gH];rfl
def Me {W:List au}{x:au}{r:List au}{X:D}{b:Bool}(h:(x::r).length<=W.length):v7 (jn W (x::r) X b) 4 1 1 (.int .i64 (((W.length-(x::r).length:Nat):Int)+1))=jn W r X b:=by
 have:((W.length-(x::r).length:Nat):Int)+1=((W.length-r.length:Nat):Int):=by simp only[aP]at h⊢;omega
 rw[this];rfl
def AI (w:List au)(nd:List Nd):PR:=match w with
 |k::r=>rA k r nd
 |[]=>none
def LD (k:au)(i:Nat):Int:=if jl k<i then jl k else-1
theorem LF (k:au):-1<=jl k:=by
 grind [jl]
theorem VH (k:au):jl k<3:=by
 grind [jl]
def VG {k:au}{i:Nat}(hi:i<3)(h:uD (i:Int)=k):LD k (i+1)=(i:Int):=by
 have:jl k=(i:Nat):=He hi (by rw[<-h];exact tg (k:=(i:Int)) ae ae);unfold LD;rw[this,aw ae]
def Zd {k:au}{i:Nat}(hi:i<3)(h:¬uD (i:Int)=k):LD k (i+1)=LD k i:=by
 have h1:jl k≠(i:Nat):=by
  intro e;obtain⟨j,hj,hj2,hj3⟩:=Dv (k:=k) ae;have:j=i:=ae;subst this;exact h (by rw[<-hj2];exact(tg (k:=(j:Int)) ae ae).symm)
 grind [LF,LD,jl]
def kAt_0 (k:au):LD k 0=-1:=by
 have:=LF k;unfold LD;split
 .omega
 .rfl
def kAt_3 (k:au):LD k 3=jl k:=by
 grind [VH,LD]
def C1 (k s v:au):(((decide (jl k<0) ||!cW v)) ||(!decide (s=[61])&& !decide (s=[33,61])))=!nt k s v:=by
 unfold nt
 grind
def On {w:List au}{nd:List Nd}(h:nt (bA w) (bA (w.drop 1)) (bA ((w.drop 1).drop 1))=true):∃r,w=bA w::bA (w.drop 1)::bA ((w.drop 1).drop 1)::r/\AI w nd=some (xW (bA w) (bA (w.drop 1)) (bA ((w.drop 1).drop 1)) r nd):=by
 match w,h with
 |[],h=>cases h
 |[_],h=>simp[nt,bA,cW]at h
 |[_,_],h=>simp[nt,bA,cW]at h
 |k::s::v::r,h=>exact⟨r,rfl,by simp only[AI,rA];exact aw h⟩
def Rc {w:List au}{nd:List Nd}(h:nt (bA w) (bA (w.drop 1)) (bA ((w.drop 1).drop 1))=false):AI w nd=none:=by
 match w,h with
 |[],h=>rfl
 |[_],h=>rfl
 |[_,_],h=>rfl
 |k::s::v::r,h=>simp only[AI,rA];exact ak (by rw[show nt k s v=false from h];simp)
def EM (w:List au)(nd:List Nd):PB w nd (w.drop 1) nd:=by
 have h:w.drop 1<:+w:=List.drop_suffix 1 w;have:=h.length_le;exact⟨this,ae,h⟩
def Df {w:List au}{nd:List Nd}{a:Int}{w':List au}{nd':List Nd}(h:AI w nd=some (a,w',nd')):PB w nd w' nd':=by
 match w,h with
 |k::r,h=>exact(qp h).wc
def Y0 {w:List au}{nd:List Nd}(h1:gZ w rb=false)(h2:gZ w ij=false):kn w nd=AI w nd:=by
 match w,h1,h2 with
 |[],_,_=>rfl
 |k::r,h1,h2=>
  have h1:¬k=rb:=by simpa[gZ]using h1
  have h2:¬k=ij:=by simpa[gZ]using h2
  rw[zc,ak h1,ak h2];rfl
def Ou {R:PR}{o:PO}{w:List au}{nd:List Nd}(h:eC R w nd o)(hs:gZ o.w lJ=false):pE R=none:=by
 rcases h.1 with⟨h1,_⟩|⟨h1,_⟩
 .rw[h1]
  match ho:o.w,hs with
  |[],_=>rfl
  |x::r,hs=>simp only[pE];exact ak (by simpa[gZ]using hs)
 .rw[h1];rfl
def Fk {r:List au}{nd:List Nd}{o:PO}(h:eC (jf r nd) r nd o)(hs:gZ o.w lJ=false):eC (kn (ij::r) nd) (ij::r) nd ⟨o.a,o.w,o.nd,true⟩:=
 ⟨.inr ⟨by rw[vJ,Ou h hs],rfl⟩,h.2.wc⟩
def Pz {r:List au}{nd:List Nd}{o:PO}{q:List au}(h:eC (jf r nd) r nd o)(hs:o.w=lJ::q):eC (kn (ij::r) nd) (ij::r) nd ⟨o.a,q,o.nd,o.bad⟩:=by
 refine⟨?_,(h.2.wc (x:=ij)).trans (by rw[hs];exact(PB.refl _ _).wc)⟩;rw[vJ];rcases h.1 with⟨h1,h2⟩|⟨h1,h2⟩
 .grind [pE]
 .right;rw[h1];exact⟨rfl,h2⟩
def PB.xK {w w':List au}{nd nd':List Nd}{W:List au}(h:PB w nd w' nd')(hW:w<:+W):w'<:+W:=h.2.2.trans hW
def uq (f:Nat->Int):Nat->Nat->Int
 |_,0=>0
 |i,k+1=>if f i=0 then uq f (i+1) k else f i
def fL (f:Nat->Int)(i n:Nat):Int:=uq f i (n-i)
def n5 {f:Nat->Int}{i n:Nat}(h:i<n)(hf:f i=0):fL f i n=fL f (i+1) n:=by
 unfold fL;obtain⟨k,hk⟩:∃k,n-i=k+1:=⟨n-i-1,ae⟩
 grind [uq]
def mc {f:Nat->Int}{i n:Nat}(h:i<n)(hf:f i≠0):fL f i n=f i:=by
 unfold fL;obtain⟨k,hk⟩:∃k,n-i=k+1:=⟨n-i-1,ae⟩
 rw[hk];simp only[uq,hf,aX]
def nZ {f:Nat->Int}{i n:Nat}(h:n<=i):fL f i n=0:=by
 unfold fL;rw[show n-i=0 by omega];rfl
def qy (f:Nat->Int):Nat->Nat->Int×Int
 |_,0=>(0,0)
 |i,k+1=>if f i=0 then qy f (i+1) k else(f i,((i:Nat):Int))
def iF (f:Nat->Int)(i n:Nat):Int×Int:=qy f i (n-i)
def mb {f:Nat->Int}{i n:Nat}(h:i<n)(hf:f i=0):iF f i n=iF f (i+1) n:=by
 unfold iF;obtain⟨k,hk⟩:∃k,n-i=k+1:=⟨n-i-1,ae⟩
 grind [qy]
def ko {f:Nat->Int}{i n:Nat}(h:i<n)(hf:f i≠0):iF f i n=(f i,((i:Nat):Int)):=by
 unfold iF;obtain⟨k,hk⟩:∃k,n-i=k+1:=⟨n-i-1,ae⟩
 rw[hk];simp only[qy,hf,aX]
def ma {f:Nat->Int}{i n:Nat}(h:n<=i):iF f i n=(0,0):=by
 unfold iF;rw[show n-i=0 by omega];rfl
def fT (r:Rec)(name yu:au):Int:=if dL name=false then 4 else if name=r.name then 8 else if tt yu=false then 6 else 0
def Xq (l:List au)(i:Nat):Bool:=cW l[i]! && !(decide (0<i)&& !Op.bytesLess l[i-1]! l[i]!)
def jN (l:List au)(alone:Bool):Bool:=(decide (l.length<=6)&&(alone ||decide (l.length=0)))&&cS (Xq l) 0 l.length
def jP (r:Rec)(w:bT)(alone:Bool):Int:=if fT r w.name w.range≠0 then fT r w.name w.range else if jN w.feats alone=false then 11 else 0
def mP (r:Rec)(l:List bT):Int:=fL (fun i=>jP r l[i]! (decide ((l.length:Int)=1))) 0 l.length
def jh (r:Rec)(n:bp):Int:=if n.any.length=0 then 9 else if 3<n.any.length then 3 else if mP r n.any≠0 then mP r n.any else
 if qH n.when'=false then 7 else if n.option≠[]/\cW n.option=false then 14 else 0
def pL (r:Rec)(b:fA):Int:=if fT r b.name b.range≠0 then fT r b.name b.range else if qH b.when'=false then 7 else 0
def Hw (l:List bp)(x:au):Bool:=l.any fun n=>decide (n.option=x)
def yq (l:List bp)(x:au):Bool:=l.any fun n=>decide (n.any.length=1)&&decide (n.any[0]!.name=x)
def j9 (r:Rec)(s:au):Int:=if(dK s).1=2/\Hw r.needs (dK s).2.1=false then 14 else if(dK s).1=3/\yq r.needs (dK s).2.1=false then 16 else 0
def lj (r:Rec)(of:List au):Int:=fL (fun i=>j9 r of[i]!) 0 of.length
def ml (r:Rec):Int×Int:=iF (fun i=>jh r r.needs[i]!) 0 r.needs.length
def tQ (r:Rec):Int×Int:=iF (fun i=>pL r r.bars[i]!) 0 r.bars.length
def um (r:Rec):Int×Int:=iF (fun i=>lj r r.feats[i]!.of) 0 r.feats.length
def eY (r:Rec):Int×Int:=if(ml r).1≠0 then ml r else if(tQ r).1≠0 then tQ r else if iE r.feats=false then(11,0)else um r
def Uc (n:Nat)(al:Bool):(decide ((6:Int)<(n:Nat)) ||(decide ((0:Int)<(n:Nat))&& !al))=!(decide (n<=6)&&(al ||decide (n=0))):=by
 grind
def wf_c (l:List au)(i:Nat):(!cW l[i]! ||(decide ((0:Int)<(i:Nat))&& !Op.bytesLess l[i-1]! l[i]!))=!Xq l i:=by
 unfold Xq
 grind
def wf_2 (l:List au)(al:Bool):(cS (fun i=>cW l[i]!) 0 l.length&&((decide (l.length<=6)&&rising l)&&(al ||decide (l.length=0))))=jN l al:=by
 grind [cS,Xq,cW,rising,eD,jN]
def itC (k:Int)(x:au)(n:bp):Bool:=(decide (k=2)&&decide (n.option=x)) ||((decide (k=3)&&decide ((n.any.length:Int)=1))&&decide (n.any[0]!.name=x))
def Zc (k:Int):Int:=if k=2 then 14 else if k=3 then 16 else 0
def R7 (r:Rec)(s:au):j9 r s=if r.needs.any (itC (dK s).1 (dK s).2.1)=true then 0 else Zc (dK s).1:=by
 grind [j9,Zc,Hw,yq,dK,itC]
def vv {α:Type} [Inhabited α]{c:α->Bool}{l:List α}{i:Nat}(h:i<l.length)(hc:c l[i]! =true):(l.drop i).any c=true:=by
 rw[je h,List.any_cons]
 grind
def Ap {α:Type} [Inhabited α]{c:α->Bool}{l:List α}{i:Nat}(h:i<l.length)(hc:c l[i]! =false):(l.drop i).any c=(l.drop (i+1)).any c:=by
 rw[je h,List.any_cons]
 grind
def vu {α:Type}{c:α->Bool}{l:List α}{i:Nat}(h:l.length<=i):(l.drop i).any c=false:=by
 rw[lM h];rfl
def ek:au:=[110,101,101,100]
def gA:au:=[97,110,121]
def eG:au:=[119,104,101,110]
def cU:au:=[111,112,116,105,111,110]
def fG:au:=[98,97,114]
def b9:au:=[102,101,97,116,117,114,101]
def dN:au:=[112,97,99,107,97,103,101]
def jj:au:=[102,117,108,108]
def dG:au:=[98,97,114,101]
def cw (l:List au):au:=aS [32] l++[10]
def jk (w:bT):List au:=[gA,w.name,if w.feats.length=0 then [45]else aS [44] w.feats,if w.bare=true then dG else jj,w.range]
def ix (s:au):au:=if s=[]then []else cw [eG,s]
def rq (s:au):au:=if s=[]then []else cw [cU,s]
def p7 (n:bp):au:=cw [ek]++(n.any.map fun w=>cw (jk w)).flatten++ix n.when'++rq n.option
def vx (b:fA):au:=cw [fG,b.name,b.range]++ix b.when'
def qY (f:b7):au:=cw ([b9,f.name]++f.of)
def qZ (r:Rec):au:=cw [dN,r.name,kf r.v]
def gC (r:Rec):au:=qZ r++(r.needs.map p7).flatten++(r.bars.map vx).flatten++(r.feats.map qY).flatten
def cM (r:Rec):Int×Int:=if dL r.name=false then(4,0)else if e8 r.v=false then(5,0)else if 8<r.needs.length\/8<r.bars.length then(3,0)else
 if(eY r).1≠0 then eY r else if 4096<(gC r).length then(3,0)else(0,0)
def dw (r:Rec):au×Int:=if(cM r).1≠0 then([],(cM r).1)else(gC r,0)
def bT.sm (w:bT):Prop:=(w.name.length<=1048576/\w.range.length<=1048576)/\∀t∈w.feats,t.length<=1048576
def bp.sm (n:bp):Prop:=(∀w∈n.any,w.sm)/\n.when'.length<=1048576/\n.option.length<=1048576
def fA.sm (b:fA):Prop:=b.name.length<=1048576/\b.range.length<=1048576/\b.when'.length<=1048576
def fC (r:Rec):Prop:=(r.name.length<=1048576/\r.v.sm)/\(∀n∈r.needs,n.sm)/\(∀b∈r.bars,b.sm)/\zd r.feats
def Hy {r:Rec}{e:Int×Int}(h:ml r=e)(hn:e.1≠0):eY r=e:=by grind [eY]
def Bu {r:Rec}{e:Int×Int}(h0:ml r=(0,0))(h:tQ r=e)(hn:e.1≠0):eY r=e:=by grind [eY]
def Hz {r:Rec}(h0:ml r=(0,0))(h1:tQ r=(0,0))(h:iE r.feats=false):eY r=(11,0):=by grind [eY]
def sc {r:Rec}{e:Int×Int}(h0:ml r=(0,0))(h1:tQ r=(0,0))(h:iE r.feats=true)(h2:um r=e):eY r=e:=by grind [eY]
def GQ (f:Nat->Int):∀(k i:Nat),(qy f i k).1=0->qy f i k=(0,0)
 |0,_,_=>rfl
 |k+1,i,h=>by
  simp only[qy]at h⊢;by_cases hf:f i=0
  .rw[aw hf]at h⊢;exact GQ f k (i+1) h
  .rw[ak hf]at h;exact absurd h hf
def HA {r:Rec}(h:(eY r).1=0):eY r=(0,0):=by
 unfold eY at h⊢;split
 .rename_i h1;rw[aw h1]at h;exact absurd h h1
 .rename_i h1;rw[ak h1]at h;split
  .rename_i h2;rw[aw h2]at h;exact absurd h h2
  .rename_i h2;rw[ak h2]at h;split
   .rename_i h3;rw[aw h3]at h;cases h
   .rename_i h3;rw[ak h3]at h;exact GQ _ _ _ h
def pP {r:Rec}{e:Int×Int}(h0:dL r.name=true)(h1:e8 r.v=true)(h2:¬8<r.needs.length)(h3:¬8<r.bars.length)(hp:eY r=e)(hn:e.1≠0):cM r=e:=by
 grind [cM]
def rH {r:Rec}(h0:dL r.name=true)(h1:e8 r.v=true)(h2:¬8<r.needs.length)(h3:¬8<r.bars.length)(hp:eY r=(0,0)):cM r=if 4096<(gC r).length then(3,0)else(0,0):=by
 grind [cM]
def yi (r:Rec):Prop:=(dL r.name=true/\e8 r.v=true)/\(r.needs.length<=8/\r.bars.length<=8)/\eY r=(0,0)
def rj (n:Nat)(l:List au):List au:=if l.length<=n then l else l.take (n-1)++[aS [32] (l.drop (n-1))]
def ed (n:Nat)(op:Bool)(t:au):List au:=if op=true then rj n (ai t 32)else ai t 32
def dV (w:au)(n:Nat)(op:Bool)(t:au):Option (List au):=
 if(ed n op t)[0]! =w/\(n=0\/(ed n op t).length=n)/\[]∉ed n op t then some (ed n op t)else none
def cj (w:au)(n:Nat)(op:Bool):List au->Option (List au×List au)
 |[]=>none
 |t::r=>match dV w n op t with
  |some l=>some (l,r)
  |none=>none
def cz (ls:List au):au×List au:=match cj eG 2 true ls with
 |some (l,r)=>(l[1]!,r)
 |none=>([],ls)
def lh (l:List au):Bool:=decide (l[3]! =dG) ||decide (l[3]! =jj)
def gW (l:List au):bT:=⟨l[1]!,l[4]!,if l[2]! =[45]then []else ai l[2]! 44,decide (l[3]! =dG)⟩
def cF:List au->List bT×List au
 |[]=>([],[])
 |t::r=>match dV gA 5 true t with
  |some l=>if lh l=true then(gW l::(cF r).1,(cF r).2)else([],t::r)
  |none=>([],t::r)
def oI (ls:List au):au×List au:=match cj cU 2 false ls with
 |some (l,r)=>(l[1]!,r)
 |none=>([],ls)
def eR (ls:List au):bp×List au:=(⟨(cF ls).1,(cz (cF ls).2).1,(oI (cz (cF ls).2).2).1⟩,(oI (cz (cF ls).2).2).2)
def nA:Nat->List au->List bp×List au
 |0,ls=>([],ls)
 |f+1,ls=>match cj ek 1 false ls with
  |some (_,r)=>((eR r).1::(nA f (eR r).2).1,(nA f (eR r).2).2)
  |none=>([],ls)
def qW:Nat->List au->List fA×List au
 |0,ls=>([],ls)
 |f+1,ls=>match cj fG 3 true ls with
  |some (l,r)=>(⟨l[1]!,l[2]!,(cz r).1⟩::(qW f (cz r).2).1,(qW f (cz r).2).2)
  |none=>([],ls)
def dC:List au->List b7×List au
 |[]=>([],[])
 |t::r=>match dV b9 0 false t with
  |some l=>if 2<=l.length then(⟨l[1]!,l.drop 2⟩::(dC r).1,(dC r).2)else([],t::r)
  |none=>([],t::r)
def hH:Rec:=⟨[],gz,[],[],[]⟩
def eE (ls:List au):List bp×List au:=nA ls.length ls
def iM (ls:List au):List fA×List au:=qW ls.length ls
def pO (nm:au)(v:cq)(r:List au):Rec×List au:=(⟨nm,v,(eE r).1,(iM (eE r).2).1,(dC (iM (eE r).2).2).1⟩,(dC (iM (eE r).2).2).2)
def oX (ls:List au):Option (Rec×List au):=match cj dN 3 false ls with
 |some (l,r)=>match gv l[2]! with
  |some v=>some (pO l[1]! v r)
  |none=>none
 |none=>none
theorem jK {w:au}{n:Nat}{op:Bool}{ls l r:List au}(h:cj w n op ls=some (l,r)):r.length+1=ls.length:=by
 match ls,h with
 |t::q,h=>
  grind [cj]
 |[],h=>cases h
theorem tD (ls:List au):(cz ls).2.length<=ls.length:=by
 grind [cz,jK]
def SL (ls:List au):(oI ls).2.length<=ls.length:=by
 grind [oI,jK]
def yB:∀ls:List au,(cF ls).2.length<=ls.length
 |[]=>aL _
 |t::r=>by
  have:=yB r
  grind [cF]
theorem xf (ls:List au):(eR ls).2.length<=ls.length:=by
 have h1:=yB ls;have h2:=tD (cF ls).2;have h3:=SL (cz (cF ls).2).2;show(oI (cz (cF ls).2).2).2.length<=_;omega
theorem DE:∀(f g:Nat) (ls:List au),ls.length<=f->ls.length<=g->nA f ls=nA g ls
 |0,0,_,_,_=>rfl
 |0,g+1,ls,h,_=>by
  have:ls=[]:=qV.1 ae;subst this;rfl
 |f+1,0,ls,_,h=>by
  have:ls=[]:=qV.1 ae;subst this;rfl
 |f+1,g+1,ls,hf,hg=>by
  simp only[nA];cases h:cj ek 1 false ls with
  |none=>rfl
  |some p=>
   obtain⟨l,r⟩:=p;have h1:=jK h;have h2:=xf r;simp only;rw[DE f g _ ae ae]
theorem Gx:∀(f g:Nat) (ls:List au),ls.length<=f->ls.length<=g->qW f ls=qW g ls
 |0,0,_,_,_=>rfl
 |0,g+1,ls,h,_=>by
  have:ls=[]:=qV.1 ae;subst this;rfl
 |f+1,0,ls,_,h=>by
  have:ls=[]:=qV.1 ae;subst this;rfl
 |f+1,g+1,ls,hf,hg=>by
  simp only[qW];cases h:cj fG 3 true ls with
  |none=>rfl
  |some p=>
   obtain⟨l,r⟩:=p;have h1:=jK h;have h2:=tD r;simp only;rw[Gx f g _ ae ae]
def r7 {ls l r:List au}(h:cj ek 1 false ls=some (l,r)):eE ls=((eR r).1::(eE (eR r).2).1,(eE (eR r).2).2):=by
 grind [jK,xf,eE,nA,DE,eR]
def pj {ls:List au}(h:cj ek 1 false ls=none):eE ls=([],ls):=by
 unfold eE
 match ls,h with
 |[],_=>rfl
 |t::r,h=>simp only[aP,nA,h]
def ua {ls l r:List au}(h:cj fG 3 true ls=some (l,r)):iM ls=(⟨l[1]!,l[2]!,(cz r).1⟩::(iM (cz r).2).1,(iM (cz r).2).2):=by
 grind [jK,tD,iM,qW,Gx,cz]
def qq {ls:List au}(h:cj fG 3 true ls=none):iM ls=([],ls):=by
 unfold iM
 match ls,h with
 |[],_=>rfl
 |t::r,h=>simp only[aP,qW,h]
structure jq where
 r:Rec
 st:Nat
 deriving Inhabited
def oM (t:au)(n:Nat):Option (List au×au):=
 if n<(ai t 32).length/\[]∉(ai t 32).take n/\aS [32] ((ai t 32).drop n)≠[]then some ((ai t 32).take n,aS [32] ((ai t 32).drop n))else none
def xp (l:List au)(n:Nat):Bool:=decide (l.length=n)&& !l.contains []
def gw {α:Type}(l:List α)(f:α->α):List α:=match l.getLast? with
 |some x=>l.dropLast++[f x]
 |none=>[]
def AY (l:List au):Option jq:=if(l.length=3/\l[0]! =dN)/\l[1]! ≠[]then(match gv l[2]! with
 |some v=>some ⟨⟨l[1]!,v,[],[],[]⟩,1⟩
 |none=>none)else none
def wx (x:jq)(t:au):Option jq:=match oM t 4 with
 |some (l,u)=>if x.st=2/\lh l=true then some ⟨{x.r with needs:=gw x.r.needs fun n=>{n with any:=n.any++[⟨l[1]!,u,if l[2]! =[45]then []else ai l[2]! 44,decide (l[3]! =dG)⟩]}},2⟩else none
 |none=>none
def pz (x:jq)(t:au):Option jq:=match oM t 1 with
 |some (_,u)=>if x.st=2 then some ⟨{x.r with needs:=gw x.r.needs fun n=>{n with when':=u}},3⟩else if x.st=5 then some ⟨{x.r with bars:=gw x.r.bars fun b=>{b with when':=u}},6⟩else none
 |none=>none
def eF (x:jq)(t:au):Option jq:=
 let l:=ai t 32
 if x.st=0 then AY l
 else if l[0]! =ek then(if l.length=1/\x.st<5 then some ⟨{x.r with needs:=x.r.needs++[⟨[],[],[]⟩]},2⟩else none)
 else if l[0]! =gA then wx x t
 else if l[0]! =eG then pz x t
 else if l[0]! =cU then(if xp l 2=true/\(x.st=2\/x.st=3)then some ⟨{x.r with needs:=gw x.r.needs fun n=>{n with option:=l[1]!}},4⟩else none)
 else if l[0]! =fG then(match oM t 2 with
  |some (w,u)=>if x.st<=6 then some ⟨{x.r with bars:=x.r.bars++[⟨w[1]!,u,[]⟩]},5⟩else none
  |none=>none)
 else if l[0]! =b9 then(if 2<=l.length/\xp l l.length=true then some ⟨{x.r with feats:=x.r.feats++[⟨l[1]!,l.drop 2⟩]},7⟩else none)
 else none
def YX (a b:Bool):jt (D.bool a).cells (D.bool b).cells=decide (a=b):=by cases a<;>cases b<;>rfl
theorem bT.yx (a b:bT):decide (a=b)=(((decide (a.name=b.name)&&decide (a.range=b.range))&&decide (a.bare=b.bare))&&decide (a.feats=b.feats)):=by
 obtain⟨a1,a2,a3,a4⟩:=a;obtain⟨b1,b2,b3,b4⟩:=b
 grind
theorem bp.yx (a b:bp):decide (a=b)=((decide (a.when'=b.when')&&decide (a.option=b.option))&&decide (a.any=b.any)):=by
 obtain⟨a1,a2,a3⟩:=a;obtain⟨b1,b2,b3⟩:=b
 grind
def bp.same3 {a b:bp}(e1:a.when'=b.when')(e2:a.option=b.option)(e3:a.any.length=b.any.length):decide (a=b)=cS (fun i=>decide (a.any[i]! =b.any[i]!)) 0 a.any.length:=by
 grind [bp.yx,qh]
theorem Rec.yx (a b:Rec):decide (a=b)=((((decide (a.name=b.name)&&decide (a.v=b.v))&&decide (a.needs=b.needs))&&decide (a.bars=b.bars))&&decide (a.feats=b.feats)):=by
 obtain⟨a1,a2,a3,a4,a5⟩:=a;obtain⟨b1,b2,b3,b4,b5⟩:=b
 grind
def b7.eq2 {a b:b7}(h1:a.name=b.name)(h2:a.of=b.of):a=b:=by
 obtain⟨a1,a2⟩:=a;obtain⟨b1,b2⟩:=b
 grind
def AO {f:Nat->Int}:∀{k i:Nat},uq f i k=0->∀j,i<=j->j<i+k->f j=0
 |0,i,_,j,h1,h2=>absurd h2 ae
 |k+1,i,h,j,h1,h2=>by
  simp only[uq]at h;by_cases hf:f i=0
  .rw[aw hf]at h;by_cases hj:j=i
   .rw[hj];exact hf
   .exact AO h j ae ae
  .rw[ak hf]at h;exact absurd h hf
def Jx {f:Nat->Int}{n:Nat}(h:fL f 0 n=0)(j:Nat)(hj:j<n):f j=0:=AO h j ae ae
def AP {f:Nat->Int}:∀{k i:Nat},(qy f i k).1=0->∀j,i<=j->j<i+k->f j=0
 |0,i,_,j,h1,h2=>absurd h2 ae
 |k+1,i,h,j,h1,h2=>by
  simp only[qy]at h;by_cases hf:f i=0
  .rw[aw hf]at h;by_cases hj:j=i
   .rw[hj];exact hf
   .exact AP h j ae ae
  .rw[ak hf]at h;exact absurd h hf
def Jw {f:Nat->Int}{n:Nat}(h:(iF f 0 n).1=0)(j:Nat)(hj:j<n):f j=0:=AP h j ae ae
def bT.fit (w:bT):Prop:=w.sm/\(w.feats.length<=6/\∀t∈w.feats,t.length<=12)
def bp.fit (n:bp):Prop:=(n.any.length<=3/\∀w∈n.any,w.fit)/\n.when'.length<=1048576/\n.option.length<=1048576
def b7.fit (x:b7):Prop:=x.sm/\x.of.length<=6
structure Rec.fit (r:Rec):Prop where
 nm:r.name.length<=1048576
 v:r.v.sm
 ns:r.needs.length<=8
 n:∀x∈r.needs,x.fit
 bs:r.bars.length<=8
 b:∀x∈r.bars,x.sm
 fs:r.feats.length<=8
 f:∀x∈r.feats,x.fit
theorem vU {α:Type} [Inhabited α]{l:List α}{x:α}(h:x∈l):∃i,i<l.length/\l[i]! =x:=by
 obtain⟨i,hi,e⟩:=List.mem_iff_getElem.1 h;exact⟨i,hi,by rw[<-e];simp[hi]⟩
def Ue {r:Rec}{w:bT}{al:Bool}(h:jP r w al=0)(hs:w.sm):w.fit:=by
 refine⟨hs, ?_⟩
 grind [jP,jN,eD,vU,Xq,cW]
def Ss {r:Rec}{n:bp}(h:jh r n=0)(hs:n.sm):n.fit:=by
 unfold jh at h;split at h
 .cases h
 split at h
 .cases h
 rename_i h1 h2;split at h
 .rename_i h3;exact absurd h h3
 rename_i h3;refine⟨⟨ae,fun w hw=>?_⟩,hs.2⟩;obtain⟨i,hi,rfl⟩:=vU hw;exact Ue (Jx (Classical.not_not.1 h3) i hi) (hs.1 _ hw)
def Dp {r:Rec}(h:yi r/\fC r):r.fit:=by
 obtain⟨⟨_,⟨h1,h2⟩,hp⟩,⟨s1,s2⟩,s3,s4,s5⟩:=h;have h0:(ml r).1=0/\iE r.feats=true:=by
  grind [eY]
 obtain⟨h3,h4⟩:=h0;simp only[iE,bC,aK,eD]at h4;refine⟨s1,s2,h1,fun x hx=>?_,h2,s4,h4.1,fun x hx=>⟨s5 x hx, ?_⟩⟩
 .obtain⟨i,hi,rfl⟩:=vU hx;exact Ss (Jw h3 i hi) (s3 _ hx)
 grind [vU,jT,mg]
def mh (x:UInt8)(B:Nat):∀l:List au,(∀t∈l,t.length<=B)->(aS [x] l).length<=l.length*(B+1)
 |[],_=>by simp[aS]
 |[t],h=>by have:=h t (.head _);simp only[aS,aP,a8];omega
 |t::u::r,h=>by
  have h1:=h t (.head _);have h2:=mh x B (u::r) fun y hy=>h y (.tail _ hy)
  simp only[aS,bQ,aP,a8,Nat.succ_mul]at h2⊢;omega
def Ch {w:bT}(h:w.fit):(aS [44] w.feats).length<=6291462:=by
 have h1:=mh 44 1048576 w.feats h.1.2;have h2:=fo (1048576+1) h.2.1;omega
def F0 {w:bT}(h:w.fit):(aS [44] w.feats).length<=78:=by
 have h1:=mh 44 12 w.feats h.2.2;have h2:=fo (12+1) h.2.1;omega
def jQ (w:bT):au:=cw (jk w)
def xR {w:bT}(h:w.fit):(jQ w).length<=8400000:=by
 have h1:=Ch h;have h2:=h.1.1;simp only[jQ,cw,jk,aS,bQ,aP,a8]
 grind [gA,dG,jj]
def oq {s:au}(h:s.length<=1048576):(ix s).length<=1048590:=by
 unfold ix;split
 .simp
 .simp only[cw,aS,eG,bQ,aP,a8];omega
def SO {s:au}(h:s.length<=1048576):(rq s).length<=1048590:=by
 unfold rq;split
 .simp
 .simp only[cw,aS,cU,bQ,aP,a8];omega
def vM {α:Type}(q:α->au)(B:Nat){l:List α}(h:∀x∈l,(q x).length<=B)(i:Nat):(((l.take i).map q).flatten).length<=i*B:=by
 have h1:=rQ q B (l.take i) fun x hx=>h x (kD hx)
 have h2:=fo B (List.length_take_le i l);omega
theorem te {α:Type} [Inhabited α](q:α->au){l:List α}{i:Nat}(h:i<l.length):((l.take (i+1)).map q).flatten=((l.take i).map q).flatten++q l[i]! :=by
 rw[List.take_add_one,List.getElem?_eq_getElem h,List.map_append,List.flatten_append];simp[h]
def Pq {n:bp}(h:n.fit):(p7 n).length<=27400000:=by
 have h1:=rQ jQ 8400000 n.any fun w hw=>xR (h.1.2 w hw)
 have h2:=fo 8400000 h.1.1;have h3:=oq h.2.1;have h4:=SO h.2.2;have h5:(cw [ek]).length=5:=rfl;unfold jQ at h1
 grind [p7]
def Rg {b:fA}(h:b.sm):(vx b).length<=3145800:=by
 have h1:=oq h.2.2;have h2:=h.1;have h3:=h.2.1;simp only[vx,cw,aS,fG,bQ,aP,a8];omega
def Dg {x:b7}(h:x.fit):(qY x).length<=8400000:=by
 have h1:=mh 32 1048576 ([b9,x.name]++x.of) (by
  intro t ht;simp only[fD,fg,cb]at ht;rcases ht with rfl|rfl|ht
  .simp[b9]
  .exact h.1.1
  .exact h.1.2.2 _ ht)
 have h2:=h.2
 grind [b9,qY,cw]
def O2 {r:Rec}(h1:r.name.length<=1048576)(h2:r.v.sm):(qZ r).length<=3145800:=by
 have h3:=Ce r.v h2;simp only[qZ,cw,aS,dN,bQ,aP,a8];omega
def ef (n:bp)(j:Nat):au:=cw [ek]++((n.any.take j).map jQ).flatten
def VM (n:bp):ef n 0=[110,101,101,100,10]:=rfl
def oG {n:bp}{j:Nat}(h:j<n.any.length):ef n (j+1)=ef n j++jQ n.any[j]! :=by grind [ef,te,jQ]
def xd {n:bp}{j:Nat}(h:n.any.length<=j):p7 n=ef n j++ix n.when'++rq n.option:=by
 rw[ef,ee h];rfl
def DB {n:bp}(h:n.fit)(j:Nat)(hj:j<=3):(ef n j).length<=25200005:=by
 have h1:=vM jQ 8400000 (fun w hw=>xR (h.1.2 w hw)) j;have h2:=fo 8400000 hj;have h5:(cw [ek]).length=5:=rfl
 grind [ef]
def kT (r:Rec)(i:Nat):au:=qZ r++((r.needs.take i).map p7).flatten
def Ca (r:Rec)(i:Nat):au:=kT r r.needs.length++((r.bars.take i).map vx).flatten
def Ek (r:Rec)(i:Nat):au:=Ca r r.bars.length++((r.feats.take i).map qY).flatten
def T3 (r:Rec):kT r 0=qZ r:=by simp[kT]
def T4 (r:Rec):Ca r 0=kT r r.needs.length:=by simp[Ca]
def T6 (r:Rec):Ek r 0=Ca r r.bars.length:=by simp[Ek]
def FV (r:Rec):Ek r r.feats.length=gC r:=by grind [Ek,Ca,kT,gC]
def nb {r:Rec}{i:Nat}(h:i<r.needs.length):kT r (i+1)=kT r i++p7 r.needs[i]! :=by grind [kT,te,p7]
def Iy {r:Rec}{i:Nat}(h:i<r.bars.length):Ca r (i+1)=Ca r i++vx r.bars[i]! :=by grind [Ca,te,vx]
def Iz {r:Rec}{i:Nat}(h:i<r.feats.length):Ek r (i+1)=Ek r i++qY r.feats[i]! :=by grind [Ek,te,qY]
def FQ {r:Rec}(h:r.fit)(i:Nat)(hi:i<=r.needs.length):(kT r i).length<=222400000:=by
 have a0:=O2 h.nm h.v;have a1:=vM p7 27400000 (fun x hx=>Pq (h.n x hx)) i;have b1:=fo 27400000 (dp hi h.ns);simp only[kT,bQ];omega
def FR {r:Rec}(h:r.fit)(i:Nat)(hi:i<=r.bars.length):(Ca r i).length<=247600000:=by
 have a0:=FQ h r.needs.length (aL _);have a1:=vM vx 3145800 (fun x hx=>Rg (h.b x hx)) i;have b1:=fo 3145800 (dp hi h.bs);simp only[Ca,bQ];omega
def Mt {r:Rec}(h:r.fit)(i:Nat)(hi:i<=r.feats.length):(Ek r i).length<=314800000:=by
 have a0:=FR h r.bars.length (aL _);have a1:=vM qY 8400000 (fun x hx=>Dg (h.f x hx)) i;have b1:=fo 8400000 (dp hi h.fs);simp only[Ek,bQ];omega
theorem pe {r:Rec}(h:(cM r).1=0):yi r:=by
 unfold cM at h;split at h
 .cases h
 split at h
 .cases h
 split at h
 .cases h
 rename_i a b c;split at h
 .rename_i d;exact absurd h d
 rename_i d;exact⟨⟨by simpa using a,by simpa using b⟩,⟨ae,ae⟩,HA (Classical.not_not.1 d)⟩
def m9 (r:Rec):Int:=if(dw r).2≠0 then 0 else Iq (dw r).1
def ec (l:List au):cq×Bool:=if l.length=3 then(⟨eg l[0]!,eg l[1]!,eg l[2]!,[],[]⟩,(fW l[0]! &&fW l[1]!)&&fW l[2]!)else(gz,false)
def Ru {c:UInt8}(h:bn c.toNat=true):dg (c.toNat-48)=c:=by
 simp only[bn,bC,aK]at h;have h1:48<=c.toNat:=ae;have h2:c.toNat<=57:=ae;apply im.1;simp only[dg];simp;omega
def ya (s:au)(h0:s≠[])(hd:∀c∈s,bn c.toNat=true)(hz:1<s.length->at8 s 0≠48):dJ (dM s)=s:=by
 obtain⟨r,c,rfl⟩:∃r c,s=r++[c]:=⟨s.dropLast,s.getLast h0,(List.dropLast_concat_getLast h0).symm⟩
 have hc:=hd c aJ;have hc2:=hc;simp only[bn,bC,aK]at hc2;rw[Bk];by_cases hr:r=[]
 .subst hr;have:dM ([]:au)=0:=rfl;rw[this,mK ae];simp[Ru hc]
 .have hz0:at8 (r++[c]) 0≠48:=hz (by have:=List.length_pos_iff.2 hr;simp only[bQ,List.length_singleton];omega);have e0:at8 (r++[c]) 0=at8 r 0:=by
   cases r with
   |nil=>exact absurd rfl hr
   |cons b q=>rfl
  have ih:=ya r hr (fun x hx=>hd x (by simp[hx])) (fun _=>by rw[<-e0];exact hz0);have hn:1<=dM r:=by
   cases r with
   |nil=>exact absurd rfl hr
   |cons b q=>
    grind [bn,at8,DJ]
  rw[nP ae,show(dM r*10+(c.toNat-48)) /10=dM r by omega,show(dM r*10+(c.toNat-48))%10=c.toNat-48 by omega,ih,Ru hc]
termination_by s.length
decreasing_by all_goals simp_all
def wG {t:au}(h:fW t=true):dJ (eg t).toNat=t:=by
 have h2:=h;simp only[fW,bC,aK,eD,bd,dz,bc]at h2;obtain⟨⟨⟨⟨h3,_⟩,h4⟩,h5⟩,_⟩:=h2;rw[eg,aw h,Int.toNat_natCast];refine ya t (by rintro rfl;simp at h3) (fun c hc=>?_) (fun h=>?_)
 .obtain⟨i,hi,rfl⟩:=List.mem_iff_getElem.1 hc
  grind [at8]
 grind
def qL (s:au)(b:Int):s.take (aG s b).2.length=(aG s b).2:=by
 grind [aG,iz]
theorem mz (s:au)(b:Int):(s.drop (aG s b).2.length=[]/\(aG s b).1=[])\/∃x:UInt8,(x.toNat:Int)=b/\s.drop (aG s b).2.length=x::(aG s b).1:=by
 unfold aG iz;split
 .rename_i k h;right;obtain⟨hk,hx,_⟩:=List.findIdx?_eq_some_iff_getElem.1 h;simp only[bZ]at hk hx;refine⟨s[k],by simpa using hx, ?_⟩;simp only[eu,bR];rw[show min k s.length=k by omega,je hk]
 .left;simp
def dE (s:au):cq:=⟨(ec (ai (aG (aG s 43).2 45).2 46)).1.major,(ec (ai (aG (aG s 43).2 45).2 46)).1.minor,(ec (ai (aG (aG s 43).2 45).2 46)).1.patch,(aG (aG s 43).2 45).1,(aG s 43).1⟩
def GB {s:au}{b:Int}{a r:au}(h:(s.drop (aG s b).2.length=[]/\(aG s b).1=[])\/∃x:UInt8,(x.toNat:Int)=b/\s.drop (aG s b).2.length=x::(aG s b).1)(x:UInt8)(hx:(x.toNat:Int)=b):((s.drop (aG s b).2.length).length≠1->s.drop (aG s b).2.length=if(aG s b).1=[]then []else x::(aG s b).1)/\((s.drop (aG s b).2.length).length=1->(aG s b).1=[]):=by
 rcases h with⟨h1,h2⟩|⟨y,hy,h1⟩
 .rw[h1,h2];simp
 .have:y=x:=im.1 ae
  grind
def T9 (s:au):gv s=if(((ec (ai (aG (aG s 43).2 45).2 46)).2=true/\((aG s 43).2.drop (aG (aG s 43).2 45).2.length).length≠1)/\(s.drop (aG s 43).2.length).length≠1)/\e8 (dE s)=true then some (dE s)else none:=by
 have t1:=qL s 43;have d1:=GB (a:=[]) (r:=[]) (mz s 43) 43 rfl;have t2:=qL (aG s 43).2 45;have d2:=GB (a:=[]) (r:=[]) (mz (aG s 43).2 45) 45 rfl;have e1:=List.take_append_drop (aG s 43).2.length s;have e2:=List.take_append_drop (aG (aG s 43).2 45).2.length (aG s 43).2;rw[t1]at e1;rw[t2]at e2;unfold gv dE;dsimp only;generalize aG s 43=A at*
 generalize aG A.2 45=B at*
 have hj:=ju (b:=46) (x:=46) rfl B.2;generalize ai B.2 46=L at*
 unfold ec;by_cases hT:L.length=3/\fW L[0]! =true/\fW L[1]! =true/\fW L[2]! =true
 .rw[aw hT];obtain⟨h3,n0,n1,n2⟩:=hT;rw[aw h3];simp only[n0,n1,n2,Bool.and_self,ct];by_cases hv:e8 ⟨eg L[0]!,eg L[1]!,eg L[2]!,B.1,A.1⟩=true
  .simp only[hv,ct,cu,kf,aW,sN,wG n0,wG n1,wG n2];have hB:L[0]! ++([46]:au)++L[1]! ++([46]:au)++L[2]! =B.2:=by
    rw[<-hj]
    match L,h3 with
    |[a,b,c],_=>simp[aS]
   rw[hB];by_cases c1:(s.drop A.2.length).length=1
   .have h1:=d1.2 c1;rw[ak,ak (fun h=>h.2 c1)];intro h;have h':=aj List.length h;have h2:=aj List.length e1;have h4:=aj List.length e2;simp only[h1,aW,bQ,a8]at h' h2 h4;by_cases c2:(A.2.drop B.2.length).length=1
    .rw[aw (d2.2 c2)]at h';simp only[a8]at h';omega
    .rw[<-d2.1 c2]at h';omega
   .by_cases c2:(A.2.drop B.2.length).length=1
    .have h1:=d2.2 c2;rw[ak,ak (fun h=>h.1 c2)];intro h;have h':=aj List.length h;have h2:=aj List.length e1;have h4:=aj List.length e2;rw[<-d1.1 c1]at h';simp only[h1,aW,bQ,a8]at h' h2 h4;omega
    .rw[<-d1.1 c1,<-d2.1 c2,e2,e1,aw rfl,aw ⟨c2,c1⟩]
  .rw[ak (fun h=>hv h.1),ak (fun h=>hv h.2)]
 .rw[ak hT,ak];rintro⟨⟨⟨h,_⟩,_⟩,_⟩;split at h
  .rename_i h3;simp only[bC]at h;exact hT ⟨h3,h.1.1,h.1.2,h.2⟩
  .cases h
def KQ {s:au}{b:Int}(h:s.drop (aG s b).2.length≠[]):1<=(s.drop (aG s b).2.length).length/\(s.drop (aG s b).2.length).drop 1=(aG s b).1:=by
 grind [mz]
def KP {s:au}{b:Int}(h:s.drop (aG s b).2.length=[]):(aG s b).1=[]:=by
 grind [mz]
def KT (l:List au):(ec l).1=⟨(ec l).1.major,(ec l).1.minor,(ec l).1.patch,[],[]⟩:=by
 unfold ec;split<;>rfl
def wW (l:List au)(x:au)(i:Nat):Int:=match(l.drop i).findIdx? (fun t=>decide (x=t))with
 |some k=>((i+k:Nat):Int)
 |none=>-1
def Vy {l:List au}{x:au}{i:Nat}(h:i<l.length)(he:x=l[i]!):wW l x i=(i:Nat):=by
 unfold wW;rw[je h,List.findIdx?_cons]
 grind
def Vz {l:List au}{x:au}{i:Nat}(h:i<l.length)(he:¬x=l[i]!):wW l x i=wW l x (i+1):=by
 unfold wW;have:¬x=l[i]:=by simpa[h]using he
 rw[je h,List.findIdx?_cons]
 grind
def R1 {l:List au}{x:au}{i:Nat}(h:l.length<=i):wW l x i=-1:=by
 unfold wW;rw[lM h];rfl
def R2 (l:List au)(x:au):decide (0<=wW l x 0)=decide (x∈l):=by
 grind [wW]
structure Ld where
 ls:List au
 at':Nat
 deriving Inhabited,DecidableEq
def Ld.D (r:Ld):D:=.agg [.sl 1 (r.ls.map D.str),.int .i64 (r.at':Nat)]
def Ld.rest (r:Ld):List au:=r.ls.drop r.at'
def Ld.sm (r:Ld):Prop:=(r.at'<=r.ls.length/\r.ls.length<=1048577)/\∀t∈r.ls,t.length<=1048576
def Ld.to (r:Ld)(q:List au):Ld:=⟨r.ls,r.ls.length-q.length⟩
def mG (n:Int)(t:au):List au:=if n<0 then ai t 32 else rj n.toNat (ai t 32)
def Er (n:Nat)(op:Bool)(t:au):mG (if op=true then(n:Int)else-1) t=ed n op t:=by
 grind [mG,ed]
def CL:Option (List au×List au)->D
 |none=>.bq
 |some (l,_)=>.sl 1 (l.map D.str)
def Ld.after (r:Ld)(o:Option (List au×List au)):Ld:=match o with
 |none=>r
 |some _=>⟨r.ls,r.at'+1⟩
def Ld.TL {r:Ld}(h:r.ls.length<=r.at'):r.rest=[]:=lM h
def Ld.tv {r:Ld}(h:r.at'<r.ls.length):r.rest=r.ls[r.at']! ::r.ls.drop (r.at'+1):=by
 unfold Ld.rest;rw[je h];simp[h]
def Qz (n:Nat)(op:Bool)(t:au)(h:op=true->1<=n):1<=(ed n op t).length:=by
 grind [ai,er,ed,rj]
def Ho {w:au}{n:Nat}{op:Bool}{t:au}(h:((¬(ed n op t)[0]! =w\/((ed n op t).length:Int)<1)\/((0:Int)<n/\¬((ed n op t).length:Int)=n))\/[]∈ed n op t)(h1:1<=(ed n op t).length):dV w n op t=none:=by
 grind [dV]
def DH {w:au}{n:Nat}{op:Bool}{t:au}(h:(((ed n op t)[0]! =w/\¬((ed n op t).length:Int)<1)/\(¬(0:Int)<n\/((ed n op t).length:Int)=n))/\¬[]∈ed n op t):dV w n op t=some (ed n op t):=by
 grind [dV]
def mF (x:jq):List au->jq×List au
 |[]=>(x,[])
 |t::r=>match eF x t with
  |some y=>mF y r
  |none=>(x,t::r)
theorem iX {x y:jq}{t:au}{r:List au}(h:eF x t=some y):mF x (t::r)=mF y r:=by simp only[mF,h]
theorem tw {x:jq}{t:au}{r:List au}(h:eF x t=none):mF x (t::r)=(x,t::r):=by simp only[mF,h]
def uU (t:au)(b:Int):1<=(ai t b).length:=er b t []
theorem tA {α:Type} [Inhabited α]{l:List α}{n:Nat}(h:1<=n):(l.take n)[0]! =l[0]! :=by
 grind
theorem R9 (b:au)(hb:b≠[]):∀l:List au,2<=l.length->aS b l≠[]
 |[],h=>by simp at h
 |[a],h=>by simp at h
 |a::c::r,_=>by
  rw[gr b a (c::r) aJ];intro h;have:=List.append_eq_nil_iff.1 h;have:=List.append_eq_nil_iff.1 this.1;exact hb this.2
theorem drop_one {α:Type} [Inhabited α]{l:List α}{n:Nat}(h:l.length=n+1):l.drop n=[l[n]!]/\l=l.take n++[l[n]!]:=by
 have h1:l.drop n=[l[n]!]:=by
  rw[je ae,lM ae];simp[show n<l.length by omega]
 exact⟨h1,by rw[<-h1,List.take_append_drop]⟩
theorem xk {w:au}{n:Nat}(h1:1<=n)(t:au):
  dV w (n+1) true t=(match oM t n with
   |some (l,u)=>if l[0]! =w then some (l++[u])else none
   |none=>none):=by
 unfold dV oM ed
 grind [ai,rj,drop_one,aS,tA,R9]
theorem xD {t:au}{n:Nat}{l:List au}{u:au}(h:oM t n=some (l,u)):l=(ai t 32).take n/\u=aS [32] ((ai t 32).drop n)/\n<(ai t 32).length/\[]∉l/\u≠[]:=by
 grind [oM]
def tm {w:au}{n:Nat}{t:au}{q:List au}(h1:1<=n)(h:dV w (n+1) true t=some q):∃l u,oM t n=some (l,u)/\(ai t 32)[0]! =w/\q=l++[u]/\l.length=n:=by
 grind [xk,oM,xD,tA]
theorem VP {w:au}{n:Nat}{t:au}(h1:1<=n)(h:dV w (n+1) true t=none)(hw:(ai t 32)[0]! =w):oM t n=none:=by
 grind [xk,oM,xD,tA]
theorem zg {α:Type} [Inhabited α]{l r:List α}{i:Nat}(h:i<l.length):(l++r)[i]! =l[i]! :=by
 grind
theorem AX {α:Type} [Inhabited α]{l:List α}{u:α}{i:Nat}(h:l.length=i):(l++[u])[i]! =u:=by
 subst h;simp
theorem DG {w:au}{n:Nat}{t:au}:dV w n false t=if(ai t 32)[0]! =w/\(n=0\/(ai t 32).length=n)/\[]∉ai t 32 then some (ai t 32)else none:=by
 grind [dV,ed]
theorem sb {l:List au}{n:Nat}:xp l n=true↔l.length=n/\[]∉l:=by
 unfold xp;simp
def Cw (t:au):Option (List au):=match dV gA 5 true t with
 |some l=>if lh l=true then some l else none
 |none=>none
def vK (t:au):Option (List au):=match dV b9 0 false t with
 |some l=>if 2<=l.length then some l else none
 |none=>none
def No (p:au->Option (List au))(ls:List au):Prop:=∀t r,ls=t::r->p t=none
theorem e7 {α:Type}(l:List α)(a:α)(f:α->α):gw (l++[a]) f=l++[f a]:=by
 unfold gw;simp
def Cg:ek≠gA/\ek≠eG/\ek≠cU/\ek≠fG/\ek≠b9/\gA≠eG/\gA≠cU/\gA≠fG/\gA≠b9/\eG≠cU/\eG≠fG/\eG≠b9/\cU≠fG/\cU≠b9/\fG≠b9:=aF
def Qp {x:jq}{t:au}{q:List au}(h0:x.st≠0)(h5:x.st<5)(h:dV ek 1 false t=some q):eF x t=some ⟨{x.r with needs:=x.r.needs++[⟨[],[],[]⟩]},2⟩:=by
 grind [DG,ai,eF]
theorem TS {x:jq}{t:au}{q:List au}(h2:x.st=2)(h:Cw t=some q):eF x t=some ⟨{x.r with needs:=gw x.r.needs fun n=>{n with any:=n.any++[gW q]}},2⟩:=by
 unfold Cw at h;cases hn:dV gA 5 true t with
 |none=>rw[hn]at h;cases h
 |some l=>
  rw[hn]at h;simp only at h;split at h
  .rename_i ho;obtain rfl:=bL h;obtain⟨l0,u,e1,e2,rfl,e4⟩:=tm ae hn;have ho':lh l0=true:=by
    unfold lh at ho⊢;rw[zg ae]at ho;exact ho
   have hw:=Cg
   grind [eF,wx,gW,zg,AX]
  .cases h
def KM {x:jq}{t:au}{q:List au}(h2:x.st=2)(h:dV eG 2 true t=some q):eF x t=some ⟨{x.r with needs:=gw x.r.needs fun n=>{n with when':=q[1]!}},3⟩:=by
 obtain⟨l0,u,e1,e2,rfl,e4⟩:=tm (n:=1) ae h;have hw:=Cg
 grind [eF,pz,AX]
def KN {x:jq}{t:au}{q:List au}(h2:x.st=5)(h:dV eG 2 true t=some q):eF x t=some ⟨{x.r with bars:=gw x.r.bars fun n=>{n with when':=q[1]!}},6⟩:=by
 obtain⟨l0,u,e1,e2,rfl,e4⟩:=tm (n:=1) ae h;have hw:=Cg
 grind [eF,pz,AX]
def Ip {x:jq}{t:au}{q:List au}(h2:x.st=2\/x.st=3)(h:dV cU 2 false t=some q):eF x t=some ⟨{x.r with needs:=gw x.r.needs fun n=>{n with option:=q[1]!}},4⟩:=by
 rw[DG]at h;split at h
 .rename_i hc;obtain⟨e1,e2,e3⟩:=hc;obtain rfl:=bL h;have e2:(ai t 32).length=2:=by rcases e2 with h|h<;>omega
  have hw:=Cg;have h0:¬x.st=0:=ae;unfold eF;simp only[h0,e1,Ne.symm hw.2.2.1,Ne.symm hw.2.2.2.2.2.2.1,Ne.symm hw.2.2.2.2.2.2.2.2.2.1,aX,aW,sb.2 ⟨e2,e3⟩,h2,cO]
 .cases h
def TU {x:jq}{t:au}{q:List au}(h0:x.st≠0)(h6:x.st<=6)(h:dV fG 3 true t=some q):eF x t=some ⟨{x.r with bars:=x.r.bars++[⟨q[1]!,q[2]!,[]⟩]},5⟩:=by
 obtain⟨l0,u,e1,e2,rfl,e4⟩:=tm (n:=2) ae h;have hw:=Cg;unfold eF
 grind
def Qo {x:jq}{t:au}{q:List au}(h0:x.st≠0)(h:vK t=some q):eF x t=some ⟨{x.r with feats:=x.r.feats++[⟨q[1]!,q.drop 2⟩]},7⟩:=by
 unfold vK at h;rw[DG]at h;split at h
 .rename_i l hl;split at hl
  .rename_i hc;obtain rfl:=bL hl;split at h
   .rename_i h2;obtain rfl:=bL h;obtain⟨e1,_,e3⟩:=hc;have hw:=Cg;unfold eF;simp only[h0,e1,Ne.symm hw.2.2.2.2.1,Ne.symm hw.2.2.2.2.2.2.2.2.1,Ne.symm hw.2.2.2.2.2.2.2.2.2.2.2.1,Ne.symm hw.2.2.2.2.2.2.2.2.2.2.2.2.2.1,Ne.symm hw.2.2.2.2.2.2.2.2.2.2.2.2.2.2,aX,aW,h2,sb.2 ⟨rfl,e3⟩,cO]
   .cases h
  .cases hl
 .cases h
def Wm {x:jq}{t:au}(h0:x.st≠0)(h1:x.st<5->dV ek 1 false t=none)(h2:x.st=2->Cw t=none)(h3:x.st=2\/x.st=5->dV eG 2 true t=none)
  (h4:x.st=2\/x.st=3->dV cU 2 false t=none) (h5:x.st<=6->dV fG 3 true t=none) (h6:vK t=none) (hne:(ai t 32).length=1->(ai t 32)[0]! =ek->[]∉ai t 32):eF x t=none:=by
 unfold eF;simp only[h0,aX];split
 .rename_i e1;rw[ak];rintro⟨e2,e3⟩;have:=h1 e3;rw[DG,aw ⟨e1,.inr e2,hne e2 e1⟩]at this;cases this
 .split
  .rename_i e1;unfold wx;cases hr:oM t 4 with
   |none=>rfl
   |some p=>
    obtain⟨l,u⟩:=p;simp only;rw[ak];rintro⟨e2,e3⟩;have:=h2 e2;unfold Cw at this;rw[xk (n:=4) ae,hr]at this;obtain⟨q1,_,q3,_⟩:=xD hr;have hl4:l.length=4:=by rw[q1,eu];omega
    simp only at this;rw[aw (by rw[q1,tA ae];exact e1)]at this;simp only at this;have hh:lh (l++[u])=true:=by unfold lh at e3⊢;rw[zg ae];exact e3
    rw[aw hh]at this;cases this
  grind [pz,oM,VP,sb,DG,vK]
def mq {w:au}{n:Nat}{op:Bool}{ls:List au}(h:cj w n op ls=none):No (dV w n op) ls:=by
 rintro t r rfl
 grind [cj]
theorem dY {w:au}{n:Nat}{op:Bool}{ls l r:List au}(h:cj w n op ls=some (l,r)):∃t,ls=t::r/\dV w n op t=some l:=by
 match ls,h with
 |[],h=>cases h
 |t::q,h=>
  grind [cj]
def BZ (R:Rec)(N:List bp):∀(ls:List au) (A:List bT),mF ⟨{R with needs:=N++[⟨A,[],[]⟩]},2⟩ ls=mF ⟨{R with needs:=N++[⟨A++(cF ls).1,[],[]⟩]},2⟩ (cF ls).2/\No Cw (cF ls).2
 |[],A=>⟨by simp[cF],fun t r h=>by simp[cF]at h⟩
 |t::r,A=>by
  have key:∀{l},dV gA 5 true t=some l->lh l=true->Cw t=some l:=fun h1 h2=>by simp only[Cw,h1,h2,aW]
  cases hn:dV gA 5 true t with
  |none=>
   have e:cF (t::r)=([],t::r):=by simp only[cF,hn]
   rw[e];refine⟨aJ,fun t' r' h=>?_⟩;simp only[oU]at h;rw[<-h.1];simp only[Cw,hn]
  |some l=>
   by_cases ho:lh l=true
   .have e:cF (t::r)=(gW l::(cF r).1,(cF r).2):=by simp only[cF,hn,ho,aW]
    rw[e];obtain⟨i1,i2⟩:=BZ R N r (A++[gW l])
    grind [iX,TS,e7]
   .have e:cF (t::r)=([],t::r):=by simp only[cF,hn,ho,fS,aX]
    rw[e];refine⟨aJ,fun t' r' h=>?_⟩;simp only[oU]at h;rw[<-h.1];simp only[Cw,hn,ho,fS,aX]
def Stop (s:Nat)(ls:List au):Prop:=(s=2->No Cw ls/\No (dV eG 2 true) ls)/\(s=2\/s=3->No (dV cU 2 false) ls)/\(s=5->No (dV eG 2 true) ls)
def TP (R:Rec)(N:List bp)(ls:List au):∃s,(s=2\/s=3\/s=4)/\mF ⟨{R with needs:=N++[⟨[],[],[]⟩]},2⟩ ls=mF ⟨{R with needs:=N++[(eR ls).1]},s⟩ (eR ls).2/\Stop s (eR ls).2:=by
 obtain⟨a1,a2⟩:=BZ R N ls [];rw[a1];unfold eR;generalize cF ls=p at a2⊢;obtain⟨W,l1⟩:=p;simp only[fg]at a2⊢;cases hw:cj eG 2 true l1 with
 |none=>
  have ew:cz l1=([],l1):=by simp only[cz,hw]
  rw[ew];simp only;cases ho:cj cU 2 false l1 with
  |none=>
   have eo:oI l1=([],l1):=by simp only[oI,ho]
   rw[eo];exact⟨2,.inl rfl,rfl,fun _=>⟨a2,mq hw⟩,fun _=>mq ho,fun h=>ae⟩
  |some q=>
   obtain⟨l,r⟩:=q;have eo:oI l1=(l[1]!,r):=by simp only[oI,ho]
   rw[eo];obtain⟨t,rfl,ht⟩:=dY ho;refine⟨4,.inr (.inr rfl), ?_,fun h=>ae,fun h=>ae,fun h=>ae⟩;rw[iX (Ip (.inl rfl) ht),e7]
 |some q=>
  obtain⟨l,r⟩:=q;have ew:cz l1=(l[1]!,r):=by simp only[cz,hw]
  rw[ew];simp only;obtain⟨t,rfl,ht⟩:=dY hw;rw[iX (KM rfl ht),e7];simp only;cases ho:cj cU 2 false r with
  |none=>
   have eo:oI r=([],r):=by simp only[oI,ho]
   rw[eo];exact⟨3,.inr (.inl rfl),rfl,fun h=>ae,fun _=>mq ho,fun h=>ae⟩
  |some q=>
   obtain⟨l',r'⟩:=q;have eo:oI r=(l'[1]!,r'):=by simp only[oI,ho]
   rw[eo];obtain⟨t',rfl,ht'⟩:=dY ho;refine⟨4,.inr (.inr rfl), ?_,fun h=>ae,fun h=>ae,fun h=>ae⟩;rw[iX (Ip (.inr rfl) ht'),e7]
def Qc (R:Rec):∀(f:Nat) (ls:List au) (N:List bp) (s:Nat),ls.length<=f->1<=s->s<5->Stop s ls->
  ∃s',1<=s'/\s'<5/\mF ⟨{R with needs:=N},s⟩ ls=mF ⟨{R with needs:=N++(eE ls).1},s'⟩ (eE ls).2/\Stop s' (eE ls).2/\No (dV ek 1 false) (eE ls).2:=by
 intro f;induction f with
 |zero=>
  intro ls N s hl h1 h5 hs;have:ls=[]:=qV.1 ae;subst this;rw[pj (by rfl)];exact⟨s,h1,h5,aJ,hs,fun t r h=>by cases h⟩
 |succ f ih=>
  intro ls N s hl h1 h5 hs;cases hn:cj ek 1 false ls with
  |none=>
   rw[pj hn];exact⟨s,h1,h5,aJ,hs,mq hn⟩
  |some q=>
   obtain⟨l,r⟩:=q;rw[r7 hn];have hlen:=jK hn;obtain⟨t,rfl,ht⟩:=dY hn;rw[iX (Qp (by simp only;omega) (by simpa using h5) ht)];obtain⟨s1,b1,b2,b3⟩:=TP R N r;simp only;rw[b2];have:=xf r;obtain⟨s2,c1,c2,c3,c4,c5⟩:=ih (eR r).2 (N++[(eR r).1]) s1 (by simp only[aP]at hl;omega) ae ae b3;exact⟨s2,c1,c2,by rw[c3];simp,c4,c5⟩
def TN (R:Rec):∀(f:Nat) (ls:List au) (B:List fA) (s:Nat),ls.length<=f->1<=s->s<=6->Stop s ls->(s<5->No (dV ek 1 false) ls)->
  ∃s',1<=s'/\s'<=6/\mF ⟨{R with bars:=B},s⟩ ls=mF ⟨{R with bars:=B++(iM ls).1},s'⟩ (iM ls).2/\Stop s' (iM ls).2/\(s'<5->No (dV ek 1 false) (iM ls).2)/\No (dV fG 3 true) (iM ls).2:=by
 intro f;induction f with
 |zero=>
  intro ls B s hl h1 h5 hs hnd;have:ls=[]:=qV.1 ae;subst this;rw[qq (by rfl)];exact⟨s,h1,h5,aJ,hs,fun _ t r h=>by(cases h),fun t r h=>by cases h⟩
 |succ f ih=>
  intro ls B s hl h1 h5 hs hnd;cases hn:cj fG 3 true ls with
  |none=>
   rw[qq hn];exact⟨s,h1,h5,aJ,hs,hnd,mq hn⟩
  |some q=>
   obtain⟨l,r⟩:=q;rw[ua hn];have hlen:=jK hn;obtain⟨t,rfl,ht⟩:=dY hn;rw[iX (TU (by simp only;omega) (by simpa using h5) ht)];have hwl:=tD r;simp only[aP]at hl;cases hw:cj eG 2 true r with
   |none=>
    have ew:cz r=([],r):=by simp only[cz,hw]
    rw[ew]at hwl⊢;simp only;obtain⟨s2,c1,c2,c3,c4,c5,c6⟩:=ih r (B++[⟨l[1]!,l[2]!,[]⟩]) 5 ae ae ae ⟨fun h=>ae,fun h=>ae,fun _=>mq hw⟩ (fun h=>ae);exact⟨s2,c1,c2,by rw[c3];simp,c4,c5,c6⟩
   |some q=>
    obtain⟨l',r'⟩:=q;have ew:cz r=(l'[1]!,r'):=by simp only[cz,hw]
    rw[ew]at hwl⊢;obtain⟨t',rfl,ht'⟩:=dY hw;rw[iX (KN rfl ht'),e7];simp only at hwl⊢;obtain⟨s2,c1,c2,c3,c4,c5,c6⟩:=ih r' (B++[⟨l[1]!,l[2]!,l'[1]!⟩]) 6 (by simp only[aP]at hl;omega) ae ae ⟨fun h=>ae,fun h=>ae,fun h=>ae⟩ (fun h=>ae);exact⟨s2,c1,c2,by rw[c3];simp,c4,c5,c6⟩
def DY (R:Rec):∀(ls:List au) (F:List b7) (s:Nat),1<=s->
  ∃s',(s'=7\/(s'=s/\(dC ls).2=ls))/\mF ⟨{R with feats:=F},s⟩ ls=mF ⟨{R with feats:=F++(dC ls).1},s'⟩ (dC ls).2/\No vK (dC ls).2
 |[],F,s,h=>⟨s,.inr ⟨rfl,rfl⟩,by simp[dC],fun t r h=>by simp[dC]at h⟩
 |t::r,F,s,h=>by
  cases hn:dV b9 0 false t with
  |none=>
   have e:dC (t::r)=([],t::r):=by simp only[dC,hn]
   rw[e];refine⟨s,.inr ⟨rfl,rfl⟩,aJ,fun t' r' h=>?_⟩;simp only[oU]at h;rw[<-h.1];simp only[vK,hn]
  |some l=>
   by_cases ho:2<=l.length
   .have e:dC (t::r)=(⟨l[1]!,l.drop 2⟩::(dC r).1,(dC r).2):=by simp only[dC,hn,ho,aW]
    rw[e];have hf:vK t=some l:=by simp only[vK,hn,ho,aW]
    rw[iX (Qo (by simp only;omega) hf)];obtain⟨s',i1,i2,i3⟩:=DY R r (F++[⟨l[1]!,l.drop 2⟩]) 7 ae
    grind
   .have e:dC (t::r)=([],t::r):=by simp only[dC,hn,ho,aX]
    rw[e];refine⟨s,.inr ⟨rfl,rfl⟩,aJ,fun t' r' h=>?_⟩;simp only[oU]at h;rw[<-h.1];simp only[vK,hn,ho,aX]
def VO {t:au}(h1:(ai t 32).length=1)(h2:(ai t 32)[0]! =ek):[]∉ai t 32:=by
 obtain⟨a,ha⟩:=List.length_eq_one_iff.1 h1;rw[ha]at h2⊢;simp only[List.getElem!_cons_zero]at h2;subst h2;decide
def TO (nm:au)(v:cq)(ls:List au):∃s,1<=s/\mF ⟨⟨nm,v,[],[],[]⟩,1⟩ ls=(⟨(pO nm v ls).1,s⟩,(pO nm v ls).2):=by
 obtain⟨s1,a1,a2,a3,a4,a5⟩:=Qc ⟨nm,v,[],[],[]⟩ ls.length ls [] 1 (aL _) ae ae ⟨fun h=>ae,fun h=>ae,fun h=>ae⟩;obtain⟨s2,b1,b2,b3,b4,b5,b6⟩:=TN ⟨nm,v,(eE ls).1,[],[]⟩ (eE ls).2.length (eE ls).2 [] s1 (aL _) a1 ae a4 (fun _=>a5);obtain⟨s3,c1,c2,c3⟩:=DY ⟨nm,v,(eE ls).1,(iM (eE ls).2).1,[]⟩ (iM (eE ls).2).2 [] s2 b1;simp only[fg]at a3 b3 c2;have hs3:1<=s3:=by rcases c1 with h|h<;>omega
 refine⟨s3,hs3, ?_⟩;rw[a3,b3,c2];unfold pO;generalize hR:(⟨nm,v,(eE ls).1,(iM (eE ls).2).1,(dC (iM (eE ls).2).2).1⟩:Rec)=R
 match hq:(dC (iM (eE ls).2).2).2 with
 |[]=>rfl
 |t::r=>
  refine tw (Wm (by simp only;omega) ?_ ?_ ?_ ?_ ?_ (c3 t r hq) VO);all_goals
   intro h;simp only at h;rcases c1 with h7|⟨rfl,e⟩
   .omega
   rw[e]at hq
  .exact b5 h t r hq
  .exact(b4.1 h).1 t r hq
  .rcases h with h|h
   .exact(b4.1 h).2 t r hq
   .exact b4.2.2 h t r hq
  .exact b4.2.1 h t r hq
  .exact b6 t r hq
def head_eq {t:au}:AY (ai t 32)=(match dV dN 3 false t with
  |some l=>(match gv l[2]! with
   |some v=>some ⟨⟨l[1]!,v,[],[],[]⟩,1⟩
   |none=>none)
  |none=>none):=by
 rw[DG];unfold AY;generalize ai t 32=l;by_cases h1:l.length=3/\l[0]! =dN
 .obtain⟨a,b,c,rfl⟩:∃a b c,l=[a,b,c]:=by
   match l,h1.1 with
   |[a,b,c],_=>exact⟨a,b,c,rfl⟩
  have h2:=h1.2;simp only[List.getElem!_cons_zero]at h2;subst h2;by_cases hb:b=[]
  .subst hb;rw[ak aJ,ak aJ]
  .rw[aw ⟨h1,by simpa using hb⟩];by_cases hc:c=[]
   .subst hc;rw[ak aJ];rfl
   .have hm:[]∉[dN,b,c]:=by
     simp only[cb,eJ,or_false,not_or];exact⟨aF,fun h=>hb h.symm,fun h=>hc h.symm⟩
    rw[aw ⟨h1.2,.inr rfl,hm⟩];all_goals (cases hq:gv [dN,b,c][2]! <;>simp only[hq])
 .rw[ak (fun h=>h1 h.1),ak];rintro⟨a,b,_⟩;exact h1 ⟨by rcases b with b|b<;>omega,a⟩
def v8:jq:=⟨hH,0⟩
def ZV (t:au):eF v8 t=AY (ai t 32):=by unfold eF v8;simp
theorem FI (ls:List au):match oX ls with
  |some (r,rest)=>∃s,1<=s/\mF v8 ls=(⟨r,s⟩,rest)
  |none=>mF v8 ls=(v8,ls):=by
 match ls with
 |[]=>rfl
 |t::q=>
  have hs:=ZV t;rw[head_eq]at hs;cases hn:dV dN 3 false t with
  |none=>
   grind [oX,cj,tw]
  |some l=>
   rw[hn]at hs;simp only[oX,cj,hn];cases hv:gv l[2]! with
   |none=>
    grind [tw]
   |some v=>
    simp only[hv]at hs;obtain⟨s,h1,h2⟩:=TO l[1]! v q
    grind [iX]
def tO (m:List (Nat×bX))(l:Nat)(t:List UInt8):Prop:=(∃u,look m l=some (.bld none 0 u)/\t=[])\/(∃l2 u,look m l=some (.bld (some l2) t.length u)/\look m l2=some (.row t))
@[go_sem] def gF (m:List (Nat×bX))(l:Nat):List (Nat×bX):=match look m l with
 |some (.bld (some l2) _ _)=>cJ m l2
 |_=>m
@[go_sem] def rD (m:List (Nat×bX))(l L:Nat)(t:List UInt8):List (Nat×bX):=(L,.row t)::dH (gF m l) l (.bld (some L) t.length true)
def TrW (apT:D)(s:List UInt8)(ds:List D)(st:St)(K:D->St->Prop):Prop:=∃l t,ds=[.ptr l 2 0 0,apT]/\tO st.m l t/\l<st.nx/\s≠[]/\t.length+s.length<=1099511627776/\K .any ⟨st.nx+1,rD st.m l st.nx (t++s)⟩
def trWS (ds:List D)(st:St)(K:D->St->Prop):Prop:=∃s,TrW (.str s) s ds st K
def trWB (ds:List D)(st:St)(K:D->St->Prop):Prop:=∃c,TrW (.int .u8 c.toNat) [c] ds st K
def trBS (ds:List D)(st:St)(K:D->St->Prop):Prop:=∃l t,ds=[.ptr l 2 0 0]/\tO st.m l t/\t≠[]/\K (.str t) ⟨st.nx,cJ (gF st.m l) l⟩
def UE (Y:Ctx):Prop:=∀(ds:List D) (st:St) (K:D->St->Prop),trWS ds st K->Y.tr 489 ds st K
def X7 (Y:Ctx):Prop:=∀(ds:List D) (st:St) (K:D->St->Prop),trWB ds st K->Y.tr 664 ds st K
def Ux (Y:Ctx):Prop:=∀(ds:List D) (st:St) (K:D->St->Prop),trBS ds st K->Y.tr 452 ds st K
def O5 (b a:au)(l:List au)(h:a≠[]):aS b (a::l)≠[]:=by
 match l with
 |[]=>exact h
 |c::r=>
  rw[gr b a (c::r) aJ];intro e;have:=List.append_eq_nil_iff.1 e;exact h (List.append_eq_nil_iff.1 this.1).1
def Ez (ws:List au)(t:au):Prop:=(aS [32] ws≠[]/\ws.length<=1048600)/\(∀w∈ws,w.length<=2097200)/\t.length+(aS [32] ws).length+1<=1099511627776
def Ez.mk {a:au}{l:List au}{t:au}(h1:a≠[])(h2:l.length<=99)(h3:∀w∈a::l,w.length<=2097200)(h4:t.length<=1000000000):Ez (a::l) t:=by
 have h5:=mh 32 2097200 (a::l) h3;have h6:(a::l).length<=100:=by simp only[aP];omega
 have h7:=fo (2097200+1) h6;exact⟨⟨O5 _ _ _ h1,ae⟩,h3,ae⟩
def XN (Y:Ctx):Prop:=∀(ws:List au) (t:au) (l lw nx:Nat) (m:List (Nat×bX)) (K:D->St->Prop),tO m l t->look m lw=some (.buf 1 (ws.map D.str))->l<nx->lw<nx->Ez ws t->
 K (.tup []) ⟨nx+1,rD (cJ m lw) l nx (t++cw ws)⟩->Y.tr 450 [.ptr l 2 0 0,.own lw 1 0 ws.length] ⟨nx,m⟩ K
def xb {m:List (Nat×bX)}{l L:Nat}{t:List UInt8}(h:l≠L):look (rD m l L t) l=some (.bld (some L) t.length true)/\look (rD m l L t) L=some (.row t):=by
 constructor
 .simp only[rD,look,ak (fun e=>h (Eq.symm e))]
  haveI:dS:={gd:=fun _=>True,le:=fun _ _ _ _ _=>trivial}
  rw[cL,aw rfl]
 .simp only[rD,look,aw]
def UU {m:List (Nat×bX)}{l L:Nat}{t:List UInt8}(h:l≠L):tO (rD m l L t) l t:=.inr ⟨L,true,xb h⟩
end Go.Abs
section
namespace Go.Abs
def ah {p:Prop}(h:p:=by exact rfl):p:=h
def lP {p:Prop}(h:p:=by repeat(first|exact dr.nil|refine dr.un ?_|refine dr.eq aQ ?_)):p:=h
def eL {p:Prop}(h:p:=by first|exact rfl|exact br (fun _=>rfl) _):p:=h
def ei {p:Prop}(h:p:=by repeat(first|exact dr.nil|refine dr.un ?_|refine dr.eq aQ ?_|refine dr.nl aQ aQ ?_)):p:=h
def eh {p:Prop}(h:p:=by repeat' first|exact trivial|exact rfl|refine And.intro ?_ ?_):p:=h
def sj {p:Prop}(h:p:=by repeat' first|exact trivial|exact rfl|exact aL _|refine And.intro ?_ ?_):p:=h
def qd {p:Prop}(h:p:=by repeat(first|exact bo.nil|refine bo.fY aQ aQ (by first|exact rfl|exact br (fun _=>rfl) _) ?_|refine bo.Gc aQ aQ aQ ?_|refine bo.idi aQ aQ aQ aQ ?_)):p:=h
def qqq8 {p:Prop}(h:p:=by simp only[lf,iL,iV,lQ,nk,cJ,Nat.reduceEqDiff,aW,aX,cO,ct,cu,cT,cX,bR,bO,aL,bZ,aN,reduceCtorEq,aP,a8,Nat.reduceAdd,Nat.reduceLeDiff];exact rfl):p:=h
def b0 {p:Prop} [Decidable p]:(decide p=true)=p:=aK
def b1 {p:Prop} [Decidable p]:decide p=false↔¬p:=bc
def b2 (b:Bool):((!b)=true)=(b=false):=bd b
def b3 (b:Bool):((!b)=false)=(b=true):=bM b
def b4 (b:Bool):(¬(b=false))=(b=true):=Bool.not_eq_false b
def b5 (a b:Bool):((a ||b)=true)=(a=true\/b=true):=cN a b
def b6 {a b:Bool}:(a ||b)=false↔a=false/\b=false:=de
end Go.Abs
namespace Go.Abs
abbrev di (Y:Ctx)(a:aC)(d:D)(ds:List D):Prop:=bK (Y.at 0) a.body (YF a d) (fF a ds) ⟨0,[]⟩
def bG {a:aC}{d d2:D}{e:Ex}{nx:Nat}{m:List (Nat×bX)}{env:List ch}(h:d2=d)(he:e.home:=by exact trivial)(h1:rr m env a.res:=by exact sj)(h2:Ew a env m:=by exact eh)(h3:QD a env m=d2:=by exact rfl):YF a d e env ⟨nx,m⟩:=ZO he h1 h2 (h3.trans h)
def bV {a:aC}{d d2:Bool}{e:Ex}{nx:Nat}{m:List (Nat×bX)}{env:List ch}(h:d2=d)(he:e.home:=by exact trivial)(h1:rr m env a.res:=by exact sj)(h2:Ew a env m:=by exact eh)(h3:QD a env m=.bool d2:=by exact rfl):YF a (.bool d) e env ⟨nx,m⟩:=bG (aj _ h) he h1 h2 h3
def dc {a:aC}{d d2:List UInt8}{e:Ex}{nx:Nat}{m:List (Nat×bX)}{env:List ch}(h:d2=d)(he:e.home:=by exact trivial)(h1:rr m env a.res:=by exact sj)(h2:Ew a env m:=by exact eh)(h3:QD a env m=.str d2:=by exact rfl):YF a (.str d) e env ⟨nx,m⟩:=bG (aj _ h) he h1 h2 h3
def cY {a:aC}{d d2:Int}{e:Ex}{nx:Nat}{m:List (Nat×bX)}{env:List ch}(h:d2=d)(he:e.home:=by exact trivial)(h1:rr m env a.res:=by exact sj)(h2:Ew a env m:=by exact eh)(h3:QD a env m=.int .i64 d2:=by exact rfl):YF a (.int .i64 d) e env ⟨nx,m⟩:=bG (aj _ h) he h1 h2 h3
def du {lo c nx nx2:Nat}{env env2:List ch}{m m2:List (Nat×bX)}(σ:List (Nat×Nat))(hc:nx2=c:=by exact ah)(h:gT lo c σ=true:=by exact ah)(he:dr lo σ env env2:=by exact ei)(hm:bo lo c σ m m2:=by exact qd):a7 lo env ⟨nx,m⟩ env2 ⟨nx2,m2⟩:=a7.to σ hc h he hm
def fH {Y:Ctx}{draw f:Bool}{r:List GI}{env rs:List ch}{nx:Nat}{m:List (Nat×bX)}{K:List ch->St->Prop}{g:Option (Nat×Bool)}{x y:Src}{fx fy:Bool}{a b:List UInt8}(h:aM Y draw r env (⟨f,.str (a++b)⟩::rs) nx m K)(hg:GF rs g f:=by first|exact rfl|exact⟨_,_,rfl,rfl⟩)(hx:cQ env rs x=⟨fx,.str a⟩:=by exact rfl)(hy:cQ env rs y=⟨fy,.str b⟩:=by exact rfl)(kx:f=true->fx=true:=by first|exact fun _=>rfl|exact fun h=>h|(intro h;simp_all))(ky:f=true->fy=true:=by first|exact fun _=>rfl|exact fun h=>h|(intro h;simp_all))(hb:f=true->a.length+b.length<=9223372036854775807:=by intro _;simp only[bQ,aP,a8];omega):aM Y draw (⟨.bin .add x y,g⟩::r) env rs nx m K:=dk h hg hx hy kx ky hb
end Go.Abs
namespace Go.Abs
def eN {lo c l:Nat}{σ:List (Nat×Nat)}{m r:List (Nat×bX)}{b:bX}(h:bo lo c σ m r)(hh:bo lo c σ m [(l,b)]:=by(first|refine bo.fY aQ aQ (by first|exact rfl|exact br (fun _=>rfl) _) ?_|refine bo.Gc aQ aQ aQ ?_|refine bo.idi aQ aQ aQ aQ ?_)<;>exact bo.nil):bo lo c σ m ((l,b)::r):=⟨hh.1,h⟩
end Go.Abs
namespace Go.Abs
section
variable {Y:Ctx} {Q:Ex->List ch->St->Prop}
def cmN {env rs:List ch}:Rm env rs []=env:=rfl
def cmC {s p:Nat}{r:List (Nat×Nat)}{env rs env1 env':List ch}{f:Bool}{d:D}(e:cQ [] rs (.l p)=⟨f,d⟩)(hs:env.set s ⟨f,d⟩=env1)(h:Rm env1 rs r=env'):Rm env rs ((s,p)::r)=env':=by
 simp only[Rm,e,hs,h]
def rrrg {draw:Bool}{cm:List (Nat×Nat)}{b:AC}{nx nx':Nat}{m:List (Nat×bX)}{rs env fF env':List ch}(h:bK Y b Q env' ⟨nx',m⟩)
  (he:Rm env rs cm=env':=by repeat(first|apply cmC aQ (by simp only[List.set_cons_zero,List.set_cons_succ];exact rfl)|with_reducible exact cmN)) (hn:nx+rs.length=nx':=by simp only[aP,a8,Nat.reduceAdd];exact rfl):aM Y draw [] fF rs nx m (fun vs st'=>bK Y b Q (ja env vs cm) st'):=
 Wc h he hn
def rrrh {draw:Bool}{cm:List (Nat×Nat)}{nx nx':Nat}{m:List (Nat×bX)}{rs env fF env':List ch}(h:Q .normal env' ⟨nx',m⟩)
  (he:Rm env rs cm=env':=by repeat(first|apply cmC aQ (by simp only[List.set_cons_zero,List.set_cons_succ];exact rfl)|with_reducible exact cmN)) (hn:nx+rs.length=nx':=by simp only[aP,a8,Nat.reduceAdd];exact rfl):aM Y draw [] fF rs nx m (fun vs st'=>Q .normal (ja env vs cm) st'):=
 Wd h he hn
end
def Fam (_:Prop):Type:=Unit
def wm {q:Prop}:Fam q:=()
structure Hid (q:Prop)(f:Fam q):Prop where
 val:q
section
variable {Y:Ctx} {draw b1:Bool} {r:List GI} {env rs:List ch} {nx n0 n1:Nat} {m:List (Nat×bX)} {K:List ch->St->Prop} {g:Option (Nat×Bool)} {x0 x1 x2:Src}
def tg0 {Y:Ctx}{a:AC}{Q:Ex->List ch->St->Prop}{env:List ch}{st:St}(h:bK Y a Q env st):bK Y a Q env st:=h
def tg1 (h:aM Y draw (⟨.mv x0,g⟩::r) env rs nx m K):aM Y draw (⟨.mv x0,g⟩::r) env rs nx m K:=h
def tg2 (h:aM Y draw [] env rs nx m K):aM Y draw [] env rs nx m K:=h
def tg3 (h:aM Y draw (⟨.fa n0 x1,g⟩::r) env rs nx m K):aM Y draw (⟨.fa n0 x1,g⟩::r) env rs nx m K:=h
def tg4 (h:aM Y draw (⟨.ld n0 b1 x2,g⟩::r) env rs nx m K):aM Y draw (⟨.ld n0 b1 x2,g⟩::r) env rs nx m K:=h
def tg5 (h:aM Y draw (⟨.bin .lss x0 x1,g⟩::r) env rs nx m K):aM Y draw (⟨.bin .lss x0 x1,g⟩::r) env rs nx m K:=h
def tg6 (h:aM Y draw (⟨.bin .eql x0 x1,g⟩::r) env rs nx m K):aM Y draw (⟨.bin .eql x0 x1,g⟩::r) env rs nx m K:=h
def tg7 (h:aM Y draw (⟨.bin .add x0 x1,g⟩::r) env rs nx m K):aM Y draw (⟨.bin .add x0 x1,g⟩::r) env rs nx m K:=h
def tg8 (h:aM Y draw (⟨.bin .gtr x0 x1,g⟩::r) env rs nx m K):aM Y draw (⟨.bin .gtr x0 x1,g⟩::r) env rs nx m K:=h
def tg9 (h:aM Y draw (⟨.bin .neq x0 x1,g⟩::r) env rs nx m K):aM Y draw (⟨.bin .neq x0 x1,g⟩::r) env rs nx m K:=h
def tg10 (h:aM Y draw (⟨.bin .leq x0 x1,g⟩::r) env rs nx m K):aM Y draw (⟨.bin .leq x0 x1,g⟩::r) env rs nx m K:=h
def tg11 (h:aM Y draw (⟨.bin .geq x0 x1,g⟩::r) env rs nx m K):aM Y draw (⟨.bin .geq x0 x1,g⟩::r) env rs nx m K:=h
def tg12 (h:aM Y draw (⟨.bin .sub x0 x1,g⟩::r) env rs nx m K):aM Y draw (⟨.bin .sub x0 x1,g⟩::r) env rs nx m K:=h
def tg13 (h:aM Y draw (⟨.ext x0 n1,g⟩::r) env rs nx m K):aM Y draw (⟨.ext x0 n1,g⟩::r) env rs nx m K:=h
def tg14 (h:aM Y draw (⟨.pick x0 x1 (.c (.bool false)),g⟩::r) env rs nx m K):aM Y draw (⟨.pick x0 x1 (.c (.bool false)),g⟩::r) env rs nx m K:=h
def tg15 (h:aM Y draw (⟨.pick x0 (.c (.bool true)) x1,g⟩::r) env rs nx m K):aM Y draw (⟨.pick x0 (.c (.bool true)) x1,g⟩::r) env rs nx m K:=h
def tg16 (h:aM Y draw (⟨.un .not x0,g⟩::r) env rs nx m K):aM Y draw (⟨.un .not x0,g⟩::r) env rs nx m K:=h
def tg17 (h:aM Y draw (⟨.nilck x0,g⟩::r) env rs nx m K):aM Y draw (⟨.nilck x0,g⟩::r) env rs nx m K:=h
def tg18 (h:aM Y draw (⟨.box n0 x1,g⟩::r) env rs nx m K):aM Y draw (⟨.box n0 x1,g⟩::r) env rs nx m K:=h
def tg19 (h:aM Y draw (⟨.ia n0 x1 x2,g⟩::r) env rs nx m K):aM Y draw (⟨.ia n0 x1 x2,g⟩::r) env rs nx m K:=h
def tg20 (h:aM Y draw (⟨.ixS x0 x1,g⟩::r) env rs nx m K):aM Y draw (⟨.ixS x0 x1,g⟩::r) env rs nx m K:=h
def tg21 (h:aM Y draw (⟨.st n0 x1 x2,g⟩::r) env rs nx m K):aM Y draw (⟨.st n0 x1 x2,g⟩::r) env rs nx m K:=h
def tg22 (h:aM Y draw (⟨.len x0,g⟩::r) env rs nx m K):aM Y draw (⟨.len x0,g⟩::r) env rs nx m K:=h
def tg23 (h:aM Y draw (⟨.lenS x0,g⟩::r) env rs nx m K):aM Y draw (⟨.lenS x0,g⟩::r) env rs nx m K:=h
def tg24 (h:aM Y draw (⟨.yu x0,g⟩::r) env rs nx m K):aM Y draw (⟨.yu x0,g⟩::r) env rs nx m K:=h
def tg25 (h:aM Y draw (⟨.s2b x0,g⟩::r) env rs nx m K):aM Y draw (⟨.s2b x0,g⟩::r) env rs nx m K:=h
def tg26 (h:aM Y draw (⟨.mkB,g⟩::r) env rs nx m K):aM Y draw (⟨.mkB,g⟩::r) env rs nx m K:=h
def tg27 (h:aM Y draw (⟨.app n0 x1 x2,g⟩::r) env rs nx m K):aM Y draw (⟨.app n0 x1 x2,g⟩::r) env rs nx m K:=h
end
def aA {p q:Prop}(k:q)(h:Hid q wm->p:=by
 intro h;first
 |((with_reducible refine tg0 ?_);first|with_reducible exact ar h.1|with_reducible exact Ug h.1|with_reducible exact KY h.1|with_reducible exact Z2 h.1|with_reducible exact QC h.1|with_reducible exact wp_ret h.1|with_reducible exact wp_skip h.1|with_reducible exact KX h.1|with_reducible exact wp_exit h.1|with_reducible exact II h.1 hm|with_reducible exact QB h.1 hm)
 |((with_reducible refine tg1 ?_);(refine r_mv ?_;exact h.1))
 |((with_reducible refine tg2 ?_);first|(refine rrrh ?_;exact h.1)|(refine rrrg ?_;exact h.1))
 |((with_reducible refine tg3 ?_);first|(refine r_faP ?_;exact h.1)|(refine r_faR ?_;exact h.1))
 |((with_reducible refine tg4 ?_);first|exact aT (.int _ _) h.1|exact aT (.str _) h.1|(refine bE (v:=.str _) ?_;exact h.1)|(refine ff (v:=.str _) ?_;exact h.1)|(refine bE (v:=.int _ _) ?_;exact h.1)|(refine ff (v:=.int _ _) ?_;exact h.1)|exact aT (.sl _ _) h.1|exact aT (.own _ _ _ _) h.1|exact aT (.bool _) h.1|(refine bE (v:=.sl _ _) ?_;exact h.1)|(refine ff (v:=.sl _ _) ?_;exact h.1)|(refine bE (v:=.bool _) ?_;exact h.1)|(refine ff (v:=.bool _) ?_;exact h.1)|exact cA h.1|exact aT .bq h.1)
 |((with_reducible refine tg5 ?_);first|(refine Tq ?_;exact h.1)|(refine Tr ?_;exact h.1))
 |((with_reducible refine tg6 ?_);first|(refine Zx ?_;exact h.1)|(refine Zy ?_;exact h.1))
 |((with_reducible refine tg7 ?_);(refine V7 ?_;exact h.1))
 |((with_reducible refine tg8 ?_);first|(refine J1 ?_;exact h.1)|(refine J2 ?_;exact h.1))
 |((with_reducible refine tg9 ?_);first|(refine ZG ?_;exact h.1)|(refine ZH ?_;exact h.1))
 |((with_reducible refine tg10 ?_);first|(refine ZE ?_;exact h.1)|(refine ZF ?_;exact h.1))
 |((with_reducible refine tg11 ?_);first|(refine Zz ?_;exact h.1)|(refine ZA ?_;exact h.1))
 |((with_reducible refine tg12 ?_);(refine Md ?_;exact h.1))
 |((with_reducible refine tg13 ?_);first|exact eZ (.int _ _) h.1|exact eZ (.str _) h.1|exact eZ (.bool _) h.1)
 |((with_reducible refine tg14 ?_);(refine Te ?_;exact h.1))
 |((with_reducible refine tg15 ?_);(refine r_or ?_;exact h.1))
 |((with_reducible refine tg16 ?_);(refine r_not ?_;exact h.1))
 |((with_reducible refine tg17 ?_);first|(refine ZI ?_;exact h.1)|(refine ZJ ?_;exact h.1))
 |((with_reducible refine tg18 ?_);(refine r_box ?_;exact h.1))
 |((with_reducible refine tg19 ?_);first|exact bI _ h.1|exact Tj h.1|exact iv _ h.1|exact ZB h.1)
 |((with_reducible refine tg20 ?_);first|exact qe _ h.1|exact ZC h.1)
 |((with_reducible refine tg21 ?_);exact aI _ h.1)
 |((with_reducible refine tg22 ?_);first|exact Tn fun a=>(h.1:_->_) (a rfl rfl)|exact To fun a=>(h.1:_->_) (a rfl rfl)|(refine ZD ?_;exact h.1))
 |((with_reducible refine tg23 ?_);exact Tp fun a=>(h.1:_->_) (a rfl rfl))
 |((with_reducible refine tg24 ?_);(refine r_rng ?_;exact h.1))
 |((with_reducible refine tg25 ?_);(refine r_s2b ?_;exact h.1))
 |((with_reducible refine tg26 ?_);(refine r_mkB ?_;exact h.1))
 |((with_reducible refine tg27 ?_);(refine gV ?_;exact h.1))
 |with_reducible exact BQ.normal h.1|with_reducible exact BQ.ret h.1|with_reducible exact LQ.normal h.1|with_reducible exact LQ.out h.1|with_reducible exact LQ.ret h.1|with_reducible exact BQ.out h.1|with_reducible exact I1.normal h.1|with_reducible exact I1.ret h.1|with_reducible exact I3.normal h.1|with_reducible exact I3.ret h.1|with_reducible exact I1.out h.1|with_reducible exact I3.out h.1|with_reducible exact CQ.normal h.1|with_reducible exact CQ.ret h.1|with_reducible exact CQ.other h.1|((with_reducible refine BQ.other ?_ h.1);exact rfl)|((with_reducible refine LQ.other ?_ h.1);exact rfl)|((with_reducible refine I1.other ?_ h.1);exact rfl)|((with_reducible refine I3.other ?_ h.1);exact rfl)):p:=h ⟨k⟩
def iy {p q:Prop}(k:q)(h:Hid q wm->p:=by intro h;first|exact Tn fun _=>h.1|exact Tp fun _=>h.1|exact To fun _=>h.1):p:=h ⟨k⟩
section
variable {Y:Ctx} {Q:Ex->List ch->St->Prop}
end
def dq:(∀{p:Prop} [Decidable p],(decide p=true)=p)/\(∀{p:Prop} [Decidable p],decide p=false↔¬p)/\(∀b:Bool,((!b)=true)=(b=false))/\(∀b:Bool,((!b)=false)=(b=true))/\(∀b:Bool,(¬(b=false))=(b=true))/\(∀a b:Bool,((a ||b)=true)=(a=true\/b=true))/\(∀{a b:Bool},(a ||b)=false↔a=false/\b=false)/\(∀a b:Bool,((a&&b)=true)=(a=true/\b=true))/\(∀{a b:Bool},(a&&b)=false↔a=false\/b=false)/\(∀b:Bool,(¬(b=true))=(b=false))/\(∀b:Bool,(true&&b)=b)/\∀b:Bool,(b&&true)=b:=
 ⟨aK,bc,bd,bM,Bool.not_eq_false,cN,de,bC,dz,Bool.not_eq_true,gH,nE⟩
section
variable {Y:Ctx} {Q:Ex->List ch->St->Prop} {env:List ch} {st:St}
def cG {c:Src}{a b r:AC}{t:Bool}{c1 c2:Prop}(h1:c1->bK Y (.seq a r) Q env st)(h2:c2->bK Y (.seq b r) Q env st)(hc:cQ env [] c=⟨true,.bool t⟩:=by exact rfl)(e1:t=true->c1:=by intro h;(try simp only[dq]at h);exact h)(e2:t=false->c2:=by intro h;(try simp only[dq]at h);exact h):bK Y (.seq (.cond c a b) r) Q env st:=av (fun h=>h1 (e1 h)) (fun h=>h2 (e2 h)) hc
def fO {c:Src}{a b:AC}{t:Bool}{c1 c2:Prop}(h1:c1->bK Y a Q env st)(h2:c2->bK Y b Q env st)(hc:cQ env [] c=⟨true,.bool t⟩:=by exact rfl)(e1:t=true->c1:=by intro h;(try simp only[dq]at h);exact h)(e2:t=false->c2:=by intro h;(try simp only[dq]at h);exact h):bK Y (.cond c a b) Q env st:=wp_cond (fun h=>h1 (e1 h)) (fun h=>h2 (e2 h)) hc
end
end Go.Abs
namespace Go.Abs
def ax {p q:Prop}(k:q)(h:Hid q wm->p:=by intro h;(iterate 2 refine aA ?_);exact h.1):p:=h ⟨k⟩
def ay {p q:Prop}(k:q)(h:Hid q wm->p:=by intro h;(iterate 3 refine aA ?_);exact h.1):p:=h ⟨k⟩
def aB {p q:Prop}(k:q)(h:Hid q wm->p:=by intro h;(iterate 4 refine aA ?_);exact h.1):p:=h ⟨k⟩
def aE {p q:Prop}(k:q)(h:Hid q wm->p:=by intro h;(iterate 5 refine aA ?_);exact h.1):p:=h ⟨k⟩
def aD {p q:Prop}(k:q)(h:Hid q wm->p:=by intro h;(iterate 6 refine aA ?_);exact h.1):p:=h ⟨k⟩
def aZ {p q:Prop}(k:q)(h:Hid q wm->p:=by intro h;(iterate 7 refine aA ?_);exact h.1):p:=h ⟨k⟩
def bN {p q:Prop}(k:q)(h:Hid q wm->p:=by intro h;(iterate 8 refine aA ?_);exact h.1):p:=h ⟨k⟩
def c7 {p q:Prop}(k:q)(h:Hid q wm->p:=by intro h;(iterate 9 refine aA ?_);exact h.1):p:=h ⟨k⟩
def fU {p q:Prop}(k:q)(h:Hid q wm->p:=by intro h;(iterate 10 refine aA ?_);exact h.1):p:=h ⟨k⟩
def fK {p q:Prop}(k:q)(h:Hid q wm->p:=by intro h;(iterate 11 refine aA ?_);exact h.1):p:=h ⟨k⟩
def gD {p q:Prop}(k:q)(h:Hid q wm->p:=by intro h;(iterate 12 refine aA ?_);exact h.1):p:=h ⟨k⟩
def lX {p q:Prop}(k:q)(h:Hid q wm->p:=by intro h;(iterate 13 refine aA ?_);exact h.1):p:=h ⟨k⟩
def sQ {p q:Prop}(k:q)(h:Hid q wm->p:=by intro h;(iterate 14 refine aA ?_);exact h.1):p:=h ⟨k⟩
def Cn {p q:Prop}(k:q)(h:Hid q wm->p:=by intro h;(iterate 15 refine aA ?_);exact h.1):p:=h ⟨k⟩
def Co {p q:Prop}(k:q)(h:Hid q wm->p:=by intro h;(iterate 16 refine aA ?_);exact h.1):p:=h ⟨k⟩
def Cq {p q:Prop}(k:q)(h:Hid q wm->p:=by intro h;(iterate 17 refine aA ?_);exact h.1):p:=h ⟨k⟩
def Xt {p q:Prop}(k:q)(h:Hid q wm->p:=by intro h;(iterate 18 refine aA ?_);exact h.1):p:=h ⟨k⟩
def Xu {p q:Prop}(k:q)(h:Hid q wm->p:=by intro h;(iterate 20 refine aA ?_);exact h.1):p:=h ⟨k⟩
def zzz21 {p q:Prop}(k:q)(h:Hid q wm->p:=by intro h;(iterate 21 refine aA ?_);exact h.1):p:=h ⟨k⟩
def Uq {p q:Prop}(k:q)(h:Hid q wm->p:=by intro h;(iterate 22 refine aA ?_);exact h.1):p:=h ⟨k⟩
def zzz24 {p q:Prop}(k:q)(h:Hid q wm->p:=by intro h;(iterate 24 refine aA ?_);exact h.1):p:=h ⟨k⟩
def Xv {p q:Prop}(k:q)(h:Hid q wm->p:=by intro h;(iterate 25 refine aA ?_);exact h.1):p:=h ⟨k⟩
def zzz26 {p q:Prop}(k:q)(h:Hid q wm->p:=by intro h;(iterate 26 refine aA ?_);exact h.1):p:=h ⟨k⟩
def Ur {p q:Prop}(k:q)(h:Hid q wm->p:=by intro h;(iterate 28 refine aA ?_);exact h.1):p:=h ⟨k⟩
def zzz29 {p q:Prop}(k:q)(h:Hid q wm->p:=by intro h;(iterate 29 refine aA ?_);exact h.1):p:=h ⟨k⟩
def Xw {p q:Prop}(k:q)(h:Hid q wm->p:=by intro h;(iterate 36 refine aA ?_);exact h.1):p:=h ⟨k⟩
end Go.Abs
namespace Go.Abs
abbrev s0:Src:=.s 0
abbrev s1:Src:=.s 1
abbrev s2:Src:=.s 2
abbrev s3:Src:=.s 3
abbrev s4:Src:=.s 4
abbrev s5:Src:=.s 5
abbrev s6:Src:=.s 6
abbrev s7:Src:=.s 7
abbrev s8:Src:=.s 8
abbrev s9:Src:=.s 9
abbrev Xp:Src:=.s 10
abbrev s11:Src:=.s 11
abbrev Wi:Src:=.s 12
abbrev s13:Src:=.s 13
abbrev s14:Src:=.s 14
abbrev s15:Src:=.s 15
abbrev l0:Src:=.l 0
abbrev l1:Src:=.l 1
abbrev l2:Src:=.l 2
abbrev l3:Src:=.l 3
abbrev l4:Src:=.l 4
abbrev l5:Src:=.l 5
abbrev l6:Src:=.l 6
abbrev l7:Src:=.l 7
abbrev l8:Src:=.l 8
abbrev l9:Src:=.l 9
abbrev l10:Src:=.l 10
abbrev l11:Src:=.l 11
abbrev l12:Src:=.l 12
abbrev l13:Src:=.l 13
abbrev l14:Src:=.l 14
abbrev l15:Src:=.l 15
abbrev l16:Src:=.l 16
abbrev l17:Src:=.l 17
abbrev l18:Src:=.l 18
abbrev l19:Src:=.l 19
abbrev l20:Src:=.l 20
abbrev l21:Src:=.l 21
abbrev l22:Src:=.l 22
abbrev l23:Src:=.l 23
abbrev l24:Src:=.l 24
abbrev l25:Src:=.l 25
abbrev l26:Src:=.l 26
abbrev l27:Src:=.l 27
abbrev l28:Src:=.l 28
abbrev l29:Src:=.l 29
abbrev l30:Src:=.l 30
abbrev l31:Src:=.l 31
abbrev l32:Src:=.l 32
abbrev l33:Src:=.l 33
abbrev l34:Src:=.l 34
abbrev l35:Src:=.l 35
abbrev l36:Src:=.l 36
abbrev l37:Src:=.l 37
abbrev gm (x:Src):GI:=⟨.mv x,none⟩
abbrev gn (x:aV):GI:=⟨x,none⟩
abbrev cs (s:List UInt8):Src:=.c (.str s)
abbrev gd (x:Src):GI:=⟨.ld 1 false x,none⟩
abbrev gk (n:Nat)(b:Bool)(x:Src):GI:=⟨.ld n b x,none⟩
abbrev gf (n:Nat)(x:Src):GI:=⟨.fa n x,none⟩
abbrev gl (x:Src):GI:=⟨.len x,none⟩
abbrev ga (n:Nat)(x y:Src):GI:=⟨.ia n x y,none⟩
abbrev gb (n:Nat)(x:Src):GI:=⟨.box n x,none⟩
abbrev gx (n:Nat)(x:List Src)(y:List (List Sh)):GI:=⟨.call n x y,none⟩
abbrev rg (x:List GI)(y:List (Nat×Nat)):AC:=.reg false x y
abbrev rt (x:List GI)(y:List (Nat×Nat)):AC:=.reg true x y
abbrev b_lss (x y:Src):aV:=.bin .lss x y
abbrev K8 (x y:Src):aV:=.bin .neq x y
abbrev W2:Src:=.c (.bool false)
abbrev cbT:Src:=.c (.bool true)
abbrev cse:Src:=.c (.str [])
abbrev Lv:Src:=.c (.int .i64 0)
abbrev ic1:Src:=.c (.int .i64 1)
abbrev gmt (n:Nat)(x:Src):GI:=⟨.mv x,some (n,true)⟩
abbrev gnt (n:Nat)(x:aV):GI:=⟨x,some (n,true)⟩
abbrev gmf (n:Nat)(x:Src):GI:=⟨.mv x,some (n,false)⟩
abbrev I6 (n:Nat)(x:Src):GI:=⟨.ld 1 false x,some (n,false)⟩
abbrev Gb (n o:Nat)(x:Src):GI:=⟨.fa o x,some (n,false)⟩
abbrev tI (n:Nat)(x:aV):GI:=⟨x,some (n,false)⟩
abbrev sq (a b:AC):AC:=.seq a b
abbrev ha1:List (List Sh):=[[.a]]
abbrev ha2:List (List Sh):=[[.a,.a]]
abbrev Z9:List (List Sh):=[[.a,.a,.a,.a,.a]]
abbrev tJ:List (List Sh):=[[.a],[.a]]
abbrev hb3:List (List Sh):=[[.a],[.a],[.a]]
abbrev Ut (c x:Src):GI:=⟨.pick c (.c (.bool true)) x,none⟩
abbrev ga1 (c x:Src):GI:=⟨.pick c x (.c (.bool false)),none⟩
abbrev Bc (x y:Src):GI:=⟨.bin .lss x y,none⟩
abbrev Sq (x y:Src):GI:=⟨.bin .eql x y,none⟩
abbrev Bb (x y:Src):GI:=⟨.bin .add x y,none⟩
abbrev r6 (x y:Src):GI:=⟨.bin .neq x y,none⟩
abbrev gce (c:Src)(n:Nat):AC:=.cond c .skip (.exit n)
abbrev i8 (n:Int):Src:=.c (.int .u8 n)
abbrev i3 (n:Int):Src:=.c (.int .i32 n)
abbrev gno (x:Src):GI:=⟨.un .not x,none⟩
abbrev r1 (x:List GI)(a b:Nat):AC:=.reg false x [(a,b)]
abbrev r2 (x:List GI)(a b:Nat):AC:=.reg true x [(a,b)]
end Go.Abs
end
namespace Go.Abs
def MT (T:List D->D->Prop):Prop:=∀(l:List au) (x:UInt8),((aS [x] l).length<=1099511627776)->T [.sl 1 (l.map D.str),.int .u8 (x.toNat:Nat)] (.str (aS [x] l))
def N6 (Y:Ctx):Prop:=MT (bz Y 249)
def MH (T:List D->D->Prop):Prop:=∀(a:List au) (b:List au),T [.sl 1 (a.map D.str),.sl 1 (b.map D.str)] (.bool (decide (a=b)))
def XD (Y:Ctx):Prop:=MH (bz Y 226)
def Ag (T:List D->D->Prop):Prop:=∀(l:List au),T [.sl 1 (l.map D.str)] (.bool (rising l))
def Yg (Y:Ctx):Prop:=Ag (bz Y 815)
def C447 (Y:Ctx):Prop:=Ag (bz Y 447)
def zH (T:List D->D->Prop):Prop:=∀(s:au),T [.str s] (.bool (cW s))
def Jc (Y:Ctx):Prop:=zH (bz Y 349)
def zz (T:List D->D->Prop):Prop:=∀(s:au),T [.str s] (.bool (dL s))
def N5 (Y:Ctx):Prop:=zz (bz Y 208)
def zY (T:List D->D->Prop):Prop:=∀(s:au),T [.str s] (.tup [.int .i64 (eg s),.bool (fW s)])
def QO (Y:Ctx):Prop:=zY (bz Y 658)
def NK (T:List D->D->Prop):Prop:=∀(k:Nat),(k<16)->T [.int .u8 (k:Nat)] (.int .u8 ((tK k).toNat:Nat))
def C686 (Y:Ctx):Prop:=NK (bz Y 686)
def zQ (T:List D->D->Prop):Prop:=∀(n:Int),T [.int .u64 n] (.str (fQ n))
def C497 (Y:Ctx):Prop:=zQ (bz Y 497)
def zV (T:List D->D->Prop):Prop:=∀(s:au) (b:Int),(s.length<=1048576)->T [.str s,.int .u8 b] (.sl 1 ((ai s b).map D.str))
def N8 (Y:Ctx):Prop:=zV (bz Y 533)
def zZ (T:List D->D->Prop):Prop:=∀(t:au),T [.str t] (.bool (dd t))
def X3 (Y:Ctx):Prop:=zZ (bz Y 659)
def zJ (T:List D->D->Prop):Prop:=∀(n:Int),T [.int .i64 n] (.bool (qz n))
def C440 (Y:Ctx):Prop:=zJ (bz Y 440)
def NG (T:List D->D->Prop):Prop:=∀(s:au) (b:Int),T [.str s,.int .u8 b] (.tup [.str (aG s b).1,.str (aG s b).2])
def C675 (Y:Ctx):Prop:=NG (bz Y 675)
def M8 (T:List D->D->Prop):Prop:=∀(s:au),(s.length<=1048576)->T [.str s] (.bool (px s false))
def XL (Y:Ctx):Prop:=M8 (bz Y 442)
def tE (T:List D->D->Prop):Prop:=∀(n:Int),(0<=n/\n<=9999)->T [.int .i64 n] (.str (dJ n.toNat))
def C336 (Y:Ctx):Prop:=tE (bz Y 336)
def MP (T:List D->D->Prop):Prop:=∀(l:List au) (sep:au),(l.length<=1048600)->(sep.length<=4)->(∀t∈l,t.length<=2097200)->T [.sl 1 (l.map D.str),.str sep] (.str (aS sep l))
def QN (Y:Ctx):Prop:=MP (bz Y 242)
def MB (T:List D->D->Prop):Prop:=∀(s:au) (b:UInt8),(s.length<=1048576)->T [.str s,.str [b]] (.sl 1 ((ai s b.toNat).map D.str))
def N4 (Y:Ctx):Prop:=MB (bz Y 124)
def Nv (T:List D->D->Prop):Prop:=∀(s:au) (b:UInt8),(s.length<=1048576)->T [.str s,.str [b]] (.tup [.str (iD s b).1,.str (iD s b).2.1,.bool (iD s b).2.2])
def XX (Y:Ctx):Prop:=Nv (bz Y 487)
def MW (T:List D->D->Prop):Prop:=∀(s:au) (p:au),(s.length<=1048576)->(p.length<=1048576)->T [.str s,.str p] (.tup [.str (cV s p).1,.bool (cV s p).2])
def XH (Y:Ctx):Prop:=MW (bz Y 254)
def M7 (T:List D->D->Prop):Prop:=∀(s:au),(s.length<=1048576)->T [.str s] (.bool (px s true))
def C441 (Y:Ctx):Prop:=M7 (bz Y 441)
def zA (T:List D->D->Prop):Prop:=∀(v:cq),(v.sm)->T [cq.D v] (.bool (e8 v))
def I8 (Y:Ctx):Prop:=zA (bz Y 209)
def X8 (Y:Ctx):Prop:=tE (bz Y 665)
def zN (T:List D->D->Prop):Prop:=∀(v:cq),(v.sm)->T [cq.D v] (.str (kf v))
def XO (Y:Ctx):Prop:=zN (bz Y 451)
def Ni (T:List D->D->Prop):Prop:=∀(h:Int) (k:Nat),(k=13)->T [.int .u64 h,.int .i64 (k:Nat)] (.int .u64 (ZP h k))
def C463 (Y:Ctx):Prop:=Ni (bz Y 463)
def zE (T:List D->D->Prop):Prop:=∀(s:au),T [.sl 1 ((s).map fun b=>D.int .u8 b.toNat)] (.int .u64 (Iq s))
def C220 (Y:Ctx):Prop:=zE (bz Y 220)
def NV (T:List D->D->Prop):Prop:=∀(n:Nat),(n<=9999)->T [.int .u64 (n:Nat)] (.str (dJ n))
def C882 (Y:Ctx):Prop:=NV (bz Y 882)
def Yf (Y:Ctx):Prop:=tE (bz Y 734)
def tZ (Y:Ctx):Prop:=zV (bz Y 470)
def M9 (T:List D->D->Prop):Prop:=∀(c:Int),T [.int .u8 c] (.bool (iG c))
def XP (Y:Ctx):Prop:=M9 (bz Y 453)
def Na (T:List D->D->Prop):Prop:=∀(c:Int),T [.int .u8 c] (.bool (bn c))
def Uy (Y:Ctx):Prop:=Na (bz Y 454)
def Jd (Y:Ctx):Prop:=zH (bz Y 357)
def I9 (Y:Ctx):Prop:=zz (bz Y 216)
def QP (Y:Ctx):Prop:=zY (bz Y 667)
def X9 (Y:Ctx):Prop:=zZ (bz Y 668)
def NB (T:List D->D->Prop):Prop:=∀(t:au),T [.str t] (.bool (sJ t))
def C666 (Y:Ctx):Prop:=NB (bz Y 666)
def Nb (T:List D->D->Prop):Prop:=∀(s:au) (p:Bool),(s.length<=1048576)->T [.str s,.bool p] (.bool (sK s p))
def C456 (Y:Ctx):Prop:=Nb (bz Y 456)
def C455 (Y:Ctx):Prop:=zJ (bz Y 455)
def Ja (Y:Ctx):Prop:=zA (bz Y 217)
def Nz (T:List D->D->Prop):Prop:=∀(v:cq),(qz v.major=true/\qz v.minor=true/\qz v.patch=true)->T [cq.D v] (.str (dJ v.major.toNat++[46]++dJ v.minor.toNat++[46]++dJ v.patch.toNat))
def C554 (Y:Ctx):Prop:=Nz (bz Y 554)
def C316 (Y:Ctx):Prop:=zN (bz Y 316)
def Nj (T:List D->D->Prop):Prop:=∀(h:Int) (n:Nat),(n<=63)->T [.int .u64 h,.int .u64 (n:Nat)] (.int .u64 (ZP h n))
def C464 (Y:Ctx):Prop:=Nj (bz Y 464)
def C221 (Y:Ctx):Prop:=zE (bz Y 221)
def C313 (Y:Ctx):Prop:=zQ (bz Y 313)
def zR (T:List D->D->Prop):Prop:=∀(s:au),T [.str s] (.tup [.int .u64 (pr s),.bool (iQ s)])
def C499 (Y:Ctx):Prop:=zR (bz Y 499)
def zP (T:List D->D->Prop):Prop:=∀(s:au),(s.length<=1048576)->T [.str s] (.tup [cq.D ((gv s).getD gz),.int .i64 (o9 s)])
def C466 (Y:Ctx):Prop:=zP (bz Y 466)
def Ak (T:List D->D->Prop):Prop:=∀(l:List b7) (nm:au),T [.sl 2 (l.map b7.D),.str nm] (.int .i64 (findF l nm 0))
def C955 (Y:Ctx):Prop:=Ak (bz Y 955)
def C663 (Y:Ctx):Prop:=Ak (bz Y 663)
def Ah (T:List D->D->Prop):Prop:=∀(l:List b7) (nm:au),T [.sl 2 (l.map b7.D),.str nm] (.bool (R5 l nm))
def C816 (Y:Ctx):Prop:=Ah (bz Y 816)
def C449 (Y:Ctx):Prop:=Ah (bz Y 449)
def z8 (T:List D->D->Prop):Prop:=∀(s:au),(s.length<=1048576)->T [.str s] (.tup [.int .i64 (dK s).1,.str (dK s).2.1,.str (dK s).2.2])
def Yb (Y:Ctx):Prop:=z8 (bz Y 672)
def NC (T:List D->D->Prop):Prop:=∀(l:List b7) (of:List au),(∀t∈of,t.length<=1048576)->T [.sl 2 (l.map b7.D),.sl 1 (of.map D.str)] (.bool (mg l of))
def C671 (Y:Ctx):Prop:=NC (bz Y 671)
def zO (T:List D->D->Prop):Prop:=∀(l:List b7),(zd l)->T [.sl 2 (l.map b7.D)] (.bool (iE l))
def C459 (Y:Ctx):Prop:=zO (bz Y 459)
def XM (Y:Ctx):Prop:=z8 (bz Y 448)
def C213 (Y:Ctx):Prop:=zO (bz Y 213)
def Ab (T:List D->D->Prop):Prop:=∀(op:Int),T [.int .i64 op] (.str (dQ op))
def Ye (Y:Ctx):Prop:=Ab (bz Y 678)
def Yo (Y:Ctx):Prop:=Ab (bz Y 957)
def wj (T:List D->D->Prop):Prop:=∀(s:au) (w:au),T [.str s,.str w] (.bool (uc s w))
def WG (Y:Ctx):Prop:=wj (bz Y 1079)
def C956 (Y:Ctx):Prop:=wj (bz Y 956)
def Aa (T:List D->D->Prop):Prop:=∀(c:dI),(c.v.sm)->T [dI.D c] (.bool (nN c))
def Yc (Y:Ctx):Prop:=Aa (bz Y 676)
def UH (Y:Ctx):Prop:=Aa (bz Y 827)
def Ai (T:List D->D->Prop):Prop:=∀(c:dI),(c.v.sm)->T [dI.D c] (.str (ep c))
def Yh (Y:Ctx):Prop:=Ai (bz Y 828)
def Yd (Y:Ctx):Prop:=∀(c:dI),(e8 c.v=true/\0<=c.parts/\c.parts<=3)->∀(nx:Nat) (m:List (Nat×bX)) (K:D->St->Prop),K (.own nx 1 0 c.parts.toNat) ⟨nx+1,(nx,.buf 1 [.str (dJ c.v.major.toNat),.str (dJ c.v.minor.toNat),.str (dJ c.v.patch.toNat)])::m⟩->Y.tr 677 [dI.D c] ⟨nx,m⟩ K
def UD (Y:Ctx):Prop:=Ai (bz Y 482)
end Go.Abs
