/- A part of the proofs of the statements: RSpec10, RSpec11, RSpec12, RSpec13, RBldC, RSpec14, LQ, U1, T6, T7, LExt, T8, T9, T10, T1, T2, T3, T4, T5, T11, T12, T13, T14, T15, T16, T17, T18, T19, T20, T21, T22, T23, LPlain4, LPlain5, T24, T25, U2, U3. -/
import Derived.Test.YtpdlhpamcaocgaaGreatDoorP05
set_option linter.all false
set_option maxRecDepth 4000
namespace Go.Abs
def tf {f:Nat→Int}:∀{k i:Nat},qC f i k=0→∀j,i≤j→j<i+k→f j=0
 |0,i,_,j,h1,h2=>absurd h2 (by omega)
 |k+1,i,h,j,h1,h2=>by
  simp only[qC]at h;by_cases hf:f i=0
  ·rw[if_pos hf]at h;by_cases hj:j=i
   ·rw[hj];exact hf
   ·exact tf h j (by omega) (by omega)
  ·rw[if_neg hf]at h;exact absurd h hf
def Ax {f:Nat→Int}{n:Nat}(h:ig f 0 n=0)(j:Nat)(hj:j<n):f j=0:=tf h j (by omega) (by omega)
def tg {f:Nat→Int}:∀{k i:Nat},(ml f i k).1=0→∀j,i≤j→j<i+k→f j=0
 |0,i,_,j,h1,h2=>absurd h2 (by omega)
 |k+1,i,h,j,h1,h2=>by
  simp only[ml]at h;by_cases hf:f i=0
  ·rw[if_pos hf]at h;by_cases hj:j=i
   ·rw[hj];exact hf
   ·exact tg h j (by omega) (by omega)
  ·rw[if_neg hf]at h;exact absurd h hf
def Aw {f:Nat→Int}{n:Nat}(h:(fA f 0 n).1=0)(j:Nat)(hj:j<n):f j=0:=tg h j (by omega) (by omega)
def bN.fit (w:bN):Prop:=w.sm∧(w.feats.length≤6∧∀t∈w.feats,t.length≤12)
def bF.fit (n:bF):Prop:=(n.any.length≤3∧∀w∈n.any,w.fit)∧n.when'.length≤1048576∧n.option.length≤1048576
def bz.fit (x:bz):Prop:=x.sm∧x.of.length≤6
structure Rec.fit (r:Rec):Prop where
 nm:r.name.length≤1048576
 v:r.v.sm
 ns:r.needs.length≤8
 n:∀x∈r.needs,x.fit
 bs:r.bars.length≤8
 b:∀x∈r.bars,x.sm
 fs:r.feats.length≤8
 f:∀x∈r.feats,x.fit
def j0 {α:Type} [Inhabited α]{l:List α}{x:α}(h:x∈l):∃i,i<l.length∧l[i]! =x:=by
 obtain⟨i,hi,e⟩:=List.mem_iff_getElem.1 h;exact⟨i,hi,by rw[←e];simp[hi]⟩
def Gu {r:Rec}{w:bN}{al:Bool}(h:fW r w al=0)(hs:w.sm):w.fit:=by
 refine⟨hs, ?_⟩;unfold fW at h;split at h
 ·rename_i h1;exact absurd h h1
 ·split at h
  ·cases h
  ·rename_i h2;simp only[iG,Bool.not_eq_false,Bool.and_eq_true,decide_eq_true_eq,dy]at h2;refine⟨h2.1.1,fun t ht=>?_⟩;obtain⟨i,hi,rfl⟩:=j0 ht;have:=h2.2 i (by omega) hi;simp only[Ib,bI,Bool.and_eq_true,decide_eq_true_eq]at this;exact this.1.1.2
def Fh {r:Rec}{n:bF}(h:eR r n=0)(hs:n.sm):n.fit:=by
 unfold eR at h;split at h
 ·cases h
 split at h
 ·cases h
 rename_i h1 h2;split at h
 ·rename_i h3;exact absurd h h3
 rename_i h3;refine⟨⟨by omega,fun w hw=>?_⟩,hs.2⟩;obtain⟨i,hi,rfl⟩:=j0 hw;exact Gu (Ax (Classical.not_not.1 h3) i hi) (hs.1 _ hw)
def vF {r:Rec}(h:oM r∧dx r):r.fit:=by
 obtain⟨⟨_,⟨h1,h2⟩,hp⟩,⟨s1,s2⟩,s3,s4,s5⟩:=h;have h0:(kD r).1=0∧eI r.feats=true:=by
  unfold cT at hp;split at hp
  ·rename_i h;rw[hp]at h;exact absurd rfl h
  split at hp
  ·rename_i h;rw[hp]at h;exact absurd rfl h
  split at hp
  ·cases hp
  rename_i a b c;exact⟨Classical.not_not.1 a,by simpa using c⟩
 obtain⟨h3,h4⟩:=h0;simp only[eI,Bool.and_eq_true,decide_eq_true_eq,dy]at h4;refine⟨s1,s2,h1,fun x hx=>?_,h2,s4,h4.1,fun x hx=>⟨s5 x hx, ?_⟩⟩
 ·obtain⟨i,hi,rfl⟩:=j0 hx;exact Fh (Aw h3 i hi) (s3 _ hx)
 ·obtain⟨i,hi,rfl⟩:=j0 hx;have:=h4.2 i (by omega) hi;simp only[gJ,iT,Bool.and_eq_true,decide_eq_true_eq]at this;exact this.2.1.1
def lO (x:UInt8)(B:Nat):∀l:List ah,(∀t∈l,t.length≤B)→(aO [x] l).length≤l.length*(B+1)
 |[],_=>by simp[aO]
 |[t],h=>by have:=h t (.head _);simp only[aO,List.length_cons,List.length_nil];omega
 |t::u::r,h=>by
  have h1:=h t (.head _);have h2:=lO x B (u::r) fun y hy=>h y (.tail _ hy)
  simp only[aO,List.length_append,List.length_cons,List.length_nil,Nat.succ_mul]at h2⊢;omega
def uC {w:bN}(h:w.fit):(aO [44] w.feats).length≤6291462:=by
 have h1:=lO 44 1048576 w.feats h.1.2;have h2:=Nat.mul_le_mul_right (1048576+1) h.2.1;omega
def xT {w:bN}(h:w.fit):(aO [44] w.feats).length≤78:=by
 have h1:=lO 44 12 w.feats h.2.2;have h2:=Nat.mul_le_mul_right (12+1) h.2.1;omega
def fL (w:bN):ah:=bK (nU w)
def rh {w:bN}(h:w.fit):(fL w).length≤8400000:=by
 have h1:=uC h;have h2:=h.1.1;simp only[fL,bK,nU,aO,List.length_append,List.length_cons,List.length_nil];split<;>split<;>simp only[jz,gB,kK,List.length_append,List.length_cons,List.length_nil]<;>omega
def kg {s:ah}(h:s.length≤1048576):(fV s).length≤1048590:=by
 unfold fV;split
 ·simp
 ·simp only[bK,aO,kL,List.length_append,List.length_cons,List.length_nil];omega
def Fw {s:ah}(h:s.length≤1048576):(qc s).length≤1048590:=by
 unfold qc;split
 ·simp
 ·simp only[bK,aO,dW,List.length_append,List.length_cons,List.length_nil];omega
def p0 {α:Type}(q:α→ah)(B:Nat){l:List α}(h:∀x∈l,(q x).length≤B)(i:Nat):(((l.take i).map q).flatten).length≤i*B:=by
 have h1:=nw q B (l.take i) fun x hx=>h x (List.mem_of_mem_take hx)
 have h2:=Nat.mul_le_mul_right B (List.length_take_le i l);omega
def n9 {α:Type} [Inhabited α](q:α→ah){l:List α}{i:Nat}(h:i<l.length):((l.take (i+1)).map q).flatten=((l.take i).map q).flatten++q l[i]! :=by
 rw[List.take_add_one,List.getElem?_eq_getElem h,List.map_append,List.flatten_append];simp[h]
def Dm {n:bF}(h:n.fit):(rA n).length≤27400000:=by
 have h1:=nw fL 8400000 n.any fun w hw=>rh (h.1.2 w hw)
 have h2:=Nat.mul_le_mul_right 8400000 h.1.1;have h3:=kg h.2.1;have h4:=Fw h.2.2;have h5:(bK [jA]).length=5:=rfl;unfold fL at h1;simp only[rA,List.length_append];omega
def EC {b:iJ}(h:b.sm):(wP b).length≤3145800:=by
 have h1:=kg h.2.2;have h2:=h.1;have h3:=h.2.1;simp only[wP,bK,aO,j4,List.length_append,List.length_cons,List.length_nil];omega
def vA {x:bz}(h:x.fit):(pY x).length≤8400000:=by
 have h1:=lO 32 1048576 ([cN,x.name]++x.of) (by
  intro t ht;simp only[List.cons_append,List.nil_append,List.mem_cons]at ht;rcases ht with rfl|rfl|ht
  ·simp[cN]
  ·exact h.1.1
  ·exact h.1.2.2 _ ht)
 have h2:=h.2;have h3:([cN,x.name]++x.of).length≤8:=by simp only[List.length_append,List.length_cons,List.length_nil];omega
 have h4:=Nat.mul_le_mul_right (1048576+1) h3;simp only[pY,bK,List.length_append,List.length_cons,List.length_nil]at h1 h4⊢;omega
def C9 {r:Rec}(h1:r.name.length≤1048576)(h2:r.v.sm):(oN r).length≤3145800:=by
 have h3:=uz r.v h2;simp only[oN,bK,aO,dF,List.length_append,List.length_cons,List.length_nil];omega
def cE (n:bF)(j:Nat):ah:=bK [jA]++((n.any.take j).map fL).flatten
def HH (n:bF):cE n 0=[110,101,101,100,10]:=rfl
def kC {n:bF}{j:Nat}(h:j<n.any.length):cE n (j+1)=cE n j++fL n.any[j]! :=by simp only[cE,n9 fL h,List.append_assoc]
def qI {n:bF}{j:Nat}(h:n.any.length≤j):rA n=cE n j++fV n.when'++qc n.option:=by
 rw[cE,List.take_of_length_le h];rfl
def vN {n:bF}(h:n.fit)(j:Nat)(hj:j≤3):(cE n j).length≤25200005:=by
 have h1:=p0 fL 8400000 (fun w hw=>rh (h.1.2 w hw)) j;have h2:=Nat.mul_le_mul_right 8400000 hj;have h5:(bK [jA]).length=5:=rfl;simp only[cE,List.length_append];omega
def hR (r:Rec)(i:Nat):ah:=oN r++((r.needs.take i).map rA).flatten
def uv (r:Rec)(i:Nat):ah:=hR r r.needs.length++((r.bars.take i).map wP).flatten
def wB (r:Rec)(i:Nat):ah:=uv r r.bars.length++((r.feats.take i).map pY).flatten
def Gn (r:Rec):hR r 0=oN r:=by simp[hR]
def Gp (r:Rec):uv r 0=hR r r.needs.length:=by simp[uv]
def Gq (r:Rec):wB r 0=uv r r.bars.length:=by simp[wB]
def xQ (r:Rec):wB r r.feats.length=mJ r:=by simp only[wB,uv,hR,List.take_length,mJ]
def jy {r:Rec}{i:Nat}(h:i<r.needs.length):hR r (i+1)=hR r i++rA r.needs[i]! :=by simp only[hR,n9 rA h,List.append_assoc]
def zK {r:Rec}{i:Nat}(h:i<r.bars.length):uv r (i+1)=uv r i++wP r.bars[i]! :=by simp only[uv,n9 wP h,List.append_assoc]
def zL {r:Rec}{i:Nat}(h:i<r.feats.length):wB r (i+1)=wB r i++pY r.feats[i]! :=by simp only[wB,n9 pY h,List.append_assoc]
def xO {r:Rec}(h:r.fit)(i:Nat)(hi:i≤r.needs.length):(hR r i).length≤222400000:=by
 have a0:=C9 h.nm h.v;have a1:=p0 rA 27400000 (fun x hx=>Dm (h.n x hx)) i;have b1:=Nat.mul_le_mul_right 27400000 (Nat.le_trans hi h.ns);simp only[hR,List.length_append];omega
def xP {r:Rec}(h:r.fit)(i:Nat)(hi:i≤r.bars.length):(uv r i).length≤247600000:=by
 have a0:=xO h r.needs.length (Nat.le_refl _);have a1:=p0 wP 3145800 (fun x hx=>EC (h.b x hx)) i;have b1:=Nat.mul_le_mul_right 3145800 (Nat.le_trans hi h.bs);simp only[uv,List.length_append];omega
def Cv {r:Rec}(h:r.fit)(i:Nat)(hi:i≤r.feats.length):(wB r i).length≤314800000:=by
 have a0:=xP h r.bars.length (Nat.le_refl _);have a1:=p0 pY 8400000 (fun x hx=>vA (h.f x hx)) i;have b1:=Nat.mul_le_mul_right 8400000 (Nat.le_trans hi h.fs);simp only[wB,List.length_append];omega
def rl {r:Rec}(h:(bS r).1=0):oM r:=by
 unfold bS at h;split at h
 ·cases h
 split at h
 ·cases h
 split at h
 ·cases h
 rename_i a b c;split at h
 ·rename_i d;exact absurd h d
 rename_i d;exact⟨⟨by simpa using a,by simpa using b⟩,⟨by omega,by omega⟩,y6 (Classical.not_not.1 d)⟩
def vc (r:Rec):Int:=if(df r).2≠0 then 0 else xM (df r).1
def p7 (l:List ah)(x:ah)(i:Nat):Int:=match(l.drop i).findIdx? (fun t=>decide (x=t))with
 |some k=>((i+k:Nat):Int)
 |none=>-1
def Hv {l:List ah}{x:ah}{i:Nat}(h:i<l.length)(he:x=l[i]!):p7 l x i=(i:Nat):=by
 unfold p7;rw[List.drop_eq_getElem_cons h,List.findIdx?_cons];have:x=l[i]:=by simpa[h]using he
 simp[←this]
def Hw {l:List ah}{x:ah}{i:Nat}(h:i<l.length)(he:¬x=l[i]!):p7 l x i=p7 l x (i+1):=by
 unfold p7;have:¬x=l[i]:=by simpa[h]using he
 rw[List.drop_eq_getElem_cons h,List.findIdx?_cons];simp only[this,decide_false,Bool.false_eq_true,if_false];cases(l.drop (i+1)).findIdx? (fun t=>decide (x=t))with
 |none=>rfl
 |some k=>simp only[Option.map_some];congr 1;omega
def E2 {l:List ah}{x:ah}{i:Nat}(h:l.length≤i):p7 l x i=-1:=by
 unfold p7;rw[List.drop_eq_nil_of_le h];rfl
def E3 (l:List ah)(x:ah):decide (0≤p7 l x 0)=decide (x∈l):=by
 unfold p7;rw[List.drop_zero];cases h:l.findIdx? (fun t=>decide (x=t))with
 |none=>
  have:=List.findIdx?_eq_none_iff.1 h;have hn:x∉l:=fun hm=>by have:=this x hm;simp at this
  simp[hn]
 |some k=>
  obtain⟨hk,hx,_⟩:=List.findIdx?_eq_some_iff_getElem.1 h;have hm:x∈l:=by
   have:x=l[k]:=by simpa using hx
   rw[this];exact List.getElem_mem hk
  simp[hm]
structure Ld where
 ls:List ah
 at':Nat
 deriving Inhabited,DecidableEq
def Ld.D (r:Ld):D:=.agg [.sl 1 (r.ls.map D.str),.int .i64 (r.at':Nat)]
def Ld.rest (r:Ld):List ah:=r.ls.drop r.at'
def Ld.sm (r:Ld):Prop:=(r.at'≤r.ls.length∧r.ls.length≤1048577)∧∀t∈r.ls,t.length≤1048576
def Ld.to (r:Ld)(q:List ah):Ld:=⟨r.ls,r.ls.length-q.length⟩
def iH (n:Int)(t:ah):List ah:=if n<0 then aj t 32 else oW n.toNat (aj t 32)
def wC (n:Nat)(op:Bool)(t:ah):iH (if op=true then(n:Int)else-1) t=dj n op t:=by
 unfold iH dj;cases op
 ·rfl
 ·have:¬(n:Int)<0:=by omega
  simp[this]
def uX:Option (List ah×List ah)→D
 |none=>.aF
 |some (l,_)=>.sl 1 (l.map D.str)
def Ld.after (r:Ld)(o:Option (List ah×List ah)):Ld:=match o with
 |none=>r
 |some _=>⟨r.ls,r.at'+1⟩
def Ld.F8 {r:Ld}(h:r.ls.length≤r.at'):r.rest=[]:=List.drop_eq_nil_of_le h
def Ld.ot {r:Ld}(h:r.at'<r.ls.length):r.rest=r.ls[r.at']! ::r.ls.drop (r.at'+1):=by
 unfold Ld.rest;rw[List.drop_eq_getElem_cons h];simp[h]
def D0 (n:Nat)(op:Bool)(t:ah)(h:op=true→1≤n):1≤(dj n op t).length:=by
 have hs:1≤(aj t 32).length:=by
  exact eM 32 t []
 unfold dj;split
 ·rename_i ho;have:=h ho;unfold oW;split
  ·exact hs
  ·simp
 ·exact hs
def yU {w:ah}{n:Nat}{op:Bool}{t:ah}(h:((¬(dj n op t)[0]! =w∨((dj n op t).length:Int)<1)∨((0:Int)<n∧¬((dj n op t).length:Int)=n))∨[]∈dj n op t)(h1:1≤(dj n op t).length):kE w n op t=none:=by
 rw[kE,if_neg];rintro⟨a,b,c⟩;rcases h with((h|h)|h)|h
 ·exact h a
 ·omega
 ·rcases b with b|b<;>omega
 ·exact c h
def vR {w:ah}{n:Nat}{op:Bool}{t:ah}(h:(((dj n op t)[0]! =w∧¬((dj n op t).length:Int)<1)∧(¬(0:Int)<n∨((dj n op t).length:Int)=n))∧¬[]∈dj n op t):kE w n op t=some (dj n op t):=by
 rw[kE,if_pos ⟨h.1.1.1,by rcases h.1.2 with h|h<;>omega,h.2⟩]
def anyL (t:ah):Option (List ah):=match kE jz 5 true t with
 |some l=>if ry l=true then some l else none
 |none=>none
def No (p:ah→Option (List ah))(ls:List ah):Prop:=∀t r,ls=t::r→p t=none
def dC {w:ah}{n:Nat}{op:Bool}{ls l r:List ah}(h:bM w n op ls=some (l,r)):∃t,ls=t::r∧kE w n op t=some l:=by
 match ls,h with
 |[],h=>cases h
 |t::q,h=>
  simp only[bM]at h;split at h
  ·rename_i l' hl;simp only[Option.some.injEq,Prod.mk.injEq]at h;obtain⟨rfl,rfl⟩:=h;exact⟨t,rfl,hl⟩
  ·cases h
def Stop (s:Nat)(ls:List ah):Prop:=(s=2→No anyL ls∧No (kE kL 2 true) ls)∧(s=2∨s=3→No (kE dW 2 false) ls)∧(s=5→No (kE kL 2 true) ls)
def oH (m:List (Nat×bj))(l:Nat)(t:List UInt8):Prop:=(∃u,look m l=some (.bld none 0 u)∧t=[])∨(∃l2 u,look m l=some (.bld (some l2) t.length u)∧look m l2=some (.row t))
@[go_sem] def dP (m:List (Nat×bj))(l:Nat):List (Nat×bj):=match look m l with
 |some (.bld (some l2) _ _)=>cd m l2
 |_=>m
@[go_sem] def nj (m:List (Nat×bj))(l L:Nat)(t:List UInt8):List (Nat×bj):=(L,.row t)::cw (dP m l) l (.bld (some L) t.length true)
def TrW (Yk:D)(s:List UInt8)(ds:List D)(st:St)(K:D→St→Prop):Prop:=∃l t,ds=[.ptr l 2 0 0,Yk]∧oH st.m l t∧l<st.nx∧s≠[]∧t.length+s.length≤1099511627776∧K .any ⟨st.nx+1,nj st.m l st.nx (t++s)⟩
def Oi (ds:List D)(st:St)(K:D→St→Prop):Prop:=∃s,TrW (.str s) s ds st K
def Oh (ds:List D)(st:St)(K:D→St→Prop):Prop:=∃c,TrW (.int .u8 c.toNat) [c] ds st K
def Og (ds:List D)(st:St)(K:D→St→Prop):Prop:=∃l t,ds=[.ptr l 2 0 0]∧oH st.m l t∧t≠[]∧K (.str t) ⟨st.nx,cd (dP st.m l) l⟩
def Jc (Γ:Ctx):Prop:=∀(ds:List D)(st:St)(K:D→St→Prop),Oi ds st K→Γ.tr 489 ds st K
def Jh (Γ:Ctx):Prop:=∀(ds:List D)(st:St)(K:D→St→Prop),Oh ds st K→Γ.tr 664 ds st K
def I8 (Γ:Ctx):Prop:=∀(ds:List D)(st:St)(K:D→St→Prop),Og ds st K→Γ.tr 452 ds st K
def Dd (b a:ah)(l:List ah)(h:a≠[]):aO b (a::l)≠[]:=by
 match l with
 |[]=>exact h
 |c::r=>
  rw[fB b a (c::r) (by simp)];intro e;have:=List.append_eq_nil_iff.1 e;exact h (List.append_eq_nil_iff.1 this.1).1
def wJ (ws:List ah)(t:ah):Prop:=(aO [32] ws≠[]∧ws.length≤1048600)∧(∀w∈ws,w.length≤2097200)∧t.length+(aO [32] ws).length+1≤1099511627776
def wJ.mk {a:ah}{l:List ah}{t:ah}(h1:a≠[])(h2:l.length≤99)(h3:∀w∈a::l,w.length≤2097200)(h4:t.length≤1000000000):wJ (a::l) t:=by
 have h5:=lO 32 2097200 (a::l) h3;have h6:(a::l).length≤100:=by simp only[List.length_cons];omega
 have h7:=Nat.mul_le_mul_right (2097200+1) h6;exact⟨⟨Dd _ _ _ h1,by omega⟩,h3,by omega⟩
def I6 (Γ:Ctx):Prop:=∀(ws:List ah)(t:ah)(l lw nx:Nat)(m:List (Nat×bj))(K:D→St→Prop),oH m l t→look m lw=some (.buf 1 (ws.map D.str))→l<nx→lw<nx→wJ ws t→
 K (.tup []) ⟨nx+1,nj (cd m lw) l nx (t++bK ws)⟩→Γ.tr 450 [.ptr l 2 0 0,.own lw 1 0 ws.length] ⟨nx,m⟩ K
def qH {m:List (Nat×bj)}{l L:Nat}{t:List UInt8}(h:l≠L):look (nj m l L t) l=some (.bld (some L) t.length true)∧look (nj m l L t) L=some (.row t):=by
 constructor
 ·simp only[nj,look,if_neg (fun e=>h (Eq.symm e))]
  haveI:ct:={gd:=fun _=>True,le:=fun _ _ _ _ _=>trivial}
  rw[bG,if_pos rfl]
 ·simp only[nj,look,if_pos]
def Ha {m:List (Nat×bj)}{l L:Nat}{t:List UInt8}(h:l≠L):oH (nj m l L t) l t:=.inr ⟨L,true,qH h⟩
end Go.Abs
section
namespace Go.Abs
def ae {p:Prop}(h:p:=by exact rfl):p:=h
def HQ {p:Prop}(h:p:=by repeat(first|exact cS.nil|refine cS.un ?_|refine cS.eq (by exact rfl) ?_)):p:=h
def cz {p:Prop}(h:p:=by first|exact rfl|exact bX (fun _=>rfl) _):p:=h
def c8 {p:Prop}(h:p:=by repeat(first|exact cS.nil|refine cS.un ?_|refine cS.eq (by exact rfl) ?_|refine cS.nl (by exact rfl) (by exact rfl) ?_)):p:=h
def eo {p:Prop}(h:p:=by repeat' first|exact trivial|exact rfl|refine And.intro ?_ ?_):p:=h
def sg {p:Prop}(h:p:=by repeat' first|exact trivial|exact rfl|exact Nat.le_refl _|refine And.intro ?_ ?_):p:=h
def px {p:Prop}(h:p:=by repeat(first|exact aL.nil|refine aL.eG (by exact rfl) (by exact rfl) (by first|exact rfl|exact bX (fun _=>rfl) _) ?_|refine aL.j7 (by exact rfl) (by exact rfl) (by exact rfl) ?_|refine aL.kP (by exact rfl) (by exact rfl) (by exact rfl) (by exact rfl) ?_)):p:=h
def b0 {p:Prop} [Decidable p]:(decide p=true)=p:=decide_eq_true_eq
def b1 {p:Prop} [Decidable p]:decide p=false↔¬p:=decide_eq_false_iff_not
def b2 (b:Bool):((!b)=true)=(b=false):=Bool.not_eq_true' b
def b3 (b:Bool):((!b)=false)=(b=true):=Bool.not_eq_false' b
def b4 (b:Bool):(¬(b=false))=(b=true):=Bool.not_eq_false b
def b5 (a b:Bool):((a ||b)=true)=(a=true∨b=true):=Bool.or_eq_true a b
def b7 (a b:Bool):((a&&b)=true)=(a=true∧b=true):=Bool.and_eq_true a b
end Go.Abs
namespace Go.Abs
abbrev c7 (Γ:Ctx)(a:az)(d:D)(ds:List D):Prop:=bq (Γ.at 0) a.body (JM a d) (ei a ds) ⟨0,[]⟩
def bC {a:az}{d d2:D}{e:Ex}{nx:Nat}{m:List (Nat×bj)}{env:List bm}(h:d2=d)(he:e.home:=by exact trivial)(h1:mR m env a.res:=by exact sg)(h2:wG a env m:=by exact eo)(h3:D3 a env m=d2:=by exact rfl):JM a d e env ⟨nx,m⟩:=KK he h1 h2 (h3.trans h)
def bp {a:az}{d d2:Bool}{e:Ex}{nx:Nat}{m:List (Nat×bj)}{env:List bm}(h:d2=d)(he:e.home:=by exact trivial)(h1:mR m env a.res:=by exact sg)(h2:wG a env m:=by exact eo)(h3:D3 a env m=.bool d2:=by exact rfl):JM a (.bool d) e env ⟨nx,m⟩:=bC (congrArg _ h) he h1 h2 h3
def b8 {a:az}{d d2:List UInt8}{e:Ex}{nx:Nat}{m:List (Nat×bj)}{env:List bm}(h:d2=d)(he:e.home:=by exact trivial)(h1:mR m env a.res:=by exact sg)(h2:wG a env m:=by exact eo)(h3:D3 a env m=.str d2:=by exact rfl):JM a (.str d) e env ⟨nx,m⟩:=bC (congrArg _ h) he h1 h2 h3
def ed {a:az}{d d2:Int}{e:Ex}{nx:Nat}{m:List (Nat×bj)}{env:List bm}(h:d2=d)(he:e.home:=by exact trivial)(h1:mR m env a.res:=by exact sg)(h2:wG a env m:=by exact eo)(h3:D3 a env m=.int .i64 d2:=by exact rfl):JM a (.int .i64 d) e env ⟨nx,m⟩:=bC (congrArg _ h) he h1 h2 h3
def cI {lo c nx nx2:Nat}{env env2:List bm}{m m2:List (Nat×bj)}(σ:List (Nat×Nat))(hc:nx2=c:=by exact ae)(h:fN lo c σ=true:=by exact ae)(he:cS lo σ env env2:=by exact c8)(hm:aL lo c σ m m2:=by exact px):aT lo env ⟨nx,m⟩ env2 ⟨nx2,m2⟩:=aT.to σ hc h he hm
def dY {Γ:Ctx}{draw f:Bool}{r:List GI}{env rs:List bm}{nx:Nat}{m:List (Nat×bj)}{K:List bm→St→Prop}{g:Option (Nat×Bool)}{x y:Src}{fx fy:Bool}{a b:List UInt8}(h:ay Γ draw r env (⟨f,.str (a++b)⟩::rs) nx m K)(hg:GF rs g f:=by first|exact rfl|exact⟨_,_,rfl,rfl⟩)(hx:bU env rs x=⟨fx,.str a⟩:=by exact rfl)(hy:bU env rs y=⟨fy,.str b⟩:=by exact rfl)(kx:f=true→fx=true:=by first|exact fun _=>rfl|exact fun h=>h|(intro h;simp_all))(ky:f=true→fy=true:=by first|exact fun _=>rfl|exact fun h=>h|(intro h;simp_all))(hb:f=true→a.length+b.length≤9223372036854775807:=by intro _;simp only[List.length_append,List.length_cons,List.length_nil];omega):ay Γ draw (⟨.bin .add x y,g⟩::r) env rs nx m K:=cA h hg hx hy kx ky hb
end Go.Abs
namespace Go.Abs
section
variable {Γ:Ctx} {Q:Ex→List bm→St→Prop}
def cmN {env rs:List bm}:EF env rs []=env:=rfl
def cmC {s p:Nat}{r:List (Nat×Nat)}{env rs env1 env':List bm}{f:Bool}{d:D}(e:bU [] rs (.l p)=⟨f,d⟩)(hs:env.set s ⟨f,d⟩=env1)(h:EF env1 rs r=env'):EF env rs ((s,p)::r)=env':=by
 simp only[EF,e,hs,h]
def rrrg {draw:Bool}{cm:List (Nat×Nat)}{b:AC}{nx nx':Nat}{m:List (Nat×bj)}{rs env ei env':List bm}(h:bq Γ b Q env' ⟨nx',m⟩)
  (he:EF env rs cm=env':=by repeat(first|apply cmC (by exact rfl) (by simp only[List.set_cons_zero,List.set_cons_succ];exact rfl)|with_reducible exact cmN)) (hn:nx+rs.length=nx':=by simp only[List.length_cons,List.length_nil,Nat.reduceAdd];exact rfl):ay Γ draw [] ei rs nx m (fun vs st'=>bq Γ b Q (fw env vs cm) st'):=
 HY h he hn
def rrrh {draw:Bool}{cm:List (Nat×Nat)}{nx nx':Nat}{m:List (Nat×bj)}{rs env ei env':List bm}(h:Q .normal env' ⟨nx',m⟩)
  (he:EF env rs cm=env':=by repeat(first|apply cmC (by exact rfl) (by simp only[List.set_cons_zero,List.set_cons_succ];exact rfl)|with_reducible exact cmN)) (hn:nx+rs.length=nx':=by simp only[List.length_cons,List.length_nil,Nat.reduceAdd];exact rfl):ay Γ draw [] ei rs nx m (fun vs st'=>Q .normal (fw env vs cm) st'):=
 HZ h he hn
end
def Fam (_:Prop):Type:=Unit
def qB {q:Prop}:Fam q:=()
structure Hid (q:Prop)(f:Fam q):Prop where
 val:q
section
variable {Γ:Ctx} {draw b1:Bool} {r:List GI} {env rs:List bm} {nx n0 n1:Nat} {m:List (Nat×bj)} {K:List bm→St→Prop} {g:Option (Nat×Bool)} {x0 x1 x2:Src}
def tg0 {Γ:Ctx}{a:AC}{Q:Ex→List bm→St→Prop}{env:List bm}{st:St}(h:bq Γ a Q env st):bq Γ a Q env st:=h
def tg1 (h:ay Γ draw (⟨.mv x0,g⟩::r) env rs nx m K):ay Γ draw (⟨.mv x0,g⟩::r) env rs nx m K:=h
def tg2 (h:ay Γ draw [] env rs nx m K):ay Γ draw [] env rs nx m K:=h
def tg3 (h:ay Γ draw (⟨.fa n0 x1,g⟩::r) env rs nx m K):ay Γ draw (⟨.fa n0 x1,g⟩::r) env rs nx m K:=h
def tg4 (h:ay Γ draw (⟨.ld n0 b1 x2,g⟩::r) env rs nx m K):ay Γ draw (⟨.ld n0 b1 x2,g⟩::r) env rs nx m K:=h
def tg5 (h:ay Γ draw (⟨.bin .lss x0 x1,g⟩::r) env rs nx m K):ay Γ draw (⟨.bin .lss x0 x1,g⟩::r) env rs nx m K:=h
def tg6 (h:ay Γ draw (⟨.bin .eql x0 x1,g⟩::r) env rs nx m K):ay Γ draw (⟨.bin .eql x0 x1,g⟩::r) env rs nx m K:=h
def tg7 (h:ay Γ draw (⟨.bin .add x0 x1,g⟩::r) env rs nx m K):ay Γ draw (⟨.bin .add x0 x1,g⟩::r) env rs nx m K:=h
def tg8 (h:ay Γ draw (⟨.bin .gtr x0 x1,g⟩::r) env rs nx m K):ay Γ draw (⟨.bin .gtr x0 x1,g⟩::r) env rs nx m K:=h
def tg9 (h:ay Γ draw (⟨.bin .neq x0 x1,g⟩::r) env rs nx m K):ay Γ draw (⟨.bin .neq x0 x1,g⟩::r) env rs nx m K:=h
def tg10 (h:ay Γ draw (⟨.bin .leq x0 x1,g⟩::r) env rs nx m K):ay Γ draw (⟨.bin .leq x0 x1,g⟩::r) env rs nx m K:=h
def tg11 (h:ay Γ draw (⟨.bin .geq x0 x1,g⟩::r) env rs nx m K):ay Γ draw (⟨.bin .geq x0 x1,g⟩::r) env rs nx m K:=h
def tg12 (h:ay Γ draw (⟨.bin .sub x0 x1,g⟩::r) env rs nx m K):ay Γ draw (⟨.bin .sub x0 x1,g⟩::r) env rs nx m K:=h
def tg13 (h:ay Γ draw (⟨.ext x0 n1,g⟩::r) env rs nx m K):ay Γ draw (⟨.ext x0 n1,g⟩::r) env rs nx m K:=h
def tg14 (h:ay Γ draw (⟨.pick x0 x1 (.c (.bool false)),g⟩::r) env rs nx m K):ay Γ draw (⟨.pick x0 x1 (.c (.bool false)),g⟩::r) env rs nx m K:=h
def tg15 (h:ay Γ draw (⟨.pick x0 (.c (.bool true)) x1,g⟩::r) env rs nx m K):ay Γ draw (⟨.pick x0 (.c (.bool true)) x1,g⟩::r) env rs nx m K:=h
def tg16 (h:ay Γ draw (⟨.un .not x0,g⟩::r) env rs nx m K):ay Γ draw (⟨.un .not x0,g⟩::r) env rs nx m K:=h
def tg17 (h:ay Γ draw (⟨.nilck x0,g⟩::r) env rs nx m K):ay Γ draw (⟨.nilck x0,g⟩::r) env rs nx m K:=h
def tg18 (h:ay Γ draw (⟨.box n0 x1,g⟩::r) env rs nx m K):ay Γ draw (⟨.box n0 x1,g⟩::r) env rs nx m K:=h
def tg19 (h:ay Γ draw (⟨.ia n0 x1 x2,g⟩::r) env rs nx m K):ay Γ draw (⟨.ia n0 x1 x2,g⟩::r) env rs nx m K:=h
def tg20 (h:ay Γ draw (⟨.ixS x0 x1,g⟩::r) env rs nx m K):ay Γ draw (⟨.ixS x0 x1,g⟩::r) env rs nx m K:=h
def tg21 (h:ay Γ draw (⟨.st n0 x1 x2,g⟩::r) env rs nx m K):ay Γ draw (⟨.st n0 x1 x2,g⟩::r) env rs nx m K:=h
def tg22 (h:ay Γ draw (⟨.len x0,g⟩::r) env rs nx m K):ay Γ draw (⟨.len x0,g⟩::r) env rs nx m K:=h
def tg23 (h:ay Γ draw (⟨.lenS x0,g⟩::r) env rs nx m K):ay Γ draw (⟨.lenS x0,g⟩::r) env rs nx m K:=h
def tg24 (h:ay Γ draw (⟨.rng x0,g⟩::r) env rs nx m K):ay Γ draw (⟨.rng x0,g⟩::r) env rs nx m K:=h
def tg25 (h:ay Γ draw (⟨.s2b x0,g⟩::r) env rs nx m K):ay Γ draw (⟨.s2b x0,g⟩::r) env rs nx m K:=h
def tg26 (h:ay Γ draw (⟨.mkB,g⟩::r) env rs nx m K):ay Γ draw (⟨.mkB,g⟩::r) env rs nx m K:=h
def tg27 (h:ay Γ draw (⟨.app n0 x1 x2,g⟩::r) env rs nx m K):ay Γ draw (⟨.app n0 x1 x2,g⟩::r) env rs nx m K:=h
end
def aC {p q:Prop}(k:q)(h:Hid q qB→p:=by
 intro h;first
 |((with_reducible refine tg0 ?_);first|with_reducible exact ai h.1|with_reducible exact Gw h.1|with_reducible exact Bs h.1|with_reducible exact KU h.1|with_reducible exact D2 h.1|with_reducible exact wp_ret h.1|with_reducible exact wp_skip h.1|with_reducible exact Br h.1|with_reducible exact wp_exit h.1|with_reducible exact zS h.1 hm|with_reducible exact D1 h.1 hm)
 |((with_reducible refine tg1 ?_);(refine r_mv ?_;exact h.1))
 |((with_reducible refine tg2 ?_);first|(refine rrrh ?_;exact h.1)|(refine rrrg ?_;exact h.1))
 |((with_reducible refine tg3 ?_);first|(refine N3 ?_;exact h.1)|(refine N4 ?_;exact h.1))
 |((with_reducible refine tg4 ?_);first|exact cX (.int _ _) h.1|exact cX (.str _) h.1|(refine bQ (v:=.str _) ?_;exact h.1)|(refine ef (v:=.str _) ?_;exact h.1)|(refine bQ (v:=.int _ _) ?_;exact h.1)|(refine ef (v:=.int _ _) ?_;exact h.1)|exact cX (.sl _ _) h.1|exact cX (.own _ _ _ _) h.1|exact cX (.bool _) h.1|(refine bQ (v:=.sl _ _) ?_;exact h.1)|(refine ef (v:=.sl _ _) ?_;exact h.1)|(refine bQ (v:=.bool _) ?_;exact h.1)|(refine ef (v:=.bool _) ?_;exact h.1)|exact cM h.1|exact cX .aF h.1)
 |((with_reducible refine tg5 ?_);first|(refine KD ?_;exact h.1)|(refine KE ?_;exact h.1))
 |((with_reducible refine tg6 ?_);first|(refine Kt ?_;exact h.1)|(refine Ku ?_;exact h.1))
 |((with_reducible refine tg7 ?_);(refine HR ?_;exact h.1))
 |((with_reducible refine tg8 ?_);first|(refine AS ?_;exact h.1)|(refine AU ?_;exact h.1))
 |((with_reducible refine tg9 ?_);first|(refine KF ?_;exact h.1)|(refine KG ?_;exact h.1))
 |((with_reducible refine tg10 ?_);first|(refine KB ?_;exact h.1)|(refine KC ?_;exact h.1))
 |((with_reducible refine tg11 ?_);first|(refine Kv ?_;exact h.1)|(refine Kw ?_;exact h.1))
 |((with_reducible refine tg12 ?_);(refine HS ?_;exact h.1))
 |((with_reducible refine tg13 ?_);first|exact eS (.int _ _) h.1|exact eS (.str _) h.1|exact eS (.bool _) h.1)
 |((with_reducible refine tg14 ?_);(refine N1 ?_;exact h.1))
 |((with_reducible refine tg15 ?_);(refine r_or ?_;exact h.1))
 |((with_reducible refine tg16 ?_);(refine N9 ?_;exact h.1))
 |((with_reducible refine tg17 ?_);first|(refine KH ?_;exact h.1)|(refine KI ?_;exact h.1))
 |((with_reducible refine tg18 ?_);(refine N2 ?_;exact h.1))
 |((with_reducible refine tg19 ?_);first|exact bO _ h.1|exact Kx h.1|exact ju _ h.1|exact Ky h.1)
 |((with_reducible refine tg20 ?_);first|exact lW _ h.1|exact Kz h.1)
 |((with_reducible refine tg21 ?_);exact aR _ h.1)
 |((with_reducible refine tg22 ?_);first|exact FQ fun a=>(h.1:_→_) (a rfl rfl)|exact FR fun a=>(h.1:_→_) (a rfl rfl)|(refine KA ?_;exact h.1))
 |((with_reducible refine tg23 ?_);exact FU fun a=>(h.1:_→_) (a rfl rfl))
 |((with_reducible refine tg24 ?_);(refine Ob ?_;exact h.1))
 |((with_reducible refine tg25 ?_);(refine Oc ?_;exact h.1))
 |((with_reducible refine tg26 ?_);(refine N6 ?_;exact h.1))
 |((with_reducible refine tg27 ?_);(refine nI ?_;exact h.1))
 |with_reducible exact BQ.normal h.1|with_reducible exact BQ.ret h.1|with_reducible exact LQ.normal h.1|with_reducible exact LQ.out h.1|with_reducible exact LQ.ret h.1|with_reducible exact BQ.out h.1|with_reducible exact zV.normal h.1|with_reducible exact zV.ret h.1|with_reducible exact zX.normal h.1|with_reducible exact zX.ret h.1|with_reducible exact zV.out h.1|with_reducible exact zX.out h.1|with_reducible exact CQ.normal h.1|with_reducible exact CQ.ret h.1|with_reducible exact CQ.other h.1|((with_reducible refine BQ.other ?_ h.1);exact rfl)|((with_reducible refine LQ.other ?_ h.1);exact rfl)|((with_reducible refine zV.other ?_ h.1);exact rfl)|((with_reducible refine zX.other ?_ h.1);exact rfl)):p:=h ⟨k⟩
def hX {p q:Prop}(k:q)(h:Hid q qB→p:=by intro h;first|exact FQ fun _=>h.1|exact FU fun _=>h.1|exact FR fun _=>h.1):p:=h ⟨k⟩
section
variable {Γ:Ctx} {Q:Ex→List bm→St→Prop}
end
def fo:(∀{p:Prop} [Decidable p],(decide p=true)=p)∧(∀{p:Prop} [Decidable p],decide p=false↔¬p)∧(∀b:Bool,((!b)=true)=(b=false))∧(∀b:Bool,((!b)=false)=(b=true))∧(∀b:Bool,(¬(b=false))=(b=true))∧(∀a b:Bool,((a ||b)=true)=(a=true∨b=true))∧(∀{a b:Bool},(a ||b)=false↔a=false∧b=false)∧(∀a b:Bool,((a&&b)=true)=(a=true∧b=true))∧(∀{a b:Bool},(a&&b)=false↔a=false∨b=false)∧(∀b:Bool,(¬(b=true))=(b=false))∧(∀b:Bool,(true&&b)=b)∧∀b:Bool,(b&&true)=b:=
 ⟨decide_eq_true_eq,decide_eq_false_iff_not,Bool.not_eq_true',Bool.not_eq_false',Bool.not_eq_false,Bool.or_eq_true,Bool.or_eq_false_iff,Bool.and_eq_true,Bool.and_eq_false_iff,Bool.not_eq_true,Bool.true_and,Bool.and_true⟩
section
variable {Γ:Ctx} {Q:Ex→List bm→St→Prop} {env:List bm} {st:St}
def ca {c:Src}{a b r:AC}{t:Bool}{c1 c2:Prop}(h1:c1→bq Γ (.seq a r) Q env st)(h2:c2→bq Γ (.seq b r) Q env st)(hc:bU env [] c=⟨true,.bool t⟩:=by exact rfl)(e1:t=true→c1:=by intro h;(try simp only[fo]at h);exact h)(e2:t=false→c2:=by intro h;(try simp only[fo]at h);exact h):bq Γ (.seq (.cond c a b) r) Q env st:=aq (fun h=>h1 (e1 h)) (fun h=>h2 (e2 h)) hc
def eW {c:Src}{a b:AC}{t:Bool}{c1 c2:Prop}(h1:c1→bq Γ a Q env st)(h2:c2→bq Γ b Q env st)(hc:bU env [] c=⟨true,.bool t⟩:=by exact rfl)(e1:t=true→c1:=by intro h;(try simp only[fo]at h);exact h)(e2:t=false→c2:=by intro h;(try simp only[fo]at h);exact h):bq Γ (.cond c a b) Q env st:=wp_cond (fun h=>h1 (e1 h)) (fun h=>h2 (e2 h)) hc
end
end Go.Abs
namespace Go.Abs
def au {p q:Prop}(k:q)(h:Hid q qB→p:=by intro h;(iterate 2 refine aC ?_);exact h.1):p:=h ⟨k⟩
def av {p q:Prop}(k:q)(h:Hid q qB→p:=by intro h;(iterate 3 refine aC ?_);exact h.1):p:=h ⟨k⟩
def ax {p q:Prop}(k:q)(h:Hid q qB→p:=by intro h;(iterate 4 refine aC ?_);exact h.1):p:=h ⟨k⟩
def aI {p q:Prop}(k:q)(h:Hid q qB→p:=by intro h;(iterate 5 refine aC ?_);exact h.1):p:=h ⟨k⟩
def aA {p q:Prop}(k:q)(h:Hid q qB→p:=by intro h;(iterate 6 refine aC ?_);exact h.1):p:=h ⟨k⟩
def aQ {p q:Prop}(k:q)(h:Hid q qB→p:=by intro h;(iterate 7 refine aC ?_);exact h.1):p:=h ⟨k⟩
def bt {p q:Prop}(k:q)(h:Hid q qB→p:=by intro h;(iterate 8 refine aC ?_);exact h.1):p:=h ⟨k⟩
def cB {p q:Prop}(k:q)(h:Hid q qB→p:=by intro h;(iterate 9 refine aC ?_);exact h.1):p:=h ⟨k⟩
def gC {p q:Prop}(k:q)(h:Hid q qB→p:=by intro h;(iterate 10 refine aC ?_);exact h.1):p:=h ⟨k⟩
def eB {p q:Prop}(k:q)(h:Hid q qB→p:=by intro h;(iterate 11 refine aC ?_);exact h.1):p:=h ⟨k⟩
def gD {p q:Prop}(k:q)(h:Hid q qB→p:=by intro h;(iterate 12 refine aC ?_);exact h.1):p:=h ⟨k⟩
def kN {p q:Prop}(k:q)(h:Hid q qB→p:=by intro h;(iterate 13 refine aC ?_);exact h.1):p:=h ⟨k⟩
def uI {p q:Prop}(k:q)(h:Hid q qB→p:=by intro h;(iterate 14 refine aC ?_);exact h.1):p:=h ⟨k⟩
def uJ {p q:Prop}(k:q)(h:Hid q qB→p:=by intro h;(iterate 15 refine aC ?_);exact h.1):p:=h ⟨k⟩
def uK {p q:Prop}(k:q)(h:Hid q qB→p:=by intro h;(iterate 16 refine aC ?_);exact h.1):p:=h ⟨k⟩
def uL {p q:Prop}(k:q)(h:Hid q qB→p:=by intro h;(iterate 17 refine aC ?_);exact h.1):p:=h ⟨k⟩
def IX {p q:Prop}(k:q)(h:Hid q qB→p:=by intro h;(iterate 18 refine aC ?_);exact h.1):p:=h ⟨k⟩
def OL {p q:Prop}(k:q)(h:Hid q qB→p:=by intro h;(iterate 20 refine aC ?_);exact h.1):p:=h ⟨k⟩
def OM {p q:Prop}(k:q)(h:Hid q qB→p:=by intro h;(iterate 22 refine aC ?_);exact h.1):p:=h ⟨k⟩
def ON {p q:Prop}(k:q)(h:Hid q qB→p:=by intro h;(iterate 24 refine aC ?_);exact h.1):p:=h ⟨k⟩
def IY {p q:Prop}(k:q)(h:Hid q qB→p:=by intro h;(iterate 25 refine aC ?_);exact h.1):p:=h ⟨k⟩
def OO {p q:Prop}(k:q)(h:Hid q qB→p:=by intro h;(iterate 26 refine aC ?_);exact h.1):p:=h ⟨k⟩
def Gy {p q:Prop}(k:q)(h:Hid q qB→p:=by intro h;(iterate 28 refine aC ?_);exact h.1):p:=h ⟨k⟩
def OP {p q:Prop}(k:q)(h:Hid q qB→p:=by intro h;(iterate 33 refine aC ?_);exact h.1):p:=h ⟨k⟩
def IZ {p q:Prop}(k:q)(h:Hid q qB→p:=by intro h;(iterate 36 refine aC ?_);exact h.1):p:=h ⟨k⟩
end Go.Abs
namespace Go.Abs
abbrev s0:Src:=.s 0
abbrev s1:Src:=.s 1
abbrev s2:Src:=.s 2
abbrev s3:Src:=.s 3
abbrev s4:Src:=.s 4
abbrev s5:Src:=.s 5
abbrev s6:Src:=.s 6
abbrev s7:Src:=.s 7
abbrev s8:Src:=.s 8
abbrev s9:Src:=.s 9
abbrev jR:Src:=.s 10
abbrev lf:Src:=.s 11
abbrev lE:Src:=.s 12
abbrev oO:Src:=.s 13
abbrev rL:Src:=.s 14
abbrev qU:Src:=.s 15
abbrev z6:Src:=.s 16
abbrev zy:Src:=.s 17
abbrev DP:Src:=.s 18
abbrev KL:Src:=.s 19
abbrev GD:Src:=.s 20
abbrev s21:Src:=.s 21
abbrev s22:Src:=.s 22
abbrev s23:Src:=.s 23
abbrev K1:Src:=.s 24
abbrev K2:Src:=.s 25
abbrev Od:Src:=.s 26
abbrev s27:Src:=.s 27
abbrev s28:Src:=.s 28
abbrev s29:Src:=.s 29
abbrev IQ:Src:=.s 30
abbrev s31:Src:=.s 31
abbrev s32:Src:=.s 32
abbrev s33:Src:=.s 33
abbrev s34:Src:=.s 34
abbrev s35:Src:=.s 35
abbrev s36:Src:=.s 36
abbrev s37:Src:=.s 37
abbrev s38:Src:=.s 38
abbrev l0:Src:=.l 0
abbrev l1:Src:=.l 1
abbrev l2:Src:=.l 2
abbrev l3:Src:=.l 3
abbrev l4:Src:=.l 4
abbrev l5:Src:=.l 5
abbrev l6:Src:=.l 6
abbrev l7:Src:=.l 7
abbrev l8:Src:=.l 8
abbrev l9:Src:=.l 9
abbrev l10:Src:=.l 10
abbrev gh:Src:=.l 11
abbrev iq:Src:=.l 12
abbrev jD:Src:=.l 13
abbrev jZ:Src:=.l 14
abbrev lz:Src:=.l 15
abbrev mw:Src:=.l 16
abbrev oC:Src:=.l 17
abbrev pd:Src:=.l 18
abbrev qk:Src:=.l 19
abbrev tt:Src:=.l 20
abbrev uU:Src:=.l 21
abbrev vJ:Src:=.l 22
abbrev zY:Src:=.l 23
abbrev zZ:Src:=.l 24
abbrev BW:Src:=.l 25
abbrev D8:Src:=.l 26
abbrev GC:Src:=.l 27
abbrev HD:Src:=.l 28
abbrev HE:Src:=.l 29
abbrev J7:Src:=.l 30
abbrev NU:Src:=.l 31
abbrev NV:Src:=.l 32
abbrev l33:Src:=.l 33
abbrev l34:Src:=.l 34
abbrev gm (x:Src):GI:=⟨.mv x,none⟩
abbrev gn (x:aB):GI:=⟨x,none⟩
abbrev i6 (n:Int):Src:=.c (.int .i64 n)
abbrev cs (s:List UInt8):Src:=.c (.str s)
abbrev gd (x:Src):GI:=⟨.ld 1 false x,none⟩
abbrev gk (n:Nat)(b:Bool)(x:Src):GI:=⟨.ld n b x,none⟩
abbrev gf (n:Nat)(x:Src):GI:=⟨.fa n x,none⟩
abbrev gl (x:Src):GI:=⟨.len x,none⟩
abbrev ga (n:Nat)(x y:Src):GI:=⟨.ia n x y,none⟩
abbrev ge (x:Src)(n:Nat):GI:=⟨.ext x n,none⟩
abbrev gb (n:Nat)(x:Src):GI:=⟨.box n x,none⟩
abbrev gc (x:Src):GI:=⟨.nilck x,none⟩
abbrev gt (n:Nat)(x y:Src):GI:=⟨.st n x y,none⟩
abbrev gx (n:Nat)(x:List Src)(y:List (List Sh)):GI:=⟨.call n x y,none⟩
abbrev rg (x:List GI)(y:List (Nat×Nat)):AC:=.reg false x y
abbrev rt (x:List GI)(y:List (Nat×Nat)):AC:=.reg true x y
abbrev pK (x y:Src):aB:=.bin .lss x y
abbrev bY (x y:Src):aB:=.bin .eql x y
abbrev EB (x y:Src):aB:=.bin .add x y
abbrev cC (x y:Src):aB:=.bin .gtr x y
abbrev eF (x y:Src):aB:=.bin .neq x y
abbrev kS (x y:Src):aB:=.bin .leq x y
abbrev rk (x y:Src):aB:=.bin .geq x y
abbrev hZ (x y:Src):aB:=.bin .sub x y
abbrev cH:Src:=.c (.bool false)
abbrev mX:Src:=.c (.bool true)
abbrev cse:Src:=.c (.str [])
abbrev bc:Src:=.c (.int .i64 0)
abbrev bV:Src:=.c (.int .i64 1)
abbrev lM:Src:=.c (.int .i64 2)
abbrev kr:Src:=.c (.int .i64 3)
abbrev tl:Src:=.c (.int .i64 4)
abbrev GA:Src:=.c (.int .i64 5)
abbrev tm:Src:=.c (.int .i64 6)
abbrev E1:Src:=.c (.int .i64 7)
abbrev AB:Src:=.c (.int .i64 8)
abbrev Db:Src:=.c (.int .i64 9)
abbrev gmt (n:Nat)(x:Src):GI:=⟨.mv x,some (n,true)⟩
abbrev jC (n:Nat)(x:Src):GI:=⟨.ld 1 false x,some (n,true)⟩
abbrev kX (n o:Nat)(x:Src):GI:=⟨.fa o x,some (n,true)⟩
abbrev bR (n:Nat)(x:aB):GI:=⟨x,some (n,true)⟩
abbrev dt (n:Nat)(x:Src):GI:=⟨.mv x,some (n,false)⟩
abbrev hJ (n:Nat)(x:Src):GI:=⟨.ld 1 false x,some (n,false)⟩
abbrev gT (n o:Nat)(x:Src):GI:=⟨.fa o x,some (n,false)⟩
abbrev bP (n:Nat)(x:aB):GI:=⟨x,some (n,false)⟩
abbrev sq (a b:AC):AC:=.seq a b
abbrev rU (x:Src):AC:=.seq (.reg false [⟨.mv x,none⟩] [(1,0)]) .ret
abbrev jh (c x:Src):AC:=.cond c (.seq (.reg false [⟨.mv x,none⟩] [(1,0)]) .ret) .skip
abbrev bL:List (List Sh):=[[.a]]
abbrev D7:List (List Sh):=[[.a,.a,.a,.a,.a]]
abbrev Hr:List (List Sh):=[[.a,.a,.a,.a,.a,.a,.a]]
abbrev gL:List (List Sh):=[[.a],[.a]]
abbrev Hs:List (List Sh):=[[.a],[.a],[.a]]
abbrev dL (c x:Src):GI:=⟨.pick c (.c (.bool true)) x,none⟩
abbrev dG (c x:Src):GI:=⟨.pick c x (.c (.bool false)),none⟩
abbrev J0 (n:Nat)(c x:Src):GI:=⟨.pick c (.c (.bool true)) x,some (n,true)⟩
abbrev yD (n:Nat)(c x:Src):GI:=⟨.pick c x (.c (.bool false)),some (n,false)⟩
abbrev aJ (x y:Src):GI:=⟨.bin .lss x y,none⟩
abbrev aH (x y:Src):GI:=⟨.bin .eql x y,none⟩
abbrev ar (x y:Src):GI:=⟨.bin .add x y,none⟩
abbrev cg (x y:Src):GI:=⟨.bin .gtr x y,none⟩
abbrev bZ (x y:Src):GI:=⟨.bin .neq x y,none⟩
abbrev xj (x y:Src):GI:=⟨.bin .leq x y,none⟩
abbrev fD (x y:Src):GI:=⟨.bin .geq x y,none⟩
abbrev dN (x y:Src):GI:=⟨.bin .sub x y,none⟩
abbrev Kb (x y:Src):GI:=⟨.bin .and x y,none⟩
abbrev IJ (x y:Src):GI:=⟨.bin .or x y,none⟩
abbrev ek (c:Src)(n:Nat):AC:=.cond c .skip (.exit n)
abbrev i8 (n:Int):Src:=.c (.int .u8 n)
abbrev i3 (n:Int):Src:=.c (.int .i32 n)
abbrev iu (n:Int):Src:=.c (.int .u64 n)
abbrev lG (x:Src):GI:=⟨.lenS x,none⟩
abbrev iR (x:Src):GI:=⟨.un .not x,none⟩
abbrev C7 (x y:Src):GI:=⟨.ixS x y,none⟩
abbrev r1 (x:List GI)(a b:Nat):AC:=.reg false x [(a,b)]
abbrev r2 (x:List GI)(a b:Nat):AC:=.reg true x [(a,b)]
abbrev fg:List z7:=[⟨1,none⟩]
end Go.Abs
end
section
namespace Go.Abs
open Go
def DE:az:=⟨2,7,[⟨2,none⟩],bL,(sq (r1 [gm cse] 2 0) (sq (r1 [gm cse] 6 0) (sq (sq (r1 [gm bc] 3 0) (.block 0 (.loop (sq (sq (r1 [gm s3,gm s0,gl l1,aJ l0 l2] 4 3) (ek s4 0)) (sq (.block 1 (sq (sq (r1 [gm s3,cg l0 bc] 5 1) (.cond s5 (r1 [gm s6,gm s1,gn (.bsl 1 (.int .u8 0) 1 [(0,l1)]),gn (.b2s l2),ar l0 l3,gm l4] 6 5) .skip)) (r1 [gm s6,gm s0,gm s3,ga 1 l1 l2,gd l3,ar l0 l4,gm l5] 6 6))) (r1 [gm s3,ar l0 bV,gm l1] 3 2)))))) (sq (r1 [gm s6,gm l0] 2 1) .ret))))⟩
def w249 {Γ:Ctx}(hm:(Γ.at 0).aY)  (l:List ah)(x:UInt8)  (hp0:(aO [x] l).length≤1099511627776):c7 Γ DE (.str (aO [x] l)) [.sl 1 (l.map D.str),.int .u8 (x.toNat:Nat)]:=by
 show bq _ _ _ [⟨_,_⟩,⟨_,_⟩,_,_,_,_,_] _;refine ai ?_;refine cB ?_;refine aV hm (ι:=Nat) (fun i=>[⟨true,.sl 1 (l.map D.str)⟩,⟨true,.int .u8 (x.toNat:Nat)⟩,.un,⟨true,.int .i64 (i:Nat)⟩,.un,.un,⟨true,.str (aO [x] (l.take i))⟩]) (fun i=>[]) 3 (fun i=>i≤l.length) (fun i=>l.length-i) 0 (by omega) (cI []) ?_;intro i hi;refine aI ?_;intro u0;refine au ?_;refine ca (fun hc0=>?_) fun hc0=>?_
 ·refine ax ?_;have hj:=oa [x] l (i+1);refine av ?_;refine aq (fun hc1=>?_) (fun hc1=>?_)
  ·simp only[decide_eq_true_eq]at hc1;have ht:=mq [x] l i (by omega);rw[if_pos (by omega)]at ht;have htl:=congrArg List.length ht;simp only[List.length_append,List.length_singleton]at htl;refine av ?_;refine cF [.int .u8 _] ?_;refine FM [x] (he:=fun _=>sn.all ae rfl) (hs:=fun _=>rfl) ?_;refine cA (hb:=fun _=>by simp only[List.length_singleton];omega) ?_;refine bt ?_;refine cA (hb:=fun _=>by first|(simp only[List.length_append,List.length_singleton];omega)|(subst hi0;simp only[List.take_zero,aO,List.length_nil]at htl⊢;omega)) ?_;refine cB ?_;exact⟨i+1,(by omega),by omega,(aT.to [] ae ae (by repeat(first|exact cS.nil|refine cS.un ?_|refine cS.eq ae ?_|refine cS.nl (congrArg D.str (by rw[ht])) ae ?_)) px)⟩
  simp only[decide_eq_false_iff_not]at hc1;have ht:=mq [x] l i (by omega);rw[if_neg (by omega)]at ht;have htl:=congrArg List.length ht;simp only[List.length_append,List.length_nil]at htl;have hi0:i=0:=by omega
  refine aQ ?_;refine cA (hb:=fun _=>by first|(simp only[List.length_append,List.length_singleton];omega)|(subst hi0;simp only[List.take_zero,aO,List.length_nil]at htl⊢;omega)) ?_;refine cB ?_;exact⟨i+1,(by omega),by omega,(aT.to [] ae ae (by repeat(first|exact cS.nil|refine cS.un ?_|refine cS.eq ae ?_|refine cS.nl (congrArg D.str (by rw[ht];subst hi0;rfl)) ae ?_)) px)⟩
 refine aQ ?_;refine b8 ?_;rw[List.take_of_length_le (by omega)]
def GP (Γ:Ctx):Prop:=∀(l:List ah)(x:UInt8),((aO [x] l).length≤1099511627776)→Γ.pre 249 [.sl 1 (l.map D.str),.int .u8 (x.toNat:Nat)]∧Γ.val 249 [.sl 1 (l.map D.str),.int .u8 (x.toNat:Nat)]=.str (aO [x] l)
def zq:az:=⟨1,5,fg,bL,(sq (r1 [gm cH] 1 0) (sq (sq (r1 [gm bV] 2 0) (.block 0 (.loop (sq (sq (r1 [gm s2,gm s0,gl l1,aJ l0 l2] 3 3) (ek s3 0)) (sq (.block 1 (sq (r2 [gm s0,gm s2,dN l1 bV,ga 1 l0 l2,gd l3,gm s0,gm s2,ga 1 l5 l6,gd l7,fD l4 l8] 4 9) (jh s4 cH))) (r1 [gm s2,ar l0 bV,gm l1] 2 2)))))) (rU mX)))⟩
def w815 {Γ:Ctx}(hm:(Γ.at 0).aY)  (l:List ah)   :c7 Γ zq (.bool (rising l)) [.sl 1 (l.map D.str)]:=by
 show bq _ _ _ [⟨_,_⟩,_,_,_,_] _;refine ai ?_;refine aA ?_;refine aV hm (ι:=Nat) (fun i=>[⟨true,.sl 1 (l.map D.str)⟩,.un,⟨true,.int .i64 (i:Nat)⟩,.un,.un]) (fun i=>[]) 2 (fun i=>1≤i∧(i≤l.length∨i=1)∧rising l=bJ (fun i=>Op.bytesLess l[i-1]! l[i]!) i l.length) (fun i=>l.length-i) 1 ⟨by omega,by omega,rfl⟩ (cI []) ?_;rintro i ⟨h1,hi,hr⟩;refine aI ?_;intro u0;refine au ?_;refine ca (fun hc0=>?_) fun hc0=>?_
 ·refine aA ?_;refine bO (i-1) ?_;refine aQ ?_;refine wp_cond (fun hc1=>?_) (fun hc1=>?_)
  ·simp only[Bool.not_eq_true']at hc1;refine aA ?_;refine bp ?_;rw[hr,aD (by omega),hc1];rfl
  simp only[Bool.not_eq_false']at hc1;refine bt ?_;exact⟨i+1,⟨by omega,by omega,by rw[hr,aD (by omega),hc1];rfl⟩,by omega,(cI [])⟩
 refine aA ?_;refine bp ?_;rw[hr,bA (by omega)]
def Jq (Γ:Ctx):Prop:=∀(l:List ah),Γ.pre 815 [.sl 1 (l.map D.str)]∧Γ.val 815 [.sl 1 (l.map D.str)]=.bool (rising l)
def uS:az:=⟨1,5,fg,bL,(sq (r1 [gm cH] 1 0) (sq (sq (r1 [gm bV] 2 0) (.block 0 (.loop (sq (sq (r1 [gm s2,gm s0,gl l1,aJ l0 l2] 3 3) (ek s3 0)) (sq (.block 1 (sq (r2 [gm s0,gm s2,dN l1 bV,ga 1 l0 l2,gd l3,gm s0,gm s2,ga 1 l5 l6,gd l7,fD l4 l8] 4 9) (jh s4 cH))) (r1 [gm s2,ar l0 bV,gm l1] 2 2)))))) (rU mX)))⟩
def w447 {Γ:Ctx}(hm:(Γ.at 0).aY)  (l:List ah)   :c7 Γ uS (.bool (rising l)) [.sl 1 (l.map D.str)]:=by
 show bq _ _ _ [⟨_,_⟩,_,_,_,_] _;refine ai ?_;refine aA ?_;refine aV hm (ι:=Nat) (fun i=>[⟨true,.sl 1 (l.map D.str)⟩,.un,⟨true,.int .i64 (i:Nat)⟩,.un,.un]) (fun i=>[]) 2 (fun i=>1≤i∧(i≤l.length∨i=1)∧rising l=bJ (fun i=>Op.bytesLess l[i-1]! l[i]!) i l.length) (fun i=>l.length-i) 1 ⟨by omega,by omega,rfl⟩ (cI []) ?_;rintro i ⟨h1,hi,hr⟩;refine aI ?_;intro u0;refine au ?_;refine ca (fun hc0=>?_) fun hc0=>?_
 ·refine aA ?_;refine bO (i-1) ?_;refine aQ ?_;refine wp_cond (fun hc1=>?_) (fun hc1=>?_)
  ·simp only[Bool.not_eq_true']at hc1;refine aA ?_;refine bp ?_;rw[hr,aD (by omega),hc1];rfl
  simp only[Bool.not_eq_false']at hc1;refine bt ?_;exact⟨i+1,⟨by omega,by omega,by rw[hr,aD (by omega),hc1];rfl⟩,by omega,(cI [])⟩
 refine aA ?_;refine bp ?_;rw[hr,bA (by omega)]
def LH (Γ:Ctx):Prop:=∀(l:List ah),Γ.pre 447 [.sl 1 (l.map D.str)]∧Γ.val 447 [.sl 1 (l.map D.str)]=.bool (rising l)
end Go.Abs
end
section
namespace Go.Abs
open Go
def AE:az:=⟨1,8,fg,bL,(sq (r1 [gm cH] 1 0) (sq (sq (r1 [gm s0,aH l0 cse,gm l1,dt 2 s0,bP 2 (.lenS l3),bP 2 (cC l4 (i6 12)),dL l2 l5] 2 6) (jh s2 cH)) (sq (sq (r1 [gm s0,gn (.rng l0)] 3 1) (.block 0 (.loop (sq (rg [gn (.uN s3),ge l0 0] [(5,0),(4,1)]) (sq (ek s4 0) (.block 1 (sq (r1 [ge s5 2,gm l0] 6 1) (.block 2 (sq (sq (r1 [gm s6,fD l0 (i3 97),gm l1,gmt 2 s6,bR 2 (kS l3 (i3 122)),dG l2 l4,gm l5] 7 6) (.cond s7 .skip (sq (r1 [gm s6,fD l0 (i3 48),gm l1,gmt 2 s6,bR 2 (kS l3 (i3 57)),dG l2 l4,gm l5] 7 6) (.cond s7 .skip (r1 [gm s6,aH l0 (i3 95),gm l1] 7 2))))) (.cond s7 .skip (rU cH))))))))))) (rU mX))))⟩
def w349 {Γ:Ctx}(hm:(Γ.at 0).aY)  (s:ah)   :c7 Γ AE (.bool (bI s)) [.str s]:=by
 show bq _ _ _ [⟨_,_⟩,_,_,_,_,_,_,_] _;refine ai ?_;refine bt ?_;refine hX ?_;refine av ?_;refine ca (fun hc0=>?_) fun hc0=>?_
 ·refine aI ?_;refine bp ?_;symm;simp only[bI,Bool.and_eq_false_iff,decide_eq_false_iff_not];rcases hc0 with h|h
  ·subst h;exact Or.inl (Or.inl (by simp))
  ·exact Or.inl (by omega)
 refine aA ?_;have hP:bI s=bJ (fun i=>uB (at8 s i)) 0 s.length:=by
  have:=List.length_pos_iff.2 hc0.1;simp only[bI];rw[decide_eq_true (by omega),decide_eq_true (by omega)];rfl
 refine aV hm (ι:=Nat) (fun i=>[⟨true,.str s⟩,.un,.un,⟨true,.it 9⟩,.un,.un,.un,.un]) (fun i=>[(9,.iter s i)]) 10 (fun i=>i≤s.length∧bI s=bJ (fun i=>uB (at8 s i)) i s.length) (fun i=>s.length-i) 0 ⟨by omega,hP⟩ (cI [(9,9)]) ?_;rintro i ⟨hi,hr⟩;refine aC ?_;by_cases hnx:i<s.length
 ·obtain⟨c,w,hdec,hw,hcw⟩:=pR s i hnx;refine xt c w (hp:=hnx) (hc:=hdec) ?_;refine au ?_;refine aq (t:=true) (fun _=>?_) (fun h=>by cases h);refine uL ?_;refine ca (fun hc2=>?_) fun hc2=>?_
  ·refine aC ?_;refine eW (fun hc4=>?_) fun hc4=>?_
   ·refine ax ?_;obtain⟨rfl,hat,-⟩:w=1∧(c:Int)=at8 s i∧c<128:=by
     rcases hcw with h|h
     ·exact h
     ·omega
    have hz:uB (at8 s i)=true:=by
     simp only[uB,fC,aX,Bool.or_eq_true,Bool.and_eq_true,decide_eq_true_eq];omega
    exact⟨i+1,⟨by omega,by rw[hr,aD hnx,hz];rfl⟩,by omega,(cI [(9,9)])⟩
   refine aQ ?_;refine bp ?_;first
    |(exfalso;omega)
    |(rw[hr,bA (by omega)];done)
    |(
     have hz:uB (at8 s i)=false:=by
      rcases hcw with⟨_,h,_⟩|⟨_,h⟩<;>(simp only[uB,fC,aX,Bool.or_eq_false_iff,Bool.and_eq_false_iff,decide_eq_false_iff_not];omega)
     rw[hr,aD hnx,hz];rfl)
  refine gC ?_;refine ca (fun hc3=>?_) fun hc3=>?_
  ·refine aC ?_;refine eW (fun hc4=>?_) fun hc4=>?_
   ·refine ax ?_;obtain⟨rfl,hat,-⟩:w=1∧(c:Int)=at8 s i∧c<128:=by
     rcases hcw with h|h
     ·exact h
     ·omega
    have hz:uB (at8 s i)=true:=by
     simp only[uB,fC,aX,Bool.or_eq_true,Bool.and_eq_true,decide_eq_true_eq];omega
    exact⟨i+1,⟨by omega,by rw[hr,aD hnx,hz];rfl⟩,by omega,(cI [(9,9)])⟩
   refine aQ ?_;refine bp ?_;first
    |(exfalso;omega)
    |(rw[hr,bA (by omega)];done)
    |(
     have hz:uB (at8 s i)=false:=by
      rcases hcw with⟨_,h,_⟩|⟨_,h⟩<;>(simp only[uB,fC,aX,Bool.or_eq_false_iff,Bool.and_eq_false_iff,decide_eq_false_iff_not];omega)
     rw[hr,aD hnx,hz];rfl)
  refine aI ?_;refine eW (fun hc4=>?_) fun hc4=>?_
  ·refine ax ?_;obtain⟨rfl,hat,-⟩:w=1∧(c:Int)=at8 s i∧c<128:=by
    rcases hcw with h|h
    ·exact h
    ·omega
   have hz:uB (at8 s i)=true:=by
    simp only[uB,fC,aX,Bool.or_eq_true,Bool.and_eq_true,decide_eq_true_eq];omega
   exact⟨i+1,⟨by omega,by rw[hr,aD hnx,hz];rfl⟩,by omega,(cI [(9,9)])⟩
  refine aQ ?_;refine bp ?_;first
   |(exfalso;omega)
   |(rw[hr,bA (by omega)];done)
   |(
    have hz:uB (at8 s i)=false:=by
     rcases hcw with⟨_,h,_⟩|⟨_,h⟩<;>(simp only[uB,fC,aX,Bool.or_eq_false_iff,Bool.and_eq_false_iff,decide_eq_false_iff_not];omega)
    rw[hr,aD hnx,hz];rfl)
 ·refine xr (hp:=hnx) ?_;refine au ?_;refine aq (t:=false) (fun h=>by cases h) (fun _=>?_);refine aA ?_;refine bp ?_;first
   |(exfalso;omega)
   |(rw[hr,bA (by omega)];done)
   |(
    have hz:uB (at8 s i)=false:=by
     rcases hcw with⟨_,h,_⟩|⟨_,h⟩<;>(simp only[uB,fC,aX,Bool.or_eq_false_iff,Bool.and_eq_false_iff,decide_eq_false_iff_not];omega)
    rw[hr,aD hnx,hz];rfl)
def Aa (Γ:Ctx):Prop:=∀(s:ah),Γ.pre 349 [.str s]∧Γ.val 349 [.str s]=.bool (bI s)
def AD:az:=⟨1,13,fg,bL,(sq (r1 [gm cH] 1 0) (sq (sq (r1 [gm s0,aH l0 cse,gm l1,dt 2 s0,bP 2 (.lenS l3),bP 2 (cC l4 (i6 16)),dL l2 l5] 2 6) (jh s2 cH)) (sq (sq (r1 [gm s0,gn (.rng l0)] 3 1) (.block 0 (.loop (sq (rg [gn (.uN s3),ge l0 0] [(5,0),(4,1)]) (sq (ek s4 0) (.block 1 (sq (rg [ge s5 1,ge s5 2,gm l0,gm l1] [(9,2),(6,3)]) (.block 2 (sq (r1 [gm s6,fD l0 (i3 97),gm l1,gmt 2 s6,bR 2 (kS l3 (i3 122)),dG l2 l4,gm l5] 7 6) (.cond s7 .skip (sq (r1 [gm s6,fD l0 (i3 48),gm l1,gmt 2 s6,bR 2 (kS l3 (i3 57)),dG l2 l4,gm l5] 8 6) (.cond s8 (sq (r1 [gm s9,aH l0 bc] 10 1) (jh jR cH)) (sq (r1 [gm s6,aH l0 (i3 45),gm l1] 11 2) (.cond lf (sq (r1 [gm s9,aH l0 bc,gm l1,dt 2 s9,dt 2 s0,bP 2 (.lenS l4),bP 2 (hZ l5 bV),bP 2 (bY l3 l6),dL l2 l7,gm l8,dt 9 s0,dt 9 s9,bP 9 (hZ gh bV),bP 9 (.ixS l10 iq),bP 9 (bY jD (i8 45)),dL l9 jZ] 12 15) (jh lE cH)) (rU cH))))))))))))))) (rU mX))))⟩
def w208 {Γ:Ctx}(hm:(Γ.at 0).aY)  (s:ah)   :c7 Γ AD (.bool (ey s)) [.str s]:=by
 show bq _ _ _ [⟨_,_⟩,_,_,_,_,_,_,_,_,_,_,_,_] _;refine ai ?_;refine bt ?_;refine hX ?_;refine av ?_;refine ca (fun hc0=>?_) fun hc0=>?_
 ·refine aI ?_;refine bp ?_;symm;simp only[ey];rcases hc0 with h|h
  ·subst h;simp
  ·rw[decide_eq_false (by omega:¬s.length≤16)];simp
 refine aA ?_;have h0:=List.length_pos_iff.2 hc0.1;have hP:=HG s (by omega) (by omega);refine aV hm (ι:=Nat) (fun i=>[⟨true,.str s⟩,.un,.un,⟨true,.it 9⟩,.un,.un,.un,.un,.un,.un,.un,.un,.un]) (fun i=>[(9,.iter s i)]) 10 (fun i=>i≤s.length∧ey s=bJ (lB s) i s.length) (fun i=>s.length-i) 0 ⟨by omega,hP⟩ (cI [(9,9)]) ?_;rintro i ⟨hi,hr⟩;refine aC ?_;by_cases hnx:i<s.length
 ·obtain⟨c,w,hdec,hw,hcw⟩:=pR s i hnx;refine xt c w (hp:=hnx) (hc:=hdec) ?_;refine au ?_;refine aq (t:=true) (fun _=>?_) (fun h=>by cases h);refine IX ?_;refine eW (fun hc2=>?_) fun hc2=>?_
  ·refine ax ?_;obtain⟨rfl,hat,-⟩:w=1∧(c:Int)=at8 s i∧c<128:=by
    rcases hcw with h|h
    ·exact h
    ·omega
   have hz:lB s i=true:=by
    simp only[lB,fC,aX,Bool.or_eq_true,Bool.and_eq_true,Bool.not_eq_true',decide_eq_true_eq,decide_eq_false_iff_not];omega
   exact⟨i+1,⟨by omega,by rw[hr,aD hnx,hz];rfl⟩,by omega,(cI [(9,9)])⟩
  refine cB ?_;refine eW (fun hc3=>?_) fun hc3=>?_
  ·refine ax ?_;refine eW (fun hc4=>?_) fun hc4=>?_
   ·refine aQ ?_;refine bp ?_;first
     |(exfalso;omega)
     |(rw[hr,bA (by omega)];done)
     |(have hz:lB s i=false:=by
        rcases hcw with⟨_,h,_⟩|⟨_,h⟩<;>(simp only[lB,fC,aX,Bool.or_eq_false_iff,Bool.and_eq_false_iff,Bool.not_eq_false',decide_eq_true_eq,decide_eq_false_iff_not];omega)
       rw[hr,aD hnx,hz];rfl)
   refine ax ?_;obtain⟨rfl,hat,-⟩:w=1∧(c:Int)=at8 s i∧c<128:=by
    rcases hcw with h|h
    ·exact h
    ·omega
   have hz:lB s i=true:=by
    simp only[lB,fC,aX,Bool.or_eq_true,Bool.and_eq_true,Bool.not_eq_true',decide_eq_true_eq,decide_eq_false_iff_not];omega
   exact⟨i+1,⟨by omega,by rw[hr,aD hnx,hz];rfl⟩,by omega,(cI [(9,9)])⟩
  refine aI ?_;refine eW (fun hc5=>?_) fun hc5=>?_
  ·refine aA ?_;refine hX ?_;refine aQ ?_;refine lW (i-1) ?_;refine av ?_;refine eW (fun hc6=>?_) fun hc6=>?_
   ·refine aQ ?_;refine bp ?_;first
     |(exfalso;omega)
     |(rw[hr,bA (by omega)];done)
     |(have hz:lB s i=false:=by
        rcases hcw with⟨_,h,_⟩|⟨_,h⟩<;>(simp only[lB,fC,aX,Bool.or_eq_false_iff,Bool.and_eq_false_iff,Bool.not_eq_false',decide_eq_true_eq,decide_eq_false_iff_not];omega)
       rw[hr,aD hnx,hz];rfl)
   refine ax ?_;obtain⟨rfl,hat,-⟩:w=1∧(c:Int)=at8 s i∧c<128:=by
    rcases hcw with h|h
    ·exact h
    ·omega
   have hz:lB s i=true:=by
    simp only[lB,fC,aX,Bool.or_eq_true,Bool.and_eq_true,Bool.not_eq_true',decide_eq_true_eq,decide_eq_false_iff_not];omega
   exact⟨i+1,⟨by omega,by rw[hr,aD hnx,hz];rfl⟩,by omega,(cI [(9,9)])⟩
  refine aQ ?_;refine bp ?_;first
   |(exfalso;omega)
   |(rw[hr,bA (by omega)];done)
   |(have hz:lB s i=false:=by
      rcases hcw with⟨_,h,_⟩|⟨_,h⟩<;>(simp only[lB,fC,aX,Bool.or_eq_false_iff,Bool.and_eq_false_iff,Bool.not_eq_false',decide_eq_true_eq,decide_eq_false_iff_not];omega)
     rw[hr,aD hnx,hz];rfl)
 ·refine xr (hp:=hnx) ?_;refine au ?_;refine aq (t:=false) (fun h=>by cases h) (fun _=>?_);refine aA ?_;refine bp ?_;first
   |(exfalso;omega)
   |(rw[hr,bA (by omega)];done)
   |(have hz:lB s i=false:=by
      rcases hcw with⟨_,h,_⟩|⟨_,h⟩<;>(simp only[lB,fC,aX,Bool.or_eq_false_iff,Bool.and_eq_false_iff,Bool.not_eq_false',decide_eq_true_eq,decide_eq_false_iff_not];omega)
     rw[hr,aD hnx,hz];rfl)
def GM (Γ:Ctx):Prop:=∀(s:ah),Γ.pre 208 [.str s]∧Γ.val 208 [.str s]=.bool (ey s)
def xc:az:=⟨1,10,[⟨1,none⟩,⟨2,none⟩],gL,(sq (rg [gm bc,gm cH] [(1,0),(2,1)]) (sq (sq (r1 [gm s0,aH l0 cse,gm l1,dt 2 s0,bP 2 (.lenS l3),bP 2 (cC l4 tl),dL l2 l5,gm l6,dt 7 s0,bP 7 (.ixS l8 bc),bP 7 (bY l9 (i8 48)),dt 7 l10,gmt 11 s0,bR 11 (.lenS iq),bR 11 (cC jD bV),yD 7 gh jZ,dL l7 lz] 3 16) (.cond s3 (sq (rg [gm bc,gm cH] [(1,0),(2,1)]) .ret) .skip)) (sq (r1 [gm bc] 9 0) (sq (sq (r1 [gm s0,gn (.rng l0)] 4 1) (.block 0 (.loop (sq (rg [gn (.uN s4),ge l0 0] [(6,0),(5,1)]) (sq (ek s5 0) (.block 1 (sq (r1 [ge s6 2,gm l0] 7 1) (.block 2 (sq (r1 [gm s7,fD l0 (i3 48),gm l1,gmt 2 s7,bR 2 (kS l3 (i3 57)),dG l2 l4,gm l5] 8 6) (.cond s8 (r1 [gm s9,gn (.bin .mul (i6 10) l0),gm s7,dN l2 (i3 48),gn (.cvi .i64 l3),ar l1 l4,gm l5] 9 6) (sq (rg [gm bc,gm cH] [(1,0),(2,1)]) .ret))))))))))) (sq (rg [gm s9,gm s9,xj l1 (i6 9999),gm l0,gm l2] [(1,3),(2,4)]) .ret)))))⟩
def w658 {Γ:Ctx}(hm:(Γ.at 0).aY)  (s:ah)   :c7 Γ xc (.tup [.int .i64 (dm s),.bool (ea s)]) [.str s]:=by
 show bq _ _ _ [⟨_,_⟩,_,_,_,_,_,_,_,_,_] _;refine ai ?_;refine cB ?_;refine hX ?_;refine ax ?_;refine lW 0 (hb:=fun h=>by simp at h;exact List.length_pos_iff.2 h.1) ?_;refine av ?_;refine hX ?_;refine ax ?_;refine ca (fun hc0=>?_) fun hc0=>?_
 ·refine aA ?_;refine bC (aE (congrArg (D.int .i64) ?_) (congrArg D.bool ?_));all_goals
   have:ea s=false:=by
    rw[AO];rcases hc0 with(h|h)|h
    ·subst h;simp
    ·rw[decide_eq_false (by omega:¬s.length≤4)];simp
    ·rw[decide_eq_true (by omega:1<s.length),decide_eq_true h.1];simp
   simp[dm,this]
 refine cB ?_;have h0:=List.length_pos_iff.2 hc0.1.1;have hP:ea s=bJ (fun i=>aX (at8 s i)) 0 s.length:=by
  rw[AO,decide_eq_true (by omega:1≤s.length),decide_eq_true (by omega:s.length≤4)];rcases hc0.2 with h|h
  ·rw[decide_eq_false h,Bool.and_false];rfl
  ·rw[decide_eq_false (by omega:¬1<s.length)];rfl
 refine aV hm (ι:=Nat) (fun i=>[⟨true,.str s⟩,.un,.un,.un,⟨true,.it 21⟩,.un,.un,.un,.un,⟨true,.int .i64 (dn (s.take i):Nat)⟩]) (fun i=>[(21,.iter s i)]) 22 (fun i=>i≤s.length∧s.length≤4∧ea s=bJ (fun i=>aX (at8 s i)) i s.length) (fun i=>s.length-i) 0 ⟨by omega,by omega,hP⟩ (cI [(21,21)]) ?_;rintro i ⟨hi,h9,hr⟩;refine aC ?_;by_cases hnx:i<s.length
 ·obtain⟨c,w,hdec,hw,hcw⟩:=pR s i hnx;refine xt c w (hp:=hnx) (hc:=hdec) ?_;refine au ?_;refine aq (t:=true) (fun _=>?_) (fun h=>by cases h);refine uK ?_;refine eW (fun hc2=>?_) fun hc2=>?_
  ·refine aC ?_;obtain⟨rfl,hat,-⟩:w=1∧(c:Int)=at8 s i∧c<128:=by
    rcases hcw with h|h
    ·exact h
    ·omega
   have hn:=qb s i (by omega);have hn2:=rD s i (by omega);have h256:=wO s i;refine aC ?_;refine Cg ?_;refine aC ?_;refine xu ((c:Int) -48) (hb:=fun _=>IntWalk.i32_in _ (by omega)) ?_;refine rI ((c:Int) -48) (hb:=fun _=>IntWalk.i64_in _ (by omega)) ?_;refine av ?_;rw[show 10*(dn (s.take i):Int)+((c:Int) -48)=(dn (s.take (i+1)):Nat)by omega];refine av ?_;have hz:aX (at8 s i)=true:=by
    simp only[aX,Bool.and_eq_true,decide_eq_true_eq];omega
   exact⟨i+1,⟨by omega,h9,by rw[hr,aD (by omega),hz];rfl⟩,by omega,(cI [(21,21)])⟩
  refine bt ?_;refine bC (aE (congrArg (D.int .i64) ?_) (congrArg D.bool ?_));all_goals
   have hz:aX (at8 s i)=false:=by
    rcases hcw with⟨_,h,_⟩|⟨_,h⟩<;>(simp only[aX,Bool.and_eq_false_iff,decide_eq_false_iff_not];omega)
   have:ea s=false:=by rw[hr,aD (by omega),hz];rfl
   simp[dm,this]
 ·refine xr (hp:=hnx) ?_;refine au ?_;refine aq (t:=false) (fun h=>by cases h) (fun _=>?_);refine gC ?_;refine bC (aE (congrArg (D.int .i64) ?_) (congrArg D.bool ?_));all_goals
   have this:ea s=true:=by rw[hr,bA (by omega)]
   have ht:s.take i=s:=List.take_of_length_le (by omega);have h9:=this;simp only[ea,Bool.and_eq_true,decide_eq_true_eq]at h9;have h99:=h9.2;rw[ht];first
   |(simp only[dm,this];rfl)
   |(rw[this,decide_eq_true_eq];omega)
def GU (Γ:Ctx):Prop:=∀(s:ah),Γ.pre 658 [.str s]∧Γ.val 658 [.str s]=.tup [.int .i64 (dm s),.bool (ea s)]
end Go.Abs
end
section
namespace Go.Abs
open Go
def yG:az:=⟨2,10,[⟨2,none⟩],[[.sl 1 [.a]]],(sq (r1 [gm (.c (.aF))] 2 0) (sq (r1 [gm (.c (.aF))] 8 0) (sq (r1 [gm bc] 9 0) (sq (sq (rg [gm s0,lG l0,gm bc] [(4,1),(3,2)]) (.block 0 (.loop (sq (r1 [aJ s3 s4] 5 0) (sq (ek s5 0) (sq (.block 1 (sq (r1 [gm s3,gm l0] 6 1) (sq (r1 [gm s0,gm s6,C7 l0 l1,gm s1,aH l2 l3] 7 4) (.cond s7 (sq (r1 [gm s8,gm s0,gm s9,gm s6,gn (.slS l1 (some l2) (some l3)),gn (.bsl 1 (.str []) 1 [(0,l4)]),gn (.app 1 l0 l5),gm l6] 8 7) (r1 [gm s6,ar l0 bV,gm l1] 9 2)) .skip)))) (r1 [ar s3 bV,gm l0] 3 1))))))) (sq (r1 [gm s8,gm s0,gm s9,gn (.slS l1 (some l2) none),gn (.bsl 1 (.str []) 1 [(0,l3)]),gn (.app 1 l0 l4),gm l5] 2 6) .ret)))))⟩
def w533 {Γ:Ctx}(hm:(Γ.at 0).aY)  (s:ah)(b:Int)  (hp0:s.length≤1048576):c7 Γ yG (.sl 1 ((aj s b).map D.str)) [.str s,.int .u8 b]:=by
 show bq _ _ _ [⟨_,_⟩,⟨_,_⟩,_,_,_,_,_,_,_,_] _;refine ai ?_;refine gD ?_;intro u0;refine au ?_;refine aV hm (ι:=(Nat×Nat×List ah)) (fun p:Nat×Nat×List ah=>[⟨true,.str s⟩,⟨true,.int .u8 b⟩,.un,⟨true,.int .i64 (p.1:Nat)⟩,⟨true,.int .i64 (s.length:Nat)⟩,.un,.un,.un,⟨true,.own 0 1 0 p.2.2.length⟩,⟨true,.int .i64 (p.2.1:Nat)⟩]) (fun p=>[(0,.buf 1 (p.2.2.map D.str))]) 6 (fun p=>p.1≤s.length∧p.2.1≤p.1∧p.2.2.length≤p.1∧aj s b=p.2.2++bD b (s.drop p.1) ((s.take p.1).drop p.2.1)) (fun p=>s.length-p.1) (0,0,[]) ⟨by simp,by simp,by simp,rfl⟩ (aT.to [] ae ae (by repeat(first|exact cS.nil|refine cS.un ?_|refine cS.eq ae ?_|refine cS.nl ae ae ?_|refine cS.ni (Or.inr ⟨0,1,0,rfl⟩) ?_)) (by repeat(first|exact aL.nil|refine aL.mt ae ae ae ae ?_))) ?_;rintro⟨i,fr,acc⟩ ⟨hi,hf,ha,hr⟩;dsimp only at hi hf ha hr⊢;refine av ?_;refine ca (fun hc0=>?_) fun hc0=>?_
 ·refine kN ?_;refine wp_cond (fun hc1=>?_) (fun hc1=>?_)
  ·try simp only[fo]at hc1
   refine aI ?_;refine tZ _ _ ?_;refine cF [(.str _)] ?_;refine uI ?_;exact⟨(i+1,i+1,acc++[(s.take i).drop fr]),⟨by dsimp only;omega,by dsimp only;omega,by simp;omega,by rw[hr,wj (by omega) hc1];simp⟩,by dsimp only;omega,(aT.to [(20,0)] ae ae HQ (by refine aL.nl 20 ae ae ae cz ?_;exact aL.nil))⟩
  simp only[decide_eq_false_iff_not]at hc1;refine aQ ?_;exact⟨(i+1,fr,acc),⟨by dsimp only;omega,by dsimp only;omega,by dsimp only;omega,by rw[hr,wm (by omega) (by omega) hc1]⟩,by dsimp only;omega,(aT.to [(0,0)] ae ae HQ (by refine aL.nl 0 ae ae ae cz ?_;exact aL.nil))⟩
 refine aA ?_;refine fI _ ?_;refine cF [(.str _)] ?_;refine av ?_;refine fM 12 ?_;refine aC ?_;refine bC (?_);have hs:aj s b=acc++[s.drop fr]:=by rw[hr,uo (by omega)]
 rw[hs];exact rfl
def Ek (Γ:Ctx):Prop:=∀(s:ah)(b:Int),(s.length≤1048576)→Γ.pre 533 [.str s,.int .u8 b]∧Γ.val 533 [.str s,.int .u8 b]=.sl 1 ((aj s b).map D.str)
def sk:az:=⟨1,7,fg,bL,(sq (r1 [gm cH] 1 0) (sq (sq (rg [gm s0,lG l0,gm bc] [(3,1),(2,2)]) (.block 0 (.loop (sq (r1 [aJ s2 s3] 4 0) (sq (ek s4 0) (sq (.block 1 (sq (r1 [gm s2,gm l0] 5 1) (sq (r1 [gm s0,gm s5,C7 l0 l1,aJ l2 (i8 48),gm l3,dt 4 s0,dt 4 s5,bP 4 (.ixS l5 l6),bP 4 (cC l7 (i8 57)),dL l4 l8] 6 9) (jh s6 cH)))) (r1 [ar s2 bV,gm l0] 2 1))))))) (sq (r1 [gm s0,bZ l0 cse,gm l1] 1 2) .ret)))⟩
def w659 {Γ:Ctx}(hm:(Γ.at 0).aY)  (t:ah)   :c7 Γ sk (.bool (dD t)) [.str t]:=by
 show bq _ _ _ [⟨_,_⟩,_,_,_,_,_,_] _;refine ai ?_;refine aA ?_;intro u0;refine au ?_;refine aV hm (ι:=Nat) (fun i=>[⟨true,.str t⟩,.un,⟨true,.int .i64 (i:Nat)⟩,⟨true,.int .i64 (t.length:Nat)⟩,.un,.un,.un]) (fun i=>[]) 4 (fun i=>i≤t.length∧bJ (fun i=>aX (at8 t i)) 0 t.length=bJ (fun i=>aX (at8 t i)) i t.length) (fun i=>t.length-i) 0 ⟨by omega,rfl⟩ (cI []) ?_;rintro i ⟨hi,hr⟩;refine av ?_;refine ca (fun hc0=>?_) fun hc0=>?_
 ·refine IX ?_;refine eW (fun hc1=>?_) fun hc1=>?_
  ·refine aA ?_;refine bp ?_;simp only[dD];rw[hr,aD (by omega)];rcases hc1 with h|h<;>simp[aX]<;>omega
  refine aQ ?_;exact⟨i+1,⟨by omega,by rw[hr,aD (by omega)];rw[show aX (at8 t i)=true by simp only[aX,Bool.and_eq_true,decide_eq_true_eq];omega];rfl⟩,by omega,(cI [])⟩
 refine bt ?_;refine bp ?_;simp only[dD];rw[hr,bA (by omega)];cases t<;>simp
def L3 (Γ:Ctx):Prop:=∀(t:ah),Γ.pre 659 [.str t]∧Γ.val 659 [.str t]=.bool (dD t)
def xR:az:=⟨1,2,fg,bL,(sq (r1 [gm cH] 1 0) (sq (r1 [gm s0,fD l0 bc,gm l1,gmt 2 s0,bR 2 (kS l3 (i6 9999)),dG l2 l4,gm l5] 1 6) .ret))⟩
def w440 {Γ:Ctx}(hm:(Γ.at 0).aY)  (n:Int)   :c7 Γ xR (.bool (ko n)) [.int .i64 n]:=by
 show bq _ _ _ [⟨_,_⟩,_] _;refine ai ?_;refine gD ?_;exact bp rfl
def LA (Γ:Ctx):Prop:=∀(n:Int),Γ.pre 440 [.int .i64 n]∧Γ.val 440 [.int .i64 n]=.bool (ko n)
def uA:az:=⟨2,9,[⟨2,none⟩,⟨3,none⟩],gL,(sq (rg [gm cse,gm cse] [(2,0),(3,1)]) (sq (sq (rg [gm s0,lG l0,gm bc] [(5,1),(4,2)]) (.block 0 (.loop (sq (r1 [aJ s4 s5] 6 0) (sq (ek s6 0) (sq (.block 1 (sq (r1 [gm s4,gm l0] 7 1) (sq (r1 [gm s0,gm s7,C7 l0 l1,gm s1,aH l2 l3] 8 4) (.cond s8 (sq (rt [gm s0,gm s7,ar l1 bV,gn (.slS l0 (some l2) none),gm s0,gm s7,gn (.slS l4 none (some l5)),gm l3,gm l6] [(2,7),(3,8)]) .ret) .skip)))) (r1 [ar s4 bV,gm l0] 4 1))))))) (sq (rg [gm s0,gm cse,gm l0] [(2,1),(3,2)]) .ret)))⟩
def w675 {Γ:Ctx}(hm:(Γ.at 0).aY)  (s:ah)(b:Int)   :c7 Γ uA (.tup [.str (ep s b).1,.str (ep s b).2]) [.str s,.int .u8 b]:=by
 show bq _ _ _ [⟨_,_⟩,⟨_,_⟩,_,_,_,_,_,_,_] _;refine ai ?_;refine aQ ?_;intro u0;refine au ?_;refine aV hm (ι:=Nat) (fun i=>[⟨true,.str s⟩,⟨true,.int .u8 b⟩,.un,.un,⟨true,.int .i64 (i:Nat)⟩,⟨true,.int .i64 (s.length:Nat)⟩,.un,.un,.un]) (fun i=>[]) 5 (fun i=>i≤s.length∧ep s b=je s b i) (fun i=>s.length-i) 0 ⟨by omega,rfl⟩ (cI []) ?_;rintro i ⟨hi,hr⟩;refine av ?_;refine ca (fun hc0=>?_) fun hc0=>?_
 ·refine kN ?_;refine eW (fun hc1=>?_) fun hc1=>?_
  ·refine ax ?_;refine fI (i+1) ?_;refine au ?_;refine lX _ ?_;refine aA ?_;refine bC (aE (congrArg D.str ?_) (congrArg D.str ?_));all_goals rw[hr,Al (by omega) hc1]
  refine aQ ?_;exact⟨i+1,⟨by omega,by rw[hr,Am (by omega) hc1]⟩,by omega,(cI [])⟩
 refine bt ?_;refine bC (aE (congrArg D.str ?_) (congrArg D.str ?_));all_goals rw[hr,yo (by omega)]
def Mb (Γ:Ctx):Prop:=∀(s:ah)(b:Int),Γ.pre 675 [.str s,.int .u8 b]∧Γ.val 675 [.str s,.int .u8 b]=.tup [.str (ep s b).1,.str (ep s b).2]
def xS:az:=⟨1,15,fg,bL,(sq (r1 [gm cH] 1 0) (sq (r1 [gm s0,gx 533 [l0,(i8 46)] gL,gm l1] 2 2) (sq (r1 [gm s2,gl l0,xj l1 tl,gm l2] 14 3) (sq .skip (sq (sq (rg [gm s2,gl l0,gm bc] [(6,0),(4,1),(3,2)]) (.block 0 (.loop (sq (r1 [aJ s3 s4] 5 0) (sq (ek s5 0) (sq (.block 1 (sq (r1 [ga 1 s6 s3,gd l0,gm l1] 7 2) (sq (sq (r1 [gm s7,aH l0 cse,gm l1,dt 2 s7,bP 2 (.lenS l3),bP 2 (cC l4 AB),dL l2 l5] 8 6) (.cond s8 (sq (r1 [gm cH] 14 0) (.exit 0)) .skip)) (sq (r1 [gm s7,gn (.rng l0)] 9 1) (.block 2 (.loop (sq (rg [gn (.uN s9),ge l0 0] [(11,0),(10,1)]) (sq (ek jR 2) (.block 3 (sq (r1 [ge lf 2,gm l0] 12 1) (sq (r1 [gm lE,aJ l0 (i3 97),gm l1,dt 2 lE,bP 2 (cC l3 (i3 122)),dL l2 l4,gm l5,gmt 6 lE,bR 6 (pK l7 (i3 48)),gmt 6 l8,dt 9 lE,bP 9 (cC l10 (i3 57)),J0 6 l9 gh,dG l6 iq,gm jD,gmt 14 lE,bR 14 (eF lz (i3 45)),dG jZ mw] 13 17) (.cond oO (sq (r1 [gm cH] 14 0) (.exit 0)) .skip)))))))))))) (r1 [ar s3 bV,gm l0] 3 1))))))) (sq (r1 [gm rL,gm l0] 1 1) .ret))))))⟩
def w442 {Γ:Ctx}(hm:(Γ.at 0).aY)(h533:Ek Γ)(s:ah)  (hp0:s.length≤1048576):c7 Γ xS (.bool (jS s false)) [.str s]:=by
 show bq _ _ _ [⟨_,_⟩,_,_,_,_,_,_,_,_,_,_,_,_,_,_] _;refine ai ?_;refine ax ?_;refine ak (hc:=h533 _ _ ?_) ?_;rotate_left;first|assumption|omega;have hlen:=cG s 46
 refine aI ?_;intro u0;refine bt ?_;intro u1;refine au ?_;refine aV hm (ι:=Nat) (fun i=>[.un,.un,⟨true,.sl 1 ((aj s 46).map D.str)⟩,⟨true,.int .i64 (i:Nat)⟩,⟨true,.int .i64 ((aj s 46).length:Nat)⟩,.un,⟨true,.sl 1 ((aj s 46).map D.str)⟩,.un,.un,.un,.un,.un,.un,.un,⟨true,.bool (decide (((aj s 46).length:Int)≤4))⟩]) (fun i=>[]) 11 (fun i=>i≤(aj s 46).length∧jS s false=(decide ((aj s 46).length≤4)&&bJ (fun i=>eV false (aj s 46)[i]!) i (aj s 46).length)) (fun i=>(aj s 46).length-i) 0 ⟨by omega,rfl⟩ (cI []) ?_;rintro i ⟨hi,hr⟩;refine av ?_;refine ca (fun hc0=>?_) fun hc0=>?_
 ·refine cB ?_;generalize ht:(aj s 46)[i]! =t;refine ax ?_;refine hX ?_;refine av ?_;refine ca (fun hc1=>?_) fun hc1=>?_
  ·refine gD ?_;refine bp ?_;first
    |(rw[hr,bA (by omega),Bool.and_true];exact decide_eq_decide.2 (by omega))
    |(have hb:mU t=false:=by
       first
       |(simp only[mU];rcases hc1 with h|h
         ·subst h;simp
         ·rw[decide_eq_false (by omega:¬t.length≤8)];simp)
       |(have hz:kf (at8 t j)=false:=by
          rcases hcw with⟨_,h,_⟩|⟨_,h⟩<;>(simp only[kf,fC,aX,Bool.or_eq_false_iff,Bool.and_eq_false_iff,decide_eq_false_iff_not];omega)
         rw[hj,aD hnx,hz];rfl)
      rw[hr,aD (by omega),show eV false (aj s 46)[i]! =false from(by simp only[eV,ht,hb,Bool.false_and])];simp)
  refine aI ?_;have hT:mU t=bJ (fun i=>kf (at8 t i)) 0 t.length:=by
   have:=List.length_pos_iff.2 hc1.1;simp only[mU];rw[decide_eq_true (by omega),decide_eq_true (by omega)];rfl
  refine ll hm (ι:=Nat) (fun j=>[.un,.un,⟨true,.sl 1 ((aj s 46).map D.str)⟩,⟨true,.int .i64 (i:Nat)⟩,⟨true,.int .i64 ((aj s 46).length:Nat)⟩,.un,⟨true,.sl 1 ((aj s 46).map D.str)⟩,.un,.un,⟨true,.it 23⟩,.un,.un,.un,.un,⟨true,.bool (decide (((aj s 46).length:Int)≤4))⟩]) (fun j=>[(23,.iter t j)]) 24 (fun j=>j≤t.length∧mU t=bJ (fun i=>kf (at8 t i)) j t.length) (fun j=>t.length-j) 0 ⟨by omega,hT⟩ (cI [(23,23)]) ?_;rintro j ⟨hj0,hj⟩;refine aC ?_;by_cases hnx:j<t.length
  ·obtain⟨c,w,hdec,hw,hcw⟩:=pR t j hnx;refine xt c w (hp:=hnx) (hc:=hdec) ?_;refine au ?_;refine aq (t:=true) (fun _=>?_) (fun h=>by cases h);refine OO ?_;refine eW (fun hc3=>?_) fun hc3=>?_
   ·refine kN ?_;refine bp ?_;first
     |(rw[hr,bA (by omega),Bool.and_true];exact decide_eq_decide.2 (by omega))
     |(have hb:mU t=false:=by
        first
        |(simp only[mU];rcases hc1 with h|h
          ·subst h;simp
          ·rw[decide_eq_false (by omega:¬t.length≤8)];simp)
        |(have hz:kf (at8 t j)=false:=by
           rcases hcw with⟨_,h,_⟩|⟨_,h⟩<;>(simp only[kf,fC,aX,Bool.or_eq_false_iff,Bool.and_eq_false_iff,decide_eq_false_iff_not];omega)
          rw[hj,aD hnx,hz];rfl)
       rw[hr,aD (by omega),show eV false (aj s 46)[i]! =false from(by simp only[eV,ht,hb,Bool.false_and])];simp)
   refine av ?_;obtain⟨rfl,hat,-⟩:w=1∧(c:Int)=at8 t j∧c<128:=by
    rcases hcw with h|h
    ·exact h
    ·omega
   have hz:kf (at8 t j)=true:=by
    simp only[kf,fC,aX,Bool.or_eq_true,Bool.and_eq_true,decide_eq_true_eq];omega
   exact⟨j+1,⟨by omega,by rw[hj,aD hnx,hz];rfl⟩,by omega,(cI [(23,23)])⟩
  ·refine xr (hp:=hnx) ?_;refine au ?_;refine aq (t:=false) (fun h=>by cases h) (fun _=>?_);refine bt ?_;exact⟨i+1,⟨by omega,by rw[hr,aD (by omega)];rw[show eV false (aj s 46)[i]! =true from(by simp only[eV,Bool.false_and,Bool.not_false,Bool.and_true];rw[ht,hj,bA (by omega)])];rfl⟩,by omega,(cI [])⟩
 refine aQ ?_;refine bp ?_;first
  |(rw[hr,bA (by omega),Bool.and_true];exact decide_eq_decide.2 (by omega))
  |(have hb:mU t=false:=by
     first
     |(simp only[mU];rcases hc1 with h|h
       ·subst h;simp
       ·rw[decide_eq_false (by omega:¬t.length≤8)];simp)
     |(have hz:kf (at8 t j)=false:=by
        rcases hcw with⟨_,h,_⟩|⟨_,h⟩<;>(simp only[kf,fC,aX,Bool.or_eq_false_iff,Bool.and_eq_false_iff,decide_eq_false_iff_not];omega)
       rw[hj,aD hnx,hz];rfl)
    rw[hr,aD (by omega),show eV false (aj s 46)[i]! =false from(by simp only[eV,ht,hb,Bool.false_and])];simp)
def I4 (Γ:Ctx):Prop:=∀(s:ah),(s.length≤1048576)→Γ.pre 442 [.str s]∧Γ.val 442 [.str s]=.bool (jS s false)
end Go.Abs
end
section
namespace Go.Abs
open Go
def Lz (Γ:Ctx):Prop:=∀(n:Int),(0≤n∧n≤9999)→Γ.pre 336 [.int .i64 n]∧Γ.val 336 [.int .i64 n]=.str (cP n.toNat)
def GO (Γ:Ctx):Prop:=∀(l:List ah)(sep:ah),(l.length≤1048600)→(sep.length≤4)→(∀t∈l,t.length≤2097200)→Γ.pre 242 [.sl 1 (l.map D.str),.str sep]∧Γ.val 242 [.sl 1 (l.map D.str),.str sep]=.str (aO sep l)
def Eh (Γ:Ctx):Prop:=∀(s:ah)(b:UInt8),(s.length≤1048576)→Γ.pre 124 [.str s,.str [b]]∧Γ.val 124 [.str s,.str [b]]=.sl 1 ((aj s b.toNat).map D.str)
def LY (Γ:Ctx):Prop:=∀(s:ah)(b:UInt8),(s.length≤1048576)→Γ.pre 487 [.str s,.str [b]]∧Γ.val 487 [.str s,.str [b]]=.tup [.str (eD s b).1,.str (eD s b).2.1,.bool (eD s b).2.2]
def Lx (Γ:Ctx):Prop:=∀(s:ah)(p:ah),(s.length≤1048576)→(p.length≤1048576)→Γ.pre 254 [.str s,.str p]∧Γ.val 254 [.str s,.str p]=.tup [.str (dq s p).1,.bool (dq s p).2]
end Go.Abs
end
section
namespace Go.Abs
open Go
def zN:az:=⟨1,10,fg,bL,(sq (r1 [gm cH] 1 0) (sq (sq (r1 [gm s0,gx 442 [l0] bL,iR l1] 2 2) (jh s2 cH)) (sq (sq (rg [gm s0,gx 533 [l0,(i8 46)] gL,gl l1,gm bc] [(6,1),(4,2),(3,3)]) (.block 0 (.loop (sq (r1 [aJ s3 s4] 5 0) (sq (ek s5 0) (sq (.block 1 (sq (r1 [ga 1 s6 s3,gd l0,gm l1] 7 2) (sq (r1 [gm s7,gx 658 [l0] bL,gm l1,ge l2 0,ge l2 1,gm l3,gm l4] 8 6) (sq (r1 [gm s7,gx 659 [l0] bL,gm l1,gmt 2 s8,bR 2 (.un .not l3),dG l2 l4] 9 5) (jh s9 cH))))) (r1 [ar s3 bV,gm l0] 3 1))))))) (rU mX))))⟩
def w441 {Γ:Ctx}(hm:(Γ.at 0).aY)(h442:I4 Γ)(h533:Ek Γ)(h658:GU Γ)(h659:L3 Γ)(s:ah)  (hp0:s.length≤1048576):c7 Γ zN (.bool (jS s true)) [.str s]:=by
 show bq _ _ _ [⟨_,_⟩,_,_,_,_,_,_,_,_,_] _;refine ai ?_;refine aI ?_;refine ak (hc:=h442 _ ?_) ?_;rotate_left;first|assumption|omega
 refine au ?_;refine aq (fun hc0=>?_) (fun hc0=>?_)
 ·simp only[Bool.not_eq_true']at hc0;refine aI ?_;refine bp ?_;symm;simp only[jS]at hc0⊢;rw[Bool.and_eq_false_iff]at hc0⊢;rcases hc0 with h|h
  ·exact Or.inl h
  ·right;rw[Bool.eq_false_iff]at h⊢;intro h2;apply h;rw[dy]at h2⊢;intro j a b;have:=h2 j a b;simp only[eV,Bool.and_eq_true]at this⊢;exact⟨this.1,rfl⟩
 simp only[Bool.not_eq_false']at hc0;refine ax ?_;refine ak (hc:=h533 _ _ ?_) ?_;rotate_left;first|assumption|omega;have hlen:=cG s 46
 refine aC ?_;intro u0;refine au ?_;have hT:=hc0;simp only[jS,Bool.and_eq_true,decide_eq_true_eq]at hT;obtain⟨hT4,hTa⟩:=hT;rw[dy]at hTa;have hP:jS s true=bJ (fun i=>eV true (aj s 46)[i]!) 0 (aj s 46).length:=by
  simp only[jS];rw[decide_eq_true hT4];rfl
 refine aV hm (ι:=Nat) (fun i=>[.un,.un,.un,⟨true,.int .i64 (i:Nat)⟩,⟨true,.int .i64 ((aj s 46).length:Nat)⟩,.un,⟨true,.sl 1 ((aj s 46).map D.str)⟩,.un,.un,.un]) (fun i=>[]) 8 (fun i=>i≤(aj s 46).length∧jS s true=bJ (fun i=>eV true (aj s 46)[i]!) i (aj s 46).length) (fun i=>(aj s 46).length-i) 0 ⟨by omega,hP⟩ (cI []) ?_;rintro i ⟨hi,hr⟩;refine av ?_;refine ca (fun hc1=>?_) fun hc1=>?_
 ·refine cB ?_;refine ak (hc:=h658 _) ?_;refine bt ?_;refine ak (hc:=h659 _) ?_;refine aI ?_;refine wp_cond (fun hc2=>?_) (fun hc2=>?_)
  ·skip
   refine aA ?_;refine bp ?_;have hz:eV true (aj s 46)[i]! =false:=by
    simp only[eV];revert hc2;generalize mU (aj s 46)[i]! =c;generalize dD (aj s 46)[i]! =a;generalize ea (aj s 46)[i]! =b;cases a<;>cases b<;>cases c<;>simp
   rw[hr,aD (by omega),hz];rfl
  skip
  refine aQ ?_;have hz:eV true (aj s 46)[i]! =true:=by
   have:=hTa i (by omega) (by omega);simp only[eV,Bool.false_and,Bool.not_false,Bool.and_true]at this;simp only[eV,this];revert hc2;generalize dD (aj s 46)[i]! =a;generalize ea (aj s 46)[i]! =b;cases a<;>cases b<;>simp
  exact⟨i+1,⟨by omega,by rw[hr,aD (by omega),hz];rfl⟩,by omega,(cI [])⟩
 refine aA ?_;refine bp ?_;rw[hr,bA (by omega)]
def LB (Γ:Ctx):Prop:=∀(s:ah),(s.length≤1048576)→Γ.pre 441 [.str s]∧Γ.val 441 [.str s]=.bool (jS s true)
def zM:az:=⟨1,3,fg,bL,(sq (rg [gb 5 s0,gm cH] [(2,0),(1,1)]) (sq (r1 [gf 0 s2,gd l0,gx 440 [l1] bL,gm l2,kX 3 1 s2,jC 3 l4,bR 3 (.call 440 [l5] bL),dG l3 l6,gm l7,kX 8 2 s2,jC 8 l9,bR 8 (.call 440 [l10] bL),dG l8 gh,gm iq,kX 13 3 s2,jC 13 jZ,bR 13 (bY lz cse),gmt 13 mw,gT 17 3 s2,hJ 17 pd,bP 17 (.call 441 [qk] bL),J0 13 oC tt,dG jD uU,gm vJ,kX 23 4 s2,jC 23 zZ,bR 23 (bY BW cse),gmt 23 D8,gT 27 4 s2,hJ 27 HD,bP 27 (.call 442 [HE] bL),J0 23 GC J7,dG zY NU,gm NV] 1 33) .ret))⟩
def w209 {Γ:Ctx}(hm:(Γ.at 0).aY)(h440:LA Γ)(h441:LB Γ)(h442:I4 Γ)(v:dc)  (hp0:v.sm):c7 Γ zM (.bool (iD v)) [dc.D v]:=by
 show bq _ _ _ [⟨_,_⟩,_,_] _;refine ai ?_;refine aA ?_;refine ak (hc:=h440 _) ?_;refine av ?_;refine ak (hc:=h440 _) ?_;refine ax ?_;refine ak (hc:=h440 _) ?_;refine bt ?_;refine eK (hc:=fun hf=>h441 v.pre hp0.1) ?_;refine cB ?_;refine eK (hc:=fun hf=>h442 v.build hp0.2) ?_;refine aI ?_;exact bp rfl
def Ei (Γ:Ctx):Prop:=∀(v:dc),(v.sm)→Γ.pre 209 [dc.D v]∧Γ.val 209 [dc.D v]=.bool (iD v)
def xb:az:=⟨1,2,fg,bL,(sq (r1 [gm cse] 1 0) (sq (r1 [gm s0,gx 336 [l0] bL,gm l1] 1 2) .ret))⟩
def w665 {Γ:Ctx}(hm:(Γ.at 0).aY)(h336:Lz Γ)(n:Int)  (hp0:0≤n∧n≤9999):c7 Γ xb (.str (cP n.toNat)) [.int .i64 n]:=by
 show bq _ _ _ [⟨_,_⟩,_] _;refine ai ?_;refine ax ?_;refine ak (hc:=h336 _ ?_) ?_;rotate_left;first|assumption|omega
 refine av ?_;exact b8 rfl
def Ji (Γ:Ctx):Prop:=∀(n:Int),(0≤n∧n≤9999)→Γ.pre 665 [.int .i64 n]∧Γ.val 665 [.int .i64 n]=.str (cP n.toNat)
def vi:az:=⟨1,7,fg,bL,(sq (rg [gb 5 s0,gm cse] [(2,0),(1,1)]) (sq (sq (r1 [gk 5 true s2,gx 209 [l0] D7,iR l1] 3 2) (jh s3 cse)) (sq (r2 [gf 0 s2,gd l0,gx 665 [l1] bL,ar l2 (cs [46]),gf 1 s2,gd l4,gx 665 [l5] bL,ar l3 l6,ar l7 (cs [46]),gf 2 s2,gd l9,gx 665 [l10] bL,ar l8 gh,gm iq] 5 13) (sq (sq (r1 [gf 3 s2,gd l0,bZ l1 cse] 4 2) (.cond s4 (r1 [gm s5,gf 3 s2,gd l1,ar (cs [45]) l2,ar l0 l3,gm l4] 5 5) .skip)) (sq (sq (r1 [gf 4 s2,gd l0,bZ l1 cse] 6 2) (.cond s6 (r1 [gm s5,gf 4 s2,gd l1,ar (cs [43]) l2,ar l0 l3,gm l4] 5 5) .skip)) (sq (r1 [gm s5,gm l0] 1 1) .ret))))))⟩
def w451 {Γ:Ctx}(hm:(Γ.at 0).aY)(h209:Ei Γ)(h665:Ji Γ)(v:dc)  (hp0:v.sm):c7 Γ vi (.str (kJ v)) [dc.D v]:=by
 show bq _ _ _ [⟨_,_⟩,_,_,_,_,_,_] _;obtain⟨hs1,hs2⟩:=hp0;have hp0:v.sm:=⟨hs1,hs2⟩;refine ai ?_;refine aA ?_;refine ak (hc:=h209 _ ?_) ?_;rotate_left;first|assumption|omega
 refine au ?_;refine aq (fun hc0=>?_) (fun hc0=>?_)
 ·simp only[Bool.not_eq_true']at hc0;refine aI ?_;refine b8 ?_;simp[kJ,hc0]
 simp only[Bool.not_eq_false']at hc0;refine au ?_;have hv:=hc0;simp only[iD,Bool.and_eq_true]at hv;obtain⟨⟨⟨⟨hv1,hv2⟩,hv3⟩,_⟩,_⟩:=hv;have hq1:=hv1;have hq2:=hv2;have hq3:=hv3;simp only[ko,Bool.and_eq_true,decide_eq_true_eq]at hq1 hq2 hq3;have hl1:=dr 4 v.major.toNat (by omega) (by omega);have hl2:=dr 4 v.minor.toNat (by omega) (by omega);have hl3:=dr 4 v.patch.toNat (by omega) (by omega);refine au ?_;refine ak (hc:=h665 _ ?_) ?_;rotate_left;first|assumption|omega
 refine cA (hb:=fun _=>by simp;omega) ?_;refine au ?_;refine ak (hc:=h665 _ ?_) ?_;rotate_left;first|assumption|omega
 refine cA (hb:=fun _=>by simp;omega) ?_;refine cA (hb:=fun _=>by simp;omega) ?_;refine au ?_;refine ak (hc:=h665 _ ?_) ?_;rotate_left;first|assumption|omega
 refine cA (hb:=fun _=>by simp;omega) ?_;refine bt ?_;refine ca (fun hc1=>?_) fun hc1=>?_
 ·refine ax ?_;refine cA (hb:=fun _=>by simp;omega) ?_;refine cA (hb:=fun _=>by simp;omega) ?_;refine bt ?_;refine ca (fun hc2=>?_) fun hc2=>?_
  ·refine ax ?_;refine cA (hb:=fun _=>by simp;omega) ?_;refine cA (hb:=fun _=>by simp;omega) ?_;refine aQ ?_;refine b8 ?_;simp[kJ,ve,hc0,hc1,hc2]
  refine aA ?_;refine b8 ?_;simp[kJ,ve,hc0,hc1,hc2]
 refine aQ ?_;refine ca (fun hc2=>?_) fun hc2=>?_
 ·refine ax ?_;refine cA (hb:=fun _=>by simp;omega) ?_;refine cA (hb:=fun _=>by simp;omega) ?_;refine aQ ?_;refine b8 ?_;simp[kJ,ve,hc0,hc1,hc2]
 refine aA ?_;refine b8 ?_;simp[kJ,ve,hc0,hc1,hc2]
def I7 (Γ:Ctx):Prop:=∀(v:dc),(v.sm)→Γ.pre 451 [dc.D v]∧Γ.val 451 [dc.D v]=.str (kJ v)
def mz:az:=⟨2,4,[⟨2,none⟩],bL,(sq (r1 [gm (iu 0)] 2 0) (sq (r1 [gm s1,gn (.cvi .u64 l0),Kb l1 (iu 63),gm l2] 3 3) (sq (r1 [gm s0,gm s3,gn (.bin .shl l0 l1),gm s0,gm s3,dN (iu 64) l4,gn (.bin .shr l3 l5),IJ l2 l6,gm l7] 2 8) .ret)))⟩
def w463 {Γ:Ctx}(hm:(Γ.at 0).aY)  (h:Int)(k:Nat)  (hp0:k=13):c7 Γ mz (.int .u64 (H4 h k)) [.int .u64 h,.int .i64 (k:Nat)]:=by
 show bq _ _ _ [⟨_,_⟩,⟨_,_⟩,_,_] _;subst hp0;refine ai ?_;refine ax ?_;refine rI 13 (hb:=fun _=>by rw[IntKind.wrap_u64];rfl) ?_;refine Ks 13 (hb:=fun _=>by rw[IntKind.wrap_u64];rfl) ?_;refine aI ?_;refine IP (Gd h 13) (hb:=fun _=>by rw[show min (Int.toNat (13:Int)) (IntKind.bits .u64)=13 by simp[IntKind.bits]];rfl) ?_;refine au ?_;refine xu 51 (hb:=fun _=>by rw[IntKind.wrap_u64];rfl) ?_;refine Ch (wc h 51) (hb:=fun _=>by rw[show min (Int.toNat (51:Int)) (IntKind.bits .u64)=51 by simp[IntKind.bits]];rfl) ?_;refine IL (H4 h 13) (hb:=fun _=>rfl) ?_;refine av ?_;refine bC (congrArg (D.int .u64) ?_);rfl
def LU (Γ:Ctx):Prop:=∀(h:Int)(k:Nat),(k=13)→Γ.pre 463 [.int .u64 h,.int .i64 (k:Nat)]∧Γ.val 463 [.int .u64 h,.int .i64 (k:Nat)]=.int .u64 (H4 h k)
def Au:az:=⟨1,8,fg,bL,(sq (r1 [gm (iu 0)] 1 0) (sq (r1 [gm (iu 11400714819323198485)] 6 0) (sq (sq (rg [gm s0,gl l0,gm bc] [(5,0),(3,1),(2,2)]) (.block 0 (.loop (sq (r1 [aJ s2 s3] 4 0) (sq (ek s4 0) (sq (.block 1 (sq (r1 [ga 1 s5 s2,gd l0,gm l1] 7 2) (r1 [gm s6,gm s7,gn (.cvi .u64 l1),gn (.bin .xor l0 l2),gx 463 [l3,(i6 13)] gL,gn (.bin .mul l4 (iu 18397679294719823053)),gm l5] 6 6))) (r1 [ar s2 bV,gm l0] 2 1))))))) (sq (r1 [gm s6,gm s6,gn (.bin .shr l1 (iu 29)),gn (.bin .xor l0 l2),gm l3] 1 4) .ret))))⟩
def w220 {Γ:Ctx}(hm:(Γ.at 0).aY)(h463:LU Γ)(s:ah)   :c7 Γ Au (.int .u64 (xM s)) [.sl 1 ((s).map fun b=>D.int .u8 b.toNat)]:=by
 show bq _ _ _ [⟨_,_⟩,_,_,_,_,_,_,_] _;refine ai ?_;refine cB ?_;intro u0;refine au ?_;refine aV hm (ι:=Nat) (fun i=>[.un,.un,⟨true,.int .i64 (i:Nat)⟩,⟨true,.int .i64 (s.length:Nat)⟩,.un,⟨true,.sl 1 (s.map fun b=>D.int .u8 b.toNat)⟩,⟨true,.int .u64 (q9 (s.take i))⟩,.un]) (fun i=>[]) 5 (fun i=>i≤s.length) (fun i=>s.length-i) 0 (by omega) (cI []) ?_;intro i hi;refine av ?_;refine ca (fun hc0=>?_) fun hc0=>?_
 ·refine ax ?_;refine bQ (v:=.int .u8 (at8 s i)) (hv:=fun _=>ld8 s i) ?_;refine aI ?_;refine rI (at8 s i) (hb:=fun _=>by have:=wO s i;rw[IntKind.wrap_u64];omega) ?_;refine xq (CA (q9 (s.take i)) (at8 s i)) (hb:=fun _=>rfl) ?_;refine ak (hc:=h463 _ 13 rfl) ?_;refine FV (q9 (s.take (i+1))) (hb:=fun _=>by rw[wx s i (by omega)];rfl) ?_;refine bt ?_;exact⟨i+1,(by omega),by omega,(cI [])⟩
 refine av ?_;have ht:s.take i=s:=List.take_of_length_le (by omega);rw[ht];refine au ?_;refine Ch (wc (q9 s) 29) (hb:=fun _=>rfl) ?_;refine xq (xM s) (hb:=fun _=>rfl) ?_;refine av ?_;refine bC (congrArg (D.int .u64) ?_);rfl
def Ls (Γ:Ctx):Prop:=∀(s:ah),Γ.pre 220 [.sl 1 ((s).map fun b=>D.int .u8 b.toNat)]∧Γ.val 220 [.sl 1 ((s).map fun b=>D.int .u8 b.toNat)]=.int .u64 (xM s)
end Go.Abs
end
section
namespace Go.Abs
open Go
end Go.Abs
end
section
namespace Go.Abs
open Go
end Go.Abs
end
section
namespace Go.Abs
open Go
def Ba:az:=⟨1,4,fg,bL,(sq (r1 [gm cse] 1 0) (sq (r1 [gm s0,gn (.bin .rem l0 (iu 10)),gn (.cvi .u8 l1),ar (i8 48) l2,gn (.bsl 1 (.int .u8 0) 1 [(0,l3)]),gn (.b2s l4),gm l5] 3 6) (sq (.block 0 (.loop (sq (sq (r1 [gm s0,cg l0 (iu 9)] 2 1) (ek s2 0)) (.block 1 (sq (r1 [gm s0,gn (.bin .quo l0 (iu 10)),gm l1] 0 2) (r1 [gm s0,gn (.bin .rem l0 (iu 10)),gn (.cvi .u8 l1),ar (i8 48) l2,gn (.bsl 1 (.int .u8 0) 1 [(0,l3)]),gn (.b2s l4),gm s3,ar l5 l6,gm l7] 3 8)))))) (sq (r1 [gm s3,gm l0] 1 1) .ret))))⟩
def w882 {Γ:Ctx}(hm:(Γ.at 0).aY)  (n:Nat)  (hp0:n≤9999):c7 Γ Ba (.str (cP n)) [.int .u64 (n:Nat)]:=by
 show bq _ _ _ [⟨_,_⟩,_,_,_] _;refine ai ?_;refine ax ?_;refine IM ((n%10:Nat):Int) (hn:=by intro _;omega) (hb:=fun _=>rfl) ?_;refine rI ((n%10:Nat):Int) (hb:=fun _=>IntWalk.u8_in _ (by omega)) ?_;refine tT (((dg (n%10)).toNat:Nat):Int) (hb:=fun _=>by rw[EM (by omega)];exact IntWalk.u8_in _ (by omega)) ?_;refine cF [.int .u8 _] ?_;refine FM [dg (n%10)] (he:=fun _=>sn.all ae rfl) (hs:=fun _=>rfl) ?_;refine au ?_;have h0:cP n=(if n<10 then []else cP (n/10))++[dg (n%10)]:=by
  split
  ·rename_i h;rw[n5 h,Nat.mod_eq_of_lt h];rfl
  ·rw[n4 (by omega)]
 refine aV hm (ι:=(Nat×ah)) (fun p=>[⟨true,.int .u64 (p.1:Nat)⟩,.un,.un,⟨true,.str p.2⟩]) (fun p=>[]) 8 (fun p=>p.1≤9999∧p.2.length≤9999-p.1+1∧cP n=(if p.1<10 then []else cP (p.1/10))++p.2) (fun p=>p.1) (n,[dg (n%10)]) ⟨hp0,by simp,h0⟩ (cI []) ?_;rintro⟨k,s⟩ ⟨hk,hs,hr⟩;dsimp only at hk hs hr⊢;refine aI ?_;refine ca (fun hc0=>?_) fun hc0=>?_
 ·refine ax ?_;refine Oa ((k/10:Nat):Int) (hn:=by intro _;omega) (hb:=fun _=>by rw[show((k:Int).tdiv 10)=((k/10:Nat):Int)from rfl,IntKind.wrap_u64];omega) ?_;refine ax ?_;refine IM (((k/10)%10:Nat):Int) (hn:=by intro _;omega) (hb:=fun _=>rfl) ?_;refine rI (((k/10)%10:Nat):Int) (hb:=fun _=>IntWalk.u8_in _ (by omega)) ?_;refine tT (((dg ((k/10)%10)).toNat:Nat):Int) (hb:=fun _=>by rw[EM (by omega)];exact IntWalk.u8_in _ (by omega)) ?_;refine cF [.int .u8 _] ?_;refine FM [dg ((k/10)%10)] (he:=fun _=>sn.all ae rfl) (hs:=fun _=>rfl) ?_;refine aC ?_;refine cA (hb:=fun _=>by simp;omega) ?_;refine ax ?_;have h1:cP n=(if k/10<10 then []else cP (k/10/10))++([dg (k/10%10)]++s):=by
   rw[hr,if_neg (by omega)];split
   ·rename_i h;rw[n5 h,Nat.mod_eq_of_lt h];rfl
   ·rw[n4 (by omega),List.append_assoc]
  exact⟨(k/10,[dg (k/10%10)]++s),⟨by dsimp only;omega,by simp;omega,h1⟩,by dsimp only;omega,(cI [])⟩
 refine aQ ?_;refine b8 ?_;rw[hr,if_pos (by omega)];rfl
def Mp (Γ:Ctx):Prop:=∀(n:Nat),(n≤9999)→Γ.pre 882 [.int .u64 (n:Nat)]∧Γ.val 882 [.int .u64 (n:Nat)]=.str (cP n)
def zo:az:=⟨1,3,fg,bL,(sq (r1 [gm cse] 1 0) (sq (sq (r1 [gm s0,aJ l0 bc] 2 1) (.cond s2 (sq (r1 [gm s0,ar l0 bV,gn (.un .neg l1),gn (.cvi .u64 l2),ar l3 (iu 1),gx 882 [l4] bL,ar (cs [45]) l5,gm l6] 1 7) .ret) .skip)) (sq (r1 [gm s0,gn (.cvi .u64 l0),gx 882 [l1] bL,gm l2] 1 3) .ret)))⟩
def w734 {Γ:Ctx}(hm:(Γ.at 0).aY)(h882:Mp Γ)(n:Int)  (hp0:0≤n∧n≤9999):c7 Γ zo (.str (cP n.toNat)) [.int .i64 n]:=by
 show bq _ _ _ [⟨_,_⟩,_,_] _;refine ai ?_;refine aQ ?_;refine ca (fun hc0=>?_) fun hc0=>?_
 ·omega
 refine au ?_;obtain⟨k,rfl⟩:∃k:Nat,n=k:=⟨n.toNat,by omega⟩
 refine aC ?_;refine rI (k:Int) (hb:=fun _=>by rw[IntKind.wrap_u64];omega) ?_;refine ak (hc:=h882 _ ?_) ?_;rotate_left;first|assumption|omega
 refine av ?_;exact b8 rfl
def Jp (Γ:Ctx):Prop:=∀(n:Int),(0≤n∧n≤9999)→Γ.pre 734 [.int .i64 n]∧Γ.val 734 [.int .i64 n]=.str (cP n.toNat)
def A8:az:=⟨2,8,[⟨2,none⟩],[[.sl 1 [.a]]],(sq (r1 [gm (.c (.aF))] 2 0) (sq (r1 [gm (.c (.aF))] 6 0) (sq (r1 [gm bc] 7 0) (sq (sq (r1 [gm bc] 3 0) (.block 0 (.loop (sq (sq (r1 [gm s3,gm s0,lG l1,aJ l0 l2] 4 3) (ek s4 0)) (sq (.block 1 (sq (r1 [gm s0,gm s3,C7 l0 l1,gm s1,aH l2 l3] 5 4) (.cond s5 (sq (r1 [gm s6,gm s0,gm s7,gm s3,gn (.slS l1 (some l2) (some l3)),gn (.bsl 1 (.str []) 1 [(0,l4)]),gn (.app 1 l0 l5),gm l6] 6 7) (r1 [gm s3,ar l0 bV,gm l1] 7 2)) .skip))) (r1 [gm s3,ar l0 bV,gm l1] 3 2)))))) (sq (r1 [gm s6,gm s0,gm s7,gn (.slS l1 (some l2) none),gn (.bsl 1 (.str []) 1 [(0,l3)]),gn (.app 1 l0 l4),gm l5] 2 6) .ret)))))⟩
def w470 {Γ:Ctx}(hm:(Γ.at 0).aY)  (s:ah)(b:Int)  (hp0:s.length≤1048576):c7 Γ A8 (.sl 1 ((aj s b).map D.str)) [.str s,.int .u8 b]:=by
 show bq _ _ _ [⟨_,_⟩,⟨_,_⟩,_,_,_,_,_,_] _;refine ai ?_;refine gD ?_;refine aV hm (ι:=(Nat×Nat×List ah)) (fun p:Nat×Nat×List ah=>[⟨true,.str s⟩,⟨true,.int .u8 b⟩,.un,⟨true,.int .i64 (p.1:Nat)⟩,.un,.un,⟨true,.own 0 1 0 p.2.2.length⟩,⟨true,.int .i64 (p.2.1:Nat)⟩]) (fun p=>[(0,.buf 1 (p.2.2.map D.str))]) 4 (fun p=>p.1≤s.length∧p.2.1≤p.1∧p.2.2.length≤p.1∧aj s b=p.2.2++bD b (s.drop p.1) ((s.take p.1).drop p.2.1)) (fun p=>s.length-p.1) (0,0,[]) ⟨by simp,by simp,by simp,rfl⟩ (aT.to [] ae ae (by repeat(first|exact cS.nil|refine cS.un ?_|refine cS.eq ae ?_|refine cS.nl ae ae ?_|refine cS.ni (Or.inr ⟨0,1,0,rfl⟩) ?_)) (by repeat(first|exact aL.nil|refine aL.mt ae ae ae ae ?_))) ?_;rintro⟨i,fr,acc⟩ ⟨hi,hf,ha,hr⟩;dsimp only at hi hf ha hr⊢;refine aI ?_;intro u0;refine au ?_;refine ca (fun hc0=>?_) fun hc0=>?_
 ·refine cB ?_;refine wp_cond (fun hc1=>?_) (fun hc1=>?_)
  ·try simp only[fo]at hc1
   refine aI ?_;refine tZ _ _ ?_;refine cF [(.str _)] ?_;refine uJ ?_;exact⟨(i+1,i+1,acc++[(s.take i).drop fr]),⟨by dsimp only;omega,by dsimp only;omega,by simp;omega,by rw[hr,wj (by omega) hc1];simp⟩,by dsimp only;omega,(aT.to [(19,0)] ae ae HQ (by refine aL.nl 19 ae ae ae cz ?_;exact aL.nil))⟩
  simp only[decide_eq_false_iff_not]at hc1;refine bt ?_;exact⟨(i+1,fr,acc),⟨by dsimp only;omega,by dsimp only;omega,by dsimp only;omega,by rw[hr,wm (by omega) (by omega) hc1]⟩,by dsimp only;omega,(aT.to [(0,0)] ae ae HQ (by refine aL.nl 0 ae ae ae cz ?_;exact aL.nil))⟩
 refine aA ?_;refine fI _ ?_;refine cF [(.str _)] ?_;refine av ?_;refine fM 13 ?_;refine aC ?_;refine bC (?_);have hs:aj s b=acc++[s.drop fr]:=by rw[hr,uo (by omega)]
 rw[hs];exact rfl
def CB (Γ:Ctx):Prop:=∀(s:ah)(b:Int),(s.length≤1048576)→Γ.pre 470 [.str s,.int .u8 b]∧Γ.val 470 [.str s,.int .u8 b]=.sl 1 ((aj s b).map D.str)
end Go.Abs
end
section
namespace Go.Abs
open Go
def FY:az:=⟨1,2,fg,bL,(sq (r1 [gm cH] 1 0) (sq (r1 [gm s0,fD l0 (i8 97),gm l1,gmt 2 s0,bR 2 (kS l3 (i8 122)),dG l2 l4,gm l5] 1 6) .ret))⟩
def w453 {Γ:Ctx}(hm:(Γ.at 0).aY)  (c:Int)   :c7 Γ FY (.bool (fC c)) [.int .u8 c]:=by
 show bq _ _ _ [⟨_,_⟩,_] _;refine ai ?_;refine gD ?_;exact bp rfl
def I9 (Γ:Ctx):Prop:=∀(c:Int),Γ.pre 453 [.int .u8 c]∧Γ.val 453 [.int .u8 c]=.bool (fC c)
def A9:az:=⟨1,2,fg,bL,(sq (r1 [gm cH] 1 0) (sq (r1 [gm s0,fD l0 (i8 48),gm l1,gmt 2 s0,bR 2 (kS l3 (i8 57)),dG l2 l4,gm l5] 1 6) .ret))⟩
def w454 {Γ:Ctx}(hm:(Γ.at 0).aY)  (c:Int)   :c7 Γ A9 (.bool (aX c)) [.int .u8 c]:=by
 show bq _ _ _ [⟨_,_⟩,_] _;refine ai ?_;refine gD ?_;exact bp rfl
def GQ (Γ:Ctx):Prop:=∀(c:Int),Γ.pre 454 [.int .u8 c]∧Γ.val 454 [.int .u8 c]=.bool (aX c)
def DG:az:=⟨1,6,fg,bL,(sq (r1 [gm cH] 1 0) (sq (sq (r1 [gm s0,lG l0,aJ l1 bV,gm l2,dt 3 s0,bP 3 (.lenS l4),bP 3 (cC l5 (i6 12)),dL l3 l6] 2 7) (jh s2 cH)) (sq (sq (r1 [gm bc] 3 0) (.block 0 (.loop (sq (sq (r1 [gm s3,gm s0,lG l1,aJ l0 l2] 4 3) (ek s4 0)) (sq (.block 1 (sq (r1 [gm s0,gm s3,C7 l0 l1,gx 453 [l2] bL,iR l3,gm l4,gmt 5 s0,gmt 5 s3,bR 5 (.ixS l6 l7),bR 5 (.call 454 [l8] bL),bR 5 (.un .not l9),dG l5 l10,gm gh,gmt 12 s0,gmt 12 s3,bR 12 (.ixS jD jZ),bR 12 (eF lz (i8 95)),dG iq mw] 5 17) (jh s5 cH))) (r1 [gm s3,ar l0 bV,gm l1] 3 2)))))) (rU mX))))⟩
def w357 {Γ:Ctx}(hm:(Γ.at 0).aY)(h453:I9 Γ)(h454:GQ Γ)(s:ah)   :c7 Γ DG (.bool (bI s)) [.str s]:=by
 show bq _ _ _ [⟨_,_⟩,_,_,_,_,_] _;refine ai ?_;refine aA ?_;intro u0;refine av ?_;refine hX ?_;refine av ?_;refine ca (fun hc0=>?_) fun hc0=>?_
 ·refine aI ?_;refine bp ?_;symm;simp only[bI,Bool.and_eq_false_iff,decide_eq_false_iff_not];exact Or.inl (by omega)
 refine aI ?_;refine aV hm (ι:=Nat) (fun i=>[⟨true,.str s⟩,.un,.un,⟨true,.int .i64 (i:Nat)⟩,.un,.un]) (fun i=>[]) 10 (fun i=>i≤s.length∧bI s=bJ (fun i=>uB (at8 s i)) i s.length) (fun i=>s.length-i) 0 ⟨by omega,by simp only[bI];rw[decide_eq_true (by omega),decide_eq_true (by omega)];rfl⟩ (cI []) ?_;rintro i ⟨hi,hr⟩;refine aI ?_;intro u1;refine au ?_;refine ca (fun hc1=>?_) fun hc1=>?_
 ·refine aA ?_;refine ak (hc:=h453 _) ?_;refine aI ?_;refine ak (hc:=h454 _) ?_;refine cB ?_;refine eW (fun hc2=>?_) fun hc2=>?_
  ·refine aA ?_;refine bp ?_;rw[hr,aD (by omega)];simp[uB,hc2]
  refine bt ?_;exact⟨i+1,⟨by omega,by rw[hr,aD (by omega)];simp[uB,hc2]⟩,by omega,(cI [])⟩
 refine aA ?_;refine bp ?_;rw[hr,bA (by omega)]
def Ab (Γ:Ctx):Prop:=∀(s:ah),Γ.pre 357 [.str s]∧Γ.val 357 [.str s]=.bool (bI s)
def DF:az:=⟨1,6,fg,bL,(sq (r1 [gm cH] 1 0) (sq (sq (r1 [gm s0,lG l0,aJ l1 bV,gm l2,dt 3 s0,bP 3 (.lenS l4),bP 3 (cC l5 (i6 16)),dL l3 l6,gm l7,dt 8 s0,bP 8 (.ixS l9 bc),bP 8 (.call 453 [l10] bL),bP 8 (.un .not gh),dL l8 iq,gm jD,dt 14 s0,dt 14 s0,bP 14 (.lenS mw),bP 14 (hZ oC bV),bP 14 (.ixS lz pd),bP 14 (bY qk (i8 45)),dL jZ tt] 2 21) (jh s2 cH)) (sq (sq (r1 [gm bV] 3 0) (.block 0 (.loop (sq (sq (r1 [gm s3,gm s0,lG l1,aJ l0 l2] 4 3) (ek s4 0)) (sq (.block 1 (sq (r1 [gm s0,gm s3,C7 l0 l1,gx 453 [l2] bL,iR l3,gm l4,gmt 5 s0,gmt 5 s3,bR 5 (.ixS l6 l7),bR 5 (.call 454 [l8] bL),bR 5 (.un .not l9),dG l5 l10,gm gh,gmt 12 s0,gmt 12 s3,bR 12 (.ixS jD jZ),bR 12 (eF lz (i8 45)),dG iq mw,gm oC,dt 18 s0,dt 18 s3,bP 18 (.ixS qk tt),bP 18 (bY uU (i8 45)),dt 18 vJ,gmt 23 s0,gmt 23 s3,bR 23 (hZ BW bV),bR 23 (.ixS zZ D8),bR 23 (bY GC (i8 45)),yD 18 zY HD,dL pd HE] 5 30) (jh s5 cH))) (r1 [gm s3,ar l0 bV,gm l1] 3 2)))))) (rU mX))))⟩
def w216 {Γ:Ctx}(hm:(Γ.at 0).aY)(h453:I9 Γ)(h454:GQ Γ)(s:ah)   :c7 Γ DF (.bool (ey s)) [.str s]:=by
 show bq _ _ _ [⟨_,_⟩,_,_,_,_,_] _;refine ai ?_;refine aA ?_;intro u0;refine av ?_;refine hX ?_;refine ax ?_;refine lW 0 ?_;refine ak (hc:=h453 _) ?_;refine aI ?_;refine hX ?_;refine aC ?_;refine lW (s.length-1) ?_;refine av ?_;refine ca (fun hc0=>?_) fun hc0=>?_
 ·refine aI ?_;refine bp ?_;symm;simp only[ey];rcases hc0 with(h|h)|h
  ·rcases h with h|h<;>simp<;>omega
  ·simp[h]
  ·simp[h]
 refine aI ?_;refine aV hm (ι:=Nat) (fun i=>[⟨true,.str s⟩,.un,.un,⟨true,.int .i64 (i:Nat)⟩,.un,.un]) (fun i=>[]) 24 (fun i=>i≤s.length∧1≤i∧ey s=bJ (K0 s) i s.length) (fun i=>s.length-i) 1 ⟨by omega,by omega,by simp only[ey];rw[decide_eq_true (by omega),decide_eq_true (by omega),hc0.1.2,decide_eq_false hc0.2];rfl⟩ (cI []) ?_;rintro i ⟨hi,hi1,hr⟩;refine aI ?_;intro u1;refine au ?_;refine ca (fun hc1=>?_) fun hc1=>?_
 ·refine aA ?_;refine ak (hc:=h453 _) ?_;refine aI ?_;refine ak (hc:=h454 _) ?_;refine uL ?_;refine lW (i-1) ?_;refine ax ?_;refine eW (fun hc2=>?_) fun hc2=>?_
  ·refine aA ?_;refine bp ?_;rw[hr,aD (by omega)];simp only[K0];revert hc2;generalize fC (at8 s i)=x;generalize aX (at8 s i)=y;by_cases h1:at8 s i=45<;>by_cases h2:at8 s (i-1)=45<;>cases x<;>cases y<;>simp_all
  refine bt ?_;exact⟨i+1,⟨by omega,by omega,by rw[hr,aD (by omega)];simp only[K0];revert hc2;generalize fC (at8 s i)=x;generalize aX (at8 s i)=y;by_cases h1:at8 s i=45<;>by_cases h2:at8 s (i-1)=45<;>cases x<;>cases y<;>simp_all⟩,by omega,(cI [])⟩
 refine aA ?_;refine bp ?_;rw[hr,bA (by omega)]
def Ej (Γ:Ctx):Prop:=∀(s:ah),Γ.pre 216 [.str s]∧Γ.val 216 [.str s]=.bool (ey s)
def zp:az:=⟨1,9,[⟨1,none⟩,⟨2,none⟩],gL,(sq (rg [gm bc,gm cH] [(1,0),(2,1)]) (sq (sq (r1 [gm s0,lG l0,aJ l1 bV,gm l2,dt 3 s0,bP 3 (.lenS l4),bP 3 (cC l5 Db),dL l3 l6,gm l7,dt 8 s0,bP 8 (.lenS l9),bP 8 (cC l10 bV),dt 8 gh,gmt 12 s0,bR 12 (.ixS jD bc),bR 12 (bY jZ (i8 48)),yD 8 iq lz,dL l8 mw] 3 17) (.cond s3 (sq (rg [gm bc,gm cH] [(1,0),(2,1)]) .ret) .skip)) (sq (r1 [gm bc] 7 0) (sq (sq (r1 [gm bc] 4 0) (.block 0 (.loop (sq (sq (r1 [gm s4,gm s0,lG l1,aJ l0 l2] 5 3) (ek s5 0)) (sq (.block 1 (sq (sq (r1 [gm s0,gm s4,C7 l0 l1,gx 454 [l2] bL,iR l3] 6 4) (.cond s6 (sq (rg [gm bc,gm cH] [(1,0),(2,1)]) .ret) .skip)) (r1 [gm s7,gn (.bin .mul l0 (i6 10)),gm s0,gm s4,C7 l2 l3,dN l4 (i8 48),gn (.cvi .i64 l5),ar l1 l6,gm l7] 7 8))) (r1 [gm s4,ar l0 bV,gm l1] 4 2)))))) (sq (sq (r1 [gm s7,cg l0 (i6 9999)] 8 1) (.cond s8 (sq (rg [gm bc,gm cH] [(1,0),(2,1)]) .ret) .skip)) (sq (rg [gm s7,gm l0,gm mX] [(1,1),(2,2)]) .ret))))))⟩
def w667 {Γ:Ctx}(hm:(Γ.at 0).aY)(h454:GQ Γ)(s:ah)   :c7 Γ zp (.tup [.int .i64 (dm s),.bool (ea s)]) [.str s]:=by
 show bq _ _ _ [⟨_,_⟩,_,_,_,_,_,_,_,_] _;refine ai ?_;refine aQ ?_;intro u0;refine av ?_;refine hX ?_;refine ax ?_;refine hX ?_;refine av ?_;refine lW 0 ?_;refine ax ?_;refine ca (fun hc0=>?_) fun hc0=>?_
 ·refine aA ?_;refine bC (aE (congrArg (D.int .i64) ?_) (congrArg D.bool ?_));all_goals
   have:ea s=false:=by
    simp only[ea];rcases hc0 with(h|h)|h
    ·rw[decide_eq_false (by omega:¬1≤s.length)];rfl
    ·rw[decide_eq_false (by omega:¬s.length≤9)];simp
    ·rw[decide_eq_true (by omega:1<s.length),decide_eq_true h.2];simp
   simp[dm,this]
 refine bt ?_;have hP:ea s=(bJ (fun i=>aX (at8 s i)) 0 s.length&&decide (dn s≤9999)):=by
  simp only[ea];rw[decide_eq_true (by omega:1≤s.length),decide_eq_true (by omega:s.length≤9)];rcases hc0.2 with h|h
  ·rw[decide_eq_false (by omega:¬1<s.length)];rfl
  ·rw[decide_eq_false h,Bool.and_false];rfl
 refine aV hm (ι:=Nat) (fun i=>[⟨true,.str s⟩,.un,.un,.un,⟨true,.int .i64 (i:Nat)⟩,.un,.un,⟨true,.int .i64 (dn (s.take i):Nat)⟩,.un]) (fun i=>[]) 22 (fun i=>i≤s.length∧s.length≤9∧ea s=(bJ (fun i=>aX (at8 s i)) i s.length&&decide (dn s≤9999))) (fun i=>s.length-i) 0 ⟨by omega,by omega,hP⟩ (cI []) ?_;rintro i ⟨hi,h9,hr⟩;refine aI ?_;intro u1;refine au ?_;refine ca (fun hc1=>?_) fun hc1=>?_
 ·refine aQ ?_;refine ak (hc:=h454 _) ?_;refine au ?_;refine aq (fun hc2=>?_) (fun hc2=>?_)
  ·try simp only[fo]at hc2
   refine bt ?_;refine bC (aE (congrArg (D.int .i64) ?_) (congrArg D.bool ?_));all_goals
    have:ea s=false:=by rw[hr,aD (by omega),hc2];rfl
    simp[dm,this]
  simp only[Bool.not_eq_false']at hc2;refine au ?_;have h48:=hc2;simp only[aX,Bool.and_eq_true,decide_eq_true_eq]at h48;have hn:=qb s i (by omega);have hn2:=rD s i (by omega);have h256:=wO s i;refine aC ?_;refine Cg ?_;refine av ?_;refine xu (at8 s i-48) (hb:=fun _=>IntWalk.u8_in _ (by omega)) ?_;refine rI (at8 s i-48) (hb:=fun _=>IntWalk.i64_in _ (by omega)) ?_;refine av ?_;rw[show(dn (s.take i):Int)*10+(at8 s i-48)=(dn (s.take (i+1)):Nat)by omega];refine aQ ?_;exact⟨i+1,⟨by omega,h9,by rw[hr,aD (by omega),hc2];rfl⟩,by omega,(cI [])⟩
 refine ax ?_;have ht:s.take i=s:=List.take_of_length_le (by omega);rw[ht];refine av ?_;refine ca (fun hc3=>?_) fun hc3=>?_
 ·refine aA ?_;refine bC (aE (congrArg (D.int .i64) ?_) (congrArg D.bool ?_));all_goals
   have:ea s=false:=by rw[hr,decide_eq_false (by omega),Bool.and_false]
   simp[dm,this]
 refine aQ ?_;refine bC (aE (congrArg (D.int .i64) ?_) (congrArg D.bool ?_));all_goals
  have:ea s=true:=by rw[hr,bA (by omega),decide_eq_true (by omega)];rfl
  simp[dm,this]
def Jj (Γ:Ctx):Prop:=∀(s:ah),Γ.pre 667 [.str s]∧Γ.val 667 [.str s]=.tup [.int .i64 (dm s),.bool (ea s)]
def xF:az:=⟨1,5,fg,bL,(sq (r1 [gm cH] 1 0) (sq (sq (r1 [gm bc] 2 0) (.block 0 (.loop (sq (sq (r1 [gm s2,gm s0,lG l1,aJ l0 l2] 3 3) (ek s3 0)) (sq (.block 1 (sq (r1 [gm s0,gm s2,C7 l0 l1,aJ l2 (i8 48),gm l3,dt 4 s0,dt 4 s2,bP 4 (.ixS l5 l6),bP 4 (cC l7 (i8 57)),dL l4 l8] 4 9) (jh s4 cH))) (r1 [gm s2,ar l0 bV,gm l1] 2 2)))))) (sq (r1 [gm s0,lG l0,cg l1 bc,gm l2] 1 3) .ret)))⟩
def w668 {Γ:Ctx}(hm:(Γ.at 0).aY)  (t:ah)   :c7 Γ xF (.bool (dD t)) [.str t]:=by
 show bq _ _ _ [⟨_,_⟩,_,_,_,_] _;refine ai ?_;refine aA ?_;refine aV hm (ι:=Nat) (fun i=>[⟨true,.str t⟩,.un,⟨true,.int .i64 (i:Nat)⟩,.un,.un]) (fun i=>[]) 2 (fun i=>i≤t.length∧bJ (fun i=>aX (at8 t i)) 0 t.length=bJ (fun i=>aX (at8 t i)) i t.length) (fun i=>t.length-i) 0 ⟨by omega,rfl⟩ (cI []) ?_;rintro i ⟨hi,hr⟩;refine aI ?_;intro u0;refine au ?_;refine ca (fun hc0=>?_) fun hc0=>?_
 ·refine uI ?_;refine eW (fun hc1=>?_) fun hc1=>?_
  ·refine aA ?_;refine bp ?_;simp only[dD];rw[hr,aD (by omega)];rcases hc1 with h|h<;>simp[aX]<;>omega
  refine bt ?_;exact⟨i+1,⟨by omega,by rw[hr,aD (by omega)];rw[show aX (at8 t i)=true by simp only[aX,Bool.and_eq_true,decide_eq_true_eq];omega];rfl⟩,by omega,(cI [])⟩
 refine aI ?_;intro u1;refine ax ?_;refine bp ?_;simp only[dD];rw[hr,bA (by omega)];simp
def L6 (Γ:Ctx):Prop:=∀(t:ah),Γ.pre 668 [.str t]∧Γ.val 668 [.str t]=.bool (dD t)
def F1:az:=⟨1,7,fg,bL,(sq (r1 [gm cH] 1 0) (sq (sq (r1 [gm s0,lG l0,aJ l1 bV,gm l2,dt 3 s0,bP 3 (.lenS l4),bP 3 (cC l5 AB),dL l3 l6] 2 7) (jh s2 cH)) (sq (sq (r1 [gm bc] 3 0) (.block 0 (.loop (sq (sq (r1 [gm s3,gm s0,lG l1,aJ l0 l2] 4 3) (ek s4 0)) (sq (.block 1 (sq (r1 [gm s0,gm s3,C7 l0 l1,gm l2] 5 3) (sq (r1 [gm s5,aJ l0 (i8 97),gm l1,dt 2 s5,bP 2 (cC l3 (i8 122)),dL l2 l4,gm l5,gmt 6 s5,bR 6 (pK l7 (i8 48)),gmt 6 l8,dt 9 s5,bP 9 (cC l10 (i8 57)),J0 6 l9 gh,dG l6 iq,gm jD,gmt 14 s5,bR 14 (eF lz (i8 45)),dG jZ mw] 6 17) (jh s6 cH)))) (r1 [gm s3,ar l0 bV,gm l1] 3 2)))))) (rU mX))))⟩
def w666 {Γ:Ctx}(hm:(Γ.at 0).aY)  (t:ah)   :c7 Γ F1 (.bool (mU t)) [.str t]:=by
 show bq _ _ _ [⟨_,_⟩,_,_,_,_,_,_] _;refine ai ?_;refine aA ?_;intro u0;refine av ?_;refine hX ?_;refine av ?_;refine ca (fun hc0=>?_) fun hc0=>?_
 ·refine aI ?_;refine bp ?_;symm;simp only[mU,Bool.and_eq_false_iff,decide_eq_false_iff_not];exact Or.inl (by omega)
 refine aI ?_;refine aV hm (ι:=Nat) (fun i=>[⟨true,.str t⟩,.un,.un,⟨true,.int .i64 (i:Nat)⟩,.un,.un,.un]) (fun i=>[]) 10 (fun i=>i≤t.length∧mU t=bJ (fun i=>kf (at8 t i)) i t.length) (fun i=>t.length-i) 0 ⟨by omega,by simp only[mU];rw[decide_eq_true (by omega),decide_eq_true (by omega)];rfl⟩ (cI []) ?_;rintro i ⟨hi,hr⟩;refine aI ?_;intro u1;refine au ?_;refine ca (fun hc1=>?_) fun hc1=>?_
 ·refine Gy ?_;refine eW (fun hc2=>?_) fun hc2=>?_
  ·refine aA ?_;refine bp ?_;rw[hr,aD (by omega)];have:kf (at8 t i)=false:=(by simp only[kf,fC,aX,Bool.or_eq_false_iff,Bool.and_eq_false_iff,decide_eq_false_iff_not];omega);rw[this];rfl
  refine bt ?_;exact⟨i+1,⟨by omega,by rw[hr,aD (by omega)];have:kf (at8 t i)=true:=(by simp only[kf,fC,aX,Bool.or_eq_true,Bool.and_eq_true,decide_eq_true_eq];omega);rw[this];rfl⟩,by omega,(cI [])⟩
 refine aA ?_;refine bp ?_;rw[hr,bA (by omega)]
def L5 (Γ:Ctx):Prop:=∀(t:ah),Γ.pre 666 [.str t]∧Γ.val 666 [.str t]=.bool (mU t)
def DH:az:=⟨2,11,[⟨2,none⟩],bL,(sq (r1 [gm cH] 2 0) (sq (sq (r1 [gm s0,aH l0 cse] 3 1) (.cond s3 (sq (r1 [gm mX] 2 0) .ret) .skip)) (sq (r1 [gm s0,gx 470 [l0,(i8 46)] gL,gm l1] 4 2) (sq (sq (r1 [gm s4,gl l0,cg l1 tl] 5 2) (.cond s5 (sq (r1 [gm cH] 2 0) .ret) .skip)) (sq (sq (r1 [gm bc] 6 0) (.block 0 (.loop (sq (sq (r1 [gm s6,gm s4,gl l1,aJ l0 l2] 7 3) (ek s7 0)) (sq (.block 1 (sq (sq (r1 [gm s4,gm s6,ga 1 l0 l1,gd l2,gx 666 [l3] bL,iR l4] 8 5) (.cond s8 (sq (r1 [gm cH] 2 0) .ret) .skip)) (sq (r1 [gm s4,gm s6,ga 1 l0 l1,gd l2,gx 667 [l3] bL,gm l4,ge l5 0,ge l5 1,gm l6,gm l7] 9 9) (sq (r1 [gm s1,gm l0,gmt 1 s4,gmt 1 s6,bR 1 (.ia 1 l2 l3),jC 1 l4,bR 1 (.call 668 [l5] bL),dG l1 l6,gm l7,gmt 8 s9,bR 8 (.un .not l9),dG l8 l10] 10 11) (.cond jR (sq (r1 [gm cH] 2 0) .ret) .skip))))) (r1 [gm s6,ar l0 bV,gm l1] 6 2)))))) (sq (r1 [gm mX] 2 0) .ret))))))⟩
def w456 {Γ:Ctx}(hm:(Γ.at 0).aY)(h470:CB Γ)(h666:L5 Γ)(h667:Jj Γ)(h668:L6 Γ)(s:ah)(p:Bool)  (hp0:s.length≤1048576):c7 Γ DH (.bool (nP s p)) [.str s,.bool p]:=by
 show bq _ _ _ [⟨_,_⟩,⟨_,_⟩,_,_,_,_,_,_,_,_,_] _;refine ai ?_;refine aQ ?_;refine ca (fun hc0=>?_) fun hc0=>?_
 ·refine aI ?_;refine bp ?_;simp[nP,hc0]
 refine av ?_;refine ak (hc:=h470 _ _ ?_) ?_;rotate_left;first|assumption|omega;have hlen:=cG s 46
 refine aA ?_;intro u0;refine au ?_;refine aq (fun hc1=>?_) (fun hc1=>?_)
 ·try simp only[fo]at hc1
  refine aI ?_;refine bp ?_;simp only[nP,jS];rw[decide_eq_false hc0,decide_eq_false (by omega)];rfl
 simp only[decide_eq_false_iff_not]at hc1;refine aI ?_;refine aV hm (ι:=Nat) (fun i=>[⟨true,.str s⟩,⟨true,.bool p⟩,.un,.un,⟨true,.sl 1 ((aj s 46).map D.str)⟩,.un,⟨true,.int .i64 (i:Nat)⟩,.un,.un,.un,.un]) (fun i=>[]) 10 (fun i=>i≤(aj s 46).length∧nP s p=bJ (fun i=>eV p (aj s 46)[i]!) i (aj s 46).length) (fun i=>(aj s 46).length-i) 0 ⟨by omega,by simp only[nP,jS];rw[decide_eq_false hc0,decide_eq_true (by omega)];rfl⟩ (cI []) ?_;rintro i ⟨hi,hr⟩;refine aI ?_;intro u1;refine au ?_;refine ca (fun hc2=>?_) fun hc2=>?_
 ·refine bt ?_;refine ak (hc:=h666 _) ?_;refine au ?_;refine aq (fun hc3=>?_) (fun hc3=>?_)
  ·simp only[Bool.not_eq_true']at hc3;refine aQ ?_;refine bp ?_;rw[hr,aD (by omega)];simp only[eV,hc3];rfl
  simp only[Bool.not_eq_false']at hc3;refine aA ?_;refine ak (hc:=h667 _) ?_;refine kN ?_;refine ak (hc:=h668 _) ?_;refine aA ?_;refine wp_cond (fun hc4=>?_) (fun hc4=>?_)
  ·skip
   refine aA ?_;refine bp ?_;have h5:eV p (aj s 46)[i]! =false:=(by simp only[eV,hc3];revert hc4;generalize dD (aj s 46)[i]! =a;generalize ea (aj s 46)[i]! =b;cases p<;>cases a<;>cases b<;>simp);rw[hr,aD (by omega),h5];rfl
  skip
  refine bt ?_;exact⟨i+1,⟨by omega,by rw[hr,aD (by omega)];have h5:eV p (aj s 46)[i]! =true:=(by simp only[eV,hc3];revert hc4;generalize dD (aj s 46)[i]! =a;generalize ea (aj s 46)[i]! =b;cases p<;>cases a<;>cases b<;>simp);rw[h5];rfl⟩,by omega,(cI [])⟩
 refine aA ?_;refine bp ?_;rw[hr,bA (by omega)]
def LK (Γ:Ctx):Prop:=∀(s:ah)(p:Bool),(s.length≤1048576)→Γ.pre 456 [.str s,.bool p]∧Γ.val 456 [.str s,.bool p]=.bool (nP s p)
def F0:az:=⟨1,2,fg,bL,(sq (r1 [gm cH] 1 0) (sq (r1 [gm s0,fD l0 bc,gm l1,gmt 2 s0,bR 2 (kS l3 (i6 9999)),dG l2 l4,gm l5] 1 6) .ret))⟩
def w455 {Γ:Ctx}(hm:(Γ.at 0).aY)  (n:Int)   :c7 Γ F0 (.bool (ko n)) [.int .i64 n]:=by
 show bq _ _ _ [⟨_,_⟩,_] _;refine ai ?_;refine gD ?_;exact bp rfl
def LJ (Γ:Ctx):Prop:=∀(n:Int),Γ.pre 455 [.int .i64 n]∧Γ.val 455 [.int .i64 n]=.bool (ko n)
def FZ:az:=⟨1,3,fg,bL,(sq (rg [gb 5 s0,gm cH] [(2,0),(1,1)]) (sq (r1 [gf 0 s2,gd l0,gx 455 [l1] bL,gm l2,kX 3 1 s2,jC 3 l4,bR 3 (.call 455 [l5] bL),dG l3 l6,gm l7,kX 8 2 s2,jC 8 l9,bR 8 (.call 455 [l10] bL),dG l8 gh,gm iq,kX 13 3 s2,jC 13 jZ,bR 13 (.call 456 [lz,mX] gL),dG jD mw,gm oC,kX 18 4 s2,jC 18 qk,bR 18 (.call 456 [tt,cH] gL),dG pd uU,gm vJ] 1 23) .ret))⟩
def w217 {Γ:Ctx}(hm:(Γ.at 0).aY)(h455:LJ Γ)(h456:LK Γ)(v:dc)  (hp0:v.sm):c7 Γ FZ (.bool (iD v)) [dc.D v]:=by
 show bq _ _ _ [⟨_,_⟩,_,_] _;refine ai ?_;refine aA ?_;refine ak (hc:=h455 _) ?_;refine av ?_;refine ak (hc:=h455 _) ?_;refine ax ?_;refine ak (hc:=h455 _) ?_;refine ax ?_;refine eK (hc:=fun hf=>h456 v.pre true hp0.1) ?_;refine ax ?_;refine eK (hc:=fun hf=>h456 v.build false hp0.2) ?_;refine ax ?_;exact bp rfl
def GN (Γ:Ctx):Prop:=∀(v:dc),(v.sm)→Γ.pre 217 [dc.D v]∧Γ.val 217 [dc.D v]=.bool (iD v)
end Go.Abs
end
section
namespace Go.Abs
open Go
def xE:az:=⟨1,4,fg,bL,(sq (rg [gb 5 s0,gm cse] [(2,0),(1,1)]) (sq (r2 [gf 0 s2,gd l0,gx 734 [l1] bL,ar l2 (cs [46]),gf 1 s2,gd l4,gx 734 [l5] bL,ar l3 l6,gm l7] 3 8) (sq (r1 [gm s3,ar l0 (cs [46]),gf 2 s2,gd l2,gx 734 [l3] bL,ar l1 l4,gm l5] 1 6) .ret)))⟩
def w554 {Γ:Ctx}(hm:(Γ.at 0).aY)(h734:Jp Γ)(v:dc)  (hp0:ko v.major=true∧ko v.minor=true∧ko v.patch=true):c7 Γ xE (.str (cP v.major.toNat++[46]++cP v.minor.toNat++[46]++cP v.patch.toNat)) [dc.D v]:=by
 show bq _ _ _ [⟨_,_⟩,_,_,_] _;obtain⟨hq1,hq2,hq3⟩:=hp0;simp only[ko,Bool.and_eq_true,decide_eq_true_eq]at hq1 hq2 hq3;have hl1:=dr 4 v.major.toNat (by omega) (by omega);have hl2:=dr 4 v.minor.toNat (by omega) (by omega);have hl3:=dr 4 v.patch.toNat (by omega) (by omega);refine ai ?_;refine aA ?_;refine ak (hc:=h734 _ ?_) ?_;rotate_left;first|assumption|omega
 refine cA (hb:=fun _=>by simp;omega) ?_;refine au ?_;refine ak (hc:=h734 _ ?_) ?_;rotate_left;first|assumption|omega
 refine cA (hb:=fun _=>by simp;omega) ?_;refine ax ?_;refine cA (hb:=fun _=>by simp;omega) ?_;refine au ?_;refine ak (hc:=h734 _ ?_) ?_;rotate_left;first|assumption|omega
 refine cA (hb:=fun _=>by simp;omega) ?_;refine av ?_;exact b8 rfl
def L2 (Γ:Ctx):Prop:=∀(v:dc),(ko v.major=true∧ko v.minor=true∧ko v.patch=true)→Γ.pre 554 [dc.D v]∧Γ.val 554 [dc.D v]=.str (cP v.major.toNat++[46]++cP v.minor.toNat++[46]++cP v.patch.toNat)
def Bb:az:=⟨1,7,fg,bL,(sq (rg [gb 5 s0,gm cse] [(2,0),(1,1)]) (sq (sq (r1 [gk 5 true s2,gx 217 [l0] D7,iR l1] 3 2) (jh s3 cse)) (sq (r1 [gk 5 true s2,gx 554 [l0] D7,gm l1] 5 2) (sq (sq (r1 [gf 3 s2,gd l0,bZ l1 cse] 4 2) (.cond s4 (r1 [gm s5,ar l0 (cs [45]),gf 3 s2,gd l2,ar l1 l3,gm l4] 5 5) .skip)) (sq (sq (r1 [gf 4 s2,gd l0,bZ l1 cse] 6 2) (.cond s6 (r1 [gm s5,ar l0 (cs [43]),gf 4 s2,gd l2,ar l1 l3,gm l4] 5 5) .skip)) (sq (r1 [gm s5,gm l0] 1 1) .ret))))))⟩
def w316 {Γ:Ctx}(hm:(Γ.at 0).aY)(h217:GN Γ)(h554:L2 Γ)(v:dc)  (hp0:v.sm):c7 Γ Bb (.str (kJ v)) [dc.D v]:=by
 show bq _ _ _ [⟨_,_⟩,_,_,_,_,_,_] _;obtain⟨hs1,hs2⟩:=hp0;have hp0:v.sm:=⟨hs1,hs2⟩;refine ai ?_;refine aA ?_;refine ak (hc:=h217 _ ?_) ?_;rotate_left;first|assumption|omega
 refine au ?_;refine aq (fun hc0=>?_) (fun hc0=>?_)
 ·simp only[Bool.not_eq_true']at hc0;refine aI ?_;refine b8 ?_;simp[kJ,hc0]
 simp only[Bool.not_eq_false']at hc0;refine au ?_;have hv:=hc0;simp only[iD,Bool.and_eq_true]at hv;obtain⟨⟨⟨⟨hv1,hv2⟩,hv3⟩,_⟩,_⟩:=hv;have hq1:=hv1;have hq2:=hv2;have hq3:=hv3;simp only[ko,Bool.and_eq_true,decide_eq_true_eq]at hq1 hq2 hq3;have hl1:=dr 4 v.major.toNat (by omega) (by omega);have hl2:=dr 4 v.minor.toNat (by omega) (by omega);have hl3:=dr 4 v.patch.toNat (by omega) (by omega);refine aC ?_;refine ak (hc:=h554 v ⟨hv1,hv2,hv3⟩) ?_;refine bt ?_;refine ca (fun hc1=>?_) fun hc1=>?_
 ·refine au ?_;refine cA (hb:=fun _=>by simp;omega) ?_;refine au ?_;refine cA (hb:=fun _=>by simp;omega) ?_;refine bt ?_;refine ca (fun hc2=>?_) fun hc2=>?_
  ·refine au ?_;refine cA (hb:=fun _=>by simp;omega) ?_;refine au ?_;refine cA (hb:=fun _=>by simp;omega) ?_;refine aQ ?_;refine b8 ?_;simp[kJ,ve,hc0,hc1,hc2]
  refine aA ?_;refine b8 ?_;simp[kJ,ve,hc0,hc1,hc2]
 refine aQ ?_;refine ca (fun hc2=>?_) fun hc2=>?_
 ·refine au ?_;refine cA (hb:=fun _=>by simp;omega) ?_;refine au ?_;refine cA (hb:=fun _=>by simp;omega) ?_;refine aQ ?_;refine b8 ?_;simp[kJ,ve,hc0,hc1,hc2]
 refine aA ?_;refine b8 ?_;simp[kJ,ve,hc0,hc1,hc2]
def Ly (Γ:Ctx):Prop:=∀(v:dc),(v.sm)→Γ.pre 316 [dc.D v]∧Γ.val 316 [dc.D v]=.str (kJ v)
def DM:az:=⟨2,3,[⟨2,none⟩],bL,(sq (r1 [gm (iu 0)] 2 0) (sq (r1 [gm s0,gm s1,gn (.bin .shl l0 l1),gm s0,gm s1,dN (iu 64) l4,gn (.bin .shr l3 l5),IJ l2 l6,gm l7] 2 8) .ret))⟩
def w464 {Γ:Ctx}(hm:(Γ.at 0).aY)  (h:Int)(n:Nat)  (hp0:n≤63):c7 Γ DM (.int .u64 (H4 h n)) [.int .u64 h,.int .u64 (n:Nat)]:=by
 show bq _ _ _ [⟨_,_⟩,⟨_,_⟩,_] _;refine ai ?_;refine aI ?_;refine IP (Gd h n) (hb:=fun _=>by rw[show min (Int.toNat (n:Int)) (IntKind.bits .u64)=n by simp[IntKind.bits];omega];rfl) ?_;refine au ?_;refine xu ((64-n:Nat):Int) (hb:=fun _=>by rw[IntKind.wrap_u64];omega) ?_;refine Ch (wc h (64-n)) (hb:=fun _=>by rw[show min (Int.toNat ((64-n:Nat):Int)) (IntKind.bits .u64)=64-n by simp[IntKind.bits]];rfl) ?_;refine IL (H4 h n) (hb:=fun _=>rfl) ?_;refine av ?_;refine bC (congrArg (D.int .u64) ?_);rfl
def LV (Γ:Ctx):Prop:=∀(h:Int)(n:Nat),(n≤63)→Γ.pre 464 [.int .u64 h,.int .u64 (n:Nat)]∧Γ.val 464 [.int .u64 h,.int .u64 (n:Nat)]=.int .u64 (H4 h n)
def F6:az:=⟨1,5,fg,bL,(sq (r1 [gm (iu 0)] 1 0) (sq (r1 [gm (iu 11400714819323198485)] 4 0) (sq (sq (r1 [gm bc] 2 0) (.block 0 (.loop (sq (sq (r1 [gm s2,gm s0,gl l1,aJ l0 l2] 3 3) (ek s3 0)) (sq (.block 1 (r1 [gm s4,gm s0,gm s2,ga 1 l1 l2,gd l3,gn (.cvi .u64 l4),gn (.bin .xor l0 l5),gx 464 [l6,(iu 13)] gL,gn (.bin .mul l7 (iu 18397679294719823053)),gm l8] 4 9)) (r1 [gm s2,ar l0 bV,gm l1] 2 2)))))) (sq (r1 [gm s4,gm s4,gn (.bin .shr l1 (iu 29)),gn (.bin .xor l0 l2),gm l3] 1 4) .ret))))⟩
def w221 {Γ:Ctx}(hm:(Γ.at 0).aY)(h464:LV Γ)(s:ah)   :c7 Γ F6 (.int .u64 (xM s)) [.sl 1 ((s).map fun b=>D.int .u8 b.toNat)]:=by
 show bq _ _ _ [⟨_,_⟩,_,_,_,_] _;refine ai ?_;refine cB ?_;refine aV hm (ι:=Nat) (fun i=>[⟨true,.sl 1 (s.map fun b=>D.int .u8 b.toNat)⟩,.un,⟨true,.int .i64 (i:Nat)⟩,.un,⟨true,.int .u64 (q9 (s.take i))⟩]) (fun i=>[]) 3 (fun i=>i≤s.length) (fun i=>s.length-i) 0 (by omega) (cI []) ?_;intro i hi;refine aI ?_;intro u0;refine au ?_;refine ca (fun hc0=>?_) fun hc0=>?_
 ·refine aQ ?_;refine bQ (v:=.int .u8 (at8 s i)) (hv:=fun _=>ld8 s i) ?_;refine rI (at8 s i) (hb:=fun _=>by have:=wO s i;rw[IntKind.wrap_u64];omega) ?_;refine xq (CA (q9 (s.take i)) (at8 s i)) (hb:=fun _=>rfl) ?_;refine ak (hc:=h464 _ 13 (by omega)) ?_;refine FV (q9 (s.take (i+1))) (hb:=fun _=>by rw[wx s i (by omega)];rfl) ?_;refine cB ?_;exact⟨i+1,(by omega),by omega,(cI [])⟩
 refine av ?_;have ht:s.take i=s:=List.take_of_length_le (by omega);rw[ht];refine au ?_;refine Ch (wc (q9 s) 29) (hb:=fun _=>rfl) ?_;refine xq (xM s) (hb:=fun _=>rfl) ?_;refine av ?_;refine bC (congrArg (D.int .u64) ?_);rfl
def Lt (Γ:Ctx):Prop:=∀(s:ah),Γ.pre 221 [.sl 1 ((s).map fun b=>D.int .u8 b.toNat)]∧Γ.val 221 [.sl 1 ((s).map fun b=>D.int .u8 b.toNat)]=.int .u64 (xM s)
end Go.Abs
end
section
namespace Go.Abs
open Go
end Go.Abs
end
section
namespace Go.Abs
open Go
end Go.Abs
end
section
namespace Go.Abs
open Go
end Go.Abs
end
section
namespace Go.Abs
open Go
end Go.Abs
end
section
namespace Go.Abs
open Go
end Go.Abs
end
section
namespace Go.Abs
open Go
def vg:az:=⟨1,18,[⟨1,some (5,true)⟩,⟨2,none⟩],[[.a,.a,.a,.a,.a],[.a]],(sq (rg [gb 5 (.c (.agg [.int .i64 0,.int .i64 0,.int .i64 0,.str [],.str []])),gm bc] [(1,0),(2,1)]) (sq (r1 [gb 5 (.c (.agg [.int .i64 0,.int .i64 0,.int .i64 0,.str [],.str []]))] 4 0) (sq (r1 [gm s0,gm l0] 3 1) (sq (r1 [gm s3,gx 675 [l0,(i8 43)] gL,gm l1,ge l2 0,ge l2 1,gf 4 s4,gt 1 l5 l3,gm l4] 3 7) (sq (r1 [gm s3,gx 675 [l0,(i8 45)] gL,gm l1,ge l2 0,ge l2 1,gf 3 s4,gt 1 l5 l3,gm l4] 3 7) (sq (r1 [gm s3,gx 533 [l0,(i8 46)] gL,gm l1] 5 2) (sq (sq (r1 [gm s5,gl l0,bZ l1 kr] 6 2) (.cond s6 (sq (r1 [gn (.build [.int .i64 0,.int .i64 0,.int .i64 0,.str [],.str []] []),gt 5 s1 l0,gm GA] 2 2) .ret) .skip)) (sq (r1 [gb 3 (.c (.agg [.int .i64 0,.int .i64 0,.int .i64 0]))] 16 0) (sq (sq (rg [gm s5,gl l0,gm bc] [(10,0),(8,1),(7,2)]) (.block 0 (.loop (sq (r1 [aJ s7 s8] 9 0) (sq (ek s9 0) (sq (.block 1 (sq (rg [gm s7,ga 1 jR s7,gd l1,gm l0,gm l2] [(14,3),(11,4)]) (sq (rg [gm lf,gx 658 [l0] bL,gm l1,ge l2 0,ge l2 1,gm l3,gm l4] [(15,5),(12,6)]) (sq (sq (r1 [gm lE,iR l0] 13 1) (.cond oO (sq (r1 [gn (.build [.int .i64 0,.int .i64 0,.int .i64 0,.str [],.str []] []),gt 5 s1 l0,gm GA] 2 2) .ret) .skip)) (rg [gm rL,gm qU,gn (.iaP 3 1 z6 l0),gt 1 l2 l1] []))))) (r1 [ar s7 bV,gm l0] 7 1))))))) (sq (rt [gn (.iaP 3 1 z6 bc),gd l0,gn (.iaP 3 1 z6 bV),gn (.ldI 1 false l2),gn (.iaP 3 1 z6 lM),gn (.ldI 1 false l4),gf 0 s4,gt 1 l6 l1,gf 1 s4,gt 1 l8 l3,gf 2 s4,gt 1 l10 l5] []) (sq (sq (r1 [gk 5 true s4,gx 209 [l0] D7,iR l1,gm l2,bP 3 (.ld 5 true s4),bP 3 (.call 451 [l4] D7),dt 3 s0,bP 3 (eF l5 l6),dL l3 l7] 17 8) (.cond zy (sq (r1 [gn (.build [.int .i64 0,.int .i64 0,.int .i64 0,.str [],.str []] []),gt 5 s1 l0,gm GA] 2 2) .ret) .skip)) (sq (r1 [gk 5 true s4,gt 5 s1 l0,gm bc] 2 2) .ret))))))))))))⟩
def w466 {Γ:Ctx}(hm:(Γ.at 0).aY)(h209:Ei Γ)(h451:I7 Γ)(h533:Ek Γ)(h658:GU Γ)(h675:Mb Γ)(s:ah)  (hp0:s.length≤1048576):c7 Γ vg (.tup [dc.D ((mV s).getD iE),.int .i64 (uy s)]) [.str s]:=by
 show bq _ _ _ [⟨_,_⟩,_,_,_,_,_,_,_,_,_,_,_,_,_,_,_,_,_] _;have hb1:=kU s 43;have gL:=kU (ep s 43).2 45;generalize hA:ep s 43=A at hb1 gL;generalize hB:ep A.2 45=B at gL;have hsl:=cG B.2 46;generalize hL:aj B.2 46=L at hsl;have hq0:mV s=if L.length=3∧ea L[0]! =true∧ea L[1]! =true∧ea L[2]! =true then(if iD ⟨dm L[0]!,dm L[1]!,dm L[2]!,B.1,A.1⟩=true∧kJ ⟨dm L[0]!,dm L[1]!,dm L[2]!,B.1,A.1⟩=s then some ⟨dm L[0]!,dm L[1]!,dm L[2]!,B.1,A.1⟩else none)else none:=by subst hA;subst hB;subst hL;rfl
 refine ai ?_;refine gD ?_;refine ak (hc:=h675 s 43) ?_;rw[hA];refine ax ?_;refine aR (dc.D ⟨0,0,0,[],A.1⟩) (he:=by exact rfl) ?_;refine ax ?_;refine ak (hc:=h675 A.2 45) ?_;rw[hB];refine ax ?_;refine aR (dc.D ⟨0,0,0,B.1,A.1⟩) (he:=by exact rfl) ?_;refine ax ?_;refine ak (hc:=h533 B.2 46 (by omega)) ?_;rw[hL];refine aA ?_;intro u0;refine au ?_;refine ca (fun hc0=>?_) fun hc0=>?_
 ·refine au ?_;refine bo (dc.D iE) ?_;refine ax ?_;refine bC (aE ?_ (congrArg (D.int .i64) ?_));all_goals
   have hq:mV s=none:=by rw[hq0,if_neg (fun h=>by have:=h.1;omega)]
   simp only[uy,hq];rfl
 refine bt ?_;intro u1;refine au ?_;refine aV hm (ι:=Nat) (fun i=>[⟨true,.str s⟩,⟨true,.ptr 0 5 0 0⟩,.un,.un,⟨true,.ptr 2 5 0 0⟩,.un,.un,⟨true,.int .i64 (i:Nat)⟩,⟨true,.int .i64 (L.length:Nat)⟩,.un,⟨true,.sl 1 (L.map D.str)⟩,.un,.un,.un,.un,.un,⟨true,.ptr 27 3 0 0⟩,.un]) (fun i=>[(0,.buf 5 [dc.D iE]),(2,.buf 5 [dc.D ⟨0,0,0,B.1,A.1⟩]),(27,.buf 3 [Dl L i])]) 31 (fun i=>i≤3∧∀j,j<i→ea L[j]! =true) (fun i=>3-i) 0 ⟨by omega,fun j hj=>by omega⟩ (cI [(0,0),(2,2),(27,27)]) ?_;rintro i ⟨hi,hr⟩;refine av ?_;refine ca (fun hc1=>?_) fun hc1=>?_
 ·refine eB ?_;refine ak (hc:=h658 L[i]!) ?_;refine eB ?_;refine aq (fun hc2=>?_) (fun hc2=>?_)
  ·simp only[Bool.not_eq_true']at hc2;refine au ?_;refine bo (dc.D iE) ?_;refine aA ?_;refine bC (aE ?_ (congrArg (D.int .i64) ?_));all_goals
    have hq:mV s=none:=by
     rw[hq0,if_neg];rintro⟨_,h1,h2,h3⟩;rcases(show i=0∨i=1∨i=2 by omega)with rfl|rfl|rfl
     ·rw[h1]at hc2;cases hc2
     ·rw[h2]at hc2;cases hc2
     ·rw[h3]at hc2;cases hc2
    simp only[uy,hq];rfl
  simp only[Bool.not_eq_false']at hc2;refine ax ?_;refine tW i ?_;refine aR (Dl L (i+1)) (he:=yR L i (by omega)) ?_;refine aQ ?_;have hr2:∀j,j<i+1→ea L[j]! =true:=by
   intro j hj;rcases Nat.eq_or_lt_of_le (Nat.lt_succ_iff.1 hj)with rfl|h
   ·exact hc2
   ·exact hr j h
  exact⟨i+1,⟨by omega,hr2⟩,by omega,(cI [(0,0),(2,2),(27,27)])⟩
 refine au ?_;refine fM 27 ?_;refine aC ?_;have h3:i=3:=by omega
 subst h3;refine AV 0 ?_;refine ef (v:=.int .i64 (dm L[0]!)) ?_;refine AV 1 ?_;refine AW (v:=.int .i64 (dm L[1]!)) ?_;refine AV 2 ?_;refine AW (v:=.int .i64 (dm L[2]!)) ?_;refine aC ?_;refine aR (dc.D ⟨dm L[0]!,0,0,B.1,A.1⟩) (he:=by exact rfl) ?_;refine aC ?_;refine aR (dc.D ⟨dm L[0]!,dm L[1]!,0,B.1,A.1⟩) (he:=by exact rfl) ?_;refine aC ?_;refine aR (dc.D ⟨dm L[0]!,dm L[1]!,dm L[2]!,B.1,A.1⟩) (he:=by exact rfl) ?_;refine av ?_;have hsm:dc.sm ⟨dm L[0]!,dm L[1]!,dm L[2]!,B.1,A.1⟩:=⟨by simp only;omega,by simp only;omega⟩;generalize hV:(⟨dm L[0]!,dm L[1]!,dm L[2]!,B.1,A.1⟩:dc)=V at hsm hq0⊢;refine aC ?_;refine ak (hc:=h209 V hsm) ?_;refine av ?_;refine eK (hc:=fun _=>h451 V hsm) ?_;refine ax ?_;refine aq (fun hc3=>?_) (fun hc3=>?_)
 ·simp only[Bool.or_eq_true,Bool.not_eq_true',decide_eq_false_iff_not]at hc3;refine au ?_;refine bo (dc.D iE) ?_;refine ax ?_;refine bC (aE ?_ (congrArg (D.int .i64) ?_));all_goals
   have hq:mV s=none:=by
    rw[hq0];split
    ·rw[if_neg];rintro⟨h1,h2⟩;rcases hc3 with h|h
     ·rw[h1]at h;cases h
     ·exact h h2
    ·rfl
   simp only[uy,hq];rfl
 simp only[Bool.or_eq_false_iff,Bool.not_eq_false',decide_eq_true_eq]at hc3;refine aQ ?_;refine bC (aE ?_ (congrArg (D.int .i64) ?_));all_goals
  have hq:mV s=some V:=by
   rw[hq0,if_pos ⟨by omega,hr 0 (by omega),hr 1 (by omega),hr 2 (by omega)⟩,if_pos hc3]
  simp only[uy,hq];rfl
def LW (Γ:Ctx):Prop:=∀(s:ah),(s.length≤1048576)→Γ.pre 466 [.str s]∧Γ.val 466 [.str s]=.tup [dc.D ((mV s).getD iE),.int .i64 (uy s)]
end Go.Abs
end
section
namespace Go.Abs
open Go
end Go.Abs
end
section
namespace Go.Abs
open Go
end Go.Abs
end
section
namespace Go.Abs
open Go
end Go.Abs
end
section
namespace Go.Abs
open Go
end Go.Abs
end
section
namespace Go.Abs
open Go
end Go.Abs
end
section
namespace Go.Abs
open Go
end Go.Abs
end
section
namespace Go.Abs
open Go
end Go.Abs
end
section
namespace Go.Abs
open Go
end Go.Abs
end
section
namespace Go.Abs
open Go
end Go.Abs
end
namespace Go.Abs
end Go.Abs
section
namespace Go.Abs
open Go
end Go.Abs
end
section
namespace Go.Abs
open Go
end Go.Abs
end
section
namespace Go.Abs
open Go
def A2:az:=⟨2,6,[⟨2,none⟩],bL,(sq (r1 [gm bc] 2 0) (sq (sq (r1 [gm bc] 3 0) (.block 0 (.loop (sq (sq (r1 [gm s3,gm s0,gl l1,aJ l0 l2] 4 3) (ek s4 0)) (sq (.block 1 (sq (r1 [gm s0,gm s3,ga 2 l0 l1,gf 0 l2,gd l3,gm s1,aH l4 l5] 5 6) (.cond s5 (sq (r1 [gm s3,gm l0] 2 1) .ret) .skip))) (r1 [gm s3,ar l0 bV,gm l1] 3 2)))))) (sq (r1 [gn (.mv (.c (.int .i64 (-1))))] 2 0) .ret)))⟩
def w955 {Γ:Ctx}(hm:(Γ.at 0).aY)  (l:List bz)(nm:ah)   :c7 Γ A2 (.int .i64 (findF l nm 0)) [.sl 2 (l.map bz.D),.str nm]:=by
 show bq _ _ _ [⟨_,_⟩,⟨_,_⟩,_,_,_,_] _;refine ai ?_;refine aA ?_;refine aV hm (ι:=Nat) (fun i=>[⟨true,.sl 2 (l.map bz.D)⟩,⟨true,.str nm⟩,.un,⟨true,.int .i64 (i:Nat)⟩,.un,.un]) (fun i=>[]) 2 (fun i=>i≤l.length∧findF l nm 0=findF l nm i) (fun i=>l.length-i) 0 ⟨by omega,rfl⟩ (cI []) ?_;rintro i ⟨hi,hr⟩;refine aI ?_;intro u0;refine au ?_;refine ca (fun hc0=>?_) fun hc0=>?_
 ·refine eB ?_;refine eW (fun hc1=>?_) fun hc1=>?_
  ·refine aQ ?_;refine ed ?_;rw[hr,yy (by omega) hc1]
  refine bt ?_;exact⟨i+1,⟨by omega,by rw[hr,yz (by omega) hc1]⟩,by omega,(cI [])⟩
 refine aA ?_;refine ed ?_;rw[hr,vD (by omega)]
def Mu (Γ:Ctx):Prop:=∀(l:List bz)(nm:ah),Γ.pre 955 [.sl 2 (l.map bz.D),.str nm]∧Γ.val 955 [.sl 2 (l.map bz.D),.str nm]=.int .i64 (findF l nm 0)
def w9:az:=⟨2,10,[⟨2,none⟩],bL,(sq (r1 [gm bc] 2 0) (sq (sq (rg [gm s0,gl l0,gm bc] [(6,0),(4,1),(3,2)]) (.block 0 (.loop (sq (r1 [aJ s3 s4] 5 0) (sq (ek s5 0) (sq (.block 1 (sq (rg [gm s3,ga 2 s6 s3,gk 2 true l1,gb 2 (.c (.agg [.str [],.aF])),gm l0,gt 2 l3 l2] [(7,3),(9,4)]) (sq (r1 [gf 0 s7,gd l0,gm s1,aH l1 l2] 8 3) (.cond s8 (sq (r1 [gm s9,gm l0] 2 1) .ret) .skip)))) (r1 [ar s3 bV,gm l0] 3 1))))))) (sq (r1 [gn (.mv (.c (.int .i64 (-1))))] 2 0) .ret)))⟩
def w663 {Γ:Ctx}(hm:(Γ.at 0).aY)  (l:List bz)(nm:ah)   :c7 Γ w9 (.int .i64 (findF l nm 0)) [.sl 2 (l.map bz.D),.str nm]:=by
 show bq _ _ _ [⟨_,_⟩,⟨_,_⟩,_,_,_,_,_,_,_,_] _;refine ai ?_;refine aA ?_;intro u0;refine au ?_;refine aV hm (ι:=Nat) (fun i=>[⟨true,.sl 2 (l.map bz.D)⟩,⟨true,.str nm⟩,.un,⟨true,.int .i64 (i:Nat)⟩,⟨true,.int .i64 (l.length:Nat)⟩,.un,⟨true,.sl 2 (l.map bz.D)⟩,.un,.un,.un]) (fun i=>[]) 4 (fun i=>i≤l.length∧findF l nm 0=findF l nm i) (fun i=>l.length-i) 0 ⟨by omega,rfl⟩ (cI []) ?_;rintro i ⟨hi,hr⟩;refine av ?_;refine ca (fun hc0=>?_) fun hc0=>?_
 ·refine aI ?_;first|refine bQ (v:=(bz.D _)) ?_|refine ef (v:=(bz.D _)) ?_
  refine au ?_;refine aR (bz.D l[i]!) (he:=by exact rfl) ?_;refine aQ ?_;refine eW (fun hc1=>?_) fun hc1=>?_
  ·refine aQ ?_;refine ed ?_;rw[hr,yy (by omega) hc1]
  refine aQ ?_;exact⟨i+1,⟨by omega,by rw[hr,yz (by omega) hc1]⟩,by omega,(cI [])⟩
 refine aA ?_;refine ed ?_;rw[hr,vD (by omega)]
def L4 (Γ:Ctx):Prop:=∀(l:List bz)(nm:ah),Γ.pre 663 [.sl 2 (l.map bz.D),.str nm]∧Γ.val 663 [.sl 2 (l.map bz.D),.str nm]=.int .i64 (findF l nm 0)
def FX:az:=⟨2,3,[⟨2,none⟩],bL,(sq (r1 [gm cH] 2 0) (sq (r1 [gm s1,aH l0 (cs [100,101,102,97,117,108,116]),gm l1,dt 2 s0,dt 2 s1,bP 2 (.call 955 [l3,l4] [[.sl 2 [.a,.sl 1 [.a]]],[.a]]),bP 2 (rk l5 bc),dL l2 l6,gm l7] 2 8) .ret))⟩
def w816 {Γ:Ctx}(hm:(Γ.at 0).aY)(h955:Mu Γ)(l:List bz)(nm:ah)   :c7 Γ FX (.bool (J3 l nm)) [.sl 2 (l.map bz.D),.str nm]:=by
 show bq _ _ _ [⟨_,_⟩,⟨_,_⟩,_] _;refine ai ?_;refine bt ?_;refine ak (hc:=h955 _ _) ?_;refine aI ?_;exact bp rfl
def Mn (Γ:Ctx):Prop:=∀(l:List bz)(nm:ah),Γ.pre 816 [.sl 2 (l.map bz.D),.str nm]∧Γ.val 816 [.sl 2 (l.map bz.D),.str nm]=.bool (J3 l nm)
def uR:az:=⟨2,3,[⟨2,none⟩],bL,(sq (r1 [gm cH] 2 0) (sq (r1 [gm s1,aH l0 (cs [100,101,102,97,117,108,116]),gm l1,dt 2 s0,dt 2 s1,bP 2 (.call 663 [l3,l4] [[.sl 2 [.a,.sl 1 [.a]]],[.a]]),bP 2 (rk l5 bc),dL l2 l6,gm l7] 2 8) .ret))⟩
def w449 {Γ:Ctx}(hm:(Γ.at 0).aY)(h663:L4 Γ)(l:List bz)(nm:ah)   :c7 Γ uR (.bool (J3 l nm)) [.sl 2 (l.map bz.D),.str nm]:=by
 show bq _ _ _ [⟨_,_⟩,⟨_,_⟩,_] _;refine ai ?_;refine bt ?_;refine ak (hc:=h663 _ _) ?_;refine aI ?_;exact bp rfl
def LI (Γ:Ctx):Prop:=∀(l:List bz)(nm:ah),Γ.pre 449 [.sl 2 (l.map bz.D),.str nm]∧Γ.val 449 [.sl 2 (l.map bz.D),.str nm]=.bool (J3 l nm)
def A3:az:=⟨1,8,[⟨1,none⟩,⟨2,none⟩,⟨3,none⟩],Hs,(sq (rg [gm bc,gm cse,gm cse] [(1,0),(2,1),(3,2)]) (sq (sq (r1 [gm s0,gx 357 [l0] bL] 4 1) (.cond s4 (sq (rg [gm s0,gm bV,gm l0,gm cse] [(1,1),(2,2),(3,3)]) .ret) .skip)) (sq (sq (r1 [gm s0,lG l0,cg l1 bc,gm l2,gmt 3 s0,bR 3 (.ixS l4 bc),bR 3 (bY l5 (i8 63)),dG l3 l6,gm l7,gmt 8 s0,bR 8 (.slS l9 (some bV) none),bR 8 (.call 357 [l10] bL),dG l8 gh] 5 12) (.cond s5 (sq (rt [gm s0,gn (.slS l0 (some bV) none),gm lM,gm l1,gm cse] [(1,2),(2,3),(3,4)]) .ret) .skip)) (sq (r1 [gm s0,gx 470 [l0,(i8 47)] gL,gm l1] 6 2) (sq (sq (r1 [gm s6,gl l0,aH l1 lM,gm l2,gmt 3 s6,bR 3 (.ia 1 l4 bc),jC 3 l5,bR 3 (.call 216 [l6] bL),dG l3 l7,gm l8,gmt 9 s6,bR 9 (.ia 1 l10 bV),jC 9 gh,bR 9 (.call 357 [iq] bL),dG l9 jD] 7 14) (.cond s7 (sq (rt [gm s6,ga 1 l0 bc,gd l1,gm s6,ga 1 l3 bV,gd l4,gm kr,gm l2,gm l5] [(1,6),(2,7),(3,8)]) .ret) .skip)) (sq (rg [gm bc,gm cse,gm cse] [(1,0),(2,1),(3,2)]) .ret))))))⟩
def w672 {Γ:Ctx}(hm:(Γ.at 0).aY)(h216:Ej Γ)(h357:Ab Γ)(h470:CB Γ)(s:ah)  (hp0:s.length≤1048576):c7 Γ A3 (.tup [.int .i64 (b6 s).1,.str (b6 s).2.1,.str (b6 s).2.2]) [.str s]:=by
 show bq _ _ _ [⟨_,_⟩,_,_,_,_,_,_,_] _;refine ai ?_;refine aQ ?_;refine ak (hc:=h357 _) ?_;refine aC ?_;refine ca (fun hc0=>?_) fun hc0=>?_
 ·refine bt ?_;refine bC (gF (congrArg (D.int .i64) ?_) (congrArg D.str ?_) (congrArg D.str ?_));all_goals rw[BP hc0]
 refine aI ?_;intro u0;refine av ?_;refine lW 0 ?_;refine ax ?_;refine fI 1 (hb:=fun h=>by simp at h;omega) ?_;refine ak (hc:=h357 _) ?_;refine au ?_;refine ca (fun hc1=>?_) fun hc1=>?_
 ·refine av ?_;refine fI 1 (hb:=fun h=>by omega) ?_;refine aI ?_;refine bC (gF (congrArg (D.int .i64) ?_) (congrArg D.str ?_) (congrArg D.str ?_));all_goals rw[BR hc0 hc1]
 refine av ?_;refine ak (hc:=h470 _ _ ?_) ?_;rotate_left;first|assumption|omega
 refine aA ?_;intro u1;refine av ?_;refine bO 0 ?_;refine aC ?_;refine ak (hc:=h216 _) ?_;refine av ?_;refine bO 1 ?_;refine aC ?_;refine ak (hc:=h357 _) ?_;refine au ?_;refine ca (fun hc2=>?_) fun hc2=>?_
 ·refine av ?_;refine bO 0 ?_;refine au ?_;refine bO 1 ?_;refine aA ?_;refine bC (gF (congrArg (D.int .i64) ?_) (congrArg D.str ?_) (congrArg D.str ?_));all_goals rw[BS hc0 hc1 hc2]
 refine aQ ?_;refine bC (gF (congrArg (D.int .i64) ?_) (congrArg D.str ?_) (congrArg D.str ?_));all_goals rw[BO hc0 hc1 hc2]
def Jl (Γ:Ctx):Prop:=∀(s:ah),(s.length≤1048576)→Γ.pre 672 [.str s]∧Γ.val 672 [.str s]=.tup [.int .i64 (b6 s).1,.str (b6 s).2.1,.str (b6 s).2.2]
end Go.Abs
end
section
namespace Go.Abs
open Go
def zj:az:=⟨2,9,[⟨2,none⟩],bL,(sq (r1 [gm cH] 2 0) (sq (sq (r1 [gm s1,gl l0,cg l1 tm,gm l2,dt 3 s1,bP 3 (.call 815 [l4] [[.sl 1 [.a]]]),bP 3 (.un .not l5),dL l3 l6] 3 7) (.cond s3 (sq (r1 [gm cH] 2 0) .ret) .skip)) (sq (sq (r1 [gm bc] 4 0) (.block 0 (.loop (sq (sq (r1 [gm s4,gm s1,gl l1,aJ l0 l2] 5 3) (ek s5 0)) (sq (.block 1 (sq (rg [gm s1,gm s4,ga 1 l0 l1,gd l2,gx 672 [l3] bL,gm l4,ge l5 0,ge l5 1,ge l5 2,gm l6,gm l7,gm l8] [(6,9),(7,10)]) (sq (r1 [gm s6,aH l0 bc,gm l1,dt 2 s6,bP 2 (bY l3 bV),dt 2 l4,gmt 5 s0,gmt 5 s7,bR 5 (.call 816 [l6,l7] [[.sl 2 [.a,.sl 1 [.a]]],[.a]]),bR 5 (.un .not l8),yD 2 l5 l9,dL l2 l10] 8 11) (.cond s8 (sq (r1 [gm cH] 2 0) .ret) .skip)))) (r1 [gm s4,ar l0 bV,gm l1] 4 2)))))) (sq (r1 [gm mX] 2 0) .ret))))⟩
def w671 {Γ:Ctx}(hm:(Γ.at 0).aY)(h672:Jl Γ)(h815:Jq Γ)(h816:Mn Γ)(l:List bz)(of:List ah)  (hp0:∀t∈of,t.length≤1048576):c7 Γ zj (.bool (iT l of)) [.sl 2 (l.map bz.D),.sl 1 (of.map D.str)]:=by
 show bq _ _ _ [⟨_,_⟩,⟨_,_⟩,_,_,_,_,_,_,_] _;refine ai ?_;refine aA ?_;intro u0;refine av ?_;refine ak (hc:=h815 _) ?_;refine av ?_;refine aq (fun hc0=>?_) (fun hc0=>?_)
 ·simp only[Bool.or_eq_true,decide_eq_true_eq,Bool.not_eq_true']at hc0;refine aI ?_;refine bp ?_;symm;simp only[iT];rcases hc0 with h|h
  ·rw[decide_eq_false (by omega)];rfl
  ·rw[h,Bool.and_false];rfl
 simp only[Bool.or_eq_false_iff,decide_eq_false_iff_not,Bool.not_eq_false']at hc0;refine aI ?_;have hb:iT l of=bJ (fun i=>iS l of[i]!) 0 of.length:=by simp only[iT,hc0.2];rw[decide_eq_true (by omega)];rfl
 refine aV hm (ι:=Nat) (fun i=>[⟨true,.sl 2 (l.map bz.D)⟩,⟨true,.sl 1 (of.map D.str)⟩,.un,.un,⟨true,.int .i64 (i:Nat)⟩,.un,.un,.un,.un]) (fun i=>[]) 10 (fun i=>i≤of.length∧iT l of=bJ (fun i=>iS l of[i]!) i of.length) (fun i=>of.length-i) 0 ⟨by omega,hb⟩ (cI []) ?_;rintro i ⟨hi,hr⟩;refine aI ?_;intro u1;refine au ?_;refine ca (fun hc1=>?_) fun hc1=>?_
 ·refine aQ ?_;refine ak (hc:=h672 of[i]! (hp0 _ (bw (by omega)))) ?_;refine uL ?_;refine ak (hc:=h816 _ _) ?_;refine ax ?_;refine wp_cond (fun hc2=>?_) (fun hc2=>?_)
  ·have hz:iS l of[i]! =false:=by simp only[iS,hc2];rfl
   refine aA ?_;refine bp ?_;rw[hr,aD (by omega),hz];rfl
  have hz:iS l of[i]! =true:=by simp only[iS,hc2];rfl
  refine bt ?_;exact⟨i+1,⟨by omega,by rw[hr,aD (by omega),hz];rfl⟩,by omega,(cI [])⟩
 refine aA ?_;refine bp ?_;rw[hr,bA (by omega)]
def L8 (Γ:Ctx):Prop:=∀(l:List bz)(of:List ah),(∀t∈of,t.length≤1048576)→Γ.pre 671 [.sl 2 (l.map bz.D),.sl 1 (of.map D.str)]∧Γ.val 671 [.sl 2 (l.map bz.D),.sl 1 (of.map D.str)]=.bool (iT l of)
def DA:az:=⟨1,6,fg,bL,(sq (r1 [gm cH] 1 0) (sq (sq (r1 [gm s0,gl l0,cg l1 AB] 2 2) (jh s2 cH)) (sq (sq (r1 [gm bc] 3 0) (.block 0 (.loop (sq (sq (r1 [gm s3,gm s0,gl l1,aJ l0 l2] 4 3) (ek s4 0)) (sq (.block 1 (sq (r2 [gm s0,gm s3,ga 2 l0 l1,gf 0 l2,gd l3,gx 357 [l4] bL,iR l5,gm l6,dt 7 s3,bP 7 (cC l8 bc),dt 7 l9,gmt 10 s0,gmt 10 s3,bR 10 (hZ iq bV),bR 10 (.ia 2 gh jD),kX 10 0 jZ,jC 10 lz,gmt 10 s0,gmt 10 s3,bR 10 (.ia 2 oC pd),kX 10 0 qk,jC 10 tt,bR 10 (rk mw uU),yD 7 l10 vJ,dL l7 zY,gm zZ,dt 25 s0,dt 25 s0,dt 25 s3,bP 25 (.ia 2 GC HD),gT 25 1 HE,hJ 25 J7,bP 25 (.call 671 [D8,NU] [[.sl 2 [.a,.sl 1 [.a]]],[.sl 1 [.a]]]),bP 25 (.un .not NV),dL BW l33] 5 34) (jh s5 cH))) (r1 [gm s3,ar l0 bV,gm l1] 3 2)))))) (rU mX))))⟩
def w459 {Γ:Ctx}(hm:(Γ.at 0).aY)(h357:Ab Γ)(h671:L8 Γ)(l:List bz)  (hp0:mj l):c7 Γ DA (.bool (eI l)) [.sl 2 (l.map bz.D)]:=by
 show bq _ _ _ [⟨_,_⟩,_,_,_,_,_] _;refine ai ?_;refine aA ?_;intro u0;refine au ?_;refine ca (fun hc0=>?_) fun hc0=>?_
 ·refine aI ?_;refine bp ?_;symm;simp only[eI];rw[decide_eq_false (by omega)];rfl
 refine aI ?_;have hb:eI l=bJ (gJ l) 0 l.length:=by simp only[eI];rw[decide_eq_true (by omega)];rfl
 refine aV hm (ι:=Nat) (fun i=>[⟨true,.sl 2 (l.map bz.D)⟩,.un,.un,⟨true,.int .i64 (i:Nat)⟩,.un,.un]) (fun i=>[]) 5 (fun i=>i≤l.length∧eI l=bJ (gJ l) i l.length) (fun i=>l.length-i) 0 ⟨by omega,hb⟩ (cI []) ?_;rintro i ⟨hi,hr⟩;refine aI ?_;intro u1;refine au ?_;refine ca (fun hc1=>?_) fun hc1=>?_
 ·refine bt ?_;refine ak (hc:=h357 _) ?_;refine bt ?_;refine bO (i-1) ?_;refine uL ?_;refine ak (hc:=h671 l l[i]!.of (hp0 _ (bw (by omega))).2.2) ?_;refine av ?_;refine eW (fun hc2=>?_) fun hc2=>?_
  ·refine aA ?_;refine bp ?_;have hz:gJ l i=false:=by
    simp only[gJ];revert hc2;generalize bI l[i]!.name=z0;generalize Op.bytesLess l[i-1]!.name l[i]!.name=z1;generalize iT l l[i]!.of=z2;by_cases e0:0<i<;>cases z0<;>cases z1<;>cases z2<;>simp_all
   rw[hr,aD (by omega),hz];rfl
  refine bt ?_;have hz:gJ l i=true:=by
   simp only[gJ];revert hc2;generalize bI l[i]!.name=z0;generalize Op.bytesLess l[i-1]!.name l[i]!.name=z1;generalize iT l l[i]!.of=z2;by_cases e0:0<i<;>cases z0<;>cases z1<;>cases z2<;>simp_all
  exact⟨i+1,⟨by omega,by rw[hr,aD (by omega),hz];rfl⟩,by omega,(cI [])⟩
 refine aA ?_;refine bp ?_;rw[hr,bA (by omega)]
def LN (Γ:Ctx):Prop:=∀(l:List bz),(mj l)→Γ.pre 459 [.sl 2 (l.map bz.D)]∧Γ.val 459 [.sl 2 (l.map bz.D)]=.bool (eI l)
def xa:az:=⟨1,12,[⟨1,none⟩,⟨2,none⟩,⟨3,none⟩],Hs,(sq (rg [gm bc,gm cse,gm cse] [(1,0),(2,1),(3,2)]) (sq (sq (r1 [gm s0,gx 349 [l0] bL] 4 1) (.cond s4 (sq (rg [gm s0,gm bV,gm l0,gm cse] [(1,1),(2,2),(3,3)]) .ret) .skip)) (sq (sq (rg [gm s0,gx 254 [l0,(cs [63])] gL,gm l1,ge l2 0,ge l2 1,gm l3,gm l4] [(6,5),(5,6)]) (sq (r1 [gm s5,gm l0,gmt 1 s6,bR 1 (.call 349 [l2] bL),dG l1 l3] 7 4) (.cond s7 (sq (rg [gm s6,gm lM,gm l0,gm cse] [(1,1),(2,2),(3,3)]) .ret) .skip))) (sq (sq (rg [gm s0,gx 487 [l0,(cs [47])] gL,gm l1,ge l2 0,ge l2 1,ge l2 2,gm l3,gm l4,gm l5] [(9,6),(10,7),(8,8)]) (sq (r1 [gm s8,gm l0,gmt 1 s9,bR 1 (.call 208 [l2] bL),dG l1 l3,gm l4,gmt 5 jR,bR 5 (.call 349 [l6] bL),dG l5 l7] 11 8) (.cond lf (sq (rg [gm s9,gm jR,gm kr,gm l0,gm l1] [(1,2),(2,3),(3,4)]) .ret) .skip))) (sq (rg [gm bc,gm cse,gm cse] [(1,0),(2,1),(3,2)]) .ret)))))⟩
def w448 {Γ:Ctx}(hm:(Γ.at 0).aY)(h208:GM Γ)(h254:Lx Γ)(h349:Aa Γ)(h487:LY Γ)(s:ah)  (hp0:s.length≤1048576):c7 Γ xa (.tup [.int .i64 (b6 s).1,.str (b6 s).2.1,.str (b6 s).2.2]) [.str s]:=by
 show bq _ _ _ [⟨_,_⟩,_,_,_,_,_,_,_,_,_,_,_] _;refine ai ?_;refine aQ ?_;refine ak (hc:=h349 _) ?_;refine aC ?_;refine ca (fun hc0=>?_) fun hc0=>?_
 ·refine bt ?_;refine bC (gF (congrArg (D.int .i64) ?_) (congrArg D.str ?_) (congrArg D.str ?_));all_goals rw[BP hc0]
 refine ax ?_;refine ak (hc:=h254 s [63] hp0 (by decide)) ?_;refine eB ?_;refine ak (hc:=h349 _) ?_;refine au ?_;refine ca (fun hc1=>?_) fun hc1=>?_
 ·refine bt ?_;refine bC (gF (congrArg (D.int .i64) ?_) (congrArg D.str ?_) (congrArg D.str ?_));all_goals rw[Hy hc0 hc1]
 refine ax ?_;refine ak (hc:=h487 s 47 hp0) ?_;refine kN ?_;refine ak (hc:=h208 _) ?_;refine av ?_;refine ak (hc:=h349 _) ?_;refine au ?_;refine ca (fun hc2=>?_) fun hc2=>?_
 ·refine cB ?_;refine bC (gF (congrArg (D.int .i64) ?_) (congrArg D.str ?_) (congrArg D.str ?_));all_goals rw[Hz hc0 hc1 hc2]
 refine aQ ?_;refine bC (gF (congrArg (D.int .i64) ?_) (congrArg D.str ?_) (congrArg D.str ?_));all_goals rw[Hx hc0 hc1 hc2]
def I5 (Γ:Ctx):Prop:=∀(s:ah),(s.length≤1048576)→Γ.pre 448 [.str s]∧Γ.val 448 [.str s]=.tup [.int .i64 (b6 s).1,.str (b6 s).2.1,.str (b6 s).2.2]
end Go.Abs
end
