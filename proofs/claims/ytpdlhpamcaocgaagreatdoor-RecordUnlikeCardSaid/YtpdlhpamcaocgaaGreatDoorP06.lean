/- A part of the proofs of the statements: RSpec12, RSpec13, RBldC, RSpec14, LQ, U1, T6, T7, LExt, T8, T9, T10, T1, T2, T3, T4, T5, T11, T12, T13, T14, T15, T16, T17, T18, T19, T20, T21, T22, T23, LPlain4, LPlain5, T24, T25, U2, U3, U4, U5, U6, U7, U8, U8b, U9, U10, U11. -/
import Derived.Test.YtpdlhpamcaocgaaGreatDoorP05
set_option linter.all false
set_option maxRecDepth 4000
namespace Go.Abs
def pW (l:List ah)(x:ah)(i:Nat):Int:=match(l.drop i).findIdx? (fun t=>decide (x=t))with
 |some k=>((i+k:Nat):Int)
 |none=>-1
def HW {l:List ah}{x:ah}{i:Nat}(h:i<l.length)(he:x=l[i]!):pW l x i=(i:Nat):=by
 unfold pW;rw[List.drop_eq_getElem_cons h,List.findIdx?_cons];have:x=l[i]:=by simpa[h]using he
 simp[←this]
def HX {l:List ah}{x:ah}{i:Nat}(h:i<l.length)(he:¬x=l[i]!):pW l x i=pW l x (i+1):=by
 unfold pW;have:¬x=l[i]:=by simpa[h]using he
 rw[List.drop_eq_getElem_cons h,List.findIdx?_cons];simp only[this,decide_false,Bool.false_eq_true,if_false];cases(l.drop (i+1)).findIdx? (fun t=>decide (x=t))with
 |none=>rfl
 |some k=>simp only[Option.map_some];congr 1;omega
def Fj {l:List ah}{x:ah}{i:Nat}(h:l.length≤i):pW l x i=-1:=by
 unfold pW;rw[List.drop_eq_nil_of_le h];rfl
def Fk (l:List ah)(x:ah):decide (0≤pW l x 0)=decide (x∈l):=by
 unfold pW;rw[List.drop_zero];cases h:l.findIdx? (fun t=>decide (x=t))with
 |none=>
  have:=List.findIdx?_eq_none_iff.1 h;have hn:x∉l:=fun hm=>by have:=this x hm;simp at this
  simp[hn]
 |some k=>
  obtain⟨hk,hx,_⟩:=List.findIdx?_eq_some_iff_getElem.1 h;have hm:x∈l:=by
   have:x=l[k]:=by simpa using hx
   rw[this];exact List.getElem_mem hk
  simp[hm]
structure Ld where
 ls:List ah
 at':Nat
 deriving Inhabited,DecidableEq
def Ld.D (r:Ld):D:=.agg [.sl 1 (r.ls.map D.str),.int .i64 (r.at':Nat)]
def Ld.rest (r:Ld):List ah:=r.ls.drop r.at'
def Ld.sm (r:Ld):Prop:=(r.at'≤r.ls.length∧r.ls.length≤1048577)∧∀t∈r.ls,t.length≤1048576
def Ld.to (r:Ld)(q:List ah):Ld:=⟨r.ls,r.ls.length-q.length⟩
def gH (n:Int)(t:ah):List ah:=if n<0 then ai t 32 else mG n.toNat (ai t 32)
def wY (n:Nat)(op:Bool)(t:ah):gH (if op=true then(n:Int)else-1) t=cl n op t:=by
 unfold gH cl;cases op
 ·rfl
 ·have:¬(n:Int)<0:=by omega
  simp[this]
def vw:Option (List ah×List ah)→D
 |none=>.ar
 |some (l,_)=>.sl 1 (l.map D.str)
def Ld.after (r:Ld)(o:Option (List ah×List ah)):Ld:=match o with
 |none=>r
 |some _=>⟨r.ls,r.at'+1⟩
def Ld.GB {r:Ld}(h:r.ls.length≤r.at'):r.rest=[]:=List.drop_eq_nil_of_le h
def Ld.nQ {r:Ld}(h:r.at'<r.ls.length):r.rest=r.ls[r.at']! ::r.ls.drop (r.at'+1):=by
 unfold Ld.rest;rw[List.drop_eq_getElem_cons h];simp[h]
def Eb (n:Nat)(op:Bool)(t:ah)(h:op=true→1≤n):1≤(cl n op t).length:=by
 have hs:1≤(ai t 32).length:=by
  exact eP 32 t []
 unfold cl;split
 ·rename_i ho;have:=h ho;unfold mG;split
  ·exact hs
  ·simp
 ·exact hs
def zk {w:ah}{n:Nat}{op:Bool}{t:ah}(h:((¬(cl n op t)[0]! =w∨((cl n op t).length:Int)<1)∨((0:Int)<n∧¬((cl n op t).length:Int)=n))∨[]∈cl n op t)(h1:1≤(cl n op t).length):eE w n op t=none:=by
 rw[eE,if_neg];rintro⟨a,b,c⟩;rcases h with((h|h)|h)|h
 ·exact h a
 ·omega
 ·rcases b with b|b<;>omega
 ·exact c h
def wq {w:ah}{n:Nat}{op:Bool}{t:ah}(h:(((cl n op t)[0]! =w∧¬((cl n op t).length:Int)<1)∧(¬(0:Int)<n∨((cl n op t).length:Int)=n))∧¬[]∈cl n op t):eE w n op t=some (cl n op t):=by
 rw[eE,if_pos ⟨h.1.1.1,by rcases h.1.2 with h|h<;>omega,h.2⟩]
def anyL (t:ah):Option (List ah):=match eE gO 5 true t with
 |some l=>if pV l=true then some l else none
 |none=>none
def No (p:ah→Option (List ah))(ls:List ah):Prop:=∀t r,ls=t::r→p t=none
def dn {w:ah}{n:Nat}{op:Bool}{ls l r:List ah}(h:bg w n op ls=some (l,r)):∃t,ls=t::r∧eE w n op t=some l:=by
 match ls,h with
 |[],h=>cases h
 |t::q,h=>
  simp only[bg]at h;split at h
  ·rename_i l' hl;simp only[Option.some.injEq,Prod.mk.injEq]at h;obtain⟨rfl,rfl⟩:=h;exact⟨t,rfl,hl⟩
  ·cases h
def Stop (s:Nat)(ls:List ah):Prop:=(s=2→No anyL ls∧No (eE fe 2 true) ls)∧(s=2∨s=3→No (eE cM 2 false) ls)∧(s=5→No (eE fe 2 true) ls)
def oa (m:List (Nat×aZ))(l:Nat)(t:List UInt8):Prop:=(∃u,look m l=some (.bld none 0 u)∧t=[])∨(∃l2 u,look m l=some (.bld (some l2) t.length u)∧look m l2=some (.row t))
@[go_sem] def dz (m:List (Nat×aZ))(l:Nat):List (Nat×aZ):=match look m l with
 |some (.bld (some l2) _ _)=>bO m l2
 |_=>m
@[go_sem] def mD (m:List (Nat×aZ))(l L:Nat)(t:List UInt8):List (Nat×aZ):=(L,.row t)::bT (dz m l) l (.bld (some L) t.length true)
def TrW (Wo:D)(s:List UInt8)(ds:List D)(st:St)(K:D→St→Prop):Prop:=∃l t,ds=[.ptr l 2 0 0,Wo]∧oa st.m l t∧l<st.nx∧s≠[]∧t.length+s.length≤1099511627776∧K .any ⟨st.nx+1,mD st.m l st.nx (t++s)⟩
def N9 (ds:List D)(st:St)(K:D→St→Prop):Prop:=∃s,TrW (.str s) s ds st K
def N8 (ds:List D)(st:St)(K:D→St→Prop):Prop:=∃c,TrW (.int .u8 c.toNat) [c] ds st K
def N7 (ds:List D)(st:St)(K:D→St→Prop):Prop:=∃l t,ds=[.ptr l 2 0 0]∧oa st.m l t∧t≠[]∧K (.str t) ⟨st.nx,bO (dz st.m l) l⟩
def JV (Γ:Ctx):Prop:=∀(ds:List D)(st:St)(K:D→St→Prop),N9 ds st K→Γ.tr 489 ds st K
def JZ (Γ:Ctx):Prop:=∀(ds:List D)(st:St)(K:D→St→Prop),N8 ds st K→Γ.tr 664 ds st K
def JR (Γ:Ctx):Prop:=∀(ds:List D)(st:St)(K:D→St→Prop),N7 ds st K→Γ.tr 452 ds st K
def Dk (b a:ah)(l:List ah)(h:a≠[]):aG b (a::l)≠[]:=by
 match l with
 |[]=>exact h
 |c::r=>
  rw[dG b a (c::r) (by simp)];intro e;have:=List.append_eq_nil_iff.1 e;exact h (List.append_eq_nil_iff.1 this.1).1
def xh (ws:List ah)(t:ah):Prop:=(aG [32] ws≠[]∧ws.length≤1048600)∧(∀w∈ws,w.length≤2097200)∧t.length+(aG [32] ws).length+1≤1099511627776
def xh.mk {a:ah}{l:List ah}{t:ah}(h1:a≠[])(h2:l.length≤99)(h3:∀w∈a::l,w.length≤2097200)(h4:t.length≤1000000000):xh (a::l) t:=by
 have h5:=ju 32 2097200 (a::l) h3;have h6:(a::l).length≤100:=by simp only[List.length_cons];omega
 have h7:=Nat.mul_le_mul_right (2097200+1) h6;exact⟨⟨Dk _ _ _ h1,by omega⟩,h3,by omega⟩
def JP (Γ:Ctx):Prop:=∀(ws:List ah)(t:ah)(l lw nx:Nat)(m:List (Nat×aZ))(K:D→St→Prop),oa m l t→look m lw=some (.buf 1 (ws.map D.str))→l<nx→lw<nx→xh ws t→
 K (.tup []) ⟨nx+1,mD (bO m lw) l nx (t++bz ws)⟩→Γ.tr 450 [.ptr l 2 0 0,.own lw 1 0 ws.length] ⟨nx,m⟩ K
def qS {m:List (Nat×aZ)}{l L:Nat}{t:List UInt8}(h:l≠L):look (mD m l L t) l=some (.bld (some L) t.length true)∧look (mD m l L t) L=some (.row t):=by
 constructor
 ·simp only[mD,look,if_neg (fun e=>h (Eq.symm e))]
  haveI:bW:={gd:=fun _=>True,le:=fun _ _ _ _ _=>trivial}
  rw[br,if_pos rfl]
 ·simp only[mD,look,if_pos]
def Hs {m:List (Nat×aZ)}{l L:Nat}{t:List UInt8}(h:l≠L):oa (mD m l L t) l t:=.inr ⟨L,true,qS h⟩
end Go.Abs
section
namespace Go.Abs
def ae {p:Prop}(h:p:=by exact rfl):p:=h
def lN {p:Prop}(h:p:=by repeat(first|exact c7.nil|refine c7.un ?_|refine c7.eq (by exact rfl) ?_)):p:=h
def bY {p:Prop}(h:p:=by first|exact rfl|exact bt (fun _=>rfl) _):p:=h
def dV {p:Prop}(h:p:=by repeat(first|exact c7.nil|refine c7.un ?_|refine c7.eq (by exact rfl) ?_|refine c7.nl (by exact rfl) (by exact rfl) ?_)):p:=h
def iK {p:Prop}(h:p:=by repeat' first|exact trivial|exact rfl|refine And.intro ?_ ?_):p:=h
def sC {p:Prop}(h:p:=by repeat' first|exact trivial|exact rfl|exact Nat.le_refl _|refine And.intro ?_ ?_):p:=h
def zv {p:Prop}(h:p:=by repeat(first|exact aC.nil|refine aC.de (by exact rfl) (by exact rfl) (by first|exact rfl|exact bt (fun _=>rfl) _) ?_|refine aC.mr (by exact rfl) (by exact rfl) (by exact rfl) ?_|refine aC.qj (by exact rfl) (by exact rfl) (by exact rfl) (by exact rfl) ?_)):p:=h
def b0 {p:Prop} [Decidable p]:(decide p=true)=p:=decide_eq_true_eq
def b1 {p:Prop} [Decidable p]:decide p=false↔¬p:=decide_eq_false_iff_not
def b2 (b:Bool):((!b)=true)=(b=false):=Bool.not_eq_true' b
def b3 (b:Bool):((!b)=false)=(b=true):=Bool.not_eq_false' b
def b4 (b:Bool):(¬(b=false))=(b=true):=Bool.not_eq_false b
def b5 (a b:Bool):((a ||b)=true)=(a=true∨b=true):=Bool.or_eq_true a b
end Go.Abs
namespace Go.Abs
abbrev dK (Γ:Ctx)(a:aB)(d:D)(ds:List D):Prop:=bB (Γ.at 0) a.body (Ke a d) (eK a ds) ⟨0,[]⟩
def cj {a:aB}{d d2:D}{e:Ex}{nx:Nat}{m:List (Nat×aZ)}{env:List a7}(h:d2=d)(he:e.home:=by exact trivial)(h1:mg m env a.res:=by exact sC)(h2:xb a env m:=by exact iK)(h3:Ee a env m=d2:=by exact rfl):Ke a d e env ⟨nx,m⟩:=Lo he h1 h2 (h3.trans h)
def bx {a:aB}{d d2:Bool}{e:Ex}{nx:Nat}{m:List (Nat×aZ)}{env:List a7}(h:d2=d)(he:e.home:=by exact trivial)(h1:mg m env a.res:=by exact sC)(h2:xb a env m:=by exact iK)(h3:Ee a env m=.bool d2:=by exact rfl):Ke a (.bool d) e env ⟨nx,m⟩:=cj (congrArg _ h) he h1 h2 h3
def cA {a:aB}{d d2:List UInt8}{e:Ex}{nx:Nat}{m:List (Nat×aZ)}{env:List a7}(h:d2=d)(he:e.home:=by exact trivial)(h1:mg m env a.res:=by exact sC)(h2:xb a env m:=by exact iK)(h3:Ee a env m=.str d2:=by exact rfl):Ke a (.str d) e env ⟨nx,m⟩:=cj (congrArg _ h) he h1 h2 h3
def iq {a:aB}{d d2:Int}{e:Ex}{nx:Nat}{m:List (Nat×aZ)}{env:List a7}(h:d2=d)(he:e.home:=by exact trivial)(h1:mg m env a.res:=by exact sC)(h2:xb a env m:=by exact iK)(h3:Ee a env m=.int .i64 d2:=by exact rfl):Ke a (.int .i64 d) e env ⟨nx,m⟩:=cj (congrArg _ h) he h1 h2 h3
def dT {lo c nx nx2:Nat}{env env2:List a7}{m m2:List (Nat×aZ)}(σ:List (Nat×Nat))(hc:nx2=c:=by exact ae)(h:eU lo c σ=true:=by exact ae)(he:c7 lo σ env env2:=by exact dV)(hm:aC lo c σ m m2:=by exact zv):aP lo env ⟨nx,m⟩ env2 ⟨nx2,m2⟩:=aP.to σ hc h he hm
def r9 {Γ:Ctx}{draw f:Bool}{r:List GI}{env rs:List a7}{nx:Nat}{m:List (Nat×aZ)}{K:List a7→St→Prop}{g:Option (Nat×Bool)}{x y:Src}{fx fy:Bool}{a b:List UInt8}(h:av Γ draw r env (⟨f,.str (a++b)⟩::rs) nx m K)(hg:GF rs g f:=by first|exact rfl|exact⟨_,_,rfl,rfl⟩)(hx:bG env rs x=⟨fx,.str a⟩:=by exact rfl)(hy:bG env rs y=⟨fy,.str b⟩:=by exact rfl)(kx:f=true→fx=true:=by first|exact fun _=>rfl|exact fun h=>h|(intro h;simp_all))(ky:f=true→fy=true:=by first|exact fun _=>rfl|exact fun h=>h|(intro h;simp_all))(hb:f=true→a.length+b.length≤9223372036854775807:=by intro _;simp only[List.length_append,List.length_cons,List.length_nil];omega):av Γ draw (⟨.bin .add x y,g⟩::r) env rs nx m K:=c9 h hg hx hy kx ky hb
end Go.Abs
namespace Go.Abs
section
variable {Γ:Ctx} {Q:Ex→List a7→St→Prop}
def cmN {env rs:List a7}:EM env rs []=env:=rfl
def cmC {s p:Nat}{r:List (Nat×Nat)}{env rs env1 env':List a7}{f:Bool}{d:D}(e:bG [] rs (.l p)=⟨f,d⟩)(hs:env.set s ⟨f,d⟩=env1)(h:EM env1 rs r=env'):EM env rs ((s,p)::r)=env':=by
 simp only[EM,e,hs,h]
def rrrg {draw:Bool}{cm:List (Nat×Nat)}{b:AC}{nx nx':Nat}{m:List (Nat×aZ)}{rs env eK env':List a7}(h:bB Γ b Q env' ⟨nx',m⟩)
  (he:EM env rs cm=env':=by repeat(first|apply cmC (by exact rfl) (by simp only[List.set_cons_zero,List.set_cons_succ];exact rfl)|with_reducible exact cmN)) (hn:nx+rs.length=nx':=by simp only[List.length_cons,List.length_nil,Nat.reduceAdd];exact rfl):av Γ draw [] eK rs nx m (fun vs st'=>bB Γ b Q (eJ env vs cm) st'):=
 IH h he hn
def rrrh {draw:Bool}{cm:List (Nat×Nat)}{nx nx':Nat}{m:List (Nat×aZ)}{rs env eK env':List a7}(h:Q .normal env' ⟨nx',m⟩)
  (he:EM env rs cm=env':=by repeat(first|apply cmC (by exact rfl) (by simp only[List.set_cons_zero,List.set_cons_succ];exact rfl)|with_reducible exact cmN)) (hn:nx+rs.length=nx':=by simp only[List.length_cons,List.length_nil,Nat.reduceAdd];exact rfl):av Γ draw [] eK rs nx m (fun vs st'=>Q .normal (eJ env vs cm) st'):=
 II h he hn
end
def Fam (_:Prop):Type:=Unit
def sf {q:Prop}:Fam q:=()
structure Hid (q:Prop)(f:Fam q):Prop where
 val:q
section
variable {Γ:Ctx} {draw b1:Bool} {r:List GI} {env rs:List a7} {nx n0 n1:Nat} {m:List (Nat×aZ)} {K:List a7→St→Prop} {g:Option (Nat×Bool)} {x0 x1 x2:Src}
def tg0 {Γ:Ctx}{a:AC}{Q:Ex→List a7→St→Prop}{env:List a7}{st:St}(h:bB Γ a Q env st):bB Γ a Q env st:=h
def tg1 (h:av Γ draw (⟨.mv x0,g⟩::r) env rs nx m K):av Γ draw (⟨.mv x0,g⟩::r) env rs nx m K:=h
def tg2 (h:av Γ draw [] env rs nx m K):av Γ draw [] env rs nx m K:=h
def tg3 (h:av Γ draw (⟨.fa n0 x1,g⟩::r) env rs nx m K):av Γ draw (⟨.fa n0 x1,g⟩::r) env rs nx m K:=h
def tg4 (h:av Γ draw (⟨.ld n0 b1 x2,g⟩::r) env rs nx m K):av Γ draw (⟨.ld n0 b1 x2,g⟩::r) env rs nx m K:=h
def tg5 (h:av Γ draw (⟨.bin .lss x0 x1,g⟩::r) env rs nx m K):av Γ draw (⟨.bin .lss x0 x1,g⟩::r) env rs nx m K:=h
def tg6 (h:av Γ draw (⟨.bin .eql x0 x1,g⟩::r) env rs nx m K):av Γ draw (⟨.bin .eql x0 x1,g⟩::r) env rs nx m K:=h
def tg7 (h:av Γ draw (⟨.bin .add x0 x1,g⟩::r) env rs nx m K):av Γ draw (⟨.bin .add x0 x1,g⟩::r) env rs nx m K:=h
def tg8 (h:av Γ draw (⟨.bin .gtr x0 x1,g⟩::r) env rs nx m K):av Γ draw (⟨.bin .gtr x0 x1,g⟩::r) env rs nx m K:=h
def tg9 (h:av Γ draw (⟨.bin .neq x0 x1,g⟩::r) env rs nx m K):av Γ draw (⟨.bin .neq x0 x1,g⟩::r) env rs nx m K:=h
def tg10 (h:av Γ draw (⟨.bin .leq x0 x1,g⟩::r) env rs nx m K):av Γ draw (⟨.bin .leq x0 x1,g⟩::r) env rs nx m K:=h
def tg11 (h:av Γ draw (⟨.bin .geq x0 x1,g⟩::r) env rs nx m K):av Γ draw (⟨.bin .geq x0 x1,g⟩::r) env rs nx m K:=h
def tg12 (h:av Γ draw (⟨.bin .sub x0 x1,g⟩::r) env rs nx m K):av Γ draw (⟨.bin .sub x0 x1,g⟩::r) env rs nx m K:=h
def tg13 (h:av Γ draw (⟨.ext x0 n1,g⟩::r) env rs nx m K):av Γ draw (⟨.ext x0 n1,g⟩::r) env rs nx m K:=h
def tg14 (h:av Γ draw (⟨.pick x0 x1 (.c (.bool false)),g⟩::r) env rs nx m K):av Γ draw (⟨.pick x0 x1 (.c (.bool false)),g⟩::r) env rs nx m K:=h
def tg15 (h:av Γ draw (⟨.pick x0 (.c (.bool true)) x1,g⟩::r) env rs nx m K):av Γ draw (⟨.pick x0 (.c (.bool true)) x1,g⟩::r) env rs nx m K:=h
def tg16 (h:av Γ draw (⟨.un .not x0,g⟩::r) env rs nx m K):av Γ draw (⟨.un .not x0,g⟩::r) env rs nx m K:=h
def tg17 (h:av Γ draw (⟨.nilck x0,g⟩::r) env rs nx m K):av Γ draw (⟨.nilck x0,g⟩::r) env rs nx m K:=h
def tg18 (h:av Γ draw (⟨.box n0 x1,g⟩::r) env rs nx m K):av Γ draw (⟨.box n0 x1,g⟩::r) env rs nx m K:=h
def tg19 (h:av Γ draw (⟨.ia n0 x1 x2,g⟩::r) env rs nx m K):av Γ draw (⟨.ia n0 x1 x2,g⟩::r) env rs nx m K:=h
def tg20 (h:av Γ draw (⟨.ixS x0 x1,g⟩::r) env rs nx m K):av Γ draw (⟨.ixS x0 x1,g⟩::r) env rs nx m K:=h
def tg21 (h:av Γ draw (⟨.st n0 x1 x2,g⟩::r) env rs nx m K):av Γ draw (⟨.st n0 x1 x2,g⟩::r) env rs nx m K:=h
def tg22 (h:av Γ draw (⟨.len x0,g⟩::r) env rs nx m K):av Γ draw (⟨.len x0,g⟩::r) env rs nx m K:=h
def tg23 (h:av Γ draw (⟨.lenS x0,g⟩::r) env rs nx m K):av Γ draw (⟨.lenS x0,g⟩::r) env rs nx m K:=h
def tg24 (h:av Γ draw (⟨.rng x0,g⟩::r) env rs nx m K):av Γ draw (⟨.rng x0,g⟩::r) env rs nx m K:=h
def tg25 (h:av Γ draw (⟨.s2b x0,g⟩::r) env rs nx m K):av Γ draw (⟨.s2b x0,g⟩::r) env rs nx m K:=h
def tg26 (h:av Γ draw (⟨.mkB,g⟩::r) env rs nx m K):av Γ draw (⟨.mkB,g⟩::r) env rs nx m K:=h
def tg27 (h:av Γ draw (⟨.app n0 x1 x2,g⟩::r) env rs nx m K):av Γ draw (⟨.app n0 x1 x2,g⟩::r) env rs nx m K:=h
end
def ay {p q:Prop}(k:q)(h:Hid q sf→p:=by
 intro h;first
 |((with_reducible refine tg0 ?_);first|with_reducible exact ak h.1|with_reducible exact GV h.1|with_reducible exact By h.1|with_reducible exact LB h.1|with_reducible exact Ed h.1|with_reducible exact wp_ret h.1|with_reducible exact wp_skip h.1|with_reducible exact Bx h.1|with_reducible exact wp_exit h.1|with_reducible exact Af h.1 hm|with_reducible exact Ec h.1 hm)
 |((with_reducible refine tg1 ?_);(refine r_mv ?_;exact h.1))
 |((with_reducible refine tg2 ?_);first|(refine rrrh ?_;exact h.1)|(refine rrrg ?_;exact h.1))
 |((with_reducible refine tg3 ?_);first|(refine NW ?_;exact h.1)|(refine NX ?_;exact h.1))
 |((with_reducible refine tg4 ?_);first|exact cu (.int _ _) h.1|exact cu (.str _) h.1|(refine bQ (v:=.str _) ?_;exact h.1)|(refine ec (v:=.str _) ?_;exact h.1)|(refine bQ (v:=.int _ _) ?_;exact h.1)|(refine ec (v:=.int _ _) ?_;exact h.1)|exact cu (.sl _ _) h.1|exact cu (.own _ _ _ _) h.1|exact cu (.bool _) h.1|(refine bQ (v:=.sl _ _) ?_;exact h.1)|(refine ec (v:=.sl _ _) ?_;exact h.1)|(refine bQ (v:=.bool _) ?_;exact h.1)|(refine ec (v:=.bool _) ?_;exact h.1)|exact cE h.1|exact cu .ar h.1)
 |((with_reducible refine tg5 ?_);first|(refine Lg ?_;exact h.1)|(refine Lh ?_;exact h.1))
 |((with_reducible refine tg6 ?_);first|(refine K4 ?_;exact h.1)|(refine K5 ?_;exact h.1))
 |((with_reducible refine tg7 ?_);(refine IB ?_;exact h.1))
 |((with_reducible refine tg8 ?_);first|(refine Bc ?_;exact h.1)|(refine Bd ?_;exact h.1))
 |((with_reducible refine tg9 ?_);first|(refine Li ?_;exact h.1)|(refine Lj ?_;exact h.1))
 |((with_reducible refine tg10 ?_);first|(refine Lb ?_;exact h.1)|(refine Lc ?_;exact h.1))
 |((with_reducible refine tg11 ?_);first|(refine K6 ?_;exact h.1)|(refine K7 ?_;exact h.1))
 |((with_reducible refine tg12 ?_);(refine ID ?_;exact h.1))
 |((with_reducible refine tg13 ?_);first|exact fS (.int _ _) h.1|exact fS (.str _) h.1|exact fS (.bool _) h.1)
 |((with_reducible refine tg14 ?_);(refine NT ?_;exact h.1))
 |((with_reducible refine tg15 ?_);(refine r_or ?_;exact h.1))
 |((with_reducible refine tg16 ?_);(refine N1 ?_;exact h.1))
 |((with_reducible refine tg17 ?_);first|(refine Lk ?_;exact h.1)|(refine Ll ?_;exact h.1))
 |((with_reducible refine tg18 ?_);(refine NU ?_;exact h.1))
 |((with_reducible refine tg19 ?_);first|exact cK _ h.1|exact Gm h.1|exact k8 _ h.1|exact K8 h.1)
 |((with_reducible refine tg20 ?_);first|exact Ce _ h.1|exact K9 h.1)
 |((with_reducible refine tg21 ?_);exact aJ _ h.1)
 |((with_reducible refine tg22 ?_);first|exact Gq fun a=>(h.1:_→_) (a rfl rfl)|exact Gr fun a=>(h.1:_→_) (a rfl rfl)|(refine La ?_;exact h.1))
 |((with_reducible refine tg23 ?_);exact Gt fun a=>(h.1:_→_) (a rfl rfl))
 |((with_reducible refine tg24 ?_);(refine N3 ?_;exact h.1))
 |((with_reducible refine tg25 ?_);(refine N4 ?_;exact h.1))
 |((with_reducible refine tg26 ?_);(refine NY ?_;exact h.1))
 |((with_reducible refine tg27 ?_);(refine iX ?_;exact h.1))
 |with_reducible exact BQ.normal h.1|with_reducible exact BQ.ret h.1|with_reducible exact LQ.normal h.1|with_reducible exact LQ.out h.1|with_reducible exact LQ.ret h.1|with_reducible exact BQ.out h.1|with_reducible exact Ah.normal h.1|with_reducible exact Ah.ret h.1|with_reducible exact Ai.normal h.1|with_reducible exact Ai.ret h.1|with_reducible exact Ah.out h.1|with_reducible exact Ai.out h.1|with_reducible exact CQ.normal h.1|with_reducible exact CQ.ret h.1|with_reducible exact CQ.other h.1|((with_reducible refine BQ.other ?_ h.1);exact rfl)|((with_reducible refine LQ.other ?_ h.1);exact rfl)|((with_reducible refine Ah.other ?_ h.1);exact rfl)|((with_reducible refine Ai.other ?_ h.1);exact rfl)):p:=h ⟨k⟩
def n9 {p q:Prop}(k:q)(h:Hid q sf→p:=by intro h;first|exact Gq fun _=>h.1|exact Gt fun _=>h.1|exact Gr fun _=>h.1):p:=h ⟨k⟩
section
variable {Γ:Ctx} {Q:Ex→List a7→St→Prop}
end
def iB:(∀{p:Prop} [Decidable p],(decide p=true)=p)∧(∀{p:Prop} [Decidable p],decide p=false↔¬p)∧(∀b:Bool,((!b)=true)=(b=false))∧(∀b:Bool,((!b)=false)=(b=true))∧(∀b:Bool,(¬(b=false))=(b=true))∧(∀a b:Bool,((a ||b)=true)=(a=true∨b=true))∧(∀{a b:Bool},(a ||b)=false↔a=false∧b=false)∧(∀a b:Bool,((a&&b)=true)=(a=true∧b=true))∧(∀{a b:Bool},(a&&b)=false↔a=false∨b=false)∧(∀b:Bool,(¬(b=true))=(b=false))∧(∀b:Bool,(true&&b)=b)∧∀b:Bool,(b&&true)=b:=
 ⟨decide_eq_true_eq,decide_eq_false_iff_not,Bool.not_eq_true',Bool.not_eq_false',Bool.not_eq_false,Bool.or_eq_true,Bool.or_eq_false_iff,Bool.and_eq_true,Bool.and_eq_false_iff,Bool.not_eq_true,Bool.true_and,Bool.and_true⟩
section
variable {Γ:Ctx} {Q:Ex→List a7→St→Prop} {env:List a7} {st:St}
def cG {c:Src}{a b r:AC}{t:Bool}{c1 c2:Prop}(h1:c1→bB Γ (.seq a r) Q env st)(h2:c2→bB Γ (.seq b r) Q env st)(hc:bG env [] c=⟨true,.bool t⟩:=by exact rfl)(e1:t=true→c1:=by intro h;(try simp only[iB]at h);exact h)(e2:t=false→c2:=by intro h;(try simp only[iB]at h);exact h):bB Γ (.seq (.cond c a b) r) Q env st:=aq (fun h=>h1 (e1 h)) (fun h=>h2 (e2 h)) hc
def gw {c:Src}{a b:AC}{t:Bool}{c1 c2:Prop}(h1:c1→bB Γ a Q env st)(h2:c2→bB Γ b Q env st)(hc:bG env [] c=⟨true,.bool t⟩:=by exact rfl)(e1:t=true→c1:=by intro h;(try simp only[iB]at h);exact h)(e2:t=false→c2:=by intro h;(try simp only[iB]at h);exact h):bB Γ (.cond c a b) Q env st:=wp_cond (fun h=>h1 (e1 h)) (fun h=>h2 (e2 h)) hc
end
end Go.Abs
namespace Go.Abs
def ax {p q:Prop}(k:q)(h:Hid q sf→p:=by intro h;(iterate 2 refine ay ?_);exact h.1):p:=h ⟨k⟩
def az {p q:Prop}(k:q)(h:Hid q sf→p:=by intro h;(iterate 3 refine ay ?_);exact h.1):p:=h ⟨k⟩
def aA {p q:Prop}(k:q)(h:Hid q sf→p:=by intro h;(iterate 4 refine ay ?_);exact h.1):p:=h ⟨k⟩
def aQ {p q:Prop}(k:q)(h:Hid q sf→p:=by intro h;(iterate 5 refine ay ?_);exact h.1):p:=h ⟨k⟩
def aO {p q:Prop}(k:q)(h:Hid q sf→p:=by intro h;(iterate 6 refine ay ?_);exact h.1):p:=h ⟨k⟩
def bc {p q:Prop}(k:q)(h:Hid q sf→p:=by intro h;(iterate 7 refine ay ?_);exact h.1):p:=h ⟨k⟩
def b8 {p q:Prop}(k:q)(h:Hid q sf→p:=by intro h;(iterate 8 refine ay ?_);exact h.1):p:=h ⟨k⟩
def dA {p q:Prop}(k:q)(h:Hid q sf→p:=by intro h;(iterate 9 refine ay ?_);exact h.1):p:=h ⟨k⟩
def jj {p q:Prop}(k:q)(h:Hid q sf→p:=by intro h;(iterate 10 refine ay ?_);exact h.1):p:=h ⟨k⟩
def gI {p q:Prop}(k:q)(h:Hid q sf→p:=by intro h;(iterate 11 refine ay ?_);exact h.1):p:=h ⟨k⟩
def gJ {p q:Prop}(k:q)(h:Hid q sf→p:=by intro h;(iterate 12 refine ay ?_);exact h.1):p:=h ⟨k⟩
def lZ {p q:Prop}(k:q)(h:Hid q sf→p:=by intro h;(iterate 13 refine ay ?_);exact h.1):p:=h ⟨k⟩
def xd {p q:Prop}(k:q)(h:Hid q sf→p:=by intro h;(iterate 14 refine ay ?_);exact h.1):p:=h ⟨k⟩
def xe {p q:Prop}(k:q)(h:Hid q sf→p:=by intro h;(iterate 15 refine ay ?_);exact h.1):p:=h ⟨k⟩
def xf {p q:Prop}(k:q)(h:Hid q sf→p:=by intro h;(iterate 16 refine ay ?_);exact h.1):p:=h ⟨k⟩
def CD {p q:Prop}(k:q)(h:Hid q sf→p:=by intro h;(iterate 17 refine ay ?_);exact h.1):p:=h ⟨k⟩
def JD {p q:Prop}(k:q)(h:Hid q sf→p:=by intro h;(iterate 18 refine ay ?_);exact h.1):p:=h ⟨k⟩
def JE {p q:Prop}(k:q)(h:Hid q sf→p:=by intro h;(iterate 22 refine ay ?_);exact h.1):p:=h ⟨k⟩
def Of {p q:Prop}(k:q)(h:Hid q sf→p:=by intro h;(iterate 24 refine ay ?_);exact h.1):p:=h ⟨k⟩
def JF {p q:Prop}(k:q)(h:Hid q sf→p:=by intro h;(iterate 25 refine ay ?_);exact h.1):p:=h ⟨k⟩
def Og {p q:Prop}(k:q)(h:Hid q sf→p:=by intro h;(iterate 26 refine ay ?_);exact h.1):p:=h ⟨k⟩
def GY {p q:Prop}(k:q)(h:Hid q sf→p:=by intro h;(iterate 28 refine ay ?_);exact h.1):p:=h ⟨k⟩
def JG {p q:Prop}(k:q)(h:Hid q sf→p:=by intro h;(iterate 36 refine ay ?_);exact h.1):p:=h ⟨k⟩
end Go.Abs
namespace Go.Abs
abbrev s0:Src:=.s 0
abbrev s1:Src:=.s 1
abbrev s2:Src:=.s 2
abbrev s3:Src:=.s 3
abbrev s4:Src:=.s 4
abbrev s5:Src:=.s 5
abbrev s6:Src:=.s 6
abbrev s7:Src:=.s 7
abbrev s8:Src:=.s 8
abbrev s9:Src:=.s 9
abbrev lf:Src:=.s 10
abbrev n7:Src:=.s 11
abbrev mi:Src:=.s 12
abbrev uL:Src:=.s 13
abbrev td:Src:=.s 14
abbrev wD:Src:=.s 15
abbrev Co:Src:=.s 16
abbrev ym:Src:=.s 17
abbrev D0:Src:=.s 18
abbrev Lp:Src:=.s 19
abbrev G2:Src:=.s 20
abbrev s21:Src:=.s 21
abbrev s22:Src:=.s 22
abbrev s23:Src:=.s 23
abbrev LP:Src:=.s 24
abbrev LR:Src:=.s 25
abbrev N5:Src:=.s 26
abbrev s27:Src:=.s 27
abbrev s28:Src:=.s 28
abbrev s29:Src:=.s 29
abbrev Jx:Src:=.s 30
abbrev s31:Src:=.s 31
abbrev s32:Src:=.s 32
abbrev s33:Src:=.s 33
abbrev s34:Src:=.s 34
abbrev s35:Src:=.s 35
abbrev s36:Src:=.s 36
abbrev s37:Src:=.s 37
abbrev s38:Src:=.s 38
abbrev l0:Src:=.l 0
abbrev l1:Src:=.l 1
abbrev l2:Src:=.l 2
abbrev l3:Src:=.l 3
abbrev l4:Src:=.l 4
abbrev l5:Src:=.l 5
abbrev l6:Src:=.l 6
abbrev l7:Src:=.l 7
abbrev l8:Src:=.l 8
abbrev l9:Src:=.l 9
abbrev l10:Src:=.l 10
abbrev jx:Src:=.l 11
abbrev kT:Src:=.l 12
abbrev mw:Src:=.l 13
abbrev nJ:Src:=.l 14
abbrev ot:Src:=.l 15
abbrev qk:Src:=.l 16
abbrev ve:Src:=.l 17
abbrev we:Src:=.l 18
abbrev za:Src:=.l 19
abbrev AS:Src:=.l 20
abbrev B0:Src:=.l 21
abbrev Ej:Src:=.l 22
abbrev H7:Src:=.l 23
abbrev H8:Src:=.l 24
abbrev H9:Src:=.l 25
abbrev KH:Src:=.l 26
abbrev LK:Src:=.l 27
abbrev LL:Src:=.l 28
abbrev LM:Src:=.l 29
abbrev NN:Src:=.l 30
abbrev l31:Src:=.l 31
abbrev l32:Src:=.l 32
abbrev l33:Src:=.l 33
abbrev l34:Src:=.l 34
abbrev gm (x:Src):GI:=⟨.mv x,none⟩
abbrev gn (x:aw):GI:=⟨x,none⟩
abbrev i6 (n:Int):Src:=.c (.int .i64 n)
abbrev cs (s:List UInt8):Src:=.c (.str s)
abbrev gd (x:Src):GI:=⟨.ld 1 false x,none⟩
abbrev gk (n:Nat)(b:Bool)(x:Src):GI:=⟨.ld n b x,none⟩
abbrev gf (n:Nat)(x:Src):GI:=⟨.fa n x,none⟩
abbrev gl (x:Src):GI:=⟨.len x,none⟩
abbrev ga (n:Nat)(x y:Src):GI:=⟨.ia n x y,none⟩
abbrev ge (x:Src)(n:Nat):GI:=⟨.ext x n,none⟩
abbrev gb (n:Nat)(x:Src):GI:=⟨.box n x,none⟩
abbrev gc (x:Src):GI:=⟨.nilck x,none⟩
abbrev gt (n:Nat)(x y:Src):GI:=⟨.st n x y,none⟩
abbrev gx (n:Nat)(x:List Src)(y:List (List Sh)):GI:=⟨.call n x y,none⟩
abbrev rg (x:List GI)(y:List (Nat×Nat)):AC:=.reg false x y
abbrev rt (x:List GI)(y:List (Nat×Nat)):AC:=.reg true x y
abbrev pC (x y:Src):aw:=.bin .lss x y
abbrev cR (x y:Src):aw:=.bin .eql x y
abbrev BH (x y:Src):aw:=.bin .add x y
abbrev dw (x y:Src):aw:=.bin .gtr x y
abbrev fo (x y:Src):aw:=.bin .neq x y
abbrev mA (x y:Src):aw:=.bin .leq x y
abbrev yz (x y:Src):aw:=.bin .geq x y
abbrev mB (x y:Src):aw:=.bin .sub x y
abbrev EF (x y:Src):aw:=.bin .and x y
abbrev cU:Src:=.c (.bool false)
abbrev rC:Src:=.c (.bool true)
abbrev cse:Src:=.c (.str [])
abbrev bH:Src:=.c (.int .i64 0)
abbrev ca:Src:=.c (.int .i64 1)
abbrev kR:Src:=.c (.int .i64 2)
abbrev kG:Src:=.c (.int .i64 3)
abbrev vc:Src:=.c (.int .i64 4)
abbrev BW:Src:=.c (.int .i64 5)
abbrev AP:Src:=.c (.int .i64 6)
abbrev KD:Src:=.c (.int .i64 7)
abbrev HV:Src:=.c (.int .i64 8)
abbrev BX:Src:=.c (.int .i64 9)
abbrev gmt (n:Nat)(x:Src):GI:=⟨.mv x,some (n,true)⟩
abbrev jZ (n:Nat)(x:Src):GI:=⟨.ld 1 false x,some (n,true)⟩
abbrev kd (n o:Nat)(x:Src):GI:=⟨.fa o x,some (n,true)⟩
abbrev cw (n:Nat)(x:aw):GI:=⟨x,some (n,true)⟩
abbrev fu (n:Nat)(x:Src):GI:=⟨.mv x,some (n,false)⟩
abbrev mc (n:Nat)(x:Src):GI:=⟨.ld 1 false x,some (n,false)⟩
abbrev kQ (n o:Nat)(x:Src):GI:=⟨.fa o x,some (n,false)⟩
abbrev cH (n:Nat)(x:aw):GI:=⟨x,some (n,false)⟩
abbrev sq (a b:AC):AC:=.seq a b
abbrev AN (x:Src):AC:=.seq (.reg false [⟨.mv x,none⟩] [(1,0)]) .ret
abbrev oo (c x:Src):AC:=.cond c (.seq (.reg false [⟨.mv x,none⟩] [(1,0)]) .ret) .skip
abbrev cq:List (List Sh):=[[.a]]
abbrev Kz:List (List Sh):=[[.a,.a,.a,.a,.a]]
abbrev KA:List (List Sh):=[[.a,.a,.a,.a,.a,.a,.a]]
abbrev jd:List (List Sh):=[[.a],[.a]]
abbrev NH:List (List Sh):=[[.a],[.a],[.a]]
abbrev gp (c x:Src):GI:=⟨.pick c (.c (.bool true)) x,none⟩
abbrev fk (c x:Src):GI:=⟨.pick c x (.c (.bool false)),none⟩
abbrev LH (n:Nat)(c x:Src):GI:=⟨.pick c (.c (.bool true)) x,some (n,true)⟩
abbrev Ei (n:Nat)(c x:Src):GI:=⟨.pick c x (.c (.bool false)),some (n,false)⟩
abbrev aX (x y:Src):GI:=⟨.bin .lss x y,none⟩
abbrev aF (x y:Src):GI:=⟨.bin .eql x y,none⟩
abbrev au (x y:Src):GI:=⟨.bin .add x y,none⟩
abbrev dH (x y:Src):GI:=⟨.bin .gtr x y,none⟩
abbrev b7 (x y:Src):GI:=⟨.bin .neq x y,none⟩
abbrev FC (x y:Src):GI:=⟨.bin .leq x y,none⟩
abbrev hZ (x y:Src):GI:=⟨.bin .geq x y,none⟩
abbrev fH (x y:Src):GI:=⟨.bin .sub x y,none⟩
abbrev iw (c:Src)(n:Nat):AC:=.cond c .skip (.exit n)
abbrev i8 (n:Int):Src:=.c (.int .u8 n)
abbrev i3 (n:Int):Src:=.c (.int .i32 n)
abbrev iu (n:Int):Src:=.c (.int .u64 n)
abbrev yl (x:Src):GI:=⟨.lenS x,none⟩
abbrev n4 (x:Src):GI:=⟨.un .not x,none⟩
abbrev HN (x y:Src):GI:=⟨.ixS x y,none⟩
abbrev r1 (x:List GI)(a b:Nat):AC:=.reg false x [(a,b)]
abbrev r2 (x:List GI)(a b:Nat):AC:=.reg true x [(a,b)]
abbrev kH:List Ak:=[⟨1,none⟩]
end Go.Abs
end
section
namespace Go.Abs
open Go
def DV:aB:=⟨2,7,[⟨2,none⟩],cq,(sq (r1 [gm cse] 2 0) (sq (r1 [gm cse] 6 0) (sq (sq (r1 [gm bH] 3 0) (.block 0 (.loop (sq (sq (r1 [gm s3,gm s0,gl l1,aX l0 l2] 4 3) (iw s4 0)) (sq (.block 1 (sq (sq (r1 [gm s3,dH l0 bH] 5 1) (.cond s5 (r1 [gm s6,gm s1,gn (.bsl 1 (.int .u8 0) 1 [(0,l1)]),gn (.b2s l2),au l0 l3,gm l4] 6 5) .skip)) (r1 [gm s6,gm s0,gm s3,ga 1 l1 l2,gd l3,au l0 l4,gm l5] 6 6))) (r1 [gm s3,au l0 ca,gm l1] 3 2)))))) (sq (r1 [gm s6,gm l0] 2 1) .ret))))⟩
def w249 {Γ:Ctx}(hm:(Γ.at 0).bj)  (l:List ah)(x:UInt8)  (hp0:(aG [x] l).length≤1099511627776):dK Γ DV (.str (aG [x] l)) [.sl 1 (l.map D.str),.int .u8 (x.toNat:Nat)]:=by
 show bB _ _ _ [⟨_,_⟩,⟨_,_⟩,_,_,_,_,_] _;refine ak ?_;refine dA ?_;refine bq hm (ι:=Nat) (fun i=>[⟨true,.sl 1 (l.map D.str)⟩,⟨true,.int .u8 (x.toNat:Nat)⟩,.un,⟨true,.int .i64 (i:Nat)⟩,.un,.un,⟨true,.str (aG [x] (l.take i))⟩]) (fun i=>[]) 3 (fun i=>i≤l.length) (fun i=>l.length-i) 0 (by omega) (dT []) ?_;intro i hi;refine aQ ?_;intro u0;refine ax ?_;refine cG (fun hc0=>?_) fun hc0=>?_
 ·refine aA ?_;have hj:=v7 [x] l (i+1);refine az ?_;refine aq (fun hc1=>?_) (fun hc1=>?_)
  ·simp only[decide_eq_true_eq]at hc1;have ht:=oS [x] l i (by omega);rw[if_pos (by omega)]at ht;have htl:=congrArg List.length ht;simp only[List.length_append,List.length_singleton]at htl;refine az ?_;refine cz [.int .u8 _] ?_;refine Gj [x] (he:=fun _=>sa.all ae rfl) (hs:=fun _=>rfl) ?_;refine c9 (hb:=fun _=>by simp only[List.length_singleton];omega) ?_;refine b8 ?_;refine c9 (hb:=fun _=>by first|(simp only[List.length_append,List.length_singleton];omega)|(subst hi0;simp only[List.take_zero,aG,List.length_nil]at htl⊢;omega)) ?_;refine dA ?_;exact⟨i+1,(by omega),by omega,(aP.to [] ae ae (by repeat(first|exact c7.nil|refine c7.un ?_|refine c7.eq ae ?_|refine c7.nl (congrArg D.str (by rw[ht])) ae ?_)) zv)⟩
  simp only[decide_eq_false_iff_not]at hc1;have ht:=oS [x] l i (by omega);rw[if_neg (by omega)]at ht;have htl:=congrArg List.length ht;simp only[List.length_append,List.length_nil]at htl;have hi0:i=0:=by omega
  refine bc ?_;refine c9 (hb:=fun _=>by first|(simp only[List.length_append,List.length_singleton];omega)|(subst hi0;simp only[List.take_zero,aG,List.length_nil]at htl⊢;omega)) ?_;refine dA ?_;exact⟨i+1,(by omega),by omega,(aP.to [] ae ae (by repeat(first|exact c7.nil|refine c7.un ?_|refine c7.eq ae ?_|refine c7.nl (congrArg D.str (by rw[ht];subst hi0;rfl)) ae ?_)) zv)⟩
 refine bc ?_;refine cA ?_;rw[List.take_of_length_le (by omega)]
def Me (Γ:Ctx):Prop:=∀(l:List ah)(x:UInt8),((aG [x] l).length≤1099511627776)→Γ.pre 249 [.sl 1 (l.map D.str),.int .u8 (x.toNat:Nat)]∧Γ.val 249 [.sl 1 (l.map D.str),.int .u8 (x.toNat:Nat)]=.str (aG [x] l)
def vo:aB:=⟨1,5,kH,cq,(sq (r1 [gm cU] 1 0) (sq (sq (r1 [gm ca] 2 0) (.block 0 (.loop (sq (sq (r1 [gm s2,gm s0,gl l1,aX l0 l2] 3 3) (iw s3 0)) (sq (.block 1 (sq (r2 [gm s0,gm s2,fH l1 ca,ga 1 l0 l2,gd l3,gm s0,gm s2,ga 1 l5 l6,gd l7,hZ l4 l8] 4 9) (oo s4 cU))) (r1 [gm s2,au l0 ca,gm l1] 2 2)))))) (AN rC)))⟩
def w447 {Γ:Ctx}(hm:(Γ.at 0).bj)  (l:List ah)   :dK Γ vo (.bool (rising l)) [.sl 1 (l.map D.str)]:=by
 show bB _ _ _ [⟨_,_⟩,_,_,_,_] _;refine ak ?_;refine aO ?_;refine bq hm (ι:=Nat) (fun i=>[⟨true,.sl 1 (l.map D.str)⟩,.un,⟨true,.int .i64 (i:Nat)⟩,.un,.un]) (fun i=>[]) 2 (fun i=>1≤i∧(i≤l.length∨i=1)∧rising l=cd (fun i=>Op.bytesLess l[i-1]! l[i]!) i l.length) (fun i=>l.length-i) 1 ⟨by omega,by omega,rfl⟩ (dT []) ?_;rintro i ⟨h1,hi,hr⟩;refine aQ ?_;intro u0;refine ax ?_;refine cG (fun hc0=>?_) fun hc0=>?_
 ·refine aO ?_;refine cK (i-1) ?_;refine bc ?_;refine wp_cond (fun hc1=>?_) (fun hc1=>?_)
  ·simp only[Bool.not_eq_true']at hc1;refine aO ?_;refine bx ?_;rw[hr,aD (by omega),hc1];rfl
  simp only[Bool.not_eq_false']at hc1;refine b8 ?_;exact⟨i+1,⟨by omega,by omega,by rw[hr,aD (by omega),hc1];rfl⟩,by omega,(dT [])⟩
 refine aO ?_;refine bx ?_;rw[hr,bK (by omega)]
def Mn (Γ:Ctx):Prop:=∀(l:List ah),Γ.pre 447 [.sl 1 (l.map D.str)]∧Γ.val 447 [.sl 1 (l.map D.str)]=.bool (rising l)
end Go.Abs
end
section
namespace Go.Abs
open Go
def AR:aB:=⟨1,8,kH,cq,(sq (r1 [gm cU] 1 0) (sq (sq (r1 [gm s0,aF l0 cse,gm l1,fu 2 s0,cH 2 (.lenS l3),cH 2 (dw l4 (i6 12)),gp l2 l5] 2 6) (oo s2 cU)) (sq (sq (r1 [gm s0,gn (.rng l0)] 3 1) (.block 0 (.loop (sq (rg [gn (.vg s3),ge l0 0] [(5,0),(4,1)]) (sq (iw s4 0) (.block 1 (sq (r1 [ge s5 2,gm l0] 6 1) (.block 2 (sq (sq (r1 [gm s6,hZ l0 (i3 97),gm l1,gmt 2 s6,cw 2 (mA l3 (i3 122)),fk l2 l4,gm l5] 7 6) (.cond s7 .skip (sq (r1 [gm s6,hZ l0 (i3 48),gm l1,gmt 2 s6,cw 2 (mA l3 (i3 57)),fk l2 l4,gm l5] 7 6) (.cond s7 .skip (r1 [gm s6,aF l0 (i3 95),gm l1] 7 2))))) (.cond s7 .skip (AN cU))))))))))) (AN rC))))⟩
def w349 {Γ:Ctx}(hm:(Γ.at 0).bj)  (s:ah)   :dK Γ AR (.bool (bI s)) [.str s]:=by
 show bB _ _ _ [⟨_,_⟩,_,_,_,_,_,_,_] _;refine ak ?_;refine b8 ?_;refine n9 ?_;refine az ?_;refine cG (fun hc0=>?_) fun hc0=>?_
 ·refine aQ ?_;refine bx ?_;symm;simp only[bI,Bool.and_eq_false_iff,decide_eq_false_iff_not];rcases hc0 with h|h
  ·subst h;exact Or.inl (Or.inl (by simp))
  ·exact Or.inl (by omega)
 refine aO ?_;have hP:bI s=cd (fun i=>vD (at8 s i)) 0 s.length:=by
  have:=List.length_pos_iff.2 hc0.1;simp only[bI];rw[decide_eq_true (by omega),decide_eq_true (by omega)];rfl
 refine bq hm (ι:=Nat) (fun i=>[⟨true,.str s⟩,.un,.un,⟨true,.it 9⟩,.un,.un,.un,.un]) (fun i=>[(9,.iter s i)]) 10 (fun i=>i≤s.length∧bI s=cd (fun i=>vD (at8 s i)) i s.length) (fun i=>s.length-i) 0 ⟨by omega,hP⟩ (dT [(9,9)]) ?_;rintro i ⟨hi,hr⟩;refine ay ?_;by_cases hnx:i<s.length
 ·obtain⟨c,w,hdec,hw,hcw⟩:=pL s i hnx;refine xY c w (hp:=hnx) (hc:=hdec) ?_;refine ax ?_;refine aq (t:=true) (fun _=>?_) (fun h=>by cases h);refine CD ?_;refine cG (fun hc2=>?_) fun hc2=>?_
  ·refine ay ?_;refine gw (fun hc4=>?_) fun hc4=>?_
   ·refine aA ?_;obtain⟨rfl,hat,-⟩:w=1∧(c:Int)=at8 s i∧c<128:=by
     rcases hcw with h|h
     ·exact h
     ·omega
    have hz:vD (at8 s i)=true:=by
     simp only[vD,eM,aH,Bool.or_eq_true,Bool.and_eq_true,decide_eq_true_eq];omega
    exact⟨i+1,⟨by omega,by rw[hr,aD hnx,hz];rfl⟩,by omega,(dT [(9,9)])⟩
   refine bc ?_;refine bx ?_;first
    |(exfalso;omega)
    |(rw[hr,bK (by omega)];done)
    |(
     have hz:vD (at8 s i)=false:=by
      rcases hcw with⟨_,h,_⟩|⟨_,h⟩<;>(simp only[vD,eM,aH,Bool.or_eq_false_iff,Bool.and_eq_false_iff,decide_eq_false_iff_not];omega)
     rw[hr,aD hnx,hz];rfl)
  refine jj ?_;refine cG (fun hc3=>?_) fun hc3=>?_
  ·refine ay ?_;refine gw (fun hc4=>?_) fun hc4=>?_
   ·refine aA ?_;obtain⟨rfl,hat,-⟩:w=1∧(c:Int)=at8 s i∧c<128:=by
     rcases hcw with h|h
     ·exact h
     ·omega
    have hz:vD (at8 s i)=true:=by
     simp only[vD,eM,aH,Bool.or_eq_true,Bool.and_eq_true,decide_eq_true_eq];omega
    exact⟨i+1,⟨by omega,by rw[hr,aD hnx,hz];rfl⟩,by omega,(dT [(9,9)])⟩
   refine bc ?_;refine bx ?_;first
    |(exfalso;omega)
    |(rw[hr,bK (by omega)];done)
    |(
     have hz:vD (at8 s i)=false:=by
      rcases hcw with⟨_,h,_⟩|⟨_,h⟩<;>(simp only[vD,eM,aH,Bool.or_eq_false_iff,Bool.and_eq_false_iff,decide_eq_false_iff_not];omega)
     rw[hr,aD hnx,hz];rfl)
  refine aQ ?_;refine gw (fun hc4=>?_) fun hc4=>?_
  ·refine aA ?_;obtain⟨rfl,hat,-⟩:w=1∧(c:Int)=at8 s i∧c<128:=by
    rcases hcw with h|h
    ·exact h
    ·omega
   have hz:vD (at8 s i)=true:=by
    simp only[vD,eM,aH,Bool.or_eq_true,Bool.and_eq_true,decide_eq_true_eq];omega
   exact⟨i+1,⟨by omega,by rw[hr,aD hnx,hz];rfl⟩,by omega,(dT [(9,9)])⟩
  refine bc ?_;refine bx ?_;first
   |(exfalso;omega)
   |(rw[hr,bK (by omega)];done)
   |(
    have hz:vD (at8 s i)=false:=by
     rcases hcw with⟨_,h,_⟩|⟨_,h⟩<;>(simp only[vD,eM,aH,Bool.or_eq_false_iff,Bool.and_eq_false_iff,decide_eq_false_iff_not];omega)
    rw[hr,aD hnx,hz];rfl)
 ·refine xX (hp:=hnx) ?_;refine ax ?_;refine aq (t:=false) (fun h=>by cases h) (fun _=>?_);refine aO ?_;refine bx ?_;first
   |(exfalso;omega)
   |(rw[hr,bK (by omega)];done)
   |(
    have hz:vD (at8 s i)=false:=by
     rcases hcw with⟨_,h,_⟩|⟨_,h⟩<;>(simp only[vD,eM,aH,Bool.or_eq_false_iff,Bool.and_eq_false_iff,decide_eq_false_iff_not];omega)
    rw[hr,aD hnx,hz];rfl)
def Al (Γ:Ctx):Prop:=∀(s:ah),Γ.pre 349 [.str s]∧Γ.val 349 [.str s]=.bool (bI s)
def AQ:aB:=⟨1,13,kH,cq,(sq (r1 [gm cU] 1 0) (sq (sq (r1 [gm s0,aF l0 cse,gm l1,fu 2 s0,cH 2 (.lenS l3),cH 2 (dw l4 (i6 16)),gp l2 l5] 2 6) (oo s2 cU)) (sq (sq (r1 [gm s0,gn (.rng l0)] 3 1) (.block 0 (.loop (sq (rg [gn (.vg s3),ge l0 0] [(5,0),(4,1)]) (sq (iw s4 0) (.block 1 (sq (rg [ge s5 1,ge s5 2,gm l0,gm l1] [(9,2),(6,3)]) (.block 2 (sq (r1 [gm s6,hZ l0 (i3 97),gm l1,gmt 2 s6,cw 2 (mA l3 (i3 122)),fk l2 l4,gm l5] 7 6) (.cond s7 .skip (sq (r1 [gm s6,hZ l0 (i3 48),gm l1,gmt 2 s6,cw 2 (mA l3 (i3 57)),fk l2 l4,gm l5] 8 6) (.cond s8 (sq (r1 [gm s9,aF l0 bH] 10 1) (oo lf cU)) (sq (r1 [gm s6,aF l0 (i3 45),gm l1] 11 2) (.cond n7 (sq (r1 [gm s9,aF l0 bH,gm l1,fu 2 s9,fu 2 s0,cH 2 (.lenS l4),cH 2 (mB l5 ca),cH 2 (cR l3 l6),gp l2 l7,gm l8,fu 9 s0,fu 9 s9,cH 9 (mB jx ca),cH 9 (.ixS l10 kT),cH 9 (cR mw (i8 45)),gp l9 nJ] 12 15) (oo mi cU)) (AN cU))))))))))))))) (AN rC))))⟩
def w208 {Γ:Ctx}(hm:(Γ.at 0).bj)  (s:ah)   :dK Γ AQ (.bool (ea s)) [.str s]:=by
 show bB _ _ _ [⟨_,_⟩,_,_,_,_,_,_,_,_,_,_,_,_] _;refine ak ?_;refine b8 ?_;refine n9 ?_;refine az ?_;refine cG (fun hc0=>?_) fun hc0=>?_
 ·refine aQ ?_;refine bx ?_;symm;simp only[ea];rcases hc0 with h|h
  ·subst h;simp
  ·rw[decide_eq_false (by omega:¬s.length≤16)];simp
 refine aO ?_;have h0:=List.length_pos_iff.2 hc0.1;have hP:=Ii s (by omega) (by omega);refine bq hm (ι:=Nat) (fun i=>[⟨true,.str s⟩,.un,.un,⟨true,.it 9⟩,.un,.un,.un,.un,.un,.un,.un,.un,.un]) (fun i=>[(9,.iter s i)]) 10 (fun i=>i≤s.length∧ea s=cd (kv s) i s.length) (fun i=>s.length-i) 0 ⟨by omega,hP⟩ (dT [(9,9)]) ?_;rintro i ⟨hi,hr⟩;refine ay ?_;by_cases hnx:i<s.length
 ·obtain⟨c,w,hdec,hw,hcw⟩:=pL s i hnx;refine xY c w (hp:=hnx) (hc:=hdec) ?_;refine ax ?_;refine aq (t:=true) (fun _=>?_) (fun h=>by cases h);refine JD ?_;refine gw (fun hc2=>?_) fun hc2=>?_
  ·refine aA ?_;obtain⟨rfl,hat,-⟩:w=1∧(c:Int)=at8 s i∧c<128:=by
    rcases hcw with h|h
    ·exact h
    ·omega
   have hz:kv s i=true:=by
    simp only[kv,eM,aH,Bool.or_eq_true,Bool.and_eq_true,Bool.not_eq_true',decide_eq_true_eq,decide_eq_false_iff_not];omega
   exact⟨i+1,⟨by omega,by rw[hr,aD hnx,hz];rfl⟩,by omega,(dT [(9,9)])⟩
  refine dA ?_;refine gw (fun hc3=>?_) fun hc3=>?_
  ·refine aA ?_;refine gw (fun hc4=>?_) fun hc4=>?_
   ·refine bc ?_;refine bx ?_;first
     |(exfalso;omega)
     |(rw[hr,bK (by omega)];done)
     |(have hz:kv s i=false:=by
        rcases hcw with⟨_,h,_⟩|⟨_,h⟩<;>(simp only[kv,eM,aH,Bool.or_eq_false_iff,Bool.and_eq_false_iff,Bool.not_eq_false',decide_eq_true_eq,decide_eq_false_iff_not];omega)
       rw[hr,aD hnx,hz];rfl)
   refine aA ?_;obtain⟨rfl,hat,-⟩:w=1∧(c:Int)=at8 s i∧c<128:=by
    rcases hcw with h|h
    ·exact h
    ·omega
   have hz:kv s i=true:=by
    simp only[kv,eM,aH,Bool.or_eq_true,Bool.and_eq_true,Bool.not_eq_true',decide_eq_true_eq,decide_eq_false_iff_not];omega
   exact⟨i+1,⟨by omega,by rw[hr,aD hnx,hz];rfl⟩,by omega,(dT [(9,9)])⟩
  refine aQ ?_;refine gw (fun hc5=>?_) fun hc5=>?_
  ·refine aO ?_;refine n9 ?_;refine bc ?_;refine Ce (i-1) ?_;refine az ?_;refine gw (fun hc6=>?_) fun hc6=>?_
   ·refine bc ?_;refine bx ?_;first
     |(exfalso;omega)
     |(rw[hr,bK (by omega)];done)
     |(have hz:kv s i=false:=by
        rcases hcw with⟨_,h,_⟩|⟨_,h⟩<;>(simp only[kv,eM,aH,Bool.or_eq_false_iff,Bool.and_eq_false_iff,Bool.not_eq_false',decide_eq_true_eq,decide_eq_false_iff_not];omega)
       rw[hr,aD hnx,hz];rfl)
   refine aA ?_;obtain⟨rfl,hat,-⟩:w=1∧(c:Int)=at8 s i∧c<128:=by
    rcases hcw with h|h
    ·exact h
    ·omega
   have hz:kv s i=true:=by
    simp only[kv,eM,aH,Bool.or_eq_true,Bool.and_eq_true,Bool.not_eq_true',decide_eq_true_eq,decide_eq_false_iff_not];omega
   exact⟨i+1,⟨by omega,by rw[hr,aD hnx,hz];rfl⟩,by omega,(dT [(9,9)])⟩
  refine bc ?_;refine bx ?_;first
   |(exfalso;omega)
   |(rw[hr,bK (by omega)];done)
   |(have hz:kv s i=false:=by
      rcases hcw with⟨_,h,_⟩|⟨_,h⟩<;>(simp only[kv,eM,aH,Bool.or_eq_false_iff,Bool.and_eq_false_iff,Bool.not_eq_false',decide_eq_true_eq,decide_eq_false_iff_not];omega)
     rw[hr,aD hnx,hz];rfl)
 ·refine xX (hp:=hnx) ?_;refine ax ?_;refine aq (t:=false) (fun h=>by cases h) (fun _=>?_);refine aO ?_;refine bx ?_;first
   |(exfalso;omega)
   |(rw[hr,bK (by omega)];done)
   |(have hz:kv s i=false:=by
      rcases hcw with⟨_,h,_⟩|⟨_,h⟩<;>(simp only[kv,eM,aH,Bool.or_eq_false_iff,Bool.and_eq_false_iff,Bool.not_eq_false',decide_eq_true_eq,decide_eq_false_iff_not];omega)
     rw[hr,aD hnx,hz];rfl)
def G7 (Γ:Ctx):Prop:=∀(s:ah),Γ.pre 208 [.str s]∧Γ.val 208 [.str s]=.bool (ea s)
def xB:aB:=⟨1,10,[⟨1,none⟩,⟨2,none⟩],jd,(sq (rg [gm bH,gm cU] [(1,0),(2,1)]) (sq (sq (r1 [gm s0,aF l0 cse,gm l1,fu 2 s0,cH 2 (.lenS l3),cH 2 (dw l4 vc),gp l2 l5,gm l6,fu 7 s0,cH 7 (.ixS l8 bH),cH 7 (cR l9 (i8 48)),fu 7 l10,gmt 11 s0,cw 11 (.lenS kT),cw 11 (dw mw ca),Ei 7 jx nJ,gp l7 ot] 3 16) (.cond s3 (sq (rg [gm bH,gm cU] [(1,0),(2,1)]) .ret) .skip)) (sq (r1 [gm bH] 9 0) (sq (sq (r1 [gm s0,gn (.rng l0)] 4 1) (.block 0 (.loop (sq (rg [gn (.vg s4),ge l0 0] [(6,0),(5,1)]) (sq (iw s5 0) (.block 1 (sq (r1 [ge s6 2,gm l0] 7 1) (.block 2 (sq (r1 [gm s7,hZ l0 (i3 48),gm l1,gmt 2 s7,cw 2 (mA l3 (i3 57)),fk l2 l4,gm l5] 8 6) (.cond s8 (r1 [gm s9,gn (.bin .mul (i6 10) l0),gm s7,fH l2 (i3 48),gn (.cvi .i64 l3),au l1 l4,gm l5] 9 6) (sq (rg [gm bH,gm cU] [(1,0),(2,1)]) .ret))))))))))) (sq (rg [gm s9,gm s9,FC l1 (i6 9999),gm l0,gm l2] [(1,3),(2,4)]) .ret)))))⟩
def w658 {Γ:Ctx}(hm:(Γ.at 0).bj)  (s:ah)   :dK Γ xB (.tup [.int .i64 (cW s),.bool (dL s)]) [.str s]:=by
 show bB _ _ _ [⟨_,_⟩,_,_,_,_,_,_,_,_,_] _;refine ak ?_;refine dA ?_;refine n9 ?_;refine aA ?_;refine Ce 0 (hb:=fun h=>by simp at h;exact List.length_pos_iff.2 h.1) ?_;refine az ?_;refine n9 ?_;refine aA ?_;refine cG (fun hc0=>?_) fun hc0=>?_
 ·refine aO ?_;refine cj (aV (congrArg (D.int .i64) ?_) (congrArg D.bool ?_));all_goals
   have:dL s=false:=by
    rw[xK];rcases hc0 with(h|h)|h
    ·subst h;simp
    ·rw[decide_eq_false (by omega:¬s.length≤4)];simp
    ·rw[decide_eq_true (by omega:1<s.length),decide_eq_true h.1];simp
   simp[cW,this]
 refine dA ?_;have h0:=List.length_pos_iff.2 hc0.1.1;have hP:dL s=cd (fun i=>aH (at8 s i)) 0 s.length:=by
  rw[xK,decide_eq_true (by omega:1≤s.length),decide_eq_true (by omega:s.length≤4)];rcases hc0.2 with h|h
  ·rw[decide_eq_false h,Bool.and_false];rfl
  ·rw[decide_eq_false (by omega:¬1<s.length)];rfl
 refine bq hm (ι:=Nat) (fun i=>[⟨true,.str s⟩,.un,.un,.un,⟨true,.it 21⟩,.un,.un,.un,.un,⟨true,.int .i64 (ct (s.take i):Nat)⟩]) (fun i=>[(21,.iter s i)]) 22 (fun i=>i≤s.length∧s.length≤4∧dL s=cd (fun i=>aH (at8 s i)) i s.length) (fun i=>s.length-i) 0 ⟨by omega,by omega,hP⟩ (dT [(21,21)]) ?_;rintro i ⟨hi,h9,hr⟩;refine ay ?_;by_cases hnx:i<s.length
 ·obtain⟨c,w,hdec,hw,hcw⟩:=pL s i hnx;refine xY c w (hp:=hnx) (hc:=hdec) ?_;refine ax ?_;refine aq (t:=true) (fun _=>?_) (fun h=>by cases h);refine xf ?_;refine gw (fun hc2=>?_) fun hc2=>?_
  ·refine ay ?_;obtain⟨rfl,hat,-⟩:w=1∧(c:Int)=at8 s i∧c<128:=by
    rcases hcw with h|h
    ·exact h
    ·omega
   have hn:=p8 s i (by omega);have hn2:=rS s i (by omega);have h256:=EE s i;refine ay ?_;refine tc ?_;refine ay ?_;refine Gu ((c:Int) -48) (hb:=fun _=>IntWalk.i32_in _ (by omega)) ?_;refine rU ((c:Int) -48) (hb:=fun _=>IntWalk.i64_in _ (by omega)) ?_;refine az ?_;rw[show 10*(ct (s.take i):Int)+((c:Int) -48)=(ct (s.take (i+1)):Nat)by omega];refine az ?_;have hz:aH (at8 s i)=true:=by
    simp only[aH,Bool.and_eq_true,decide_eq_true_eq];omega
   exact⟨i+1,⟨by omega,h9,by rw[hr,aD (by omega),hz];rfl⟩,by omega,(dT [(21,21)])⟩
  refine b8 ?_;refine cj (aV (congrArg (D.int .i64) ?_) (congrArg D.bool ?_));all_goals
   have hz:aH (at8 s i)=false:=by
    rcases hcw with⟨_,h,_⟩|⟨_,h⟩<;>(simp only[aH,Bool.and_eq_false_iff,decide_eq_false_iff_not];omega)
   have:dL s=false:=by rw[hr,aD (by omega),hz];rfl
   simp[cW,this]
 ·refine xX (hp:=hnx) ?_;refine ax ?_;refine aq (t:=false) (fun h=>by cases h) (fun _=>?_);refine jj ?_;refine cj (aV (congrArg (D.int .i64) ?_) (congrArg D.bool ?_));all_goals
   have this:dL s=true:=by rw[hr,bK (by omega)]
   have ht:s.take i=s:=List.take_of_length_le (by omega);have h9:=this;simp only[dL,Bool.and_eq_true,decide_eq_true_eq]at h9;have h99:=h9.2;rw[ht];first
   |(simp only[cW,this];rfl)
   |(rw[this,decide_eq_true_eq];omega)
def Hc (Γ:Ctx):Prop:=∀(s:ah),Γ.pre 658 [.str s]∧Γ.val 658 [.str s]=.tup [.int .i64 (cW s),.bool (dL s)]
end Go.Abs
end
section
namespace Go.Abs
open Go
def y0:aB:=⟨2,10,[⟨2,none⟩],[[.sl 1 [.a]]],(sq (r1 [gm (.c (.ar))] 2 0) (sq (r1 [gm (.c (.ar))] 8 0) (sq (r1 [gm bH] 9 0) (sq (sq (rg [gm s0,yl l0,gm bH] [(4,1),(3,2)]) (.block 0 (.loop (sq (r1 [aX s3 s4] 5 0) (sq (iw s5 0) (sq (.block 1 (sq (r1 [gm s3,gm l0] 6 1) (sq (r1 [gm s0,gm s6,HN l0 l1,gm s1,aF l2 l3] 7 4) (.cond s7 (sq (r1 [gm s8,gm s0,gm s9,gm s6,gn (.slS l1 (some l2) (some l3)),gn (.bsl 1 (.str []) 1 [(0,l4)]),gn (.app 1 l0 l5),gm l6] 8 7) (r1 [gm s6,au l0 ca,gm l1] 9 2)) .skip)))) (r1 [au s3 ca,gm l0] 3 1))))))) (sq (r1 [gm s8,gm s0,gm s9,gn (.slS l1 (some l2) none),gn (.bsl 1 (.str []) 1 [(0,l3)]),gn (.app 1 l0 l4),gm l5] 2 6) .ret)))))⟩
def w533 {Γ:Ctx}(hm:(Γ.at 0).bj)  (s:ah)(b:Int)  (hp0:s.length≤1048576):dK Γ y0 (.sl 1 ((ai s b).map D.str)) [.str s,.int .u8 b]:=by
 show bB _ _ _ [⟨_,_⟩,⟨_,_⟩,_,_,_,_,_,_,_,_] _;refine ak ?_;refine gJ ?_;intro u0;refine ax ?_;refine bq hm (ι:=(Nat×Nat×List ah)) (fun p:Nat×Nat×List ah=>[⟨true,.str s⟩,⟨true,.int .u8 b⟩,.un,⟨true,.int .i64 (p.1:Nat)⟩,⟨true,.int .i64 (s.length:Nat)⟩,.un,.un,.un,⟨true,.own 0 1 0 p.2.2.length⟩,⟨true,.int .i64 (p.2.1:Nat)⟩]) (fun p=>[(0,.buf 1 (p.2.2.map D.str))]) 6 (fun p=>p.1≤s.length∧p.2.1≤p.1∧p.2.2.length≤p.1∧ai s b=p.2.2++bm b (s.drop p.1) ((s.take p.1).drop p.2.1)) (fun p=>s.length-p.1) (0,0,[]) ⟨by simp,by simp,by simp,rfl⟩ (aP.to [] ae ae (by repeat(first|exact c7.nil|refine c7.un ?_|refine c7.eq ae ?_|refine c7.nl ae ae ?_|refine c7.ni (Or.inr ⟨0,1,0,rfl⟩) ?_)) (by repeat(first|exact aC.nil|refine aC.mt ae ae ae ae ?_))) ?_;rintro⟨i,fr,acc⟩ ⟨hi,hf,ha,hr⟩;dsimp only at hi hf ha hr⊢;refine az ?_;refine cG (fun hc0=>?_) fun hc0=>?_
 ·refine lZ ?_;refine wp_cond (fun hc1=>?_) (fun hc1=>?_)
  ·try simp only[iB]at hc1
   refine aQ ?_;refine zx _ _ ?_;refine cz [(.str _)] ?_;refine xd ?_;exact⟨(i+1,i+1,acc++[(s.take i).drop fr]),⟨by dsimp only;omega,by dsimp only;omega,by simp;omega,by rw[hr,wI (by omega) hc1];simp⟩,by dsimp only;omega,(aP.to [(20,0)] ae ae lN (by refine aC.nl 20 ae ae ae bY ?_;exact aC.nil))⟩
  simp only[decide_eq_false_iff_not]at hc1;refine bc ?_;exact⟨(i+1,fr,acc),⟨by dsimp only;omega,by dsimp only;omega,by dsimp only;omega,by rw[hr,wJ (by omega) (by omega) hc1]⟩,by dsimp only;omega,(aP.to [(0,0)] ae ae lN (by refine aC.nl 0 ae ae ae bY ?_;exact aC.nil))⟩
 refine aO ?_;refine nb _ ?_;refine cz [(.str _)] ?_;refine az ?_;refine ey 12 ?_;refine ay ?_;refine cj (?_);have hs:ai s b=acc++[s.drop fr]:=by rw[hr,uN (by omega)]
 rw[hs];exact rfl
def Er (Γ:Ctx):Prop:=∀(s:ah)(b:Int),(s.length≤1048576)→Γ.pre 533 [.str s,.int .u8 b]∧Γ.val 533 [.str s,.int .u8 b]=.sl 1 ((ai s b).map D.str)
def sH:aB:=⟨1,7,kH,cq,(sq (r1 [gm cU] 1 0) (sq (sq (rg [gm s0,yl l0,gm bH] [(3,1),(2,2)]) (.block 0 (.loop (sq (r1 [aX s2 s3] 4 0) (sq (iw s4 0) (sq (.block 1 (sq (r1 [gm s2,gm l0] 5 1) (sq (r1 [gm s0,gm s5,HN l0 l1,aX l2 (i8 48),gm l3,fu 4 s0,fu 4 s5,cH 4 (.ixS l5 l6),cH 4 (dw l7 (i8 57)),gp l4 l8] 6 9) (oo s6 cU)))) (r1 [au s2 ca,gm l0] 2 1))))))) (sq (r1 [gm s0,b7 l0 cse,gm l1] 1 2) .ret)))⟩
def w659 {Γ:Ctx}(hm:(Γ.at 0).bj)  (t:ah)   :dK Γ sH (.bool (dp t)) [.str t]:=by
 show bB _ _ _ [⟨_,_⟩,_,_,_,_,_,_] _;refine ak ?_;refine aO ?_;intro u0;refine ax ?_;refine bq hm (ι:=Nat) (fun i=>[⟨true,.str t⟩,.un,⟨true,.int .i64 (i:Nat)⟩,⟨true,.int .i64 (t.length:Nat)⟩,.un,.un,.un]) (fun i=>[]) 4 (fun i=>i≤t.length∧cd (fun i=>aH (at8 t i)) 0 t.length=cd (fun i=>aH (at8 t i)) i t.length) (fun i=>t.length-i) 0 ⟨by omega,rfl⟩ (dT []) ?_;rintro i ⟨hi,hr⟩;refine az ?_;refine cG (fun hc0=>?_) fun hc0=>?_
 ·refine JD ?_;refine gw (fun hc1=>?_) fun hc1=>?_
  ·refine aO ?_;refine bx ?_;simp only[dp];rw[hr,aD (by omega)];rcases hc1 with h|h<;>simp[aH]<;>omega
  refine bc ?_;exact⟨i+1,⟨by omega,by rw[hr,aD (by omega)];rw[show aH (at8 t i)=true by simp only[aH,Bool.and_eq_true,decide_eq_true_eq];omega];rfl⟩,by omega,(dT [])⟩
 refine b8 ?_;refine bx ?_;simp only[dp];rw[hr,bK (by omega)];cases t<;>simp
def ME (Γ:Ctx):Prop:=∀(t:ah),Γ.pre 659 [.str t]∧Γ.val 659 [.str t]=.bool (dp t)
def ye:aB:=⟨1,2,kH,cq,(sq (r1 [gm cU] 1 0) (sq (r1 [gm s0,hZ l0 bH,gm l1,gmt 2 s0,cw 2 (mA l3 (i6 9999)),fk l2 l4,gm l5] 1 6) .ret))⟩
def w440 {Γ:Ctx}(hm:(Γ.at 0).bj)  (n:Int)   :dK Γ ye (.bool (pR n)) [.int .i64 n]:=by
 show bB _ _ _ [⟨_,_⟩,_] _;refine ak ?_;refine gJ ?_;exact bx rfl
def Mh (Γ:Ctx):Prop:=∀(n:Int),Γ.pre 440 [.int .i64 n]∧Γ.val 440 [.int .i64 n]=.bool (pR n)
def uW:aB:=⟨2,9,[⟨2,none⟩,⟨3,none⟩],jd,(sq (rg [gm cse,gm cse] [(2,0),(3,1)]) (sq (sq (rg [gm s0,yl l0,gm bH] [(5,1),(4,2)]) (.block 0 (.loop (sq (r1 [aX s4 s5] 6 0) (sq (iw s6 0) (sq (.block 1 (sq (r1 [gm s4,gm l0] 7 1) (sq (r1 [gm s0,gm s7,HN l0 l1,gm s1,aF l2 l3] 8 4) (.cond s8 (sq (rt [gm s0,gm s7,au l1 ca,gn (.slS l0 (some l2) none),gm s0,gm s7,gn (.slS l4 none (some l5)),gm l3,gm l6] [(2,7),(3,8)]) .ret) .skip)))) (r1 [au s4 ca,gm l0] 4 1))))))) (sq (rg [gm s0,gm cse,gm l0] [(2,1),(3,2)]) .ret)))⟩
def w675 {Γ:Ctx}(hm:(Γ.at 0).bj)  (s:ah)(b:Int)   :dK Γ uW (.tup [.str (cL s b).1,.str (cL s b).2]) [.str s,.int .u8 b]:=by
 show bB _ _ _ [⟨_,_⟩,⟨_,_⟩,_,_,_,_,_,_,_] _;refine ak ?_;refine bc ?_;intro u0;refine ax ?_;refine bq hm (ι:=Nat) (fun i=>[⟨true,.str s⟩,⟨true,.int .u8 b⟩,.un,.un,⟨true,.int .i64 (i:Nat)⟩,⟨true,.int .i64 (s.length:Nat)⟩,.un,.un,.un]) (fun i=>[]) 5 (fun i=>i≤s.length∧cL s b=fC s b i) (fun i=>s.length-i) 0 ⟨by omega,rfl⟩ (dT []) ?_;rintro i ⟨hi,hr⟩;refine az ?_;refine cG (fun hc0=>?_) fun hc0=>?_
 ·refine lZ ?_;refine gw (fun hc1=>?_) fun hc1=>?_
  ·refine aA ?_;refine nb (i+1) ?_;refine ax ?_;refine uF _ ?_;refine aO ?_;refine cj (aV (congrArg D.str ?_) (congrArg D.str ?_));all_goals rw[hr,Au (by omega) hc1]
  refine bc ?_;exact⟨i+1,⟨by omega,by rw[hr,Av (by omega) hc1]⟩,by omega,(dT [])⟩
 refine b8 ?_;refine cj (aV (congrArg D.str ?_) (congrArg D.str ?_));all_goals rw[hr,yD (by omega)]
def MJ (Γ:Ctx):Prop:=∀(s:ah)(b:Int),Γ.pre 675 [.str s,.int .u8 b]∧Γ.val 675 [.str s,.int .u8 b]=.tup [.str (cL s b).1,.str (cL s b).2]
def yf:aB:=⟨1,15,kH,cq,(sq (r1 [gm cU] 1 0) (sq (r1 [gm s0,gx 533 [l0,(i8 46)] jd,gm l1] 2 2) (sq (r1 [gm s2,gl l0,FC l1 vc,gm l2] 14 3) (sq .skip (sq (sq (rg [gm s2,gl l0,gm bH] [(6,0),(4,1),(3,2)]) (.block 0 (.loop (sq (r1 [aX s3 s4] 5 0) (sq (iw s5 0) (sq (.block 1 (sq (r1 [ga 1 s6 s3,gd l0,gm l1] 7 2) (sq (sq (r1 [gm s7,aF l0 cse,gm l1,fu 2 s7,cH 2 (.lenS l3),cH 2 (dw l4 HV),gp l2 l5] 8 6) (.cond s8 (sq (r1 [gm cU] 14 0) (.exit 0)) .skip)) (sq (r1 [gm s7,gn (.rng l0)] 9 1) (.block 2 (.loop (sq (rg [gn (.vg s9),ge l0 0] [(11,0),(10,1)]) (sq (iw lf 2) (.block 3 (sq (r1 [ge n7 2,gm l0] 12 1) (sq (r1 [gm mi,aX l0 (i3 97),gm l1,fu 2 mi,cH 2 (dw l3 (i3 122)),gp l2 l4,gm l5,gmt 6 mi,cw 6 (pC l7 (i3 48)),gmt 6 l8,fu 9 mi,cH 9 (dw l10 (i3 57)),LH 6 l9 jx,fk l6 kT,gm mw,gmt 14 mi,cw 14 (fo ot (i3 45)),fk nJ qk] 13 17) (.cond uL (sq (r1 [gm cU] 14 0) (.exit 0)) .skip)))))))))))) (r1 [au s3 ca,gm l0] 3 1))))))) (sq (r1 [gm td,gm l0] 1 1) .ret))))))⟩
def w442 {Γ:Ctx}(hm:(Γ.at 0).bj)(h533:Er Γ)(s:ah)  (hp0:s.length≤1048576):dK Γ yf (.bool (jh s false)) [.str s]:=by
 show bB _ _ _ [⟨_,_⟩,_,_,_,_,_,_,_,_,_,_,_,_,_,_] _;refine ak ?_;refine aA ?_;refine aj (hc:=h533 _ _ ?_) ?_;rotate_left;first|assumption|omega;have hlen:=cQ s 46
 refine aQ ?_;intro u0;refine b8 ?_;intro u1;refine ax ?_;refine bq hm (ι:=Nat) (fun i=>[.un,.un,⟨true,.sl 1 ((ai s 46).map D.str)⟩,⟨true,.int .i64 (i:Nat)⟩,⟨true,.int .i64 ((ai s 46).length:Nat)⟩,.un,⟨true,.sl 1 ((ai s 46).map D.str)⟩,.un,.un,.un,.un,.un,.un,.un,⟨true,.bool (decide (((ai s 46).length:Int)≤4))⟩]) (fun i=>[]) 11 (fun i=>i≤(ai s 46).length∧jh s false=(decide ((ai s 46).length≤4)&&cd (fun i=>eu false (ai s 46)[i]!) i (ai s 46).length)) (fun i=>(ai s 46).length-i) 0 ⟨by omega,rfl⟩ (dT []) ?_;rintro i ⟨hi,hr⟩;refine az ?_;refine cG (fun hc0=>?_) fun hc0=>?_
 ·refine dA ?_;generalize ht:(ai s 46)[i]! =t;refine aA ?_;refine n9 ?_;refine az ?_;refine cG (fun hc1=>?_) fun hc1=>?_
  ·refine gJ ?_;refine bx ?_;first
    |(rw[hr,bK (by omega),Bool.and_true];exact decide_eq_decide.2 (by omega))
    |(have hb:mq t=false:=by
       first
       |(simp only[mq];rcases hc1 with h|h
         ·subst h;simp
         ·rw[decide_eq_false (by omega:¬t.length≤8)];simp)
       |(have hz:js (at8 t j)=false:=by
          rcases hcw with⟨_,h,_⟩|⟨_,h⟩<;>(simp only[js,eM,aH,Bool.or_eq_false_iff,Bool.and_eq_false_iff,decide_eq_false_iff_not];omega)
         rw[hj,aD hnx,hz];rfl)
      rw[hr,aD (by omega),show eu false (ai s 46)[i]! =false from(by simp only[eu,ht,hb,Bool.false_and])];simp)
  refine aQ ?_;have hT:mq t=cd (fun i=>js (at8 t i)) 0 t.length:=by
   have:=List.length_pos_iff.2 hc1.1;simp only[mq];rw[decide_eq_true (by omega),decide_eq_true (by omega)];rfl
  refine qg hm (ι:=Nat) (fun j=>[.un,.un,⟨true,.sl 1 ((ai s 46).map D.str)⟩,⟨true,.int .i64 (i:Nat)⟩,⟨true,.int .i64 ((ai s 46).length:Nat)⟩,.un,⟨true,.sl 1 ((ai s 46).map D.str)⟩,.un,.un,⟨true,.it 23⟩,.un,.un,.un,.un,⟨true,.bool (decide (((ai s 46).length:Int)≤4))⟩]) (fun j=>[(23,.iter t j)]) 24 (fun j=>j≤t.length∧mq t=cd (fun i=>js (at8 t i)) j t.length) (fun j=>t.length-j) 0 ⟨by omega,hT⟩ (dT [(23,23)]) ?_;rintro j ⟨hj0,hj⟩;refine ay ?_;by_cases hnx:j<t.length
  ·obtain⟨c,w,hdec,hw,hcw⟩:=pL t j hnx;refine xY c w (hp:=hnx) (hc:=hdec) ?_;refine ax ?_;refine aq (t:=true) (fun _=>?_) (fun h=>by cases h);refine Og ?_;refine gw (fun hc3=>?_) fun hc3=>?_
   ·refine lZ ?_;refine bx ?_;first
     |(rw[hr,bK (by omega),Bool.and_true];exact decide_eq_decide.2 (by omega))
     |(have hb:mq t=false:=by
        first
        |(simp only[mq];rcases hc1 with h|h
          ·subst h;simp
          ·rw[decide_eq_false (by omega:¬t.length≤8)];simp)
        |(have hz:js (at8 t j)=false:=by
           rcases hcw with⟨_,h,_⟩|⟨_,h⟩<;>(simp only[js,eM,aH,Bool.or_eq_false_iff,Bool.and_eq_false_iff,decide_eq_false_iff_not];omega)
          rw[hj,aD hnx,hz];rfl)
       rw[hr,aD (by omega),show eu false (ai s 46)[i]! =false from(by simp only[eu,ht,hb,Bool.false_and])];simp)
   refine az ?_;obtain⟨rfl,hat,-⟩:w=1∧(c:Int)=at8 t j∧c<128:=by
    rcases hcw with h|h
    ·exact h
    ·omega
   have hz:js (at8 t j)=true:=by
    simp only[js,eM,aH,Bool.or_eq_true,Bool.and_eq_true,decide_eq_true_eq];omega
   exact⟨j+1,⟨by omega,by rw[hj,aD hnx,hz];rfl⟩,by omega,(dT [(23,23)])⟩
  ·refine xX (hp:=hnx) ?_;refine ax ?_;refine aq (t:=false) (fun h=>by cases h) (fun _=>?_);refine b8 ?_;exact⟨i+1,⟨by omega,by rw[hr,aD (by omega)];rw[show eu false (ai s 46)[i]! =true from(by simp only[eu,Bool.false_and,Bool.not_false,Bool.and_true];rw[ht,hj,bK (by omega)])];rfl⟩,by omega,(dT [])⟩
 refine bc ?_;refine bx ?_;first
  |(rw[hr,bK (by omega),Bool.and_true];exact decide_eq_decide.2 (by omega))
  |(have hb:mq t=false:=by
     first
     |(simp only[mq];rcases hc1 with h|h
       ·subst h;simp
       ·rw[decide_eq_false (by omega:¬t.length≤8)];simp)
     |(have hz:js (at8 t j)=false:=by
        rcases hcw with⟨_,h,_⟩|⟨_,h⟩<;>(simp only[js,eM,aH,Bool.or_eq_false_iff,Bool.and_eq_false_iff,decide_eq_false_iff_not];omega)
       rw[hj,aD hnx,hz];rfl)
    rw[hr,aD (by omega),show eu false (ai s 46)[i]! =false from(by simp only[eu,ht,hb,Bool.false_and])];simp)
def JN (Γ:Ctx):Prop:=∀(s:ah),(s.length≤1048576)→Γ.pre 442 [.str s]∧Γ.val 442 [.str s]=.bool (jh s false)
end Go.Abs
end
section
namespace Go.Abs
open Go
def Mg (Γ:Ctx):Prop:=∀(n:Int),(0≤n∧n≤9999)→Γ.pre 336 [.int .i64 n]∧Γ.val 336 [.int .i64 n]=.str (bS n.toNat)
def G8 (Γ:Ctx):Prop:=∀(l:List ah)(sep:ah),(l.length≤1048600)→(sep.length≤4)→(∀t∈l,t.length≤2097200)→Γ.pre 242 [.sl 1 (l.map D.str),.str sep]∧Γ.val 242 [.sl 1 (l.map D.str),.str sep]=.str (aG sep l)
def En (Γ:Ctx):Prop:=∀(s:ah)(b:UInt8),(s.length≤1048576)→Γ.pre 124 [.str s,.str [b]]∧Γ.val 124 [.str s,.str [b]]=.sl 1 ((ai s b.toNat).map D.str)
def MA (Γ:Ctx):Prop:=∀(s:ah)(b:UInt8),(s.length≤1048576)→Γ.pre 487 [.str s,.str [b]]∧Γ.val 487 [.str s,.str [b]]=.tup [.str (dY s b).1,.str (dY s b).2.1,.bool (dY s b).2.2]
def Mf (Γ:Ctx):Prop:=∀(s:ah)(p:ah),(s.length≤1048576)→(p.length≤1048576)→Γ.pre 254 [.str s,.str p]∧Γ.val 254 [.str s,.str p]=.tup [.str (cY s p).1,.bool (cY s p).2]
end Go.Abs
end
section
namespace Go.Abs
open Go
def z7:aB:=⟨1,10,kH,cq,(sq (r1 [gm cU] 1 0) (sq (sq (r1 [gm s0,gx 442 [l0] cq,n4 l1] 2 2) (oo s2 cU)) (sq (sq (rg [gm s0,gx 533 [l0,(i8 46)] jd,gl l1,gm bH] [(6,1),(4,2),(3,3)]) (.block 0 (.loop (sq (r1 [aX s3 s4] 5 0) (sq (iw s5 0) (sq (.block 1 (sq (r1 [ga 1 s6 s3,gd l0,gm l1] 7 2) (sq (r1 [gm s7,gx 658 [l0] cq,gm l1,ge l2 0,ge l2 1,gm l3,gm l4] 8 6) (sq (r1 [gm s7,gx 659 [l0] cq,gm l1,gmt 2 s8,cw 2 (.un .not l3),fk l2 l4] 9 5) (oo s9 cU))))) (r1 [au s3 ca,gm l0] 3 1))))))) (AN rC))))⟩
def w441 {Γ:Ctx}(hm:(Γ.at 0).bj)(h442:JN Γ)(h533:Er Γ)(h658:Hc Γ)(h659:ME Γ)(s:ah)  (hp0:s.length≤1048576):dK Γ z7 (.bool (jh s true)) [.str s]:=by
 show bB _ _ _ [⟨_,_⟩,_,_,_,_,_,_,_,_,_] _;refine ak ?_;refine aQ ?_;refine aj (hc:=h442 _ ?_) ?_;rotate_left;first|assumption|omega
 refine ax ?_;refine aq (fun hc0=>?_) (fun hc0=>?_)
 ·simp only[Bool.not_eq_true']at hc0;refine aQ ?_;refine bx ?_;symm;simp only[jh]at hc0⊢;rw[Bool.and_eq_false_iff]at hc0⊢;rcases hc0 with h|h
  ·exact Or.inl h
  ·right;rw[Bool.eq_false_iff]at h⊢;intro h2;apply h;rw[dh]at h2⊢;intro j a b;have:=h2 j a b;simp only[eu,Bool.and_eq_true]at this⊢;exact⟨this.1,rfl⟩
 simp only[Bool.not_eq_false']at hc0;refine aA ?_;refine aj (hc:=h533 _ _ ?_) ?_;rotate_left;first|assumption|omega;have hlen:=cQ s 46
 refine ay ?_;intro u0;refine ax ?_;have hT:=hc0;simp only[jh,Bool.and_eq_true,decide_eq_true_eq]at hT;obtain⟨hT4,hTa⟩:=hT;rw[dh]at hTa;have hP:jh s true=cd (fun i=>eu true (ai s 46)[i]!) 0 (ai s 46).length:=by
  simp only[jh];rw[decide_eq_true hT4];rfl
 refine bq hm (ι:=Nat) (fun i=>[.un,.un,.un,⟨true,.int .i64 (i:Nat)⟩,⟨true,.int .i64 ((ai s 46).length:Nat)⟩,.un,⟨true,.sl 1 ((ai s 46).map D.str)⟩,.un,.un,.un]) (fun i=>[]) 8 (fun i=>i≤(ai s 46).length∧jh s true=cd (fun i=>eu true (ai s 46)[i]!) i (ai s 46).length) (fun i=>(ai s 46).length-i) 0 ⟨by omega,hP⟩ (dT []) ?_;rintro i ⟨hi,hr⟩;refine az ?_;refine cG (fun hc1=>?_) fun hc1=>?_
 ·refine dA ?_;refine aj (hc:=h658 _) ?_;refine b8 ?_;refine aj (hc:=h659 _) ?_;refine aQ ?_;refine wp_cond (fun hc2=>?_) (fun hc2=>?_)
  ·skip
   refine aO ?_;refine bx ?_;have hz:eu true (ai s 46)[i]! =false:=by
    simp only[eu];revert hc2;generalize mq (ai s 46)[i]! =c;generalize dp (ai s 46)[i]! =a;generalize dL (ai s 46)[i]! =b;cases a<;>cases b<;>cases c<;>simp
   rw[hr,aD (by omega),hz];rfl
  skip
  refine bc ?_;have hz:eu true (ai s 46)[i]! =true:=by
   have:=hTa i (by omega) (by omega);simp only[eu,Bool.false_and,Bool.not_false,Bool.and_true]at this;simp only[eu,this];revert hc2;generalize dp (ai s 46)[i]! =a;generalize dL (ai s 46)[i]! =b;cases a<;>cases b<;>simp
  exact⟨i+1,⟨by omega,by rw[hr,aD (by omega),hz];rfl⟩,by omega,(dT [])⟩
 refine aO ?_;refine bx ?_;rw[hr,bK (by omega)]
def Mi (Γ:Ctx):Prop:=∀(s:ah),(s.length≤1048576)→Γ.pre 441 [.str s]∧Γ.val 441 [.str s]=.bool (jh s true)
def z6:aB:=⟨1,3,kH,cq,(sq (rg [gb 5 s0,gm cU] [(2,0),(1,1)]) (sq (r1 [gf 0 s2,gd l0,gx 440 [l1] cq,gm l2,kd 3 1 s2,jZ 3 l4,cw 3 (.call 440 [l5] cq),fk l3 l6,gm l7,kd 8 2 s2,jZ 8 l9,cw 8 (.call 440 [l10] cq),fk l8 jx,gm kT,kd 13 3 s2,jZ 13 nJ,cw 13 (cR ot cse),gmt 13 qk,kQ 17 3 s2,mc 17 we,cH 17 (.call 441 [za] cq),LH 13 ve AS,fk mw B0,gm Ej,kd 23 4 s2,jZ 23 H8,cw 23 (cR H9 cse),gmt 23 KH,kQ 27 4 s2,mc 27 LL,cH 27 (.call 442 [LM] cq),LH 23 LK NN,fk H7 l31,gm l32] 1 33) .ret))⟩
def w209 {Γ:Ctx}(hm:(Γ.at 0).bj)(h440:Mh Γ)(h441:Mi Γ)(h442:JN Γ)(v:df)  (hp0:v.sm):dK Γ z6 (.bool (en v)) [df.D v]:=by
 show bB _ _ _ [⟨_,_⟩,_,_] _;refine ak ?_;refine aO ?_;refine aj (hc:=h440 _) ?_;refine az ?_;refine aj (hc:=h440 _) ?_;refine aA ?_;refine aj (hc:=h440 _) ?_;refine b8 ?_;refine eF (hc:=fun hf=>h441 v.pre hp0.1) ?_;refine dA ?_;refine eF (hc:=fun hf=>h442 v.build hp0.2) ?_;refine aQ ?_;exact bx rfl
def Eo (Γ:Ctx):Prop:=∀(v:df),(v.sm)→Γ.pre 209 [df.D v]∧Γ.val 209 [df.D v]=.bool (en v)
def xA:aB:=⟨1,2,kH,cq,(sq (r1 [gm cse] 1 0) (sq (r1 [gm s0,gx 336 [l0] cq,gm l1] 1 2) .ret))⟩
def w665 {Γ:Ctx}(hm:(Γ.at 0).bj)(h336:Mg Γ)(n:Int)  (hp0:0≤n∧n≤9999):dK Γ xA (.str (bS n.toNat)) [.int .i64 n]:=by
 show bB _ _ _ [⟨_,_⟩,_] _;refine ak ?_;refine aA ?_;refine aj (hc:=h336 _ ?_) ?_;rotate_left;first|assumption|omega
 refine az ?_;exact cA rfl
def J0 (Γ:Ctx):Prop:=∀(n:Int),(0≤n∧n≤9999)→Γ.pre 665 [.int .i64 n]∧Γ.val 665 [.int .i64 n]=.str (bS n.toNat)
def vC:aB:=⟨1,7,kH,cq,(sq (rg [gb 5 s0,gm cse] [(2,0),(1,1)]) (sq (sq (r1 [gk 5 true s2,gx 209 [l0] Kz,n4 l1] 3 2) (oo s3 cse)) (sq (r2 [gf 0 s2,gd l0,gx 665 [l1] cq,au l2 (cs [46]),gf 1 s2,gd l4,gx 665 [l5] cq,au l3 l6,au l7 (cs [46]),gf 2 s2,gd l9,gx 665 [l10] cq,au l8 jx,gm kT] 5 13) (sq (sq (r1 [gf 3 s2,gd l0,b7 l1 cse] 4 2) (.cond s4 (r1 [gm s5,gf 3 s2,gd l1,au (cs [45]) l2,au l0 l3,gm l4] 5 5) .skip)) (sq (sq (r1 [gf 4 s2,gd l0,b7 l1 cse] 6 2) (.cond s6 (r1 [gm s5,gf 4 s2,gd l1,au (cs [43]) l2,au l0 l3,gm l4] 5 5) .skip)) (sq (r1 [gm s5,gm l0] 1 1) .ret))))))⟩
def w451 {Γ:Ctx}(hm:(Γ.at 0).bj)(h209:Eo Γ)(h665:J0 Γ)(v:df)  (hp0:v.sm):dK Γ vC (.str (iN v)) [df.D v]:=by
 show bB _ _ _ [⟨_,_⟩,_,_,_,_,_,_] _;obtain⟨hs1,hs2⟩:=hp0;have hp0:v.sm:=⟨hs1,hs2⟩;refine ak ?_;refine aO ?_;refine aj (hc:=h209 _ ?_) ?_;rotate_left;first|assumption|omega
 refine ax ?_;refine aq (fun hc0=>?_) (fun hc0=>?_)
 ·simp only[Bool.not_eq_true']at hc0;refine aQ ?_;refine cA ?_;simp[iN,hc0]
 simp only[Bool.not_eq_false']at hc0;refine ax ?_;have hv:=hc0;simp only[en,Bool.and_eq_true]at hv;obtain⟨⟨⟨⟨hv1,hv2⟩,hv3⟩,_⟩,_⟩:=hv;have hq1:=hv1;have hq2:=hv2;have hq3:=hv3;simp only[pR,Bool.and_eq_true,decide_eq_true_eq]at hq1 hq2 hq3;have hl1:=dD 4 v.major.toNat (by omega) (by omega);have hl2:=dD 4 v.minor.toNat (by omega) (by omega);have hl3:=dD 4 v.patch.toNat (by omega) (by omega);refine ax ?_;refine aj (hc:=h665 _ ?_) ?_;rotate_left;first|assumption|omega
 refine c9 (hb:=fun _=>by simp;omega) ?_;refine ax ?_;refine aj (hc:=h665 _ ?_) ?_;rotate_left;first|assumption|omega
 refine c9 (hb:=fun _=>by simp;omega) ?_;refine c9 (hb:=fun _=>by simp;omega) ?_;refine ax ?_;refine aj (hc:=h665 _ ?_) ?_;rotate_left;first|assumption|omega
 refine c9 (hb:=fun _=>by simp;omega) ?_;refine b8 ?_;refine cG (fun hc1=>?_) fun hc1=>?_
 ·refine aA ?_;refine c9 (hb:=fun _=>by simp;omega) ?_;refine c9 (hb:=fun _=>by simp;omega) ?_;refine b8 ?_;refine cG (fun hc2=>?_) fun hc2=>?_
  ·refine aA ?_;refine c9 (hb:=fun _=>by simp;omega) ?_;refine c9 (hb:=fun _=>by simp;omega) ?_;refine bc ?_;refine cA ?_;simp[iN,sG,hc0,hc1,hc2]
  refine aO ?_;refine cA ?_;simp[iN,sG,hc0,hc1,hc2]
 refine bc ?_;refine cG (fun hc2=>?_) fun hc2=>?_
 ·refine aA ?_;refine c9 (hb:=fun _=>by simp;omega) ?_;refine c9 (hb:=fun _=>by simp;omega) ?_;refine bc ?_;refine cA ?_;simp[iN,sG,hc0,hc1,hc2]
 refine aO ?_;refine cA ?_;simp[iN,sG,hc0,hc1,hc2]
def JQ (Γ:Ctx):Prop:=∀(v:df),(v.sm)→Γ.pre 451 [df.D v]∧Γ.val 451 [df.D v]=.str (iN v)
end Go.Abs
end
section
namespace Go.Abs
open Go
end Go.Abs
end
section
namespace Go.Abs
open Go
def x8:aB:=⟨2,9,[⟨2,none⟩],cq,(sq (r1 [gm cU] 2 0) (sq (sq (r1 [gm s0,gl l0,gm s1,gl l2,b7 l1 l3] 3 4) (.cond s3 (sq (r1 [gm cU] 2 0) .ret) .skip)) (sq (sq (rg [gm s0,gl l0,gm bH] [(5,1),(4,2)]) (.block 0 (.loop (sq (r1 [aX s4 s5] 6 0) (sq (iw s6 0) (sq (.block 1 (sq (r1 [gm s4,gm l0] 7 1) (sq (r2 [gm s0,gm s7,ga 1 l0 l1,gd l2,gm s1,gm s7,ga 1 l4 l5,gd l6,b7 l3 l7] 8 8) (.cond s8 (sq (r1 [gm cU] 2 0) .ret) .skip)))) (r1 [au s4 ca,gm l0] 4 1))))))) (sq (r1 [gm rC] 2 0) .ret))))⟩
def w486 {Γ:Ctx}(hm:(Γ.at 0).bj)  (a:List ah)(b:List ah)   :dK Γ x8 (.bool (decide (a=b))) [.sl 1 (a.map D.str),.sl 1 (b.map D.str)]:=by
 show bB _ _ _ [⟨_,_⟩,⟨_,_⟩,_,_,_,_,_,_,_] _;refine ak ?_;refine aO ?_;intro u0;refine ax ?_;intro u1;refine ax ?_;refine cG (fun hc0=>?_) fun hc0=>?_
 ·refine aQ ?_;refine bx ?_;symm;rw[decide_eq_false_iff_not];rintro rfl;simp at hc0
 refine aQ ?_;intro u2;refine ax ?_;have hb:=lg (show a.length=b.length by omega);refine bq hm (ι:=Nat) (fun i=>[⟨true,.sl 1 (a.map D.str)⟩,⟨true,.sl 1 (b.map D.str)⟩,.un,.un,⟨true,.int .i64 (i:Nat)⟩,⟨true,.int .i64 (a.length:Nat)⟩,.un,.un,.un]) (fun i=>[]) 9 (fun i=>i≤a.length∧decide (a=b)=cd (fun i=>decide (a[i]! =b[i]!)) i a.length) (fun i=>a.length-i) 0 ⟨by omega,hb⟩ (dT []) ?_;rintro i ⟨hi,hr⟩;refine az ?_;refine cG (fun hc1=>?_) fun hc1=>?_
 ·refine CD ?_;refine wp_cond (fun hc2=>?_) (fun hc2=>?_)
  ·simp only[Bool.not_eq_true',decide_eq_false_iff_not]at hc2;refine aO ?_;refine bx ?_;rw[hr,aD (by omega),decide_eq_false hc2];rfl
  simp only[Bool.not_eq_false',decide_eq_true_eq]at hc2;refine bc ?_;exact⟨i+1,⟨by omega,by rw[hr,aD (by omega),decide_eq_true hc2];rfl⟩,by omega,(dT [])⟩
 refine aO ?_;refine bx ?_;rw[hr,bK (by omega)]
def JU (Γ:Ctx):Prop:=∀(a:List ah)(b:List ah),Γ.pre 486 [.sl 1 (a.map D.str),.sl 1 (b.map D.str)]∧Γ.val 486 [.sl 1 (a.map D.str),.sl 1 (b.map D.str)]=.bool (decide (a=b))
end Go.Abs
end
section
namespace Go.Abs
open Go
def Bi:aB:=⟨1,4,kH,cq,(sq (r1 [gm cse] 1 0) (sq (r1 [gm s0,gn (.bin .rem l0 (iu 10)),gn (.cvi .u8 l1),au (i8 48) l2,gn (.bsl 1 (.int .u8 0) 1 [(0,l3)]),gn (.b2s l4),gm l5] 3 6) (sq (.block 0 (.loop (sq (sq (r1 [gm s0,dH l0 (iu 9)] 2 1) (iw s2 0)) (.block 1 (sq (r1 [gm s0,gn (.bin .quo l0 (iu 10)),gm l1] 0 2) (r1 [gm s0,gn (.bin .rem l0 (iu 10)),gn (.cvi .u8 l1),au (i8 48) l2,gn (.bsl 1 (.int .u8 0) 1 [(0,l3)]),gn (.b2s l4),gm s3,au l5 l6,gm l7] 3 8)))))) (sq (r1 [gm s3,gm l0] 1 1) .ret))))⟩
def w882 {Γ:Ctx}(hm:(Γ.at 0).bj)  (n:Nat)  (hp0:n≤9999):dK Γ Bi (.str (bS n)) [.int .u64 (n:Nat)]:=by
 show bB _ _ _ [⟨_,_⟩,_,_,_] _;refine ak ?_;refine aA ?_;refine Cf ((n%10:Nat):Int) (hn:=by intro _;omega) (hb:=fun _=>rfl) ?_;refine rU ((n%10:Nat):Int) (hb:=fun _=>IntWalk.u8_in _ (by omega)) ?_;refine Gi (((dg (n%10)).toNat:Nat):Int) (hb:=fun _=>by rw[vP (by omega)];exact IntWalk.u8_in _ (by omega)) ?_;refine cz [.int .u8 _] ?_;refine Gj [dg (n%10)] (he:=fun _=>sa.all ae rfl) (hs:=fun _=>rfl) ?_;refine ax ?_;have h0:bS n=(if n<10 then []else bS (n/10))++[dg (n%10)]:=by
  split
  ·rename_i h;rw[jl h,Nat.mod_eq_of_lt h];rfl
  ·rw[j7 (by omega)]
 refine bq hm (ι:=(Nat×ah)) (fun p=>[⟨true,.int .u64 (p.1:Nat)⟩,.un,.un,⟨true,.str p.2⟩]) (fun p=>[]) 8 (fun p=>p.1≤9999∧p.2.length≤9999-p.1+1∧bS n=(if p.1<10 then []else bS (p.1/10))++p.2) (fun p=>p.1) (n,[dg (n%10)]) ⟨hp0,by simp,h0⟩ (dT []) ?_;rintro⟨k,s⟩ ⟨hk,hs,hr⟩;dsimp only at hk hs hr⊢;refine aQ ?_;refine cG (fun hc0=>?_) fun hc0=>?_
 ·refine aA ?_;refine N2 ((k/10:Nat):Int) (hn:=by intro _;omega) (hb:=fun _=>by rw[show((k:Int).tdiv 10)=((k/10:Nat):Int)from rfl,IntKind.wrap_u64];omega) ?_;refine aA ?_;refine Cf (((k/10)%10:Nat):Int) (hn:=by intro _;omega) (hb:=fun _=>rfl) ?_;refine rU (((k/10)%10:Nat):Int) (hb:=fun _=>IntWalk.u8_in _ (by omega)) ?_;refine Gi (((dg ((k/10)%10)).toNat:Nat):Int) (hb:=fun _=>by rw[vP (by omega)];exact IntWalk.u8_in _ (by omega)) ?_;refine cz [.int .u8 _] ?_;refine Gj [dg ((k/10)%10)] (he:=fun _=>sa.all ae rfl) (hs:=fun _=>rfl) ?_;refine ay ?_;refine c9 (hb:=fun _=>by simp;omega) ?_;refine aA ?_;have h1:bS n=(if k/10<10 then []else bS (k/10/10))++([dg (k/10%10)]++s):=by
   rw[hr,if_neg (by omega)];split
   ·rename_i h;rw[jl h,Nat.mod_eq_of_lt h];rfl
   ·rw[j7 (by omega),List.append_assoc]
  exact⟨(k/10,[dg (k/10%10)]++s),⟨by dsimp only;omega,by simp;omega,h1⟩,by dsimp only;omega,(dT [])⟩
 refine bc ?_;refine cA ?_;rw[hr,if_pos (by omega)];rfl
def MU (Γ:Ctx):Prop:=∀(n:Nat),(n≤9999)→Γ.pre 882 [.int .u64 (n:Nat)]∧Γ.val 882 [.int .u64 (n:Nat)]=.str (bS n)
def zG:aB:=⟨1,3,kH,cq,(sq (r1 [gm cse] 1 0) (sq (sq (r1 [gm s0,aX l0 bH] 2 1) (.cond s2 (sq (r1 [gm s0,au l0 ca,gn (.un .neg l1),gn (.cvi .u64 l2),au l3 (iu 1),gx 882 [l4] cq,au (cs [45]) l5,gm l6] 1 7) .ret) .skip)) (sq (r1 [gm s0,gn (.cvi .u64 l0),gx 882 [l1] cq,gm l2] 1 3) .ret)))⟩
def w734 {Γ:Ctx}(hm:(Γ.at 0).bj)(h882:MU Γ)(n:Int)  (hp0:0≤n∧n≤9999):dK Γ zG (.str (bS n.toNat)) [.int .i64 n]:=by
 show bB _ _ _ [⟨_,_⟩,_,_] _;refine ak ?_;refine bc ?_;refine cG (fun hc0=>?_) fun hc0=>?_
 ·omega
 refine ax ?_;obtain⟨k,rfl⟩:∃k:Nat,n=k:=⟨n.toNat,by omega⟩
 refine ay ?_;refine rU (k:Int) (hb:=fun _=>by rw[IntKind.wrap_u64];omega) ?_;refine aj (hc:=h882 _ ?_) ?_;rotate_left;first|assumption|omega
 refine az ?_;exact cA rfl
def MP (Γ:Ctx):Prop:=∀(n:Int),(0≤n∧n≤9999)→Γ.pre 734 [.int .i64 n]∧Γ.val 734 [.int .i64 n]=.str (bS n.toNat)
def Bg:aB:=⟨2,8,[⟨2,none⟩],[[.sl 1 [.a]]],(sq (r1 [gm (.c (.ar))] 2 0) (sq (r1 [gm (.c (.ar))] 6 0) (sq (r1 [gm bH] 7 0) (sq (sq (r1 [gm bH] 3 0) (.block 0 (.loop (sq (sq (r1 [gm s3,gm s0,yl l1,aX l0 l2] 4 3) (iw s4 0)) (sq (.block 1 (sq (r1 [gm s0,gm s3,HN l0 l1,gm s1,aF l2 l3] 5 4) (.cond s5 (sq (r1 [gm s6,gm s0,gm s7,gm s3,gn (.slS l1 (some l2) (some l3)),gn (.bsl 1 (.str []) 1 [(0,l4)]),gn (.app 1 l0 l5),gm l6] 6 7) (r1 [gm s3,au l0 ca,gm l1] 7 2)) .skip))) (r1 [gm s3,au l0 ca,gm l1] 3 2)))))) (sq (r1 [gm s6,gm s0,gm s7,gn (.slS l1 (some l2) none),gn (.bsl 1 (.str []) 1 [(0,l3)]),gn (.app 1 l0 l4),gm l5] 2 6) .ret)))))⟩
def w470 {Γ:Ctx}(hm:(Γ.at 0).bj)  (s:ah)(b:Int)  (hp0:s.length≤1048576):dK Γ Bg (.sl 1 ((ai s b).map D.str)) [.str s,.int .u8 b]:=by
 show bB _ _ _ [⟨_,_⟩,⟨_,_⟩,_,_,_,_,_,_] _;refine ak ?_;refine gJ ?_;refine bq hm (ι:=(Nat×Nat×List ah)) (fun p:Nat×Nat×List ah=>[⟨true,.str s⟩,⟨true,.int .u8 b⟩,.un,⟨true,.int .i64 (p.1:Nat)⟩,.un,.un,⟨true,.own 0 1 0 p.2.2.length⟩,⟨true,.int .i64 (p.2.1:Nat)⟩]) (fun p=>[(0,.buf 1 (p.2.2.map D.str))]) 4 (fun p=>p.1≤s.length∧p.2.1≤p.1∧p.2.2.length≤p.1∧ai s b=p.2.2++bm b (s.drop p.1) ((s.take p.1).drop p.2.1)) (fun p=>s.length-p.1) (0,0,[]) ⟨by simp,by simp,by simp,rfl⟩ (aP.to [] ae ae (by repeat(first|exact c7.nil|refine c7.un ?_|refine c7.eq ae ?_|refine c7.nl ae ae ?_|refine c7.ni (Or.inr ⟨0,1,0,rfl⟩) ?_)) (by repeat(first|exact aC.nil|refine aC.mt ae ae ae ae ?_))) ?_;rintro⟨i,fr,acc⟩ ⟨hi,hf,ha,hr⟩;dsimp only at hi hf ha hr⊢;refine aQ ?_;intro u0;refine ax ?_;refine cG (fun hc0=>?_) fun hc0=>?_
 ·refine dA ?_;refine wp_cond (fun hc1=>?_) (fun hc1=>?_)
  ·try simp only[iB]at hc1
   refine aQ ?_;refine zx _ _ ?_;refine cz [(.str _)] ?_;refine xe ?_;exact⟨(i+1,i+1,acc++[(s.take i).drop fr]),⟨by dsimp only;omega,by dsimp only;omega,by simp;omega,by rw[hr,wI (by omega) hc1];simp⟩,by dsimp only;omega,(aP.to [(19,0)] ae ae lN (by refine aC.nl 19 ae ae ae bY ?_;exact aC.nil))⟩
  simp only[decide_eq_false_iff_not]at hc1;refine b8 ?_;exact⟨(i+1,fr,acc),⟨by dsimp only;omega,by dsimp only;omega,by dsimp only;omega,by rw[hr,wJ (by omega) (by omega) hc1]⟩,by dsimp only;omega,(aP.to [(0,0)] ae ae lN (by refine aC.nl 0 ae ae ae bY ?_;exact aC.nil))⟩
 refine aO ?_;refine nb _ ?_;refine cz [(.str _)] ?_;refine az ?_;refine ey 13 ?_;refine ay ?_;refine cj (?_);have hs:ai s b=acc++[s.drop fr]:=by rw[hr,uN (by omega)]
 rw[hs];exact rfl
def Mu (Γ:Ctx):Prop:=∀(s:ah)(b:Int),(s.length≤1048576)→Γ.pre 470 [.str s,.int .u8 b]∧Γ.val 470 [.str s,.int .u8 b]=.sl 1 ((ai s b).map D.str)
end Go.Abs
end
section
namespace Go.Abs
open Go
def Bh:aB:=⟨1,2,kH,cq,(sq (r1 [gm cU] 1 0) (sq (r1 [gm s0,hZ l0 (i8 48),gm l1,gmt 2 s0,cw 2 (mA l3 (i8 57)),fk l2 l4,gm l5] 1 6) .ret))⟩
def w454 {Γ:Ctx}(hm:(Γ.at 0).bj)  (c:Int)   :dK Γ Bh (.bool (aH c)) [.int .u8 c]:=by
 show bB _ _ _ [⟨_,_⟩,_] _;refine ak ?_;refine gJ ?_;exact bx rfl
def Mp (Γ:Ctx):Prop:=∀(c:Int),Γ.pre 454 [.int .u8 c]∧Γ.val 454 [.int .u8 c]=.bool (aH c)
def zH:aB:=⟨1,9,[⟨1,none⟩,⟨2,none⟩],jd,(sq (rg [gm bH,gm cU] [(1,0),(2,1)]) (sq (sq (r1 [gm s0,yl l0,aX l1 ca,gm l2,fu 3 s0,cH 3 (.lenS l4),cH 3 (dw l5 BX),gp l3 l6,gm l7,fu 8 s0,cH 8 (.lenS l9),cH 8 (dw l10 ca),fu 8 jx,gmt 12 s0,cw 12 (.ixS mw bH),cw 12 (cR nJ (i8 48)),Ei 8 kT ot,gp l8 qk] 3 17) (.cond s3 (sq (rg [gm bH,gm cU] [(1,0),(2,1)]) .ret) .skip)) (sq (r1 [gm bH] 7 0) (sq (sq (r1 [gm bH] 4 0) (.block 0 (.loop (sq (sq (r1 [gm s4,gm s0,yl l1,aX l0 l2] 5 3) (iw s5 0)) (sq (.block 1 (sq (sq (r1 [gm s0,gm s4,HN l0 l1,gx 454 [l2] cq,n4 l3] 6 4) (.cond s6 (sq (rg [gm bH,gm cU] [(1,0),(2,1)]) .ret) .skip)) (r1 [gm s7,gn (.bin .mul l0 (i6 10)),gm s0,gm s4,HN l2 l3,fH l4 (i8 48),gn (.cvi .i64 l5),au l1 l6,gm l7] 7 8))) (r1 [gm s4,au l0 ca,gm l1] 4 2)))))) (sq (sq (r1 [gm s7,dH l0 (i6 9999)] 8 1) (.cond s8 (sq (rg [gm bH,gm cU] [(1,0),(2,1)]) .ret) .skip)) (sq (rg [gm s7,gm l0,gm rC] [(1,1),(2,2)]) .ret))))))⟩
def w667 {Γ:Ctx}(hm:(Γ.at 0).bj)(h454:Mp Γ)(s:ah)   :dK Γ zH (.tup [.int .i64 (cW s),.bool (dL s)]) [.str s]:=by
 show bB _ _ _ [⟨_,_⟩,_,_,_,_,_,_,_,_] _;refine ak ?_;refine bc ?_;intro u0;refine az ?_;refine n9 ?_;refine aA ?_;refine n9 ?_;refine az ?_;refine Ce 0 ?_;refine aA ?_;refine cG (fun hc0=>?_) fun hc0=>?_
 ·refine aO ?_;refine cj (aV (congrArg (D.int .i64) ?_) (congrArg D.bool ?_));all_goals
   have:dL s=false:=by
    simp only[dL];rcases hc0 with(h|h)|h
    ·rw[decide_eq_false (by omega:¬1≤s.length)];rfl
    ·rw[decide_eq_false (by omega:¬s.length≤9)];simp
    ·rw[decide_eq_true (by omega:1<s.length),decide_eq_true h.2];simp
   simp[cW,this]
 refine b8 ?_;have hP:dL s=(cd (fun i=>aH (at8 s i)) 0 s.length&&decide (ct s≤9999)):=by
  simp only[dL];rw[decide_eq_true (by omega:1≤s.length),decide_eq_true (by omega:s.length≤9)];rcases hc0.2 with h|h
  ·rw[decide_eq_false (by omega:¬1<s.length)];rfl
  ·rw[decide_eq_false h,Bool.and_false];rfl
 refine bq hm (ι:=Nat) (fun i=>[⟨true,.str s⟩,.un,.un,.un,⟨true,.int .i64 (i:Nat)⟩,.un,.un,⟨true,.int .i64 (ct (s.take i):Nat)⟩,.un]) (fun i=>[]) 22 (fun i=>i≤s.length∧s.length≤9∧dL s=(cd (fun i=>aH (at8 s i)) i s.length&&decide (ct s≤9999))) (fun i=>s.length-i) 0 ⟨by omega,by omega,hP⟩ (dT []) ?_;rintro i ⟨hi,h9,hr⟩;refine aQ ?_;intro u1;refine ax ?_;refine cG (fun hc1=>?_) fun hc1=>?_
 ·refine bc ?_;refine aj (hc:=h454 _) ?_;refine ax ?_;refine aq (fun hc2=>?_) (fun hc2=>?_)
  ·try simp only[iB]at hc2
   refine b8 ?_;refine cj (aV (congrArg (D.int .i64) ?_) (congrArg D.bool ?_));all_goals
    have:dL s=false:=by rw[hr,aD (by omega),hc2];rfl
    simp[cW,this]
  simp only[Bool.not_eq_false']at hc2;refine ax ?_;have h48:=hc2;simp only[aH,Bool.and_eq_true,decide_eq_true_eq]at h48;have hn:=p8 s i (by omega);have hn2:=rS s i (by omega);have h256:=EE s i;refine ay ?_;refine tc ?_;refine az ?_;refine Gu (at8 s i-48) (hb:=fun _=>IntWalk.u8_in _ (by omega)) ?_;refine rU (at8 s i-48) (hb:=fun _=>IntWalk.i64_in _ (by omega)) ?_;refine az ?_;rw[show(ct (s.take i):Int)*10+(at8 s i-48)=(ct (s.take (i+1)):Nat)by omega];refine bc ?_;exact⟨i+1,⟨by omega,h9,by rw[hr,aD (by omega),hc2];rfl⟩,by omega,(dT [])⟩
 refine aA ?_;have ht:s.take i=s:=List.take_of_length_le (by omega);rw[ht];refine az ?_;refine cG (fun hc3=>?_) fun hc3=>?_
 ·refine aO ?_;refine cj (aV (congrArg (D.int .i64) ?_) (congrArg D.bool ?_));all_goals
   have:dL s=false:=by rw[hr,decide_eq_false (by omega),Bool.and_false]
   simp[cW,this]
 refine bc ?_;refine cj (aV (congrArg (D.int .i64) ?_) (congrArg D.bool ?_));all_goals
  have:dL s=true:=by rw[hr,bK (by omega),decide_eq_true (by omega)];rfl
  simp[cW,this]
def MH (Γ:Ctx):Prop:=∀(s:ah),Γ.pre 667 [.str s]∧Γ.val 667 [.str s]=.tup [.int .i64 (cW s),.bool (dL s)]
def x7:aB:=⟨1,5,kH,cq,(sq (r1 [gm cU] 1 0) (sq (sq (r1 [gm bH] 2 0) (.block 0 (.loop (sq (sq (r1 [gm s2,gm s0,yl l1,aX l0 l2] 3 3) (iw s3 0)) (sq (.block 1 (sq (r1 [gm s0,gm s2,HN l0 l1,aX l2 (i8 48),gm l3,fu 4 s0,fu 4 s2,cH 4 (.ixS l5 l6),cH 4 (dw l7 (i8 57)),gp l4 l8] 4 9) (oo s4 cU))) (r1 [gm s2,au l0 ca,gm l1] 2 2)))))) (sq (r1 [gm s0,yl l0,dH l1 bH,gm l2] 1 3) .ret)))⟩
def w668 {Γ:Ctx}(hm:(Γ.at 0).bj)  (t:ah)   :dK Γ x7 (.bool (dp t)) [.str t]:=by
 show bB _ _ _ [⟨_,_⟩,_,_,_,_] _;refine ak ?_;refine aO ?_;refine bq hm (ι:=Nat) (fun i=>[⟨true,.str t⟩,.un,⟨true,.int .i64 (i:Nat)⟩,.un,.un]) (fun i=>[]) 2 (fun i=>i≤t.length∧cd (fun i=>aH (at8 t i)) 0 t.length=cd (fun i=>aH (at8 t i)) i t.length) (fun i=>t.length-i) 0 ⟨by omega,rfl⟩ (dT []) ?_;rintro i ⟨hi,hr⟩;refine aQ ?_;intro u0;refine ax ?_;refine cG (fun hc0=>?_) fun hc0=>?_
 ·refine xd ?_;refine gw (fun hc1=>?_) fun hc1=>?_
  ·refine aO ?_;refine bx ?_;simp only[dp];rw[hr,aD (by omega)];rcases hc1 with h|h<;>simp[aH]<;>omega
  refine b8 ?_;exact⟨i+1,⟨by omega,by rw[hr,aD (by omega)];rw[show aH (at8 t i)=true by simp only[aH,Bool.and_eq_true,decide_eq_true_eq];omega];rfl⟩,by omega,(dT [])⟩
 refine aQ ?_;intro u1;refine aA ?_;refine bx ?_;simp only[dp];rw[hr,bK (by omega)];simp
def MI (Γ:Ctx):Prop:=∀(t:ah),Γ.pre 668 [.str t]∧Γ.val 668 [.str t]=.bool (dp t)
def Gz:aB:=⟨1,7,kH,cq,(sq (r1 [gm cU] 1 0) (sq (sq (r1 [gm s0,yl l0,aX l1 ca,gm l2,fu 3 s0,cH 3 (.lenS l4),cH 3 (dw l5 HV),gp l3 l6] 2 7) (oo s2 cU)) (sq (sq (r1 [gm bH] 3 0) (.block 0 (.loop (sq (sq (r1 [gm s3,gm s0,yl l1,aX l0 l2] 4 3) (iw s4 0)) (sq (.block 1 (sq (r1 [gm s0,gm s3,HN l0 l1,gm l2] 5 3) (sq (r1 [gm s5,aX l0 (i8 97),gm l1,fu 2 s5,cH 2 (dw l3 (i8 122)),gp l2 l4,gm l5,gmt 6 s5,cw 6 (pC l7 (i8 48)),gmt 6 l8,fu 9 s5,cH 9 (dw l10 (i8 57)),LH 6 l9 jx,fk l6 kT,gm mw,gmt 14 s5,cw 14 (fo ot (i8 45)),fk nJ qk] 6 17) (oo s6 cU)))) (r1 [gm s3,au l0 ca,gm l1] 3 2)))))) (AN rC))))⟩
def w666 {Γ:Ctx}(hm:(Γ.at 0).bj)  (t:ah)   :dK Γ Gz (.bool (mq t)) [.str t]:=by
 show bB _ _ _ [⟨_,_⟩,_,_,_,_,_,_] _;refine ak ?_;refine aO ?_;intro u0;refine az ?_;refine n9 ?_;refine az ?_;refine cG (fun hc0=>?_) fun hc0=>?_
 ·refine aQ ?_;refine bx ?_;symm;simp only[mq,Bool.and_eq_false_iff,decide_eq_false_iff_not];exact Or.inl (by omega)
 refine aQ ?_;refine bq hm (ι:=Nat) (fun i=>[⟨true,.str t⟩,.un,.un,⟨true,.int .i64 (i:Nat)⟩,.un,.un,.un]) (fun i=>[]) 10 (fun i=>i≤t.length∧mq t=cd (fun i=>js (at8 t i)) i t.length) (fun i=>t.length-i) 0 ⟨by omega,by simp only[mq];rw[decide_eq_true (by omega),decide_eq_true (by omega)];rfl⟩ (dT []) ?_;rintro i ⟨hi,hr⟩;refine aQ ?_;intro u1;refine ax ?_;refine cG (fun hc1=>?_) fun hc1=>?_
 ·refine GY ?_;refine gw (fun hc2=>?_) fun hc2=>?_
  ·refine aO ?_;refine bx ?_;rw[hr,aD (by omega)];have:js (at8 t i)=false:=(by simp only[js,eM,aH,Bool.or_eq_false_iff,Bool.and_eq_false_iff,decide_eq_false_iff_not];omega);rw[this];rfl
  refine b8 ?_;exact⟨i+1,⟨by omega,by rw[hr,aD (by omega)];have:js (at8 t i)=true:=(by simp only[js,eM,aH,Bool.or_eq_true,Bool.and_eq_true,decide_eq_true_eq];omega);rw[this];rfl⟩,by omega,(dT [])⟩
 refine aO ?_;refine bx ?_;rw[hr,bK (by omega)]
def MG (Γ:Ctx):Prop:=∀(t:ah),Γ.pre 666 [.str t]∧Γ.val 666 [.str t]=.bool (mq t)
def DW:aB:=⟨2,11,[⟨2,none⟩],cq,(sq (r1 [gm cU] 2 0) (sq (sq (r1 [gm s0,aF l0 cse] 3 1) (.cond s3 (sq (r1 [gm rC] 2 0) .ret) .skip)) (sq (r1 [gm s0,gx 470 [l0,(i8 46)] jd,gm l1] 4 2) (sq (sq (r1 [gm s4,gl l0,dH l1 vc] 5 2) (.cond s5 (sq (r1 [gm cU] 2 0) .ret) .skip)) (sq (sq (r1 [gm bH] 6 0) (.block 0 (.loop (sq (sq (r1 [gm s6,gm s4,gl l1,aX l0 l2] 7 3) (iw s7 0)) (sq (.block 1 (sq (sq (r1 [gm s4,gm s6,ga 1 l0 l1,gd l2,gx 666 [l3] cq,n4 l4] 8 5) (.cond s8 (sq (r1 [gm cU] 2 0) .ret) .skip)) (sq (r1 [gm s4,gm s6,ga 1 l0 l1,gd l2,gx 667 [l3] cq,gm l4,ge l5 0,ge l5 1,gm l6,gm l7] 9 9) (sq (r1 [gm s1,gm l0,gmt 1 s4,gmt 1 s6,cw 1 (.ia 1 l2 l3),jZ 1 l4,cw 1 (.call 668 [l5] cq),fk l1 l6,gm l7,gmt 8 s9,cw 8 (.un .not l9),fk l8 l10] 10 11) (.cond lf (sq (r1 [gm cU] 2 0) .ret) .skip))))) (r1 [gm s6,au l0 ca,gm l1] 6 2)))))) (sq (r1 [gm rC] 2 0) .ret))))))⟩
def w456 {Γ:Ctx}(hm:(Γ.at 0).bj)(h470:Mu Γ)(h666:MG Γ)(h667:MH Γ)(h668:MI Γ)(s:ah)(p:Bool)  (hp0:s.length≤1048576):dK Γ DW (.bool (lX s p)) [.str s,.bool p]:=by
 show bB _ _ _ [⟨_,_⟩,⟨_,_⟩,_,_,_,_,_,_,_,_,_] _;refine ak ?_;refine bc ?_;refine cG (fun hc0=>?_) fun hc0=>?_
 ·refine aQ ?_;refine bx ?_;simp[lX,hc0]
 refine az ?_;refine aj (hc:=h470 _ _ ?_) ?_;rotate_left;first|assumption|omega;have hlen:=cQ s 46
 refine aO ?_;intro u0;refine ax ?_;refine aq (fun hc1=>?_) (fun hc1=>?_)
 ·try simp only[iB]at hc1
  refine aQ ?_;refine bx ?_;simp only[lX,jh];rw[decide_eq_false hc0,decide_eq_false (by omega)];rfl
 simp only[decide_eq_false_iff_not]at hc1;refine aQ ?_;refine bq hm (ι:=Nat) (fun i=>[⟨true,.str s⟩,⟨true,.bool p⟩,.un,.un,⟨true,.sl 1 ((ai s 46).map D.str)⟩,.un,⟨true,.int .i64 (i:Nat)⟩,.un,.un,.un,.un]) (fun i=>[]) 10 (fun i=>i≤(ai s 46).length∧lX s p=cd (fun i=>eu p (ai s 46)[i]!) i (ai s 46).length) (fun i=>(ai s 46).length-i) 0 ⟨by omega,by simp only[lX,jh];rw[decide_eq_false hc0,decide_eq_true (by omega)];rfl⟩ (dT []) ?_;rintro i ⟨hi,hr⟩;refine aQ ?_;intro u1;refine ax ?_;refine cG (fun hc2=>?_) fun hc2=>?_
 ·refine b8 ?_;refine aj (hc:=h666 _) ?_;refine ax ?_;refine aq (fun hc3=>?_) (fun hc3=>?_)
  ·simp only[Bool.not_eq_true']at hc3;refine bc ?_;refine bx ?_;rw[hr,aD (by omega)];simp only[eu,hc3];rfl
  simp only[Bool.not_eq_false']at hc3;refine aO ?_;refine aj (hc:=h667 _) ?_;refine lZ ?_;refine aj (hc:=h668 _) ?_;refine aO ?_;refine wp_cond (fun hc4=>?_) (fun hc4=>?_)
  ·skip
   refine aO ?_;refine bx ?_;have h5:eu p (ai s 46)[i]! =false:=(by simp only[eu,hc3];revert hc4;generalize dp (ai s 46)[i]! =a;generalize dL (ai s 46)[i]! =b;cases p<;>cases a<;>cases b<;>simp);rw[hr,aD (by omega),h5];rfl
  skip
  refine b8 ?_;exact⟨i+1,⟨by omega,by rw[hr,aD (by omega)];have h5:eu p (ai s 46)[i]! =true:=(by simp only[eu,hc3];revert hc4;generalize dp (ai s 46)[i]! =a;generalize dL (ai s 46)[i]! =b;cases p<;>cases a<;>cases b<;>simp);rw[h5];rfl⟩,by omega,(dT [])⟩
 refine aO ?_;refine bx ?_;rw[hr,bK (by omega)]
def Mr (Γ:Ctx):Prop:=∀(s:ah)(p:Bool),(s.length≤1048576)→Γ.pre 456 [.str s,.bool p]∧Γ.val 456 [.str s,.bool p]=.bool (lX s p)
def Gy:aB:=⟨1,2,kH,cq,(sq (r1 [gm cU] 1 0) (sq (r1 [gm s0,hZ l0 bH,gm l1,gmt 2 s0,cw 2 (mA l3 (i6 9999)),fk l2 l4,gm l5] 1 6) .ret))⟩
def w455 {Γ:Ctx}(hm:(Γ.at 0).bj)  (n:Int)   :dK Γ Gy (.bool (pR n)) [.int .i64 n]:=by
 show bB _ _ _ [⟨_,_⟩,_] _;refine ak ?_;refine gJ ?_;exact bx rfl
def Mq (Γ:Ctx):Prop:=∀(n:Int),Γ.pre 455 [.int .i64 n]∧Γ.val 455 [.int .i64 n]=.bool (pR n)
def Gx:aB:=⟨1,3,kH,cq,(sq (rg [gb 5 s0,gm cU] [(2,0),(1,1)]) (sq (r1 [gf 0 s2,gd l0,gx 455 [l1] cq,gm l2,kd 3 1 s2,jZ 3 l4,cw 3 (.call 455 [l5] cq),fk l3 l6,gm l7,kd 8 2 s2,jZ 8 l9,cw 8 (.call 455 [l10] cq),fk l8 jx,gm kT,kd 13 3 s2,jZ 13 nJ,cw 13 (.call 456 [ot,rC] jd),fk mw qk,gm ve,kd 18 4 s2,jZ 18 za,cw 18 (.call 456 [AS,cU] jd),fk we B0,gm Ej] 1 23) .ret))⟩
def w217 {Γ:Ctx}(hm:(Γ.at 0).bj)(h455:Mq Γ)(h456:Mr Γ)(v:df)  (hp0:v.sm):dK Γ Gx (.bool (en v)) [df.D v]:=by
 show bB _ _ _ [⟨_,_⟩,_,_] _;refine ak ?_;refine aO ?_;refine aj (hc:=h455 _) ?_;refine az ?_;refine aj (hc:=h455 _) ?_;refine aA ?_;refine aj (hc:=h455 _) ?_;refine aA ?_;refine eF (hc:=fun hf=>h456 v.pre true hp0.1) ?_;refine aA ?_;refine eF (hc:=fun hf=>h456 v.build false hp0.2) ?_;refine aA ?_;exact bx rfl
def L3 (Γ:Ctx):Prop:=∀(v:df),(v.sm)→Γ.pre 217 [df.D v]∧Γ.val 217 [df.D v]=.bool (en v)
end Go.Abs
end
section
namespace Go.Abs
open Go
end Go.Abs
end
section
namespace Go.Abs
open Go
end Go.Abs
end
section
namespace Go.Abs
open Go
end Go.Abs
end
section
namespace Go.Abs
open Go
end Go.Abs
end
section
namespace Go.Abs
open Go
end Go.Abs
end
section
namespace Go.Abs
open Go
end Go.Abs
end
section
namespace Go.Abs
open Go
def vB:aB:=⟨1,18,[⟨1,some (5,true)⟩,⟨2,none⟩],[[.a,.a,.a,.a,.a],[.a]],(sq (rg [gb 5 (.c (.agg [.int .i64 0,.int .i64 0,.int .i64 0,.str [],.str []])),gm bH] [(1,0),(2,1)]) (sq (r1 [gb 5 (.c (.agg [.int .i64 0,.int .i64 0,.int .i64 0,.str [],.str []]))] 4 0) (sq (r1 [gm s0,gm l0] 3 1) (sq (r1 [gm s3,gx 675 [l0,(i8 43)] jd,gm l1,ge l2 0,ge l2 1,gf 4 s4,gt 1 l5 l3,gm l4] 3 7) (sq (r1 [gm s3,gx 675 [l0,(i8 45)] jd,gm l1,ge l2 0,ge l2 1,gf 3 s4,gt 1 l5 l3,gm l4] 3 7) (sq (r1 [gm s3,gx 533 [l0,(i8 46)] jd,gm l1] 5 2) (sq (sq (r1 [gm s5,gl l0,b7 l1 kG] 6 2) (.cond s6 (sq (r1 [gn (.build [.int .i64 0,.int .i64 0,.int .i64 0,.str [],.str []] []),gt 5 s1 l0,gm BW] 2 2) .ret) .skip)) (sq (r1 [gb 3 (.c (.agg [.int .i64 0,.int .i64 0,.int .i64 0]))] 16 0) (sq (sq (rg [gm s5,gl l0,gm bH] [(10,0),(8,1),(7,2)]) (.block 0 (.loop (sq (r1 [aX s7 s8] 9 0) (sq (iw s9 0) (sq (.block 1 (sq (rg [gm s7,ga 1 lf s7,gd l1,gm l0,gm l2] [(14,3),(11,4)]) (sq (rg [gm n7,gx 658 [l0] cq,gm l1,ge l2 0,ge l2 1,gm l3,gm l4] [(15,5),(12,6)]) (sq (sq (r1 [gm mi,n4 l0] 13 1) (.cond uL (sq (r1 [gn (.build [.int .i64 0,.int .i64 0,.int .i64 0,.str [],.str []] []),gt 5 s1 l0,gm BW] 2 2) .ret) .skip)) (rg [gm td,gm wD,gn (.iaP 3 1 Co l0),gt 1 l2 l1] []))))) (r1 [au s7 ca,gm l0] 7 1))))))) (sq (rt [gn (.iaP 3 1 Co bH),gd l0,gn (.iaP 3 1 Co ca),gn (.ldI 1 false l2),gn (.iaP 3 1 Co kR),gn (.ldI 1 false l4),gf 0 s4,gt 1 l6 l1,gf 1 s4,gt 1 l8 l3,gf 2 s4,gt 1 l10 l5] []) (sq (sq (r1 [gk 5 true s4,gx 209 [l0] Kz,n4 l1,gm l2,cH 3 (.ld 5 true s4),cH 3 (.call 451 [l4] Kz),fu 3 s0,cH 3 (fo l5 l6),gp l3 l7] 17 8) (.cond ym (sq (r1 [gn (.build [.int .i64 0,.int .i64 0,.int .i64 0,.str [],.str []] []),gt 5 s1 l0,gm BW] 2 2) .ret) .skip)) (sq (r1 [gk 5 true s4,gt 5 s1 l0,gm bH] 2 2) .ret))))))))))))⟩
def w466 {Γ:Ctx}(hm:(Γ.at 0).bj)(h209:Eo Γ)(h451:JQ Γ)(h533:Er Γ)(h658:Hc Γ)(h675:MJ Γ)(s:ah)  (hp0:s.length≤1048576):dK Γ vB (.tup [df.D ((kE s).getD ja),.int .i64 (uV s)]) [.str s]:=by
 show bB _ _ _ [⟨_,_⟩,_,_,_,_,_,_,_,_,_,_,_,_,_,_,_,_,_] _;have hb1:=j6 s 43;have jd:=j6 (cL s 43).2 45;generalize hA:cL s 43=A at hb1 jd;generalize hB:cL A.2 45=B at jd;have hsl:=cQ B.2 46;generalize hL:ai B.2 46=L at hsl;have hq0:kE s=if L.length=3∧dL L[0]! =true∧dL L[1]! =true∧dL L[2]! =true then(if en ⟨cW L[0]!,cW L[1]!,cW L[2]!,B.1,A.1⟩=true∧iN ⟨cW L[0]!,cW L[1]!,cW L[2]!,B.1,A.1⟩=s then some ⟨cW L[0]!,cW L[1]!,cW L[2]!,B.1,A.1⟩else none)else none:=by subst hA;subst hB;subst hL;rfl
 refine ak ?_;refine gJ ?_;refine aj (hc:=h675 s 43) ?_;rw[hA];refine aA ?_;refine aJ (df.D ⟨0,0,0,[],A.1⟩) (he:=by exact rfl) ?_;refine aA ?_;refine aj (hc:=h675 A.2 45) ?_;rw[hB];refine aA ?_;refine aJ (df.D ⟨0,0,0,B.1,A.1⟩) (he:=by exact rfl) ?_;refine aA ?_;refine aj (hc:=h533 B.2 46 (by omega)) ?_;rw[hL];refine aO ?_;intro u0;refine ax ?_;refine cG (fun hc0=>?_) fun hc0=>?_
 ·refine ax ?_;refine bA (df.D ja) ?_;refine aA ?_;refine cj (aV ?_ (congrArg (D.int .i64) ?_));all_goals
   have hq:kE s=none:=by rw[hq0,if_neg (fun h=>by have:=h.1;omega)]
   simp only[uV,hq];rfl
 refine b8 ?_;intro u1;refine ax ?_;refine bq hm (ι:=Nat) (fun i=>[⟨true,.str s⟩,⟨true,.ptr 0 5 0 0⟩,.un,.un,⟨true,.ptr 2 5 0 0⟩,.un,.un,⟨true,.int .i64 (i:Nat)⟩,⟨true,.int .i64 (L.length:Nat)⟩,.un,⟨true,.sl 1 (L.map D.str)⟩,.un,.un,.un,.un,.un,⟨true,.ptr 27 3 0 0⟩,.un]) (fun i=>[(0,.buf 5 [df.D ja]),(2,.buf 5 [df.D ⟨0,0,0,B.1,A.1⟩]),(27,.buf 3 [Ih L i])]) 31 (fun i=>i≤3∧∀j,j<i→dL L[j]! =true) (fun i=>3-i) 0 ⟨by omega,fun j hj=>by omega⟩ (dT [(0,0),(2,2),(27,27)]) ?_;rintro i ⟨hi,hr⟩;refine az ?_;refine cG (fun hc1=>?_) fun hc1=>?_
 ·refine gI ?_;refine aj (hc:=h658 L[i]!) ?_;refine gI ?_;refine aq (fun hc2=>?_) (fun hc2=>?_)
  ·simp only[Bool.not_eq_true']at hc2;refine ax ?_;refine bA (df.D ja) ?_;refine aO ?_;refine cj (aV ?_ (congrArg (D.int .i64) ?_));all_goals
    have hq:kE s=none:=by
     rw[hq0,if_neg];rintro⟨_,h1,h2,h3⟩;rcases(show i=0∨i=1∨i=2 by omega)with rfl|rfl|rfl
     ·rw[h1]at hc2;cases hc2
     ·rw[h2]at hc2;cases hc2
     ·rw[h3]at hc2;cases hc2
    simp only[uV,hq];rfl
  simp only[Bool.not_eq_false']at hc2;refine aA ?_;refine xW i ?_;refine aJ (Ih L (i+1)) (he:=FA L i (by omega)) ?_;refine bc ?_;have hr2:∀j,j<i+1→dL L[j]! =true:=by
   intro j hj;rcases Nat.eq_or_lt_of_le (Nat.lt_succ_iff.1 hj)with rfl|h
   ·exact hc2
   ·exact hr j h
  exact⟨i+1,⟨by omega,hr2⟩,by omega,(dT [(0,0),(2,2),(27,27)])⟩
 refine ax ?_;refine ey 27 ?_;refine ay ?_;have h3:i=3:=by omega
 subst h3;refine Be 0 ?_;refine ec (v:=.int .i64 (cW L[0]!)) ?_;refine Be 1 ?_;refine Bf (v:=.int .i64 (cW L[1]!)) ?_;refine Be 2 ?_;refine Bf (v:=.int .i64 (cW L[2]!)) ?_;refine ay ?_;refine aJ (df.D ⟨cW L[0]!,0,0,B.1,A.1⟩) (he:=by exact rfl) ?_;refine ay ?_;refine aJ (df.D ⟨cW L[0]!,cW L[1]!,0,B.1,A.1⟩) (he:=by exact rfl) ?_;refine ay ?_;refine aJ (df.D ⟨cW L[0]!,cW L[1]!,cW L[2]!,B.1,A.1⟩) (he:=by exact rfl) ?_;refine az ?_;have hsm:df.sm ⟨cW L[0]!,cW L[1]!,cW L[2]!,B.1,A.1⟩:=⟨by simp only;omega,by simp only;omega⟩;generalize hV:(⟨cW L[0]!,cW L[1]!,cW L[2]!,B.1,A.1⟩:df)=V at hsm hq0⊢;refine ay ?_;refine aj (hc:=h209 V hsm) ?_;refine az ?_;refine eF (hc:=fun _=>h451 V hsm) ?_;refine aA ?_;refine aq (fun hc3=>?_) (fun hc3=>?_)
 ·simp only[Bool.or_eq_true,Bool.not_eq_true',decide_eq_false_iff_not]at hc3;refine ax ?_;refine bA (df.D ja) ?_;refine aA ?_;refine cj (aV ?_ (congrArg (D.int .i64) ?_));all_goals
   have hq:kE s=none:=by
    rw[hq0];split
    ·rw[if_neg];rintro⟨h1,h2⟩;rcases hc3 with h|h
     ·rw[h1]at h;cases h
     ·exact h h2
    ·rfl
   simp only[uV,hq];rfl
 simp only[Bool.or_eq_false_iff,Bool.not_eq_false',decide_eq_true_eq]at hc3;refine bc ?_;refine cj (aV ?_ (congrArg (D.int .i64) ?_));all_goals
  have hq:kE s=some V:=by
   rw[hq0,if_pos ⟨by omega,hr 0 (by omega),hr 1 (by omega),hr 2 (by omega)⟩,if_pos hc3]
  simp only[uV,hq];rfl
def Ms (Γ:Ctx):Prop:=∀(s:ah),(s.length≤1048576)→Γ.pre 466 [.str s]∧Γ.val 466 [.str s]=.tup [df.D ((kE s).getD ja),.int .i64 (uV s)]
end Go.Abs
end
section
namespace Go.Abs
open Go
end Go.Abs
end
section
namespace Go.Abs
open Go
end Go.Abs
end
section
namespace Go.Abs
open Go
end Go.Abs
end
section
namespace Go.Abs
open Go
end Go.Abs
end
section
namespace Go.Abs
open Go
end Go.Abs
end
section
namespace Go.Abs
open Go
end Go.Abs
end
section
namespace Go.Abs
open Go
end Go.Abs
end
section
namespace Go.Abs
open Go
end Go.Abs
end
section
namespace Go.Abs
open Go
end Go.Abs
end
namespace Go.Abs
end Go.Abs
section
namespace Go.Abs
open Go
end Go.Abs
end
section
namespace Go.Abs
open Go
end Go.Abs
end
section
namespace Go.Abs
open Go
def xw:aB:=⟨2,10,[⟨2,none⟩],cq,(sq (r1 [gm bH] 2 0) (sq (sq (rg [gm s0,gl l0,gm bH] [(6,0),(4,1),(3,2)]) (.block 0 (.loop (sq (r1 [aX s3 s4] 5 0) (sq (iw s5 0) (sq (.block 1 (sq (rg [gm s3,ga 2 s6 s3,gk 2 true l1,gb 2 (.c (.agg [.str [],.ar])),gm l0,gt 2 l3 l2] [(7,3),(9,4)]) (sq (r1 [gf 0 s7,gd l0,gm s1,aF l1 l2] 8 3) (.cond s8 (sq (r1 [gm s9,gm l0] 2 1) .ret) .skip)))) (r1 [au s3 ca,gm l0] 3 1))))))) (sq (r1 [gn (.mv (.c (.int .i64 (-1))))] 2 0) .ret)))⟩
def w663 {Γ:Ctx}(hm:(Γ.at 0).bj)  (l:List aU)(nm:ah)   :dK Γ xw (.int .i64 (findF l nm 0)) [.sl 2 (l.map aU.D),.str nm]:=by
 show bB _ _ _ [⟨_,_⟩,⟨_,_⟩,_,_,_,_,_,_,_,_] _;refine ak ?_;refine aO ?_;intro u0;refine ax ?_;refine bq hm (ι:=Nat) (fun i=>[⟨true,.sl 2 (l.map aU.D)⟩,⟨true,.str nm⟩,.un,⟨true,.int .i64 (i:Nat)⟩,⟨true,.int .i64 (l.length:Nat)⟩,.un,⟨true,.sl 2 (l.map aU.D)⟩,.un,.un,.un]) (fun i=>[]) 4 (fun i=>i≤l.length∧findF l nm 0=findF l nm i) (fun i=>l.length-i) 0 ⟨by omega,rfl⟩ (dT []) ?_;rintro i ⟨hi,hr⟩;refine az ?_;refine cG (fun hc0=>?_) fun hc0=>?_
 ·refine aQ ?_;first|refine bQ (v:=(aU.D _)) ?_|refine ec (v:=(aU.D _)) ?_
  refine ax ?_;refine aJ (aU.D l[i]!) (he:=by exact rfl) ?_;refine bc ?_;refine gw (fun hc1=>?_) fun hc1=>?_
  ·refine bc ?_;refine iq ?_;rw[hr,E0 (by omega) hc1]
  refine bc ?_;exact⟨i+1,⟨by omega,by rw[hr,E1 (by omega) hc1]⟩,by omega,(dT [])⟩
 refine aO ?_;refine iq ?_;rw[hr,C3 (by omega)]
def MF (Γ:Ctx):Prop:=∀(l:List aU)(nm:ah),Γ.pre 663 [.sl 2 (l.map aU.D),.str nm]∧Γ.val 663 [.sl 2 (l.map aU.D),.str nm]=.int .i64 (findF l nm 0)
def vn:aB:=⟨2,3,[⟨2,none⟩],cq,(sq (r1 [gm cU] 2 0) (sq (r1 [gm s1,aF l0 (cs [100,101,102,97,117,108,116]),gm l1,fu 2 s0,fu 2 s1,cH 2 (.call 663 [l3,l4] [[.sl 2 [.a,.sl 1 [.a]]],[.a]]),cH 2 (yz l5 bH),gp l2 l6,gm l7] 2 8) .ret))⟩
def w449 {Γ:Ctx}(hm:(Γ.at 0).bj)(h663:MF Γ)(l:List aU)(nm:ah)   :dK Γ vn (.bool (LJ l nm)) [.sl 2 (l.map aU.D),.str nm]:=by
 show bB _ _ _ [⟨_,_⟩,⟨_,_⟩,_] _;refine ak ?_;refine b8 ?_;refine aj (hc:=h663 _ _) ?_;refine aQ ?_;exact bx rfl
def Mo (Γ:Ctx):Prop:=∀(l:List aU)(nm:ah),Γ.pre 449 [.sl 2 (l.map aU.D),.str nm]∧Γ.val 449 [.sl 2 (l.map aU.D),.str nm]=.bool (LJ l nm)
end Go.Abs
end
section
namespace Go.Abs
open Go
def xx:aB:=⟨1,12,[⟨1,none⟩,⟨2,none⟩,⟨3,none⟩],NH,(sq (rg [gm bH,gm cse,gm cse] [(1,0),(2,1),(3,2)]) (sq (sq (r1 [gm s0,gx 349 [l0] cq] 4 1) (.cond s4 (sq (rg [gm s0,gm ca,gm l0,gm cse] [(1,1),(2,2),(3,3)]) .ret) .skip)) (sq (sq (rg [gm s0,gx 254 [l0,(cs [63])] jd,gm l1,ge l2 0,ge l2 1,gm l3,gm l4] [(6,5),(5,6)]) (sq (r1 [gm s5,gm l0,gmt 1 s6,cw 1 (.call 349 [l2] cq),fk l1 l3] 7 4) (.cond s7 (sq (rg [gm s6,gm kR,gm l0,gm cse] [(1,1),(2,2),(3,3)]) .ret) .skip))) (sq (sq (rg [gm s0,gx 487 [l0,(cs [47])] jd,gm l1,ge l2 0,ge l2 1,ge l2 2,gm l3,gm l4,gm l5] [(9,6),(10,7),(8,8)]) (sq (r1 [gm s8,gm l0,gmt 1 s9,cw 1 (.call 208 [l2] cq),fk l1 l3,gm l4,gmt 5 lf,cw 5 (.call 349 [l6] cq),fk l5 l7] 11 8) (.cond n7 (sq (rg [gm s9,gm lf,gm kG,gm l0,gm l1] [(1,2),(2,3),(3,4)]) .ret) .skip))) (sq (rg [gm bH,gm cse,gm cse] [(1,0),(2,1),(3,2)]) .ret)))))⟩
def w448 {Γ:Ctx}(hm:(Γ.at 0).bj)(h208:G7 Γ)(h254:Mf Γ)(h349:Al Γ)(h487:MA Γ)(s:ah)  (hp0:s.length≤1048576):dK Γ xx (.tup [.int .i64 (cb s).1,.str (cb s).2.1,.str (cb s).2.2]) [.str s]:=by
 show bB _ _ _ [⟨_,_⟩,_,_,_,_,_,_,_,_,_,_,_] _;refine ak ?_;refine bc ?_;refine aj (hc:=h349 _) ?_;refine ay ?_;refine cG (fun hc0=>?_) fun hc0=>?_
 ·refine b8 ?_;refine cj (kj (congrArg (D.int .i64) ?_) (congrArg D.str ?_) (congrArg D.str ?_));all_goals rw[HZ hc0]
 refine aA ?_;refine aj (hc:=h254 s [63] hp0 (by decide)) ?_;refine gI ?_;refine aj (hc:=h349 _) ?_;refine ax ?_;refine cG (fun hc1=>?_) fun hc1=>?_
 ·refine b8 ?_;refine cj (kj (congrArg (D.int .i64) ?_) (congrArg D.str ?_) (congrArg D.str ?_));all_goals rw[H4 hc0 hc1]
 refine aA ?_;refine aj (hc:=h487 s 47 hp0) ?_;refine lZ ?_;refine aj (hc:=h208 _) ?_;refine az ?_;refine aj (hc:=h349 _) ?_;refine ax ?_;refine cG (fun hc2=>?_) fun hc2=>?_
 ·refine dA ?_;refine cj (kj (congrArg (D.int .i64) ?_) (congrArg D.str ?_) (congrArg D.str ?_));all_goals rw[H5 hc0 hc1 hc2]
 refine bc ?_;refine cj (kj (congrArg (D.int .i64) ?_) (congrArg D.str ?_) (congrArg D.str ?_));all_goals rw[H3 hc0 hc1 hc2]
def JO (Γ:Ctx):Prop:=∀(s:ah),(s.length≤1048576)→Γ.pre 448 [.str s]∧Γ.val 448 [.str s]=.tup [.int .i64 (cb s).1,.str (cb s).2.1,.str (cb s).2.2]
end Go.Abs
end
section
namespace Go.Abs
open Go
def yN:aB:=⟨1,18,kH,cq,(sq (r1 [gm cU] 1 0) (sq (sq (r1 [gm s0,gl l0,dH l1 HV] 2 2) (oo s2 cU)) (sq (sq (rg [gm s0,gl l0,gm bH] [(6,0),(4,1),(3,2)]) (.block 0 (.loop (sq (r1 [aX s3 s4] 5 0) (sq (iw s5 0) (sq (.block 1 (sq (rg [gm s3,ga 2 s6 s3,gk 2 true l1,gb 2 (.c (.agg [.str [],.ar])),gm l0,gt 2 l3 l2] [(7,3),(8,4)]) (sq (sq (r2 [gf 0 s7,gd l0,gx 349 [l1] cq,n4 l2,gm l3,fu 4 s8,cH 4 (dw l5 bH),fu 4 l6,gmt 7 s0,gmt 7 s8,cw 7 (mB l9 ca),cw 7 (.ia 2 l8 l10),kd 7 0 jx,jZ 7 kT,kd 7 0 s7,jZ 7 nJ,cw 7 (yz mw ot),Ei 4 l7 qk,gp l4 ve,gm we,kQ 19 1 s7,mc 19 AS,cH 19 (.len B0),cH 19 (dw Ej AP),gp za H7,gm H8,kQ 25 1 s7,mc 25 KH,cH 25 (.call 447 [LK] [[.sl 1 [.a]]]),cH 25 (.un .not LL),gp H9 LM] 9 30) (oo s9 cU)) (sq (rg [gf 1 s7,gd l0,gl l1,gm bH] [(13,1),(11,2),(10,3)]) (.block 2 (.loop (sq (r1 [aX lf n7] 12 0) (sq (iw mi 2) (sq (.block 3 (sq (r1 [ga 1 uL lf,gd l0,gm l1] 14 2) (sq (rg [gm td,gx 448 [l0] cq,gm l1,ge l2 0,ge l2 1,ge l2 2,gm l3,gm l4,gm l5] [(15,6),(16,7)]) (sq (r1 [gm wD,aF l0 bH,gm l1,fu 2 wD,cH 2 (cR l3 ca),fu 2 l4,gmt 5 s0,gmt 5 Co,cw 5 (.call 449 [l6,l7] [[.sl 2 [.a,.sl 1 [.a]]],[.a]]),cw 5 (.un .not l8),Ei 2 l5 l9,gp l2 l10] 17 11) (oo ym cU))))) (r1 [au lf ca,gm l0] 10 1)))))))))) (r1 [au s3 ca,gm l0] 3 1))))))) (AN rC))))⟩
def w213 {Γ:Ctx}(hm:(Γ.at 0).bj)(h349:Al Γ)(h447:Mn Γ)(h448:JO Γ)(h449:Mo Γ)(l:List aU)  (hp0:sR l):dK Γ yN (.bool (fF l)) [.sl 2 (l.map aU.D)]:=by
 show bB _ _ _ [⟨_,_⟩,_,_,_,_,_,_,_,_,_,_,_,_,_,_,_,_,_] _;refine ak ?_;refine aO ?_;intro u0;refine ax ?_;refine cG (fun hc0=>?_) fun hc0=>?_
 ·refine aQ ?_;refine bx ?_;symm;simp only[fF];rw[decide_eq_false (by omega)];rfl
 refine aQ ?_;intro u1;refine ax ?_;have hb:fF l=cd (kp l) 0 l.length:=by simp only[fF];rw[decide_eq_true (by omega)];rfl
 refine bq hm (ι:=Nat) (fun i=>[⟨true,.sl 2 (l.map aU.D)⟩,.un,.un,⟨true,.int .i64 (i:Nat)⟩,⟨true,.int .i64 (l.length:Nat)⟩,.un,⟨true,.sl 2 (l.map aU.D)⟩,.un,.un,.un,.un,.un,.un,.un,.un,.un,.un,.un]) (fun i=>[]) 7 (fun i=>i≤l.length∧fF l=cd (kp l) i l.length) (fun i=>l.length-i) 0 ⟨by omega,hb⟩ (dT []) ?_;rintro i ⟨hi,hr⟩;refine az ?_;refine cG (fun hc1=>?_) fun hc1=>?_
 ·refine aQ ?_;first|refine bQ (v:=(aU.D _)) ?_|refine ec (v:=(aU.D _)) ?_
  refine ax ?_;refine aJ (aU.D l[i]!) (he:=by exact rfl) ?_;refine aQ ?_;refine aj (hc:=h349 _) ?_;refine b8 ?_;refine cK (i-1) ?_;refine jj ?_;refine n9 ?_;refine aQ ?_;refine aj (hc:=h447 _) ?_;refine az ?_;refine aq (fun hc2=>?_) (fun hc2=>?_)
  ·have hfo:=CX hc2;refine bc ?_;refine bx ?_;rw[hr,aD (by omega),hfo];rfl
  have hfo:=CY hc2;refine aQ ?_;intro u2;refine ax ?_;refine qg hm (ι:=Nat) (fun j=>[⟨true,.sl 2 (l.map aU.D)⟩,.un,.un,⟨true,.int .i64 (i:Nat)⟩,⟨true,.int .i64 (l.length:Nat)⟩,.un,⟨true,.sl 2 (l.map aU.D)⟩,.un,.un,.un,⟨true,.int .i64 (j:Nat)⟩,⟨true,.int .i64 (l[i]!.of.length:Nat)⟩,.un,⟨true,.sl 1 (l[i]!.of.map D.str)⟩,.un,.un,.un,.un]) (fun j=>[]) 49 (fun j=>j≤l[i]!.of.length∧kp l i=cd (fun j=>iR l l[i]!.of[j]!) j l[i]!.of.length) (fun j=>l[i]!.of.length-j) 0 ⟨by omega,hfo⟩ (dT []) ?_;rintro j ⟨hj,hjr⟩;refine az ?_;refine cG (fun hc3=>?_) fun hc3=>?_
  ·refine dA ?_;refine aj (hc:=h448 l[i]!.of[j]! ((hp0 _ (bL (by omega))).2.2 _ (bL (by omega)))) ?_;refine CD ?_;refine aj (hc:=h449 _ _) ?_;refine aA ?_;refine wp_cond (fun hc4=>?_) (fun hc4=>?_)
   ·have hz:iR l l[i]!.of[j]! =false:=by simp only[iR,hc4];rfl
    refine b8 ?_;refine bx ?_;rw[hr,aD (by omega),hjr,aD (by omega),hz];rfl
   have hz:iR l l[i]!.of[j]! =true:=by simp only[iR,hc4];rfl
   refine bc ?_;exact⟨j+1,⟨by omega,by rw[hjr,aD (by omega),hz];rfl⟩,by omega,(dT [])⟩
  refine b8 ?_;exact⟨i+1,⟨by omega,by rw[hr,aD (by omega),hjr,bK (by omega)];rfl⟩,by omega,(dT [])⟩
 refine aO ?_;refine bx ?_;rw[hr,bK (by omega)]
def L1 (Γ:Ctx):Prop:=∀(l:List aU),(sR l)→Γ.pre 213 [.sl 2 (l.map aU.D)]∧Γ.val 213 [.sl 2 (l.map aU.D)]=.bool (fF l)
end Go.Abs
end
section
namespace Go.Abs
open Go
def DX:aB:=⟨1,11,kH,cq,(sq (r1 [gm cse] 1 0) (sq (sq (r1 [gm s0] 2 0) (.block 0 (sq (r1 [aF s2 ca,gm l0] 3 1) (.cond s3 (sq (r1 [gm (cs [61])] 1 0) .ret) (sq (r1 [aF s2 kR,gm l0] 4 1) (.cond s4 (sq (r1 [gm (cs [33,61])] 1 0) .ret) (sq (r1 [aF s2 kG,gm l0] 5 1) (.cond s5 (sq (r1 [gm (cs [60])] 1 0) .ret) (sq (r1 [aF s2 vc,gm l0] 6 1) (.cond s6 (sq (r1 [gm (cs [60,61])] 1 0) .ret) (sq (r1 [aF s2 BW,gm l0] 7 1) (.cond s7 (sq (r1 [gm (cs [62])] 1 0) .ret) (sq (r1 [aF s2 AP,gm l0] 8 1) (.cond s8 (sq (r1 [gm (cs [62,61])] 1 0) .ret) (sq (r1 [aF s2 KD,gm l0] 9 1) (.cond s9 (sq (r1 [gm (cs [94])] 1 0) .ret) (sq (r1 [aF s2 HV,gm l0] 10 1) (.cond lf (sq (r1 [gm (cs [126])] 1 0) .ret) .skip)))))))))))))))))) (AN cse)))⟩
def w678 {Γ:Ctx}(hm:(Γ.at 0).bj)  (op:Int)   :dK Γ DX (.str (bR op)) [.int .i64 op]:=by
 show bB _ _ _ [⟨_,_⟩,_,_,_,_,_,_,_,_,_,_] _;refine ak ?_;refine gI ?_;refine gw (fun hc0=>?_) fun hc0=>?_
 ·refine aQ ?_;refine cA ?_;unfold bR;simp_all
 refine aA ?_;refine gw (fun hc1=>?_) fun hc1=>?_
 ·refine aQ ?_;refine cA ?_;unfold bR;simp_all
 refine aA ?_;refine gw (fun hc2=>?_) fun hc2=>?_
 ·refine aQ ?_;refine cA ?_;unfold bR;simp_all
 refine aA ?_;refine gw (fun hc3=>?_) fun hc3=>?_
 ·refine aQ ?_;refine cA ?_;unfold bR;simp_all
 refine aA ?_;refine gw (fun hc4=>?_) fun hc4=>?_
 ·refine aQ ?_;refine cA ?_;unfold bR;simp_all
 refine aA ?_;refine gw (fun hc5=>?_) fun hc5=>?_
 ·refine aQ ?_;refine cA ?_;unfold bR;simp_all
 refine aA ?_;refine gw (fun hc6=>?_) fun hc6=>?_
 ·refine aQ ?_;refine cA ?_;unfold bR;simp_all
 refine aA ?_;refine gw (fun hc7=>?_) fun hc7=>?_
 ·refine aQ ?_;refine cA ?_;unfold bR;simp_all
 refine aO ?_;refine cA ?_;unfold bR;simp_all
def ML (Γ:Ctx):Prop:=∀(op:Int),Γ.pre 678 [.int .i64 op]∧Γ.val 678 [.int .i64 op]=.str (bR op)
def CR:aB:=⟨1,11,kH,cq,(sq (r1 [gm cse] 1 0) (sq (sq (r1 [gm s0] 2 0) (.block 0 (sq (r1 [aF s2 ca,gm l0] 3 1) (.cond s3 (sq (r1 [gm (cs [61])] 1 0) .ret) (sq (r1 [aF s2 kR,gm l0] 4 1) (.cond s4 (sq (r1 [gm (cs [33,61])] 1 0) .ret) (sq (r1 [aF s2 kG,gm l0] 5 1) (.cond s5 (sq (r1 [gm (cs [60])] 1 0) .ret) (sq (r1 [aF s2 vc,gm l0] 6 1) (.cond s6 (sq (r1 [gm (cs [60,61])] 1 0) .ret) (sq (r1 [aF s2 BW,gm l0] 7 1) (.cond s7 (sq (r1 [gm (cs [62])] 1 0) .ret) (sq (r1 [aF s2 AP,gm l0] 8 1) (.cond s8 (sq (r1 [gm (cs [62,61])] 1 0) .ret) (sq (r1 [aF s2 KD,gm l0] 9 1) (.cond s9 (sq (r1 [gm (cs [94])] 1 0) .ret) (sq (r1 [aF s2 HV,gm l0] 10 1) (.cond lf (sq (r1 [gm (cs [126])] 1 0) .ret) .skip)))))))))))))))))) (AN cse)))⟩
def w957 {Γ:Ctx}(hm:(Γ.at 0).bj)  (op:Int)   :dK Γ CR (.str (bR op)) [.int .i64 op]:=by
 show bB _ _ _ [⟨_,_⟩,_,_,_,_,_,_,_,_,_,_] _;refine ak ?_;refine gI ?_;refine gw (fun hc0=>?_) fun hc0=>?_
 ·refine aQ ?_;refine cA ?_;unfold bR;simp_all
 refine aA ?_;refine gw (fun hc1=>?_) fun hc1=>?_
 ·refine aQ ?_;refine cA ?_;unfold bR;simp_all
 refine aA ?_;refine gw (fun hc2=>?_) fun hc2=>?_
 ·refine aQ ?_;refine cA ?_;unfold bR;simp_all
 refine aA ?_;refine gw (fun hc3=>?_) fun hc3=>?_
 ·refine aQ ?_;refine cA ?_;unfold bR;simp_all
 refine aA ?_;refine gw (fun hc4=>?_) fun hc4=>?_
 ·refine aQ ?_;refine cA ?_;unfold bR;simp_all
 refine aA ?_;refine gw (fun hc5=>?_) fun hc5=>?_
 ·refine aQ ?_;refine cA ?_;unfold bR;simp_all
 refine aA ?_;refine gw (fun hc6=>?_) fun hc6=>?_
 ·refine aQ ?_;refine cA ?_;unfold bR;simp_all
 refine aA ?_;refine gw (fun hc7=>?_) fun hc7=>?_
 ·refine aQ ?_;refine cA ?_;unfold bR;simp_all
 refine aO ?_;refine cA ?_;unfold bR;simp_all
def J5 (Γ:Ctx):Prop:=∀(op:Int),Γ.pre 957 [.int .i64 op]∧Γ.val 957 [.int .i64 op]=.str (bR op)
def yH:aB:=⟨2,3,[⟨2,none⟩],cq,(sq (r1 [gm cU] 2 0) (sq (r1 [gm s0,yl l0,gm s1,yl l2,hZ l1 l3,gm l4,gmt 5 s0,gmt 5 s1,cw 5 (.lenS l7),cw 5 (.slS l6 none (some l8)),gmt 5 s1,cw 5 (cR l9 l10),fk l5 jx,gm kT] 2 13) .ret))⟩
def w956 {Γ:Ctx}(hm:(Γ.at 0).bj)  (s:ah)(w:ah)   :dK Γ yH (.bool (qw s w)) [.str s,.str w]:=by
 show bB _ _ _ [⟨_,_⟩,⟨_,_⟩,_] _;refine ak ?_;refine aQ ?_;intro u0;refine ax ?_;intro u1;refine aA ?_;refine n9 ?_;refine uF w.length (hj:=fun _=>rfl) (hb:=fun h=>by simp at h;omega) ?_;refine aO ?_;refine bx ?_;unfold qw;rw[show decide ((w.length:Int)≤(s.length:Int))=decide (w.length≤s.length)from decide_eq_decide.2 (by omega)]
def MV (Γ:Ctx):Prop:=∀(s:ah)(w:ah),Γ.pre 956 [.str s,.str w]∧Γ.val 956 [.str s,.str w]=.bool (qw s w)
end Go.Abs
end
section
namespace Go.Abs
open Go
def GA:aB:=⟨1,8,kH,cq,(sq (rg [gb 7 s0,gm cU] [(2,0),(1,1)]) (sq (sq (r1 [gf 0 s2,gd l0,aX l1 ca,gm l2,kQ 3 0 s2,mc 3 l4,cH 3 (dw l5 BX),gp l3 l6,gm l7,kQ 8 2 s2,cH 8 (.ld 5 true l9),cH 8 (.call 217 [l10] Kz),cH 8 (.un .not jx),gp l8 kT,gm mw,kQ 14 2 s2,kQ 14 4 ot,mc 14 qk,cH 14 (fo ve cse),gp nJ we] 3 19) (oo s3 cU)) (sq (rg [gm ca,gm kG] [(5,0),(6,1)]) (sq (sq (r1 [gf 0 s2,gd l0,aF l1 BX] 4 2) (.cond s4 (rg [gm bH,gm kR] [(5,0),(6,1)]) .skip)) (sq (sq (r1 [gf 1 s2,gd l0,gm s5,aX l1 l2,gm l3,kQ 4 1 s2,mc 4 l5,fu 4 s6,cH 4 (dw l6 l7),gp l4 l8,gm l9,kQ 10 1 s2,mc 10 jx,cH 10 (pC kT kG),fu 10 mw,kd 14 2 s2,kd 14 3 ot,jZ 14 qk,cw 14 (fo ve cse),Ei 10 nJ we,gp l10 za] 7 20) (oo s7 cU)) (sq (r1 [gf 1 s2,gd l0,dH l1 bH,gm l2,kQ 3 2 s2,kQ 3 0 l4,mc 3 l5,cH 3 (cR l6 bH),gp l3 l7,gm l8,kd 9 1 s2,jZ 9 l10,cw 9 (dw jx ca),gmt 9 kT,kQ 13 2 s2,kQ 13 1 nJ,mc 13 ot,cH 13 (cR qk bH),LH 9 mw ve,fk l9 we,gm za,kd 20 1 s2,jZ 20 B0,cw 20 (dw Ej kR),gmt 20 H7,kQ 24 2 s2,kQ 24 2 H9,mc 24 KH,cH 24 (cR LK bH),LH 20 H8 LL,fk AS LM,gm NN] 1 31) .ret))))))⟩
def w676 {Γ:Ctx}(hm:(Γ.at 0).bj)(h217:L3 Γ)(c:b6)  (hp0:c.v.sm):dK Γ GA (.bool (iQ c)) [b6.D c]:=by
 show bB _ _ _ [⟨_,_⟩,_,_,_,_,_,_,_] _;refine ak ?_;refine xe ?_;refine cu (v:=df.D c.v) ?_;refine eF (hc:=fun hf=>h217 c.v hp0) ?_;refine dA ?_;refine aq (fun hc0=>?_) (fun hc0=>?_)
 ·have hq:=yF hc0;refine aQ ?_;refine bx ?_;rw[hq]
 have hy:=vO hc0;refine gI ?_;refine aq (fun hc1=>?_) (fun hc1=>?_)
 ·simp only[decide_eq_true_eq]at hc1;have hz:=ny hy (lo:=0) (hi:=2) (if_pos hc1) (if_pos hc1);refine GY ?_;refine aq (fun hc2=>?_) (fun hc2=>?_)
  ·rw[hc2]at hz;refine aQ ?_;refine bx ?_;rw[hz];rfl
  rw[hc2]at hz;refine JG ?_;refine bx ?_;rw[hz];rfl
 simp only[decide_eq_false_iff_not]at hc1;have hz:=ny hy (lo:=1) (hi:=3) (if_neg hc1) (if_neg hc1);refine JF ?_;refine aq (fun hc2=>?_) (fun hc2=>?_)
 ·rw[hc2]at hz;refine aQ ?_;refine bx ?_;rw[hz];rfl
 rw[hc2]at hz;refine JG ?_;refine bx ?_;rw[hz];rfl
def MK (Γ:Ctx):Prop:=∀(c:b6),(c.v.sm)→Γ.pre 676 [b6.D c]∧Γ.val 676 [b6.D c]=.bool (iQ c)
def EP:aB:=⟨1,14,kH,cq,(sq (rg [gb 7 s0,gm cU] [(2,0),(1,1)]) (sq (sq (r1 [gf 0 s2,gd l0,aX l1 ca,gm l2,kQ 3 0 s2,mc 3 l4,cH 3 (dw l5 BX),gp l3 l6,gm l7,kQ 8 2 s2,cH 8 (.ld 5 true l9),cH 8 (.call 209 [l10] Kz),cH 8 (.un .not jx),gp l8 kT,gm mw,kQ 14 2 s2,kQ 14 4 ot,mc 14 qk,cH 14 (fo ve cse),gp nJ we] 3 19) (oo s3 cU)) (sq (rg [gm ca,gm kG] [(5,0),(6,1)]) (sq (sq (r1 [gf 0 s2,gd l0,aF l1 BX] 4 2) (.cond s4 (rg [gm bH,gm kR] [(5,0),(6,1)]) .skip)) (sq (sq (r1 [gf 1 s2,gd l0,gm s5,aX l1 l2,gm l3,kQ 4 1 s2,mc 4 l5,fu 4 s6,cH 4 (dw l6 l7),gp l4 l8,gm l9,kQ 10 2 s2,kQ 10 3 jx,mc 10 kT,cH 10 (fo mw cse),fu 10 nJ,kd 15 1 s2,jZ 15 qk,cw 15 (pC ve kG),Ei 10 ot we,gp l10 za] 7 20) (oo s7 cU)) (sq (sq (r1 [gf 1 s2,gd l0] 8 1) (.block 0 (sq (.block 3 (sq (.block 2 (sq (.block 1 (sq (sq (sq (r1 [aF s8 bH,gm l0] 9 1) (.cond s9 (.exit 1) .skip)) (sq (sq (r1 [aF s8 ca,gm l0] 10 1) (.cond lf (.exit 2) .skip)) (sq (r1 [aF s8 kR,gm l0] 11 1) (.cond n7 (.exit 3) .skip)))) (.exit 0))) (sq (r1 [gf 2 s2,gf 0 l0,gd l1,b7 l2 bH] 12 3) (oo mi cU)))) (sq (r1 [gf 2 s2,gf 1 l0,gd l1,b7 l2 bH] 13 3) (oo uL cU)))) (sq (sq (r1 [gf 2 s2,gf 2 l0,gd l1,aF l2 bH,gm l3] 1 4) .ret) (.exit 0))))) (AN rC)))))))⟩
def w827 {Γ:Ctx}(hm:(Γ.at 0).bj)(h209:Eo Γ)(c:b6)  (hp0:c.v.sm):dK Γ EP (.bool (iQ c)) [b6.D c]:=by
 show bB _ _ _ [⟨_,_⟩,_,_,_,_,_,_,_,_,_,_,_,_,_] _;refine ak ?_;refine xe ?_;refine cu (v:=df.D c.v) ?_;refine eF (hc:=fun hf=>h209 c.v hp0) ?_;refine dA ?_;refine aq (fun hc0=>?_) (fun hc0=>?_)
 ·have hq:=yF hc0;refine aQ ?_;refine bx ?_;rw[hq]
 have hy:=vO hc0;refine gI ?_;refine aq (fun hc1=>?_) (fun hc1=>?_)
 ·simp only[decide_eq_true_eq]at hc1;have hz:=ny hy (lo:=0) (hi:=2) (if_pos hc1) (if_pos hc1);refine GY ?_;refine aq (fun hc2=>?_) (fun hc2=>?_)
  ·rw[Bool.and_comm (!decide (c.v.pre=[]))]at hc2;rw[hc2]at hz;refine aQ ?_;refine bx ?_;rw[hz];simp[ma]<;>simp_all<;>omega
  rw[Bool.and_comm (!decide (c.v.pre=[]))]at hc2;rw[hc2]at hz;refine xf ?_;refine cG (fun hc3=>?_) fun hc3=>?_
  ·refine b8 ?_;refine gw (fun hc6=>?_) fun hc6=>?_
   ·refine bc ?_;refine bx ?_;rw[hz];simp[ma]<;>simp_all<;>omega
   refine b8 ?_;refine gw (fun hc7=>?_) fun hc7=>?_
   ·refine aO ?_;refine bx ?_;rw[hz];simp[ma]<;>simp_all<;>omega
   refine gJ ?_;refine bx ?_;rw[hz];simp[ma]<;>simp_all<;>omega
  refine bc ?_;refine cG (fun hc4=>?_) fun hc4=>?_
  ·refine dA ?_;refine gw (fun hc7=>?_) fun hc7=>?_
   ·refine aO ?_;refine bx ?_;rw[hz];simp[ma]<;>simp_all<;>omega
   refine gJ ?_;refine bx ?_;rw[hz];simp[ma]<;>simp_all<;>omega
  refine aO ?_;refine cG (fun hc5=>?_) fun hc5=>?_
  ·refine xd ?_;refine bx ?_;rw[hz];simp[ma]<;>simp_all<;>omega
  refine jj ?_;refine bx ?_;rw[hz];simp[ma]<;>simp_all<;>omega
 simp only[decide_eq_false_iff_not]at hc1;have hz:=ny hy (lo:=1) (hi:=3) (if_neg hc1) (if_neg hc1);refine JF ?_;refine aq (fun hc2=>?_) (fun hc2=>?_)
 ·rw[Bool.and_comm (!decide (c.v.pre=[]))]at hc2;rw[hc2]at hz;refine aQ ?_;refine bx ?_;rw[hz];simp[ma]<;>simp_all<;>omega
 rw[Bool.and_comm (!decide (c.v.pre=[]))]at hc2;rw[hc2]at hz;refine xf ?_;refine cG (fun hc3=>?_) fun hc3=>?_
 ·refine b8 ?_;refine gw (fun hc6=>?_) fun hc6=>?_
  ·refine bc ?_;refine bx ?_;rw[hz];simp[ma]<;>simp_all<;>omega
  refine b8 ?_;refine gw (fun hc7=>?_) fun hc7=>?_
  ·refine aO ?_;refine bx ?_;rw[hz];simp[ma]<;>simp_all<;>omega
  refine gJ ?_;refine bx ?_;rw[hz];simp[ma]<;>simp_all<;>omega
 refine bc ?_;refine cG (fun hc4=>?_) fun hc4=>?_
 ·refine dA ?_;refine gw (fun hc7=>?_) fun hc7=>?_
  ·refine aO ?_;refine bx ?_;rw[hz];simp[ma]<;>simp_all<;>omega
  refine gJ ?_;refine bx ?_;rw[hz];simp[ma]<;>simp_all<;>omega
 refine aO ?_;refine cG (fun hc5=>?_) fun hc5=>?_
 ·refine xd ?_;refine bx ?_;rw[hz];simp[ma]<;>simp_all<;>omega
 refine jj ?_;refine bx ?_;rw[hz];simp[ma]<;>simp_all<;>omega
def He (Γ:Ctx):Prop:=∀(c:b6),(c.v.sm)→Γ.pre 827 [b6.D c]∧Γ.val 827 [b6.D c]=.bool (iQ c)
end Go.Abs
end
section
namespace Go.Abs
open Go
def AE:aB:=⟨1,16,kH,cq,(sq (rg [gb 7 s0,gm cse] [(2,0),(1,1)]) (sq (sq (r1 [gk 7 true s2,gx 827 [l0] KA,n4 l1] 3 2) (oo s3 cse)) (sq (r1 [gf 0 s2,gd l0,gx 957 [l1] cq,gm l2] 11 3) (sq (sq (rg [gf 2 s2,gf 0 l0,gd l1,gf 2 s2,gf 1 l3,gd l4,gf 2 s2,gf 2 l6,gd l7,gn (.bsl 1 (.int .i64 0) 3 [(0,l2),(1,l5),(2,l8)]),gl l9,gm bH] [(7,9),(5,10),(4,11)]) (.block 0 (.loop (sq (r1 [aX s4 s5] 6 0) (sq (iw s6 0) (sq (.block 1 (sq (rg [gm s4,ga 1 s7 s4,gd l1,gm l0,gm l2] [(8,3),(12,4)]) (sq (sq (r1 [gm s8,gf 1 s2,gd l1,hZ l0 l2] 9 3) (.cond s9 (.exit 0) .skip)) (sq (sq (r1 [gm s8,dH l0 bH] 10 1) (.cond lf (r1 [gm n7,au l0 (cs [46]),gm l1] 11 2) .skip)) (r1 [gm n7,gm mi,gx 665 [l1] cq,au l0 l2,gm l3] 11 4))))) (r1 [au s4 ca,gm l0] 4 1))))))) (sq (sq (r1 [gf 0 s2,gd l0,aF l1 BX] 13 2) (.cond uL (sq (sq (r1 [gf 1 s2,gd l0,dH l1 bH] 14 2) (.cond td (r1 [gm n7,au l0 (cs [46]),gm l1] 11 2) .skip)) (sq (r1 [gm n7,au l0 (cs [42]),gm l1] 1 2) .ret)) .skip)) (sq (sq (r1 [gf 2 s2,gf 3 l0,gd l1,b7 l2 cse] 15 3) (.cond wD (r1 [gm n7,gf 2 s2,gf 3 l1,gd l2,au (cs [45]) l3,au l0 l4,gm l5] 11 6) .skip)) (sq (r1 [gm n7,gm l0] 1 1) .ret)))))))⟩
def w828 {Γ:Ctx}(hm:(Γ.at 0).bj)(h665:J0 Γ)(h827:He Γ)(h957:J5 Γ)(c:b6)  (hp0:c.v.sm):dK Γ AE (.str (cV c)) [b6.D c]:=by
 show bB _ _ _ [⟨_,_⟩,_,_,_,_,_,_,_,_,_,_,_,_,_,_,_] _;refine ak ?_;refine aO ?_;refine aj (hc:=h827 _ ?_) ?_;rotate_left;first|assumption|omega
 refine ax ?_;refine aq (fun hc0=>?_) (fun hc0=>?_)
 ·simp only[Bool.not_eq_true']at hc0;refine aQ ?_;refine cA ?_;simp[cV,hc0]
 simp only[Bool.not_eq_false']at hc0;obtain⟨hv,hp1,hp2,hp3,hp4⟩:=kL hc0;have hsl:=ri c.op;have hnl:=nN hv;refine aA ?_;refine aj (hc:=h957 _) ?_;refine lZ ?_;refine cz [(.int _ _),(.int _ _),(.int _ _)] ?_;refine ay ?_;intro u0;refine ax ?_;refine ey 18 ?_;refine bq hm (ι:=Nat) (fun i=>[.un,.un,⟨true,.ptr 0 7 0 0⟩,.un,⟨true,.int .i64 (i:Nat)⟩,⟨true,.int .i64 3⟩,.un,⟨true,.sl 1 (c.iI.map (D.int .i64))⟩,.un,.un,.un,⟨true,.str (bR c.op++dF c i)⟩,.un,.un,.un,.un]) (fun i=>[(0,.buf 7 [b6.D c])]) 21 (fun i=>i≤3∧i≤c.parts.toNat) (fun i=>3-i) 0 ⟨by omega,by omega⟩ (aP.to [(0,0)] ae ae (by repeat(first|exact c7.nil|refine c7.un ?_|refine c7.eq ae ?_|refine c7.nl (congrArg D.str (by first|(simp only[dF,if_pos hpos,List.append_assoc];done)|(simp only[dF,if_neg hpos,List.append_assoc,List.nil_append];done)|simp[dF])) ae ?_|refine c7.nl ae ae ?_)) zv) ?_;rintro i ⟨hi,hip⟩;have hni:=hnl i;have hfit:=m5 hv i;have hn3:c.iI.length=3:=rfl;refine az ?_;refine cG (fun hc1=>?_) fun hc1=>?_
 ·refine xf ?_;refine cG (fun hc2=>?_) fun hc2=>?_
  ·refine aQ ?_;obtain rfl:i=c.parts.toNat:=by omega
   refine aA ?_;refine cG (fun hc4=>?_) fun hc4=>?_
   ·refine bc ?_;refine cG (fun hc5=>?_) fun hc5=>?_
    ·refine ax ?_;refine r9 ?_;refine aQ ?_;refine r9 ?_;refine az ?_;refine cA ?_;simp[cV,iD,gW,hc0, *]
    refine aA ?_;refine r9 ?_;refine az ?_;refine cA ?_;simp[cV,iD,gW,hc0, *]
   refine b8 ?_;refine cG (fun hc6=>?_) fun hc6=>?_
   ·refine ay ?_;have hpl:=hp0.1;refine aA ?_;refine r9 ?_;refine r9 ?_;refine bc ?_;refine cA ?_;simp[cV,iD,gW,hc0, *]
   refine aO ?_;refine cA ?_;simp[cV,iD,gW,hc0, *]
  refine aO ?_;refine aq (fun hc3=>?_) (fun hc3=>?_)
  ·simp only[decide_eq_true_eq]at hc3;have hpos:0<i:=by omega
   refine ax ?_;refine r9 ?_;refine aQ ?_;refine aj (hc:=h665 (c.iI[i]!) ⟨hfit.1,hfit.2⟩) ?_;have hdl:=dD 4 (c.iI[i]!).toNat (by omega) (by omega);refine r9 ?_;refine b8 ?_;exact⟨i+1,⟨by omega,by omega⟩,by omega,(aP.to [(0,0)] ae ae (by repeat(first|exact c7.nil|refine c7.un ?_|refine c7.eq ae ?_|refine c7.nl (congrArg D.str (by first|(simp only[dF,if_pos hpos,List.append_assoc];done)|(simp only[dF,if_neg hpos,List.append_assoc,List.nil_append];done)|simp[dF])) ae ?_|refine c7.nl ae ae ?_)) zv)⟩
  simp only[decide_eq_false_iff_not]at hc3;have hpos:¬0<i:=by omega
  refine aA ?_;refine aj (hc:=h665 (c.iI[i]!) ⟨hfit.1,hfit.2⟩) ?_;have hdl:=dD 4 (c.iI[i]!).toNat (by omega) (by omega);refine r9 ?_;refine b8 ?_;exact⟨i+1,⟨by omega,by omega⟩,by omega,(aP.to [(0,0)] ae ae (by repeat(first|exact c7.nil|refine c7.un ?_|refine c7.eq ae ?_|refine c7.nl (congrArg D.str (by first|(simp only[dF,if_pos hpos,List.append_assoc];done)|(simp only[dF,if_neg hpos,List.append_assoc,List.nil_append];done)|simp[dF])) ae ?_|refine c7.nl ae ae ?_)) zv)⟩
 refine aA ?_;obtain rfl:i=c.parts.toNat:=by omega
 refine aA ?_;refine cG (fun hc4=>?_) fun hc4=>?_
 ·refine bc ?_;refine cG (fun hc5=>?_) fun hc5=>?_
  ·refine ax ?_;refine r9 ?_;refine aQ ?_;refine r9 ?_;refine az ?_;refine cA ?_;simp[cV,iD,gW,hc0, *]
  refine aA ?_;refine r9 ?_;refine az ?_;refine cA ?_;simp[cV,iD,gW,hc0, *]
 refine b8 ?_;refine cG (fun hc6=>?_) fun hc6=>?_
 ·refine ay ?_;have hpl:=hp0.1;refine aA ?_;refine r9 ?_;refine r9 ?_;refine bc ?_;refine cA ?_;simp[cV,iD,gW,hc0, *]
 refine aO ?_;refine cA ?_;simp[cV,iD,gW,hc0, *]
def J2 (Γ:Ctx):Prop:=∀(c:b6),(c.v.sm)→Γ.pre 828 [b6.D c]∧Γ.val 828 [b6.D c]=.str (cV c)
end Go.Abs
end
section
namespace Go.Abs
open Go
def rh:aB:=⟨1,4,kH,[[.sl 1 [.a]]],(sq (rg [gb 7 s0,gm (.c (.ar))] [(2,0),(1,1)]) (sq (r2 [gf 2 s2,gf 0 l0,gd l1,gx 734 [l2] cq,gf 2 s2,gf 1 l4,gd l5,gx 734 [l6] cq,gf 2 s2,gf 2 l8,gd l9,gx 734 [l10] cq,gn (.bsl 1 (.str []) 3 [(0,l3),(1,l7),(2,jx)]),gm kT] 3 13) (sq (r1 [gm s3,gf 1 s2,gd l1,gn (.slA 1 l0 none (some l2)),gm l3] 1 4) .ret)))⟩
def w677 {Γ:Ctx}(hm:(Γ.at 0).bj)(c:b6)(h734:MP Γ)(hp0:en c.v=true∧0≤c.parts∧c.parts≤3):bB (Γ.at 0) rh.body (ox rh (One (.own 14 1 0 c.parts.toNat) [(0,.buf 7 [b6.D c]),(14,.buf 1 [.str (bS c.v.major.toNat),.str (bS c.v.minor.toNat),.str (bS c.v.patch.toNat)])]):Ex→List a7→St→Prop) (eK rh [b6.D c]) ⟨0,[]⟩:=by
 show bB _ _ _ [⟨_,_⟩,_,_,_] _;refine ak ?_;refine bc ?_;refine aj (hc:=h734 c.v.major (m5 hp0.1 0)) ?_;refine az ?_;refine aj (hc:=h734 c.v.minor (m5 hp0.1 1)) ?_;refine az ?_;refine aj (hc:=h734 c.v.patch (m5 hp0.1 2)) ?_;refine cz [.str _,.str _,.str _] ?_;refine aO ?_;refine zw c.parts.toNat (hj:=fun _=>by omega) (hb:=fun _=>by omega) ?_;refine az ?_;refine ei trivial iK (Eq.trans ae (?_)) ae (oneq _ _);rfl
def J1 (Γ:Ctx):Prop:=∀(c:b6),(en c.v=true∧0≤c.parts∧c.parts≤3)→∀(nx:Nat)(m:List (Nat×aZ))(K:D→St→Prop),K (.own nx 1 0 c.parts.toNat) ⟨nx+1,(nx,.buf 1 [.str (bS c.v.major.toNat),.str (bS c.v.minor.toNat),.str (bS c.v.patch.toNat)])::m⟩→Γ.tr 677 [b6.D c] ⟨nx,m⟩ K
end Go.Abs
end
section
namespace Go.Abs
open Go
def Bj:aB:=⟨1,8,kH,cq,(sq (rg [gb 7 s0,gm cse] [(2,0),(1,1)]) (sq (sq (r1 [gk 7 true s2,gx 676 [l0] KA,n4 l1] 3 2) (oo s3 cse)) (sq (r1 [gk 7 true s2,gn (.callM 677 [l0]),gm l1] 5 2) (sq (sq (r1 [gf 0 s2,gd l0,aF l1 BX] 4 2) (.cond s4 (sq (r1 [gm s5,gf 1 s2,gd l1,gf 1 s2,gd l3,gn (.slX 1 l0 l2 l4),gn (.bsl 1 (.str []) 1 [(0,(cs [42]))]),gn (.app 1 l5 l6),gx 249 [l7,(i8 46)] [[.sl 1 [.a]],[.a]],gm l8] 1 9) .ret) .skip)) (sq (r1 [gf 0 s2,gd l0,gx 678 [l1] cq,gm s5,gx 249 [l3,(i8 46)] [[.sl 1 [.a]],[.a]],au l2 l4,gm l5] 7 6) (sq (sq (r1 [gf 2 s2,gf 3 l0,gd l1,b7 l2 cse] 6 3) (.cond s6 (r1 [gm s7,au l0 (cs [45]),gf 2 s2,gf 3 l2,gd l3,au l1 l4,gm l5] 7 6) .skip)) (sq (r1 [gm s7,gm l0] 1 1) .ret)))))))⟩
def w482 {Γ:Ctx}(hm:(Γ.at 0).bj)(h249:Me Γ)(h676:MK Γ)(h677:J1 Γ)(h678:ML Γ)(c:b6)  (hp0:c.v.sm):dK Γ Bj (.str (cV c)) [b6.D c]:=by
 show bB _ _ _ [⟨_,_⟩,_,_,_,_,_,_,_] _;refine ak ?_;refine aO ?_;refine aj (hc:=h676 _ ?_) ?_;rotate_left;first|assumption|omega
 refine ax ?_;refine aq (fun hc0=>?_) (fun hc0=>?_)
 ·simp only[Bool.not_eq_true']at hc0;refine aQ ?_;refine cA ?_;simp[cV,hc0]
 simp only[Bool.not_eq_false']at hc0;obtain⟨hv,hp1,hp2,hp3,hp4⟩:=kL hc0;have hsl:=ri c.op;have hnl:=nN hv c.parts.toNat;have htl:=zY hp2;have hj1:=wQ hp2;have hj2:=rq hp1 hp2;have hl2:=congrArg List.length hj2;have hl1:=congrArg List.length hj1;simp only[List.length_append,List.length_singleton]at hl2;have hi2:(if 0<c.parts then([46]:ah)else []).length≤1:=by split<;>simp
 refine az ?_;refine cv (nx':=6) (v:=.own 6 1 0 c.parts.toNat) (m':=[(6,.buf 1 [.str (bS c.v.major.toNat),.str (bS c.v.minor.toNat),.str (bS c.v.patch.toNat)]),(0,.buf 7 [b6.D c])]) (hc:=fun K' hK=>h677 c ⟨hv,hp1,hp2⟩ _ _ K' hK) (hn:=by decide) ?_;refine b8 ?_;refine cG (fun hc1=>?_) fun hc1=>?_
 ·refine bc ?_;refine Lm c.parts.toNat (hj:=fun _=>by omega) (hb:=fun _=>by omega) ?_;refine cz [.str _] ?_;refine Cc ((iM c++[[42]]).map D.str) (n:=(iM c++[[42]]).length) (ha:=by simp;omega) (he:=sa.own rfl (by simp)) (hz:=by rw[List.drop_zero,uQ,List.map_append];rfl) (hn:=by simp;omega) (hb:=by simp;omega) ?_;refine aj (hc:=h249 (iM c++[[42]]) 46 (by rw[hj2];simp only[List.length_append,List.length_singleton];omega)) (ha:=fun _=>congrArg (fun d=>[d,D.int .u8 46]) (tl (q:=D.str) (fun _=>rfl) ae)) (hp:=fun _=>⟨qh (q:=D.str) (fun _=>rfl) ae,rfl,trivial⟩) ?_;refine az ?_;refine cA ?_;rw[cV,if_pos hc0,hj2];simp[iD,gW,hc1,bR]
 refine aA ?_;refine aj (hc:=h678 _) ?_;refine ay ?_;refine aj (hc:=h249 (iM c) 46 (by rw[hj1];omega)) (ha:=fun _=>congrArg (fun d=>[d,D.int .u8 46]) (IW ae)) (hp:=fun _=>⟨GJ hp2 ae,rfl,trivial⟩) ?_;refine c9 (hb:=fun _=>by omega) ?_;refine dA ?_;refine cG (fun hc2=>?_) fun hc2=>?_
 ·refine ay ?_;have hpl:=hp0.1;refine ay ?_;refine r9 ?_;refine az ?_;refine r9 ?_;refine bc ?_;refine cA ?_;rw[cV,if_pos hc0,hj1];simp[iD,gW,hc1,hc2]
 refine aO ?_;refine cA ?_;rw[cV,if_pos hc0,hj1];simp[iD,gW,hc1,hc2]
def Mw (Γ:Ctx):Prop:=∀(c:b6),(c.v.sm)→Γ.pre 482 [b6.D c]∧Γ.val 482 [b6.D c]=.str (cV c)
end Go.Abs
end
section
namespace Go.Abs
open Go
end Go.Abs
end
section
namespace Go.Abs
open Go
end Go.Abs
end
section
namespace Go.Abs
open Go
end Go.Abs
end
