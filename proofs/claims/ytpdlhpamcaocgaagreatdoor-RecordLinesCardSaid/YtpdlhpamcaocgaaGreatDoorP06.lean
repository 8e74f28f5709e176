/- A part of the proofs of the statements: RSpec12, RSpec13, RBldC, RSpec14, LQ, U1, T6, T7, LExt, T8, T9, T10, T1, T2, T3, T4, T5, T11, T12, T13, T14, T15, T16, T17, T18, T19, T20, T21, T22, T23, LPlain4, LPlain5, T24, T25, U2, U3, U4, U5, U6, U7, U8, U8b, U9, U10, U11. -/
import Derived.Test.YtpdlhpamcaocgaaGreatDoorP05
set_option linter.all false
set_option maxRecDepth 4000
namespace Go.Abs
def pS (l:List ah)(x:ah)(i:Nat):Int:=match(l.drop i).findIdx? (fun t=>decide (x=t))with
 |some k=>((i+k:Nat):Int)
 |none=>-1
def H6 {l:List ah}{x:ah}{i:Nat}(h:i<l.length)(he:x=l[i]!):pS l x i=(i:Nat):=by
 unfold pS;rw[List.drop_eq_getElem_cons h,List.findIdx?_cons];have:x=l[i]:=by simpa[h]using he
 simp[←this]
def H7 {l:List ah}{x:ah}{i:Nat}(h:i<l.length)(he:¬x=l[i]!):pS l x i=pS l x (i+1):=by
 unfold pS;have:¬x=l[i]:=by simpa[h]using he
 rw[List.drop_eq_getElem_cons h,List.findIdx?_cons];simp only[this,decide_false,Bool.false_eq_true,if_false];cases(l.drop (i+1)).findIdx? (fun t=>decide (x=t))with
 |none=>rfl
 |some k=>simp only[Option.map_some];congr 1;omega
def Fm {l:List ah}{x:ah}{i:Nat}(h:l.length≤i):pS l x i=-1:=by
 unfold pS;rw[List.drop_eq_nil_of_le h];rfl
def Fo (l:List ah)(x:ah):decide (0≤pS l x 0)=decide (x∈l):=by
 unfold pS;rw[List.drop_zero];cases h:l.findIdx? (fun t=>decide (x=t))with
 |none=>
  have:=List.findIdx?_eq_none_iff.1 h;have hn:x∉l:=fun hm=>by have:=this x hm;simp at this
  simp[hn]
 |some k=>
  obtain⟨hk,hx,_⟩:=List.findIdx?_eq_some_iff_getElem.1 h;have hm:x∈l:=by
   have:x=l[k]:=by simpa using hx
   rw[this];exact List.getElem_mem hk
  simp[hm]
structure Ld where
 ls:List ah
 at':Nat
 deriving Inhabited,DecidableEq
def Ld.D (r:Ld):D:=.agg [.sl 1 (r.ls.map D.str),.int .i64 (r.at':Nat)]
def Ld.rest (r:Ld):List ah:=r.ls.drop r.at'
def Ld.sm (r:Ld):Prop:=(r.at'≤r.ls.length∧r.ls.length≤1048577)∧∀t∈r.ls,t.length≤1048576
def Ld.to (r:Ld)(q:List ah):Ld:=⟨r.ls,r.ls.length-q.length⟩
def gQ (n:Int)(t:ah):List ah:=if n<0 then ai t 32 else mH n.toNat (ai t 32)
def wZ (n:Nat)(op:Bool)(t:ah):gQ (if op=true then(n:Int)else-1) t=cg n op t:=by
 unfold gQ cg;cases op
 ·rfl
 ·have:¬(n:Int)<0:=by omega
  simp[this]
def vw:Option (List ah×List ah)→D
 |none=>.av
 |some (l,_)=>.sl 1 (l.map D.str)
def Ld.after (r:Ld)(o:Option (List ah×List ah)):Ld:=match o with
 |none=>r
 |some _=>⟨r.ls,r.at'+1⟩
def Ld.GM {r:Ld}(h:r.ls.length≤r.at'):r.rest=[]:=List.drop_eq_nil_of_le h
def Ld.nT {r:Ld}(h:r.at'<r.ls.length):r.rest=r.ls[r.at']! ::r.ls.drop (r.at'+1):=by
 unfold Ld.rest;rw[List.drop_eq_getElem_cons h];simp[h]
def Eh (n:Nat)(op:Bool)(t:ah)(h:op=true→1≤n):1≤(cg n op t).length:=by
 have hs:1≤(ai t 32).length:=by
  exact eQ 32 t []
 unfold cg;split
 ·rename_i ho;have:=h ho;unfold mH;split
  ·exact hs
  ·simp
 ·exact hs
def zj {w:ah}{n:Nat}{op:Bool}{t:ah}(h:((¬(cg n op t)[0]! =w∨((cg n op t).length:Int)<1)∨((0:Int)<n∧¬((cg n op t).length:Int)=n))∨[]∈cg n op t)(h1:1≤(cg n op t).length):eG w n op t=none:=by
 rw[eG,if_neg];rintro⟨a,b,c⟩;rcases h with((h|h)|h)|h
 ·exact h a
 ·omega
 ·rcases b with b|b<;>omega
 ·exact c h
def wq {w:ah}{n:Nat}{op:Bool}{t:ah}(h:(((cg n op t)[0]! =w∧¬((cg n op t).length:Int)<1)∧(¬(0:Int)<n∨((cg n op t).length:Int)=n))∧¬[]∈cg n op t):eG w n op t=some (cg n op t):=by
 rw[eG,if_pos ⟨h.1.1.1,by rcases h.1.2 with h|h<;>omega,h.2⟩]
def anyL (t:ah):Option (List ah):=match eG gX 5 true t with
 |some l=>if pR l=true then some l else none
 |none=>none
def No (p:ah→Option (List ah))(ls:List ah):Prop:=∀t r,ls=t::r→p t=none
def dn {w:ah}{n:Nat}{op:Bool}{ls l r:List ah}(h:aY w n op ls=some (l,r)):∃t,ls=t::r∧eG w n op t=some l:=by
 match ls,h with
 |[],h=>cases h
 |t::q,h=>
  simp only[aY]at h;split at h
  ·rename_i l' hl;simp only[Option.some.injEq,Prod.mk.injEq]at h;obtain⟨rfl,rfl⟩:=h;exact⟨t,rfl,hl⟩
  ·cases h
def Stop (s:Nat)(ls:List ah):Prop:=(s=2→No anyL ls∧No (eG fj 2 true) ls)∧(s=2∨s=3→No (eG cK 2 false) ls)∧(s=5→No (eG fj 2 true) ls)
def n8 (m:List (Nat×aV))(l:Nat)(t:List UInt8):Prop:=(∃u,look m l=some (.bld none 0 u)∧t=[])∨(∃l2 u,look m l=some (.bld (some l2) t.length u)∧look m l2=some (.row t))
@[go_sem] def dC (m:List (Nat×aV))(l:Nat):List (Nat×aV):=match look m l with
 |some (.bld (some l2) _ _)=>bN m l2
 |_=>m
@[go_sem] def mE (m:List (Nat×aV))(l L:Nat)(t:List UInt8):List (Nat×aV):=(L,.row t)::bR (dC m l) l (.bld (some L) t.length true)
def TrW (VM:D)(s:List UInt8)(ds:List D)(st:St)(K:D→St→Prop):Prop:=∃l t,ds=[.ptr l 2 0 0,VM]∧n8 st.m l t∧l<st.nx∧s≠[]∧t.length+s.length≤1099511627776∧K .any ⟨st.nx+1,mE st.m l st.nx (t++s)⟩
def N9 (ds:List D)(st:St)(K:D→St→Prop):Prop:=∃s,TrW (.str s) s ds st K
def N8 (ds:List D)(st:St)(K:D→St→Prop):Prop:=∃c,TrW (.int .u8 c.toNat) [c] ds st K
def N7 (ds:List D)(st:St)(K:D→St→Prop):Prop:=∃l t,ds=[.ptr l 2 0 0]∧n8 st.m l t∧t≠[]∧K (.str t) ⟨st.nx,bN (dC st.m l) l⟩
def J4 (Γ:Ctx):Prop:=∀(ds:List D)(st:St)(K:D→St→Prop),N9 ds st K→Γ.tr 489 ds st K
def J8 (Γ:Ctx):Prop:=∀(ds:List D)(st:St)(K:D→St→Prop),N8 ds st K→Γ.tr 664 ds st K
def J1 (Γ:Ctx):Prop:=∀(ds:List D)(st:St)(K:D→St→Prop),N7 ds st K→Γ.tr 452 ds st K
def Dn (b a:ah)(l:List ah)(h:a≠[]):aF b (a::l)≠[]:=by
 match l with
 |[]=>exact h
 |c::r=>
  rw[dJ b a (c::r) (by simp)];intro e;have:=List.append_eq_nil_iff.1 e;exact h (List.append_eq_nil_iff.1 this.1).1
def xh (ws:List ah)(t:ah):Prop:=(aF [32] ws≠[]∧ws.length≤1048600)∧(∀w∈ws,w.length≤2097200)∧t.length+(aF [32] ws).length+1≤1099511627776
def xh.mk {a:ah}{l:List ah}{t:ah}(h1:a≠[])(h2:l.length≤99)(h3:∀w∈a::l,w.length≤2097200)(h4:t.length≤1000000000):xh (a::l) t:=by
 have h5:=jH 32 2097200 (a::l) h3;have h6:(a::l).length≤100:=by simp only[List.length_cons];omega
 have h7:=Nat.mul_le_mul_right (2097200+1) h6;exact⟨⟨Dn _ _ _ h1,by omega⟩,h3,by omega⟩
def JZ (Γ:Ctx):Prop:=∀(ws:List ah)(t:ah)(l lw nx:Nat)(m:List (Nat×aV))(K:D→St→Prop),n8 m l t→look m lw=some (.buf 1 (ws.map D.str))→l<nx→lw<nx→xh ws t→
 K (.tup []) ⟨nx+1,mE (bN m lw) l nx (t++bw ws)⟩→Γ.tr 450 [.ptr l 2 0 0,.own lw 1 0 ws.length] ⟨nx,m⟩ K
def qU {m:List (Nat×aV)}{l L:Nat}{t:List UInt8}(h:l≠L):look (mE m l L t) l=some (.bld (some L) t.length true)∧look (mE m l L t) L=some (.row t):=by
 constructor
 ·simp only[mE,look,if_neg (fun e=>h (Eq.symm e))]
  haveI:bU:={gd:=fun _=>True,le:=fun _ _ _ _ _=>trivial}
  rw[bo,if_pos rfl]
 ·simp only[mE,look,if_pos]
def HC {m:List (Nat×aV)}{l L:Nat}{t:List UInt8}(h:l≠L):n8 (mE m l L t) l t:=.inr ⟨L,true,qU h⟩
end Go.Abs
section
namespace Go.Abs
def ae {p:Prop}(h:p:=by exact rfl):p:=h
def lP {p:Prop}(h:p:=by repeat(first|exact c8.nil|refine c8.un ?_|refine c8.eq (by exact rfl) ?_)):p:=h
def bV {p:Prop}(h:p:=by first|exact rfl|exact bq (fun _=>rfl) _):p:=h
def dX {p:Prop}(h:p:=by repeat(first|exact c8.nil|refine c8.un ?_|refine c8.eq (by exact rfl) ?_|refine c8.nl (by exact rfl) (by exact rfl) ?_)):p:=h
def iW {p:Prop}(h:p:=by repeat' first|exact trivial|exact rfl|refine And.intro ?_ ?_):p:=h
def sC {p:Prop}(h:p:=by repeat' first|exact trivial|exact rfl|exact Nat.le_refl _|refine And.intro ?_ ?_):p:=h
def zu {p:Prop}(h:p:=by repeat(first|exact aC.nil|refine aC.df (by exact rfl) (by exact rfl) (by first|exact rfl|exact bq (fun _=>rfl) _) ?_|refine aC.mw (by exact rfl) (by exact rfl) (by exact rfl) ?_|refine aC.qk (by exact rfl) (by exact rfl) (by exact rfl) (by exact rfl) ?_)):p:=h
def b0 {p:Prop} [Decidable p]:(decide p=true)=p:=decide_eq_true_eq
def b1 {p:Prop} [Decidable p]:decide p=false↔¬p:=decide_eq_false_iff_not
def b2 (b:Bool):((!b)=true)=(b=false):=Bool.not_eq_true' b
def b3 (b:Bool):((!b)=false)=(b=true):=Bool.not_eq_false' b
def b4 (b:Bool):(¬(b=false))=(b=true):=Bool.not_eq_false b
def b5 (a b:Bool):((a ||b)=true)=(a=true∨b=true):=Bool.or_eq_true a b
end Go.Abs
namespace Go.Abs
abbrev eA (Γ:Ctx)(a:aB)(d:D)(ds:List D):Prop:=bB (Γ.at 0) a.body (Kn a d) (eL a ds) ⟨0,[]⟩
def cd {a:aB}{d d2:D}{e:Ex}{nx:Nat}{m:List (Nat×aV)}{env:List aW}(h:d2=d)(he:e.home:=by exact trivial)(h1:mn m env a.res:=by exact sC)(h2:xc a env m:=by exact iW)(h3:Ek a env m=d2:=by exact rfl):Kn a d e env ⟨nx,m⟩:=Lx he h1 h2 (h3.trans h)
def bL {a:aB}{d d2:Bool}{e:Ex}{nx:Nat}{m:List (Nat×aV)}{env:List aW}(h:d2=d)(he:e.home:=by exact trivial)(h1:mn m env a.res:=by exact sC)(h2:xc a env m:=by exact iW)(h3:Ek a env m=.bool d2:=by exact rfl):Kn a (.bool d) e env ⟨nx,m⟩:=cd (congrArg _ h) he h1 h2 h3
def cz {a:aB}{d d2:List UInt8}{e:Ex}{nx:Nat}{m:List (Nat×aV)}{env:List aW}(h:d2=d)(he:e.home:=by exact trivial)(h1:mn m env a.res:=by exact sC)(h2:xc a env m:=by exact iW)(h3:Ek a env m=.str d2:=by exact rfl):Kn a (.str d) e env ⟨nx,m⟩:=cd (congrArg _ h) he h1 h2 h3
def iH {a:aB}{d d2:Int}{e:Ex}{nx:Nat}{m:List (Nat×aV)}{env:List aW}(h:d2=d)(he:e.home:=by exact trivial)(h1:mn m env a.res:=by exact sC)(h2:xc a env m:=by exact iW)(h3:Ek a env m=.int .i64 d2:=by exact rfl):Kn a (.int .i64 d) e env ⟨nx,m⟩:=cd (congrArg _ h) he h1 h2 h3
def eC {lo c nx nx2:Nat}{env env2:List aW}{m m2:List (Nat×aV)}(σ:List (Nat×Nat))(hc:nx2=c:=by exact ae)(h:eW lo c σ=true:=by exact ae)(he:c8 lo σ env env2:=by exact dX)(hm:aC lo c σ m m2:=by exact zu):aN lo env ⟨nx,m⟩ env2 ⟨nx2,m2⟩:=aN.to σ hc h he hm
def sb {Γ:Ctx}{draw f:Bool}{r:List GI}{env rs:List aW}{nx:Nat}{m:List (Nat×aV)}{K:List aW→St→Prop}{g:Option (Nat×Bool)}{x y:Src}{fx fy:Bool}{a b:List UInt8}(h:au Γ draw r env (⟨f,.str (a++b)⟩::rs) nx m K)(hg:GF rs g f:=by first|exact rfl|exact⟨_,_,rfl,rfl⟩)(hx:bE env rs x=⟨fx,.str a⟩:=by exact rfl)(hy:bE env rs y=⟨fy,.str b⟩:=by exact rfl)(kx:f=true→fx=true:=by first|exact fun _=>rfl|exact fun h=>h|(intro h;simp_all))(ky:f=true→fy=true:=by first|exact fun _=>rfl|exact fun h=>h|(intro h;simp_all))(hb:f=true→a.length+b.length≤9223372036854775807:=by intro _;simp only[List.length_append,List.length_cons,List.length_nil];omega):au Γ draw (⟨.bin .add x y,g⟩::r) env rs nx m K:=dc h hg hx hy kx ky hb
end Go.Abs
namespace Go.Abs
section
variable {Γ:Ctx} {Q:Ex→List aW→St→Prop}
def cmN {env rs:List aW}:ES env rs []=env:=rfl
def cmC {s p:Nat}{r:List (Nat×Nat)}{env rs env1 env':List aW}{f:Bool}{d:D}(e:bE [] rs (.l p)=⟨f,d⟩)(hs:env.set s ⟨f,d⟩=env1)(h:ES env1 rs r=env'):ES env rs ((s,p)::r)=env':=by
 simp only[ES,e,hs,h]
def rrrg {draw:Bool}{cm:List (Nat×Nat)}{b:AC}{nx nx':Nat}{m:List (Nat×aV)}{rs env eL env':List aW}(h:bB Γ b Q env' ⟨nx',m⟩)
  (he:ES env rs cm=env':=by repeat(first|apply cmC (by exact rfl) (by simp only[List.set_cons_zero,List.set_cons_succ];exact rfl)|with_reducible exact cmN)) (hn:nx+rs.length=nx':=by simp only[List.length_cons,List.length_nil,Nat.reduceAdd];exact rfl):au Γ draw [] eL rs nx m (fun vs st'=>bB Γ b Q (eK env vs cm) st'):=
 IQ h he hn
def rrrh {draw:Bool}{cm:List (Nat×Nat)}{nx nx':Nat}{m:List (Nat×aV)}{rs env eL env':List aW}(h:Q .normal env' ⟨nx',m⟩)
  (he:ES env rs cm=env':=by repeat(first|apply cmC (by exact rfl) (by simp only[List.set_cons_zero,List.set_cons_succ];exact rfl)|with_reducible exact cmN)) (hn:nx+rs.length=nx':=by simp only[List.length_cons,List.length_nil,Nat.reduceAdd];exact rfl):au Γ draw [] eL rs nx m (fun vs st'=>Q .normal (eK env vs cm) st'):=
 IU h he hn
end
def Fam (_:Prop):Type:=Unit
def si {q:Prop}:Fam q:=()
structure Hid (q:Prop)(f:Fam q):Prop where
 val:q
section
variable {Γ:Ctx} {draw b1:Bool} {r:List GI} {env rs:List aW} {nx n0 n1:Nat} {m:List (Nat×aV)} {K:List aW→St→Prop} {g:Option (Nat×Bool)} {x0 x1 x2:Src}
def tg0 {Γ:Ctx}{a:AC}{Q:Ex→List aW→St→Prop}{env:List aW}{st:St}(h:bB Γ a Q env st):bB Γ a Q env st:=h
def tg1 (h:au Γ draw (⟨.mv x0,g⟩::r) env rs nx m K):au Γ draw (⟨.mv x0,g⟩::r) env rs nx m K:=h
def tg2 (h:au Γ draw [] env rs nx m K):au Γ draw [] env rs nx m K:=h
def tg3 (h:au Γ draw (⟨.fa n0 x1,g⟩::r) env rs nx m K):au Γ draw (⟨.fa n0 x1,g⟩::r) env rs nx m K:=h
def tg4 (h:au Γ draw (⟨.ld n0 b1 x2,g⟩::r) env rs nx m K):au Γ draw (⟨.ld n0 b1 x2,g⟩::r) env rs nx m K:=h
def tg5 (h:au Γ draw (⟨.bin .lss x0 x1,g⟩::r) env rs nx m K):au Γ draw (⟨.bin .lss x0 x1,g⟩::r) env rs nx m K:=h
def tg6 (h:au Γ draw (⟨.bin .eql x0 x1,g⟩::r) env rs nx m K):au Γ draw (⟨.bin .eql x0 x1,g⟩::r) env rs nx m K:=h
def tg7 (h:au Γ draw (⟨.bin .add x0 x1,g⟩::r) env rs nx m K):au Γ draw (⟨.bin .add x0 x1,g⟩::r) env rs nx m K:=h
def tg8 (h:au Γ draw (⟨.bin .gtr x0 x1,g⟩::r) env rs nx m K):au Γ draw (⟨.bin .gtr x0 x1,g⟩::r) env rs nx m K:=h
def tg9 (h:au Γ draw (⟨.bin .neq x0 x1,g⟩::r) env rs nx m K):au Γ draw (⟨.bin .neq x0 x1,g⟩::r) env rs nx m K:=h
def tg10 (h:au Γ draw (⟨.bin .leq x0 x1,g⟩::r) env rs nx m K):au Γ draw (⟨.bin .leq x0 x1,g⟩::r) env rs nx m K:=h
def tg11 (h:au Γ draw (⟨.bin .geq x0 x1,g⟩::r) env rs nx m K):au Γ draw (⟨.bin .geq x0 x1,g⟩::r) env rs nx m K:=h
def tg12 (h:au Γ draw (⟨.bin .sub x0 x1,g⟩::r) env rs nx m K):au Γ draw (⟨.bin .sub x0 x1,g⟩::r) env rs nx m K:=h
def tg13 (h:au Γ draw (⟨.ext x0 n1,g⟩::r) env rs nx m K):au Γ draw (⟨.ext x0 n1,g⟩::r) env rs nx m K:=h
def tg14 (h:au Γ draw (⟨.pick x0 x1 (.c (.bool false)),g⟩::r) env rs nx m K):au Γ draw (⟨.pick x0 x1 (.c (.bool false)),g⟩::r) env rs nx m K:=h
def tg15 (h:au Γ draw (⟨.pick x0 (.c (.bool true)) x1,g⟩::r) env rs nx m K):au Γ draw (⟨.pick x0 (.c (.bool true)) x1,g⟩::r) env rs nx m K:=h
def tg16 (h:au Γ draw (⟨.un .not x0,g⟩::r) env rs nx m K):au Γ draw (⟨.un .not x0,g⟩::r) env rs nx m K:=h
def tg17 (h:au Γ draw (⟨.nilck x0,g⟩::r) env rs nx m K):au Γ draw (⟨.nilck x0,g⟩::r) env rs nx m K:=h
def tg18 (h:au Γ draw (⟨.box n0 x1,g⟩::r) env rs nx m K):au Γ draw (⟨.box n0 x1,g⟩::r) env rs nx m K:=h
def tg19 (h:au Γ draw (⟨.ia n0 x1 x2,g⟩::r) env rs nx m K):au Γ draw (⟨.ia n0 x1 x2,g⟩::r) env rs nx m K:=h
def tg20 (h:au Γ draw (⟨.ixS x0 x1,g⟩::r) env rs nx m K):au Γ draw (⟨.ixS x0 x1,g⟩::r) env rs nx m K:=h
def tg21 (h:au Γ draw (⟨.st n0 x1 x2,g⟩::r) env rs nx m K):au Γ draw (⟨.st n0 x1 x2,g⟩::r) env rs nx m K:=h
def tg22 (h:au Γ draw (⟨.len x0,g⟩::r) env rs nx m K):au Γ draw (⟨.len x0,g⟩::r) env rs nx m K:=h
def tg23 (h:au Γ draw (⟨.lenS x0,g⟩::r) env rs nx m K):au Γ draw (⟨.lenS x0,g⟩::r) env rs nx m K:=h
def tg24 (h:au Γ draw (⟨.rng x0,g⟩::r) env rs nx m K):au Γ draw (⟨.rng x0,g⟩::r) env rs nx m K:=h
def tg25 (h:au Γ draw (⟨.s2b x0,g⟩::r) env rs nx m K):au Γ draw (⟨.s2b x0,g⟩::r) env rs nx m K:=h
def tg26 (h:au Γ draw (⟨.mkB,g⟩::r) env rs nx m K):au Γ draw (⟨.mkB,g⟩::r) env rs nx m K:=h
def tg27 (h:au Γ draw (⟨.app n0 x1 x2,g⟩::r) env rs nx m K):au Γ draw (⟨.app n0 x1 x2,g⟩::r) env rs nx m K:=h
end
def ax {p q:Prop}(k:q)(h:Hid q si→p:=by
 intro h;first
 |((with_reducible refine tg0 ?_);first|with_reducible exact ak h.1|with_reducible exact G5 h.1|with_reducible exact BA h.1|with_reducible exact LL h.1|with_reducible exact Ej h.1|with_reducible exact wp_ret h.1|with_reducible exact wp_skip h.1|with_reducible exact Bz h.1|with_reducible exact wp_exit h.1|with_reducible exact Ae h.1 hm|with_reducible exact Ei h.1 hm)
 |((with_reducible refine tg1 ?_);(refine r_mv ?_;exact h.1))
 |((with_reducible refine tg2 ?_);first|(refine rrrh ?_;exact h.1)|(refine rrrg ?_;exact h.1))
 |((with_reducible refine tg3 ?_);first|(refine NW ?_;exact h.1)|(refine NX ?_;exact h.1))
 |((with_reducible refine tg4 ?_);first|exact cy (.int _ _) h.1|exact cy (.str _) h.1|(refine cj (v:=.str _) ?_;exact h.1)|(refine ic (v:=.str _) ?_;exact h.1)|(refine cj (v:=.int _ _) ?_;exact h.1)|(refine ic (v:=.int _ _) ?_;exact h.1)|exact cy (.sl _ _) h.1|exact cy (.own _ _ _ _) h.1|exact cy (.bool _) h.1|(refine cj (v:=.sl _ _) ?_;exact h.1)|(refine ic (v:=.sl _ _) ?_;exact h.1)|(refine cj (v:=.bool _) ?_;exact h.1)|(refine ic (v:=.bool _) ?_;exact h.1)|exact cS h.1|exact cy .av h.1)
 |((with_reducible refine tg5 ?_);first|(refine Lp ?_;exact h.1)|(refine Lq ?_;exact h.1))
 |((with_reducible refine tg6 ?_);first|(refine Lg ?_;exact h.1)|(refine Lh ?_;exact h.1))
 |((with_reducible refine tg7 ?_);(refine II ?_;exact h.1))
 |((with_reducible refine tg8 ?_);first|(refine Bf ?_;exact h.1)|(refine Bg ?_;exact h.1))
 |((with_reducible refine tg9 ?_);first|(refine Lr ?_;exact h.1)|(refine Ls ?_;exact h.1))
 |((with_reducible refine tg10 ?_);first|(refine Ln ?_;exact h.1)|(refine Lo ?_;exact h.1))
 |((with_reducible refine tg11 ?_);first|(refine Li ?_;exact h.1)|(refine Lj ?_;exact h.1))
 |((with_reducible refine tg12 ?_);(refine IK ?_;exact h.1))
 |((with_reducible refine tg13 ?_);first|exact fG (.int _ _) h.1|exact fG (.str _) h.1|exact fG (.bool _) h.1)
 |((with_reducible refine tg14 ?_);(refine NU ?_;exact h.1))
 |((with_reducible refine tg15 ?_);(refine r_or ?_;exact h.1))
 |((with_reducible refine tg16 ?_);(refine N1 ?_;exact h.1))
 |((with_reducible refine tg17 ?_);first|(refine Lt ?_;exact h.1)|(refine Lu ?_;exact h.1))
 |((with_reducible refine tg18 ?_);(refine NV ?_;exact h.1))
 |((with_reducible refine tg19 ?_);first|exact cH _ h.1|exact Gv h.1|exact lh _ h.1|exact Lk h.1)
 |((with_reducible refine tg20 ?_);first|exact zv _ h.1|exact Ll h.1)
 |((with_reducible refine tg21 ?_);exact aI _ h.1)
 |((with_reducible refine tg22 ?_);first|exact Gy fun a=>(h.1:_→_) (a rfl rfl)|exact Gz fun a=>(h.1:_→_) (a rfl rfl)|(refine Lm ?_;exact h.1))
 |((with_reducible refine tg23 ?_);exact GA fun a=>(h.1:_→_) (a rfl rfl))
 |((with_reducible refine tg24 ?_);(refine N3 ?_;exact h.1))
 |((with_reducible refine tg25 ?_);(refine N4 ?_;exact h.1))
 |((with_reducible refine tg26 ?_);(refine NY ?_;exact h.1))
 |((with_reducible refine tg27 ?_);(refine jl ?_;exact h.1))
 |with_reducible exact BQ.normal h.1|with_reducible exact BQ.ret h.1|with_reducible exact LQ.normal h.1|with_reducible exact LQ.out h.1|with_reducible exact LQ.ret h.1|with_reducible exact BQ.out h.1|with_reducible exact Ai.normal h.1|with_reducible exact Ai.ret h.1|with_reducible exact Aj.normal h.1|with_reducible exact Aj.ret h.1|with_reducible exact Ai.out h.1|with_reducible exact Aj.out h.1|with_reducible exact CQ.normal h.1|with_reducible exact CQ.ret h.1|with_reducible exact CQ.other h.1|((with_reducible refine BQ.other ?_ h.1);exact rfl)|((with_reducible refine LQ.other ?_ h.1);exact rfl)|((with_reducible refine Ai.other ?_ h.1);exact rfl)|((with_reducible refine Aj.other ?_ h.1);exact rfl)):p:=h ⟨k⟩
def nZ {p q:Prop}(k:q)(h:Hid q si→p:=by intro h;first|exact Gy fun _=>h.1|exact GA fun _=>h.1|exact Gz fun _=>h.1):p:=h ⟨k⟩
section
variable {Γ:Ctx} {Q:Ex→List aW→St→Prop}
end
def ik:(∀{p:Prop} [Decidable p],(decide p=true)=p)∧(∀{p:Prop} [Decidable p],decide p=false↔¬p)∧(∀b:Bool,((!b)=true)=(b=false))∧(∀b:Bool,((!b)=false)=(b=true))∧(∀b:Bool,(¬(b=false))=(b=true))∧(∀a b:Bool,((a ||b)=true)=(a=true∨b=true))∧(∀{a b:Bool},(a ||b)=false↔a=false∧b=false)∧(∀a b:Bool,((a&&b)=true)=(a=true∧b=true))∧(∀{a b:Bool},(a&&b)=false↔a=false∨b=false)∧(∀b:Bool,(¬(b=true))=(b=false))∧(∀b:Bool,(true&&b)=b)∧∀b:Bool,(b&&true)=b:=
 ⟨decide_eq_true_eq,decide_eq_false_iff_not,Bool.not_eq_true',Bool.not_eq_false',Bool.not_eq_false,Bool.or_eq_true,Bool.or_eq_false_iff,Bool.and_eq_true,Bool.and_eq_false_iff,Bool.not_eq_true,Bool.true_and,Bool.and_true⟩
section
variable {Γ:Ctx} {Q:Ex→List aW→St→Prop} {env:List aW} {st:St}
def cN {c:Src}{a b r:AC}{t:Bool}{c1 c2:Prop}(h1:c1→bB Γ (.seq a r) Q env st)(h2:c2→bB Γ (.seq b r) Q env st)(hc:bE env [] c=⟨true,.bool t⟩:=by exact rfl)(e1:t=true→c1:=by intro h;(try simp only[ik]at h);exact h)(e2:t=false→c2:=by intro h;(try simp only[ik]at h);exact h):bB Γ (.seq (.cond c a b) r) Q env st:=aq (fun h=>h1 (e1 h)) (fun h=>h2 (e2 h)) hc
def gC {c:Src}{a b:AC}{t:Bool}{c1 c2:Prop}(h1:c1→bB Γ a Q env st)(h2:c2→bB Γ b Q env st)(hc:bE env [] c=⟨true,.bool t⟩:=by exact rfl)(e1:t=true→c1:=by intro h;(try simp only[ik]at h);exact h)(e2:t=false→c2:=by intro h;(try simp only[ik]at h);exact h):bB Γ (.cond c a b) Q env st:=wp_cond (fun h=>h1 (e1 h)) (fun h=>h2 (e2 h)) hc
end
end Go.Abs
namespace Go.Abs
def ay {p q:Prop}(k:q)(h:Hid q si→p:=by intro h;(iterate 2 refine ax ?_);exact h.1):p:=h ⟨k⟩
def az {p q:Prop}(k:q)(h:Hid q si→p:=by intro h;(iterate 3 refine ax ?_);exact h.1):p:=h ⟨k⟩
def aA {p q:Prop}(k:q)(h:Hid q si→p:=by intro h;(iterate 4 refine ax ?_);exact h.1):p:=h ⟨k⟩
def aP {p q:Prop}(k:q)(h:Hid q si→p:=by intro h;(iterate 5 refine ax ?_);exact h.1):p:=h ⟨k⟩
def aT {p q:Prop}(k:q)(h:Hid q si→p:=by intro h;(iterate 6 refine ax ?_);exact h.1):p:=h ⟨k⟩
def bg {p q:Prop}(k:q)(h:Hid q si→p:=by intro h;(iterate 7 refine ax ?_);exact h.1):p:=h ⟨k⟩
def b6 {p q:Prop}(k:q)(h:Hid q si→p:=by intro h;(iterate 8 refine ax ?_);exact h.1):p:=h ⟨k⟩
def dD {p q:Prop}(k:q)(h:Hid q si→p:=by intro h;(iterate 9 refine ax ?_);exact h.1):p:=h ⟨k⟩
def jx {p q:Prop}(k:q)(h:Hid q si→p:=by intro h;(iterate 10 refine ax ?_);exact h.1):p:=h ⟨k⟩
def gR {p q:Prop}(k:q)(h:Hid q si→p:=by intro h;(iterate 11 refine ax ?_);exact h.1):p:=h ⟨k⟩
def gS {p q:Prop}(k:q)(h:Hid q si→p:=by intro h;(iterate 12 refine ax ?_);exact h.1):p:=h ⟨k⟩
def me {p q:Prop}(k:q)(h:Hid q si→p:=by intro h;(iterate 13 refine ax ?_);exact h.1):p:=h ⟨k⟩
def xe {p q:Prop}(k:q)(h:Hid q si→p:=by intro h;(iterate 14 refine ax ?_);exact h.1):p:=h ⟨k⟩
def Ah {p q:Prop}(k:q)(h:Hid q si→p:=by intro h;(iterate 15 refine ax ?_);exact h.1):p:=h ⟨k⟩
def xf {p q:Prop}(k:q)(h:Hid q si→p:=by intro h;(iterate 16 refine ax ?_);exact h.1):p:=h ⟨k⟩
def G8 {p q:Prop}(k:q)(h:Hid q si→p:=by intro h;(iterate 17 refine ax ?_);exact h.1):p:=h ⟨k⟩
def JO {p q:Prop}(k:q)(h:Hid q si→p:=by intro h;(iterate 18 refine ax ?_);exact h.1):p:=h ⟨k⟩
def Og {p q:Prop}(k:q)(h:Hid q si→p:=by intro h;(iterate 24 refine ax ?_);exact h.1):p:=h ⟨k⟩
def JP {p q:Prop}(k:q)(h:Hid q si→p:=by intro h;(iterate 25 refine ax ?_);exact h.1):p:=h ⟨k⟩
def Oh {p q:Prop}(k:q)(h:Hid q si→p:=by intro h;(iterate 26 refine ax ?_);exact h.1):p:=h ⟨k⟩
def Oi {p q:Prop}(k:q)(h:Hid q si→p:=by intro h;(iterate 27 refine ax ?_);exact h.1):p:=h ⟨k⟩
def G9 {p q:Prop}(k:q)(h:Hid q si→p:=by intro h;(iterate 28 refine ax ?_);exact h.1):p:=h ⟨k⟩
def JQ {p q:Prop}(k:q)(h:Hid q si→p:=by intro h;(iterate 36 refine ax ?_);exact h.1):p:=h ⟨k⟩
end Go.Abs
namespace Go.Abs
abbrev s0:Src:=.s 0
abbrev s1:Src:=.s 1
abbrev s2:Src:=.s 2
abbrev s3:Src:=.s 3
abbrev s4:Src:=.s 4
abbrev s5:Src:=.s 5
abbrev s6:Src:=.s 6
abbrev s7:Src:=.s 7
abbrev s8:Src:=.s 8
abbrev s9:Src:=.s 9
abbrev lx:Src:=.s 10
abbrev oo:Src:=.s 11
abbrev my:Src:=.s 12
abbrev sD:Src:=.s 13
abbrev ta:Src:=.s 14
abbrev wD:Src:=.s 15
abbrev Cq:Src:=.s 16
abbrev ym:Src:=.s 17
abbrev D5:Src:=.s 18
abbrev Ly:Src:=.s 19
abbrev He:Src:=.s 20
abbrev s21:Src:=.s 21
abbrev s22:Src:=.s 22
abbrev s23:Src:=.s 23
abbrev LY:Src:=.s 24
abbrev LZ:Src:=.s 25
abbrev N5:Src:=.s 26
abbrev s27:Src:=.s 27
abbrev s28:Src:=.s 28
abbrev s29:Src:=.s 29
abbrev JI:Src:=.s 30
abbrev s31:Src:=.s 31
abbrev s32:Src:=.s 32
abbrev s33:Src:=.s 33
abbrev s34:Src:=.s 34
abbrev s35:Src:=.s 35
abbrev s36:Src:=.s 36
abbrev s37:Src:=.s 37
abbrev s38:Src:=.s 38
abbrev l0:Src:=.l 0
abbrev l1:Src:=.l 1
abbrev l2:Src:=.l 2
abbrev l3:Src:=.l 3
abbrev l4:Src:=.l 4
abbrev l5:Src:=.l 5
abbrev l6:Src:=.l 6
abbrev l7:Src:=.l 7
abbrev l8:Src:=.l 8
abbrev l9:Src:=.l 9
abbrev l10:Src:=.l 10
abbrev ki:Src:=.l 11
abbrev ma:Src:=.l 12
abbrev n7:Src:=.l 13
abbrev oR:Src:=.l 14
abbrev pV:Src:=.l 15
abbrev su:Src:=.l 16
abbrev xJ:Src:=.l 17
abbrev yl:Src:=.l 18
abbrev Ak:Src:=.l 19
abbrev B2:Src:=.l 20
abbrev Dr:Src:=.l 21
abbrev Fw:Src:=.l 22
abbrev JC:Src:=.l 23
abbrev JD:Src:=.l 24
abbrev KQ:Src:=.l 25
abbrev LV:Src:=.l 26
abbrev NM:Src:=.l 27
abbrev NN:Src:=.l 28
abbrev NO:Src:=.l 29
abbrev l30:Src:=.l 30
abbrev l31:Src:=.l 31
abbrev l32:Src:=.l 32
abbrev l33:Src:=.l 33
abbrev l34:Src:=.l 34
abbrev gm (x:Src):GI:=⟨.mv x,none⟩
abbrev gn (x:aw):GI:=⟨x,none⟩
abbrev i6 (n:Int):Src:=.c (.int .i64 n)
abbrev cs (s:List UInt8):Src:=.c (.str s)
abbrev gd (x:Src):GI:=⟨.ld 1 false x,none⟩
abbrev gk (n:Nat)(b:Bool)(x:Src):GI:=⟨.ld n b x,none⟩
abbrev gf (n:Nat)(x:Src):GI:=⟨.fa n x,none⟩
abbrev gl (x:Src):GI:=⟨.len x,none⟩
abbrev ga (n:Nat)(x y:Src):GI:=⟨.ia n x y,none⟩
abbrev ge (x:Src)(n:Nat):GI:=⟨.ext x n,none⟩
abbrev gb (n:Nat)(x:Src):GI:=⟨.box n x,none⟩
abbrev gc (x:Src):GI:=⟨.nilck x,none⟩
abbrev gt (n:Nat)(x y:Src):GI:=⟨.st n x y,none⟩
abbrev gx (n:Nat)(x:List Src)(y:List (List Sh)):GI:=⟨.call n x y,none⟩
abbrev rg (x:List GI)(y:List (Nat×Nat)):AC:=.reg false x y
abbrev rt (x:List GI)(y:List (Nat×Nat)):AC:=.reg true x y
abbrev py (x y:Src):aw:=.bin .lss x y
abbrev cR (x y:Src):aw:=.bin .eql x y
abbrev BI (x y:Src):aw:=.bin .add x y
abbrev dw (x y:Src):aw:=.bin .gtr x y
abbrev fg (x y:Src):aw:=.bin .neq x y
abbrev mB (x y:Src):aw:=.bin .leq x y
abbrev yC (x y:Src):aw:=.bin .geq x y
abbrev lU (x y:Src):aw:=.bin .sub x y
abbrev EJ (x y:Src):aw:=.bin .and x y
abbrev dH:Src:=.c (.bool false)
abbrev vk:Src:=.c (.bool true)
abbrev cse:Src:=.c (.str [])
abbrev bD:Src:=.c (.int .i64 0)
abbrev ca:Src:=.c (.int .i64 1)
abbrev kB:Src:=.c (.int .i64 2)
abbrev kL:Src:=.c (.int .i64 3)
abbrev vc:Src:=.c (.int .i64 4)
abbrev BY:Src:=.c (.int .i64 5)
abbrev AS:Src:=.c (.int .i64 6)
abbrev KM:Src:=.c (.int .i64 7)
abbrev H5:Src:=.c (.int .i64 8)
abbrev BZ:Src:=.c (.int .i64 9)
abbrev gmt (n:Nat)(x:Src):GI:=⟨.mv x,some (n,true)⟩
abbrev qj (n:Nat)(x:Src):GI:=⟨.ld 1 false x,some (n,true)⟩
abbrev sS (n o:Nat)(x:Src):GI:=⟨.fa o x,some (n,true)⟩
abbrev cJ (n:Nat)(x:aw):GI:=⟨x,some (n,true)⟩
abbrev eV (n:Nat)(x:Src):GI:=⟨.mv x,some (n,false)⟩
abbrev mh (n:Nat)(x:Src):GI:=⟨.ld 1 false x,some (n,false)⟩
abbrev kW (n o:Nat)(x:Src):GI:=⟨.fa o x,some (n,false)⟩
abbrev cu (n:Nat)(x:aw):GI:=⟨x,some (n,false)⟩
abbrev sq (a b:AC):AC:=.seq a b
abbrev AQ (x:Src):AC:=.seq (.reg false [⟨.mv x,none⟩] [(1,0)]) .ret
abbrev og (c x:Src):AC:=.cond c (.seq (.reg false [⟨.mv x,none⟩] [(1,0)]) .ret) .skip
abbrev cv:List (List Sh):=[[.a]]
abbrev KI:List (List Sh):=[[.a,.a,.a,.a,.a]]
abbrev KJ:List (List Sh):=[[.a,.a,.a,.a,.a,.a,.a]]
abbrev je:List (List Sh):=[[.a],[.a]]
abbrev NG:List (List Sh):=[[.a],[.a],[.a]]
abbrev fY (c x:Src):GI:=⟨.pick c (.c (.bool true)) x,none⟩
abbrev hX (c x:Src):GI:=⟨.pick c x (.c (.bool false)),none⟩
abbrev Jv (n:Nat)(c x:Src):GI:=⟨.pick c (.c (.bool true)) x,some (n,true)⟩
abbrev BX (n:Nat)(c x:Src):GI:=⟨.pick c x (.c (.bool false)),some (n,false)⟩
abbrev aU (x y:Src):GI:=⟨.bin .lss x y,none⟩
abbrev aE (x y:Src):GI:=⟨.bin .eql x y,none⟩
abbrev ar (x y:Src):GI:=⟨.bin .add x y,none⟩
abbrev dA (x y:Src):GI:=⟨.bin .gtr x y,none⟩
abbrev cr (x y:Src):GI:=⟨.bin .neq x y,none⟩
abbrev FI (x y:Src):GI:=⟨.bin .leq x y,none⟩
abbrev iy (x y:Src):GI:=⟨.bin .geq x y,none⟩
abbrev fO (x y:Src):GI:=⟨.bin .sub x y,none⟩
abbrev js (c:Src)(n:Nat):AC:=.cond c .skip (.exit n)
abbrev i8 (n:Int):Src:=.c (.int .u8 n)
abbrev i3 (n:Int):Src:=.c (.int .i32 n)
abbrev iu (n:Int):Src:=.c (.int .u64 n)
abbrev xA (x:Src):GI:=⟨.lenS x,none⟩
abbrev pr (x:Src):GI:=⟨.un .not x,none⟩
abbrev Hc (x y:Src):GI:=⟨.ixS x y,none⟩
abbrev r1 (x:List GI)(a b:Nat):AC:=.reg false x [(a,b)]
abbrev r2 (x:List GI)(a b:Nat):AC:=.reg true x [(a,b)]
abbrev kM:List Am:=[⟨1,none⟩]
end Go.Abs
end
section
namespace Go.Abs
open Go
def D0:aB:=⟨2,7,[⟨2,none⟩],cv,(sq (r1 [gm cse] 2 0) (sq (r1 [gm cse] 6 0) (sq (sq (r1 [gm bD] 3 0) (.block 0 (.loop (sq (sq (r1 [gm s3,gm s0,gl l1,aU l0 l2] 4 3) (js s4 0)) (sq (.block 1 (sq (sq (r1 [gm s3,dA l0 bD] 5 1) (.cond s5 (r1 [gm s6,gm s1,gn (.bsl 1 (.int .u8 0) 1 [(0,l1)]),gn (.b2s l2),ar l0 l3,gm l4] 6 5) .skip)) (r1 [gm s6,gm s0,gm s3,ga 1 l1 l2,gd l3,ar l0 l4,gm l5] 6 6))) (r1 [gm s3,ar l0 ca,gm l1] 3 2)))))) (sq (r1 [gm s6,gm l0] 2 1) .ret))))⟩
def w249 {Γ:Ctx}(hm:(Γ.at 0).br)  (l:List ah)(x:UInt8)  (hp0:(aF [x] l).length≤1099511627776):eA Γ D0 (.str (aF [x] l)) [.sl 1 (l.map D.str),.int .u8 (x.toNat:Nat)]:=by
 show bB _ _ _ [⟨_,_⟩,⟨_,_⟩,_,_,_,_,_] _;refine ak ?_;refine dD ?_;refine bt hm (ι:=Nat) (fun i=>[⟨true,.sl 1 (l.map D.str)⟩,⟨true,.int .u8 (x.toNat:Nat)⟩,.un,⟨true,.int .i64 (i:Nat)⟩,.un,.un,⟨true,.str (aF [x] (l.take i))⟩]) (fun i=>[]) 3 (fun i=>i≤l.length) (fun i=>l.length-i) 0 (by omega) (eC []) ?_;intro i hi;refine aP ?_;intro u0;refine ay ?_;refine cN (fun hc0=>?_) fun hc0=>?_
 ·refine aA ?_;have hj:=v8 [x] l (i+1);refine az ?_;refine aq (fun hc1=>?_) (fun hc1=>?_)
  ·simp only[decide_eq_true_eq]at hc1;have ht:=oQ [x] l i (by omega);rw[if_pos (by omega)]at ht;have htl:=congrArg List.length ht;simp only[List.length_append,List.length_singleton]at htl;refine az ?_;refine cx [.int .u8 _] ?_;refine Gt [x] (he:=fun _=>sc.all ae rfl) (hs:=fun _=>rfl) ?_;refine dc (hb:=fun _=>by simp only[List.length_singleton];omega) ?_;refine b6 ?_;refine dc (hb:=fun _=>by first|(simp only[List.length_append,List.length_singleton];omega)|(subst hi0;simp only[List.take_zero,aF,List.length_nil]at htl⊢;omega)) ?_;refine dD ?_;exact⟨i+1,(by omega),by omega,(aN.to [] ae ae (by repeat(first|exact c8.nil|refine c8.un ?_|refine c8.eq ae ?_|refine c8.nl (congrArg D.str (by rw[ht])) ae ?_)) zu)⟩
  simp only[decide_eq_false_iff_not]at hc1;have ht:=oQ [x] l i (by omega);rw[if_neg (by omega)]at ht;have htl:=congrArg List.length ht;simp only[List.length_append,List.length_nil]at htl;have hi0:i=0:=by omega
  refine bg ?_;refine dc (hb:=fun _=>by first|(simp only[List.length_append,List.length_singleton];omega)|(subst hi0;simp only[List.take_zero,aF,List.length_nil]at htl⊢;omega)) ?_;refine dD ?_;exact⟨i+1,(by omega),by omega,(aN.to [] ae ae (by repeat(first|exact c8.nil|refine c8.un ?_|refine c8.eq ae ?_|refine c8.nl (congrArg D.str (by rw[ht];subst hi0;rfl)) ae ?_)) zu)⟩
 refine bg ?_;refine cz ?_;rw[List.take_of_length_le (by omega)]
def Mf (Γ:Ctx):Prop:=∀(l:List ah)(x:UInt8),((aF [x] l).length≤1099511627776)→Γ.pre 249 [.sl 1 (l.map D.str),.int .u8 (x.toNat:Nat)]∧Γ.val 249 [.sl 1 (l.map D.str),.int .u8 (x.toNat:Nat)]=.str (aF [x] l)
def vo:aB:=⟨1,5,kM,cv,(sq (r1 [gm dH] 1 0) (sq (sq (r1 [gm ca] 2 0) (.block 0 (.loop (sq (sq (r1 [gm s2,gm s0,gl l1,aU l0 l2] 3 3) (js s3 0)) (sq (.block 1 (sq (r2 [gm s0,gm s2,fO l1 ca,ga 1 l0 l2,gd l3,gm s0,gm s2,ga 1 l5 l6,gd l7,iy l4 l8] 4 9) (og s4 dH))) (r1 [gm s2,ar l0 ca,gm l1] 2 2)))))) (AQ vk)))⟩
def w447 {Γ:Ctx}(hm:(Γ.at 0).br)  (l:List ah)   :eA Γ vo (.bool (rising l)) [.sl 1 (l.map D.str)]:=by
 show bB _ _ _ [⟨_,_⟩,_,_,_,_] _;refine ak ?_;refine aT ?_;refine bt hm (ι:=Nat) (fun i=>[⟨true,.sl 1 (l.map D.str)⟩,.un,⟨true,.int .i64 (i:Nat)⟩,.un,.un]) (fun i=>[]) 2 (fun i=>1≤i∧(i≤l.length∨i=1)∧rising l=cn (fun i=>Op.bytesLess l[i-1]! l[i]!) i l.length) (fun i=>l.length-i) 1 ⟨by omega,by omega,rfl⟩ (eC []) ?_;rintro i ⟨h1,hi,hr⟩;refine aP ?_;intro u0;refine ay ?_;refine cN (fun hc0=>?_) fun hc0=>?_
 ·refine aT ?_;refine cH (i-1) ?_;refine bg ?_;refine wp_cond (fun hc1=>?_) (fun hc1=>?_)
  ·simp only[Bool.not_eq_true']at hc1;refine aT ?_;refine bL ?_;rw[hr,aM (by omega),hc1];rfl
  simp only[Bool.not_eq_false']at hc1;refine b6 ?_;exact⟨i+1,⟨by omega,by omega,by rw[hr,aM (by omega),hc1];rfl⟩,by omega,(eC [])⟩
 refine aT ?_;refine bL ?_;rw[hr,b7 (by omega)]
def Mo (Γ:Ctx):Prop:=∀(l:List ah),Γ.pre 447 [.sl 1 (l.map D.str)]∧Γ.val 447 [.sl 1 (l.map D.str)]=.bool (rising l)
end Go.Abs
end
section
namespace Go.Abs
open Go
def AV:aB:=⟨1,8,kM,cv,(sq (r1 [gm dH] 1 0) (sq (sq (r1 [gm s0,aE l0 cse,gm l1,eV 2 s0,cu 2 (.lenS l3),cu 2 (dw l4 (i6 12)),fY l2 l5] 2 6) (og s2 dH)) (sq (sq (r1 [gm s0,gn (.rng l0)] 3 1) (.block 0 (.loop (sq (rg [gn (.ve s3),ge l0 0] [(5,0),(4,1)]) (sq (js s4 0) (.block 1 (sq (r1 [ge s5 2,gm l0] 6 1) (.block 2 (sq (sq (r1 [gm s6,iy l0 (i3 97),gm l1,gmt 2 s6,cJ 2 (mB l3 (i3 122)),hX l2 l4,gm l5] 7 6) (.cond s7 .skip (sq (r1 [gm s6,iy l0 (i3 48),gm l1,gmt 2 s6,cJ 2 (mB l3 (i3 57)),hX l2 l4,gm l5] 7 6) (.cond s7 .skip (r1 [gm s6,aE l0 (i3 95),gm l1] 7 2))))) (.cond s7 .skip (AQ dH))))))))))) (AQ vk))))⟩
def w349 {Γ:Ctx}(hm:(Γ.at 0).br)  (s:ah)   :eA Γ AV (.bool (bF s)) [.str s]:=by
 show bB _ _ _ [⟨_,_⟩,_,_,_,_,_,_,_] _;refine ak ?_;refine b6 ?_;refine nZ ?_;refine az ?_;refine cN (fun hc0=>?_) fun hc0=>?_
 ·refine aP ?_;refine bL ?_;symm;simp only[bF,Bool.and_eq_false_iff,decide_eq_false_iff_not];rcases hc0 with h|h
  ·subst h;exact Or.inl (Or.inl (by simp))
  ·exact Or.inl (by omega)
 refine aT ?_;have hP:bF s=cn (fun i=>vD (at8 s i)) 0 s.length:=by
  have:=List.length_pos_iff.2 hc0.1;simp only[bF];rw[decide_eq_true (by omega),decide_eq_true (by omega)];rfl
 refine bt hm (ι:=Nat) (fun i=>[⟨true,.str s⟩,.un,.un,⟨true,.it 9⟩,.un,.un,.un,.un]) (fun i=>[(9,.iter s i)]) 10 (fun i=>i≤s.length∧bF s=cn (fun i=>vD (at8 s i)) i s.length) (fun i=>s.length-i) 0 ⟨by omega,hP⟩ (eC [(9,9)]) ?_;rintro i ⟨hi,hr⟩;refine ax ?_;by_cases hnx:i<s.length
 ·obtain⟨c,w,hdec,hw,hcw⟩:=pH s i hnx;refine xZ c w (hp:=hnx) (hc:=hdec) ?_;refine ay ?_;refine aq (t:=true) (fun _=>?_) (fun h=>by cases h);refine G8 ?_;refine cN (fun hc2=>?_) fun hc2=>?_
  ·refine ax ?_;refine gC (fun hc4=>?_) fun hc4=>?_
   ·refine aA ?_;obtain⟨rfl,hat,-⟩:w=1∧(c:Int)=at8 s i∧c<128:=by
     rcases hcw with h|h
     ·exact h
     ·omega
    have hz:vD (at8 s i)=true:=by
     simp only[vD,eM,aG,Bool.or_eq_true,Bool.and_eq_true,decide_eq_true_eq];omega
    exact⟨i+1,⟨by omega,by rw[hr,aM hnx,hz];rfl⟩,by omega,(eC [(9,9)])⟩
   refine bg ?_;refine bL ?_;first
    |(exfalso;omega)
    |(rw[hr,b7 (by omega)];done)
    |(
     have hz:vD (at8 s i)=false:=by
      rcases hcw with⟨_,h,_⟩|⟨_,h⟩<;>(simp only[vD,eM,aG,Bool.or_eq_false_iff,Bool.and_eq_false_iff,decide_eq_false_iff_not];omega)
     rw[hr,aM hnx,hz];rfl)
  refine jx ?_;refine cN (fun hc3=>?_) fun hc3=>?_
  ·refine ax ?_;refine gC (fun hc4=>?_) fun hc4=>?_
   ·refine aA ?_;obtain⟨rfl,hat,-⟩:w=1∧(c:Int)=at8 s i∧c<128:=by
     rcases hcw with h|h
     ·exact h
     ·omega
    have hz:vD (at8 s i)=true:=by
     simp only[vD,eM,aG,Bool.or_eq_true,Bool.and_eq_true,decide_eq_true_eq];omega
    exact⟨i+1,⟨by omega,by rw[hr,aM hnx,hz];rfl⟩,by omega,(eC [(9,9)])⟩
   refine bg ?_;refine bL ?_;first
    |(exfalso;omega)
    |(rw[hr,b7 (by omega)];done)
    |(
     have hz:vD (at8 s i)=false:=by
      rcases hcw with⟨_,h,_⟩|⟨_,h⟩<;>(simp only[vD,eM,aG,Bool.or_eq_false_iff,Bool.and_eq_false_iff,decide_eq_false_iff_not];omega)
     rw[hr,aM hnx,hz];rfl)
  refine aP ?_;refine gC (fun hc4=>?_) fun hc4=>?_
  ·refine aA ?_;obtain⟨rfl,hat,-⟩:w=1∧(c:Int)=at8 s i∧c<128:=by
    rcases hcw with h|h
    ·exact h
    ·omega
   have hz:vD (at8 s i)=true:=by
    simp only[vD,eM,aG,Bool.or_eq_true,Bool.and_eq_true,decide_eq_true_eq];omega
   exact⟨i+1,⟨by omega,by rw[hr,aM hnx,hz];rfl⟩,by omega,(eC [(9,9)])⟩
  refine bg ?_;refine bL ?_;first
   |(exfalso;omega)
   |(rw[hr,b7 (by omega)];done)
   |(
    have hz:vD (at8 s i)=false:=by
     rcases hcw with⟨_,h,_⟩|⟨_,h⟩<;>(simp only[vD,eM,aG,Bool.or_eq_false_iff,Bool.and_eq_false_iff,decide_eq_false_iff_not];omega)
    rw[hr,aM hnx,hz];rfl)
 ·refine xY (hp:=hnx) ?_;refine ay ?_;refine aq (t:=false) (fun h=>by cases h) (fun _=>?_);refine aT ?_;refine bL ?_;first
   |(exfalso;omega)
   |(rw[hr,b7 (by omega)];done)
   |(
    have hz:vD (at8 s i)=false:=by
     rcases hcw with⟨_,h,_⟩|⟨_,h⟩<;>(simp only[vD,eM,aG,Bool.or_eq_false_iff,Bool.and_eq_false_iff,decide_eq_false_iff_not];omega)
    rw[hr,aM hnx,hz];rfl)
def An (Γ:Ctx):Prop:=∀(s:ah),Γ.pre 349 [.str s]∧Γ.val 349 [.str s]=.bool (bF s)
def AU:aB:=⟨1,13,kM,cv,(sq (r1 [gm dH] 1 0) (sq (sq (r1 [gm s0,aE l0 cse,gm l1,eV 2 s0,cu 2 (.lenS l3),cu 2 (dw l4 (i6 16)),fY l2 l5] 2 6) (og s2 dH)) (sq (sq (r1 [gm s0,gn (.rng l0)] 3 1) (.block 0 (.loop (sq (rg [gn (.ve s3),ge l0 0] [(5,0),(4,1)]) (sq (js s4 0) (.block 1 (sq (rg [ge s5 1,ge s5 2,gm l0,gm l1] [(9,2),(6,3)]) (.block 2 (sq (r1 [gm s6,iy l0 (i3 97),gm l1,gmt 2 s6,cJ 2 (mB l3 (i3 122)),hX l2 l4,gm l5] 7 6) (.cond s7 .skip (sq (r1 [gm s6,iy l0 (i3 48),gm l1,gmt 2 s6,cJ 2 (mB l3 (i3 57)),hX l2 l4,gm l5] 8 6) (.cond s8 (sq (r1 [gm s9,aE l0 bD] 10 1) (og lx dH)) (sq (r1 [gm s6,aE l0 (i3 45),gm l1] 11 2) (.cond oo (sq (r1 [gm s9,aE l0 bD,gm l1,eV 2 s9,eV 2 s0,cu 2 (.lenS l4),cu 2 (lU l5 ca),cu 2 (cR l3 l6),fY l2 l7,gm l8,eV 9 s0,eV 9 s9,cu 9 (lU ki ca),cu 9 (.ixS l10 ma),cu 9 (cR n7 (i8 45)),fY l9 oR] 12 15) (og my dH)) (AQ dH))))))))))))))) (AQ vk))))⟩
def w208 {Γ:Ctx}(hm:(Γ.at 0).br)  (s:ah)   :eA Γ AU (.bool (ed s)) [.str s]:=by
 show bB _ _ _ [⟨_,_⟩,_,_,_,_,_,_,_,_,_,_,_,_] _;refine ak ?_;refine b6 ?_;refine nZ ?_;refine az ?_;refine cN (fun hc0=>?_) fun hc0=>?_
 ·refine aP ?_;refine bL ?_;symm;simp only[ed];rcases hc0 with h|h
  ·subst h;simp
  ·rw[decide_eq_false (by omega:¬s.length≤16)];simp
 refine aT ?_;have h0:=List.length_pos_iff.2 hc0.1;have hP:=Iq s (by omega) (by omega);refine bt hm (ι:=Nat) (fun i=>[⟨true,.str s⟩,.un,.un,⟨true,.it 9⟩,.un,.un,.un,.un,.un,.un,.un,.un,.un]) (fun i=>[(9,.iter s i)]) 10 (fun i=>i≤s.length∧ed s=cn (kE s) i s.length) (fun i=>s.length-i) 0 ⟨by omega,hP⟩ (eC [(9,9)]) ?_;rintro i ⟨hi,hr⟩;refine ax ?_;by_cases hnx:i<s.length
 ·obtain⟨c,w,hdec,hw,hcw⟩:=pH s i hnx;refine xZ c w (hp:=hnx) (hc:=hdec) ?_;refine ay ?_;refine aq (t:=true) (fun _=>?_) (fun h=>by cases h);refine JO ?_;refine gC (fun hc2=>?_) fun hc2=>?_
  ·refine aA ?_;obtain⟨rfl,hat,-⟩:w=1∧(c:Int)=at8 s i∧c<128:=by
    rcases hcw with h|h
    ·exact h
    ·omega
   have hz:kE s i=true:=by
    simp only[kE,eM,aG,Bool.or_eq_true,Bool.and_eq_true,Bool.not_eq_true',decide_eq_true_eq,decide_eq_false_iff_not];omega
   exact⟨i+1,⟨by omega,by rw[hr,aM hnx,hz];rfl⟩,by omega,(eC [(9,9)])⟩
  refine dD ?_;refine gC (fun hc3=>?_) fun hc3=>?_
  ·refine aA ?_;refine gC (fun hc4=>?_) fun hc4=>?_
   ·refine bg ?_;refine bL ?_;first
     |(exfalso;omega)
     |(rw[hr,b7 (by omega)];done)
     |(have hz:kE s i=false:=by
        rcases hcw with⟨_,h,_⟩|⟨_,h⟩<;>(simp only[kE,eM,aG,Bool.or_eq_false_iff,Bool.and_eq_false_iff,Bool.not_eq_false',decide_eq_true_eq,decide_eq_false_iff_not];omega)
       rw[hr,aM hnx,hz];rfl)
   refine aA ?_;obtain⟨rfl,hat,-⟩:w=1∧(c:Int)=at8 s i∧c<128:=by
    rcases hcw with h|h
    ·exact h
    ·omega
   have hz:kE s i=true:=by
    simp only[kE,eM,aG,Bool.or_eq_true,Bool.and_eq_true,Bool.not_eq_true',decide_eq_true_eq,decide_eq_false_iff_not];omega
   exact⟨i+1,⟨by omega,by rw[hr,aM hnx,hz];rfl⟩,by omega,(eC [(9,9)])⟩
  refine aP ?_;refine gC (fun hc5=>?_) fun hc5=>?_
  ·refine aT ?_;refine nZ ?_;refine bg ?_;refine zv (i-1) ?_;refine az ?_;refine gC (fun hc6=>?_) fun hc6=>?_
   ·refine bg ?_;refine bL ?_;first
     |(exfalso;omega)
     |(rw[hr,b7 (by omega)];done)
     |(have hz:kE s i=false:=by
        rcases hcw with⟨_,h,_⟩|⟨_,h⟩<;>(simp only[kE,eM,aG,Bool.or_eq_false_iff,Bool.and_eq_false_iff,Bool.not_eq_false',decide_eq_true_eq,decide_eq_false_iff_not];omega)
       rw[hr,aM hnx,hz];rfl)
   refine aA ?_;obtain⟨rfl,hat,-⟩:w=1∧(c:Int)=at8 s i∧c<128:=by
    rcases hcw with h|h
    ·exact h
    ·omega
   have hz:kE s i=true:=by
    simp only[kE,eM,aG,Bool.or_eq_true,Bool.and_eq_true,Bool.not_eq_true',decide_eq_true_eq,decide_eq_false_iff_not];omega
   exact⟨i+1,⟨by omega,by rw[hr,aM hnx,hz];rfl⟩,by omega,(eC [(9,9)])⟩
  refine bg ?_;refine bL ?_;first
   |(exfalso;omega)
   |(rw[hr,b7 (by omega)];done)
   |(have hz:kE s i=false:=by
      rcases hcw with⟨_,h,_⟩|⟨_,h⟩<;>(simp only[kE,eM,aG,Bool.or_eq_false_iff,Bool.and_eq_false_iff,Bool.not_eq_false',decide_eq_true_eq,decide_eq_false_iff_not];omega)
     rw[hr,aM hnx,hz];rfl)
 ·refine xY (hp:=hnx) ?_;refine ay ?_;refine aq (t:=false) (fun h=>by cases h) (fun _=>?_);refine aT ?_;refine bL ?_;first
   |(exfalso;omega)
   |(rw[hr,b7 (by omega)];done)
   |(have hz:kE s i=false:=by
      rcases hcw with⟨_,h,_⟩|⟨_,h⟩<;>(simp only[kE,eM,aG,Bool.or_eq_false_iff,Bool.and_eq_false_iff,Bool.not_eq_false',decide_eq_true_eq,decide_eq_false_iff_not];omega)
     rw[hr,aM hnx,hz];rfl)
def Hi (Γ:Ctx):Prop:=∀(s:ah),Γ.pre 208 [.str s]∧Γ.val 208 [.str s]=.bool (ed s)
def xD:aB:=⟨1,10,[⟨1,none⟩,⟨2,none⟩],je,(sq (rg [gm bD,gm dH] [(1,0),(2,1)]) (sq (sq (r1 [gm s0,aE l0 cse,gm l1,eV 2 s0,cu 2 (.lenS l3),cu 2 (dw l4 vc),fY l2 l5,gm l6,eV 7 s0,cu 7 (.ixS l8 bD),cu 7 (cR l9 (i8 48)),eV 7 l10,gmt 11 s0,cJ 11 (.lenS ma),cJ 11 (dw n7 ca),BX 7 ki oR,fY l7 pV] 3 16) (.cond s3 (sq (rg [gm bD,gm dH] [(1,0),(2,1)]) .ret) .skip)) (sq (r1 [gm bD] 9 0) (sq (sq (r1 [gm s0,gn (.rng l0)] 4 1) (.block 0 (.loop (sq (rg [gn (.ve s4),ge l0 0] [(6,0),(5,1)]) (sq (js s5 0) (.block 1 (sq (r1 [ge s6 2,gm l0] 7 1) (.block 2 (sq (r1 [gm s7,iy l0 (i3 48),gm l1,gmt 2 s7,cJ 2 (mB l3 (i3 57)),hX l2 l4,gm l5] 8 6) (.cond s8 (r1 [gm s9,gn (.bin .mul (i6 10) l0),gm s7,fO l2 (i3 48),gn (.cvi .i64 l3),ar l1 l4,gm l5] 9 6) (sq (rg [gm bD,gm dH] [(1,0),(2,1)]) .ret))))))))))) (sq (rg [gm s9,gm s9,FI l1 (i6 9999),gm l0,gm l2] [(1,3),(2,4)]) .ret)))))⟩
def w658 {Γ:Ctx}(hm:(Γ.at 0).br)  (s:ah)   :eA Γ xD (.tup [.int .i64 (cX s),.bool (dN s)]) [.str s]:=by
 show bB _ _ _ [⟨_,_⟩,_,_,_,_,_,_,_,_,_] _;refine ak ?_;refine dD ?_;refine nZ ?_;refine aA ?_;refine zv 0 (hb:=fun h=>by simp at h;exact List.length_pos_iff.2 h.1) ?_;refine az ?_;refine nZ ?_;refine aA ?_;refine cN (fun hc0=>?_) fun hc0=>?_
 ·refine aT ?_;refine cd (aR (congrArg (D.int .i64) ?_) (congrArg D.bool ?_));all_goals
   have:dN s=false:=by
    rw[xN];rcases hc0 with(h|h)|h
    ·subst h;simp
    ·rw[decide_eq_false (by omega:¬s.length≤4)];simp
    ·rw[decide_eq_true (by omega:1<s.length),decide_eq_true h.1];simp
   simp[cX,this]
 refine dD ?_;have h0:=List.length_pos_iff.2 hc0.1.1;have hP:dN s=cn (fun i=>aG (at8 s i)) 0 s.length:=by
  rw[xN,decide_eq_true (by omega:1≤s.length),decide_eq_true (by omega:s.length≤4)];rcases hc0.2 with h|h
  ·rw[decide_eq_false h,Bool.and_false];rfl
  ·rw[decide_eq_false (by omega:¬1<s.length)];rfl
 refine bt hm (ι:=Nat) (fun i=>[⟨true,.str s⟩,.un,.un,.un,⟨true,.it 21⟩,.un,.un,.un,.un,⟨true,.int .i64 (cl (s.take i):Nat)⟩]) (fun i=>[(21,.iter s i)]) 22 (fun i=>i≤s.length∧s.length≤4∧dN s=cn (fun i=>aG (at8 s i)) i s.length) (fun i=>s.length-i) 0 ⟨by omega,by omega,hP⟩ (eC [(21,21)]) ?_;rintro i ⟨hi,h9,hr⟩;refine ax ?_;by_cases hnx:i<s.length
 ·obtain⟨c,w,hdec,hw,hcw⟩:=pH s i hnx;refine xZ c w (hp:=hnx) (hc:=hdec) ?_;refine ay ?_;refine aq (t:=true) (fun _=>?_) (fun h=>by cases h);refine xf ?_;refine gC (fun hc2=>?_) fun hc2=>?_
  ·refine ax ?_;obtain⟨rfl,hat,-⟩:w=1∧(c:Int)=at8 s i∧c<128:=by
    rcases hcw with h|h
    ·exact h
    ·omega
   have hn:=p0 s i (by omega);have hn2:=rU s i (by omega);have h256:=EI s i;refine ax ?_;refine sZ ?_;refine ax ?_;refine GB ((c:Int) -48) (hb:=fun _=>IntWalk.i32_in _ (by omega)) ?_;refine rW ((c:Int) -48) (hb:=fun _=>IntWalk.i64_in _ (by omega)) ?_;refine az ?_;rw[show 10*(cl (s.take i):Int)+((c:Int) -48)=(cl (s.take (i+1)):Nat)by omega];refine az ?_;have hz:aG (at8 s i)=true:=by
    simp only[aG,Bool.and_eq_true,decide_eq_true_eq];omega
   exact⟨i+1,⟨by omega,h9,by rw[hr,aM (by omega),hz];rfl⟩,by omega,(eC [(21,21)])⟩
  refine b6 ?_;refine cd (aR (congrArg (D.int .i64) ?_) (congrArg D.bool ?_));all_goals
   have hz:aG (at8 s i)=false:=by
    rcases hcw with⟨_,h,_⟩|⟨_,h⟩<;>(simp only[aG,Bool.and_eq_false_iff,decide_eq_false_iff_not];omega)
   have:dN s=false:=by rw[hr,aM (by omega),hz];rfl
   simp[cX,this]
 ·refine xY (hp:=hnx) ?_;refine ay ?_;refine aq (t:=false) (fun h=>by cases h) (fun _=>?_);refine jx ?_;refine cd (aR (congrArg (D.int .i64) ?_) (congrArg D.bool ?_));all_goals
   have this:dN s=true:=by rw[hr,b7 (by omega)]
   have ht:s.take i=s:=List.take_of_length_le (by omega);have h9:=this;simp only[dN,Bool.and_eq_true,decide_eq_true_eq]at h9;have h99:=h9.2;rw[ht];first
   |(simp only[cX,this];rfl)
   |(rw[this,decide_eq_true_eq];omega)
def Hn (Γ:Ctx):Prop:=∀(s:ah),Γ.pre 658 [.str s]∧Γ.val 658 [.str s]=.tup [.int .i64 (cX s),.bool (dN s)]
end Go.Abs
end
section
namespace Go.Abs
open Go
def y7:aB:=⟨2,10,[⟨2,none⟩],[[.sl 1 [.a]]],(sq (r1 [gm (.c (.av))] 2 0) (sq (r1 [gm (.c (.av))] 8 0) (sq (r1 [gm bD] 9 0) (sq (sq (rg [gm s0,xA l0,gm bD] [(4,1),(3,2)]) (.block 0 (.loop (sq (r1 [aU s3 s4] 5 0) (sq (js s5 0) (sq (.block 1 (sq (r1 [gm s3,gm l0] 6 1) (sq (r1 [gm s0,gm s6,Hc l0 l1,gm s1,aE l2 l3] 7 4) (.cond s7 (sq (r1 [gm s8,gm s0,gm s9,gm s6,gn (.slS l1 (some l2) (some l3)),gn (.bsl 1 (.str []) 1 [(0,l4)]),gn (.app 1 l0 l5),gm l6] 8 7) (r1 [gm s6,ar l0 ca,gm l1] 9 2)) .skip)))) (r1 [ar s3 ca,gm l0] 3 1))))))) (sq (r1 [gm s8,gm s0,gm s9,gn (.slS l1 (some l2) none),gn (.bsl 1 (.str []) 1 [(0,l3)]),gn (.app 1 l0 l4),gm l5] 2 6) .ret)))))⟩
def w533 {Γ:Ctx}(hm:(Γ.at 0).br)  (s:ah)(b:Int)  (hp0:s.length≤1048576):eA Γ y7 (.sl 1 ((ai s b).map D.str)) [.str s,.int .u8 b]:=by
 show bB _ _ _ [⟨_,_⟩,⟨_,_⟩,_,_,_,_,_,_,_,_] _;refine ak ?_;refine gS ?_;intro u0;refine ay ?_;refine bt hm (ι:=(Nat×Nat×List ah)) (fun p:Nat×Nat×List ah=>[⟨true,.str s⟩,⟨true,.int .u8 b⟩,.un,⟨true,.int .i64 (p.1:Nat)⟩,⟨true,.int .i64 (s.length:Nat)⟩,.un,.un,.un,⟨true,.own 0 1 0 p.2.2.length⟩,⟨true,.int .i64 (p.2.1:Nat)⟩]) (fun p=>[(0,.buf 1 (p.2.2.map D.str))]) 6 (fun p=>p.1≤s.length∧p.2.1≤p.1∧p.2.2.length≤p.1∧ai s b=p.2.2++bd b (s.drop p.1) ((s.take p.1).drop p.2.1)) (fun p=>s.length-p.1) (0,0,[]) ⟨by simp,by simp,by simp,rfl⟩ (aN.to [] ae ae (by repeat(first|exact c8.nil|refine c8.un ?_|refine c8.eq ae ?_|refine c8.nl ae ae ?_|refine c8.ni (Or.inr ⟨0,1,0,rfl⟩) ?_)) (by repeat(first|exact aC.nil|refine aC.mt ae ae ae ae ?_))) ?_;rintro⟨i,fr,acc⟩ ⟨hi,hf,ha,hr⟩;dsimp only at hi hf ha hr⊢;refine az ?_;refine cN (fun hc0=>?_) fun hc0=>?_
 ·refine me ?_;refine wp_cond (fun hc1=>?_) (fun hc1=>?_)
  ·try simp only[ik]at hc1
   refine aP ?_;refine zx _ _ ?_;refine cx [(.str _)] ?_;refine xe ?_;exact⟨(i+1,i+1,acc++[(s.take i).drop fr]),⟨by dsimp only;omega,by dsimp only;omega,by simp;omega,by rw[hr,wI (by omega) hc1];simp⟩,by dsimp only;omega,(aN.to [(20,0)] ae ae lP (by refine aC.nl 20 ae ae ae bV ?_;exact aC.nil))⟩
  simp only[decide_eq_false_iff_not]at hc1;refine bg ?_;exact⟨(i+1,fr,acc),⟨by dsimp only;omega,by dsimp only;omega,by dsimp only;omega,by rw[hr,wJ (by omega) (by omega) hc1]⟩,by dsimp only;omega,(aN.to [(0,0)] ae ae lP (by refine aC.nl 0 ae ae ae bV ?_;exact aC.nil))⟩
 refine aT ?_;refine nj _ ?_;refine cx [(.str _)] ?_;refine az ?_;refine eB 12 ?_;refine ax ?_;refine cd (?_);have hs:ai s b=acc++[s.drop fr]:=by rw[hr,uN (by omega)]
 rw[hs];exact rfl
def Eu (Γ:Ctx):Prop:=∀(s:ah)(b:Int),(s.length≤1048576)→Γ.pre 533 [.str s,.int .u8 b]∧Γ.val 533 [.str s,.int .u8 b]=.sl 1 ((ai s b).map D.str)
def sG:aB:=⟨1,7,kM,cv,(sq (r1 [gm dH] 1 0) (sq (sq (rg [gm s0,xA l0,gm bD] [(3,1),(2,2)]) (.block 0 (.loop (sq (r1 [aU s2 s3] 4 0) (sq (js s4 0) (sq (.block 1 (sq (r1 [gm s2,gm l0] 5 1) (sq (r1 [gm s0,gm s5,Hc l0 l1,aU l2 (i8 48),gm l3,eV 4 s0,eV 4 s5,cu 4 (.ixS l5 l6),cu 4 (dw l7 (i8 57)),fY l4 l8] 6 9) (og s6 dH)))) (r1 [ar s2 ca,gm l0] 2 1))))))) (sq (r1 [gm s0,cr l0 cse,gm l1] 1 2) .ret)))⟩
def w659 {Γ:Ctx}(hm:(Γ.at 0).br)  (t:ah)   :eA Γ sG (.bool (dp t)) [.str t]:=by
 show bB _ _ _ [⟨_,_⟩,_,_,_,_,_,_] _;refine ak ?_;refine aT ?_;intro u0;refine ay ?_;refine bt hm (ι:=Nat) (fun i=>[⟨true,.str t⟩,.un,⟨true,.int .i64 (i:Nat)⟩,⟨true,.int .i64 (t.length:Nat)⟩,.un,.un,.un]) (fun i=>[]) 4 (fun i=>i≤t.length∧cn (fun i=>aG (at8 t i)) 0 t.length=cn (fun i=>aG (at8 t i)) i t.length) (fun i=>t.length-i) 0 ⟨by omega,rfl⟩ (eC []) ?_;rintro i ⟨hi,hr⟩;refine az ?_;refine cN (fun hc0=>?_) fun hc0=>?_
 ·refine JO ?_;refine gC (fun hc1=>?_) fun hc1=>?_
  ·refine aT ?_;refine bL ?_;simp only[dp];rw[hr,aM (by omega)];rcases hc1 with h|h<;>simp[aG]<;>omega
  refine bg ?_;exact⟨i+1,⟨by omega,by rw[hr,aM (by omega)];rw[show aG (at8 t i)=true by simp only[aG,Bool.and_eq_true,decide_eq_true_eq];omega];rfl⟩,by omega,(eC [])⟩
 refine b6 ?_;refine bL ?_;simp only[dp];rw[hr,b7 (by omega)];cases t<;>simp
def MD (Γ:Ctx):Prop:=∀(t:ah),Γ.pre 659 [.str t]∧Γ.val 659 [.str t]=.bool (dp t)
def ye:aB:=⟨1,2,kM,cv,(sq (r1 [gm dH] 1 0) (sq (r1 [gm s0,iy l0 bD,gm l1,gmt 2 s0,cJ 2 (mB l3 (i6 9999)),hX l2 l4,gm l5] 1 6) .ret))⟩
def w440 {Γ:Ctx}(hm:(Γ.at 0).br)  (n:Int)   :eA Γ ye (.bool (pN n)) [.int .i64 n]:=by
 show bB _ _ _ [⟨_,_⟩,_] _;refine ak ?_;refine gS ?_;exact bL rfl
def Mi (Γ:Ctx):Prop:=∀(n:Int),Γ.pre 440 [.int .i64 n]∧Γ.val 440 [.int .i64 n]=.bool (pN n)
def uW:aB:=⟨2,9,[⟨2,none⟩,⟨3,none⟩],je,(sq (rg [gm cse,gm cse] [(2,0),(3,1)]) (sq (sq (rg [gm s0,xA l0,gm bD] [(5,1),(4,2)]) (.block 0 (.loop (sq (r1 [aU s4 s5] 6 0) (sq (js s6 0) (sq (.block 1 (sq (r1 [gm s4,gm l0] 7 1) (sq (r1 [gm s0,gm s7,Hc l0 l1,gm s1,aE l2 l3] 8 4) (.cond s8 (sq (rt [gm s0,gm s7,ar l1 ca,gn (.slS l0 (some l2) none),gm s0,gm s7,gn (.slS l4 none (some l5)),gm l3,gm l6] [(2,7),(3,8)]) .ret) .skip)))) (r1 [ar s4 ca,gm l0] 4 1))))))) (sq (rg [gm s0,gm cse,gm l0] [(2,1),(3,2)]) .ret)))⟩
def w675 {Γ:Ctx}(hm:(Γ.at 0).br)  (s:ah)(b:Int)   :eA Γ uW (.tup [.str (cI s b).1,.str (cI s b).2]) [.str s,.int .u8 b]:=by
 show bB _ _ _ [⟨_,_⟩,⟨_,_⟩,_,_,_,_,_,_,_] _;refine ak ?_;refine bg ?_;intro u0;refine ay ?_;refine bt hm (ι:=Nat) (fun i=>[⟨true,.str s⟩,⟨true,.int .u8 b⟩,.un,.un,⟨true,.int .i64 (i:Nat)⟩,⟨true,.int .i64 (s.length:Nat)⟩,.un,.un,.un]) (fun i=>[]) 5 (fun i=>i≤s.length∧cI s b=fI s b i) (fun i=>s.length-i) 0 ⟨by omega,rfl⟩ (eC []) ?_;rintro i ⟨hi,hr⟩;refine az ?_;refine cN (fun hc0=>?_) fun hc0=>?_
 ·refine me ?_;refine gC (fun hc1=>?_) fun hc1=>?_
  ·refine aA ?_;refine nj (i+1) ?_;refine ay ?_;refine p8 _ ?_;refine aT ?_;refine cd (aR (congrArg D.str ?_) (congrArg D.str ?_));all_goals rw[hr,Aw (by omega) hc1]
  refine bg ?_;exact⟨i+1,⟨by omega,by rw[hr,Ax (by omega) hc1]⟩,by omega,(eC [])⟩
 refine b6 ?_;refine cd (aR (congrArg D.str ?_) (congrArg D.str ?_));all_goals rw[hr,yF (by omega)]
def MI (Γ:Ctx):Prop:=∀(s:ah)(b:Int),Γ.pre 675 [.str s,.int .u8 b]∧Γ.val 675 [.str s,.int .u8 b]=.tup [.str (cI s b).1,.str (cI s b).2]
def yf:aB:=⟨1,15,kM,cv,(sq (r1 [gm dH] 1 0) (sq (r1 [gm s0,gx 533 [l0,(i8 46)] je,gm l1] 2 2) (sq (r1 [gm s2,gl l0,FI l1 vc,gm l2] 14 3) (sq .skip (sq (sq (rg [gm s2,gl l0,gm bD] [(6,0),(4,1),(3,2)]) (.block 0 (.loop (sq (r1 [aU s3 s4] 5 0) (sq (js s5 0) (sq (.block 1 (sq (r1 [ga 1 s6 s3,gd l0,gm l1] 7 2) (sq (sq (r1 [gm s7,aE l0 cse,gm l1,eV 2 s7,cu 2 (.lenS l3),cu 2 (dw l4 H5),fY l2 l5] 8 6) (.cond s8 (sq (r1 [gm dH] 14 0) (.exit 0)) .skip)) (sq (r1 [gm s7,gn (.rng l0)] 9 1) (.block 2 (.loop (sq (rg [gn (.ve s9),ge l0 0] [(11,0),(10,1)]) (sq (js lx 2) (.block 3 (sq (r1 [ge oo 2,gm l0] 12 1) (sq (r1 [gm my,aU l0 (i3 97),gm l1,eV 2 my,cu 2 (dw l3 (i3 122)),fY l2 l4,gm l5,gmt 6 my,cJ 6 (py l7 (i3 48)),gmt 6 l8,eV 9 my,cu 9 (dw l10 (i3 57)),Jv 6 l9 ki,hX l6 ma,gm n7,gmt 14 my,cJ 14 (fg pV (i3 45)),hX oR su] 13 17) (.cond sD (sq (r1 [gm dH] 14 0) (.exit 0)) .skip)))))))))))) (r1 [ar s3 ca,gm l0] 3 1))))))) (sq (r1 [gm ta,gm l0] 1 1) .ret))))))⟩
def w442 {Γ:Ctx}(hm:(Γ.at 0).br)(h533:Eu Γ)(s:ah)  (hp0:s.length≤1048576):eA Γ yf (.bool (ju s false)) [.str s]:=by
 show bB _ _ _ [⟨_,_⟩,_,_,_,_,_,_,_,_,_,_,_,_,_,_] _;refine ak ?_;refine aA ?_;refine aj (hc:=h533 _ _ ?_) ?_;rotate_left;first|assumption|omega;have hlen:=cQ s 46
 refine aP ?_;intro u0;refine b6 ?_;intro u1;refine ay ?_;refine bt hm (ι:=Nat) (fun i=>[.un,.un,⟨true,.sl 1 ((ai s 46).map D.str)⟩,⟨true,.int .i64 (i:Nat)⟩,⟨true,.int .i64 ((ai s 46).length:Nat)⟩,.un,⟨true,.sl 1 ((ai s 46).map D.str)⟩,.un,.un,.un,.un,.un,.un,.un,⟨true,.bool (decide (((ai s 46).length:Int)≤4))⟩]) (fun i=>[]) 11 (fun i=>i≤(ai s 46).length∧ju s false=(decide ((ai s 46).length≤4)&&cn (fun i=>ey false (ai s 46)[i]!) i (ai s 46).length)) (fun i=>(ai s 46).length-i) 0 ⟨by omega,rfl⟩ (eC []) ?_;rintro i ⟨hi,hr⟩;refine az ?_;refine cN (fun hc0=>?_) fun hc0=>?_
 ·refine dD ?_;generalize ht:(ai s 46)[i]! =t;refine aA ?_;refine nZ ?_;refine az ?_;refine cN (fun hc1=>?_) fun hc1=>?_
  ·refine gS ?_;refine bL ?_;first
    |(rw[hr,b7 (by omega),Bool.and_true];exact decide_eq_decide.2 (by omega))
    |(have hb:mr t=false:=by
       first
       |(simp only[mr];rcases hc1 with h|h
         ·subst h;simp
         ·rw[decide_eq_false (by omega:¬t.length≤8)];simp)
       |(have hz:jF (at8 t j)=false:=by
          rcases hcw with⟨_,h,_⟩|⟨_,h⟩<;>(simp only[jF,eM,aG,Bool.or_eq_false_iff,Bool.and_eq_false_iff,decide_eq_false_iff_not];omega)
         rw[hj,aM hnx,hz];rfl)
      rw[hr,aM (by omega),show ey false (ai s 46)[i]! =false from(by simp only[ey,ht,hb,Bool.false_and])];simp)
  refine aP ?_;have hT:mr t=cn (fun i=>jF (at8 t i)) 0 t.length:=by
   have:=List.length_pos_iff.2 hc1.1;simp only[mr];rw[decide_eq_true (by omega),decide_eq_true (by omega)];rfl
  refine qg hm (ι:=Nat) (fun j=>[.un,.un,⟨true,.sl 1 ((ai s 46).map D.str)⟩,⟨true,.int .i64 (i:Nat)⟩,⟨true,.int .i64 ((ai s 46).length:Nat)⟩,.un,⟨true,.sl 1 ((ai s 46).map D.str)⟩,.un,.un,⟨true,.it 23⟩,.un,.un,.un,.un,⟨true,.bool (decide (((ai s 46).length:Int)≤4))⟩]) (fun j=>[(23,.iter t j)]) 24 (fun j=>j≤t.length∧mr t=cn (fun i=>jF (at8 t i)) j t.length) (fun j=>t.length-j) 0 ⟨by omega,hT⟩ (eC [(23,23)]) ?_;rintro j ⟨hj0,hj⟩;refine ax ?_;by_cases hnx:j<t.length
  ·obtain⟨c,w,hdec,hw,hcw⟩:=pH t j hnx;refine xZ c w (hp:=hnx) (hc:=hdec) ?_;refine ay ?_;refine aq (t:=true) (fun _=>?_) (fun h=>by cases h);refine Oh ?_;refine gC (fun hc3=>?_) fun hc3=>?_
   ·refine me ?_;refine bL ?_;first
     |(rw[hr,b7 (by omega),Bool.and_true];exact decide_eq_decide.2 (by omega))
     |(have hb:mr t=false:=by
        first
        |(simp only[mr];rcases hc1 with h|h
          ·subst h;simp
          ·rw[decide_eq_false (by omega:¬t.length≤8)];simp)
        |(have hz:jF (at8 t j)=false:=by
           rcases hcw with⟨_,h,_⟩|⟨_,h⟩<;>(simp only[jF,eM,aG,Bool.or_eq_false_iff,Bool.and_eq_false_iff,decide_eq_false_iff_not];omega)
          rw[hj,aM hnx,hz];rfl)
       rw[hr,aM (by omega),show ey false (ai s 46)[i]! =false from(by simp only[ey,ht,hb,Bool.false_and])];simp)
   refine az ?_;obtain⟨rfl,hat,-⟩:w=1∧(c:Int)=at8 t j∧c<128:=by
    rcases hcw with h|h
    ·exact h
    ·omega
   have hz:jF (at8 t j)=true:=by
    simp only[jF,eM,aG,Bool.or_eq_true,Bool.and_eq_true,decide_eq_true_eq];omega
   exact⟨j+1,⟨by omega,by rw[hj,aM hnx,hz];rfl⟩,by omega,(eC [(23,23)])⟩
  ·refine xY (hp:=hnx) ?_;refine ay ?_;refine aq (t:=false) (fun h=>by cases h) (fun _=>?_);refine b6 ?_;exact⟨i+1,⟨by omega,by rw[hr,aM (by omega)];rw[show ey false (ai s 46)[i]! =true from(by simp only[ey,Bool.false_and,Bool.not_false,Bool.and_true];rw[ht,hj,b7 (by omega)])];rfl⟩,by omega,(eC [])⟩
 refine bg ?_;refine bL ?_;first
  |(rw[hr,b7 (by omega),Bool.and_true];exact decide_eq_decide.2 (by omega))
  |(have hb:mr t=false:=by
     first
     |(simp only[mr];rcases hc1 with h|h
       ·subst h;simp
       ·rw[decide_eq_false (by omega:¬t.length≤8)];simp)
     |(have hz:jF (at8 t j)=false:=by
        rcases hcw with⟨_,h,_⟩|⟨_,h⟩<;>(simp only[jF,eM,aG,Bool.or_eq_false_iff,Bool.and_eq_false_iff,decide_eq_false_iff_not];omega)
       rw[hj,aM hnx,hz];rfl)
    rw[hr,aM (by omega),show ey false (ai s 46)[i]! =false from(by simp only[ey,ht,hb,Bool.false_and])];simp)
def JX (Γ:Ctx):Prop:=∀(s:ah),(s.length≤1048576)→Γ.pre 442 [.str s]∧Γ.val 442 [.str s]=.bool (ju s false)
end Go.Abs
end
section
namespace Go.Abs
open Go
def Mh (Γ:Ctx):Prop:=∀(n:Int),(0≤n∧n≤9999)→Γ.pre 336 [.int .i64 n]∧Γ.val 336 [.int .i64 n]=.str (bQ n.toNat)
def Hj (Γ:Ctx):Prop:=∀(l:List ah)(sep:ah),(l.length≤1048600)→(sep.length≤4)→(∀t∈l,t.length≤2097200)→Γ.pre 242 [.sl 1 (l.map D.str),.str sep]∧Γ.val 242 [.sl 1 (l.map D.str),.str sep]=.str (aF sep l)
def Es (Γ:Ctx):Prop:=∀(s:ah)(b:UInt8),(s.length≤1048576)→Γ.pre 124 [.str s,.str [b]]∧Γ.val 124 [.str s,.str [b]]=.sl 1 ((ai s b.toNat).map D.str)
def Mz (Γ:Ctx):Prop:=∀(s:ah)(b:UInt8),(s.length≤1048576)→Γ.pre 487 [.str s,.str [b]]∧Γ.val 487 [.str s,.str [b]]=.tup [.str (ea s b).1,.str (ea s b).2.1,.bool (ea s b).2.2]
def Mg (Γ:Ctx):Prop:=∀(s:ah)(p:ah),(s.length≤1048576)→(p.length≤1048576)→Γ.pre 254 [.str s,.str p]∧Γ.val 254 [.str s,.str p]=.tup [.str (cZ s p).1,.bool (cZ s p).2]
end Go.Abs
end
section
namespace Go.Abs
open Go
def zZ:aB:=⟨1,10,kM,cv,(sq (r1 [gm dH] 1 0) (sq (sq (r1 [gm s0,gx 442 [l0] cv,pr l1] 2 2) (og s2 dH)) (sq (sq (rg [gm s0,gx 533 [l0,(i8 46)] je,gl l1,gm bD] [(6,1),(4,2),(3,3)]) (.block 0 (.loop (sq (r1 [aU s3 s4] 5 0) (sq (js s5 0) (sq (.block 1 (sq (r1 [ga 1 s6 s3,gd l0,gm l1] 7 2) (sq (r1 [gm s7,gx 658 [l0] cv,gm l1,ge l2 0,ge l2 1,gm l3,gm l4] 8 6) (sq (r1 [gm s7,gx 659 [l0] cv,gm l1,gmt 2 s8,cJ 2 (.un .not l3),hX l2 l4] 9 5) (og s9 dH))))) (r1 [ar s3 ca,gm l0] 3 1))))))) (AQ vk))))⟩
def w441 {Γ:Ctx}(hm:(Γ.at 0).br)(h442:JX Γ)(h533:Eu Γ)(h658:Hn Γ)(h659:MD Γ)(s:ah)  (hp0:s.length≤1048576):eA Γ zZ (.bool (ju s true)) [.str s]:=by
 show bB _ _ _ [⟨_,_⟩,_,_,_,_,_,_,_,_,_] _;refine ak ?_;refine aP ?_;refine aj (hc:=h442 _ ?_) ?_;rotate_left;first|assumption|omega
 refine ay ?_;refine aq (fun hc0=>?_) (fun hc0=>?_)
 ·simp only[Bool.not_eq_true']at hc0;refine aP ?_;refine bL ?_;symm;simp only[ju]at hc0⊢;rw[Bool.and_eq_false_iff]at hc0⊢;rcases hc0 with h|h
  ·exact Or.inl h
  ·right;rw[Bool.eq_false_iff]at h⊢;intro h2;apply h;rw[dh]at h2⊢;intro j a b;have:=h2 j a b;simp only[ey,Bool.and_eq_true]at this⊢;exact⟨this.1,rfl⟩
 simp only[Bool.not_eq_false']at hc0;refine aA ?_;refine aj (hc:=h533 _ _ ?_) ?_;rotate_left;first|assumption|omega;have hlen:=cQ s 46
 refine ax ?_;intro u0;refine ay ?_;have hT:=hc0;simp only[ju,Bool.and_eq_true,decide_eq_true_eq]at hT;obtain⟨hT4,hTa⟩:=hT;rw[dh]at hTa;have hP:ju s true=cn (fun i=>ey true (ai s 46)[i]!) 0 (ai s 46).length:=by
  simp only[ju];rw[decide_eq_true hT4];rfl
 refine bt hm (ι:=Nat) (fun i=>[.un,.un,.un,⟨true,.int .i64 (i:Nat)⟩,⟨true,.int .i64 ((ai s 46).length:Nat)⟩,.un,⟨true,.sl 1 ((ai s 46).map D.str)⟩,.un,.un,.un]) (fun i=>[]) 8 (fun i=>i≤(ai s 46).length∧ju s true=cn (fun i=>ey true (ai s 46)[i]!) i (ai s 46).length) (fun i=>(ai s 46).length-i) 0 ⟨by omega,hP⟩ (eC []) ?_;rintro i ⟨hi,hr⟩;refine az ?_;refine cN (fun hc1=>?_) fun hc1=>?_
 ·refine dD ?_;refine aj (hc:=h658 _) ?_;refine b6 ?_;refine aj (hc:=h659 _) ?_;refine aP ?_;refine wp_cond (fun hc2=>?_) (fun hc2=>?_)
  ·skip
   refine aT ?_;refine bL ?_;have hz:ey true (ai s 46)[i]! =false:=by
    simp only[ey];revert hc2;generalize mr (ai s 46)[i]! =c;generalize dp (ai s 46)[i]! =a;generalize dN (ai s 46)[i]! =b;cases a<;>cases b<;>cases c<;>simp
   rw[hr,aM (by omega),hz];rfl
  skip
  refine bg ?_;have hz:ey true (ai s 46)[i]! =true:=by
   have:=hTa i (by omega) (by omega);simp only[ey,Bool.false_and,Bool.not_false,Bool.and_true]at this;simp only[ey,this];revert hc2;generalize dp (ai s 46)[i]! =a;generalize dN (ai s 46)[i]! =b;cases a<;>cases b<;>simp
  exact⟨i+1,⟨by omega,by rw[hr,aM (by omega),hz];rfl⟩,by omega,(eC [])⟩
 refine aT ?_;refine bL ?_;rw[hr,b7 (by omega)]
def Mj (Γ:Ctx):Prop:=∀(s:ah),(s.length≤1048576)→Γ.pre 441 [.str s]∧Γ.val 441 [.str s]=.bool (ju s true)
def zY:aB:=⟨1,3,kM,cv,(sq (rg [gb 5 s0,gm dH] [(2,0),(1,1)]) (sq (r1 [gf 0 s2,gd l0,gx 440 [l1] cv,gm l2,sS 3 1 s2,qj 3 l4,cJ 3 (.call 440 [l5] cv),hX l3 l6,gm l7,sS 8 2 s2,qj 8 l9,cJ 8 (.call 440 [l10] cv),hX l8 ki,gm ma,sS 13 3 s2,qj 13 oR,cJ 13 (cR pV cse),gmt 13 su,kW 17 3 s2,mh 17 yl,cu 17 (.call 441 [Ak] cv),Jv 13 xJ B2,hX n7 Dr,gm Fw,sS 23 4 s2,qj 23 JD,cJ 23 (cR KQ cse),gmt 23 LV,kW 27 4 s2,mh 27 NN,cu 27 (.call 442 [NO] cv),Jv 23 NM l30,hX JC l31,gm l32] 1 33) .ret))⟩
def w209 {Γ:Ctx}(hm:(Γ.at 0).br)(h440:Mi Γ)(h441:Mj Γ)(h442:JX Γ)(v:dt)  (hp0:v.sm):eA Γ zY (.bool (en v)) [dt.D v]:=by
 show bB _ _ _ [⟨_,_⟩,_,_] _;refine ak ?_;refine aT ?_;refine aj (hc:=h440 _) ?_;refine az ?_;refine aj (hc:=h440 _) ?_;refine aA ?_;refine aj (hc:=h440 _) ?_;refine b6 ?_;refine ff (hc:=fun hf=>h441 v.pre hp0.1) ?_;refine dD ?_;refine ff (hc:=fun hf=>h442 v.build hp0.2) ?_;refine aP ?_;exact bL rfl
def Et (Γ:Ctx):Prop:=∀(v:dt),(v.sm)→Γ.pre 209 [dt.D v]∧Γ.val 209 [dt.D v]=.bool (en v)
def xB:aB:=⟨1,2,kM,cv,(sq (r1 [gm cse] 1 0) (sq (r1 [gm s0,gx 336 [l0] cv,gm l1] 1 2) .ret))⟩
def w665 {Γ:Ctx}(hm:(Γ.at 0).br)(h336:Mh Γ)(n:Int)  (hp0:0≤n∧n≤9999):eA Γ xB (.str (bQ n.toNat)) [.int .i64 n]:=by
 show bB _ _ _ [⟨_,_⟩,_] _;refine ak ?_;refine aA ?_;refine aj (hc:=h336 _ ?_) ?_;rotate_left;first|assumption|omega
 refine az ?_;exact cz rfl
def J9 (Γ:Ctx):Prop:=∀(n:Int),(0≤n∧n≤9999)→Γ.pre 665 [.int .i64 n]∧Γ.val 665 [.int .i64 n]=.str (bQ n.toNat)
def vC:aB:=⟨1,7,kM,cv,(sq (rg [gb 5 s0,gm cse] [(2,0),(1,1)]) (sq (sq (r1 [gk 5 true s2,gx 209 [l0] KI,pr l1] 3 2) (og s3 cse)) (sq (r2 [gf 0 s2,gd l0,gx 665 [l1] cv,ar l2 (cs [46]),gf 1 s2,gd l4,gx 665 [l5] cv,ar l3 l6,ar l7 (cs [46]),gf 2 s2,gd l9,gx 665 [l10] cv,ar l8 ki,gm ma] 5 13) (sq (sq (r1 [gf 3 s2,gd l0,cr l1 cse] 4 2) (.cond s4 (r1 [gm s5,gf 3 s2,gd l1,ar (cs [45]) l2,ar l0 l3,gm l4] 5 5) .skip)) (sq (sq (r1 [gf 4 s2,gd l0,cr l1 cse] 6 2) (.cond s6 (r1 [gm s5,gf 4 s2,gd l1,ar (cs [43]) l2,ar l0 l3,gm l4] 5 5) .skip)) (sq (r1 [gm s5,gm l0] 1 1) .ret))))))⟩
def w451 {Γ:Ctx}(hm:(Γ.at 0).br)(h209:Et Γ)(h665:J9 Γ)(v:dt)  (hp0:v.sm):eA Γ vC (.str (iZ v)) [dt.D v]:=by
 show bB _ _ _ [⟨_,_⟩,_,_,_,_,_,_] _;obtain⟨hs1,hs2⟩:=hp0;have hp0:v.sm:=⟨hs1,hs2⟩;refine ak ?_;refine aT ?_;refine aj (hc:=h209 _ ?_) ?_;rotate_left;first|assumption|omega
 refine ay ?_;refine aq (fun hc0=>?_) (fun hc0=>?_)
 ·simp only[Bool.not_eq_true']at hc0;refine aP ?_;refine cz ?_;simp[iZ,hc0]
 simp only[Bool.not_eq_false']at hc0;refine ay ?_;have hv:=hc0;simp only[en,Bool.and_eq_true]at hv;obtain⟨⟨⟨⟨hv1,hv2⟩,hv3⟩,_⟩,_⟩:=hv;have hq1:=hv1;have hq2:=hv2;have hq3:=hv3;simp only[pN,Bool.and_eq_true,decide_eq_true_eq]at hq1 hq2 hq3;have hl1:=dF 4 v.major.toNat (by omega) (by omega);have hl2:=dF 4 v.minor.toNat (by omega) (by omega);have hl3:=dF 4 v.patch.toNat (by omega) (by omega);refine ay ?_;refine aj (hc:=h665 _ ?_) ?_;rotate_left;first|assumption|omega
 refine dc (hb:=fun _=>by simp;omega) ?_;refine ay ?_;refine aj (hc:=h665 _ ?_) ?_;rotate_left;first|assumption|omega
 refine dc (hb:=fun _=>by simp;omega) ?_;refine dc (hb:=fun _=>by simp;omega) ?_;refine ay ?_;refine aj (hc:=h665 _ ?_) ?_;rotate_left;first|assumption|omega
 refine dc (hb:=fun _=>by simp;omega) ?_;refine b6 ?_;refine cN (fun hc1=>?_) fun hc1=>?_
 ·refine aA ?_;refine dc (hb:=fun _=>by simp;omega) ?_;refine dc (hb:=fun _=>by simp;omega) ?_;refine b6 ?_;refine cN (fun hc2=>?_) fun hc2=>?_
  ·refine aA ?_;refine dc (hb:=fun _=>by simp;omega) ?_;refine dc (hb:=fun _=>by simp;omega) ?_;refine bg ?_;refine cz ?_;simp[iZ,sF,hc0,hc1,hc2]
  refine aT ?_;refine cz ?_;simp[iZ,sF,hc0,hc1,hc2]
 refine bg ?_;refine cN (fun hc2=>?_) fun hc2=>?_
 ·refine aA ?_;refine dc (hb:=fun _=>by simp;omega) ?_;refine dc (hb:=fun _=>by simp;omega) ?_;refine bg ?_;refine cz ?_;simp[iZ,sF,hc0,hc1,hc2]
 refine aT ?_;refine cz ?_;simp[iZ,sF,hc0,hc1,hc2]
def J0 (Γ:Ctx):Prop:=∀(v:dt),(v.sm)→Γ.pre 451 [dt.D v]∧Γ.val 451 [dt.D v]=.str (iZ v)
end Go.Abs
end
section
namespace Go.Abs
open Go
end Go.Abs
end
section
namespace Go.Abs
open Go
end Go.Abs
end
section
namespace Go.Abs
open Go
def Bl:aB:=⟨1,4,kM,cv,(sq (r1 [gm cse] 1 0) (sq (r1 [gm s0,gn (.bin .rem l0 (iu 10)),gn (.cvi .u8 l1),ar (i8 48) l2,gn (.bsl 1 (.int .u8 0) 1 [(0,l3)]),gn (.b2s l4),gm l5] 3 6) (sq (.block 0 (.loop (sq (sq (r1 [gm s0,dA l0 (iu 9)] 2 1) (js s2 0)) (.block 1 (sq (r1 [gm s0,gn (.bin .quo l0 (iu 10)),gm l1] 0 2) (r1 [gm s0,gn (.bin .rem l0 (iu 10)),gn (.cvi .u8 l1),ar (i8 48) l2,gn (.bsl 1 (.int .u8 0) 1 [(0,l3)]),gn (.b2s l4),gm s3,ar l5 l6,gm l7] 3 8)))))) (sq (r1 [gm s3,gm l0] 1 1) .ret))))⟩
def w882 {Γ:Ctx}(hm:(Γ.at 0).br)  (n:Nat)  (hp0:n≤9999):eA Γ Bl (.str (bQ n)) [.int .u64 (n:Nat)]:=by
 show bB _ _ _ [⟨_,_⟩,_,_,_] _;refine ak ?_;refine aA ?_;refine Cg ((n%10:Nat):Int) (hn:=by intro _;omega) (hb:=fun _=>rfl) ?_;refine rW ((n%10:Nat):Int) (hb:=fun _=>IntWalk.u8_in _ (by omega)) ?_;refine Gr (((dg (n%10)).toNat:Nat):Int) (hb:=fun _=>by rw[vR (by omega)];exact IntWalk.u8_in _ (by omega)) ?_;refine cx [.int .u8 _] ?_;refine Gt [dg (n%10)] (he:=fun _=>sc.all ae rfl) (hs:=fun _=>rfl) ?_;refine ay ?_;have h0:bQ n=(if n<10 then []else bQ (n/10))++[dg (n%10)]:=by
  split
  ·rename_i h;rw[jz h,Nat.mod_eq_of_lt h];rfl
  ·rw[ke (by omega)]
 refine bt hm (ι:=(Nat×ah)) (fun p=>[⟨true,.int .u64 (p.1:Nat)⟩,.un,.un,⟨true,.str p.2⟩]) (fun p=>[]) 8 (fun p=>p.1≤9999∧p.2.length≤9999-p.1+1∧bQ n=(if p.1<10 then []else bQ (p.1/10))++p.2) (fun p=>p.1) (n,[dg (n%10)]) ⟨hp0,by simp,h0⟩ (eC []) ?_;rintro⟨k,s⟩ ⟨hk,hs,hr⟩;dsimp only at hk hs hr⊢;refine aP ?_;refine cN (fun hc0=>?_) fun hc0=>?_
 ·refine aA ?_;refine N2 ((k/10:Nat):Int) (hn:=by intro _;omega) (hb:=fun _=>by rw[show((k:Int).tdiv 10)=((k/10:Nat):Int)from rfl,IntKind.wrap_u64];omega) ?_;refine aA ?_;refine Cg (((k/10)%10:Nat):Int) (hn:=by intro _;omega) (hb:=fun _=>rfl) ?_;refine rW (((k/10)%10:Nat):Int) (hb:=fun _=>IntWalk.u8_in _ (by omega)) ?_;refine Gr (((dg ((k/10)%10)).toNat:Nat):Int) (hb:=fun _=>by rw[vR (by omega)];exact IntWalk.u8_in _ (by omega)) ?_;refine cx [.int .u8 _] ?_;refine Gt [dg ((k/10)%10)] (he:=fun _=>sc.all ae rfl) (hs:=fun _=>rfl) ?_;refine ax ?_;refine dc (hb:=fun _=>by simp;omega) ?_;refine aA ?_;have h1:bQ n=(if k/10<10 then []else bQ (k/10/10))++([dg (k/10%10)]++s):=by
   rw[hr,if_neg (by omega)];split
   ·rename_i h;rw[jz h,Nat.mod_eq_of_lt h];rfl
   ·rw[ke (by omega),List.append_assoc]
  exact⟨(k/10,[dg (k/10%10)]++s),⟨by dsimp only;omega,by simp;omega,h1⟩,by dsimp only;omega,(eC [])⟩
 refine bg ?_;refine cz ?_;rw[hr,if_pos (by omega)];rfl
def MT (Γ:Ctx):Prop:=∀(n:Nat),(n≤9999)→Γ.pre 882 [.int .u64 (n:Nat)]∧Γ.val 882 [.int .u64 (n:Nat)]=.str (bQ n)
def zF:aB:=⟨1,3,kM,cv,(sq (r1 [gm cse] 1 0) (sq (sq (r1 [gm s0,aU l0 bD] 2 1) (.cond s2 (sq (r1 [gm s0,ar l0 ca,gn (.un .neg l1),gn (.cvi .u64 l2),ar l3 (iu 1),gx 882 [l4] cv,ar (cs [45]) l5,gm l6] 1 7) .ret) .skip)) (sq (r1 [gm s0,gn (.cvi .u64 l0),gx 882 [l1] cv,gm l2] 1 3) .ret)))⟩
def w734 {Γ:Ctx}(hm:(Γ.at 0).br)(h882:MT Γ)(n:Int)  (hp0:0≤n∧n≤9999):eA Γ zF (.str (bQ n.toNat)) [.int .i64 n]:=by
 show bB _ _ _ [⟨_,_⟩,_,_] _;refine ak ?_;refine bg ?_;refine cN (fun hc0=>?_) fun hc0=>?_
 ·omega
 refine ay ?_;obtain⟨k,rfl⟩:∃k:Nat,n=k:=⟨n.toNat,by omega⟩
 refine ax ?_;refine rW (k:Int) (hb:=fun _=>by rw[IntKind.wrap_u64];omega) ?_;refine aj (hc:=h882 _ ?_) ?_;rotate_left;first|assumption|omega
 refine az ?_;exact cz rfl
def MO (Γ:Ctx):Prop:=∀(n:Int),(0≤n∧n≤9999)→Γ.pre 734 [.int .i64 n]∧Γ.val 734 [.int .i64 n]=.str (bQ n.toNat)
def Bj:aB:=⟨2,8,[⟨2,none⟩],[[.sl 1 [.a]]],(sq (r1 [gm (.c (.av))] 2 0) (sq (r1 [gm (.c (.av))] 6 0) (sq (r1 [gm bD] 7 0) (sq (sq (r1 [gm bD] 3 0) (.block 0 (.loop (sq (sq (r1 [gm s3,gm s0,xA l1,aU l0 l2] 4 3) (js s4 0)) (sq (.block 1 (sq (r1 [gm s0,gm s3,Hc l0 l1,gm s1,aE l2 l3] 5 4) (.cond s5 (sq (r1 [gm s6,gm s0,gm s7,gm s3,gn (.slS l1 (some l2) (some l3)),gn (.bsl 1 (.str []) 1 [(0,l4)]),gn (.app 1 l0 l5),gm l6] 6 7) (r1 [gm s3,ar l0 ca,gm l1] 7 2)) .skip))) (r1 [gm s3,ar l0 ca,gm l1] 3 2)))))) (sq (r1 [gm s6,gm s0,gm s7,gn (.slS l1 (some l2) none),gn (.bsl 1 (.str []) 1 [(0,l3)]),gn (.app 1 l0 l4),gm l5] 2 6) .ret)))))⟩
def w470 {Γ:Ctx}(hm:(Γ.at 0).br)  (s:ah)(b:Int)  (hp0:s.length≤1048576):eA Γ Bj (.sl 1 ((ai s b).map D.str)) [.str s,.int .u8 b]:=by
 show bB _ _ _ [⟨_,_⟩,⟨_,_⟩,_,_,_,_,_,_] _;refine ak ?_;refine gS ?_;refine bt hm (ι:=(Nat×Nat×List ah)) (fun p:Nat×Nat×List ah=>[⟨true,.str s⟩,⟨true,.int .u8 b⟩,.un,⟨true,.int .i64 (p.1:Nat)⟩,.un,.un,⟨true,.own 0 1 0 p.2.2.length⟩,⟨true,.int .i64 (p.2.1:Nat)⟩]) (fun p=>[(0,.buf 1 (p.2.2.map D.str))]) 4 (fun p=>p.1≤s.length∧p.2.1≤p.1∧p.2.2.length≤p.1∧ai s b=p.2.2++bd b (s.drop p.1) ((s.take p.1).drop p.2.1)) (fun p=>s.length-p.1) (0,0,[]) ⟨by simp,by simp,by simp,rfl⟩ (aN.to [] ae ae (by repeat(first|exact c8.nil|refine c8.un ?_|refine c8.eq ae ?_|refine c8.nl ae ae ?_|refine c8.ni (Or.inr ⟨0,1,0,rfl⟩) ?_)) (by repeat(first|exact aC.nil|refine aC.mt ae ae ae ae ?_))) ?_;rintro⟨i,fr,acc⟩ ⟨hi,hf,ha,hr⟩;dsimp only at hi hf ha hr⊢;refine aP ?_;intro u0;refine ay ?_;refine cN (fun hc0=>?_) fun hc0=>?_
 ·refine dD ?_;refine wp_cond (fun hc1=>?_) (fun hc1=>?_)
  ·try simp only[ik]at hc1
   refine aP ?_;refine zx _ _ ?_;refine cx [(.str _)] ?_;refine Ah ?_;exact⟨(i+1,i+1,acc++[(s.take i).drop fr]),⟨by dsimp only;omega,by dsimp only;omega,by simp;omega,by rw[hr,wI (by omega) hc1];simp⟩,by dsimp only;omega,(aN.to [(19,0)] ae ae lP (by refine aC.nl 19 ae ae ae bV ?_;exact aC.nil))⟩
  simp only[decide_eq_false_iff_not]at hc1;refine b6 ?_;exact⟨(i+1,fr,acc),⟨by dsimp only;omega,by dsimp only;omega,by dsimp only;omega,by rw[hr,wJ (by omega) (by omega) hc1]⟩,by dsimp only;omega,(aN.to [(0,0)] ae ae lP (by refine aC.nl 0 ae ae ae bV ?_;exact aC.nil))⟩
 refine aT ?_;refine nj _ ?_;refine cx [(.str _)] ?_;refine az ?_;refine eB 13 ?_;refine ax ?_;refine cd (?_);have hs:ai s b=acc++[s.drop fr]:=by rw[hr,uN (by omega)]
 rw[hs];exact rfl
def Mv (Γ:Ctx):Prop:=∀(s:ah)(b:Int),(s.length≤1048576)→Γ.pre 470 [.str s,.int .u8 b]∧Γ.val 470 [.str s,.int .u8 b]=.sl 1 ((ai s b).map D.str)
end Go.Abs
end
section
namespace Go.Abs
open Go
def Bk:aB:=⟨1,2,kM,cv,(sq (r1 [gm dH] 1 0) (sq (r1 [gm s0,iy l0 (i8 48),gm l1,gmt 2 s0,cJ 2 (mB l3 (i8 57)),hX l2 l4,gm l5] 1 6) .ret))⟩
def w454 {Γ:Ctx}(hm:(Γ.at 0).br)  (c:Int)   :eA Γ Bk (.bool (aG c)) [.int .u8 c]:=by
 show bB _ _ _ [⟨_,_⟩,_] _;refine ak ?_;refine gS ?_;exact bL rfl
def Mq (Γ:Ctx):Prop:=∀(c:Int),Γ.pre 454 [.int .u8 c]∧Γ.val 454 [.int .u8 c]=.bool (aG c)
def zG:aB:=⟨1,9,[⟨1,none⟩,⟨2,none⟩],je,(sq (rg [gm bD,gm dH] [(1,0),(2,1)]) (sq (sq (r1 [gm s0,xA l0,aU l1 ca,gm l2,eV 3 s0,cu 3 (.lenS l4),cu 3 (dw l5 BZ),fY l3 l6,gm l7,eV 8 s0,cu 8 (.lenS l9),cu 8 (dw l10 ca),eV 8 ki,gmt 12 s0,cJ 12 (.ixS n7 bD),cJ 12 (cR oR (i8 48)),BX 8 ma pV,fY l8 su] 3 17) (.cond s3 (sq (rg [gm bD,gm dH] [(1,0),(2,1)]) .ret) .skip)) (sq (r1 [gm bD] 7 0) (sq (sq (r1 [gm bD] 4 0) (.block 0 (.loop (sq (sq (r1 [gm s4,gm s0,xA l1,aU l0 l2] 5 3) (js s5 0)) (sq (.block 1 (sq (sq (r1 [gm s0,gm s4,Hc l0 l1,gx 454 [l2] cv,pr l3] 6 4) (.cond s6 (sq (rg [gm bD,gm dH] [(1,0),(2,1)]) .ret) .skip)) (r1 [gm s7,gn (.bin .mul l0 (i6 10)),gm s0,gm s4,Hc l2 l3,fO l4 (i8 48),gn (.cvi .i64 l5),ar l1 l6,gm l7] 7 8))) (r1 [gm s4,ar l0 ca,gm l1] 4 2)))))) (sq (sq (r1 [gm s7,dA l0 (i6 9999)] 8 1) (.cond s8 (sq (rg [gm bD,gm dH] [(1,0),(2,1)]) .ret) .skip)) (sq (rg [gm s7,gm l0,gm vk] [(1,1),(2,2)]) .ret))))))⟩
def w667 {Γ:Ctx}(hm:(Γ.at 0).br)(h454:Mq Γ)(s:ah)   :eA Γ zG (.tup [.int .i64 (cX s),.bool (dN s)]) [.str s]:=by
 show bB _ _ _ [⟨_,_⟩,_,_,_,_,_,_,_,_] _;refine ak ?_;refine bg ?_;intro u0;refine az ?_;refine nZ ?_;refine aA ?_;refine nZ ?_;refine az ?_;refine zv 0 ?_;refine aA ?_;refine cN (fun hc0=>?_) fun hc0=>?_
 ·refine aT ?_;refine cd (aR (congrArg (D.int .i64) ?_) (congrArg D.bool ?_));all_goals
   have:dN s=false:=by
    simp only[dN];rcases hc0 with(h|h)|h
    ·rw[decide_eq_false (by omega:¬1≤s.length)];rfl
    ·rw[decide_eq_false (by omega:¬s.length≤9)];simp
    ·rw[decide_eq_true (by omega:1<s.length),decide_eq_true h.2];simp
   simp[cX,this]
 refine b6 ?_;have hP:dN s=(cn (fun i=>aG (at8 s i)) 0 s.length&&decide (cl s≤9999)):=by
  simp only[dN];rw[decide_eq_true (by omega:1≤s.length),decide_eq_true (by omega:s.length≤9)];rcases hc0.2 with h|h
  ·rw[decide_eq_false (by omega:¬1<s.length)];rfl
  ·rw[decide_eq_false h,Bool.and_false];rfl
 refine bt hm (ι:=Nat) (fun i=>[⟨true,.str s⟩,.un,.un,.un,⟨true,.int .i64 (i:Nat)⟩,.un,.un,⟨true,.int .i64 (cl (s.take i):Nat)⟩,.un]) (fun i=>[]) 22 (fun i=>i≤s.length∧s.length≤9∧dN s=(cn (fun i=>aG (at8 s i)) i s.length&&decide (cl s≤9999))) (fun i=>s.length-i) 0 ⟨by omega,by omega,hP⟩ (eC []) ?_;rintro i ⟨hi,h9,hr⟩;refine aP ?_;intro u1;refine ay ?_;refine cN (fun hc1=>?_) fun hc1=>?_
 ·refine bg ?_;refine aj (hc:=h454 _) ?_;refine ay ?_;refine aq (fun hc2=>?_) (fun hc2=>?_)
  ·try simp only[ik]at hc2
   refine b6 ?_;refine cd (aR (congrArg (D.int .i64) ?_) (congrArg D.bool ?_));all_goals
    have:dN s=false:=by rw[hr,aM (by omega),hc2];rfl
    simp[cX,this]
  simp only[Bool.not_eq_false']at hc2;refine ay ?_;have h48:=hc2;simp only[aG,Bool.and_eq_true,decide_eq_true_eq]at h48;have hn:=p0 s i (by omega);have hn2:=rU s i (by omega);have h256:=EI s i;refine ax ?_;refine sZ ?_;refine az ?_;refine GB (at8 s i-48) (hb:=fun _=>IntWalk.u8_in _ (by omega)) ?_;refine rW (at8 s i-48) (hb:=fun _=>IntWalk.i64_in _ (by omega)) ?_;refine az ?_;rw[show(cl (s.take i):Int)*10+(at8 s i-48)=(cl (s.take (i+1)):Nat)by omega];refine bg ?_;exact⟨i+1,⟨by omega,h9,by rw[hr,aM (by omega),hc2];rfl⟩,by omega,(eC [])⟩
 refine aA ?_;have ht:s.take i=s:=List.take_of_length_le (by omega);rw[ht];refine az ?_;refine cN (fun hc3=>?_) fun hc3=>?_
 ·refine aT ?_;refine cd (aR (congrArg (D.int .i64) ?_) (congrArg D.bool ?_));all_goals
   have:dN s=false:=by rw[hr,decide_eq_false (by omega),Bool.and_false]
   simp[cX,this]
 refine bg ?_;refine cd (aR (congrArg (D.int .i64) ?_) (congrArg D.bool ?_));all_goals
  have:dN s=true:=by rw[hr,b7 (by omega),decide_eq_true (by omega)];rfl
  simp[cX,this]
def MG (Γ:Ctx):Prop:=∀(s:ah),Γ.pre 667 [.str s]∧Γ.val 667 [.str s]=.tup [.int .i64 (cX s),.bool (dN s)]
def x8:aB:=⟨1,5,kM,cv,(sq (r1 [gm dH] 1 0) (sq (sq (r1 [gm bD] 2 0) (.block 0 (.loop (sq (sq (r1 [gm s2,gm s0,xA l1,aU l0 l2] 3 3) (js s3 0)) (sq (.block 1 (sq (r1 [gm s0,gm s2,Hc l0 l1,aU l2 (i8 48),gm l3,eV 4 s0,eV 4 s2,cu 4 (.ixS l5 l6),cu 4 (dw l7 (i8 57)),fY l4 l8] 4 9) (og s4 dH))) (r1 [gm s2,ar l0 ca,gm l1] 2 2)))))) (sq (r1 [gm s0,xA l0,dA l1 bD,gm l2] 1 3) .ret)))⟩
def w668 {Γ:Ctx}(hm:(Γ.at 0).br)  (t:ah)   :eA Γ x8 (.bool (dp t)) [.str t]:=by
 show bB _ _ _ [⟨_,_⟩,_,_,_,_] _;refine ak ?_;refine aT ?_;refine bt hm (ι:=Nat) (fun i=>[⟨true,.str t⟩,.un,⟨true,.int .i64 (i:Nat)⟩,.un,.un]) (fun i=>[]) 2 (fun i=>i≤t.length∧cn (fun i=>aG (at8 t i)) 0 t.length=cn (fun i=>aG (at8 t i)) i t.length) (fun i=>t.length-i) 0 ⟨by omega,rfl⟩ (eC []) ?_;rintro i ⟨hi,hr⟩;refine aP ?_;intro u0;refine ay ?_;refine cN (fun hc0=>?_) fun hc0=>?_
 ·refine xe ?_;refine gC (fun hc1=>?_) fun hc1=>?_
  ·refine aT ?_;refine bL ?_;simp only[dp];rw[hr,aM (by omega)];rcases hc1 with h|h<;>simp[aG]<;>omega
  refine b6 ?_;exact⟨i+1,⟨by omega,by rw[hr,aM (by omega)];rw[show aG (at8 t i)=true by simp only[aG,Bool.and_eq_true,decide_eq_true_eq];omega];rfl⟩,by omega,(eC [])⟩
 refine aP ?_;intro u1;refine aA ?_;refine bL ?_;simp only[dp];rw[hr,b7 (by omega)];simp
def MH (Γ:Ctx):Prop:=∀(t:ah),Γ.pre 668 [.str t]∧Γ.val 668 [.str t]=.bool (dp t)
def GK:aB:=⟨1,7,kM,cv,(sq (r1 [gm dH] 1 0) (sq (sq (r1 [gm s0,xA l0,aU l1 ca,gm l2,eV 3 s0,cu 3 (.lenS l4),cu 3 (dw l5 H5),fY l3 l6] 2 7) (og s2 dH)) (sq (sq (r1 [gm bD] 3 0) (.block 0 (.loop (sq (sq (r1 [gm s3,gm s0,xA l1,aU l0 l2] 4 3) (js s4 0)) (sq (.block 1 (sq (r1 [gm s0,gm s3,Hc l0 l1,gm l2] 5 3) (sq (r1 [gm s5,aU l0 (i8 97),gm l1,eV 2 s5,cu 2 (dw l3 (i8 122)),fY l2 l4,gm l5,gmt 6 s5,cJ 6 (py l7 (i8 48)),gmt 6 l8,eV 9 s5,cu 9 (dw l10 (i8 57)),Jv 6 l9 ki,hX l6 ma,gm n7,gmt 14 s5,cJ 14 (fg pV (i8 45)),hX oR su] 6 17) (og s6 dH)))) (r1 [gm s3,ar l0 ca,gm l1] 3 2)))))) (AQ vk))))⟩
def w666 {Γ:Ctx}(hm:(Γ.at 0).br)  (t:ah)   :eA Γ GK (.bool (mr t)) [.str t]:=by
 show bB _ _ _ [⟨_,_⟩,_,_,_,_,_,_] _;refine ak ?_;refine aT ?_;intro u0;refine az ?_;refine nZ ?_;refine az ?_;refine cN (fun hc0=>?_) fun hc0=>?_
 ·refine aP ?_;refine bL ?_;symm;simp only[mr,Bool.and_eq_false_iff,decide_eq_false_iff_not];exact Or.inl (by omega)
 refine aP ?_;refine bt hm (ι:=Nat) (fun i=>[⟨true,.str t⟩,.un,.un,⟨true,.int .i64 (i:Nat)⟩,.un,.un,.un]) (fun i=>[]) 10 (fun i=>i≤t.length∧mr t=cn (fun i=>jF (at8 t i)) i t.length) (fun i=>t.length-i) 0 ⟨by omega,by simp only[mr];rw[decide_eq_true (by omega),decide_eq_true (by omega)];rfl⟩ (eC []) ?_;rintro i ⟨hi,hr⟩;refine aP ?_;intro u1;refine ay ?_;refine cN (fun hc1=>?_) fun hc1=>?_
 ·refine G9 ?_;refine gC (fun hc2=>?_) fun hc2=>?_
  ·refine aT ?_;refine bL ?_;rw[hr,aM (by omega)];have:jF (at8 t i)=false:=(by simp only[jF,eM,aG,Bool.or_eq_false_iff,Bool.and_eq_false_iff,decide_eq_false_iff_not];omega);rw[this];rfl
  refine b6 ?_;exact⟨i+1,⟨by omega,by rw[hr,aM (by omega)];have:jF (at8 t i)=true:=(by simp only[jF,eM,aG,Bool.or_eq_true,Bool.and_eq_true,decide_eq_true_eq];omega);rw[this];rfl⟩,by omega,(eC [])⟩
 refine aT ?_;refine bL ?_;rw[hr,b7 (by omega)]
def MF (Γ:Ctx):Prop:=∀(t:ah),Γ.pre 666 [.str t]∧Γ.val 666 [.str t]=.bool (mr t)
def D1:aB:=⟨2,11,[⟨2,none⟩],cv,(sq (r1 [gm dH] 2 0) (sq (sq (r1 [gm s0,aE l0 cse] 3 1) (.cond s3 (sq (r1 [gm vk] 2 0) .ret) .skip)) (sq (r1 [gm s0,gx 470 [l0,(i8 46)] je,gm l1] 4 2) (sq (sq (r1 [gm s4,gl l0,dA l1 vc] 5 2) (.cond s5 (sq (r1 [gm dH] 2 0) .ret) .skip)) (sq (sq (r1 [gm bD] 6 0) (.block 0 (.loop (sq (sq (r1 [gm s6,gm s4,gl l1,aU l0 l2] 7 3) (js s7 0)) (sq (.block 1 (sq (sq (r1 [gm s4,gm s6,ga 1 l0 l1,gd l2,gx 666 [l3] cv,pr l4] 8 5) (.cond s8 (sq (r1 [gm dH] 2 0) .ret) .skip)) (sq (r1 [gm s4,gm s6,ga 1 l0 l1,gd l2,gx 667 [l3] cv,gm l4,ge l5 0,ge l5 1,gm l6,gm l7] 9 9) (sq (r1 [gm s1,gm l0,gmt 1 s4,gmt 1 s6,cJ 1 (.ia 1 l2 l3),qj 1 l4,cJ 1 (.call 668 [l5] cv),hX l1 l6,gm l7,gmt 8 s9,cJ 8 (.un .not l9),hX l8 l10] 10 11) (.cond lx (sq (r1 [gm dH] 2 0) .ret) .skip))))) (r1 [gm s6,ar l0 ca,gm l1] 6 2)))))) (sq (r1 [gm vk] 2 0) .ret))))))⟩
def w456 {Γ:Ctx}(hm:(Γ.at 0).br)(h470:Mv Γ)(h666:MF Γ)(h667:MG Γ)(h668:MH Γ)(s:ah)(p:Bool)  (hp0:s.length≤1048576):eA Γ D1 (.bool (mb s p)) [.str s,.bool p]:=by
 show bB _ _ _ [⟨_,_⟩,⟨_,_⟩,_,_,_,_,_,_,_,_,_] _;refine ak ?_;refine bg ?_;refine cN (fun hc0=>?_) fun hc0=>?_
 ·refine aP ?_;refine bL ?_;simp[mb,hc0]
 refine az ?_;refine aj (hc:=h470 _ _ ?_) ?_;rotate_left;first|assumption|omega;have hlen:=cQ s 46
 refine aT ?_;intro u0;refine ay ?_;refine aq (fun hc1=>?_) (fun hc1=>?_)
 ·try simp only[ik]at hc1
  refine aP ?_;refine bL ?_;simp only[mb,ju];rw[decide_eq_false hc0,decide_eq_false (by omega)];rfl
 simp only[decide_eq_false_iff_not]at hc1;refine aP ?_;refine bt hm (ι:=Nat) (fun i=>[⟨true,.str s⟩,⟨true,.bool p⟩,.un,.un,⟨true,.sl 1 ((ai s 46).map D.str)⟩,.un,⟨true,.int .i64 (i:Nat)⟩,.un,.un,.un,.un]) (fun i=>[]) 10 (fun i=>i≤(ai s 46).length∧mb s p=cn (fun i=>ey p (ai s 46)[i]!) i (ai s 46).length) (fun i=>(ai s 46).length-i) 0 ⟨by omega,by simp only[mb,ju];rw[decide_eq_false hc0,decide_eq_true (by omega)];rfl⟩ (eC []) ?_;rintro i ⟨hi,hr⟩;refine aP ?_;intro u1;refine ay ?_;refine cN (fun hc2=>?_) fun hc2=>?_
 ·refine b6 ?_;refine aj (hc:=h666 _) ?_;refine ay ?_;refine aq (fun hc3=>?_) (fun hc3=>?_)
  ·simp only[Bool.not_eq_true']at hc3;refine bg ?_;refine bL ?_;rw[hr,aM (by omega)];simp only[ey,hc3];rfl
  simp only[Bool.not_eq_false']at hc3;refine aT ?_;refine aj (hc:=h667 _) ?_;refine me ?_;refine aj (hc:=h668 _) ?_;refine aT ?_;refine wp_cond (fun hc4=>?_) (fun hc4=>?_)
  ·skip
   refine aT ?_;refine bL ?_;have h5:ey p (ai s 46)[i]! =false:=(by simp only[ey,hc3];revert hc4;generalize dp (ai s 46)[i]! =a;generalize dN (ai s 46)[i]! =b;cases p<;>cases a<;>cases b<;>simp);rw[hr,aM (by omega),h5];rfl
  skip
  refine b6 ?_;exact⟨i+1,⟨by omega,by rw[hr,aM (by omega)];have h5:ey p (ai s 46)[i]! =true:=(by simp only[ey,hc3];revert hc4;generalize dp (ai s 46)[i]! =a;generalize dN (ai s 46)[i]! =b;cases p<;>cases a<;>cases b<;>simp);rw[h5];rfl⟩,by omega,(eC [])⟩
 refine aT ?_;refine bL ?_;rw[hr,b7 (by omega)]
def Ms (Γ:Ctx):Prop:=∀(s:ah)(p:Bool),(s.length≤1048576)→Γ.pre 456 [.str s,.bool p]∧Γ.val 456 [.str s,.bool p]=.bool (mb s p)
def GJ:aB:=⟨1,2,kM,cv,(sq (r1 [gm dH] 1 0) (sq (r1 [gm s0,iy l0 bD,gm l1,gmt 2 s0,cJ 2 (mB l3 (i6 9999)),hX l2 l4,gm l5] 1 6) .ret))⟩
def w455 {Γ:Ctx}(hm:(Γ.at 0).br)  (n:Int)   :eA Γ GJ (.bool (pN n)) [.int .i64 n]:=by
 show bB _ _ _ [⟨_,_⟩,_] _;refine ak ?_;refine gS ?_;exact bL rfl
def Mr (Γ:Ctx):Prop:=∀(n:Int),Γ.pre 455 [.int .i64 n]∧Γ.val 455 [.int .i64 n]=.bool (pN n)
def GH:aB:=⟨1,3,kM,cv,(sq (rg [gb 5 s0,gm dH] [(2,0),(1,1)]) (sq (r1 [gf 0 s2,gd l0,gx 455 [l1] cv,gm l2,sS 3 1 s2,qj 3 l4,cJ 3 (.call 455 [l5] cv),hX l3 l6,gm l7,sS 8 2 s2,qj 8 l9,cJ 8 (.call 455 [l10] cv),hX l8 ki,gm ma,sS 13 3 s2,qj 13 oR,cJ 13 (.call 456 [pV,vk] je),hX n7 su,gm xJ,sS 18 4 s2,qj 18 Ak,cJ 18 (.call 456 [B2,dH] je),hX yl Dr,gm Fw] 1 23) .ret))⟩
def w217 {Γ:Ctx}(hm:(Γ.at 0).br)(h455:Mr Γ)(h456:Ms Γ)(v:dt)  (hp0:v.sm):eA Γ GH (.bool (en v)) [dt.D v]:=by
 show bB _ _ _ [⟨_,_⟩,_,_] _;refine ak ?_;refine aT ?_;refine aj (hc:=h455 _) ?_;refine az ?_;refine aj (hc:=h455 _) ?_;refine aA ?_;refine aj (hc:=h455 _) ?_;refine aA ?_;refine ff (hc:=fun hf=>h456 v.pre true hp0.1) ?_;refine aA ?_;refine ff (hc:=fun hf=>h456 v.build false hp0.2) ?_;refine aA ?_;exact bL rfl
def L9 (Γ:Ctx):Prop:=∀(v:dt),(v.sm)→Γ.pre 217 [dt.D v]∧Γ.val 217 [dt.D v]=.bool (en v)
end Go.Abs
end
section
namespace Go.Abs
open Go
end Go.Abs
end
section
namespace Go.Abs
open Go
end Go.Abs
end
section
namespace Go.Abs
open Go
end Go.Abs
end
section
namespace Go.Abs
open Go
end Go.Abs
end
section
namespace Go.Abs
open Go
end Go.Abs
end
section
namespace Go.Abs
open Go
end Go.Abs
end
section
namespace Go.Abs
open Go
def vB:aB:=⟨1,18,[⟨1,some (5,true)⟩,⟨2,none⟩],[[.a,.a,.a,.a,.a],[.a]],(sq (rg [gb 5 (.c (.agg [.int .i64 0,.int .i64 0,.int .i64 0,.str [],.str []])),gm bD] [(1,0),(2,1)]) (sq (r1 [gb 5 (.c (.agg [.int .i64 0,.int .i64 0,.int .i64 0,.str [],.str []]))] 4 0) (sq (r1 [gm s0,gm l0] 3 1) (sq (r1 [gm s3,gx 675 [l0,(i8 43)] je,gm l1,ge l2 0,ge l2 1,gf 4 s4,gt 1 l5 l3,gm l4] 3 7) (sq (r1 [gm s3,gx 675 [l0,(i8 45)] je,gm l1,ge l2 0,ge l2 1,gf 3 s4,gt 1 l5 l3,gm l4] 3 7) (sq (r1 [gm s3,gx 533 [l0,(i8 46)] je,gm l1] 5 2) (sq (sq (r1 [gm s5,gl l0,cr l1 kL] 6 2) (.cond s6 (sq (r1 [gn (.build [.int .i64 0,.int .i64 0,.int .i64 0,.str [],.str []] []),gt 5 s1 l0,gm BY] 2 2) .ret) .skip)) (sq (r1 [gb 3 (.c (.agg [.int .i64 0,.int .i64 0,.int .i64 0]))] 16 0) (sq (sq (rg [gm s5,gl l0,gm bD] [(10,0),(8,1),(7,2)]) (.block 0 (.loop (sq (r1 [aU s7 s8] 9 0) (sq (js s9 0) (sq (.block 1 (sq (rg [gm s7,ga 1 lx s7,gd l1,gm l0,gm l2] [(14,3),(11,4)]) (sq (rg [gm oo,gx 658 [l0] cv,gm l1,ge l2 0,ge l2 1,gm l3,gm l4] [(15,5),(12,6)]) (sq (sq (r1 [gm my,pr l0] 13 1) (.cond sD (sq (r1 [gn (.build [.int .i64 0,.int .i64 0,.int .i64 0,.str [],.str []] []),gt 5 s1 l0,gm BY] 2 2) .ret) .skip)) (rg [gm ta,gm wD,gn (.iaP 3 1 Cq l0),gt 1 l2 l1] []))))) (r1 [ar s7 ca,gm l0] 7 1))))))) (sq (rt [gn (.iaP 3 1 Cq bD),gd l0,gn (.iaP 3 1 Cq ca),gn (.ldI 1 false l2),gn (.iaP 3 1 Cq kB),gn (.ldI 1 false l4),gf 0 s4,gt 1 l6 l1,gf 1 s4,gt 1 l8 l3,gf 2 s4,gt 1 l10 l5] []) (sq (sq (r1 [gk 5 true s4,gx 209 [l0] KI,pr l1,gm l2,cu 3 (.ld 5 true s4),cu 3 (.call 451 [l4] KI),eV 3 s0,cu 3 (fg l5 l6),fY l3 l7] 17 8) (.cond ym (sq (r1 [gn (.build [.int .i64 0,.int .i64 0,.int .i64 0,.str [],.str []] []),gt 5 s1 l0,gm BY] 2 2) .ret) .skip)) (sq (r1 [gk 5 true s4,gt 5 s1 l0,gm bD] 2 2) .ret))))))))))))⟩
def w466 {Γ:Ctx}(hm:(Γ.at 0).br)(h209:Et Γ)(h451:J0 Γ)(h533:Eu Γ)(h658:Hn Γ)(h675:MI Γ)(s:ah)  (hp0:s.length≤1048576):eA Γ vB (.tup [dt.D ((kJ s).getD jo),.int .i64 (uV s)]) [.str s]:=by
 show bB _ _ _ [⟨_,_⟩,_,_,_,_,_,_,_,_,_,_,_,_,_,_,_,_,_] _;have hb1:=kd s 43;have je:=kd (cI s 43).2 45;generalize hA:cI s 43=A at hb1 je;generalize hB:cI A.2 45=B at je;have hsl:=cQ B.2 46;generalize hL:ai B.2 46=L at hsl;have hq0:kJ s=if L.length=3∧dN L[0]! =true∧dN L[1]! =true∧dN L[2]! =true then(if en ⟨cX L[0]!,cX L[1]!,cX L[2]!,B.1,A.1⟩=true∧iZ ⟨cX L[0]!,cX L[1]!,cX L[2]!,B.1,A.1⟩=s then some ⟨cX L[0]!,cX L[1]!,cX L[2]!,B.1,A.1⟩else none)else none:=by subst hA;subst hB;subst hL;rfl
 refine ak ?_;refine gS ?_;refine aj (hc:=h675 s 43) ?_;rw[hA];refine aA ?_;refine aI (dt.D ⟨0,0,0,[],A.1⟩) (he:=by exact rfl) ?_;refine aA ?_;refine aj (hc:=h675 A.2 45) ?_;rw[hB];refine aA ?_;refine aI (dt.D ⟨0,0,0,B.1,A.1⟩) (he:=by exact rfl) ?_;refine aA ?_;refine aj (hc:=h533 B.2 46 (by omega)) ?_;rw[hL];refine aT ?_;intro u0;refine ay ?_;refine cN (fun hc0=>?_) fun hc0=>?_
 ·refine ay ?_;refine bx (dt.D jo) ?_;refine aA ?_;refine cd (aR ?_ (congrArg (D.int .i64) ?_));all_goals
   have hq:kJ s=none:=by rw[hq0,if_neg (fun h=>by have:=h.1;omega)]
   simp only[uV,hq];rfl
 refine b6 ?_;intro u1;refine ay ?_;refine bt hm (ι:=Nat) (fun i=>[⟨true,.str s⟩,⟨true,.ptr 0 5 0 0⟩,.un,.un,⟨true,.ptr 2 5 0 0⟩,.un,.un,⟨true,.int .i64 (i:Nat)⟩,⟨true,.int .i64 (L.length:Nat)⟩,.un,⟨true,.sl 1 (L.map D.str)⟩,.un,.un,.un,.un,.un,⟨true,.ptr 27 3 0 0⟩,.un]) (fun i=>[(0,.buf 5 [dt.D jo]),(2,.buf 5 [dt.D ⟨0,0,0,B.1,A.1⟩]),(27,.buf 3 [Ip L i])]) 31 (fun i=>i≤3∧∀j,j<i→dN L[j]! =true) (fun i=>3-i) 0 ⟨by omega,fun j hj=>by omega⟩ (eC [(0,0),(2,2),(27,27)]) ?_;rintro i ⟨hi,hr⟩;refine az ?_;refine cN (fun hc1=>?_) fun hc1=>?_
 ·refine gR ?_;refine aj (hc:=h658 L[i]!) ?_;refine gR ?_;refine aq (fun hc2=>?_) (fun hc2=>?_)
  ·simp only[Bool.not_eq_true']at hc2;refine ay ?_;refine bx (dt.D jo) ?_;refine aT ?_;refine cd (aR ?_ (congrArg (D.int .i64) ?_));all_goals
    have hq:kJ s=none:=by
     rw[hq0,if_neg];rintro⟨_,h1,h2,h3⟩;rcases(show i=0∨i=1∨i=2 by omega)with rfl|rfl|rfl
     ·rw[h1]at hc2;cases hc2
     ·rw[h2]at hc2;cases hc2
     ·rw[h3]at hc2;cases hc2
    simp only[uV,hq];rfl
  simp only[Bool.not_eq_false']at hc2;refine aA ?_;refine xX i ?_;refine aI (Ip L (i+1)) (he:=FG L i (by omega)) ?_;refine bg ?_;have hr2:∀j,j<i+1→dN L[j]! =true:=by
   intro j hj;rcases Nat.eq_or_lt_of_le (Nat.lt_succ_iff.1 hj)with rfl|h
   ·exact hc2
   ·exact hr j h
  exact⟨i+1,⟨by omega,hr2⟩,by omega,(eC [(0,0),(2,2),(27,27)])⟩
 refine ay ?_;refine eB 27 ?_;refine ax ?_;have h3:i=3:=by omega
 subst h3;refine Bh 0 ?_;refine ic (v:=.int .i64 (cX L[0]!)) ?_;refine Bh 1 ?_;refine Bi (v:=.int .i64 (cX L[1]!)) ?_;refine Bh 2 ?_;refine Bi (v:=.int .i64 (cX L[2]!)) ?_;refine ax ?_;refine aI (dt.D ⟨cX L[0]!,0,0,B.1,A.1⟩) (he:=by exact rfl) ?_;refine ax ?_;refine aI (dt.D ⟨cX L[0]!,cX L[1]!,0,B.1,A.1⟩) (he:=by exact rfl) ?_;refine ax ?_;refine aI (dt.D ⟨cX L[0]!,cX L[1]!,cX L[2]!,B.1,A.1⟩) (he:=by exact rfl) ?_;refine az ?_;have hsm:dt.sm ⟨cX L[0]!,cX L[1]!,cX L[2]!,B.1,A.1⟩:=⟨by simp only;omega,by simp only;omega⟩;generalize hV:(⟨cX L[0]!,cX L[1]!,cX L[2]!,B.1,A.1⟩:dt)=V at hsm hq0⊢;refine ax ?_;refine aj (hc:=h209 V hsm) ?_;refine az ?_;refine ff (hc:=fun _=>h451 V hsm) ?_;refine aA ?_;refine aq (fun hc3=>?_) (fun hc3=>?_)
 ·simp only[Bool.or_eq_true,Bool.not_eq_true',decide_eq_false_iff_not]at hc3;refine ay ?_;refine bx (dt.D jo) ?_;refine aA ?_;refine cd (aR ?_ (congrArg (D.int .i64) ?_));all_goals
   have hq:kJ s=none:=by
    rw[hq0];split
    ·rw[if_neg];rintro⟨h1,h2⟩;rcases hc3 with h|h
     ·rw[h1]at h;cases h
     ·exact h h2
    ·rfl
   simp only[uV,hq];rfl
 simp only[Bool.or_eq_false_iff,Bool.not_eq_false',decide_eq_true_eq]at hc3;refine bg ?_;refine cd (aR ?_ (congrArg (D.int .i64) ?_));all_goals
  have hq:kJ s=some V:=by
   rw[hq0,if_pos ⟨by omega,hr 0 (by omega),hr 1 (by omega),hr 2 (by omega)⟩,if_pos hc3]
  simp only[uV,hq];rfl
def Mt (Γ:Ctx):Prop:=∀(s:ah),(s.length≤1048576)→Γ.pre 466 [.str s]∧Γ.val 466 [.str s]=.tup [dt.D ((kJ s).getD jo),.int .i64 (uV s)]
end Go.Abs
end
section
namespace Go.Abs
open Go
end Go.Abs
end
section
namespace Go.Abs
open Go
end Go.Abs
end
section
namespace Go.Abs
open Go
end Go.Abs
end
section
namespace Go.Abs
open Go
end Go.Abs
end
section
namespace Go.Abs
open Go
end Go.Abs
end
section
namespace Go.Abs
open Go
end Go.Abs
end
section
namespace Go.Abs
open Go
end Go.Abs
end
section
namespace Go.Abs
open Go
end Go.Abs
end
section
namespace Go.Abs
open Go
end Go.Abs
end
namespace Go.Abs
end Go.Abs
section
namespace Go.Abs
open Go
end Go.Abs
end
section
namespace Go.Abs
open Go
end Go.Abs
end
section
namespace Go.Abs
open Go
def xw:aB:=⟨2,10,[⟨2,none⟩],cv,(sq (r1 [gm bD] 2 0) (sq (sq (rg [gm s0,gl l0,gm bD] [(6,0),(4,1),(3,2)]) (.block 0 (.loop (sq (r1 [aU s3 s4] 5 0) (sq (js s5 0) (sq (.block 1 (sq (rg [gm s3,ga 2 s6 s3,gk 2 true l1,gb 2 (.c (.agg [.str [],.av])),gm l0,gt 2 l3 l2] [(7,3),(9,4)]) (sq (r1 [gf 0 s7,gd l0,gm s1,aE l1 l2] 8 3) (.cond s8 (sq (r1 [gm s9,gm l0] 2 1) .ret) .skip)))) (r1 [ar s3 ca,gm l0] 3 1))))))) (sq (r1 [gn (.mv (.c (.int .i64 (-1))))] 2 0) .ret)))⟩
def w663 {Γ:Ctx}(hm:(Γ.at 0).br)  (l:List bn)(nm:ah)   :eA Γ xw (.int .i64 (findF l nm 0)) [.sl 2 (l.map bn.D),.str nm]:=by
 show bB _ _ _ [⟨_,_⟩,⟨_,_⟩,_,_,_,_,_,_,_,_] _;refine ak ?_;refine aT ?_;intro u0;refine ay ?_;refine bt hm (ι:=Nat) (fun i=>[⟨true,.sl 2 (l.map bn.D)⟩,⟨true,.str nm⟩,.un,⟨true,.int .i64 (i:Nat)⟩,⟨true,.int .i64 (l.length:Nat)⟩,.un,⟨true,.sl 2 (l.map bn.D)⟩,.un,.un,.un]) (fun i=>[]) 4 (fun i=>i≤l.length∧findF l nm 0=findF l nm i) (fun i=>l.length-i) 0 ⟨by omega,rfl⟩ (eC []) ?_;rintro i ⟨hi,hr⟩;refine az ?_;refine cN (fun hc0=>?_) fun hc0=>?_
 ·refine aP ?_;first|refine cj (v:=(bn.D _)) ?_|refine ic (v:=(bn.D _)) ?_
  refine ay ?_;refine aI (bn.D l[i]!) (he:=by exact rfl) ?_;refine bg ?_;refine gC (fun hc1=>?_) fun hc1=>?_
  ·refine bg ?_;refine iH ?_;rw[hr,E4 (by omega) hc1]
  refine bg ?_;exact⟨i+1,⟨by omega,by rw[hr,E5 (by omega) hc1]⟩,by omega,(eC [])⟩
 refine aT ?_;refine iH ?_;rw[hr,C6 (by omega)]
def ME (Γ:Ctx):Prop:=∀(l:List bn)(nm:ah),Γ.pre 663 [.sl 2 (l.map bn.D),.str nm]∧Γ.val 663 [.sl 2 (l.map bn.D),.str nm]=.int .i64 (findF l nm 0)
def vn:aB:=⟨2,3,[⟨2,none⟩],cv,(sq (r1 [gm dH] 2 0) (sq (r1 [gm s1,aE l0 (cs [100,101,102,97,117,108,116]),gm l1,eV 2 s0,eV 2 s1,cu 2 (.call 663 [l3,l4] [[.sl 2 [.a,.sl 1 [.a]]],[.a]]),cu 2 (yC l5 bD),fY l2 l6,gm l7] 2 8) .ret))⟩
def w449 {Γ:Ctx}(hm:(Γ.at 0).br)(h663:ME Γ)(l:List bn)(nm:ah)   :eA Γ vn (.bool (LU l nm)) [.sl 2 (l.map bn.D),.str nm]:=by
 show bB _ _ _ [⟨_,_⟩,⟨_,_⟩,_] _;refine ak ?_;refine b6 ?_;refine aj (hc:=h663 _ _) ?_;refine aP ?_;exact bL rfl
def Mp (Γ:Ctx):Prop:=∀(l:List bn)(nm:ah),Γ.pre 449 [.sl 2 (l.map bn.D),.str nm]∧Γ.val 449 [.sl 2 (l.map bn.D),.str nm]=.bool (LU l nm)
end Go.Abs
end
section
namespace Go.Abs
open Go
def xx:aB:=⟨1,12,[⟨1,none⟩,⟨2,none⟩,⟨3,none⟩],NG,(sq (rg [gm bD,gm cse,gm cse] [(1,0),(2,1),(3,2)]) (sq (sq (r1 [gm s0,gx 349 [l0] cv] 4 1) (.cond s4 (sq (rg [gm s0,gm ca,gm l0,gm cse] [(1,1),(2,2),(3,3)]) .ret) .skip)) (sq (sq (rg [gm s0,gx 254 [l0,(cs [63])] je,gm l1,ge l2 0,ge l2 1,gm l3,gm l4] [(6,5),(5,6)]) (sq (r1 [gm s5,gm l0,gmt 1 s6,cJ 1 (.call 349 [l2] cv),hX l1 l3] 7 4) (.cond s7 (sq (rg [gm s6,gm kB,gm l0,gm cse] [(1,1),(2,2),(3,3)]) .ret) .skip))) (sq (sq (rg [gm s0,gx 487 [l0,(cs [47])] je,gm l1,ge l2 0,ge l2 1,ge l2 2,gm l3,gm l4,gm l5] [(9,6),(10,7),(8,8)]) (sq (r1 [gm s8,gm l0,gmt 1 s9,cJ 1 (.call 208 [l2] cv),hX l1 l3,gm l4,gmt 5 lx,cJ 5 (.call 349 [l6] cv),hX l5 l7] 11 8) (.cond oo (sq (rg [gm s9,gm lx,gm kL,gm l0,gm l1] [(1,2),(2,3),(3,4)]) .ret) .skip))) (sq (rg [gm bD,gm cse,gm cse] [(1,0),(2,1),(3,2)]) .ret)))))⟩
def w448 {Γ:Ctx}(hm:(Γ.at 0).br)(h208:Hi Γ)(h254:Mg Γ)(h349:An Γ)(h487:Mz Γ)(s:ah)  (hp0:s.length≤1048576):eA Γ xx (.tup [.int .i64 (b9 s).1,.str (b9 s).2.1,.str (b9 s).2.2]) [.str s]:=by
 show bB _ _ _ [⟨_,_⟩,_,_,_,_,_,_,_,_,_,_,_] _;refine ak ?_;refine bg ?_;refine aj (hc:=h349 _) ?_;refine ax ?_;refine cN (fun hc0=>?_) fun hc0=>?_
 ·refine b6 ?_;refine cd (kp (congrArg (D.int .i64) ?_) (congrArg D.str ?_) (congrArg D.str ?_));all_goals rw[Ia hc0]
 refine aA ?_;refine aj (hc:=h254 s [63] hp0 (by decide)) ?_;refine gR ?_;refine aj (hc:=h349 _) ?_;refine ay ?_;refine cN (fun hc1=>?_) fun hc1=>?_
 ·refine b6 ?_;refine cd (kp (congrArg (D.int .i64) ?_) (congrArg D.str ?_) (congrArg D.str ?_));all_goals rw[Ig hc0 hc1]
 refine aA ?_;refine aj (hc:=h487 s 47 hp0) ?_;refine me ?_;refine aj (hc:=h208 _) ?_;refine az ?_;refine aj (hc:=h349 _) ?_;refine ay ?_;refine cN (fun hc2=>?_) fun hc2=>?_
 ·refine dD ?_;refine cd (kp (congrArg (D.int .i64) ?_) (congrArg D.str ?_) (congrArg D.str ?_));all_goals rw[Ih hc0 hc1 hc2]
 refine bg ?_;refine cd (kp (congrArg (D.int .i64) ?_) (congrArg D.str ?_) (congrArg D.str ?_));all_goals rw[Ie hc0 hc1 hc2]
def JY (Γ:Ctx):Prop:=∀(s:ah),(s.length≤1048576)→Γ.pre 448 [.str s]∧Γ.val 448 [.str s]=.tup [.int .i64 (b9 s).1,.str (b9 s).2.1,.str (b9 s).2.2]
end Go.Abs
end
section
namespace Go.Abs
open Go
def yP:aB:=⟨1,18,kM,cv,(sq (r1 [gm dH] 1 0) (sq (sq (r1 [gm s0,gl l0,dA l1 H5] 2 2) (og s2 dH)) (sq (sq (rg [gm s0,gl l0,gm bD] [(6,0),(4,1),(3,2)]) (.block 0 (.loop (sq (r1 [aU s3 s4] 5 0) (sq (js s5 0) (sq (.block 1 (sq (rg [gm s3,ga 2 s6 s3,gk 2 true l1,gb 2 (.c (.agg [.str [],.av])),gm l0,gt 2 l3 l2] [(7,3),(8,4)]) (sq (sq (r2 [gf 0 s7,gd l0,gx 349 [l1] cv,pr l2,gm l3,eV 4 s8,cu 4 (dw l5 bD),eV 4 l6,gmt 7 s0,gmt 7 s8,cJ 7 (lU l9 ca),cJ 7 (.ia 2 l8 l10),sS 7 0 ki,qj 7 ma,sS 7 0 s7,qj 7 oR,cJ 7 (yC n7 pV),BX 4 l7 su,fY l4 xJ,gm yl,kW 19 1 s7,mh 19 B2,cu 19 (.len Dr),cu 19 (dw Fw AS),fY Ak JC,gm JD,kW 25 1 s7,mh 25 LV,cu 25 (.call 447 [NM] [[.sl 1 [.a]]]),cu 25 (.un .not NN),fY KQ NO] 9 30) (og s9 dH)) (sq (rg [gf 1 s7,gd l0,gl l1,gm bD] [(13,1),(11,2),(10,3)]) (.block 2 (.loop (sq (r1 [aU lx oo] 12 0) (sq (js my 2) (sq (.block 3 (sq (r1 [ga 1 sD lx,gd l0,gm l1] 14 2) (sq (rg [gm ta,gx 448 [l0] cv,gm l1,ge l2 0,ge l2 1,ge l2 2,gm l3,gm l4,gm l5] [(15,6),(16,7)]) (sq (r1 [gm wD,aE l0 bD,gm l1,eV 2 wD,cu 2 (cR l3 ca),eV 2 l4,gmt 5 s0,gmt 5 Cq,cJ 5 (.call 449 [l6,l7] [[.sl 2 [.a,.sl 1 [.a]]],[.a]]),cJ 5 (.un .not l8),BX 2 l5 l9,fY l2 l10] 17 11) (og ym dH))))) (r1 [ar lx ca,gm l0] 10 1)))))))))) (r1 [ar s3 ca,gm l0] 3 1))))))) (AQ vk))))⟩
def w213 {Γ:Ctx}(hm:(Γ.at 0).br)(h349:An Γ)(h447:Mo Γ)(h448:JY Γ)(h449:Mp Γ)(l:List bn)  (hp0:sP l):eA Γ yP (.bool (fM l)) [.sl 2 (l.map bn.D)]:=by
 show bB _ _ _ [⟨_,_⟩,_,_,_,_,_,_,_,_,_,_,_,_,_,_,_,_,_] _;refine ak ?_;refine aT ?_;intro u0;refine ay ?_;refine cN (fun hc0=>?_) fun hc0=>?_
 ·refine aP ?_;refine bL ?_;symm;simp only[fM];rw[decide_eq_false (by omega)];rfl
 refine aP ?_;intro u1;refine ay ?_;have hb:fM l=cn (ku l) 0 l.length:=by simp only[fM];rw[decide_eq_true (by omega)];rfl
 refine bt hm (ι:=Nat) (fun i=>[⟨true,.sl 2 (l.map bn.D)⟩,.un,.un,⟨true,.int .i64 (i:Nat)⟩,⟨true,.int .i64 (l.length:Nat)⟩,.un,⟨true,.sl 2 (l.map bn.D)⟩,.un,.un,.un,.un,.un,.un,.un,.un,.un,.un,.un]) (fun i=>[]) 7 (fun i=>i≤l.length∧fM l=cn (ku l) i l.length) (fun i=>l.length-i) 0 ⟨by omega,hb⟩ (eC []) ?_;rintro i ⟨hi,hr⟩;refine az ?_;refine cN (fun hc1=>?_) fun hc1=>?_
 ·refine aP ?_;first|refine cj (v:=(bn.D _)) ?_|refine ic (v:=(bn.D _)) ?_
  refine ay ?_;refine aI (bn.D l[i]!) (he:=by exact rfl) ?_;refine aP ?_;refine aj (hc:=h349 _) ?_;refine b6 ?_;refine cH (i-1) ?_;refine jx ?_;refine nZ ?_;refine aP ?_;refine aj (hc:=h447 _) ?_;refine az ?_;refine aq (fun hc2=>?_) (fun hc2=>?_)
  ·have hfo:=C0 hc2;refine bg ?_;refine bL ?_;rw[hr,aM (by omega),hfo];rfl
  have hfo:=C1 hc2;refine aP ?_;intro u2;refine ay ?_;refine qg hm (ι:=Nat) (fun j=>[⟨true,.sl 2 (l.map bn.D)⟩,.un,.un,⟨true,.int .i64 (i:Nat)⟩,⟨true,.int .i64 (l.length:Nat)⟩,.un,⟨true,.sl 2 (l.map bn.D)⟩,.un,.un,.un,⟨true,.int .i64 (j:Nat)⟩,⟨true,.int .i64 (l[i]!.of.length:Nat)⟩,.un,⟨true,.sl 1 (l[i]!.of.map D.str)⟩,.un,.un,.un,.un]) (fun j=>[]) 49 (fun j=>j≤l[i]!.of.length∧ku l i=cn (fun j=>jf l l[i]!.of[j]!) j l[i]!.of.length) (fun j=>l[i]!.of.length-j) 0 ⟨by omega,hfo⟩ (eC []) ?_;rintro j ⟨hj,hjr⟩;refine az ?_;refine cN (fun hc3=>?_) fun hc3=>?_
  ·refine dD ?_;refine aj (hc:=h448 l[i]!.of[j]! ((hp0 _ (bJ (by omega))).2.2 _ (bJ (by omega)))) ?_;refine G8 ?_;refine aj (hc:=h449 _ _) ?_;refine aA ?_;refine wp_cond (fun hc4=>?_) (fun hc4=>?_)
   ·have hz:jf l l[i]!.of[j]! =false:=by simp only[jf,hc4];rfl
    refine b6 ?_;refine bL ?_;rw[hr,aM (by omega),hjr,aM (by omega),hz];rfl
   have hz:jf l l[i]!.of[j]! =true:=by simp only[jf,hc4];rfl
   refine bg ?_;exact⟨j+1,⟨by omega,by rw[hjr,aM (by omega),hz];rfl⟩,by omega,(eC [])⟩
  refine b6 ?_;exact⟨i+1,⟨by omega,by rw[hr,aM (by omega),hjr,b7 (by omega)];rfl⟩,by omega,(eC [])⟩
 refine aT ?_;refine bL ?_;rw[hr,b7 (by omega)]
def L7 (Γ:Ctx):Prop:=∀(l:List bn),(sP l)→Γ.pre 213 [.sl 2 (l.map bn.D)]∧Γ.val 213 [.sl 2 (l.map bn.D)]=.bool (fM l)
end Go.Abs
end
section
namespace Go.Abs
open Go
def D2:aB:=⟨1,11,kM,cv,(sq (r1 [gm cse] 1 0) (sq (sq (r1 [gm s0] 2 0) (.block 0 (sq (r1 [aE s2 ca,gm l0] 3 1) (.cond s3 (sq (r1 [gm (cs [61])] 1 0) .ret) (sq (r1 [aE s2 kB,gm l0] 4 1) (.cond s4 (sq (r1 [gm (cs [33,61])] 1 0) .ret) (sq (r1 [aE s2 kL,gm l0] 5 1) (.cond s5 (sq (r1 [gm (cs [60])] 1 0) .ret) (sq (r1 [aE s2 vc,gm l0] 6 1) (.cond s6 (sq (r1 [gm (cs [60,61])] 1 0) .ret) (sq (r1 [aE s2 BY,gm l0] 7 1) (.cond s7 (sq (r1 [gm (cs [62])] 1 0) .ret) (sq (r1 [aE s2 AS,gm l0] 8 1) (.cond s8 (sq (r1 [gm (cs [62,61])] 1 0) .ret) (sq (r1 [aE s2 KM,gm l0] 9 1) (.cond s9 (sq (r1 [gm (cs [94])] 1 0) .ret) (sq (r1 [aE s2 H5,gm l0] 10 1) (.cond lx (sq (r1 [gm (cs [126])] 1 0) .ret) .skip)))))))))))))))))) (AQ cse)))⟩
def w678 {Γ:Ctx}(hm:(Γ.at 0).br)  (op:Int)   :eA Γ D2 (.str (bP op)) [.int .i64 op]:=by
 show bB _ _ _ [⟨_,_⟩,_,_,_,_,_,_,_,_,_,_] _;refine ak ?_;refine gR ?_;refine gC (fun hc0=>?_) fun hc0=>?_
 ·refine aP ?_;refine cz ?_;unfold bP;simp_all
 refine aA ?_;refine gC (fun hc1=>?_) fun hc1=>?_
 ·refine aP ?_;refine cz ?_;unfold bP;simp_all
 refine aA ?_;refine gC (fun hc2=>?_) fun hc2=>?_
 ·refine aP ?_;refine cz ?_;unfold bP;simp_all
 refine aA ?_;refine gC (fun hc3=>?_) fun hc3=>?_
 ·refine aP ?_;refine cz ?_;unfold bP;simp_all
 refine aA ?_;refine gC (fun hc4=>?_) fun hc4=>?_
 ·refine aP ?_;refine cz ?_;unfold bP;simp_all
 refine aA ?_;refine gC (fun hc5=>?_) fun hc5=>?_
 ·refine aP ?_;refine cz ?_;unfold bP;simp_all
 refine aA ?_;refine gC (fun hc6=>?_) fun hc6=>?_
 ·refine aP ?_;refine cz ?_;unfold bP;simp_all
 refine aA ?_;refine gC (fun hc7=>?_) fun hc7=>?_
 ·refine aP ?_;refine cz ?_;unfold bP;simp_all
 refine aT ?_;refine cz ?_;unfold bP;simp_all
def MK (Γ:Ctx):Prop:=∀(op:Int),Γ.pre 678 [.int .i64 op]∧Γ.val 678 [.int .i64 op]=.str (bP op)
def CU:aB:=⟨1,11,kM,cv,(sq (r1 [gm cse] 1 0) (sq (sq (r1 [gm s0] 2 0) (.block 0 (sq (r1 [aE s2 ca,gm l0] 3 1) (.cond s3 (sq (r1 [gm (cs [61])] 1 0) .ret) (sq (r1 [aE s2 kB,gm l0] 4 1) (.cond s4 (sq (r1 [gm (cs [33,61])] 1 0) .ret) (sq (r1 [aE s2 kL,gm l0] 5 1) (.cond s5 (sq (r1 [gm (cs [60])] 1 0) .ret) (sq (r1 [aE s2 vc,gm l0] 6 1) (.cond s6 (sq (r1 [gm (cs [60,61])] 1 0) .ret) (sq (r1 [aE s2 BY,gm l0] 7 1) (.cond s7 (sq (r1 [gm (cs [62])] 1 0) .ret) (sq (r1 [aE s2 AS,gm l0] 8 1) (.cond s8 (sq (r1 [gm (cs [62,61])] 1 0) .ret) (sq (r1 [aE s2 KM,gm l0] 9 1) (.cond s9 (sq (r1 [gm (cs [94])] 1 0) .ret) (sq (r1 [aE s2 H5,gm l0] 10 1) (.cond lx (sq (r1 [gm (cs [126])] 1 0) .ret) .skip)))))))))))))))))) (AQ cse)))⟩
def w957 {Γ:Ctx}(hm:(Γ.at 0).br)  (op:Int)   :eA Γ CU (.str (bP op)) [.int .i64 op]:=by
 show bB _ _ _ [⟨_,_⟩,_,_,_,_,_,_,_,_,_,_] _;refine ak ?_;refine gR ?_;refine gC (fun hc0=>?_) fun hc0=>?_
 ·refine aP ?_;refine cz ?_;unfold bP;simp_all
 refine aA ?_;refine gC (fun hc1=>?_) fun hc1=>?_
 ·refine aP ?_;refine cz ?_;unfold bP;simp_all
 refine aA ?_;refine gC (fun hc2=>?_) fun hc2=>?_
 ·refine aP ?_;refine cz ?_;unfold bP;simp_all
 refine aA ?_;refine gC (fun hc3=>?_) fun hc3=>?_
 ·refine aP ?_;refine cz ?_;unfold bP;simp_all
 refine aA ?_;refine gC (fun hc4=>?_) fun hc4=>?_
 ·refine aP ?_;refine cz ?_;unfold bP;simp_all
 refine aA ?_;refine gC (fun hc5=>?_) fun hc5=>?_
 ·refine aP ?_;refine cz ?_;unfold bP;simp_all
 refine aA ?_;refine gC (fun hc6=>?_) fun hc6=>?_
 ·refine aP ?_;refine cz ?_;unfold bP;simp_all
 refine aA ?_;refine gC (fun hc7=>?_) fun hc7=>?_
 ·refine aP ?_;refine cz ?_;unfold bP;simp_all
 refine aT ?_;refine cz ?_;unfold bP;simp_all
def Ke (Γ:Ctx):Prop:=∀(op:Int),Γ.pre 957 [.int .i64 op]∧Γ.val 957 [.int .i64 op]=.str (bP op)
def yJ:aB:=⟨2,3,[⟨2,none⟩],cv,(sq (r1 [gm dH] 2 0) (sq (r1 [gm s0,xA l0,gm s1,xA l2,iy l1 l3,gm l4,gmt 5 s0,gmt 5 s1,cJ 5 (.lenS l7),cJ 5 (.slS l6 none (some l8)),gmt 5 s1,cJ 5 (cR l9 l10),hX l5 ki,gm ma] 2 13) .ret))⟩
def w956 {Γ:Ctx}(hm:(Γ.at 0).br)  (s:ah)(w:ah)   :eA Γ yJ (.bool (qx s w)) [.str s,.str w]:=by
 show bB _ _ _ [⟨_,_⟩,⟨_,_⟩,_] _;refine ak ?_;refine aP ?_;intro u0;refine ay ?_;intro u1;refine aA ?_;refine nZ ?_;refine p8 w.length (hj:=fun _=>rfl) (hb:=fun h=>by simp at h;omega) ?_;refine aT ?_;refine bL ?_;unfold qx;rw[show decide ((w.length:Int)≤(s.length:Int))=decide (w.length≤s.length)from decide_eq_decide.2 (by omega)]
def MU (Γ:Ctx):Prop:=∀(s:ah)(w:ah),Γ.pre 956 [.str s,.str w]∧Γ.val 956 [.str s,.str w]=.bool (qx s w)
end Go.Abs
end
section
namespace Go.Abs
open Go
def GL:aB:=⟨1,8,kM,cv,(sq (rg [gb 7 s0,gm dH] [(2,0),(1,1)]) (sq (sq (r1 [gf 0 s2,gd l0,aU l1 ca,gm l2,kW 3 0 s2,mh 3 l4,cu 3 (dw l5 BZ),fY l3 l6,gm l7,kW 8 2 s2,cu 8 (.ld 5 true l9),cu 8 (.call 217 [l10] KI),cu 8 (.un .not ki),fY l8 ma,gm n7,kW 14 2 s2,kW 14 4 pV,mh 14 su,cu 14 (fg xJ cse),fY oR yl] 3 19) (og s3 dH)) (sq (rg [gm ca,gm kL] [(5,0),(6,1)]) (sq (sq (r1 [gf 0 s2,gd l0,aE l1 BZ] 4 2) (.cond s4 (rg [gm bD,gm kB] [(5,0),(6,1)]) .skip)) (sq (sq (r1 [gf 1 s2,gd l0,gm s5,aU l1 l2,gm l3,kW 4 1 s2,mh 4 l5,eV 4 s6,cu 4 (dw l6 l7),fY l4 l8,gm l9,kW 10 1 s2,mh 10 ki,cu 10 (py ma kL),eV 10 n7,sS 14 2 s2,sS 14 3 pV,qj 14 su,cJ 14 (fg xJ cse),BX 10 oR yl,fY l10 Ak] 7 20) (og s7 dH)) (sq (r1 [gf 1 s2,gd l0,dA l1 bD,gm l2,kW 3 2 s2,kW 3 0 l4,mh 3 l5,cu 3 (cR l6 bD),fY l3 l7,gm l8,sS 9 1 s2,qj 9 l10,cJ 9 (dw ki ca),gmt 9 ma,kW 13 2 s2,kW 13 1 oR,mh 13 pV,cu 13 (cR su bD),Jv 9 n7 xJ,hX l9 yl,gm Ak,sS 20 1 s2,qj 20 Dr,cJ 20 (dw Fw kB),gmt 20 JC,kW 24 2 s2,kW 24 2 KQ,mh 24 LV,cu 24 (cR NM bD),Jv 20 JD NN,hX B2 NO,gm l30] 1 31) .ret))))))⟩
def w676 {Γ:Ctx}(hm:(Γ.at 0).br)(h217:L9 Γ)(c:bX)  (hp0:c.v.sm):eA Γ GL (.bool (jc c)) [bX.D c]:=by
 show bB _ _ _ [⟨_,_⟩,_,_,_,_,_,_,_] _;refine ak ?_;refine Ah ?_;refine cy (v:=dt.D c.v) ?_;refine ff (hc:=fun hf=>h217 c.v hp0) ?_;refine dD ?_;refine aq (fun hc0=>?_) (fun hc0=>?_)
 ·have hq:=yH hc0;refine aP ?_;refine bL ?_;rw[hq]
 have hy:=vP hc0;refine gR ?_;refine aq (fun hc1=>?_) (fun hc1=>?_)
 ·simp only[decide_eq_true_eq]at hc1;have hz:=nD hy (lo:=0) (hi:=2) (if_pos hc1) (if_pos hc1);refine G9 ?_;refine aq (fun hc2=>?_) (fun hc2=>?_)
  ·rw[hc2]at hz;refine aP ?_;refine bL ?_;rw[hz];rfl
  rw[hc2]at hz;refine JQ ?_;refine bL ?_;rw[hz];rfl
 simp only[decide_eq_false_iff_not]at hc1;have hz:=nD hy (lo:=1) (hi:=3) (if_neg hc1) (if_neg hc1);refine JP ?_;refine aq (fun hc2=>?_) (fun hc2=>?_)
 ·rw[hc2]at hz;refine aP ?_;refine bL ?_;rw[hz];rfl
 rw[hc2]at hz;refine JQ ?_;refine bL ?_;rw[hz];rfl
def MJ (Γ:Ctx):Prop:=∀(c:bX),(c.v.sm)→Γ.pre 676 [bX.D c]∧Γ.val 676 [bX.D c]=.bool (jc c)
def EV:aB:=⟨1,14,kM,cv,(sq (rg [gb 7 s0,gm dH] [(2,0),(1,1)]) (sq (sq (r1 [gf 0 s2,gd l0,aU l1 ca,gm l2,kW 3 0 s2,mh 3 l4,cu 3 (dw l5 BZ),fY l3 l6,gm l7,kW 8 2 s2,cu 8 (.ld 5 true l9),cu 8 (.call 209 [l10] KI),cu 8 (.un .not ki),fY l8 ma,gm n7,kW 14 2 s2,kW 14 4 pV,mh 14 su,cu 14 (fg xJ cse),fY oR yl] 3 19) (og s3 dH)) (sq (rg [gm ca,gm kL] [(5,0),(6,1)]) (sq (sq (r1 [gf 0 s2,gd l0,aE l1 BZ] 4 2) (.cond s4 (rg [gm bD,gm kB] [(5,0),(6,1)]) .skip)) (sq (sq (r1 [gf 1 s2,gd l0,gm s5,aU l1 l2,gm l3,kW 4 1 s2,mh 4 l5,eV 4 s6,cu 4 (dw l6 l7),fY l4 l8,gm l9,kW 10 2 s2,kW 10 3 ki,mh 10 ma,cu 10 (fg n7 cse),eV 10 oR,sS 15 1 s2,qj 15 su,cJ 15 (py xJ kL),BX 10 pV yl,fY l10 Ak] 7 20) (og s7 dH)) (sq (sq (r1 [gf 1 s2,gd l0] 8 1) (.block 0 (sq (.block 3 (sq (.block 2 (sq (.block 1 (sq (sq (sq (r1 [aE s8 bD,gm l0] 9 1) (.cond s9 (.exit 1) .skip)) (sq (sq (r1 [aE s8 ca,gm l0] 10 1) (.cond lx (.exit 2) .skip)) (sq (r1 [aE s8 kB,gm l0] 11 1) (.cond oo (.exit 3) .skip)))) (.exit 0))) (sq (r1 [gf 2 s2,gf 0 l0,gd l1,cr l2 bD] 12 3) (og my dH)))) (sq (r1 [gf 2 s2,gf 1 l0,gd l1,cr l2 bD] 13 3) (og sD dH)))) (sq (sq (r1 [gf 2 s2,gf 2 l0,gd l1,aE l2 bD,gm l3] 1 4) .ret) (.exit 0))))) (AQ vk)))))))⟩
def w827 {Γ:Ctx}(hm:(Γ.at 0).br)(h209:Et Γ)(c:bX)  (hp0:c.v.sm):eA Γ EV (.bool (jc c)) [bX.D c]:=by
 show bB _ _ _ [⟨_,_⟩,_,_,_,_,_,_,_,_,_,_,_,_,_] _;refine ak ?_;refine Ah ?_;refine cy (v:=dt.D c.v) ?_;refine ff (hc:=fun hf=>h209 c.v hp0) ?_;refine dD ?_;refine aq (fun hc0=>?_) (fun hc0=>?_)
 ·have hq:=yH hc0;refine aP ?_;refine bL ?_;rw[hq]
 have hy:=vP hc0;refine gR ?_;refine aq (fun hc1=>?_) (fun hc1=>?_)
 ·simp only[decide_eq_true_eq]at hc1;have hz:=nD hy (lo:=0) (hi:=2) (if_pos hc1) (if_pos hc1);refine G9 ?_;refine aq (fun hc2=>?_) (fun hc2=>?_)
  ·rw[Bool.and_comm (!decide (c.v.pre=[]))]at hc2;rw[hc2]at hz;refine aP ?_;refine bL ?_;rw[hz];simp[mf]<;>simp_all<;>omega
  rw[Bool.and_comm (!decide (c.v.pre=[]))]at hc2;rw[hc2]at hz;refine xf ?_;refine cN (fun hc3=>?_) fun hc3=>?_
  ·refine b6 ?_;refine gC (fun hc6=>?_) fun hc6=>?_
   ·refine bg ?_;refine bL ?_;rw[hz];simp[mf]<;>simp_all<;>omega
   refine b6 ?_;refine gC (fun hc7=>?_) fun hc7=>?_
   ·refine aT ?_;refine bL ?_;rw[hz];simp[mf]<;>simp_all<;>omega
   refine gS ?_;refine bL ?_;rw[hz];simp[mf]<;>simp_all<;>omega
  refine bg ?_;refine cN (fun hc4=>?_) fun hc4=>?_
  ·refine dD ?_;refine gC (fun hc7=>?_) fun hc7=>?_
   ·refine aT ?_;refine bL ?_;rw[hz];simp[mf]<;>simp_all<;>omega
   refine gS ?_;refine bL ?_;rw[hz];simp[mf]<;>simp_all<;>omega
  refine aT ?_;refine cN (fun hc5=>?_) fun hc5=>?_
  ·refine xe ?_;refine bL ?_;rw[hz];simp[mf]<;>simp_all<;>omega
  refine jx ?_;refine bL ?_;rw[hz];simp[mf]<;>simp_all<;>omega
 simp only[decide_eq_false_iff_not]at hc1;have hz:=nD hy (lo:=1) (hi:=3) (if_neg hc1) (if_neg hc1);refine JP ?_;refine aq (fun hc2=>?_) (fun hc2=>?_)
 ·rw[Bool.and_comm (!decide (c.v.pre=[]))]at hc2;rw[hc2]at hz;refine aP ?_;refine bL ?_;rw[hz];simp[mf]<;>simp_all<;>omega
 rw[Bool.and_comm (!decide (c.v.pre=[]))]at hc2;rw[hc2]at hz;refine xf ?_;refine cN (fun hc3=>?_) fun hc3=>?_
 ·refine b6 ?_;refine gC (fun hc6=>?_) fun hc6=>?_
  ·refine bg ?_;refine bL ?_;rw[hz];simp[mf]<;>simp_all<;>omega
  refine b6 ?_;refine gC (fun hc7=>?_) fun hc7=>?_
  ·refine aT ?_;refine bL ?_;rw[hz];simp[mf]<;>simp_all<;>omega
  refine gS ?_;refine bL ?_;rw[hz];simp[mf]<;>simp_all<;>omega
 refine bg ?_;refine cN (fun hc4=>?_) fun hc4=>?_
 ·refine dD ?_;refine gC (fun hc7=>?_) fun hc7=>?_
  ·refine aT ?_;refine bL ?_;rw[hz];simp[mf]<;>simp_all<;>omega
  refine gS ?_;refine bL ?_;rw[hz];simp[mf]<;>simp_all<;>omega
 refine aT ?_;refine cN (fun hc5=>?_) fun hc5=>?_
 ·refine xe ?_;refine bL ?_;rw[hz];simp[mf]<;>simp_all<;>omega
 refine jx ?_;refine bL ?_;rw[hz];simp[mf]<;>simp_all<;>omega
def Hp (Γ:Ctx):Prop:=∀(c:bX),(c.v.sm)→Γ.pre 827 [bX.D c]∧Γ.val 827 [bX.D c]=.bool (jc c)
end Go.Abs
end
section
namespace Go.Abs
open Go
def AG:aB:=⟨1,16,kM,cv,(sq (rg [gb 7 s0,gm cse] [(2,0),(1,1)]) (sq (sq (r1 [gk 7 true s2,gx 827 [l0] KJ,pr l1] 3 2) (og s3 cse)) (sq (r1 [gf 0 s2,gd l0,gx 957 [l1] cv,gm l2] 11 3) (sq (sq (rg [gf 2 s2,gf 0 l0,gd l1,gf 2 s2,gf 1 l3,gd l4,gf 2 s2,gf 2 l6,gd l7,gn (.bsl 1 (.int .i64 0) 3 [(0,l2),(1,l5),(2,l8)]),gl l9,gm bD] [(7,9),(5,10),(4,11)]) (.block 0 (.loop (sq (r1 [aU s4 s5] 6 0) (sq (js s6 0) (sq (.block 1 (sq (rg [gm s4,ga 1 s7 s4,gd l1,gm l0,gm l2] [(8,3),(12,4)]) (sq (sq (r1 [gm s8,gf 1 s2,gd l1,iy l0 l2] 9 3) (.cond s9 (.exit 0) .skip)) (sq (sq (r1 [gm s8,dA l0 bD] 10 1) (.cond lx (r1 [gm oo,ar l0 (cs [46]),gm l1] 11 2) .skip)) (r1 [gm oo,gm my,gx 665 [l1] cv,ar l0 l2,gm l3] 11 4))))) (r1 [ar s4 ca,gm l0] 4 1))))))) (sq (sq (r1 [gf 0 s2,gd l0,aE l1 BZ] 13 2) (.cond sD (sq (sq (r1 [gf 1 s2,gd l0,dA l1 bD] 14 2) (.cond ta (r1 [gm oo,ar l0 (cs [46]),gm l1] 11 2) .skip)) (sq (r1 [gm oo,ar l0 (cs [42]),gm l1] 1 2) .ret)) .skip)) (sq (sq (r1 [gf 2 s2,gf 3 l0,gd l1,cr l2 cse] 15 3) (.cond wD (r1 [gm oo,gf 2 s2,gf 3 l1,gd l2,ar (cs [45]) l3,ar l0 l4,gm l5] 11 6) .skip)) (sq (r1 [gm oo,gm l0] 1 1) .ret)))))))⟩
def w828 {Γ:Ctx}(hm:(Γ.at 0).br)(h665:J9 Γ)(h827:Hp Γ)(h957:Ke Γ)(c:bX)  (hp0:c.v.sm):eA Γ AG (.str (cW c)) [bX.D c]:=by
 show bB _ _ _ [⟨_,_⟩,_,_,_,_,_,_,_,_,_,_,_,_,_,_,_] _;refine ak ?_;refine aT ?_;refine aj (hc:=h827 _ ?_) ?_;rotate_left;first|assumption|omega
 refine ay ?_;refine aq (fun hc0=>?_) (fun hc0=>?_)
 ·simp only[Bool.not_eq_true']at hc0;refine aP ?_;refine cz ?_;simp[cW,hc0]
 simp only[Bool.not_eq_false']at hc0;obtain⟨hv,hp1,hp2,hp3,hp4⟩:=kQ hc0;have hsl:=rk c.op;have hnl:=nQ hv;refine aA ?_;refine aj (hc:=h957 _) ?_;refine me ?_;refine cx [(.int _ _),(.int _ _),(.int _ _)] ?_;refine ax ?_;intro u0;refine ay ?_;refine eB 18 ?_;refine bt hm (ι:=Nat) (fun i=>[.un,.un,⟨true,.ptr 0 7 0 0⟩,.un,⟨true,.int .i64 (i:Nat)⟩,⟨true,.int .i64 3⟩,.un,⟨true,.sl 1 (c.iU.map (D.int .i64))⟩,.un,.un,.un,⟨true,.str (bP c.op++dG c i)⟩,.un,.un,.un,.un]) (fun i=>[(0,.buf 7 [bX.D c])]) 21 (fun i=>i≤3∧i≤c.parts.toNat) (fun i=>3-i) 0 ⟨by omega,by omega⟩ (aN.to [(0,0)] ae ae (by repeat(first|exact c8.nil|refine c8.un ?_|refine c8.eq ae ?_|refine c8.nl (congrArg D.str (by first|(simp only[dG,if_pos hpos,List.append_assoc];done)|(simp only[dG,if_neg hpos,List.append_assoc,List.nil_append];done)|simp[dG])) ae ?_|refine c8.nl ae ae ?_)) zu) ?_;rintro i ⟨hi,hip⟩;have hni:=hnl i;have hfit:=m7 hv i;have hn3:c.iU.length=3:=rfl;refine az ?_;refine cN (fun hc1=>?_) fun hc1=>?_
 ·refine xf ?_;refine cN (fun hc2=>?_) fun hc2=>?_
  ·refine aP ?_;obtain rfl:i=c.parts.toNat:=by omega
   refine aA ?_;refine cN (fun hc4=>?_) fun hc4=>?_
   ·refine bg ?_;refine cN (fun hc5=>?_) fun hc5=>?_
    ·refine ay ?_;refine sb ?_;refine aP ?_;refine sb ?_;refine az ?_;refine cz ?_;simp[cW,iP,ig,hc0, *]
    refine aA ?_;refine sb ?_;refine az ?_;refine cz ?_;simp[cW,iP,ig,hc0, *]
   refine b6 ?_;refine cN (fun hc6=>?_) fun hc6=>?_
   ·refine ax ?_;have hpl:=hp0.1;refine aA ?_;refine sb ?_;refine sb ?_;refine bg ?_;refine cz ?_;simp[cW,iP,ig,hc0, *]
   refine aT ?_;refine cz ?_;simp[cW,iP,ig,hc0, *]
  refine aT ?_;refine aq (fun hc3=>?_) (fun hc3=>?_)
  ·simp only[decide_eq_true_eq]at hc3;have hpos:0<i:=by omega
   refine ay ?_;refine sb ?_;refine aP ?_;refine aj (hc:=h665 (c.iU[i]!) ⟨hfit.1,hfit.2⟩) ?_;have hdl:=dF 4 (c.iU[i]!).toNat (by omega) (by omega);refine sb ?_;refine b6 ?_;exact⟨i+1,⟨by omega,by omega⟩,by omega,(aN.to [(0,0)] ae ae (by repeat(first|exact c8.nil|refine c8.un ?_|refine c8.eq ae ?_|refine c8.nl (congrArg D.str (by first|(simp only[dG,if_pos hpos,List.append_assoc];done)|(simp only[dG,if_neg hpos,List.append_assoc,List.nil_append];done)|simp[dG])) ae ?_|refine c8.nl ae ae ?_)) zu)⟩
  simp only[decide_eq_false_iff_not]at hc3;have hpos:¬0<i:=by omega
  refine aA ?_;refine aj (hc:=h665 (c.iU[i]!) ⟨hfit.1,hfit.2⟩) ?_;have hdl:=dF 4 (c.iU[i]!).toNat (by omega) (by omega);refine sb ?_;refine b6 ?_;exact⟨i+1,⟨by omega,by omega⟩,by omega,(aN.to [(0,0)] ae ae (by repeat(first|exact c8.nil|refine c8.un ?_|refine c8.eq ae ?_|refine c8.nl (congrArg D.str (by first|(simp only[dG,if_pos hpos,List.append_assoc];done)|(simp only[dG,if_neg hpos,List.append_assoc,List.nil_append];done)|simp[dG])) ae ?_|refine c8.nl ae ae ?_)) zu)⟩
 refine aA ?_;obtain rfl:i=c.parts.toNat:=by omega
 refine aA ?_;refine cN (fun hc4=>?_) fun hc4=>?_
 ·refine bg ?_;refine cN (fun hc5=>?_) fun hc5=>?_
  ·refine ay ?_;refine sb ?_;refine aP ?_;refine sb ?_;refine az ?_;refine cz ?_;simp[cW,iP,ig,hc0, *]
  refine aA ?_;refine sb ?_;refine az ?_;refine cz ?_;simp[cW,iP,ig,hc0, *]
 refine b6 ?_;refine cN (fun hc6=>?_) fun hc6=>?_
 ·refine ax ?_;have hpl:=hp0.1;refine aA ?_;refine sb ?_;refine sb ?_;refine bg ?_;refine cz ?_;simp[cW,iP,ig,hc0, *]
 refine aT ?_;refine cz ?_;simp[cW,iP,ig,hc0, *]
def Kb (Γ:Ctx):Prop:=∀(c:bX),(c.v.sm)→Γ.pre 828 [bX.D c]∧Γ.val 828 [bX.D c]=.str (cW c)
end Go.Abs
end
section
namespace Go.Abs
open Go
def ri:aB:=⟨1,4,kM,[[.sl 1 [.a]]],(sq (rg [gb 7 s0,gm (.c (.av))] [(2,0),(1,1)]) (sq (r2 [gf 2 s2,gf 0 l0,gd l1,gx 734 [l2] cv,gf 2 s2,gf 1 l4,gd l5,gx 734 [l6] cv,gf 2 s2,gf 2 l8,gd l9,gx 734 [l10] cv,gn (.bsl 1 (.str []) 3 [(0,l3),(1,l7),(2,ki)]),gm ma] 3 13) (sq (r1 [gm s3,gf 1 s2,gd l1,gn (.slA 1 l0 none (some l2)),gm l3] 1 4) .ret)))⟩
def w677 {Γ:Ctx}(hm:(Γ.at 0).br)(c:bX)(h734:MO Γ)(hp0:en c.v=true∧0≤c.parts∧c.parts≤3):bB (Γ.at 0) ri.body (ov ri (One (.own 14 1 0 c.parts.toNat) [(0,.buf 7 [bX.D c]),(14,.buf 1 [.str (bQ c.v.major.toNat),.str (bQ c.v.minor.toNat),.str (bQ c.v.patch.toNat)])]):Ex→List aW→St→Prop) (eL ri [bX.D c]) ⟨0,[]⟩:=by
 show bB _ _ _ [⟨_,_⟩,_,_,_] _;refine ak ?_;refine bg ?_;refine aj (hc:=h734 c.v.major (m7 hp0.1 0)) ?_;refine az ?_;refine aj (hc:=h734 c.v.minor (m7 hp0.1 1)) ?_;refine az ?_;refine aj (hc:=h734 c.v.patch (m7 hp0.1 2)) ?_;refine cx [.str _,.str _,.str _] ?_;refine aT ?_;refine zw c.parts.toNat (hj:=fun _=>by omega) (hb:=fun _=>by omega) ?_;refine az ?_;refine ei trivial iW (Eq.trans ae (?_)) ae (oneq _ _);rfl
def Ka (Γ:Ctx):Prop:=∀(c:bX),(en c.v=true∧0≤c.parts∧c.parts≤3)→∀(nx:Nat)(m:List (Nat×aV))(K:D→St→Prop),K (.own nx 1 0 c.parts.toNat) ⟨nx+1,(nx,.buf 1 [.str (bQ c.v.major.toNat),.str (bQ c.v.minor.toNat),.str (bQ c.v.patch.toNat)])::m⟩→Γ.tr 677 [bX.D c] ⟨nx,m⟩ K
end Go.Abs
end
section
namespace Go.Abs
open Go
def Bm:aB:=⟨1,8,kM,cv,(sq (rg [gb 7 s0,gm cse] [(2,0),(1,1)]) (sq (sq (r1 [gk 7 true s2,gx 676 [l0] KJ,pr l1] 3 2) (og s3 cse)) (sq (r1 [gk 7 true s2,gn (.callM 677 [l0]),gm l1] 5 2) (sq (sq (r1 [gf 0 s2,gd l0,aE l1 BZ] 4 2) (.cond s4 (sq (r1 [gm s5,gf 1 s2,gd l1,gf 1 s2,gd l3,gn (.slX 1 l0 l2 l4),gn (.bsl 1 (.str []) 1 [(0,(cs [42]))]),gn (.app 1 l5 l6),gx 249 [l7,(i8 46)] [[.sl 1 [.a]],[.a]],gm l8] 1 9) .ret) .skip)) (sq (r1 [gf 0 s2,gd l0,gx 678 [l1] cv,gm s5,gx 249 [l3,(i8 46)] [[.sl 1 [.a]],[.a]],ar l2 l4,gm l5] 7 6) (sq (sq (r1 [gf 2 s2,gf 3 l0,gd l1,cr l2 cse] 6 3) (.cond s6 (r1 [gm s7,ar l0 (cs [45]),gf 2 s2,gf 3 l2,gd l3,ar l1 l4,gm l5] 7 6) .skip)) (sq (r1 [gm s7,gm l0] 1 1) .ret)))))))⟩
def w482 {Γ:Ctx}(hm:(Γ.at 0).br)(h249:Mf Γ)(h676:MJ Γ)(h677:Ka Γ)(h678:MK Γ)(c:bX)  (hp0:c.v.sm):eA Γ Bm (.str (cW c)) [bX.D c]:=by
 show bB _ _ _ [⟨_,_⟩,_,_,_,_,_,_,_] _;refine ak ?_;refine aT ?_;refine aj (hc:=h676 _ ?_) ?_;rotate_left;first|assumption|omega
 refine ay ?_;refine aq (fun hc0=>?_) (fun hc0=>?_)
 ·simp only[Bool.not_eq_true']at hc0;refine aP ?_;refine cz ?_;simp[cW,hc0]
 simp only[Bool.not_eq_false']at hc0;obtain⟨hv,hp1,hp2,hp3,hp4⟩:=kQ hc0;have hsl:=rk c.op;have hnl:=nQ hv c.parts.toNat;have htl:=zW hp2;have hj1:=wQ hp2;have hj2:=rr hp1 hp2;have hl2:=congrArg List.length hj2;have hl1:=congrArg List.length hj1;simp only[List.length_append,List.length_singleton]at hl2;have hi2:(if 0<c.parts then([46]:ah)else []).length≤1:=by split<;>simp
 refine az ?_;refine cq (nx':=6) (v:=.own 6 1 0 c.parts.toNat) (m':=[(6,.buf 1 [.str (bQ c.v.major.toNat),.str (bQ c.v.minor.toNat),.str (bQ c.v.patch.toNat)]),(0,.buf 7 [bX.D c])]) (hc:=fun K' hK=>h677 c ⟨hv,hp1,hp2⟩ _ _ K' hK) (hn:=by decide) ?_;refine b6 ?_;refine cN (fun hc1=>?_) fun hc1=>?_
 ·refine bg ?_;refine Lv c.parts.toNat (hj:=fun _=>by omega) (hb:=fun _=>by omega) ?_;refine cx [.str _] ?_;refine Ce ((iY c++[[42]]).map D.str) (n:=(iY c++[[42]]).length) (ha:=by simp;omega) (he:=sc.own rfl (by simp)) (hz:=by rw[List.drop_zero,uQ,List.map_append];rfl) (hn:=by simp;omega) (hb:=by simp;omega) ?_;refine aj (hc:=h249 (iY c++[[42]]) 46 (by rw[hj2];simp only[List.length_append,List.length_singleton];omega)) (ha:=fun _=>congrArg (fun d=>[d,D.int .u8 46]) (tj (q:=D.str) (fun _=>rfl) ae)) (hp:=fun _=>⟨qh (q:=D.str) (fun _=>rfl) ae,rfl,trivial⟩) ?_;refine az ?_;refine cz ?_;rw[cW,if_pos hc0,hj2];simp[iP,ig,hc1,bP]
 refine aA ?_;refine aj (hc:=h678 _) ?_;refine ax ?_;refine aj (hc:=h249 (iY c) 46 (by rw[hj1];omega)) (ha:=fun _=>congrArg (fun d=>[d,D.int .u8 46]) (I3 ae)) (hp:=fun _=>⟨GS hp2 ae,rfl,trivial⟩) ?_;refine dc (hb:=fun _=>by omega) ?_;refine dD ?_;refine cN (fun hc2=>?_) fun hc2=>?_
 ·refine ax ?_;have hpl:=hp0.1;refine ax ?_;refine sb ?_;refine az ?_;refine sb ?_;refine bg ?_;refine cz ?_;rw[cW,if_pos hc0,hj1];simp[iP,ig,hc1,hc2]
 refine aT ?_;refine cz ?_;rw[cW,if_pos hc0,hj1];simp[iP,ig,hc1,hc2]
def Mx (Γ:Ctx):Prop:=∀(c:bX),(c.v.sm)→Γ.pre 482 [bX.D c]∧Γ.val 482 [bX.D c]=.str (cW c)
end Go.Abs
end
section
namespace Go.Abs
open Go
end Go.Abs
end
section
namespace Go.Abs
open Go
end Go.Abs
end
section
namespace Go.Abs
open Go
end Go.Abs
end
