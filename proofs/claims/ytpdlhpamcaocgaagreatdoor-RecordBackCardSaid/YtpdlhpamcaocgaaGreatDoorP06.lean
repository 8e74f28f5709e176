/- A part of the proofs of the statements: RSpec12, RSpec13, RBldC, RSpec14, LQ, U1, T6, T7, LExt, T8, T9, T10, T1, T2, T3, T4, T5, T11, T12, T13, T14, T15, T16, T17, T18, T19, T20, T21, T22, T23, LPlain4, LPlain5, T24, T25, U2, U3, U4, U5, U6, U7, U8, U8b, U9, U10, U11. -/
import Derived.Test.YtpdlhpamcaocgaaGreatDoorP05
set_option linter.all false
set_option maxRecDepth 4000
namespace Go.Abs
def pM (l:List ah)(x:ah)(i:Nat):Int:=match(l.drop i).findIdx? (fun t=>decide (x=t))with
 |some k=>((i+k:Nat):Int)
 |none=>-1
def HQ {l:List ah}{x:ah}{i:Nat}(h:i<l.length)(he:x=l[i]!):pM l x i=(i:Nat):=by
 unfold pM;rw[List.drop_eq_getElem_cons h,List.findIdx?_cons];have:x=l[i]:=by simpa[h]using he
 simp[←this]
def HR {l:List ah}{x:ah}{i:Nat}(h:i<l.length)(he:¬x=l[i]!):pM l x i=pM l x (i+1):=by
 unfold pM;have:¬x=l[i]:=by simpa[h]using he
 rw[List.drop_eq_getElem_cons h,List.findIdx?_cons];simp only[this,decide_false,Bool.false_eq_true,if_false];cases(l.drop (i+1)).findIdx? (fun t=>decide (x=t))with
 |none=>rfl
 |some k=>simp only[Option.map_some];congr 1;omega
def E8 {l:List ah}{x:ah}{i:Nat}(h:l.length≤i):pM l x i=-1:=by
 unfold pM;rw[List.drop_eq_nil_of_le h];rfl
def E9 (l:List ah)(x:ah):decide (0≤pM l x 0)=decide (x∈l):=by
 unfold pM;rw[List.drop_zero];cases h:l.findIdx? (fun t=>decide (x=t))with
 |none=>
  have:=List.findIdx?_eq_none_iff.1 h;have hn:x∉l:=fun hm=>by have:=this x hm;simp at this
  simp[hn]
 |some k=>
  obtain⟨hk,hx,_⟩:=List.findIdx?_eq_some_iff_getElem.1 h;have hm:x∈l:=by
   have:x=l[k]:=by simpa using hx
   rw[this];exact List.getElem_mem hk
  simp[hm]
structure Ld where
 ls:List ah
 at':Nat
 deriving Inhabited,DecidableEq
def Ld.D (r:Ld):D:=.agg [.sl 1 (r.ls.map D.str),.int .i64 (r.at':Nat)]
def Ld.rest (r:Ld):List ah:=r.ls.drop r.at'
def Ld.sm (r:Ld):Prop:=(r.at'≤r.ls.length∧r.ls.length≤1048577)∧∀t∈r.ls,t.length≤1048576
def Ld.to (r:Ld)(q:List ah):Ld:=⟨r.ls,r.ls.length-q.length⟩
def gF (n:Int)(t:ah):List ah:=if n<0 then ai t 32 else mB n.toNat (ai t 32)
def wU (n:Nat)(op:Bool)(t:ah):gF (if op=true then(n:Int)else-1) t=cn n op t:=by
 unfold gF cn;cases op
 ·rfl
 ·have:¬(n:Int)<0:=by omega
  simp[this]
def vr:Option (List ah×List ah)→D
 |none=>.av
 |some (l,_)=>.sl 1 (l.map D.str)
def Ld.after (r:Ld)(o:Option (List ah×List ah)):Ld:=match o with
 |none=>r
 |some _=>⟨r.ls,r.at'+1⟩
def Ld.Gu {r:Ld}(h:r.ls.length≤r.at'):r.rest=[]:=List.drop_eq_nil_of_le h
def Ld.nM {r:Ld}(h:r.at'<r.ls.length):r.rest=r.ls[r.at']! ::r.ls.drop (r.at'+1):=by
 unfold Ld.rest;rw[List.drop_eq_getElem_cons h];simp[h]
def D4 (n:Nat)(op:Bool)(t:ah)(h:op=true→1≤n):1≤(cn n op t).length:=by
 have hs:1≤(ai t 32).length:=by
  exact eO 32 t []
 unfold cn;split
 ·rename_i ho;have:=h ho;unfold mB;split
  ·exact hs
  ·simp
 ·exact hs
def zd {w:ah}{n:Nat}{op:Bool}{t:ah}(h:((¬(cn n op t)[0]! =w∨((cn n op t).length:Int)<1)∨((0:Int)<n∧¬((cn n op t).length:Int)=n))∨[]∈cn n op t)(h1:1≤(cn n op t).length):eA w n op t=none:=by
 rw[eA,if_neg];rintro⟨a,b,c⟩;rcases h with((h|h)|h)|h
 ·exact h a
 ·omega
 ·rcases b with b|b<;>omega
 ·exact c h
def wi {w:ah}{n:Nat}{op:Bool}{t:ah}(h:(((cn n op t)[0]! =w∧¬((cn n op t).length:Int)<1)∧(¬(0:Int)<n∨((cn n op t).length:Int)=n))∧¬[]∈cn n op t):eA w n op t=some (cn n op t):=by
 rw[eA,if_pos ⟨h.1.1.1,by rcases h.1.2 with h|h<;>omega,h.2⟩]
def anyL (t:ah):Option (List ah):=match eA gM 5 true t with
 |some l=>if pL l=true then some l else none
 |none=>none
def No (p:ah→Option (List ah))(ls:List ah):Prop:=∀t r,ls=t::r→p t=none
def dn {w:ah}{n:Nat}{op:Bool}{ls l r:List ah}(h:bc w n op ls=some (l,r)):∃t,ls=t::r∧eA w n op t=some l:=by
 match ls,h with
 |[],h=>cases h
 |t::q,h=>
  simp only[bc]at h;split at h
  ·rename_i l' hl;simp only[Option.some.injEq,Prod.mk.injEq]at h;obtain⟨rfl,rfl⟩:=h;exact⟨t,rfl,hl⟩
  ·cases h
def Stop (s:Nat)(ls:List ah):Prop:=(s=2→No anyL ls∧No (eA e8 2 true) ls)∧(s=2∨s=3→No (eA cL 2 false) ls)∧(s=5→No (eA e8 2 true) ls)
def nY (m:List (Nat×aW))(l:Nat)(t:List UInt8):Prop:=(∃u,look m l=some (.bld none 0 u)∧t=[])∨(∃l2 u,look m l=some (.bld (some l2) t.length u)∧look m l2=some (.row t))
@[go_sem] def dy (m:List (Nat×aW))(l:Nat):List (Nat×aW):=match look m l with
 |some (.bld (some l2) _ _)=>bO m l2
 |_=>m
@[go_sem] def my (m:List (Nat×aW))(l L:Nat)(t:List UInt8):List (Nat×aW):=(L,.row t)::bS (dy m l) l (.bld (some L) t.length true)
def TrW (VZ:D)(s:List UInt8)(ds:List D)(st:St)(K:D→St→Prop):Prop:=∃l t,ds=[.ptr l 2 0 0,VZ]∧nY st.m l t∧l<st.nx∧s≠[]∧t.length+s.length≤1099511627776∧K .any ⟨st.nx+1,my st.m l st.nx (t++s)⟩
def N0 (ds:List D)(st:St)(K:D→St→Prop):Prop:=∃s,TrW (.str s) s ds st K
def NZ (ds:List D)(st:St)(K:D→St→Prop):Prop:=∃c,TrW (.int .u8 c.toNat) [c] ds st K
def NY (ds:List D)(st:St)(K:D→St→Prop):Prop:=∃l t,ds=[.ptr l 2 0 0]∧nY st.m l t∧t≠[]∧K (.str t) ⟨st.nx,bO (dy st.m l) l⟩
def JQ (Γ:Ctx):Prop:=∀(ds:List D)(st:St)(K:D→St→Prop),N0 ds st K→Γ.tr 489 ds st K
def JU (Γ:Ctx):Prop:=∀(ds:List D)(st:St)(K:D→St→Prop),NZ ds st K→Γ.tr 664 ds st K
def JN (Γ:Ctx):Prop:=∀(ds:List D)(st:St)(K:D→St→Prop),NY ds st K→Γ.tr 452 ds st K
def Dd (b a:ah)(l:List ah)(h:a≠[]):aG b (a::l)≠[]:=by
 match l with
 |[]=>exact h
 |c::r=>
  rw[dG b a (c::r) (by simp)];intro e;have:=List.append_eq_nil_iff.1 e;exact h (List.append_eq_nil_iff.1 this.1).1
def xc (ws:List ah)(t:ah):Prop:=(aG [32] ws≠[]∧ws.length≤1048600)∧(∀w∈ws,w.length≤2097200)∧t.length+(aG [32] ws).length+1≤1099511627776
def xc.mk {a:ah}{l:List ah}{t:ah}(h1:a≠[])(h2:l.length≤99)(h3:∀w∈a::l,w.length≤2097200)(h4:t.length≤1000000000):xc (a::l) t:=by
 have h5:=ju 32 2097200 (a::l) h3;have h6:(a::l).length≤100:=by simp only[List.length_cons];omega
 have h7:=Nat.mul_le_mul_right (2097200+1) h6;exact⟨⟨Dd _ _ _ h1,by omega⟩,h3,by omega⟩
def JL (Γ:Ctx):Prop:=∀(ws:List ah)(t:ah)(l lw nx:Nat)(m:List (Nat×aW))(K:D→St→Prop),nY m l t→look m lw=some (.buf 1 (ws.map D.str))→l<nx→lw<nx→xc ws t→
 K (.tup []) ⟨nx+1,my (bO m lw) l nx (t++bw ws)⟩→Γ.tr 450 [.ptr l 2 0 0,.own lw 1 0 ws.length] ⟨nx,m⟩ K
def qM {m:List (Nat×aW)}{l L:Nat}{t:List UInt8}(h:l≠L):look (my m l L t) l=some (.bld (some L) t.length true)∧look (my m l L t) L=some (.row t):=by
 constructor
 ·simp only[my,look,if_neg (fun e=>h (Eq.symm e))]
  haveI:bX:={gd:=fun _=>True,le:=fun _ _ _ _ _=>trivial}
  rw[br,if_pos rfl]
 ·simp only[my,look,if_pos]
def Hm {m:List (Nat×aW)}{l L:Nat}{t:List UInt8}(h:l≠L):nY (my m l L t) l t:=.inr ⟨L,true,qM h⟩
end Go.Abs
section
namespace Go.Abs
def ae {p:Prop}(h:p:=by exact rfl):p:=h
def lO {p:Prop}(h:p:=by repeat(first|exact c7.nil|refine c7.un ?_|refine c7.eq (by exact rfl) ?_)):p:=h
def bY {p:Prop}(h:p:=by first|exact rfl|exact bt (fun _=>rfl) _):p:=h
def dT {p:Prop}(h:p:=by repeat(first|exact c7.nil|refine c7.un ?_|refine c7.eq (by exact rfl) ?_|refine c7.nl (by exact rfl) (by exact rfl) ?_)):p:=h
def iJ {p:Prop}(h:p:=by repeat' first|exact trivial|exact rfl|refine And.intro ?_ ?_):p:=h
def sj {p:Prop}(h:p:=by repeat' first|exact trivial|exact rfl|exact Nat.le_refl _|refine And.intro ?_ ?_):p:=h
def zn {p:Prop}(h:p:=by repeat(first|exact aC.nil|refine aC.de (by exact rfl) (by exact rfl) (by first|exact rfl|exact bt (fun _=>rfl) _) ?_|refine aC.mj (by exact rfl) (by exact rfl) (by exact rfl) ?_|refine aC.qb (by exact rfl) (by exact rfl) (by exact rfl) (by exact rfl) ?_)):p:=h
def b0 {p:Prop} [Decidable p]:(decide p=true)=p:=decide_eq_true_eq
def b1 {p:Prop} [Decidable p]:decide p=false↔¬p:=decide_eq_false_iff_not
def b2 (b:Bool):((!b)=true)=(b=false):=Bool.not_eq_true' b
def b3 (b:Bool):((!b)=false)=(b=true):=Bool.not_eq_false' b
def b4 (b:Bool):(¬(b=false))=(b=true):=Bool.not_eq_false b
def b5 (a b:Bool):((a ||b)=true)=(a=true∨b=true):=Bool.or_eq_true a b
end Go.Abs
namespace Go.Abs
abbrev dX (Γ:Ctx)(a:aB)(d:D)(ds:List D):Prop:=bB (Γ.at 0) a.body (J9 a d) (eI a ds) ⟨0,[]⟩
def cl {a:aB}{d d2:D}{e:Ex}{nx:Nat}{m:List (Nat×aW)}{env:List aY}(h:d2=d)(he:e.home:=by exact trivial)(h1:mg m env a.res:=by exact sj)(h2:wY a env m:=by exact iJ)(h3:D7 a env m=d2:=by exact rfl):J9 a d e env ⟨nx,m⟩:=Lj he h1 h2 (h3.trans h)
def bD {a:aB}{d d2:Bool}{e:Ex}{nx:Nat}{m:List (Nat×aW)}{env:List aY}(h:d2=d)(he:e.home:=by exact trivial)(h1:mg m env a.res:=by exact sj)(h2:wY a env m:=by exact iJ)(h3:D7 a env m=.bool d2:=by exact rfl):J9 a (.bool d) e env ⟨nx,m⟩:=cl (congrArg _ h) he h1 h2 h3
def cz {a:aB}{d d2:List UInt8}{e:Ex}{nx:Nat}{m:List (Nat×aW)}{env:List aY}(h:d2=d)(he:e.home:=by exact trivial)(h1:mg m env a.res:=by exact sj)(h2:wY a env m:=by exact iJ)(h3:D7 a env m=.str d2:=by exact rfl):J9 a (.str d) e env ⟨nx,m⟩:=cl (congrArg _ h) he h1 h2 h3
def il {a:aB}{d d2:Int}{e:Ex}{nx:Nat}{m:List (Nat×aW)}{env:List aY}(h:d2=d)(he:e.home:=by exact trivial)(h1:mg m env a.res:=by exact sj)(h2:wY a env m:=by exact iJ)(h3:D7 a env m=.int .i64 d2:=by exact rfl):J9 a (.int .i64 d) e env ⟨nx,m⟩:=cl (congrArg _ h) he h1 h2 h3
def dR {lo c nx nx2:Nat}{env env2:List aY}{m m2:List (Nat×aW)}(σ:List (Nat×Nat))(hc:nx2=c:=by exact ae)(h:eR lo c σ=true:=by exact ae)(he:c7 lo σ env env2:=by exact dT)(hm:aC lo c σ m m2:=by exact zn):aN lo env ⟨nx,m⟩ env2 ⟨nx2,m2⟩:=aN.to σ hc h he hm
def rZ {Γ:Ctx}{draw f:Bool}{r:List GI}{env rs:List aY}{nx:Nat}{m:List (Nat×aW)}{K:List aY→St→Prop}{g:Option (Nat×Bool)}{x y:Src}{fx fy:Bool}{a b:List UInt8}(h:au Γ draw r env (⟨f,.str (a++b)⟩::rs) nx m K)(hg:GF rs g f:=by first|exact rfl|exact⟨_,_,rfl,rfl⟩)(hx:bG env rs x=⟨fx,.str a⟩:=by exact rfl)(hy:bG env rs y=⟨fy,.str b⟩:=by exact rfl)(kx:f=true→fx=true:=by first|exact fun _=>rfl|exact fun h=>h|(intro h;simp_all))(ky:f=true→fy=true:=by first|exact fun _=>rfl|exact fun h=>h|(intro h;simp_all))(hb:f=true→a.length+b.length≤9223372036854775807:=by intro _;simp only[List.length_append,List.length_cons,List.length_nil];omega):au Γ draw (⟨.bin .add x y,g⟩::r) env rs nx m K:=dc h hg hx hy kx ky hb
end Go.Abs
namespace Go.Abs
section
variable {Γ:Ctx} {Q:Ex→List aY→St→Prop}
def cmN {env rs:List aY}:ED env rs []=env:=rfl
def cmC {s p:Nat}{r:List (Nat×Nat)}{env rs env1 env':List aY}{f:Bool}{d:D}(e:bG [] rs (.l p)=⟨f,d⟩)(hs:env.set s ⟨f,d⟩=env1)(h:ED env1 rs r=env'):ED env rs ((s,p)::r)=env':=by
 simp only[ED,e,hs,h]
def rrrg {draw:Bool}{cm:List (Nat×Nat)}{b:AC}{nx nx':Nat}{m:List (Nat×aW)}{rs env eI env':List aY}(h:bB Γ b Q env' ⟨nx',m⟩)
  (he:ED env rs cm=env':=by repeat(first|apply cmC (by exact rfl) (by simp only[List.set_cons_zero,List.set_cons_succ];exact rfl)|with_reducible exact cmN)) (hn:nx+rs.length=nx':=by simp only[List.length_cons,List.length_nil,Nat.reduceAdd];exact rfl):au Γ draw [] eI rs nx m (fun vs st'=>bB Γ b Q (eH env vs cm) st'):=
 Iz h he hn
def rrrh {draw:Bool}{cm:List (Nat×Nat)}{nx nx':Nat}{m:List (Nat×aW)}{rs env eI env':List aY}(h:Q .normal env' ⟨nx',m⟩)
  (he:ED env rs cm=env':=by repeat(first|apply cmC (by exact rfl) (by simp only[List.set_cons_zero,List.set_cons_succ];exact rfl)|with_reducible exact cmN)) (hn:nx+rs.length=nx':=by simp only[List.length_cons,List.length_nil,Nat.reduceAdd];exact rfl):au Γ draw [] eI rs nx m (fun vs st'=>Q .normal (eH env vs cm) st'):=
 IA h he hn
end
def Fam (_:Prop):Type:=Unit
def qy {q:Prop}:Fam q:=()
structure Hid (q:Prop)(f:Fam q):Prop where
 val:q
section
variable {Γ:Ctx} {draw b1:Bool} {r:List GI} {env rs:List aY} {nx n0 n1:Nat} {m:List (Nat×aW)} {K:List aY→St→Prop} {g:Option (Nat×Bool)} {x0 x1 x2:Src}
def tg0 {Γ:Ctx}{a:AC}{Q:Ex→List aY→St→Prop}{env:List aY}{st:St}(h:bB Γ a Q env st):bB Γ a Q env st:=h
def tg1 (h:au Γ draw (⟨.mv x0,g⟩::r) env rs nx m K):au Γ draw (⟨.mv x0,g⟩::r) env rs nx m K:=h
def tg2 (h:au Γ draw [] env rs nx m K):au Γ draw [] env rs nx m K:=h
def tg3 (h:au Γ draw (⟨.fa n0 x1,g⟩::r) env rs nx m K):au Γ draw (⟨.fa n0 x1,g⟩::r) env rs nx m K:=h
def tg4 (h:au Γ draw (⟨.ld n0 b1 x2,g⟩::r) env rs nx m K):au Γ draw (⟨.ld n0 b1 x2,g⟩::r) env rs nx m K:=h
def tg5 (h:au Γ draw (⟨.bin .lss x0 x1,g⟩::r) env rs nx m K):au Γ draw (⟨.bin .lss x0 x1,g⟩::r) env rs nx m K:=h
def tg6 (h:au Γ draw (⟨.bin .eql x0 x1,g⟩::r) env rs nx m K):au Γ draw (⟨.bin .eql x0 x1,g⟩::r) env rs nx m K:=h
def tg7 (h:au Γ draw (⟨.bin .add x0 x1,g⟩::r) env rs nx m K):au Γ draw (⟨.bin .add x0 x1,g⟩::r) env rs nx m K:=h
def tg8 (h:au Γ draw (⟨.bin .gtr x0 x1,g⟩::r) env rs nx m K):au Γ draw (⟨.bin .gtr x0 x1,g⟩::r) env rs nx m K:=h
def tg9 (h:au Γ draw (⟨.bin .neq x0 x1,g⟩::r) env rs nx m K):au Γ draw (⟨.bin .neq x0 x1,g⟩::r) env rs nx m K:=h
def tg10 (h:au Γ draw (⟨.bin .leq x0 x1,g⟩::r) env rs nx m K):au Γ draw (⟨.bin .leq x0 x1,g⟩::r) env rs nx m K:=h
def tg11 (h:au Γ draw (⟨.bin .geq x0 x1,g⟩::r) env rs nx m K):au Γ draw (⟨.bin .geq x0 x1,g⟩::r) env rs nx m K:=h
def tg12 (h:au Γ draw (⟨.bin .sub x0 x1,g⟩::r) env rs nx m K):au Γ draw (⟨.bin .sub x0 x1,g⟩::r) env rs nx m K:=h
def tg13 (h:au Γ draw (⟨.ext x0 n1,g⟩::r) env rs nx m K):au Γ draw (⟨.ext x0 n1,g⟩::r) env rs nx m K:=h
def tg14 (h:au Γ draw (⟨.pick x0 x1 (.c (.bool false)),g⟩::r) env rs nx m K):au Γ draw (⟨.pick x0 x1 (.c (.bool false)),g⟩::r) env rs nx m K:=h
def tg15 (h:au Γ draw (⟨.pick x0 (.c (.bool true)) x1,g⟩::r) env rs nx m K):au Γ draw (⟨.pick x0 (.c (.bool true)) x1,g⟩::r) env rs nx m K:=h
def tg16 (h:au Γ draw (⟨.un .not x0,g⟩::r) env rs nx m K):au Γ draw (⟨.un .not x0,g⟩::r) env rs nx m K:=h
def tg17 (h:au Γ draw (⟨.nilck x0,g⟩::r) env rs nx m K):au Γ draw (⟨.nilck x0,g⟩::r) env rs nx m K:=h
def tg18 (h:au Γ draw (⟨.box n0 x1,g⟩::r) env rs nx m K):au Γ draw (⟨.box n0 x1,g⟩::r) env rs nx m K:=h
def tg19 (h:au Γ draw (⟨.ia n0 x1 x2,g⟩::r) env rs nx m K):au Γ draw (⟨.ia n0 x1 x2,g⟩::r) env rs nx m K:=h
def tg20 (h:au Γ draw (⟨.ixS x0 x1,g⟩::r) env rs nx m K):au Γ draw (⟨.ixS x0 x1,g⟩::r) env rs nx m K:=h
def tg21 (h:au Γ draw (⟨.st n0 x1 x2,g⟩::r) env rs nx m K):au Γ draw (⟨.st n0 x1 x2,g⟩::r) env rs nx m K:=h
def tg22 (h:au Γ draw (⟨.len x0,g⟩::r) env rs nx m K):au Γ draw (⟨.len x0,g⟩::r) env rs nx m K:=h
def tg23 (h:au Γ draw (⟨.lenS x0,g⟩::r) env rs nx m K):au Γ draw (⟨.lenS x0,g⟩::r) env rs nx m K:=h
def tg24 (h:au Γ draw (⟨.rng x0,g⟩::r) env rs nx m K):au Γ draw (⟨.rng x0,g⟩::r) env rs nx m K:=h
def tg25 (h:au Γ draw (⟨.s2b x0,g⟩::r) env rs nx m K):au Γ draw (⟨.s2b x0,g⟩::r) env rs nx m K:=h
def tg26 (h:au Γ draw (⟨.mkB,g⟩::r) env rs nx m K):au Γ draw (⟨.mkB,g⟩::r) env rs nx m K:=h
def tg27 (h:au Γ draw (⟨.app n0 x1 x2,g⟩::r) env rs nx m K):au Γ draw (⟨.app n0 x1 x2,g⟩::r) env rs nx m K:=h
end
def ay {p q:Prop}(k:q)(h:Hid q qy→p:=by
 intro h;first
 |((with_reducible refine tg0 ?_);first|with_reducible exact ak h.1|with_reducible exact GN h.1|with_reducible exact Bt h.1|with_reducible exact Lw h.1|with_reducible exact D6 h.1|with_reducible exact wp_ret h.1|with_reducible exact wp_skip h.1|with_reducible exact Bs h.1|with_reducible exact wp_exit h.1|with_reducible exact zZ h.1 hm|with_reducible exact D5 h.1 hm)
 |((with_reducible refine tg1 ?_);(refine r_mv ?_;exact h.1))
 |((with_reducible refine tg2 ?_);first|(refine rrrh ?_;exact h.1)|(refine rrrg ?_;exact h.1))
 |((with_reducible refine tg3 ?_);first|(refine NM ?_;exact h.1)|(refine NN ?_;exact h.1))
 |((with_reducible refine tg4 ?_);first|exact cu (.int _ _) h.1|exact cu (.str _) h.1|(refine bV (v:=.str _) ?_;exact h.1)|(refine eC (v:=.str _) ?_;exact h.1)|(refine bV (v:=.int _ _) ?_;exact h.1)|(refine eC (v:=.int _ _) ?_;exact h.1)|exact cu (.sl _ _) h.1|exact cu (.own _ _ _ _) h.1|exact cu (.bool _) h.1|(refine bV (v:=.sl _ _) ?_;exact h.1)|(refine eC (v:=.sl _ _) ?_;exact h.1)|(refine bV (v:=.bool _) ?_;exact h.1)|(refine eC (v:=.bool _) ?_;exact h.1)|exact cD h.1|exact cu .av h.1)
 |((with_reducible refine tg5 ?_);first|(refine K8 ?_;exact h.1)|(refine K9 ?_;exact h.1))
 |((with_reducible refine tg6 ?_);first|(refine KZ ?_;exact h.1)|(refine K0 ?_;exact h.1))
 |((with_reducible refine tg7 ?_);(refine It ?_;exact h.1))
 |((with_reducible refine tg8 ?_);first|(refine A6 ?_;exact h.1)|(refine A7 ?_;exact h.1))
 |((with_reducible refine tg9 ?_);first|(refine La ?_;exact h.1)|(refine Lb ?_;exact h.1))
 |((with_reducible refine tg10 ?_);first|(refine K6 ?_;exact h.1)|(refine K7 ?_;exact h.1))
 |((with_reducible refine tg11 ?_);first|(refine K1 ?_;exact h.1)|(refine K2 ?_;exact h.1))
 |((with_reducible refine tg12 ?_);(refine Iv ?_;exact h.1))
 |((with_reducible refine tg13 ?_);first|exact fu (.int _ _) h.1|exact fu (.str _) h.1|exact fu (.bool _) h.1)
 |((with_reducible refine tg14 ?_);(refine NJ ?_;exact h.1))
 |((with_reducible refine tg15 ?_);(refine r_or ?_;exact h.1))
 |((with_reducible refine tg16 ?_);(refine NR ?_;exact h.1))
 |((with_reducible refine tg17 ?_);first|(refine Lc ?_;exact h.1)|(refine Lg ?_;exact h.1))
 |((with_reducible refine tg18 ?_);(refine NK ?_;exact h.1))
 |((with_reducible refine tg19 ?_);first|exact cJ _ h.1|exact Ge h.1|exact k8 _ h.1|exact K3 h.1)
 |((with_reducible refine tg20 ?_);first|exact B7 _ h.1|exact K4 h.1)
 |((with_reducible refine tg21 ?_);exact aJ _ h.1)
 |((with_reducible refine tg22 ?_);first|exact Gi fun a=>(h.1:_→_) (a rfl rfl)|exact Gj fun a=>(h.1:_→_) (a rfl rfl)|(refine K5 ?_;exact h.1))
 |((with_reducible refine tg23 ?_);exact Gk fun a=>(h.1:_→_) (a rfl rfl))
 |((with_reducible refine tg24 ?_);(refine NT ?_;exact h.1))
 |((with_reducible refine tg25 ?_);(refine NU ?_;exact h.1))
 |((with_reducible refine tg26 ?_);(refine NO ?_;exact h.1))
 |((with_reducible refine tg27 ?_);(refine iY ?_;exact h.1))
 |with_reducible exact BQ.normal h.1|with_reducible exact BQ.ret h.1|with_reducible exact LQ.normal h.1|with_reducible exact LQ.out h.1|with_reducible exact LQ.ret h.1|with_reducible exact BQ.out h.1|with_reducible exact z8.normal h.1|with_reducible exact z8.ret h.1|with_reducible exact Aa.normal h.1|with_reducible exact Aa.ret h.1|with_reducible exact z8.out h.1|with_reducible exact Aa.out h.1|with_reducible exact CQ.normal h.1|with_reducible exact CQ.ret h.1|with_reducible exact CQ.other h.1|((with_reducible refine BQ.other ?_ h.1);exact rfl)|((with_reducible refine LQ.other ?_ h.1);exact rfl)|((with_reducible refine z8.other ?_ h.1);exact rfl)|((with_reducible refine Aa.other ?_ h.1);exact rfl)):p:=h ⟨k⟩
def lr {p q:Prop}(k:q)(h:Hid q qy→p:=by intro h;first|exact Gi fun _=>h.1|exact Gk fun _=>h.1|exact Gj fun _=>h.1):p:=h ⟨k⟩
section
variable {Γ:Ctx} {Q:Ex→List aY→St→Prop}
end
def iA:(∀{p:Prop} [Decidable p],(decide p=true)=p)∧(∀{p:Prop} [Decidable p],decide p=false↔¬p)∧(∀b:Bool,((!b)=true)=(b=false))∧(∀b:Bool,((!b)=false)=(b=true))∧(∀b:Bool,(¬(b=false))=(b=true))∧(∀a b:Bool,((a ||b)=true)=(a=true∨b=true))∧(∀{a b:Bool},(a ||b)=false↔a=false∧b=false)∧(∀a b:Bool,((a&&b)=true)=(a=true∧b=true))∧(∀{a b:Bool},(a&&b)=false↔a=false∨b=false)∧(∀b:Bool,(¬(b=true))=(b=false))∧(∀b:Bool,(true&&b)=b)∧∀b:Bool,(b&&true)=b:=
 ⟨decide_eq_true_eq,decide_eq_false_iff_not,Bool.not_eq_true',Bool.not_eq_false',Bool.not_eq_false,Bool.or_eq_true,Bool.or_eq_false_iff,Bool.and_eq_true,Bool.and_eq_false_iff,Bool.not_eq_true,Bool.true_and,Bool.and_true⟩
section
variable {Γ:Ctx} {Q:Ex→List aY→St→Prop} {env:List aY} {st:St}
def cH {c:Src}{a b r:AC}{t:Bool}{c1 c2:Prop}(h1:c1→bB Γ (.seq a r) Q env st)(h2:c2→bB Γ (.seq b r) Q env st)(hc:bG env [] c=⟨true,.bool t⟩:=by exact rfl)(e1:t=true→c1:=by intro h;(try simp only[iA]at h);exact h)(e2:t=false→c2:=by intro h;(try simp only[iA]at h);exact h):bB Γ (.seq (.cond c a b) r) Q env st:=aq (fun h=>h1 (e1 h)) (fun h=>h2 (e2 h)) hc
def gv {c:Src}{a b:AC}{t:Bool}{c1 c2:Prop}(h1:c1→bB Γ a Q env st)(h2:c2→bB Γ b Q env st)(hc:bG env [] c=⟨true,.bool t⟩:=by exact rfl)(e1:t=true→c1:=by intro h;(try simp only[iA]at h);exact h)(e2:t=false→c2:=by intro h;(try simp only[iA]at h);exact h):bB Γ (.cond c a b) Q env st:=wp_cond (fun h=>h1 (e1 h)) (fun h=>h2 (e2 h)) hc
end
end Go.Abs
namespace Go.Abs
def ax {p q:Prop}(k:q)(h:Hid q qy→p:=by intro h;(iterate 2 refine ay ?_);exact h.1):p:=h ⟨k⟩
def az {p q:Prop}(k:q)(h:Hid q qy→p:=by intro h;(iterate 3 refine ay ?_);exact h.1):p:=h ⟨k⟩
def aA {p q:Prop}(k:q)(h:Hid q qy→p:=by intro h;(iterate 4 refine ay ?_);exact h.1):p:=h ⟨k⟩
def aQ {p q:Prop}(k:q)(h:Hid q qy→p:=by intro h;(iterate 5 refine ay ?_);exact h.1):p:=h ⟨k⟩
def aP {p q:Prop}(k:q)(h:Hid q qy→p:=by intro h;(iterate 6 refine ay ?_);exact h.1):p:=h ⟨k⟩
def bd {p q:Prop}(k:q)(h:Hid q qy→p:=by intro h;(iterate 7 refine ay ?_);exact h.1):p:=h ⟨k⟩
def bT {p q:Prop}(k:q)(h:Hid q qy→p:=by intro h;(iterate 8 refine ay ?_);exact h.1):p:=h ⟨k⟩
def dz {p q:Prop}(k:q)(h:Hid q qy→p:=by intro h;(iterate 9 refine ay ?_);exact h.1):p:=h ⟨k⟩
def jZ {p q:Prop}(k:q)(h:Hid q qy→p:=by intro h;(iterate 10 refine ay ?_);exact h.1):p:=h ⟨k⟩
def gG {p q:Prop}(k:q)(h:Hid q qy→p:=by intro h;(iterate 11 refine ay ?_);exact h.1):p:=h ⟨k⟩
def iP {p q:Prop}(k:q)(h:Hid q qy→p:=by intro h;(iterate 12 refine ay ?_);exact h.1):p:=h ⟨k⟩
def kn {p q:Prop}(k:q)(h:Hid q qy→p:=by intro h;(iterate 13 refine ay ?_);exact h.1):p:=h ⟨k⟩
def w9 {p q:Prop}(k:q)(h:Hid q qy→p:=by intro h;(iterate 14 refine ay ?_);exact h.1):p:=h ⟨k⟩
def z7 {p q:Prop}(k:q)(h:Hid q qy→p:=by intro h;(iterate 15 refine ay ?_);exact h.1):p:=h ⟨k⟩
def xa {p q:Prop}(k:q)(h:Hid q qy→p:=by intro h;(iterate 16 refine ay ?_);exact h.1):p:=h ⟨k⟩
def GQ {p q:Prop}(k:q)(h:Hid q qy→p:=by intro h;(iterate 17 refine ay ?_);exact h.1):p:=h ⟨k⟩
def Jy {p q:Prop}(k:q)(h:Hid q qy→p:=by intro h;(iterate 18 refine ay ?_);exact h.1):p:=h ⟨k⟩
def Jz {p q:Prop}(k:q)(h:Hid q qy→p:=by intro h;(iterate 21 refine ay ?_);exact h.1):p:=h ⟨k⟩
def N7 {p q:Prop}(k:q)(h:Hid q qy→p:=by intro h;(iterate 22 refine ay ?_);exact h.1):p:=h ⟨k⟩
def N8 {p q:Prop}(k:q)(h:Hid q qy→p:=by intro h;(iterate 24 refine ay ?_);exact h.1):p:=h ⟨k⟩
def JA {p q:Prop}(k:q)(h:Hid q qy→p:=by intro h;(iterate 25 refine ay ?_);exact h.1):p:=h ⟨k⟩
def N9 {p q:Prop}(k:q)(h:Hid q qy→p:=by intro h;(iterate 26 refine ay ?_);exact h.1):p:=h ⟨k⟩
def GR {p q:Prop}(k:q)(h:Hid q qy→p:=by intro h;(iterate 28 refine ay ?_);exact h.1):p:=h ⟨k⟩
def Oa {p q:Prop}(k:q)(h:Hid q qy→p:=by intro h;(iterate 29 refine ay ?_);exact h.1):p:=h ⟨k⟩
def JB {p q:Prop}(k:q)(h:Hid q qy→p:=by intro h;(iterate 36 refine ay ?_);exact h.1):p:=h ⟨k⟩
end Go.Abs
namespace Go.Abs
abbrev s0:Src:=.s 0
abbrev s1:Src:=.s 1
abbrev s2:Src:=.s 2
abbrev s3:Src:=.s 3
abbrev s4:Src:=.s 4
abbrev s5:Src:=.s 5
abbrev s6:Src:=.s 6
abbrev s7:Src:=.s 7
abbrev s8:Src:=.s 8
abbrev s9:Src:=.s 9
abbrev lP:Src:=.s 10
abbrev oS:Src:=.s 11
abbrev lu:Src:=.s 12
abbrev sQ:Src:=.s 13
abbrev sk:Src:=.s 14
abbrev wz:Src:=.s 15
abbrev Ch:Src:=.s 16
abbrev yf:Src:=.s 17
abbrev DT:Src:=.s 18
abbrev Lk:Src:=.s 19
abbrev GW:Src:=.s 20
abbrev s21:Src:=.s 21
abbrev s22:Src:=.s 22
abbrev s23:Src:=.s 23
abbrev LJ:Src:=.s 24
abbrev LK:Src:=.s 25
abbrev NV:Src:=.s 26
abbrev s27:Src:=.s 27
abbrev s28:Src:=.s 28
abbrev s29:Src:=.s 29
abbrev Js:Src:=.s 30
abbrev s31:Src:=.s 31
abbrev s32:Src:=.s 32
abbrev s33:Src:=.s 33
abbrev s34:Src:=.s 34
abbrev s35:Src:=.s 35
abbrev s36:Src:=.s 36
abbrev s37:Src:=.s 37
abbrev s38:Src:=.s 38
abbrev l0:Src:=.l 0
abbrev l1:Src:=.l 1
abbrev l2:Src:=.l 2
abbrev l3:Src:=.l 3
abbrev l4:Src:=.l 4
abbrev l5:Src:=.l 5
abbrev l6:Src:=.l 6
abbrev l7:Src:=.l 7
abbrev l8:Src:=.l 8
abbrev l9:Src:=.l 9
abbrev l10:Src:=.l 10
abbrev jx:Src:=.l 11
abbrev kJ:Src:=.l 12
abbrev me:Src:=.l 13
abbrev mV:Src:=.l 14
abbrev nV:Src:=.l 15
abbrev pP:Src:=.l 16
abbrev tP:Src:=.l 17
abbrev uV:Src:=.l 18
abbrev vZ:Src:=.l 19
abbrev yZ:Src:=.l 20
abbrev Ab:Src:=.l 21
abbrev BU:Src:=.l 22
abbrev Fg:Src:=.l 23
abbrev Fh:Src:=.l 24
abbrev Fi:Src:=.l 25
abbrev Jm:Src:=.l 26
abbrev KC:Src:=.l 27
abbrev LF:Src:=.l 28
abbrev LG:Src:=.l 29
abbrev NC:Src:=.l 30
abbrev l31:Src:=.l 31
abbrev l32:Src:=.l 32
abbrev l33:Src:=.l 33
abbrev l34:Src:=.l 34
abbrev l35:Src:=.l 35
abbrev l36:Src:=.l 36
abbrev l37:Src:=.l 37
abbrev gm (x:Src):GI:=⟨.mv x,none⟩
abbrev gn (x:aw):GI:=⟨x,none⟩
abbrev i6 (n:Int):Src:=.c (.int .i64 n)
abbrev cs (s:List UInt8):Src:=.c (.str s)
abbrev gd (x:Src):GI:=⟨.ld 1 false x,none⟩
abbrev gk (n:Nat)(b:Bool)(x:Src):GI:=⟨.ld n b x,none⟩
abbrev gf (n:Nat)(x:Src):GI:=⟨.fa n x,none⟩
abbrev gl (x:Src):GI:=⟨.len x,none⟩
abbrev ga (n:Nat)(x y:Src):GI:=⟨.ia n x y,none⟩
abbrev ge (x:Src)(n:Nat):GI:=⟨.ext x n,none⟩
abbrev gb (n:Nat)(x:Src):GI:=⟨.box n x,none⟩
abbrev gc (x:Src):GI:=⟨.nilck x,none⟩
abbrev gt (n:Nat)(x y:Src):GI:=⟨.st n x y,none⟩
abbrev gx (n:Nat)(x:List Src)(y:List (List Sh)):GI:=⟨.call n x y,none⟩
abbrev rg (x:List GI)(y:List (Nat×Nat)):AC:=.reg false x y
abbrev rt (x:List GI)(y:List (Nat×Nat)):AC:=.reg true x y
abbrev ph (x y:Src):aw:=.bin .lss x y
abbrev cM (x y:Src):aw:=.bin .eql x y
abbrev BC (x y:Src):aw:=.bin .add x y
abbrev du (x y:Src):aw:=.bin .gtr x y
abbrev dY (x y:Src):aw:=.bin .neq x y
abbrev mq (x y:Src):aw:=.bin .leq x y
abbrev yr (x y:Src):aw:=.bin .geq x y
abbrev mr (x y:Src):aw:=.bin .sub x y
abbrev Ev (x y:Src):aw:=.bin .and x y
abbrev c9:Src:=.c (.bool false)
abbrev sC:Src:=.c (.bool true)
abbrev cse:Src:=.c (.str [])
abbrev bF:Src:=.c (.int .i64 0)
abbrev cd:Src:=.c (.int .i64 1)
abbrev kS:Src:=.c (.int .i64 2)
abbrev kI:Src:=.c (.int .i64 3)
abbrev uU:Src:=.c (.int .i64 4)
abbrev AJ:Src:=.c (.int .i64 5)
abbrev AK:Src:=.c (.int .i64 6)
abbrev Ky:Src:=.c (.int .i64 7)
abbrev HP:Src:=.c (.int .i64 8)
abbrev BR:Src:=.c (.int .i64 9)
abbrev gmt (n:Nat)(x:Src):GI:=⟨.mv x,some (n,true)⟩
abbrev nF (n:Nat)(x:Src):GI:=⟨.ld 1 false x,some (n,true)⟩
abbrev pc (n o:Nat)(x:Src):GI:=⟨.fa o x,some (n,true)⟩
abbrev cG (n:Nat)(x:aw):GI:=⟨x,some (n,true)⟩
abbrev fj (n:Nat)(x:Src):GI:=⟨.mv x,some (n,false)⟩
abbrev iR (n:Nat)(x:Src):GI:=⟨.ld 1 false x,some (n,false)⟩
abbrev gJ (n o:Nat)(x:Src):GI:=⟨.fa o x,some (n,false)⟩
abbrev cb (n:Nat)(x:aw):GI:=⟨x,some (n,false)⟩
abbrev sq (a b:AC):AC:=.seq a b
abbrev AH (x:Src):AC:=.seq (.reg false [⟨.mv x,none⟩] [(1,0)]) .ret
abbrev n8 (c x:Src):AC:=.cond c (.seq (.reg false [⟨.mv x,none⟩] [(1,0)]) .ret) .skip
abbrev cv:List (List Sh):=[[.a]]
abbrev Ku:List (List Sh):=[[.a,.a,.a,.a,.a]]
abbrev Kv:List (List Sh):=[[.a,.a,.a,.a,.a,.a,.a]]
abbrev je:List (List Sh):=[[.a],[.a]]
abbrev Nw:List (List Sh):=[[.a],[.a],[.a]]
abbrev eZ (c x:Src):GI:=⟨.pick c (.c (.bool true)) x,none⟩
abbrev fR (c x:Src):GI:=⟨.pick c x (.c (.bool false)),none⟩
abbrev LB (n:Nat)(c x:Src):GI:=⟨.pick c (.c (.bool true)) x,some (n,true)⟩
abbrev Eb (n:Nat)(c x:Src):GI:=⟨.pick c x (.c (.bool false)),some (n,false)⟩
abbrev aV (x y:Src):GI:=⟨.bin .lss x y,none⟩
abbrev aF (x y:Src):GI:=⟨.bin .eql x y,none⟩
abbrev ar (x y:Src):GI:=⟨.bin .add x y,none⟩
abbrev dH (x y:Src):GI:=⟨.bin .gtr x y,none⟩
abbrev b8 (x y:Src):GI:=⟨.bin .neq x y,none⟩
abbrev Fw (x y:Src):GI:=⟨.bin .leq x y,none⟩
abbrev hX (x y:Src):GI:=⟨.bin .geq x y,none⟩
abbrev fI (x y:Src):GI:=⟨.bin .sub x y,none⟩
abbrev ir (c:Src)(n:Nat):AC:=.cond c .skip (.exit n)
abbrev i8 (n:Int):Src:=.c (.int .u8 n)
abbrev i3 (n:Int):Src:=.c (.int .i32 n)
abbrev iu (n:Int):Src:=.c (.int .u64 n)
abbrev ye (x:Src):GI:=⟨.lenS x,none⟩
abbrev n9 (x:Src):GI:=⟨.un .not x,none⟩
abbrev HH (x y:Src):GI:=⟨.ixS x y,none⟩
abbrev r1 (x:List GI)(a b:Nat):AC:=.reg false x [(a,b)]
abbrev r2 (x:List GI)(a b:Nat):AC:=.reg true x [(a,b)]
abbrev kC:List Ad:=[⟨1,none⟩]
end Go.Abs
end
section
namespace Go.Abs
open Go
def DO:aB:=⟨2,7,[⟨2,none⟩],cv,(sq (r1 [gm cse] 2 0) (sq (r1 [gm cse] 6 0) (sq (sq (r1 [gm bF] 3 0) (.block 0 (.loop (sq (sq (r1 [gm s3,gm s0,gl l1,aV l0 l2] 4 3) (ir s4 0)) (sq (.block 1 (sq (sq (r1 [gm s3,dH l0 bF] 5 1) (.cond s5 (r1 [gm s6,gm s1,gn (.bsl 1 (.int .u8 0) 1 [(0,l1)]),gn (.b2s l2),ar l0 l3,gm l4] 6 5) .skip)) (r1 [gm s6,gm s0,gm s3,ga 1 l1 l2,gd l3,ar l0 l4,gm l5] 6 6))) (r1 [gm s3,ar l0 cd,gm l1] 3 2)))))) (sq (r1 [gm s6,gm l0] 2 1) .ret))))⟩
def w249 {Γ:Ctx}(hm:(Γ.at 0).bq)  (l:List ah)(x:UInt8)  (hp0:(aG [x] l).length≤1099511627776):dX Γ DO (.str (aG [x] l)) [.sl 1 (l.map D.str),.int .u8 (x.toNat:Nat)]:=by
 show bB _ _ _ [⟨_,_⟩,⟨_,_⟩,_,_,_,_,_] _;refine ak ?_;refine dz ?_;refine bp hm (ι:=Nat) (fun i=>[⟨true,.sl 1 (l.map D.str)⟩,⟨true,.int .u8 (x.toNat:Nat)⟩,.un,⟨true,.int .i64 (i:Nat)⟩,.un,.un,⟨true,.str (aG [x] (l.take i))⟩]) (fun i=>[]) 3 (fun i=>i≤l.length) (fun i=>l.length-i) 0 (by omega) (dR []) ?_;intro i hi;refine aQ ?_;intro u0;refine ax ?_;refine cH (fun hc0=>?_) fun hc0=>?_
 ·refine aA ?_;have hj:=vW [x] l (i+1);refine az ?_;refine aq (fun hc1=>?_) (fun hc1=>?_)
  ·simp only[decide_eq_true_eq]at hc1;have ht:=oJ [x] l i (by omega);rw[if_pos (by omega)]at ht;have htl:=congrArg List.length ht;simp only[List.length_append,List.length_singleton]at htl;refine az ?_;refine cy [.int .u8 _] ?_;refine Gc [x] (he:=fun _=>r0.all ae rfl) (hs:=fun _=>rfl) ?_;refine dc (hb:=fun _=>by simp only[List.length_singleton];omega) ?_;refine bT ?_;refine dc (hb:=fun _=>by first|(simp only[List.length_append,List.length_singleton];omega)|(subst hi0;simp only[List.take_zero,aG,List.length_nil]at htl⊢;omega)) ?_;refine dz ?_;exact⟨i+1,(by omega),by omega,(aN.to [] ae ae (by repeat(first|exact c7.nil|refine c7.un ?_|refine c7.eq ae ?_|refine c7.nl (congrArg D.str (by rw[ht])) ae ?_)) zn)⟩
  simp only[decide_eq_false_iff_not]at hc1;have ht:=oJ [x] l i (by omega);rw[if_neg (by omega)]at ht;have htl:=congrArg List.length ht;simp only[List.length_append,List.length_nil]at htl;have hi0:i=0:=by omega
  refine bd ?_;refine dc (hb:=fun _=>by first|(simp only[List.length_append,List.length_singleton];omega)|(subst hi0;simp only[List.take_zero,aG,List.length_nil]at htl⊢;omega)) ?_;refine dz ?_;exact⟨i+1,(by omega),by omega,(aN.to [] ae ae (by repeat(first|exact c7.nil|refine c7.un ?_|refine c7.eq ae ?_|refine c7.nl (congrArg D.str (by rw[ht];subst hi0;rfl)) ae ?_)) zn)⟩
 refine bd ?_;refine cz ?_;rw[List.take_of_length_le (by omega)]
def L4 (Γ:Ctx):Prop:=∀(l:List ah)(x:UInt8),((aG [x] l).length≤1099511627776)→Γ.pre 249 [.sl 1 (l.map D.str),.int .u8 (x.toNat:Nat)]∧Γ.val 249 [.sl 1 (l.map D.str),.int .u8 (x.toNat:Nat)]=.str (aG [x] l)
def uz:aB:=⟨2,7,[⟨2,none⟩],cv,(sq (r1 [gm c9] 2 0) (sq (sq (r1 [gm s0,gl l0,gm s1,gl l2,b8 l1 l3] 3 4) (.cond s3 (sq (r1 [gm c9] 2 0) .ret) .skip)) (sq (sq (r1 [gm bF] 4 0) (.block 0 (.loop (sq (sq (r1 [gm s4,gm s0,gl l1,aV l0 l2] 5 3) (ir s5 0)) (sq (.block 1 (sq (r2 [gm s0,gm s4,ga 1 l0 l1,gd l2,gm s1,gm s4,ga 1 l4 l5,gd l6,b8 l3 l7] 6 8) (.cond s6 (sq (r1 [gm c9] 2 0) .ret) .skip))) (r1 [gm s4,ar l0 cd,gm l1] 4 2)))))) (sq (r1 [gm sC] 2 0) .ret))))⟩
def w226 {Γ:Ctx}(hm:(Γ.at 0).bq)  (a:List ah)(b:List ah)   :dX Γ uz (.bool (decide (a=b))) [.sl 1 (a.map D.str),.sl 1 (b.map D.str)]:=by
 show bB _ _ _ [⟨_,_⟩,⟨_,_⟩,_,_,_,_,_] _;refine ak ?_;refine aP ?_;intro u0;refine ax ?_;intro u1;refine ax ?_;refine cH (fun hc0=>?_) fun hc0=>?_
 ·refine aQ ?_;refine bD ?_;symm;rw[decide_eq_false_iff_not];rintro rfl;exact hc0 rfl
 refine aQ ?_;have hab:a.length=b.length:=by omega
 have hb:=lf hab;refine bp hm (ι:=Nat) (fun i=>[⟨true,.sl 1 (a.map D.str)⟩,⟨true,.sl 1 (b.map D.str)⟩,.un,.un,⟨true,.int .i64 (i:Nat)⟩,.un,.un]) (fun i=>[]) 7 (fun i=>i≤a.length∧decide (a=b)=ca (fun i=>decide (a[i]! =b[i]!)) i a.length) (fun i=>a.length-i) 0 ⟨by omega,hb⟩ (dR []) ?_;rintro i ⟨hi,hr⟩;refine aQ ?_;intro u2;refine ax ?_;refine cH (fun hc1=>?_) fun hc1=>?_
 ·refine kn ?_;refine wp_cond (fun hc2=>?_) (fun hc2=>?_)
  ·simp only[Bool.not_eq_true',decide_eq_false_iff_not]at hc2;refine aP ?_;refine bD ?_;rw[hr,aD (by omega),decide_eq_false hc2];rfl
  simp only[Bool.not_eq_false',decide_eq_true_eq]at hc2;refine bT ?_;exact⟨i+1,⟨by omega,by rw[hr,aD (by omega),decide_eq_true hc2];rfl⟩,by omega,(dR [])⟩
 refine aP ?_;refine bD ?_;rw[hr,bK (by omega)]
def JF (Γ:Ctx):Prop:=∀(a:List ah)(b:List ah),Γ.pre 226 [.sl 1 (a.map D.str),.sl 1 (b.map D.str)]∧Γ.val 226 [.sl 1 (a.map D.str),.sl 1 (b.map D.str)]=.bool (decide (a=b))
def vc:aB:=⟨1,5,kC,cv,(sq (r1 [gm c9] 1 0) (sq (sq (r1 [gm cd] 2 0) (.block 0 (.loop (sq (sq (r1 [gm s2,gm s0,gl l1,aV l0 l2] 3 3) (ir s3 0)) (sq (.block 1 (sq (r2 [gm s0,gm s2,fI l1 cd,ga 1 l0 l2,gd l3,gm s0,gm s2,ga 1 l5 l6,gd l7,hX l4 l8] 4 9) (n8 s4 c9))) (r1 [gm s2,ar l0 cd,gm l1] 2 2)))))) (AH sC)))⟩
def w447 {Γ:Ctx}(hm:(Γ.at 0).bq)  (l:List ah)   :dX Γ vc (.bool (rising l)) [.sl 1 (l.map D.str)]:=by
 show bB _ _ _ [⟨_,_⟩,_,_,_,_] _;refine ak ?_;refine aP ?_;refine bp hm (ι:=Nat) (fun i=>[⟨true,.sl 1 (l.map D.str)⟩,.un,⟨true,.int .i64 (i:Nat)⟩,.un,.un]) (fun i=>[]) 2 (fun i=>1≤i∧(i≤l.length∨i=1)∧rising l=ca (fun i=>Op.bytesLess l[i-1]! l[i]!) i l.length) (fun i=>l.length-i) 1 ⟨by omega,by omega,rfl⟩ (dR []) ?_;rintro i ⟨h1,hi,hr⟩;refine aQ ?_;intro u0;refine ax ?_;refine cH (fun hc0=>?_) fun hc0=>?_
 ·refine aP ?_;refine cJ (i-1) ?_;refine bd ?_;refine wp_cond (fun hc1=>?_) (fun hc1=>?_)
  ·simp only[Bool.not_eq_true']at hc1;refine aP ?_;refine bD ?_;rw[hr,aD (by omega),hc1];rfl
  simp only[Bool.not_eq_false']at hc1;refine bT ?_;exact⟨i+1,⟨by omega,by omega,by rw[hr,aD (by omega),hc1];rfl⟩,by omega,(dR [])⟩
 refine aP ?_;refine bD ?_;rw[hr,bK (by omega)]
def Md (Γ:Ctx):Prop:=∀(l:List ah),Γ.pre 447 [.sl 1 (l.map D.str)]∧Γ.val 447 [.sl 1 (l.map D.str)]=.bool (rising l)
end Go.Abs
end
section
namespace Go.Abs
open Go
def AM:aB:=⟨1,8,kC,cv,(sq (r1 [gm c9] 1 0) (sq (sq (r1 [gm s0,aF l0 cse,gm l1,fj 2 s0,cb 2 (.lenS l3),cb 2 (du l4 (i6 12)),eZ l2 l5] 2 6) (n8 s2 c9)) (sq (sq (r1 [gm s0,gn (.rng l0)] 3 1) (.block 0 (.loop (sq (rg [gn (.uW s3),ge l0 0] [(5,0),(4,1)]) (sq (ir s4 0) (.block 1 (sq (r1 [ge s5 2,gm l0] 6 1) (.block 2 (sq (sq (r1 [gm s6,hX l0 (i3 97),gm l1,gmt 2 s6,cG 2 (mq l3 (i3 122)),fR l2 l4,gm l5] 7 6) (.cond s7 .skip (sq (r1 [gm s6,hX l0 (i3 48),gm l1,gmt 2 s6,cG 2 (mq l3 (i3 57)),fR l2 l4,gm l5] 7 6) (.cond s7 .skip (r1 [gm s6,aF l0 (i3 95),gm l1] 7 2))))) (.cond s7 .skip (AH c9))))))))))) (AH sC))))⟩
def w349 {Γ:Ctx}(hm:(Γ.at 0).bq)  (s:ah)   :dX Γ AM (.bool (bI s)) [.str s]:=by
 show bB _ _ _ [⟨_,_⟩,_,_,_,_,_,_,_] _;refine ak ?_;refine bT ?_;refine lr ?_;refine az ?_;refine cH (fun hc0=>?_) fun hc0=>?_
 ·refine aQ ?_;refine bD ?_;symm;simp only[bI,Bool.and_eq_false_iff,decide_eq_false_iff_not];rcases hc0 with h|h
  ·subst h;exact Or.inl (Or.inl (by simp))
  ·exact Or.inl (by omega)
 refine aP ?_;have hP:bI s=ca (fun i=>vz (at8 s i)) 0 s.length:=by
  have:=List.length_pos_iff.2 hc0.1;simp only[bI];rw[decide_eq_true (by omega),decide_eq_true (by omega)];rfl
 refine bp hm (ι:=Nat) (fun i=>[⟨true,.str s⟩,.un,.un,⟨true,.it 9⟩,.un,.un,.un,.un]) (fun i=>[(9,.iter s i)]) 10 (fun i=>i≤s.length∧bI s=ca (fun i=>vz (at8 s i)) i s.length) (fun i=>s.length-i) 0 ⟨by omega,hP⟩ (dR [(9,9)]) ?_;rintro i ⟨hi,hr⟩;refine ay ?_;by_cases hnx:i<s.length
 ·obtain⟨c,w,hdec,hw,hcw⟩:=pB s i hnx;refine xR c w (hp:=hnx) (hc:=hdec) ?_;refine ax ?_;refine aq (t:=true) (fun _=>?_) (fun h=>by cases h);refine GQ ?_;refine cH (fun hc2=>?_) fun hc2=>?_
  ·refine ay ?_;refine gv (fun hc4=>?_) fun hc4=>?_
   ·refine aA ?_;obtain⟨rfl,hat,-⟩:w=1∧(c:Int)=at8 s i∧c<128:=by
     rcases hcw with h|h
     ·exact h
     ·omega
    have hz:vz (at8 s i)=true:=by
     simp only[vz,eK,aH,Bool.or_eq_true,Bool.and_eq_true,decide_eq_true_eq];omega
    exact⟨i+1,⟨by omega,by rw[hr,aD hnx,hz];rfl⟩,by omega,(dR [(9,9)])⟩
   refine bd ?_;refine bD ?_;first
    |(exfalso;omega)
    |(rw[hr,bK (by omega)];done)
    |(
     have hz:vz (at8 s i)=false:=by
      rcases hcw with⟨_,h,_⟩|⟨_,h⟩<;>(simp only[vz,eK,aH,Bool.or_eq_false_iff,Bool.and_eq_false_iff,decide_eq_false_iff_not];omega)
     rw[hr,aD hnx,hz];rfl)
  refine jZ ?_;refine cH (fun hc3=>?_) fun hc3=>?_
  ·refine ay ?_;refine gv (fun hc4=>?_) fun hc4=>?_
   ·refine aA ?_;obtain⟨rfl,hat,-⟩:w=1∧(c:Int)=at8 s i∧c<128:=by
     rcases hcw with h|h
     ·exact h
     ·omega
    have hz:vz (at8 s i)=true:=by
     simp only[vz,eK,aH,Bool.or_eq_true,Bool.and_eq_true,decide_eq_true_eq];omega
    exact⟨i+1,⟨by omega,by rw[hr,aD hnx,hz];rfl⟩,by omega,(dR [(9,9)])⟩
   refine bd ?_;refine bD ?_;first
    |(exfalso;omega)
    |(rw[hr,bK (by omega)];done)
    |(
     have hz:vz (at8 s i)=false:=by
      rcases hcw with⟨_,h,_⟩|⟨_,h⟩<;>(simp only[vz,eK,aH,Bool.or_eq_false_iff,Bool.and_eq_false_iff,decide_eq_false_iff_not];omega)
     rw[hr,aD hnx,hz];rfl)
  refine aQ ?_;refine gv (fun hc4=>?_) fun hc4=>?_
  ·refine aA ?_;obtain⟨rfl,hat,-⟩:w=1∧(c:Int)=at8 s i∧c<128:=by
    rcases hcw with h|h
    ·exact h
    ·omega
   have hz:vz (at8 s i)=true:=by
    simp only[vz,eK,aH,Bool.or_eq_true,Bool.and_eq_true,decide_eq_true_eq];omega
   exact⟨i+1,⟨by omega,by rw[hr,aD hnx,hz];rfl⟩,by omega,(dR [(9,9)])⟩
  refine bd ?_;refine bD ?_;first
   |(exfalso;omega)
   |(rw[hr,bK (by omega)];done)
   |(
    have hz:vz (at8 s i)=false:=by
     rcases hcw with⟨_,h,_⟩|⟨_,h⟩<;>(simp only[vz,eK,aH,Bool.or_eq_false_iff,Bool.and_eq_false_iff,decide_eq_false_iff_not];omega)
    rw[hr,aD hnx,hz];rfl)
 ·refine xQ (hp:=hnx) ?_;refine ax ?_;refine aq (t:=false) (fun h=>by cases h) (fun _=>?_);refine aP ?_;refine bD ?_;first
   |(exfalso;omega)
   |(rw[hr,bK (by omega)];done)
   |(
    have hz:vz (at8 s i)=false:=by
     rcases hcw with⟨_,h,_⟩|⟨_,h⟩<;>(simp only[vz,eK,aH,Bool.or_eq_false_iff,Bool.and_eq_false_iff,decide_eq_false_iff_not];omega)
    rw[hr,aD hnx,hz];rfl)
def Af (Γ:Ctx):Prop:=∀(s:ah),Γ.pre 349 [.str s]∧Γ.val 349 [.str s]=.bool (bI s)
def AL:aB:=⟨1,13,kC,cv,(sq (r1 [gm c9] 1 0) (sq (sq (r1 [gm s0,aF l0 cse,gm l1,fj 2 s0,cb 2 (.lenS l3),cb 2 (du l4 (i6 16)),eZ l2 l5] 2 6) (n8 s2 c9)) (sq (sq (r1 [gm s0,gn (.rng l0)] 3 1) (.block 0 (.loop (sq (rg [gn (.uW s3),ge l0 0] [(5,0),(4,1)]) (sq (ir s4 0) (.block 1 (sq (rg [ge s5 1,ge s5 2,gm l0,gm l1] [(9,2),(6,3)]) (.block 2 (sq (r1 [gm s6,hX l0 (i3 97),gm l1,gmt 2 s6,cG 2 (mq l3 (i3 122)),fR l2 l4,gm l5] 7 6) (.cond s7 .skip (sq (r1 [gm s6,hX l0 (i3 48),gm l1,gmt 2 s6,cG 2 (mq l3 (i3 57)),fR l2 l4,gm l5] 8 6) (.cond s8 (sq (r1 [gm s9,aF l0 bF] 10 1) (n8 lP c9)) (sq (r1 [gm s6,aF l0 (i3 45),gm l1] 11 2) (.cond oS (sq (r1 [gm s9,aF l0 bF,gm l1,fj 2 s9,fj 2 s0,cb 2 (.lenS l4),cb 2 (mr l5 cd),cb 2 (cM l3 l6),eZ l2 l7,gm l8,fj 9 s0,fj 9 s9,cb 9 (mr jx cd),cb 9 (.ixS l10 kJ),cb 9 (cM me (i8 45)),eZ l9 mV] 12 15) (n8 lu c9)) (AH c9))))))))))))))) (AH sC))))⟩
def w208 {Γ:Ctx}(hm:(Γ.at 0).bq)  (s:ah)   :dX Γ AL (.bool (ea s)) [.str s]:=by
 show bB _ _ _ [⟨_,_⟩,_,_,_,_,_,_,_,_,_,_,_,_] _;refine ak ?_;refine bT ?_;refine lr ?_;refine az ?_;refine cH (fun hc0=>?_) fun hc0=>?_
 ·refine aQ ?_;refine bD ?_;symm;simp only[ea];rcases hc0 with h|h
  ·subst h;simp
  ·rw[decide_eq_false (by omega:¬s.length≤16)];simp
 refine aP ?_;have h0:=List.length_pos_iff.2 hc0.1;have hP:=H7 s (by omega) (by omega);refine bp hm (ι:=Nat) (fun i=>[⟨true,.str s⟩,.un,.un,⟨true,.it 9⟩,.un,.un,.un,.un,.un,.un,.un,.un,.un]) (fun i=>[(9,.iter s i)]) 10 (fun i=>i≤s.length∧ea s=ca (kv s) i s.length) (fun i=>s.length-i) 0 ⟨by omega,hP⟩ (dR [(9,9)]) ?_;rintro i ⟨hi,hr⟩;refine ay ?_;by_cases hnx:i<s.length
 ·obtain⟨c,w,hdec,hw,hcw⟩:=pB s i hnx;refine xR c w (hp:=hnx) (hc:=hdec) ?_;refine ax ?_;refine aq (t:=true) (fun _=>?_) (fun h=>by cases h);refine Jy ?_;refine gv (fun hc2=>?_) fun hc2=>?_
  ·refine aA ?_;obtain⟨rfl,hat,-⟩:w=1∧(c:Int)=at8 s i∧c<128:=by
    rcases hcw with h|h
    ·exact h
    ·omega
   have hz:kv s i=true:=by
    simp only[kv,eK,aH,Bool.or_eq_true,Bool.and_eq_true,Bool.not_eq_true',decide_eq_true_eq,decide_eq_false_iff_not];omega
   exact⟨i+1,⟨by omega,by rw[hr,aD hnx,hz];rfl⟩,by omega,(dR [(9,9)])⟩
  refine dz ?_;refine gv (fun hc3=>?_) fun hc3=>?_
  ·refine aA ?_;refine gv (fun hc4=>?_) fun hc4=>?_
   ·refine bd ?_;refine bD ?_;first
     |(exfalso;omega)
     |(rw[hr,bK (by omega)];done)
     |(have hz:kv s i=false:=by
        rcases hcw with⟨_,h,_⟩|⟨_,h⟩<;>(simp only[kv,eK,aH,Bool.or_eq_false_iff,Bool.and_eq_false_iff,Bool.not_eq_false',decide_eq_true_eq,decide_eq_false_iff_not];omega)
       rw[hr,aD hnx,hz];rfl)
   refine aA ?_;obtain⟨rfl,hat,-⟩:w=1∧(c:Int)=at8 s i∧c<128:=by
    rcases hcw with h|h
    ·exact h
    ·omega
   have hz:kv s i=true:=by
    simp only[kv,eK,aH,Bool.or_eq_true,Bool.and_eq_true,Bool.not_eq_true',decide_eq_true_eq,decide_eq_false_iff_not];omega
   exact⟨i+1,⟨by omega,by rw[hr,aD hnx,hz];rfl⟩,by omega,(dR [(9,9)])⟩
  refine aQ ?_;refine gv (fun hc5=>?_) fun hc5=>?_
  ·refine aP ?_;refine lr ?_;refine bd ?_;refine B7 (i-1) ?_;refine az ?_;refine gv (fun hc6=>?_) fun hc6=>?_
   ·refine bd ?_;refine bD ?_;first
     |(exfalso;omega)
     |(rw[hr,bK (by omega)];done)
     |(have hz:kv s i=false:=by
        rcases hcw with⟨_,h,_⟩|⟨_,h⟩<;>(simp only[kv,eK,aH,Bool.or_eq_false_iff,Bool.and_eq_false_iff,Bool.not_eq_false',decide_eq_true_eq,decide_eq_false_iff_not];omega)
       rw[hr,aD hnx,hz];rfl)
   refine aA ?_;obtain⟨rfl,hat,-⟩:w=1∧(c:Int)=at8 s i∧c<128:=by
    rcases hcw with h|h
    ·exact h
    ·omega
   have hz:kv s i=true:=by
    simp only[kv,eK,aH,Bool.or_eq_true,Bool.and_eq_true,Bool.not_eq_true',decide_eq_true_eq,decide_eq_false_iff_not];omega
   exact⟨i+1,⟨by omega,by rw[hr,aD hnx,hz];rfl⟩,by omega,(dR [(9,9)])⟩
  refine bd ?_;refine bD ?_;first
   |(exfalso;omega)
   |(rw[hr,bK (by omega)];done)
   |(have hz:kv s i=false:=by
      rcases hcw with⟨_,h,_⟩|⟨_,h⟩<;>(simp only[kv,eK,aH,Bool.or_eq_false_iff,Bool.and_eq_false_iff,Bool.not_eq_false',decide_eq_true_eq,decide_eq_false_iff_not];omega)
     rw[hr,aD hnx,hz];rfl)
 ·refine xQ (hp:=hnx) ?_;refine ax ?_;refine aq (t:=false) (fun h=>by cases h) (fun _=>?_);refine aP ?_;refine bD ?_;first
   |(exfalso;omega)
   |(rw[hr,bK (by omega)];done)
   |(have hz:kv s i=false:=by
      rcases hcw with⟨_,h,_⟩|⟨_,h⟩<;>(simp only[kv,eK,aH,Bool.or_eq_false_iff,Bool.and_eq_false_iff,Bool.not_eq_false',decide_eq_true_eq,decide_eq_false_iff_not];omega)
     rw[hr,aD hnx,hz];rfl)
def G1 (Γ:Ctx):Prop:=∀(s:ah),Γ.pre 208 [.str s]∧Γ.val 208 [.str s]=.bool (ea s)
def xw:aB:=⟨1,10,[⟨1,none⟩,⟨2,none⟩],je,(sq (rg [gm bF,gm c9] [(1,0),(2,1)]) (sq (sq (r1 [gm s0,aF l0 cse,gm l1,fj 2 s0,cb 2 (.lenS l3),cb 2 (du l4 uU),eZ l2 l5,gm l6,fj 7 s0,cb 7 (.ixS l8 bF),cb 7 (cM l9 (i8 48)),fj 7 l10,gmt 11 s0,cG 11 (.lenS kJ),cG 11 (du me cd),Eb 7 jx mV,eZ l7 nV] 3 16) (.cond s3 (sq (rg [gm bF,gm c9] [(1,0),(2,1)]) .ret) .skip)) (sq (r1 [gm bF] 9 0) (sq (sq (r1 [gm s0,gn (.rng l0)] 4 1) (.block 0 (.loop (sq (rg [gn (.uW s4),ge l0 0] [(6,0),(5,1)]) (sq (ir s5 0) (.block 1 (sq (r1 [ge s6 2,gm l0] 7 1) (.block 2 (sq (r1 [gm s7,hX l0 (i3 48),gm l1,gmt 2 s7,cG 2 (mq l3 (i3 57)),fR l2 l4,gm l5] 8 6) (.cond s8 (r1 [gm s9,gn (.bin .mul (i6 10) l0),gm s7,fI l2 (i3 48),gn (.cvi .i64 l3),ar l1 l4,gm l5] 9 6) (sq (rg [gm bF,gm c9] [(1,0),(2,1)]) .ret))))))))))) (sq (rg [gm s9,gm s9,Fw l1 (i6 9999),gm l0,gm l2] [(1,3),(2,4)]) .ret)))))⟩
def w658 {Γ:Ctx}(hm:(Γ.at 0).bq)  (s:ah)   :dX Γ xw (.tup [.int .i64 (cW s),.bool (dJ s)]) [.str s]:=by
 show bB _ _ _ [⟨_,_⟩,_,_,_,_,_,_,_,_,_] _;refine ak ?_;refine dz ?_;refine lr ?_;refine aA ?_;refine B7 0 (hb:=fun h=>by simp at h;exact List.length_pos_iff.2 h.1) ?_;refine az ?_;refine lr ?_;refine aA ?_;refine cH (fun hc0=>?_) fun hc0=>?_
 ·refine aP ?_;refine cl (aS (congrArg (D.int .i64) ?_) (congrArg D.bool ?_));all_goals
   have:dJ s=false:=by
    rw[xE];rcases hc0 with(h|h)|h
    ·subst h;simp
    ·rw[decide_eq_false (by omega:¬s.length≤4)];simp
    ·rw[decide_eq_true (by omega:1<s.length),decide_eq_true h.1];simp
   simp[cW,this]
 refine dz ?_;have h0:=List.length_pos_iff.2 hc0.1.1;have hP:dJ s=ca (fun i=>aH (at8 s i)) 0 s.length:=by
  rw[xE,decide_eq_true (by omega:1≤s.length),decide_eq_true (by omega:s.length≤4)];rcases hc0.2 with h|h
  ·rw[decide_eq_false h,Bool.and_false];rfl
  ·rw[decide_eq_false (by omega:¬1<s.length)];rfl
 refine bp hm (ι:=Nat) (fun i=>[⟨true,.str s⟩,.un,.un,.un,⟨true,.it 21⟩,.un,.un,.un,.un,⟨true,.int .i64 (ct (s.take i):Nat)⟩]) (fun i=>[(21,.iter s i)]) 22 (fun i=>i≤s.length∧s.length≤4∧dJ s=ca (fun i=>aH (at8 s i)) i s.length) (fun i=>s.length-i) 0 ⟨by omega,by omega,hP⟩ (dR [(21,21)]) ?_;rintro i ⟨hi,h9,hr⟩;refine ay ?_;by_cases hnx:i<s.length
 ·obtain⟨c,w,hdec,hw,hcw⟩:=pB s i hnx;refine xR c w (hp:=hnx) (hc:=hdec) ?_;refine ax ?_;refine aq (t:=true) (fun _=>?_) (fun h=>by cases h);refine xa ?_;refine gv (fun hc2=>?_) fun hc2=>?_
  ·refine ay ?_;obtain⟨rfl,hat,-⟩:w=1∧(c:Int)=at8 s i∧c<128:=by
    rcases hcw with h|h
    ·exact h
    ·omega
   have hn:=pU s i (by omega);have hn2:=rK s i (by omega);have h256:=Eu s i;refine ay ?_;refine sP ?_;refine ay ?_;refine Gl ((c:Int) -48) (hb:=fun _=>IntWalk.i32_in _ (by omega)) ?_;refine rM ((c:Int) -48) (hb:=fun _=>IntWalk.i64_in _ (by omega)) ?_;refine az ?_;rw[show 10*(ct (s.take i):Int)+((c:Int) -48)=(ct (s.take (i+1)):Nat)by omega];refine az ?_;have hz:aH (at8 s i)=true:=by
    simp only[aH,Bool.and_eq_true,decide_eq_true_eq];omega
   exact⟨i+1,⟨by omega,h9,by rw[hr,aD (by omega),hz];rfl⟩,by omega,(dR [(21,21)])⟩
  refine bT ?_;refine cl (aS (congrArg (D.int .i64) ?_) (congrArg D.bool ?_));all_goals
   have hz:aH (at8 s i)=false:=by
    rcases hcw with⟨_,h,_⟩|⟨_,h⟩<;>(simp only[aH,Bool.and_eq_false_iff,decide_eq_false_iff_not];omega)
   have:dJ s=false:=by rw[hr,aD (by omega),hz];rfl
   simp[cW,this]
 ·refine xQ (hp:=hnx) ?_;refine ax ?_;refine aq (t:=false) (fun h=>by cases h) (fun _=>?_);refine jZ ?_;refine cl (aS (congrArg (D.int .i64) ?_) (congrArg D.bool ?_));all_goals
   have this:dJ s=true:=by rw[hr,bK (by omega)]
   have ht:s.take i=s:=List.take_of_length_le (by omega);have h9:=this;simp only[dJ,Bool.and_eq_true,decide_eq_true_eq]at h9;have h99:=h9.2;rw[ht];first
   |(simp only[cW,this];rfl)
   |(rw[this,decide_eq_true_eq];omega)
def G6 (Γ:Ctx):Prop:=∀(s:ah),Γ.pre 658 [.str s]∧Γ.val 658 [.str s]=.tup [.int .i64 (cW s),.bool (dJ s)]
end Go.Abs
end
section
namespace Go.Abs
open Go
def yU:aB:=⟨2,10,[⟨2,none⟩],[[.sl 1 [.a]]],(sq (r1 [gm (.c (.av))] 2 0) (sq (r1 [gm (.c (.av))] 8 0) (sq (r1 [gm bF] 9 0) (sq (sq (rg [gm s0,ye l0,gm bF] [(4,1),(3,2)]) (.block 0 (.loop (sq (r1 [aV s3 s4] 5 0) (sq (ir s5 0) (sq (.block 1 (sq (r1 [gm s3,gm l0] 6 1) (sq (r1 [gm s0,gm s6,HH l0 l1,gm s1,aF l2 l3] 7 4) (.cond s7 (sq (r1 [gm s8,gm s0,gm s9,gm s6,gn (.slS l1 (some l2) (some l3)),gn (.bsl 1 (.str []) 1 [(0,l4)]),gn (.app 1 l0 l5),gm l6] 8 7) (r1 [gm s6,ar l0 cd,gm l1] 9 2)) .skip)))) (r1 [ar s3 cd,gm l0] 3 1))))))) (sq (r1 [gm s8,gm s0,gm s9,gn (.slS l1 (some l2) none),gn (.bsl 1 (.str []) 1 [(0,l3)]),gn (.app 1 l0 l4),gm l5] 2 6) .ret)))))⟩
def w533 {Γ:Ctx}(hm:(Γ.at 0).bq)  (s:ah)(b:Int)  (hp0:s.length≤1048576):dX Γ yU (.sl 1 ((ai s b).map D.str)) [.str s,.int .u8 b]:=by
 show bB _ _ _ [⟨_,_⟩,⟨_,_⟩,_,_,_,_,_,_,_,_] _;refine ak ?_;refine iP ?_;intro u0;refine ax ?_;refine bp hm (ι:=(Nat×Nat×List ah)) (fun p:Nat×Nat×List ah=>[⟨true,.str s⟩,⟨true,.int .u8 b⟩,.un,⟨true,.int .i64 (p.1:Nat)⟩,⟨true,.int .i64 (s.length:Nat)⟩,.un,.un,.un,⟨true,.own 0 1 0 p.2.2.length⟩,⟨true,.int .i64 (p.2.1:Nat)⟩]) (fun p=>[(0,.buf 1 (p.2.2.map D.str))]) 6 (fun p=>p.1≤s.length∧p.2.1≤p.1∧p.2.2.length≤p.1∧ai s b=p.2.2++bg b (s.drop p.1) ((s.take p.1).drop p.2.1)) (fun p=>s.length-p.1) (0,0,[]) ⟨by simp,by simp,by simp,rfl⟩ (aN.to [] ae ae (by repeat(first|exact c7.nil|refine c7.un ?_|refine c7.eq ae ?_|refine c7.nl ae ae ?_|refine c7.ni (Or.inr ⟨0,1,0,rfl⟩) ?_)) (by repeat(first|exact aC.nil|refine aC.mt ae ae ae ae ?_))) ?_;rintro⟨i,fr,acc⟩ ⟨hi,hf,ha,hr⟩;dsimp only at hi hf ha hr⊢;refine az ?_;refine cH (fun hc0=>?_) fun hc0=>?_
 ·refine kn ?_;refine wp_cond (fun hc1=>?_) (fun hc1=>?_)
  ·try simp only[iA]at hc1
   refine aQ ?_;refine zp _ _ ?_;refine cy [(.str _)] ?_;refine w9 ?_;exact⟨(i+1,i+1,acc++[(s.take i).drop fr]),⟨by dsimp only;omega,by dsimp only;omega,by simp;omega,by rw[hr,wE (by omega) hc1];simp⟩,by dsimp only;omega,(aN.to [(20,0)] ae ae lO (by refine aC.nl 20 ae ae ae bY ?_;exact aC.nil))⟩
  simp only[decide_eq_false_iff_not]at hc1;refine bd ?_;exact⟨(i+1,fr,acc),⟨by dsimp only;omega,by dsimp only;omega,by dsimp only;omega,by rw[hr,wF (by omega) (by omega) hc1]⟩,by dsimp only;omega,(aN.to [(0,0)] ae ae lO (by refine aC.nl 0 ae ae ae bY ?_;exact aC.nil))⟩
 refine aP ?_;refine m7 _ ?_;refine cy [(.str _)] ?_;refine az ?_;refine eu 12 ?_;refine ay ?_;refine cl (?_);have hs:ai s b=acc++[s.drop fr]:=by rw[hr,uF (by omega)]
 rw[hs];exact rfl
def Ei (Γ:Ctx):Prop:=∀(s:ah)(b:Int),(s.length≤1048576)→Γ.pre 533 [.str s,.int .u8 b]∧Γ.val 533 [.str s,.int .u8 b]=.sl 1 ((ai s b).map D.str)
def sw:aB:=⟨1,7,kC,cv,(sq (r1 [gm c9] 1 0) (sq (sq (rg [gm s0,ye l0,gm bF] [(3,1),(2,2)]) (.block 0 (.loop (sq (r1 [aV s2 s3] 4 0) (sq (ir s4 0) (sq (.block 1 (sq (r1 [gm s2,gm l0] 5 1) (sq (r1 [gm s0,gm s5,HH l0 l1,aV l2 (i8 48),gm l3,fj 4 s0,fj 4 s5,cb 4 (.ixS l5 l6),cb 4 (du l7 (i8 57)),eZ l4 l8] 6 9) (n8 s6 c9)))) (r1 [ar s2 cd,gm l0] 2 1))))))) (sq (r1 [gm s0,b8 l0 cse,gm l1] 1 2) .ret)))⟩
def w659 {Γ:Ctx}(hm:(Γ.at 0).bq)  (t:ah)   :dX Γ sw (.bool (dp t)) [.str t]:=by
 show bB _ _ _ [⟨_,_⟩,_,_,_,_,_,_] _;refine ak ?_;refine aP ?_;intro u0;refine ax ?_;refine bp hm (ι:=Nat) (fun i=>[⟨true,.str t⟩,.un,⟨true,.int .i64 (i:Nat)⟩,⟨true,.int .i64 (t.length:Nat)⟩,.un,.un,.un]) (fun i=>[]) 4 (fun i=>i≤t.length∧ca (fun i=>aH (at8 t i)) 0 t.length=ca (fun i=>aH (at8 t i)) i t.length) (fun i=>t.length-i) 0 ⟨by omega,rfl⟩ (dR []) ?_;rintro i ⟨hi,hr⟩;refine az ?_;refine cH (fun hc0=>?_) fun hc0=>?_
 ·refine Jy ?_;refine gv (fun hc1=>?_) fun hc1=>?_
  ·refine aP ?_;refine bD ?_;simp only[dp];rw[hr,aD (by omega)];rcases hc1 with h|h<;>simp[aH]<;>omega
  refine bd ?_;exact⟨i+1,⟨by omega,by rw[hr,aD (by omega)];rw[show aH (at8 t i)=true by simp only[aH,Bool.and_eq_true,decide_eq_true_eq];omega];rfl⟩,by omega,(dR [])⟩
 refine bT ?_;refine bD ?_;simp only[dp];rw[hr,bK (by omega)];cases t<;>simp
def Mt (Γ:Ctx):Prop:=∀(t:ah),Γ.pre 659 [.str t]∧Γ.val 659 [.str t]=.bool (dp t)
def x7:aB:=⟨1,2,kC,cv,(sq (r1 [gm c9] 1 0) (sq (r1 [gm s0,hX l0 bF,gm l1,gmt 2 s0,cG 2 (mq l3 (i6 9999)),fR l2 l4,gm l5] 1 6) .ret))⟩
def w440 {Γ:Ctx}(hm:(Γ.at 0).bq)  (n:Int)   :dX Γ x7 (.bool (pH n)) [.int .i64 n]:=by
 show bB _ _ _ [⟨_,_⟩,_] _;refine ak ?_;refine iP ?_;exact bD rfl
def L7 (Γ:Ctx):Prop:=∀(n:Int),Γ.pre 440 [.int .i64 n]∧Γ.val 440 [.int .i64 n]=.bool (pH n)
def uO:aB:=⟨2,9,[⟨2,none⟩,⟨3,none⟩],je,(sq (rg [gm cse,gm cse] [(2,0),(3,1)]) (sq (sq (rg [gm s0,ye l0,gm bF] [(5,1),(4,2)]) (.block 0 (.loop (sq (r1 [aV s4 s5] 6 0) (sq (ir s6 0) (sq (.block 1 (sq (r1 [gm s4,gm l0] 7 1) (sq (r1 [gm s0,gm s7,HH l0 l1,gm s1,aF l2 l3] 8 4) (.cond s8 (sq (rt [gm s0,gm s7,ar l1 cd,gn (.slS l0 (some l2) none),gm s0,gm s7,gn (.slS l4 none (some l5)),gm l3,gm l6] [(2,7),(3,8)]) .ret) .skip)))) (r1 [ar s4 cd,gm l0] 4 1))))))) (sq (rg [gm s0,gm cse,gm l0] [(2,1),(3,2)]) .ret)))⟩
def w675 {Γ:Ctx}(hm:(Γ.at 0).bq)  (s:ah)(b:Int)   :dX Γ uO (.tup [.str (cK s b).1,.str (cK s b).2]) [.str s,.int .u8 b]:=by
 show bB _ _ _ [⟨_,_⟩,⟨_,_⟩,_,_,_,_,_,_,_] _;refine ak ?_;refine bd ?_;intro u0;refine ax ?_;refine bp hm (ι:=Nat) (fun i=>[⟨true,.str s⟩,⟨true,.int .u8 b⟩,.un,.un,⟨true,.int .i64 (i:Nat)⟩,⟨true,.int .i64 (s.length:Nat)⟩,.un,.un,.un]) (fun i=>[]) 5 (fun i=>i≤s.length∧cK s b=fC s b i) (fun i=>s.length-i) 0 ⟨by omega,rfl⟩ (dR []) ?_;rintro i ⟨hi,hr⟩;refine az ?_;refine cH (fun hc0=>?_) fun hc0=>?_
 ·refine kn ?_;refine gv (fun hc1=>?_) fun hc1=>?_
  ·refine aA ?_;refine m7 (i+1) ?_;refine ax ?_;refine uv _ ?_;refine aP ?_;refine cl (aS (congrArg D.str ?_) (congrArg D.str ?_));all_goals rw[hr,Ao (by omega) hc1]
  refine bd ?_;exact⟨i+1,⟨by omega,by rw[hr,Ap (by omega) hc1]⟩,by omega,(dR [])⟩
 refine bT ?_;refine cl (aS (congrArg D.str ?_) (congrArg D.str ?_));all_goals rw[hr,yw (by omega)]
def My (Γ:Ctx):Prop:=∀(s:ah)(b:Int),Γ.pre 675 [.str s,.int .u8 b]∧Γ.val 675 [.str s,.int .u8 b]=.tup [.str (cK s b).1,.str (cK s b).2]
def x8:aB:=⟨1,15,kC,cv,(sq (r1 [gm c9] 1 0) (sq (r1 [gm s0,gx 533 [l0,(i8 46)] je,gm l1] 2 2) (sq (r1 [gm s2,gl l0,Fw l1 uU,gm l2] 14 3) (sq .skip (sq (sq (rg [gm s2,gl l0,gm bF] [(6,0),(4,1),(3,2)]) (.block 0 (.loop (sq (r1 [aV s3 s4] 5 0) (sq (ir s5 0) (sq (.block 1 (sq (r1 [ga 1 s6 s3,gd l0,gm l1] 7 2) (sq (sq (r1 [gm s7,aF l0 cse,gm l1,fj 2 s7,cb 2 (.lenS l3),cb 2 (du l4 HP),eZ l2 l5] 8 6) (.cond s8 (sq (r1 [gm c9] 14 0) (.exit 0)) .skip)) (sq (r1 [gm s7,gn (.rng l0)] 9 1) (.block 2 (.loop (sq (rg [gn (.uW s9),ge l0 0] [(11,0),(10,1)]) (sq (ir lP 2) (.block 3 (sq (r1 [ge oS 2,gm l0] 12 1) (sq (r1 [gm lu,aV l0 (i3 97),gm l1,fj 2 lu,cb 2 (du l3 (i3 122)),eZ l2 l4,gm l5,gmt 6 lu,cG 6 (ph l7 (i3 48)),gmt 6 l8,fj 9 lu,cb 9 (du l10 (i3 57)),LB 6 l9 jx,fR l6 kJ,gm me,gmt 14 lu,cG 14 (dY nV (i3 45)),fR mV pP] 13 17) (.cond sQ (sq (r1 [gm c9] 14 0) (.exit 0)) .skip)))))))))))) (r1 [ar s3 cd,gm l0] 3 1))))))) (sq (r1 [gm sk,gm l0] 1 1) .ret))))))⟩
def w442 {Γ:Ctx}(hm:(Γ.at 0).bq)(h533:Ei Γ)(s:ah)  (hp0:s.length≤1048576):dX Γ x8 (.bool (ji s false)) [.str s]:=by
 show bB _ _ _ [⟨_,_⟩,_,_,_,_,_,_,_,_,_,_,_,_,_,_] _;refine ak ?_;refine aA ?_;refine aj (hc:=h533 _ _ ?_) ?_;rotate_left;first|assumption|omega;have hlen:=cS s 46
 refine aQ ?_;intro u0;refine bT ?_;intro u1;refine ax ?_;refine bp hm (ι:=Nat) (fun i=>[.un,.un,⟨true,.sl 1 ((ai s 46).map D.str)⟩,⟨true,.int .i64 (i:Nat)⟩,⟨true,.int .i64 ((ai s 46).length:Nat)⟩,.un,⟨true,.sl 1 ((ai s 46).map D.str)⟩,.un,.un,.un,.un,.un,.un,.un,⟨true,.bool (decide (((ai s 46).length:Int)≤4))⟩]) (fun i=>[]) 11 (fun i=>i≤(ai s 46).length∧ji s false=(decide ((ai s 46).length≤4)&&ca (fun i=>er false (ai s 46)[i]!) i (ai s 46).length)) (fun i=>(ai s 46).length-i) 0 ⟨by omega,rfl⟩ (dR []) ?_;rintro i ⟨hi,hr⟩;refine az ?_;refine cH (fun hc0=>?_) fun hc0=>?_
 ·refine dz ?_;generalize ht:(ai s 46)[i]! =t;refine aA ?_;refine lr ?_;refine az ?_;refine cH (fun hc1=>?_) fun hc1=>?_
  ·refine iP ?_;refine bD ?_;first
    |(rw[hr,bK (by omega),Bool.and_true];exact decide_eq_decide.2 (by omega))
    |(have hb:mi t=false:=by
       first
       |(simp only[mi];rcases hc1 with h|h
         ·subst h;simp
         ·rw[decide_eq_false (by omega:¬t.length≤8)];simp)
       |(have hz:js (at8 t j)=false:=by
          rcases hcw with⟨_,h,_⟩|⟨_,h⟩<;>(simp only[js,eK,aH,Bool.or_eq_false_iff,Bool.and_eq_false_iff,decide_eq_false_iff_not];omega)
         rw[hj,aD hnx,hz];rfl)
      rw[hr,aD (by omega),show er false (ai s 46)[i]! =false from(by simp only[er,ht,hb,Bool.false_and])];simp)
  refine aQ ?_;have hT:mi t=ca (fun i=>js (at8 t i)) 0 t.length:=by
   have:=List.length_pos_iff.2 hc1.1;simp only[mi];rw[decide_eq_true (by omega),decide_eq_true (by omega)];rfl
  refine p8 hm (ι:=Nat) (fun j=>[.un,.un,⟨true,.sl 1 ((ai s 46).map D.str)⟩,⟨true,.int .i64 (i:Nat)⟩,⟨true,.int .i64 ((ai s 46).length:Nat)⟩,.un,⟨true,.sl 1 ((ai s 46).map D.str)⟩,.un,.un,⟨true,.it 23⟩,.un,.un,.un,.un,⟨true,.bool (decide (((ai s 46).length:Int)≤4))⟩]) (fun j=>[(23,.iter t j)]) 24 (fun j=>j≤t.length∧mi t=ca (fun i=>js (at8 t i)) j t.length) (fun j=>t.length-j) 0 ⟨by omega,hT⟩ (dR [(23,23)]) ?_;rintro j ⟨hj0,hj⟩;refine ay ?_;by_cases hnx:j<t.length
  ·obtain⟨c,w,hdec,hw,hcw⟩:=pB t j hnx;refine xR c w (hp:=hnx) (hc:=hdec) ?_;refine ax ?_;refine aq (t:=true) (fun _=>?_) (fun h=>by cases h);refine N9 ?_;refine gv (fun hc3=>?_) fun hc3=>?_
   ·refine kn ?_;refine bD ?_;first
     |(rw[hr,bK (by omega),Bool.and_true];exact decide_eq_decide.2 (by omega))
     |(have hb:mi t=false:=by
        first
        |(simp only[mi];rcases hc1 with h|h
          ·subst h;simp
          ·rw[decide_eq_false (by omega:¬t.length≤8)];simp)
        |(have hz:js (at8 t j)=false:=by
           rcases hcw with⟨_,h,_⟩|⟨_,h⟩<;>(simp only[js,eK,aH,Bool.or_eq_false_iff,Bool.and_eq_false_iff,decide_eq_false_iff_not];omega)
          rw[hj,aD hnx,hz];rfl)
       rw[hr,aD (by omega),show er false (ai s 46)[i]! =false from(by simp only[er,ht,hb,Bool.false_and])];simp)
   refine az ?_;obtain⟨rfl,hat,-⟩:w=1∧(c:Int)=at8 t j∧c<128:=by
    rcases hcw with h|h
    ·exact h
    ·omega
   have hz:js (at8 t j)=true:=by
    simp only[js,eK,aH,Bool.or_eq_true,Bool.and_eq_true,decide_eq_true_eq];omega
   exact⟨j+1,⟨by omega,by rw[hj,aD hnx,hz];rfl⟩,by omega,(dR [(23,23)])⟩
  ·refine xQ (hp:=hnx) ?_;refine ax ?_;refine aq (t:=false) (fun h=>by cases h) (fun _=>?_);refine bT ?_;exact⟨i+1,⟨by omega,by rw[hr,aD (by omega)];rw[show er false (ai s 46)[i]! =true from(by simp only[er,Bool.false_and,Bool.not_false,Bool.and_true];rw[ht,hj,bK (by omega)])];rfl⟩,by omega,(dR [])⟩
 refine bd ?_;refine bD ?_;first
  |(rw[hr,bK (by omega),Bool.and_true];exact decide_eq_decide.2 (by omega))
  |(have hb:mi t=false:=by
     first
     |(simp only[mi];rcases hc1 with h|h
       ·subst h;simp
       ·rw[decide_eq_false (by omega:¬t.length≤8)];simp)
     |(have hz:js (at8 t j)=false:=by
        rcases hcw with⟨_,h,_⟩|⟨_,h⟩<;>(simp only[js,eK,aH,Bool.or_eq_false_iff,Bool.and_eq_false_iff,decide_eq_false_iff_not];omega)
       rw[hj,aD hnx,hz];rfl)
    rw[hr,aD (by omega),show er false (ai s 46)[i]! =false from(by simp only[er,ht,hb,Bool.false_and])];simp)
def JJ (Γ:Ctx):Prop:=∀(s:ah),(s.length≤1048576)→Γ.pre 442 [.str s]∧Γ.val 442 [.str s]=.bool (ji s false)
end Go.Abs
end
section
namespace Go.Abs
open Go
def L6 (Γ:Ctx):Prop:=∀(n:Int),(0≤n∧n≤9999)→Γ.pre 336 [.int .i64 n]∧Γ.val 336 [.int .i64 n]=.str (bR n.toNat)
def G2 (Γ:Ctx):Prop:=∀(l:List ah)(sep:ah),(l.length≤1048600)→(sep.length≤4)→(∀t∈l,t.length≤2097200)→Γ.pre 242 [.sl 1 (l.map D.str),.str sep]∧Γ.val 242 [.sl 1 (l.map D.str),.str sep]=.str (aG sep l)
def Ef (Γ:Ctx):Prop:=∀(s:ah)(b:UInt8),(s.length≤1048576)→Γ.pre 124 [.str s,.str [b]]∧Γ.val 124 [.str s,.str [b]]=.sl 1 ((ai s b.toNat).map D.str)
def Mp (Γ:Ctx):Prop:=∀(s:ah)(b:UInt8),(s.length≤1048576)→Γ.pre 487 [.str s,.str [b]]∧Γ.val 487 [.str s,.str [b]]=.tup [.str (dW s b).1,.str (dW s b).2.1,.bool (dW s b).2.2]
def L5 (Γ:Ctx):Prop:=∀(s:ah)(p:ah),(s.length≤1048576)→(p.length≤1048576)→Γ.pre 254 [.str s,.str p]∧Γ.val 254 [.str s,.str p]=.tup [.str (cY s p).1,.bool (cY s p).2]
end Go.Abs
end
section
namespace Go.Abs
open Go
def zS:aB:=⟨1,10,kC,cv,(sq (r1 [gm c9] 1 0) (sq (sq (r1 [gm s0,gx 442 [l0] cv,n9 l1] 2 2) (n8 s2 c9)) (sq (sq (rg [gm s0,gx 533 [l0,(i8 46)] je,gl l1,gm bF] [(6,1),(4,2),(3,3)]) (.block 0 (.loop (sq (r1 [aV s3 s4] 5 0) (sq (ir s5 0) (sq (.block 1 (sq (r1 [ga 1 s6 s3,gd l0,gm l1] 7 2) (sq (r1 [gm s7,gx 658 [l0] cv,gm l1,ge l2 0,ge l2 1,gm l3,gm l4] 8 6) (sq (r1 [gm s7,gx 659 [l0] cv,gm l1,gmt 2 s8,cG 2 (.un .not l3),fR l2 l4] 9 5) (n8 s9 c9))))) (r1 [ar s3 cd,gm l0] 3 1))))))) (AH sC))))⟩
def w441 {Γ:Ctx}(hm:(Γ.at 0).bq)(h442:JJ Γ)(h533:Ei Γ)(h658:G6 Γ)(h659:Mt Γ)(s:ah)  (hp0:s.length≤1048576):dX Γ zS (.bool (ji s true)) [.str s]:=by
 show bB _ _ _ [⟨_,_⟩,_,_,_,_,_,_,_,_,_] _;refine ak ?_;refine aQ ?_;refine aj (hc:=h442 _ ?_) ?_;rotate_left;first|assumption|omega
 refine ax ?_;refine aq (fun hc0=>?_) (fun hc0=>?_)
 ·simp only[Bool.not_eq_true']at hc0;refine aQ ?_;refine bD ?_;symm;simp only[ji]at hc0⊢;rw[Bool.and_eq_false_iff]at hc0⊢;rcases hc0 with h|h
  ·exact Or.inl h
  ·right;rw[Bool.eq_false_iff]at h⊢;intro h2;apply h;rw[dh]at h2⊢;intro j a b;have:=h2 j a b;simp only[er,Bool.and_eq_true]at this⊢;exact⟨this.1,rfl⟩
 simp only[Bool.not_eq_false']at hc0;refine aA ?_;refine aj (hc:=h533 _ _ ?_) ?_;rotate_left;first|assumption|omega;have hlen:=cS s 46
 refine ay ?_;intro u0;refine ax ?_;have hT:=hc0;simp only[ji,Bool.and_eq_true,decide_eq_true_eq]at hT;obtain⟨hT4,hTa⟩:=hT;rw[dh]at hTa;have hP:ji s true=ca (fun i=>er true (ai s 46)[i]!) 0 (ai s 46).length:=by
  simp only[ji];rw[decide_eq_true hT4];rfl
 refine bp hm (ι:=Nat) (fun i=>[.un,.un,.un,⟨true,.int .i64 (i:Nat)⟩,⟨true,.int .i64 ((ai s 46).length:Nat)⟩,.un,⟨true,.sl 1 ((ai s 46).map D.str)⟩,.un,.un,.un]) (fun i=>[]) 8 (fun i=>i≤(ai s 46).length∧ji s true=ca (fun i=>er true (ai s 46)[i]!) i (ai s 46).length) (fun i=>(ai s 46).length-i) 0 ⟨by omega,hP⟩ (dR []) ?_;rintro i ⟨hi,hr⟩;refine az ?_;refine cH (fun hc1=>?_) fun hc1=>?_
 ·refine dz ?_;refine aj (hc:=h658 _) ?_;refine bT ?_;refine aj (hc:=h659 _) ?_;refine aQ ?_;refine wp_cond (fun hc2=>?_) (fun hc2=>?_)
  ·skip
   refine aP ?_;refine bD ?_;have hz:er true (ai s 46)[i]! =false:=by
    simp only[er];revert hc2;generalize mi (ai s 46)[i]! =c;generalize dp (ai s 46)[i]! =a;generalize dJ (ai s 46)[i]! =b;cases a<;>cases b<;>cases c<;>simp
   rw[hr,aD (by omega),hz];rfl
  skip
  refine bd ?_;have hz:er true (ai s 46)[i]! =true:=by
   have:=hTa i (by omega) (by omega);simp only[er,Bool.false_and,Bool.not_false,Bool.and_true]at this;simp only[er,this];revert hc2;generalize dp (ai s 46)[i]! =a;generalize dJ (ai s 46)[i]! =b;cases a<;>cases b<;>simp
  exact⟨i+1,⟨by omega,by rw[hr,aD (by omega),hz];rfl⟩,by omega,(dR [])⟩
 refine aP ?_;refine bD ?_;rw[hr,bK (by omega)]
def L8 (Γ:Ctx):Prop:=∀(s:ah),(s.length≤1048576)→Γ.pre 441 [.str s]∧Γ.val 441 [.str s]=.bool (ji s true)
def zR:aB:=⟨1,3,kC,cv,(sq (rg [gb 5 s0,gm c9] [(2,0),(1,1)]) (sq (r1 [gf 0 s2,gd l0,gx 440 [l1] cv,gm l2,pc 3 1 s2,nF 3 l4,cG 3 (.call 440 [l5] cv),fR l3 l6,gm l7,pc 8 2 s2,nF 8 l9,cG 8 (.call 440 [l10] cv),fR l8 jx,gm kJ,pc 13 3 s2,nF 13 mV,cG 13 (cM nV cse),gmt 13 pP,gJ 17 3 s2,iR 17 uV,cb 17 (.call 441 [vZ] cv),LB 13 tP yZ,fR me Ab,gm BU,pc 23 4 s2,nF 23 Fh,cG 23 (cM Fi cse),gmt 23 Jm,gJ 27 4 s2,iR 27 LF,cb 27 (.call 442 [LG] cv),LB 23 KC NC,fR Fg l31,gm l32] 1 33) .ret))⟩
def w209 {Γ:Ctx}(hm:(Γ.at 0).bq)(h440:L7 Γ)(h441:L8 Γ)(h442:JJ Γ)(v:df)  (hp0:v.sm):dX Γ zR (.bool (ei v)) [df.D v]:=by
 show bB _ _ _ [⟨_,_⟩,_,_] _;refine ak ?_;refine aP ?_;refine aj (hc:=h440 _) ?_;refine az ?_;refine aj (hc:=h440 _) ?_;refine aA ?_;refine aj (hc:=h440 _) ?_;refine bT ?_;refine eB (hc:=fun hf=>h441 v.pre hp0.1) ?_;refine dz ?_;refine eB (hc:=fun hf=>h442 v.build hp0.2) ?_;refine aQ ?_;exact bD rfl
def Eg (Γ:Ctx):Prop:=∀(v:df),(v.sm)→Γ.pre 209 [df.D v]∧Γ.val 209 [df.D v]=.bool (ei v)
def xu:aB:=⟨1,2,kC,cv,(sq (r1 [gm cse] 1 0) (sq (r1 [gm s0,gx 336 [l0] cv,gm l1] 1 2) .ret))⟩
def w665 {Γ:Ctx}(hm:(Γ.at 0).bq)(h336:L6 Γ)(n:Int)  (hp0:0≤n∧n≤9999):dX Γ xu (.str (bR n.toNat)) [.int .i64 n]:=by
 show bB _ _ _ [⟨_,_⟩,_] _;refine ak ?_;refine aA ?_;refine aj (hc:=h336 _ ?_) ?_;rotate_left;first|assumption|omega
 refine az ?_;exact cz rfl
def JV (Γ:Ctx):Prop:=∀(n:Int),(0≤n∧n≤9999)→Γ.pre 665 [.int .i64 n]∧Γ.val 665 [.int .i64 n]=.str (bR n.toNat)
def vy:aB:=⟨1,7,kC,cv,(sq (rg [gb 5 s0,gm cse] [(2,0),(1,1)]) (sq (sq (r1 [gk 5 true s2,gx 209 [l0] Ku,n9 l1] 3 2) (n8 s3 cse)) (sq (r2 [gf 0 s2,gd l0,gx 665 [l1] cv,ar l2 (cs [46]),gf 1 s2,gd l4,gx 665 [l5] cv,ar l3 l6,ar l7 (cs [46]),gf 2 s2,gd l9,gx 665 [l10] cv,ar l8 jx,gm kJ] 5 13) (sq (sq (r1 [gf 3 s2,gd l0,b8 l1 cse] 4 2) (.cond s4 (r1 [gm s5,gf 3 s2,gd l1,ar (cs [45]) l2,ar l0 l3,gm l4] 5 5) .skip)) (sq (sq (r1 [gf 4 s2,gd l0,b8 l1 cse] 6 2) (.cond s6 (r1 [gm s5,gf 4 s2,gd l1,ar (cs [43]) l2,ar l0 l3,gm l4] 5 5) .skip)) (sq (r1 [gm s5,gm l0] 1 1) .ret))))))⟩
def w451 {Γ:Ctx}(hm:(Γ.at 0).bq)(h209:Eg Γ)(h665:JV Γ)(v:df)  (hp0:v.sm):dX Γ vy (.str (iM v)) [df.D v]:=by
 show bB _ _ _ [⟨_,_⟩,_,_,_,_,_,_] _;obtain⟨hs1,hs2⟩:=hp0;have hp0:v.sm:=⟨hs1,hs2⟩;refine ak ?_;refine aP ?_;refine aj (hc:=h209 _ ?_) ?_;rotate_left;first|assumption|omega
 refine ax ?_;refine aq (fun hc0=>?_) (fun hc0=>?_)
 ·simp only[Bool.not_eq_true']at hc0;refine aQ ?_;refine cz ?_;simp[iM,hc0]
 simp only[Bool.not_eq_false']at hc0;refine ax ?_;have hv:=hc0;simp only[ei,Bool.and_eq_true]at hv;obtain⟨⟨⟨⟨hv1,hv2⟩,hv3⟩,_⟩,_⟩:=hv;have hq1:=hv1;have hq2:=hv2;have hq3:=hv3;simp only[pH,Bool.and_eq_true,decide_eq_true_eq]at hq1 hq2 hq3;have hl1:=dD 4 v.major.toNat (by omega) (by omega);have hl2:=dD 4 v.minor.toNat (by omega) (by omega);have hl3:=dD 4 v.patch.toNat (by omega) (by omega);refine ax ?_;refine aj (hc:=h665 _ ?_) ?_;rotate_left;first|assumption|omega
 refine dc (hb:=fun _=>by simp;omega) ?_;refine ax ?_;refine aj (hc:=h665 _ ?_) ?_;rotate_left;first|assumption|omega
 refine dc (hb:=fun _=>by simp;omega) ?_;refine dc (hb:=fun _=>by simp;omega) ?_;refine ax ?_;refine aj (hc:=h665 _ ?_) ?_;rotate_left;first|assumption|omega
 refine dc (hb:=fun _=>by simp;omega) ?_;refine bT ?_;refine cH (fun hc1=>?_) fun hc1=>?_
 ·refine aA ?_;refine dc (hb:=fun _=>by simp;omega) ?_;refine dc (hb:=fun _=>by simp;omega) ?_;refine bT ?_;refine cH (fun hc2=>?_) fun hc2=>?_
  ·refine aA ?_;refine dc (hb:=fun _=>by simp;omega) ?_;refine dc (hb:=fun _=>by simp;omega) ?_;refine bd ?_;refine cz ?_;simp[iM,su,hc0,hc1,hc2]
  refine aP ?_;refine cz ?_;simp[iM,su,hc0,hc1,hc2]
 refine bd ?_;refine cH (fun hc2=>?_) fun hc2=>?_
 ·refine aA ?_;refine dc (hb:=fun _=>by simp;omega) ?_;refine dc (hb:=fun _=>by simp;omega) ?_;refine bd ?_;refine cz ?_;simp[iM,su,hc0,hc1,hc2]
 refine aP ?_;refine cz ?_;simp[iM,su,hc0,hc1,hc2]
def JM (Γ:Ctx):Prop:=∀(v:df),(v.sm)→Γ.pre 451 [df.D v]∧Γ.val 451 [df.D v]=.str (iM v)
end Go.Abs
end
section
namespace Go.Abs
open Go
end Go.Abs
end
section
namespace Go.Abs
open Go
end Go.Abs
end
section
namespace Go.Abs
open Go
def Bd:aB:=⟨1,4,kC,cv,(sq (r1 [gm cse] 1 0) (sq (r1 [gm s0,gn (.bin .rem l0 (iu 10)),gn (.cvi .u8 l1),ar (i8 48) l2,gn (.bsl 1 (.int .u8 0) 1 [(0,l3)]),gn (.b2s l4),gm l5] 3 6) (sq (.block 0 (.loop (sq (sq (r1 [gm s0,dH l0 (iu 9)] 2 1) (ir s2 0)) (.block 1 (sq (r1 [gm s0,gn (.bin .quo l0 (iu 10)),gm l1] 0 2) (r1 [gm s0,gn (.bin .rem l0 (iu 10)),gn (.cvi .u8 l1),ar (i8 48) l2,gn (.bsl 1 (.int .u8 0) 1 [(0,l3)]),gn (.b2s l4),gm s3,ar l5 l6,gm l7] 3 8)))))) (sq (r1 [gm s3,gm l0] 1 1) .ret))))⟩
def w882 {Γ:Ctx}(hm:(Γ.at 0).bq)  (n:Nat)  (hp0:n≤9999):dX Γ Bd (.str (bR n)) [.int .u64 (n:Nat)]:=by
 show bB _ _ _ [⟨_,_⟩,_,_,_] _;refine ak ?_;refine aA ?_;refine B8 ((n%10:Nat):Int) (hn:=by intro _;omega) (hb:=fun _=>rfl) ?_;refine rM ((n%10:Nat):Int) (hb:=fun _=>IntWalk.u8_in _ (by omega)) ?_;refine Gb (((dg (n%10)).toNat:Nat):Int) (hb:=fun _=>by rw[vM (by omega)];exact IntWalk.u8_in _ (by omega)) ?_;refine cy [.int .u8 _] ?_;refine Gc [dg (n%10)] (he:=fun _=>r0.all ae rfl) (hs:=fun _=>rfl) ?_;refine ax ?_;have h0:bR n=(if n<10 then []else bR (n/10))++[dg (n%10)]:=by
  split
  ·rename_i h;rw[jl h,Nat.mod_eq_of_lt h];rfl
  ·rw[j7 (by omega)]
 refine bp hm (ι:=(Nat×ah)) (fun p=>[⟨true,.int .u64 (p.1:Nat)⟩,.un,.un,⟨true,.str p.2⟩]) (fun p=>[]) 8 (fun p=>p.1≤9999∧p.2.length≤9999-p.1+1∧bR n=(if p.1<10 then []else bR (p.1/10))++p.2) (fun p=>p.1) (n,[dg (n%10)]) ⟨hp0,by simp,h0⟩ (dR []) ?_;rintro⟨k,s⟩ ⟨hk,hs,hr⟩;dsimp only at hk hs hr⊢;refine aQ ?_;refine cH (fun hc0=>?_) fun hc0=>?_
 ·refine aA ?_;refine NS ((k/10:Nat):Int) (hn:=by intro _;omega) (hb:=fun _=>by rw[show((k:Int).tdiv 10)=((k/10:Nat):Int)from rfl,IntKind.wrap_u64];omega) ?_;refine aA ?_;refine B8 (((k/10)%10:Nat):Int) (hn:=by intro _;omega) (hb:=fun _=>rfl) ?_;refine rM (((k/10)%10:Nat):Int) (hb:=fun _=>IntWalk.u8_in _ (by omega)) ?_;refine Gb (((dg ((k/10)%10)).toNat:Nat):Int) (hb:=fun _=>by rw[vM (by omega)];exact IntWalk.u8_in _ (by omega)) ?_;refine cy [.int .u8 _] ?_;refine Gc [dg ((k/10)%10)] (he:=fun _=>r0.all ae rfl) (hs:=fun _=>rfl) ?_;refine ay ?_;refine dc (hb:=fun _=>by simp;omega) ?_;refine aA ?_;have h1:bR n=(if k/10<10 then []else bR (k/10/10))++([dg (k/10%10)]++s):=by
   rw[hr,if_neg (by omega)];split
   ·rename_i h;rw[jl h,Nat.mod_eq_of_lt h];rfl
   ·rw[j7 (by omega),List.append_assoc]
  exact⟨(k/10,[dg (k/10%10)]++s),⟨by dsimp only;omega,by simp;omega,h1⟩,by dsimp only;omega,(dR [])⟩
 refine bd ?_;refine cz ?_;rw[hr,if_pos (by omega)];rfl
def MJ (Γ:Ctx):Prop:=∀(n:Nat),(n≤9999)→Γ.pre 882 [.int .u64 (n:Nat)]∧Γ.val 882 [.int .u64 (n:Nat)]=.str (bR n)
def zy:aB:=⟨1,3,kC,cv,(sq (r1 [gm cse] 1 0) (sq (sq (r1 [gm s0,aV l0 bF] 2 1) (.cond s2 (sq (r1 [gm s0,ar l0 cd,gn (.un .neg l1),gn (.cvi .u64 l2),ar l3 (iu 1),gx 882 [l4] cv,ar (cs [45]) l5,gm l6] 1 7) .ret) .skip)) (sq (r1 [gm s0,gn (.cvi .u64 l0),gx 882 [l1] cv,gm l2] 1 3) .ret)))⟩
def w734 {Γ:Ctx}(hm:(Γ.at 0).bq)(h882:MJ Γ)(n:Int)  (hp0:0≤n∧n≤9999):dX Γ zy (.str (bR n.toNat)) [.int .i64 n]:=by
 show bB _ _ _ [⟨_,_⟩,_,_] _;refine ak ?_;refine bd ?_;refine cH (fun hc0=>?_) fun hc0=>?_
 ·omega
 refine ax ?_;obtain⟨k,rfl⟩:∃k:Nat,n=k:=⟨n.toNat,by omega⟩
 refine ay ?_;refine rM (k:Int) (hb:=fun _=>by rw[IntKind.wrap_u64];omega) ?_;refine aj (hc:=h882 _ ?_) ?_;rotate_left;first|assumption|omega
 refine az ?_;exact cz rfl
def ME (Γ:Ctx):Prop:=∀(n:Int),(0≤n∧n≤9999)→Γ.pre 734 [.int .i64 n]∧Γ.val 734 [.int .i64 n]=.str (bR n.toNat)
def Bb:aB:=⟨2,8,[⟨2,none⟩],[[.sl 1 [.a]]],(sq (r1 [gm (.c (.av))] 2 0) (sq (r1 [gm (.c (.av))] 6 0) (sq (r1 [gm bF] 7 0) (sq (sq (r1 [gm bF] 3 0) (.block 0 (.loop (sq (sq (r1 [gm s3,gm s0,ye l1,aV l0 l2] 4 3) (ir s4 0)) (sq (.block 1 (sq (r1 [gm s0,gm s3,HH l0 l1,gm s1,aF l2 l3] 5 4) (.cond s5 (sq (r1 [gm s6,gm s0,gm s7,gm s3,gn (.slS l1 (some l2) (some l3)),gn (.bsl 1 (.str []) 1 [(0,l4)]),gn (.app 1 l0 l5),gm l6] 6 7) (r1 [gm s3,ar l0 cd,gm l1] 7 2)) .skip))) (r1 [gm s3,ar l0 cd,gm l1] 3 2)))))) (sq (r1 [gm s6,gm s0,gm s7,gn (.slS l1 (some l2) none),gn (.bsl 1 (.str []) 1 [(0,l3)]),gn (.app 1 l0 l4),gm l5] 2 6) .ret)))))⟩
def w470 {Γ:Ctx}(hm:(Γ.at 0).bq)  (s:ah)(b:Int)  (hp0:s.length≤1048576):dX Γ Bb (.sl 1 ((ai s b).map D.str)) [.str s,.int .u8 b]:=by
 show bB _ _ _ [⟨_,_⟩,⟨_,_⟩,_,_,_,_,_,_] _;refine ak ?_;refine iP ?_;refine bp hm (ι:=(Nat×Nat×List ah)) (fun p:Nat×Nat×List ah=>[⟨true,.str s⟩,⟨true,.int .u8 b⟩,.un,⟨true,.int .i64 (p.1:Nat)⟩,.un,.un,⟨true,.own 0 1 0 p.2.2.length⟩,⟨true,.int .i64 (p.2.1:Nat)⟩]) (fun p=>[(0,.buf 1 (p.2.2.map D.str))]) 4 (fun p=>p.1≤s.length∧p.2.1≤p.1∧p.2.2.length≤p.1∧ai s b=p.2.2++bg b (s.drop p.1) ((s.take p.1).drop p.2.1)) (fun p=>s.length-p.1) (0,0,[]) ⟨by simp,by simp,by simp,rfl⟩ (aN.to [] ae ae (by repeat(first|exact c7.nil|refine c7.un ?_|refine c7.eq ae ?_|refine c7.nl ae ae ?_|refine c7.ni (Or.inr ⟨0,1,0,rfl⟩) ?_)) (by repeat(first|exact aC.nil|refine aC.mt ae ae ae ae ?_))) ?_;rintro⟨i,fr,acc⟩ ⟨hi,hf,ha,hr⟩;dsimp only at hi hf ha hr⊢;refine aQ ?_;intro u0;refine ax ?_;refine cH (fun hc0=>?_) fun hc0=>?_
 ·refine dz ?_;refine wp_cond (fun hc1=>?_) (fun hc1=>?_)
  ·try simp only[iA]at hc1
   refine aQ ?_;refine zp _ _ ?_;refine cy [(.str _)] ?_;refine z7 ?_;exact⟨(i+1,i+1,acc++[(s.take i).drop fr]),⟨by dsimp only;omega,by dsimp only;omega,by simp;omega,by rw[hr,wE (by omega) hc1];simp⟩,by dsimp only;omega,(aN.to [(19,0)] ae ae lO (by refine aC.nl 19 ae ae ae bY ?_;exact aC.nil))⟩
  simp only[decide_eq_false_iff_not]at hc1;refine bT ?_;exact⟨(i+1,fr,acc),⟨by dsimp only;omega,by dsimp only;omega,by dsimp only;omega,by rw[hr,wF (by omega) (by omega) hc1]⟩,by dsimp only;omega,(aN.to [(0,0)] ae ae lO (by refine aC.nl 0 ae ae ae bY ?_;exact aC.nil))⟩
 refine aP ?_;refine m7 _ ?_;refine cy [(.str _)] ?_;refine az ?_;refine eu 13 ?_;refine ay ?_;refine cl (?_);have hs:ai s b=acc++[s.drop fr]:=by rw[hr,uF (by omega)]
 rw[hs];exact rfl
def Mk (Γ:Ctx):Prop:=∀(s:ah)(b:Int),(s.length≤1048576)→Γ.pre 470 [.str s,.int .u8 b]∧Γ.val 470 [.str s,.int .u8 b]=.sl 1 ((ai s b).map D.str)
end Go.Abs
end
section
namespace Go.Abs
open Go
def Bc:aB:=⟨1,2,kC,cv,(sq (r1 [gm c9] 1 0) (sq (r1 [gm s0,hX l0 (i8 48),gm l1,gmt 2 s0,cG 2 (mq l3 (i8 57)),fR l2 l4,gm l5] 1 6) .ret))⟩
def w454 {Γ:Ctx}(hm:(Γ.at 0).bq)  (c:Int)   :dX Γ Bc (.bool (aH c)) [.int .u8 c]:=by
 show bB _ _ _ [⟨_,_⟩,_] _;refine ak ?_;refine iP ?_;exact bD rfl
def Mf (Γ:Ctx):Prop:=∀(c:Int),Γ.pre 454 [.int .u8 c]∧Γ.val 454 [.int .u8 c]=.bool (aH c)
def zz:aB:=⟨1,9,[⟨1,none⟩,⟨2,none⟩],je,(sq (rg [gm bF,gm c9] [(1,0),(2,1)]) (sq (sq (r1 [gm s0,ye l0,aV l1 cd,gm l2,fj 3 s0,cb 3 (.lenS l4),cb 3 (du l5 BR),eZ l3 l6,gm l7,fj 8 s0,cb 8 (.lenS l9),cb 8 (du l10 cd),fj 8 jx,gmt 12 s0,cG 12 (.ixS me bF),cG 12 (cM mV (i8 48)),Eb 8 kJ nV,eZ l8 pP] 3 17) (.cond s3 (sq (rg [gm bF,gm c9] [(1,0),(2,1)]) .ret) .skip)) (sq (r1 [gm bF] 7 0) (sq (sq (r1 [gm bF] 4 0) (.block 0 (.loop (sq (sq (r1 [gm s4,gm s0,ye l1,aV l0 l2] 5 3) (ir s5 0)) (sq (.block 1 (sq (sq (r1 [gm s0,gm s4,HH l0 l1,gx 454 [l2] cv,n9 l3] 6 4) (.cond s6 (sq (rg [gm bF,gm c9] [(1,0),(2,1)]) .ret) .skip)) (r1 [gm s7,gn (.bin .mul l0 (i6 10)),gm s0,gm s4,HH l2 l3,fI l4 (i8 48),gn (.cvi .i64 l5),ar l1 l6,gm l7] 7 8))) (r1 [gm s4,ar l0 cd,gm l1] 4 2)))))) (sq (sq (r1 [gm s7,dH l0 (i6 9999)] 8 1) (.cond s8 (sq (rg [gm bF,gm c9] [(1,0),(2,1)]) .ret) .skip)) (sq (rg [gm s7,gm l0,gm sC] [(1,1),(2,2)]) .ret))))))⟩
def w667 {Γ:Ctx}(hm:(Γ.at 0).bq)(h454:Mf Γ)(s:ah)   :dX Γ zz (.tup [.int .i64 (cW s),.bool (dJ s)]) [.str s]:=by
 show bB _ _ _ [⟨_,_⟩,_,_,_,_,_,_,_,_] _;refine ak ?_;refine bd ?_;intro u0;refine az ?_;refine lr ?_;refine aA ?_;refine lr ?_;refine az ?_;refine B7 0 ?_;refine aA ?_;refine cH (fun hc0=>?_) fun hc0=>?_
 ·refine aP ?_;refine cl (aS (congrArg (D.int .i64) ?_) (congrArg D.bool ?_));all_goals
   have:dJ s=false:=by
    simp only[dJ];rcases hc0 with(h|h)|h
    ·rw[decide_eq_false (by omega:¬1≤s.length)];rfl
    ·rw[decide_eq_false (by omega:¬s.length≤9)];simp
    ·rw[decide_eq_true (by omega:1<s.length),decide_eq_true h.2];simp
   simp[cW,this]
 refine bT ?_;have hP:dJ s=(ca (fun i=>aH (at8 s i)) 0 s.length&&decide (ct s≤9999)):=by
  simp only[dJ];rw[decide_eq_true (by omega:1≤s.length),decide_eq_true (by omega:s.length≤9)];rcases hc0.2 with h|h
  ·rw[decide_eq_false (by omega:¬1<s.length)];rfl
  ·rw[decide_eq_false h,Bool.and_false];rfl
 refine bp hm (ι:=Nat) (fun i=>[⟨true,.str s⟩,.un,.un,.un,⟨true,.int .i64 (i:Nat)⟩,.un,.un,⟨true,.int .i64 (ct (s.take i):Nat)⟩,.un]) (fun i=>[]) 22 (fun i=>i≤s.length∧s.length≤9∧dJ s=(ca (fun i=>aH (at8 s i)) i s.length&&decide (ct s≤9999))) (fun i=>s.length-i) 0 ⟨by omega,by omega,hP⟩ (dR []) ?_;rintro i ⟨hi,h9,hr⟩;refine aQ ?_;intro u1;refine ax ?_;refine cH (fun hc1=>?_) fun hc1=>?_
 ·refine bd ?_;refine aj (hc:=h454 _) ?_;refine ax ?_;refine aq (fun hc2=>?_) (fun hc2=>?_)
  ·try simp only[iA]at hc2
   refine bT ?_;refine cl (aS (congrArg (D.int .i64) ?_) (congrArg D.bool ?_));all_goals
    have:dJ s=false:=by rw[hr,aD (by omega),hc2];rfl
    simp[cW,this]
  simp only[Bool.not_eq_false']at hc2;refine ax ?_;have h48:=hc2;simp only[aH,Bool.and_eq_true,decide_eq_true_eq]at h48;have hn:=pU s i (by omega);have hn2:=rK s i (by omega);have h256:=Eu s i;refine ay ?_;refine sP ?_;refine az ?_;refine Gl (at8 s i-48) (hb:=fun _=>IntWalk.u8_in _ (by omega)) ?_;refine rM (at8 s i-48) (hb:=fun _=>IntWalk.i64_in _ (by omega)) ?_;refine az ?_;rw[show(ct (s.take i):Int)*10+(at8 s i-48)=(ct (s.take (i+1)):Nat)by omega];refine bd ?_;exact⟨i+1,⟨by omega,h9,by rw[hr,aD (by omega),hc2];rfl⟩,by omega,(dR [])⟩
 refine aA ?_;have ht:s.take i=s:=List.take_of_length_le (by omega);rw[ht];refine az ?_;refine cH (fun hc3=>?_) fun hc3=>?_
 ·refine aP ?_;refine cl (aS (congrArg (D.int .i64) ?_) (congrArg D.bool ?_));all_goals
   have:dJ s=false:=by rw[hr,decide_eq_false (by omega),Bool.and_false]
   simp[cW,this]
 refine bd ?_;refine cl (aS (congrArg (D.int .i64) ?_) (congrArg D.bool ?_));all_goals
  have:dJ s=true:=by rw[hr,bK (by omega),decide_eq_true (by omega)];rfl
  simp[cW,this]
def Mw (Γ:Ctx):Prop:=∀(s:ah),Γ.pre 667 [.str s]∧Γ.val 667 [.str s]=.tup [.int .i64 (cW s),.bool (dJ s)]
def xW:aB:=⟨1,5,kC,cv,(sq (r1 [gm c9] 1 0) (sq (sq (r1 [gm bF] 2 0) (.block 0 (.loop (sq (sq (r1 [gm s2,gm s0,ye l1,aV l0 l2] 3 3) (ir s3 0)) (sq (.block 1 (sq (r1 [gm s0,gm s2,HH l0 l1,aV l2 (i8 48),gm l3,fj 4 s0,fj 4 s2,cb 4 (.ixS l5 l6),cb 4 (du l7 (i8 57)),eZ l4 l8] 4 9) (n8 s4 c9))) (r1 [gm s2,ar l0 cd,gm l1] 2 2)))))) (sq (r1 [gm s0,ye l0,dH l1 bF,gm l2] 1 3) .ret)))⟩
def w668 {Γ:Ctx}(hm:(Γ.at 0).bq)  (t:ah)   :dX Γ xW (.bool (dp t)) [.str t]:=by
 show bB _ _ _ [⟨_,_⟩,_,_,_,_] _;refine ak ?_;refine aP ?_;refine bp hm (ι:=Nat) (fun i=>[⟨true,.str t⟩,.un,⟨true,.int .i64 (i:Nat)⟩,.un,.un]) (fun i=>[]) 2 (fun i=>i≤t.length∧ca (fun i=>aH (at8 t i)) 0 t.length=ca (fun i=>aH (at8 t i)) i t.length) (fun i=>t.length-i) 0 ⟨by omega,rfl⟩ (dR []) ?_;rintro i ⟨hi,hr⟩;refine aQ ?_;intro u0;refine ax ?_;refine cH (fun hc0=>?_) fun hc0=>?_
 ·refine w9 ?_;refine gv (fun hc1=>?_) fun hc1=>?_
  ·refine aP ?_;refine bD ?_;simp only[dp];rw[hr,aD (by omega)];rcases hc1 with h|h<;>simp[aH]<;>omega
  refine bT ?_;exact⟨i+1,⟨by omega,by rw[hr,aD (by omega)];rw[show aH (at8 t i)=true by simp only[aH,Bool.and_eq_true,decide_eq_true_eq];omega];rfl⟩,by omega,(dR [])⟩
 refine aQ ?_;intro u1;refine aA ?_;refine bD ?_;simp only[dp];rw[hr,bK (by omega)];simp
def Mx (Γ:Ctx):Prop:=∀(t:ah),Γ.pre 668 [.str t]∧Γ.val 668 [.str t]=.bool (dp t)
def Gr:aB:=⟨1,7,kC,cv,(sq (r1 [gm c9] 1 0) (sq (sq (r1 [gm s0,ye l0,aV l1 cd,gm l2,fj 3 s0,cb 3 (.lenS l4),cb 3 (du l5 HP),eZ l3 l6] 2 7) (n8 s2 c9)) (sq (sq (r1 [gm bF] 3 0) (.block 0 (.loop (sq (sq (r1 [gm s3,gm s0,ye l1,aV l0 l2] 4 3) (ir s4 0)) (sq (.block 1 (sq (r1 [gm s0,gm s3,HH l0 l1,gm l2] 5 3) (sq (r1 [gm s5,aV l0 (i8 97),gm l1,fj 2 s5,cb 2 (du l3 (i8 122)),eZ l2 l4,gm l5,gmt 6 s5,cG 6 (ph l7 (i8 48)),gmt 6 l8,fj 9 s5,cb 9 (du l10 (i8 57)),LB 6 l9 jx,fR l6 kJ,gm me,gmt 14 s5,cG 14 (dY nV (i8 45)),fR mV pP] 6 17) (n8 s6 c9)))) (r1 [gm s3,ar l0 cd,gm l1] 3 2)))))) (AH sC))))⟩
def w666 {Γ:Ctx}(hm:(Γ.at 0).bq)  (t:ah)   :dX Γ Gr (.bool (mi t)) [.str t]:=by
 show bB _ _ _ [⟨_,_⟩,_,_,_,_,_,_] _;refine ak ?_;refine aP ?_;intro u0;refine az ?_;refine lr ?_;refine az ?_;refine cH (fun hc0=>?_) fun hc0=>?_
 ·refine aQ ?_;refine bD ?_;symm;simp only[mi,Bool.and_eq_false_iff,decide_eq_false_iff_not];exact Or.inl (by omega)
 refine aQ ?_;refine bp hm (ι:=Nat) (fun i=>[⟨true,.str t⟩,.un,.un,⟨true,.int .i64 (i:Nat)⟩,.un,.un,.un]) (fun i=>[]) 10 (fun i=>i≤t.length∧mi t=ca (fun i=>js (at8 t i)) i t.length) (fun i=>t.length-i) 0 ⟨by omega,by simp only[mi];rw[decide_eq_true (by omega),decide_eq_true (by omega)];rfl⟩ (dR []) ?_;rintro i ⟨hi,hr⟩;refine aQ ?_;intro u1;refine ax ?_;refine cH (fun hc1=>?_) fun hc1=>?_
 ·refine GR ?_;refine gv (fun hc2=>?_) fun hc2=>?_
  ·refine aP ?_;refine bD ?_;rw[hr,aD (by omega)];have:js (at8 t i)=false:=(by simp only[js,eK,aH,Bool.or_eq_false_iff,Bool.and_eq_false_iff,decide_eq_false_iff_not];omega);rw[this];rfl
  refine bT ?_;exact⟨i+1,⟨by omega,by rw[hr,aD (by omega)];have:js (at8 t i)=true:=(by simp only[js,eK,aH,Bool.or_eq_true,Bool.and_eq_true,decide_eq_true_eq];omega);rw[this];rfl⟩,by omega,(dR [])⟩
 refine aP ?_;refine bD ?_;rw[hr,bK (by omega)]
def Mv (Γ:Ctx):Prop:=∀(t:ah),Γ.pre 666 [.str t]∧Γ.val 666 [.str t]=.bool (mi t)
def DP:aB:=⟨2,11,[⟨2,none⟩],cv,(sq (r1 [gm c9] 2 0) (sq (sq (r1 [gm s0,aF l0 cse] 3 1) (.cond s3 (sq (r1 [gm sC] 2 0) .ret) .skip)) (sq (r1 [gm s0,gx 470 [l0,(i8 46)] je,gm l1] 4 2) (sq (sq (r1 [gm s4,gl l0,dH l1 uU] 5 2) (.cond s5 (sq (r1 [gm c9] 2 0) .ret) .skip)) (sq (sq (r1 [gm bF] 6 0) (.block 0 (.loop (sq (sq (r1 [gm s6,gm s4,gl l1,aV l0 l2] 7 3) (ir s7 0)) (sq (.block 1 (sq (sq (r1 [gm s4,gm s6,ga 1 l0 l1,gd l2,gx 666 [l3] cv,n9 l4] 8 5) (.cond s8 (sq (r1 [gm c9] 2 0) .ret) .skip)) (sq (r1 [gm s4,gm s6,ga 1 l0 l1,gd l2,gx 667 [l3] cv,gm l4,ge l5 0,ge l5 1,gm l6,gm l7] 9 9) (sq (r1 [gm s1,gm l0,gmt 1 s4,gmt 1 s6,cG 1 (.ia 1 l2 l3),nF 1 l4,cG 1 (.call 668 [l5] cv),fR l1 l6,gm l7,gmt 8 s9,cG 8 (.un .not l9),fR l8 l10] 10 11) (.cond lP (sq (r1 [gm c9] 2 0) .ret) .skip))))) (r1 [gm s6,ar l0 cd,gm l1] 6 2)))))) (sq (r1 [gm sC] 2 0) .ret))))))⟩
def w456 {Γ:Ctx}(hm:(Γ.at 0).bq)(h470:Mk Γ)(h666:Mv Γ)(h667:Mw Γ)(h668:Mx Γ)(s:ah)(p:Bool)  (hp0:s.length≤1048576):dX Γ DP (.bool (lZ s p)) [.str s,.bool p]:=by
 show bB _ _ _ [⟨_,_⟩,⟨_,_⟩,_,_,_,_,_,_,_,_,_] _;refine ak ?_;refine bd ?_;refine cH (fun hc0=>?_) fun hc0=>?_
 ·refine aQ ?_;refine bD ?_;simp[lZ,hc0]
 refine az ?_;refine aj (hc:=h470 _ _ ?_) ?_;rotate_left;first|assumption|omega;have hlen:=cS s 46
 refine aP ?_;intro u0;refine ax ?_;refine aq (fun hc1=>?_) (fun hc1=>?_)
 ·try simp only[iA]at hc1
  refine aQ ?_;refine bD ?_;simp only[lZ,ji];rw[decide_eq_false hc0,decide_eq_false (by omega)];rfl
 simp only[decide_eq_false_iff_not]at hc1;refine aQ ?_;refine bp hm (ι:=Nat) (fun i=>[⟨true,.str s⟩,⟨true,.bool p⟩,.un,.un,⟨true,.sl 1 ((ai s 46).map D.str)⟩,.un,⟨true,.int .i64 (i:Nat)⟩,.un,.un,.un,.un]) (fun i=>[]) 10 (fun i=>i≤(ai s 46).length∧lZ s p=ca (fun i=>er p (ai s 46)[i]!) i (ai s 46).length) (fun i=>(ai s 46).length-i) 0 ⟨by omega,by simp only[lZ,ji];rw[decide_eq_false hc0,decide_eq_true (by omega)];rfl⟩ (dR []) ?_;rintro i ⟨hi,hr⟩;refine aQ ?_;intro u1;refine ax ?_;refine cH (fun hc2=>?_) fun hc2=>?_
 ·refine bT ?_;refine aj (hc:=h666 _) ?_;refine ax ?_;refine aq (fun hc3=>?_) (fun hc3=>?_)
  ·simp only[Bool.not_eq_true']at hc3;refine bd ?_;refine bD ?_;rw[hr,aD (by omega)];simp only[er,hc3];rfl
  simp only[Bool.not_eq_false']at hc3;refine aP ?_;refine aj (hc:=h667 _) ?_;refine kn ?_;refine aj (hc:=h668 _) ?_;refine aP ?_;refine wp_cond (fun hc4=>?_) (fun hc4=>?_)
  ·skip
   refine aP ?_;refine bD ?_;have h5:er p (ai s 46)[i]! =false:=(by simp only[er,hc3];revert hc4;generalize dp (ai s 46)[i]! =a;generalize dJ (ai s 46)[i]! =b;cases p<;>cases a<;>cases b<;>simp);rw[hr,aD (by omega),h5];rfl
  skip
  refine bT ?_;exact⟨i+1,⟨by omega,by rw[hr,aD (by omega)];have h5:er p (ai s 46)[i]! =true:=(by simp only[er,hc3];revert hc4;generalize dp (ai s 46)[i]! =a;generalize dJ (ai s 46)[i]! =b;cases p<;>cases a<;>cases b<;>simp);rw[h5];rfl⟩,by omega,(dR [])⟩
 refine aP ?_;refine bD ?_;rw[hr,bK (by omega)]
def Mh (Γ:Ctx):Prop:=∀(s:ah)(p:Bool),(s.length≤1048576)→Γ.pre 456 [.str s,.bool p]∧Γ.val 456 [.str s,.bool p]=.bool (lZ s p)
def Gq:aB:=⟨1,2,kC,cv,(sq (r1 [gm c9] 1 0) (sq (r1 [gm s0,hX l0 bF,gm l1,gmt 2 s0,cG 2 (mq l3 (i6 9999)),fR l2 l4,gm l5] 1 6) .ret))⟩
def w455 {Γ:Ctx}(hm:(Γ.at 0).bq)  (n:Int)   :dX Γ Gq (.bool (pH n)) [.int .i64 n]:=by
 show bB _ _ _ [⟨_,_⟩,_] _;refine ak ?_;refine iP ?_;exact bD rfl
def Mg (Γ:Ctx):Prop:=∀(n:Int),Γ.pre 455 [.int .i64 n]∧Γ.val 455 [.int .i64 n]=.bool (pH n)
def Gp:aB:=⟨1,3,kC,cv,(sq (rg [gb 5 s0,gm c9] [(2,0),(1,1)]) (sq (r1 [gf 0 s2,gd l0,gx 455 [l1] cv,gm l2,pc 3 1 s2,nF 3 l4,cG 3 (.call 455 [l5] cv),fR l3 l6,gm l7,pc 8 2 s2,nF 8 l9,cG 8 (.call 455 [l10] cv),fR l8 jx,gm kJ,pc 13 3 s2,nF 13 mV,cG 13 (.call 456 [nV,sC] je),fR me pP,gm tP,pc 18 4 s2,nF 18 vZ,cG 18 (.call 456 [yZ,c9] je),fR uV Ab,gm BU] 1 23) .ret))⟩
def w217 {Γ:Ctx}(hm:(Γ.at 0).bq)(h455:Mg Γ)(h456:Mh Γ)(v:df)  (hp0:v.sm):dX Γ Gp (.bool (ei v)) [df.D v]:=by
 show bB _ _ _ [⟨_,_⟩,_,_] _;refine ak ?_;refine aP ?_;refine aj (hc:=h455 _) ?_;refine az ?_;refine aj (hc:=h455 _) ?_;refine aA ?_;refine aj (hc:=h455 _) ?_;refine aA ?_;refine eB (hc:=fun hf=>h456 v.pre true hp0.1) ?_;refine aA ?_;refine eB (hc:=fun hf=>h456 v.build false hp0.2) ?_;refine aA ?_;exact bD rfl
def LX (Γ:Ctx):Prop:=∀(v:df),(v.sm)→Γ.pre 217 [df.D v]∧Γ.val 217 [df.D v]=.bool (ei v)
end Go.Abs
end
section
namespace Go.Abs
open Go
end Go.Abs
end
section
namespace Go.Abs
open Go
end Go.Abs
end
section
namespace Go.Abs
open Go
end Go.Abs
end
section
namespace Go.Abs
open Go
end Go.Abs
end
section
namespace Go.Abs
open Go
end Go.Abs
end
section
namespace Go.Abs
open Go
end Go.Abs
end
section
namespace Go.Abs
open Go
def vx:aB:=⟨1,18,[⟨1,some (5,true)⟩,⟨2,none⟩],[[.a,.a,.a,.a,.a],[.a]],(sq (rg [gb 5 (.c (.agg [.int .i64 0,.int .i64 0,.int .i64 0,.str [],.str []])),gm bF] [(1,0),(2,1)]) (sq (r1 [gb 5 (.c (.agg [.int .i64 0,.int .i64 0,.int .i64 0,.str [],.str []]))] 4 0) (sq (r1 [gm s0,gm l0] 3 1) (sq (r1 [gm s3,gx 675 [l0,(i8 43)] je,gm l1,ge l2 0,ge l2 1,gf 4 s4,gt 1 l5 l3,gm l4] 3 7) (sq (r1 [gm s3,gx 675 [l0,(i8 45)] je,gm l1,ge l2 0,ge l2 1,gf 3 s4,gt 1 l5 l3,gm l4] 3 7) (sq (r1 [gm s3,gx 533 [l0,(i8 46)] je,gm l1] 5 2) (sq (sq (r1 [gm s5,gl l0,b8 l1 kI] 6 2) (.cond s6 (sq (r1 [gn (.build [.int .i64 0,.int .i64 0,.int .i64 0,.str [],.str []] []),gt 5 s1 l0,gm AJ] 2 2) .ret) .skip)) (sq (r1 [gb 3 (.c (.agg [.int .i64 0,.int .i64 0,.int .i64 0]))] 16 0) (sq (sq (rg [gm s5,gl l0,gm bF] [(10,0),(8,1),(7,2)]) (.block 0 (.loop (sq (r1 [aV s7 s8] 9 0) (sq (ir s9 0) (sq (.block 1 (sq (rg [gm s7,ga 1 lP s7,gd l1,gm l0,gm l2] [(14,3),(11,4)]) (sq (rg [gm oS,gx 658 [l0] cv,gm l1,ge l2 0,ge l2 1,gm l3,gm l4] [(15,5),(12,6)]) (sq (sq (r1 [gm lu,n9 l0] 13 1) (.cond sQ (sq (r1 [gn (.build [.int .i64 0,.int .i64 0,.int .i64 0,.str [],.str []] []),gt 5 s1 l0,gm AJ] 2 2) .ret) .skip)) (rg [gm sk,gm wz,gn (.iaP 3 1 Ch l0),gt 1 l2 l1] []))))) (r1 [ar s7 cd,gm l0] 7 1))))))) (sq (rt [gn (.iaP 3 1 Ch bF),gd l0,gn (.iaP 3 1 Ch cd),gn (.ldI 1 false l2),gn (.iaP 3 1 Ch kS),gn (.ldI 1 false l4),gf 0 s4,gt 1 l6 l1,gf 1 s4,gt 1 l8 l3,gf 2 s4,gt 1 l10 l5] []) (sq (sq (r1 [gk 5 true s4,gx 209 [l0] Ku,n9 l1,gm l2,cb 3 (.ld 5 true s4),cb 3 (.call 451 [l4] Ku),fj 3 s0,cb 3 (dY l5 l6),eZ l3 l7] 17 8) (.cond yf (sq (r1 [gn (.build [.int .i64 0,.int .i64 0,.int .i64 0,.str [],.str []] []),gt 5 s1 l0,gm AJ] 2 2) .ret) .skip)) (sq (r1 [gk 5 true s4,gt 5 s1 l0,gm bF] 2 2) .ret))))))))))))⟩
def w466 {Γ:Ctx}(hm:(Γ.at 0).bq)(h209:Eg Γ)(h451:JM Γ)(h533:Ei Γ)(h658:G6 Γ)(h675:My Γ)(s:ah)  (hp0:s.length≤1048576):dX Γ vx (.tup [df.D ((kG s).getD jb),.int .i64 (uN s)]) [.str s]:=by
 show bB _ _ _ [⟨_,_⟩,_,_,_,_,_,_,_,_,_,_,_,_,_,_,_,_,_] _;have hb1:=j6 s 43;have je:=j6 (cK s 43).2 45;generalize hA:cK s 43=A at hb1 je;generalize hB:cK A.2 45=B at je;have hsl:=cS B.2 46;generalize hL:ai B.2 46=L at hsl;have hq0:kG s=if L.length=3∧dJ L[0]! =true∧dJ L[1]! =true∧dJ L[2]! =true then(if ei ⟨cW L[0]!,cW L[1]!,cW L[2]!,B.1,A.1⟩=true∧iM ⟨cW L[0]!,cW L[1]!,cW L[2]!,B.1,A.1⟩=s then some ⟨cW L[0]!,cW L[1]!,cW L[2]!,B.1,A.1⟩else none)else none:=by subst hA;subst hB;subst hL;rfl
 refine ak ?_;refine iP ?_;refine aj (hc:=h675 s 43) ?_;rw[hA];refine aA ?_;refine aJ (df.D ⟨0,0,0,[],A.1⟩) (he:=by exact rfl) ?_;refine aA ?_;refine aj (hc:=h675 A.2 45) ?_;rw[hB];refine aA ?_;refine aJ (df.D ⟨0,0,0,B.1,A.1⟩) (he:=by exact rfl) ?_;refine aA ?_;refine aj (hc:=h533 B.2 46 (by omega)) ?_;rw[hL];refine aP ?_;intro u0;refine ax ?_;refine cH (fun hc0=>?_) fun hc0=>?_
 ·refine ax ?_;refine bx (df.D jb) ?_;refine aA ?_;refine cl (aS ?_ (congrArg (D.int .i64) ?_));all_goals
   have hq:kG s=none:=by rw[hq0,if_neg (fun h=>by have:=h.1;omega)]
   simp only[uN,hq];rfl
 refine bT ?_;intro u1;refine ax ?_;refine bp hm (ι:=Nat) (fun i=>[⟨true,.str s⟩,⟨true,.ptr 0 5 0 0⟩,.un,.un,⟨true,.ptr 2 5 0 0⟩,.un,.un,⟨true,.int .i64 (i:Nat)⟩,⟨true,.int .i64 (L.length:Nat)⟩,.un,⟨true,.sl 1 (L.map D.str)⟩,.un,.un,.un,.un,.un,⟨true,.ptr 27 3 0 0⟩,.un]) (fun i=>[(0,.buf 5 [df.D jb]),(2,.buf 5 [df.D ⟨0,0,0,B.1,A.1⟩]),(27,.buf 3 [H6 L i])]) 31 (fun i=>i≤3∧∀j,j<i→dJ L[j]! =true) (fun i=>3-i) 0 ⟨by omega,fun j hj=>by omega⟩ (dR [(0,0),(2,2),(27,27)]) ?_;rintro i ⟨hi,hr⟩;refine az ?_;refine cH (fun hc1=>?_) fun hc1=>?_
 ·refine gG ?_;refine aj (hc:=h658 L[i]!) ?_;refine gG ?_;refine aq (fun hc2=>?_) (fun hc2=>?_)
  ·simp only[Bool.not_eq_true']at hc2;refine ax ?_;refine bx (df.D jb) ?_;refine aP ?_;refine cl (aS ?_ (congrArg (D.int .i64) ?_));all_goals
    have hq:kG s=none:=by
     rw[hq0,if_neg];rintro⟨_,h1,h2,h3⟩;rcases(show i=0∨i=1∨i=2 by omega)with rfl|rfl|rfl
     ·rw[h1]at hc2;cases hc2
     ·rw[h2]at hc2;cases hc2
     ·rw[h3]at hc2;cases hc2
    simp only[uN,hq];rfl
  simp only[Bool.not_eq_false']at hc2;refine aA ?_;refine xP i ?_;refine aJ (H6 L (i+1)) (he:=Fu L i (by omega)) ?_;refine bd ?_;have hr2:∀j,j<i+1→dJ L[j]! =true:=by
   intro j hj;rcases Nat.eq_or_lt_of_le (Nat.lt_succ_iff.1 hj)with rfl|h
   ·exact hc2
   ·exact hr j h
  exact⟨i+1,⟨by omega,hr2⟩,by omega,(dR [(0,0),(2,2),(27,27)])⟩
 refine ax ?_;refine eu 27 ?_;refine ay ?_;have h3:i=3:=by omega
 subst h3;refine A8 0 ?_;refine eC (v:=.int .i64 (cW L[0]!)) ?_;refine A8 1 ?_;refine A9 (v:=.int .i64 (cW L[1]!)) ?_;refine A8 2 ?_;refine A9 (v:=.int .i64 (cW L[2]!)) ?_;refine ay ?_;refine aJ (df.D ⟨cW L[0]!,0,0,B.1,A.1⟩) (he:=by exact rfl) ?_;refine ay ?_;refine aJ (df.D ⟨cW L[0]!,cW L[1]!,0,B.1,A.1⟩) (he:=by exact rfl) ?_;refine ay ?_;refine aJ (df.D ⟨cW L[0]!,cW L[1]!,cW L[2]!,B.1,A.1⟩) (he:=by exact rfl) ?_;refine az ?_;have hsm:df.sm ⟨cW L[0]!,cW L[1]!,cW L[2]!,B.1,A.1⟩:=⟨by simp only;omega,by simp only;omega⟩;generalize hV:(⟨cW L[0]!,cW L[1]!,cW L[2]!,B.1,A.1⟩:df)=V at hsm hq0⊢;refine ay ?_;refine aj (hc:=h209 V hsm) ?_;refine az ?_;refine eB (hc:=fun _=>h451 V hsm) ?_;refine aA ?_;refine aq (fun hc3=>?_) (fun hc3=>?_)
 ·simp only[Bool.or_eq_true,Bool.not_eq_true',decide_eq_false_iff_not]at hc3;refine ax ?_;refine bx (df.D jb) ?_;refine aA ?_;refine cl (aS ?_ (congrArg (D.int .i64) ?_));all_goals
   have hq:kG s=none:=by
    rw[hq0];split
    ·rw[if_neg];rintro⟨h1,h2⟩;rcases hc3 with h|h
     ·rw[h1]at h;cases h
     ·exact h h2
    ·rfl
   simp only[uN,hq];rfl
 simp only[Bool.or_eq_false_iff,Bool.not_eq_false',decide_eq_true_eq]at hc3;refine bd ?_;refine cl (aS ?_ (congrArg (D.int .i64) ?_));all_goals
  have hq:kG s=some V:=by
   rw[hq0,if_pos ⟨by omega,hr 0 (by omega),hr 1 (by omega),hr 2 (by omega)⟩,if_pos hc3]
  simp only[uN,hq];rfl
def Mi (Γ:Ctx):Prop:=∀(s:ah),(s.length≤1048576)→Γ.pre 466 [.str s]∧Γ.val 466 [.str s]=.tup [df.D ((kG s).getD jb),.int .i64 (uN s)]
end Go.Abs
end
section
namespace Go.Abs
open Go
end Go.Abs
end
section
namespace Go.Abs
open Go
end Go.Abs
end
section
namespace Go.Abs
open Go
end Go.Abs
end
section
namespace Go.Abs
open Go
end Go.Abs
end
section
namespace Go.Abs
open Go
end Go.Abs
end
section
namespace Go.Abs
open Go
end Go.Abs
end
section
namespace Go.Abs
open Go
end Go.Abs
end
section
namespace Go.Abs
open Go
end Go.Abs
end
section
namespace Go.Abs
open Go
end Go.Abs
end
namespace Go.Abs
end Go.Abs
section
namespace Go.Abs
open Go
end Go.Abs
end
section
namespace Go.Abs
open Go
end Go.Abs
end
section
namespace Go.Abs
open Go
def xp:aB:=⟨2,10,[⟨2,none⟩],cv,(sq (r1 [gm bF] 2 0) (sq (sq (rg [gm s0,gl l0,gm bF] [(6,0),(4,1),(3,2)]) (.block 0 (.loop (sq (r1 [aV s3 s4] 5 0) (sq (ir s5 0) (sq (.block 1 (sq (rg [gm s3,ga 2 s6 s3,gk 2 true l1,gb 2 (.c (.agg [.str [],.av])),gm l0,gt 2 l3 l2] [(7,3),(9,4)]) (sq (r1 [gf 0 s7,gd l0,gm s1,aF l1 l2] 8 3) (.cond s8 (sq (r1 [gm s9,gm l0] 2 1) .ret) .skip)))) (r1 [ar s3 cd,gm l0] 3 1))))))) (sq (r1 [gn (.mv (.c (.int .i64 (-1))))] 2 0) .ret)))⟩
def w663 {Γ:Ctx}(hm:(Γ.at 0).bq)  (l:List bj)(nm:ah)   :dX Γ xp (.int .i64 (findF l nm 0)) [.sl 2 (l.map bj.D),.str nm]:=by
 show bB _ _ _ [⟨_,_⟩,⟨_,_⟩,_,_,_,_,_,_,_,_] _;refine ak ?_;refine aP ?_;intro u0;refine ax ?_;refine bp hm (ι:=Nat) (fun i=>[⟨true,.sl 2 (l.map bj.D)⟩,⟨true,.str nm⟩,.un,⟨true,.int .i64 (i:Nat)⟩,⟨true,.int .i64 (l.length:Nat)⟩,.un,⟨true,.sl 2 (l.map bj.D)⟩,.un,.un,.un]) (fun i=>[]) 4 (fun i=>i≤l.length∧findF l nm 0=findF l nm i) (fun i=>l.length-i) 0 ⟨by omega,rfl⟩ (dR []) ?_;rintro i ⟨hi,hr⟩;refine az ?_;refine cH (fun hc0=>?_) fun hc0=>?_
 ·refine aQ ?_;first|refine bV (v:=(bj.D _)) ?_|refine eC (v:=(bj.D _)) ?_
  refine ax ?_;refine aJ (bj.D l[i]!) (he:=by exact rfl) ?_;refine bd ?_;refine gv (fun hc1=>?_) fun hc1=>?_
  ·refine bd ?_;refine il ?_;rw[hr,ER (by omega) hc1]
  refine bd ?_;exact⟨i+1,⟨by omega,by rw[hr,ES (by omega) hc1]⟩,by omega,(dR [])⟩
 refine aP ?_;refine il ?_;rw[hr,CV (by omega)]
def Mu (Γ:Ctx):Prop:=∀(l:List bj)(nm:ah),Γ.pre 663 [.sl 2 (l.map bj.D),.str nm]∧Γ.val 663 [.sl 2 (l.map bj.D),.str nm]=.int .i64 (findF l nm 0)
def vb:aB:=⟨2,3,[⟨2,none⟩],cv,(sq (r1 [gm c9] 2 0) (sq (r1 [gm s1,aF l0 (cs [100,101,102,97,117,108,116]),gm l1,fj 2 s0,fj 2 s1,cb 2 (.call 663 [l3,l4] [[.sl 2 [.a,.sl 1 [.a]]],[.a]]),cb 2 (yr l5 bF),eZ l2 l6,gm l7] 2 8) .ret))⟩
def w449 {Γ:Ctx}(hm:(Γ.at 0).bq)(h663:Mu Γ)(l:List bj)(nm:ah)   :dX Γ vb (.bool (LD l nm)) [.sl 2 (l.map bj.D),.str nm]:=by
 show bB _ _ _ [⟨_,_⟩,⟨_,_⟩,_] _;refine ak ?_;refine bT ?_;refine aj (hc:=h663 _ _) ?_;refine aQ ?_;exact bD rfl
def Me (Γ:Ctx):Prop:=∀(l:List bj)(nm:ah),Γ.pre 449 [.sl 2 (l.map bj.D),.str nm]∧Γ.val 449 [.sl 2 (l.map bj.D),.str nm]=.bool (LD l nm)
end Go.Abs
end
section
namespace Go.Abs
open Go
def xq:aB:=⟨1,12,[⟨1,none⟩,⟨2,none⟩,⟨3,none⟩],Nw,(sq (rg [gm bF,gm cse,gm cse] [(1,0),(2,1),(3,2)]) (sq (sq (r1 [gm s0,gx 349 [l0] cv] 4 1) (.cond s4 (sq (rg [gm s0,gm cd,gm l0,gm cse] [(1,1),(2,2),(3,3)]) .ret) .skip)) (sq (sq (rg [gm s0,gx 254 [l0,(cs [63])] je,gm l1,ge l2 0,ge l2 1,gm l3,gm l4] [(6,5),(5,6)]) (sq (r1 [gm s5,gm l0,gmt 1 s6,cG 1 (.call 349 [l2] cv),fR l1 l3] 7 4) (.cond s7 (sq (rg [gm s6,gm kS,gm l0,gm cse] [(1,1),(2,2),(3,3)]) .ret) .skip))) (sq (sq (rg [gm s0,gx 487 [l0,(cs [47])] je,gm l1,ge l2 0,ge l2 1,ge l2 2,gm l3,gm l4,gm l5] [(9,6),(10,7),(8,8)]) (sq (r1 [gm s8,gm l0,gmt 1 s9,cG 1 (.call 208 [l2] cv),fR l1 l3,gm l4,gmt 5 lP,cG 5 (.call 349 [l6] cv),fR l5 l7] 11 8) (.cond oS (sq (rg [gm s9,gm lP,gm kI,gm l0,gm l1] [(1,2),(2,3),(3,4)]) .ret) .skip))) (sq (rg [gm bF,gm cse,gm cse] [(1,0),(2,1),(3,2)]) .ret)))))⟩
def w448 {Γ:Ctx}(hm:(Γ.at 0).bq)(h208:G1 Γ)(h254:L5 Γ)(h349:Af Γ)(h487:Mp Γ)(s:ah)  (hp0:s.length≤1048576):dX Γ xq (.tup [.int .i64 (cg s).1,.str (cg s).2.1,.str (cg s).2.2]) [.str s]:=by
 show bB _ _ _ [⟨_,_⟩,_,_,_,_,_,_,_,_,_,_,_] _;refine ak ?_;refine bd ?_;refine aj (hc:=h349 _) ?_;refine ay ?_;refine cH (fun hc0=>?_) fun hc0=>?_
 ·refine bT ?_;refine cl (ki (congrArg (D.int .i64) ?_) (congrArg D.str ?_) (congrArg D.str ?_));all_goals rw[HT hc0]
 refine aA ?_;refine aj (hc:=h254 s [63] hp0 (by decide)) ?_;refine gG ?_;refine aj (hc:=h349 _) ?_;refine ax ?_;refine cH (fun hc1=>?_) fun hc1=>?_
 ·refine bT ?_;refine cl (ki (congrArg (D.int .i64) ?_) (congrArg D.str ?_) (congrArg D.str ?_));all_goals rw[HX hc0 hc1]
 refine aA ?_;refine aj (hc:=h487 s 47 hp0) ?_;refine kn ?_;refine aj (hc:=h208 _) ?_;refine az ?_;refine aj (hc:=h349 _) ?_;refine ax ?_;refine cH (fun hc2=>?_) fun hc2=>?_
 ·refine dz ?_;refine cl (ki (congrArg (D.int .i64) ?_) (congrArg D.str ?_) (congrArg D.str ?_));all_goals rw[HY hc0 hc1 hc2]
 refine bd ?_;refine cl (ki (congrArg (D.int .i64) ?_) (congrArg D.str ?_) (congrArg D.str ?_));all_goals rw[HW hc0 hc1 hc2]
def JK (Γ:Ctx):Prop:=∀(s:ah),(s.length≤1048576)→Γ.pre 448 [.str s]∧Γ.val 448 [.str s]=.tup [.int .i64 (cg s).1,.str (cg s).2.1,.str (cg s).2.2]
end Go.Abs
end
section
namespace Go.Abs
open Go
def yG:aB:=⟨1,18,kC,cv,(sq (r1 [gm c9] 1 0) (sq (sq (r1 [gm s0,gl l0,dH l1 HP] 2 2) (n8 s2 c9)) (sq (sq (rg [gm s0,gl l0,gm bF] [(6,0),(4,1),(3,2)]) (.block 0 (.loop (sq (r1 [aV s3 s4] 5 0) (sq (ir s5 0) (sq (.block 1 (sq (rg [gm s3,ga 2 s6 s3,gk 2 true l1,gb 2 (.c (.agg [.str [],.av])),gm l0,gt 2 l3 l2] [(7,3),(8,4)]) (sq (sq (r2 [gf 0 s7,gd l0,gx 349 [l1] cv,n9 l2,gm l3,fj 4 s8,cb 4 (du l5 bF),fj 4 l6,gmt 7 s0,gmt 7 s8,cG 7 (mr l9 cd),cG 7 (.ia 2 l8 l10),pc 7 0 jx,nF 7 kJ,pc 7 0 s7,nF 7 mV,cG 7 (yr me nV),Eb 4 l7 pP,eZ l4 tP,gm uV,gJ 19 1 s7,iR 19 yZ,cb 19 (.len Ab),cb 19 (du BU AK),eZ vZ Fg,gm Fh,gJ 25 1 s7,iR 25 Jm,cb 25 (.call 447 [KC] [[.sl 1 [.a]]]),cb 25 (.un .not LF),eZ Fi LG] 9 30) (n8 s9 c9)) (sq (rg [gf 1 s7,gd l0,gl l1,gm bF] [(13,1),(11,2),(10,3)]) (.block 2 (.loop (sq (r1 [aV lP oS] 12 0) (sq (ir lu 2) (sq (.block 3 (sq (r1 [ga 1 sQ lP,gd l0,gm l1] 14 2) (sq (rg [gm sk,gx 448 [l0] cv,gm l1,ge l2 0,ge l2 1,ge l2 2,gm l3,gm l4,gm l5] [(15,6),(16,7)]) (sq (r1 [gm wz,aF l0 bF,gm l1,fj 2 wz,cb 2 (cM l3 cd),fj 2 l4,gmt 5 s0,gmt 5 Ch,cG 5 (.call 449 [l6,l7] [[.sl 2 [.a,.sl 1 [.a]]],[.a]]),cG 5 (.un .not l8),Eb 2 l5 l9,eZ l2 l10] 17 11) (n8 yf c9))))) (r1 [ar lP cd,gm l0] 10 1)))))))))) (r1 [ar s3 cd,gm l0] 3 1))))))) (AH sC))))⟩
def w213 {Γ:Ctx}(hm:(Γ.at 0).bq)(h349:Af Γ)(h447:Md Γ)(h448:JK Γ)(h449:Me Γ)(l:List bj)  (hp0:sG l):dX Γ yG (.bool (fG l)) [.sl 2 (l.map bj.D)]:=by
 show bB _ _ _ [⟨_,_⟩,_,_,_,_,_,_,_,_,_,_,_,_,_,_,_,_,_] _;refine ak ?_;refine aP ?_;intro u0;refine ax ?_;refine cH (fun hc0=>?_) fun hc0=>?_
 ·refine aQ ?_;refine bD ?_;symm;simp only[fG];rw[decide_eq_false (by omega)];rfl
 refine aQ ?_;intro u1;refine ax ?_;have hb:fG l=ca (kp l) 0 l.length:=by simp only[fG];rw[decide_eq_true (by omega)];rfl
 refine bp hm (ι:=Nat) (fun i=>[⟨true,.sl 2 (l.map bj.D)⟩,.un,.un,⟨true,.int .i64 (i:Nat)⟩,⟨true,.int .i64 (l.length:Nat)⟩,.un,⟨true,.sl 2 (l.map bj.D)⟩,.un,.un,.un,.un,.un,.un,.un,.un,.un,.un,.un]) (fun i=>[]) 7 (fun i=>i≤l.length∧fG l=ca (kp l) i l.length) (fun i=>l.length-i) 0 ⟨by omega,hb⟩ (dR []) ?_;rintro i ⟨hi,hr⟩;refine az ?_;refine cH (fun hc1=>?_) fun hc1=>?_
 ·refine aQ ?_;first|refine bV (v:=(bj.D _)) ?_|refine eC (v:=(bj.D _)) ?_
  refine ax ?_;refine aJ (bj.D l[i]!) (he:=by exact rfl) ?_;refine aQ ?_;refine aj (hc:=h349 _) ?_;refine bT ?_;refine cJ (i-1) ?_;refine jZ ?_;refine lr ?_;refine aQ ?_;refine aj (hc:=h447 _) ?_;refine az ?_;refine aq (fun hc2=>?_) (fun hc2=>?_)
  ·have hfo:=CO hc2;refine bd ?_;refine bD ?_;rw[hr,aD (by omega),hfo];rfl
  have hfo:=CP hc2;refine aQ ?_;intro u2;refine ax ?_;refine p8 hm (ι:=Nat) (fun j=>[⟨true,.sl 2 (l.map bj.D)⟩,.un,.un,⟨true,.int .i64 (i:Nat)⟩,⟨true,.int .i64 (l.length:Nat)⟩,.un,⟨true,.sl 2 (l.map bj.D)⟩,.un,.un,.un,⟨true,.int .i64 (j:Nat)⟩,⟨true,.int .i64 (l[i]!.of.length:Nat)⟩,.un,⟨true,.sl 1 (l[i]!.of.map D.str)⟩,.un,.un,.un,.un]) (fun j=>[]) 49 (fun j=>j≤l[i]!.of.length∧kp l i=ca (fun j=>iS l l[i]!.of[j]!) j l[i]!.of.length) (fun j=>l[i]!.of.length-j) 0 ⟨by omega,hfo⟩ (dR []) ?_;rintro j ⟨hj,hjr⟩;refine az ?_;refine cH (fun hc3=>?_) fun hc3=>?_
  ·refine dz ?_;refine aj (hc:=h448 l[i]!.of[j]! ((hp0 _ (bL (by omega))).2.2 _ (bL (by omega)))) ?_;refine GQ ?_;refine aj (hc:=h449 _ _) ?_;refine aA ?_;refine wp_cond (fun hc4=>?_) (fun hc4=>?_)
   ·have hz:iS l l[i]!.of[j]! =false:=by simp only[iS,hc4];rfl
    refine bT ?_;refine bD ?_;rw[hr,aD (by omega),hjr,aD (by omega),hz];rfl
   have hz:iS l l[i]!.of[j]! =true:=by simp only[iS,hc4];rfl
   refine bd ?_;exact⟨j+1,⟨by omega,by rw[hjr,aD (by omega),hz];rfl⟩,by omega,(dR [])⟩
  refine bT ?_;exact⟨i+1,⟨by omega,by rw[hr,aD (by omega),hjr,bK (by omega)];rfl⟩,by omega,(dR [])⟩
 refine aP ?_;refine bD ?_;rw[hr,bK (by omega)]
def LV (Γ:Ctx):Prop:=∀(l:List bj),(sG l)→Γ.pre 213 [.sl 2 (l.map bj.D)]∧Γ.val 213 [.sl 2 (l.map bj.D)]=.bool (fG l)
end Go.Abs
end
section
namespace Go.Abs
open Go
def DQ:aB:=⟨1,11,kC,cv,(sq (r1 [gm cse] 1 0) (sq (sq (r1 [gm s0] 2 0) (.block 0 (sq (r1 [aF s2 cd,gm l0] 3 1) (.cond s3 (sq (r1 [gm (cs [61])] 1 0) .ret) (sq (r1 [aF s2 kS,gm l0] 4 1) (.cond s4 (sq (r1 [gm (cs [33,61])] 1 0) .ret) (sq (r1 [aF s2 kI,gm l0] 5 1) (.cond s5 (sq (r1 [gm (cs [60])] 1 0) .ret) (sq (r1 [aF s2 uU,gm l0] 6 1) (.cond s6 (sq (r1 [gm (cs [60,61])] 1 0) .ret) (sq (r1 [aF s2 AJ,gm l0] 7 1) (.cond s7 (sq (r1 [gm (cs [62])] 1 0) .ret) (sq (r1 [aF s2 AK,gm l0] 8 1) (.cond s8 (sq (r1 [gm (cs [62,61])] 1 0) .ret) (sq (r1 [aF s2 Ky,gm l0] 9 1) (.cond s9 (sq (r1 [gm (cs [94])] 1 0) .ret) (sq (r1 [aF s2 HP,gm l0] 10 1) (.cond lP (sq (r1 [gm (cs [126])] 1 0) .ret) .skip)))))))))))))))))) (AH cse)))⟩
def w678 {Γ:Ctx}(hm:(Γ.at 0).bq)  (op:Int)   :dX Γ DQ (.str (bQ op)) [.int .i64 op]:=by
 show bB _ _ _ [⟨_,_⟩,_,_,_,_,_,_,_,_,_,_] _;refine ak ?_;refine gG ?_;refine gv (fun hc0=>?_) fun hc0=>?_
 ·refine aQ ?_;refine cz ?_;unfold bQ;simp_all
 refine aA ?_;refine gv (fun hc1=>?_) fun hc1=>?_
 ·refine aQ ?_;refine cz ?_;unfold bQ;simp_all
 refine aA ?_;refine gv (fun hc2=>?_) fun hc2=>?_
 ·refine aQ ?_;refine cz ?_;unfold bQ;simp_all
 refine aA ?_;refine gv (fun hc3=>?_) fun hc3=>?_
 ·refine aQ ?_;refine cz ?_;unfold bQ;simp_all
 refine aA ?_;refine gv (fun hc4=>?_) fun hc4=>?_
 ·refine aQ ?_;refine cz ?_;unfold bQ;simp_all
 refine aA ?_;refine gv (fun hc5=>?_) fun hc5=>?_
 ·refine aQ ?_;refine cz ?_;unfold bQ;simp_all
 refine aA ?_;refine gv (fun hc6=>?_) fun hc6=>?_
 ·refine aQ ?_;refine cz ?_;unfold bQ;simp_all
 refine aA ?_;refine gv (fun hc7=>?_) fun hc7=>?_
 ·refine aQ ?_;refine cz ?_;unfold bQ;simp_all
 refine aP ?_;refine cz ?_;unfold bQ;simp_all
def MA (Γ:Ctx):Prop:=∀(op:Int),Γ.pre 678 [.int .i64 op]∧Γ.val 678 [.int .i64 op]=.str (bQ op)
def CH:aB:=⟨1,11,kC,cv,(sq (r1 [gm cse] 1 0) (sq (sq (r1 [gm s0] 2 0) (.block 0 (sq (r1 [aF s2 cd,gm l0] 3 1) (.cond s3 (sq (r1 [gm (cs [61])] 1 0) .ret) (sq (r1 [aF s2 kS,gm l0] 4 1) (.cond s4 (sq (r1 [gm (cs [33,61])] 1 0) .ret) (sq (r1 [aF s2 kI,gm l0] 5 1) (.cond s5 (sq (r1 [gm (cs [60])] 1 0) .ret) (sq (r1 [aF s2 uU,gm l0] 6 1) (.cond s6 (sq (r1 [gm (cs [60,61])] 1 0) .ret) (sq (r1 [aF s2 AJ,gm l0] 7 1) (.cond s7 (sq (r1 [gm (cs [62])] 1 0) .ret) (sq (r1 [aF s2 AK,gm l0] 8 1) (.cond s8 (sq (r1 [gm (cs [62,61])] 1 0) .ret) (sq (r1 [aF s2 Ky,gm l0] 9 1) (.cond s9 (sq (r1 [gm (cs [94])] 1 0) .ret) (sq (r1 [aF s2 HP,gm l0] 10 1) (.cond lP (sq (r1 [gm (cs [126])] 1 0) .ret) .skip)))))))))))))))))) (AH cse)))⟩
def w957 {Γ:Ctx}(hm:(Γ.at 0).bq)  (op:Int)   :dX Γ CH (.str (bQ op)) [.int .i64 op]:=by
 show bB _ _ _ [⟨_,_⟩,_,_,_,_,_,_,_,_,_,_] _;refine ak ?_;refine gG ?_;refine gv (fun hc0=>?_) fun hc0=>?_
 ·refine aQ ?_;refine cz ?_;unfold bQ;simp_all
 refine aA ?_;refine gv (fun hc1=>?_) fun hc1=>?_
 ·refine aQ ?_;refine cz ?_;unfold bQ;simp_all
 refine aA ?_;refine gv (fun hc2=>?_) fun hc2=>?_
 ·refine aQ ?_;refine cz ?_;unfold bQ;simp_all
 refine aA ?_;refine gv (fun hc3=>?_) fun hc3=>?_
 ·refine aQ ?_;refine cz ?_;unfold bQ;simp_all
 refine aA ?_;refine gv (fun hc4=>?_) fun hc4=>?_
 ·refine aQ ?_;refine cz ?_;unfold bQ;simp_all
 refine aA ?_;refine gv (fun hc5=>?_) fun hc5=>?_
 ·refine aQ ?_;refine cz ?_;unfold bQ;simp_all
 refine aA ?_;refine gv (fun hc6=>?_) fun hc6=>?_
 ·refine aQ ?_;refine cz ?_;unfold bQ;simp_all
 refine aA ?_;refine gv (fun hc7=>?_) fun hc7=>?_
 ·refine aQ ?_;refine cz ?_;unfold bQ;simp_all
 refine aP ?_;refine cz ?_;unfold bQ;simp_all
def J0 (Γ:Ctx):Prop:=∀(op:Int),Γ.pre 957 [.int .i64 op]∧Γ.val 957 [.int .i64 op]=.str (bQ op)
def yA:aB:=⟨2,3,[⟨2,none⟩],cv,(sq (r1 [gm c9] 2 0) (sq (r1 [gm s0,ye l0,gm s1,ye l2,hX l1 l3,gm l4,gmt 5 s0,gmt 5 s1,cG 5 (.lenS l7),cG 5 (.slS l6 none (some l8)),gmt 5 s1,cG 5 (cM l9 l10),fR l5 jx,gm kJ] 2 13) .ret))⟩
def w956 {Γ:Ctx}(hm:(Γ.at 0).bq)  (s:ah)(w:ah)   :dX Γ yA (.bool (qk s w)) [.str s,.str w]:=by
 show bB _ _ _ [⟨_,_⟩,⟨_,_⟩,_] _;refine ak ?_;refine aQ ?_;intro u0;refine ax ?_;intro u1;refine aA ?_;refine lr ?_;refine uv w.length (hj:=fun _=>rfl) (hb:=fun h=>by simp at h;omega) ?_;refine aP ?_;refine bD ?_;unfold qk;rw[show decide ((w.length:Int)≤(s.length:Int))=decide (w.length≤s.length)from decide_eq_decide.2 (by omega)]
def MK (Γ:Ctx):Prop:=∀(s:ah)(w:ah),Γ.pre 956 [.str s,.str w]∧Γ.val 956 [.str s,.str w]=.bool (qk s w)
end Go.Abs
end
section
namespace Go.Abs
open Go
def Gt:aB:=⟨1,8,kC,cv,(sq (rg [gb 7 s0,gm c9] [(2,0),(1,1)]) (sq (sq (r1 [gf 0 s2,gd l0,aV l1 cd,gm l2,gJ 3 0 s2,iR 3 l4,cb 3 (du l5 BR),eZ l3 l6,gm l7,gJ 8 2 s2,cb 8 (.ld 5 true l9),cb 8 (.call 217 [l10] Ku),cb 8 (.un .not jx),eZ l8 kJ,gm me,gJ 14 2 s2,gJ 14 4 nV,iR 14 pP,cb 14 (dY tP cse),eZ mV uV] 3 19) (n8 s3 c9)) (sq (rg [gm cd,gm kI] [(5,0),(6,1)]) (sq (sq (r1 [gf 0 s2,gd l0,aF l1 BR] 4 2) (.cond s4 (rg [gm bF,gm kS] [(5,0),(6,1)]) .skip)) (sq (sq (r1 [gf 1 s2,gd l0,gm s5,aV l1 l2,gm l3,gJ 4 1 s2,iR 4 l5,fj 4 s6,cb 4 (du l6 l7),eZ l4 l8,gm l9,gJ 10 1 s2,iR 10 jx,cb 10 (ph kJ kI),fj 10 me,pc 14 2 s2,pc 14 3 nV,nF 14 pP,cG 14 (dY tP cse),Eb 10 mV uV,eZ l10 vZ] 7 20) (n8 s7 c9)) (sq (r1 [gf 1 s2,gd l0,dH l1 bF,gm l2,gJ 3 2 s2,gJ 3 0 l4,iR 3 l5,cb 3 (cM l6 bF),eZ l3 l7,gm l8,pc 9 1 s2,nF 9 l10,cG 9 (du jx cd),gmt 9 kJ,gJ 13 2 s2,gJ 13 1 mV,iR 13 nV,cb 13 (cM pP bF),LB 9 me tP,fR l9 uV,gm vZ,pc 20 1 s2,nF 20 Ab,cG 20 (du BU kS),gmt 20 Fg,gJ 24 2 s2,gJ 24 2 Fi,iR 24 Jm,cb 24 (cM KC bF),LB 20 Fh LF,fR yZ LG,gm NC] 1 31) .ret))))))⟩
def w676 {Γ:Ctx}(hm:(Γ.at 0).bq)(h217:LX Γ)(c:b7)  (hp0:c.v.sm):dX Γ Gt (.bool (iQ c)) [b7.D c]:=by
 show bB _ _ _ [⟨_,_⟩,_,_,_,_,_,_,_] _;refine ak ?_;refine z7 ?_;refine cu (v:=df.D c.v) ?_;refine eB (hc:=fun hf=>h217 c.v hp0) ?_;refine dz ?_;refine aq (fun hc0=>?_) (fun hc0=>?_)
 ·have hq:=yy hc0;refine aQ ?_;refine bD ?_;rw[hq]
 have hy:=vL hc0;refine gG ?_;refine aq (fun hc1=>?_) (fun hc1=>?_)
 ·simp only[decide_eq_true_eq]at hc1;have hz:=nt hy (lo:=0) (hi:=2) (if_pos hc1) (if_pos hc1);refine GR ?_;refine aq (fun hc2=>?_) (fun hc2=>?_)
  ·rw[hc2]at hz;refine aQ ?_;refine bD ?_;rw[hz];rfl
  rw[hc2]at hz;refine JB ?_;refine bD ?_;rw[hz];rfl
 simp only[decide_eq_false_iff_not]at hc1;have hz:=nt hy (lo:=1) (hi:=3) (if_neg hc1) (if_neg hc1);refine JA ?_;refine aq (fun hc2=>?_) (fun hc2=>?_)
 ·rw[hc2]at hz;refine aQ ?_;refine bD ?_;rw[hz];rfl
 rw[hc2]at hz;refine JB ?_;refine bD ?_;rw[hz];rfl
def Mz (Γ:Ctx):Prop:=∀(c:b7),(c.v.sm)→Γ.pre 676 [b7.D c]∧Γ.val 676 [b7.D c]=.bool (iQ c)
def EG:aB:=⟨1,14,kC,cv,(sq (rg [gb 7 s0,gm c9] [(2,0),(1,1)]) (sq (sq (r1 [gf 0 s2,gd l0,aV l1 cd,gm l2,gJ 3 0 s2,iR 3 l4,cb 3 (du l5 BR),eZ l3 l6,gm l7,gJ 8 2 s2,cb 8 (.ld 5 true l9),cb 8 (.call 209 [l10] Ku),cb 8 (.un .not jx),eZ l8 kJ,gm me,gJ 14 2 s2,gJ 14 4 nV,iR 14 pP,cb 14 (dY tP cse),eZ mV uV] 3 19) (n8 s3 c9)) (sq (rg [gm cd,gm kI] [(5,0),(6,1)]) (sq (sq (r1 [gf 0 s2,gd l0,aF l1 BR] 4 2) (.cond s4 (rg [gm bF,gm kS] [(5,0),(6,1)]) .skip)) (sq (sq (r1 [gf 1 s2,gd l0,gm s5,aV l1 l2,gm l3,gJ 4 1 s2,iR 4 l5,fj 4 s6,cb 4 (du l6 l7),eZ l4 l8,gm l9,gJ 10 2 s2,gJ 10 3 jx,iR 10 kJ,cb 10 (dY me cse),fj 10 mV,pc 15 1 s2,nF 15 pP,cG 15 (ph tP kI),Eb 10 nV uV,eZ l10 vZ] 7 20) (n8 s7 c9)) (sq (sq (r1 [gf 1 s2,gd l0] 8 1) (.block 0 (sq (.block 3 (sq (.block 2 (sq (.block 1 (sq (sq (sq (r1 [aF s8 bF,gm l0] 9 1) (.cond s9 (.exit 1) .skip)) (sq (sq (r1 [aF s8 cd,gm l0] 10 1) (.cond lP (.exit 2) .skip)) (sq (r1 [aF s8 kS,gm l0] 11 1) (.cond oS (.exit 3) .skip)))) (.exit 0))) (sq (r1 [gf 2 s2,gf 0 l0,gd l1,b8 l2 bF] 12 3) (n8 lu c9)))) (sq (r1 [gf 2 s2,gf 1 l0,gd l1,b8 l2 bF] 13 3) (n8 sQ c9)))) (sq (sq (r1 [gf 2 s2,gf 2 l0,gd l1,aF l2 bF,gm l3] 1 4) .ret) (.exit 0))))) (AH sC)))))))⟩
def w827 {Γ:Ctx}(hm:(Γ.at 0).bq)(h209:Eg Γ)(c:b7)  (hp0:c.v.sm):dX Γ EG (.bool (iQ c)) [b7.D c]:=by
 show bB _ _ _ [⟨_,_⟩,_,_,_,_,_,_,_,_,_,_,_,_,_] _;refine ak ?_;refine z7 ?_;refine cu (v:=df.D c.v) ?_;refine eB (hc:=fun hf=>h209 c.v hp0) ?_;refine dz ?_;refine aq (fun hc0=>?_) (fun hc0=>?_)
 ·have hq:=yy hc0;refine aQ ?_;refine bD ?_;rw[hq]
 have hy:=vL hc0;refine gG ?_;refine aq (fun hc1=>?_) (fun hc1=>?_)
 ·simp only[decide_eq_true_eq]at hc1;have hz:=nt hy (lo:=0) (hi:=2) (if_pos hc1) (if_pos hc1);refine GR ?_;refine aq (fun hc2=>?_) (fun hc2=>?_)
  ·rw[Bool.and_comm (!decide (c.v.pre=[]))]at hc2;rw[hc2]at hz;refine aQ ?_;refine bD ?_;rw[hz];simp[mb]<;>simp_all<;>omega
  rw[Bool.and_comm (!decide (c.v.pre=[]))]at hc2;rw[hc2]at hz;refine xa ?_;refine cH (fun hc3=>?_) fun hc3=>?_
  ·refine bT ?_;refine gv (fun hc6=>?_) fun hc6=>?_
   ·refine bd ?_;refine bD ?_;rw[hz];simp[mb]<;>simp_all<;>omega
   refine bT ?_;refine gv (fun hc7=>?_) fun hc7=>?_
   ·refine aP ?_;refine bD ?_;rw[hz];simp[mb]<;>simp_all<;>omega
   refine iP ?_;refine bD ?_;rw[hz];simp[mb]<;>simp_all<;>omega
  refine bd ?_;refine cH (fun hc4=>?_) fun hc4=>?_
  ·refine dz ?_;refine gv (fun hc7=>?_) fun hc7=>?_
   ·refine aP ?_;refine bD ?_;rw[hz];simp[mb]<;>simp_all<;>omega
   refine iP ?_;refine bD ?_;rw[hz];simp[mb]<;>simp_all<;>omega
  refine aP ?_;refine cH (fun hc5=>?_) fun hc5=>?_
  ·refine w9 ?_;refine bD ?_;rw[hz];simp[mb]<;>simp_all<;>omega
  refine jZ ?_;refine bD ?_;rw[hz];simp[mb]<;>simp_all<;>omega
 simp only[decide_eq_false_iff_not]at hc1;have hz:=nt hy (lo:=1) (hi:=3) (if_neg hc1) (if_neg hc1);refine JA ?_;refine aq (fun hc2=>?_) (fun hc2=>?_)
 ·rw[Bool.and_comm (!decide (c.v.pre=[]))]at hc2;rw[hc2]at hz;refine aQ ?_;refine bD ?_;rw[hz];simp[mb]<;>simp_all<;>omega
 rw[Bool.and_comm (!decide (c.v.pre=[]))]at hc2;rw[hc2]at hz;refine xa ?_;refine cH (fun hc3=>?_) fun hc3=>?_
 ·refine bT ?_;refine gv (fun hc6=>?_) fun hc6=>?_
  ·refine bd ?_;refine bD ?_;rw[hz];simp[mb]<;>simp_all<;>omega
  refine bT ?_;refine gv (fun hc7=>?_) fun hc7=>?_
  ·refine aP ?_;refine bD ?_;rw[hz];simp[mb]<;>simp_all<;>omega
  refine iP ?_;refine bD ?_;rw[hz];simp[mb]<;>simp_all<;>omega
 refine bd ?_;refine cH (fun hc4=>?_) fun hc4=>?_
 ·refine dz ?_;refine gv (fun hc7=>?_) fun hc7=>?_
  ·refine aP ?_;refine bD ?_;rw[hz];simp[mb]<;>simp_all<;>omega
  refine iP ?_;refine bD ?_;rw[hz];simp[mb]<;>simp_all<;>omega
 refine aP ?_;refine cH (fun hc5=>?_) fun hc5=>?_
 ·refine w9 ?_;refine bD ?_;rw[hz];simp[mb]<;>simp_all<;>omega
 refine jZ ?_;refine bD ?_;rw[hz];simp[mb]<;>simp_all<;>omega
def G8 (Γ:Ctx):Prop:=∀(c:b7),(c.v.sm)→Γ.pre 827 [b7.D c]∧Γ.val 827 [b7.D c]=.bool (iQ c)
end Go.Abs
end
section
namespace Go.Abs
open Go
def Ax:aB:=⟨1,16,kC,cv,(sq (rg [gb 7 s0,gm cse] [(2,0),(1,1)]) (sq (sq (r1 [gk 7 true s2,gx 827 [l0] Kv,n9 l1] 3 2) (n8 s3 cse)) (sq (r1 [gf 0 s2,gd l0,gx 957 [l1] cv,gm l2] 11 3) (sq (sq (rg [gf 2 s2,gf 0 l0,gd l1,gf 2 s2,gf 1 l3,gd l4,gf 2 s2,gf 2 l6,gd l7,gn (.bsl 1 (.int .i64 0) 3 [(0,l2),(1,l5),(2,l8)]),gl l9,gm bF] [(7,9),(5,10),(4,11)]) (.block 0 (.loop (sq (r1 [aV s4 s5] 6 0) (sq (ir s6 0) (sq (.block 1 (sq (rg [gm s4,ga 1 s7 s4,gd l1,gm l0,gm l2] [(8,3),(12,4)]) (sq (sq (r1 [gm s8,gf 1 s2,gd l1,hX l0 l2] 9 3) (.cond s9 (.exit 0) .skip)) (sq (sq (r1 [gm s8,dH l0 bF] 10 1) (.cond lP (r1 [gm oS,ar l0 (cs [46]),gm l1] 11 2) .skip)) (r1 [gm oS,gm lu,gx 665 [l1] cv,ar l0 l2,gm l3] 11 4))))) (r1 [ar s4 cd,gm l0] 4 1))))))) (sq (sq (r1 [gf 0 s2,gd l0,aF l1 BR] 13 2) (.cond sQ (sq (sq (r1 [gf 1 s2,gd l0,dH l1 bF] 14 2) (.cond sk (r1 [gm oS,ar l0 (cs [46]),gm l1] 11 2) .skip)) (sq (r1 [gm oS,ar l0 (cs [42]),gm l1] 1 2) .ret)) .skip)) (sq (sq (r1 [gf 2 s2,gf 3 l0,gd l1,b8 l2 cse] 15 3) (.cond wz (r1 [gm oS,gf 2 s2,gf 3 l1,gd l2,ar (cs [45]) l3,ar l0 l4,gm l5] 11 6) .skip)) (sq (r1 [gm oS,gm l0] 1 1) .ret)))))))⟩
def w828 {Γ:Ctx}(hm:(Γ.at 0).bq)(h665:JV Γ)(h827:G8 Γ)(h957:J0 Γ)(c:b7)  (hp0:c.v.sm):dX Γ Ax (.str (cV c)) [b7.D c]:=by
 show bB _ _ _ [⟨_,_⟩,_,_,_,_,_,_,_,_,_,_,_,_,_,_,_] _;refine ak ?_;refine aP ?_;refine aj (hc:=h827 _ ?_) ?_;rotate_left;first|assumption|omega
 refine ax ?_;refine aq (fun hc0=>?_) (fun hc0=>?_)
 ·simp only[Bool.not_eq_true']at hc0;refine aQ ?_;refine cz ?_;simp[cV,hc0]
 simp only[Bool.not_eq_false']at hc0;obtain⟨hv,hp1,hp2,hp3,hp4⟩:=kN hc0;have hsl:=qZ c.op;have hnl:=nJ hv;refine aA ?_;refine aj (hc:=h957 _) ?_;refine kn ?_;refine cy [(.int _ _),(.int _ _),(.int _ _)] ?_;refine ay ?_;intro u0;refine ax ?_;refine eu 18 ?_;refine bp hm (ι:=Nat) (fun i=>[.un,.un,⟨true,.ptr 0 7 0 0⟩,.un,⟨true,.int .i64 (i:Nat)⟩,⟨true,.int .i64 3⟩,.un,⟨true,.sl 1 (c.iH.map (D.int .i64))⟩,.un,.un,.un,⟨true,.str (bQ c.op++dF c i)⟩,.un,.un,.un,.un]) (fun i=>[(0,.buf 7 [b7.D c])]) 21 (fun i=>i≤3∧i≤c.parts.toNat) (fun i=>3-i) 0 ⟨by omega,by omega⟩ (aN.to [(0,0)] ae ae (by repeat(first|exact c7.nil|refine c7.un ?_|refine c7.eq ae ?_|refine c7.nl (congrArg D.str (by first|(simp only[dF,if_pos hpos,List.append_assoc];done)|(simp only[dF,if_neg hpos,List.append_assoc,List.nil_append];done)|simp[dF])) ae ?_|refine c7.nl ae ae ?_)) zn) ?_;rintro i ⟨hi,hip⟩;have hni:=hnl i;have hfit:=mY hv i;have hn3:c.iH.length=3:=rfl;refine az ?_;refine cH (fun hc1=>?_) fun hc1=>?_
 ·refine xa ?_;refine cH (fun hc2=>?_) fun hc2=>?_
  ·refine aQ ?_;obtain rfl:i=c.parts.toNat:=by omega
   refine aA ?_;refine cH (fun hc4=>?_) fun hc4=>?_
   ·refine bd ?_;refine cH (fun hc5=>?_) fun hc5=>?_
    ·refine ax ?_;refine rZ ?_;refine aQ ?_;refine rZ ?_;refine az ?_;refine cz ?_;simp[cV,iC,gU,hc0, *]
    refine aA ?_;refine rZ ?_;refine az ?_;refine cz ?_;simp[cV,iC,gU,hc0, *]
   refine bT ?_;refine cH (fun hc6=>?_) fun hc6=>?_
   ·refine ay ?_;have hpl:=hp0.1;refine aA ?_;refine rZ ?_;refine rZ ?_;refine bd ?_;refine cz ?_;simp[cV,iC,gU,hc0, *]
   refine aP ?_;refine cz ?_;simp[cV,iC,gU,hc0, *]
  refine aP ?_;refine aq (fun hc3=>?_) (fun hc3=>?_)
  ·simp only[decide_eq_true_eq]at hc3;have hpos:0<i:=by omega
   refine ax ?_;refine rZ ?_;refine aQ ?_;refine aj (hc:=h665 (c.iH[i]!) ⟨hfit.1,hfit.2⟩) ?_;have hdl:=dD 4 (c.iH[i]!).toNat (by omega) (by omega);refine rZ ?_;refine bT ?_;exact⟨i+1,⟨by omega,by omega⟩,by omega,(aN.to [(0,0)] ae ae (by repeat(first|exact c7.nil|refine c7.un ?_|refine c7.eq ae ?_|refine c7.nl (congrArg D.str (by first|(simp only[dF,if_pos hpos,List.append_assoc];done)|(simp only[dF,if_neg hpos,List.append_assoc,List.nil_append];done)|simp[dF])) ae ?_|refine c7.nl ae ae ?_)) zn)⟩
  simp only[decide_eq_false_iff_not]at hc3;have hpos:¬0<i:=by omega
  refine aA ?_;refine aj (hc:=h665 (c.iH[i]!) ⟨hfit.1,hfit.2⟩) ?_;have hdl:=dD 4 (c.iH[i]!).toNat (by omega) (by omega);refine rZ ?_;refine bT ?_;exact⟨i+1,⟨by omega,by omega⟩,by omega,(aN.to [(0,0)] ae ae (by repeat(first|exact c7.nil|refine c7.un ?_|refine c7.eq ae ?_|refine c7.nl (congrArg D.str (by first|(simp only[dF,if_pos hpos,List.append_assoc];done)|(simp only[dF,if_neg hpos,List.append_assoc,List.nil_append];done)|simp[dF])) ae ?_|refine c7.nl ae ae ?_)) zn)⟩
 refine aA ?_;obtain rfl:i=c.parts.toNat:=by omega
 refine aA ?_;refine cH (fun hc4=>?_) fun hc4=>?_
 ·refine bd ?_;refine cH (fun hc5=>?_) fun hc5=>?_
  ·refine ax ?_;refine rZ ?_;refine aQ ?_;refine rZ ?_;refine az ?_;refine cz ?_;simp[cV,iC,gU,hc0, *]
  refine aA ?_;refine rZ ?_;refine az ?_;refine cz ?_;simp[cV,iC,gU,hc0, *]
 refine bT ?_;refine cH (fun hc6=>?_) fun hc6=>?_
 ·refine ay ?_;have hpl:=hp0.1;refine aA ?_;refine rZ ?_;refine rZ ?_;refine bd ?_;refine cz ?_;simp[cV,iC,gU,hc0, *]
 refine aP ?_;refine cz ?_;simp[cV,iC,gU,hc0, *]
def JX (Γ:Ctx):Prop:=∀(c:b7),(c.v.sm)→Γ.pre 828 [b7.D c]∧Γ.val 828 [b7.D c]=.str (cV c)
end Go.Abs
end
section
namespace Go.Abs
open Go
def qY:aB:=⟨1,4,kC,[[.sl 1 [.a]]],(sq (rg [gb 7 s0,gm (.c (.av))] [(2,0),(1,1)]) (sq (r2 [gf 2 s2,gf 0 l0,gd l1,gx 734 [l2] cv,gf 2 s2,gf 1 l4,gd l5,gx 734 [l6] cv,gf 2 s2,gf 2 l8,gd l9,gx 734 [l10] cv,gn (.bsl 1 (.str []) 3 [(0,l3),(1,l7),(2,jx)]),gm kJ] 3 13) (sq (r1 [gm s3,gf 1 s2,gd l1,gn (.slA 1 l0 none (some l2)),gm l3] 1 4) .ret)))⟩
def w677 {Γ:Ctx}(hm:(Γ.at 0).bq)(c:b7)(h734:ME Γ)(hp0:ei c.v=true∧0≤c.parts∧c.parts≤3):bB (Γ.at 0) qY.body (oe qY (One (.own 14 1 0 c.parts.toNat) [(0,.buf 7 [b7.D c]),(14,.buf 1 [.str (bR c.v.major.toNat),.str (bR c.v.minor.toNat),.str (bR c.v.patch.toNat)])]):Ex→List aY→St→Prop) (eI qY [b7.D c]) ⟨0,[]⟩:=by
 show bB _ _ _ [⟨_,_⟩,_,_,_] _;refine ak ?_;refine bd ?_;refine aj (hc:=h734 c.v.major (mY hp0.1 0)) ?_;refine az ?_;refine aj (hc:=h734 c.v.minor (mY hp0.1 1)) ?_;refine az ?_;refine aj (hc:=h734 c.v.patch (mY hp0.1 2)) ?_;refine cy [.str _,.str _,.str _] ?_;refine aP ?_;refine zo c.parts.toNat (hj:=fun _=>by omega) (hb:=fun _=>by omega) ?_;refine az ?_;refine eg trivial iJ (Eq.trans ae (?_)) ae (oneq _ _);rfl
def JW (Γ:Ctx):Prop:=∀(c:b7),(ei c.v=true∧0≤c.parts∧c.parts≤3)→∀(nx:Nat)(m:List (Nat×aW))(K:D→St→Prop),K (.own nx 1 0 c.parts.toNat) ⟨nx+1,(nx,.buf 1 [.str (bR c.v.major.toNat),.str (bR c.v.minor.toNat),.str (bR c.v.patch.toNat)])::m⟩→Γ.tr 677 [b7.D c] ⟨nx,m⟩ K
end Go.Abs
end
section
namespace Go.Abs
open Go
def Be:aB:=⟨1,8,kC,cv,(sq (rg [gb 7 s0,gm cse] [(2,0),(1,1)]) (sq (sq (r1 [gk 7 true s2,gx 676 [l0] Kv,n9 l1] 3 2) (n8 s3 cse)) (sq (r1 [gk 7 true s2,gn (.callM 677 [l0]),gm l1] 5 2) (sq (sq (r1 [gf 0 s2,gd l0,aF l1 BR] 4 2) (.cond s4 (sq (r1 [gm s5,gf 1 s2,gd l1,gf 1 s2,gd l3,gn (.slX 1 l0 l2 l4),gn (.bsl 1 (.str []) 1 [(0,(cs [42]))]),gn (.app 1 l5 l6),gx 249 [l7,(i8 46)] [[.sl 1 [.a]],[.a]],gm l8] 1 9) .ret) .skip)) (sq (r1 [gf 0 s2,gd l0,gx 678 [l1] cv,gm s5,gx 249 [l3,(i8 46)] [[.sl 1 [.a]],[.a]],ar l2 l4,gm l5] 7 6) (sq (sq (r1 [gf 2 s2,gf 3 l0,gd l1,b8 l2 cse] 6 3) (.cond s6 (r1 [gm s7,ar l0 (cs [45]),gf 2 s2,gf 3 l2,gd l3,ar l1 l4,gm l5] 7 6) .skip)) (sq (r1 [gm s7,gm l0] 1 1) .ret)))))))⟩
def w482 {Γ:Ctx}(hm:(Γ.at 0).bq)(h249:L4 Γ)(h676:Mz Γ)(h677:JW Γ)(h678:MA Γ)(c:b7)  (hp0:c.v.sm):dX Γ Be (.str (cV c)) [b7.D c]:=by
 show bB _ _ _ [⟨_,_⟩,_,_,_,_,_,_,_] _;refine ak ?_;refine aP ?_;refine aj (hc:=h676 _ ?_) ?_;rotate_left;first|assumption|omega
 refine ax ?_;refine aq (fun hc0=>?_) (fun hc0=>?_)
 ·simp only[Bool.not_eq_true']at hc0;refine aQ ?_;refine cz ?_;simp[cV,hc0]
 simp only[Bool.not_eq_false']at hc0;obtain⟨hv,hp1,hp2,hp3,hp4⟩:=kN hc0;have hsl:=qZ c.op;have hnl:=nJ hv c.parts.toNat;have htl:=zP hp2;have hj1:=wM hp2;have hj2:=ri hp1 hp2;have hl2:=congrArg List.length hj2;have hl1:=congrArg List.length hj1;simp only[List.length_append,List.length_singleton]at hl2;have hi2:(if 0<c.parts then([46]:ah)else []).length≤1:=by split<;>simp
 refine az ?_;refine cw (nx':=6) (v:=.own 6 1 0 c.parts.toNat) (m':=[(6,.buf 1 [.str (bR c.v.major.toNat),.str (bR c.v.minor.toNat),.str (bR c.v.patch.toNat)]),(0,.buf 7 [b7.D c])]) (hc:=fun K' hK=>h677 c ⟨hv,hp1,hp2⟩ _ _ K' hK) (hn:=by decide) ?_;refine bT ?_;refine cH (fun hc1=>?_) fun hc1=>?_
 ·refine bd ?_;refine Lh c.parts.toNat (hj:=fun _=>by omega) (hb:=fun _=>by omega) ?_;refine cy [.str _] ?_;refine B5 ((iL c++[[42]]).map D.str) (n:=(iL c++[[42]]).length) (ha:=by simp;omega) (he:=r0.own rfl (by simp)) (hz:=by rw[List.drop_zero,uI,List.map_append];rfl) (hn:=by simp;omega) (hb:=by simp;omega) ?_;refine aj (hc:=h249 (iL c++[[42]]) 46 (by rw[hj2];simp only[List.length_append,List.length_singleton];omega)) (ha:=fun _=>congrArg (fun d=>[d,D.int .u8 46]) (sW (q:=D.str) (fun _=>rfl) ae)) (hp:=fun _=>⟨p9 (q:=D.str) (fun _=>rfl) ae,rfl,trivial⟩) ?_;refine az ?_;refine cz ?_;rw[cV,if_pos hc0,hj2];simp[iC,gU,hc1,bQ]
 refine aA ?_;refine aj (hc:=h678 _) ?_;refine ay ?_;refine aj (hc:=h249 (iL c) 46 (by rw[hj1];omega)) (ha:=fun _=>congrArg (fun d=>[d,D.int .u8 46]) (IJ ae)) (hp:=fun _=>⟨Gz hp2 ae,rfl,trivial⟩) ?_;refine dc (hb:=fun _=>by omega) ?_;refine dz ?_;refine cH (fun hc2=>?_) fun hc2=>?_
 ·refine ay ?_;have hpl:=hp0.1;refine ay ?_;refine rZ ?_;refine az ?_;refine rZ ?_;refine bd ?_;refine cz ?_;rw[cV,if_pos hc0,hj1];simp[iC,gU,hc1,hc2]
 refine aP ?_;refine cz ?_;rw[cV,if_pos hc0,hj1];simp[iC,gU,hc1,hc2]
def Mn (Γ:Ctx):Prop:=∀(c:b7),(c.v.sm)→Γ.pre 482 [b7.D c]∧Γ.val 482 [b7.D c]=.str (cV c)
end Go.Abs
end
section
namespace Go.Abs
open Go
end Go.Abs
end
section
namespace Go.Abs
open Go
end Go.Abs
end
section
namespace Go.Abs
open Go
end Go.Abs
end
