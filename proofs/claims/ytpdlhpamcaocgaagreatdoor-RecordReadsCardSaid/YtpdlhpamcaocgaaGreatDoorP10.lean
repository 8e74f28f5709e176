/- A part of the proofs of the statements: LAsmS, LInj, Y2, Y3, RSpec20, Y4, RSpec21, LAsmT, W2, W3, X2, X3, X4, X6. -/
import Derived.Test.YtpdlhpamcaocgaaGreatDoorP09
set_option linter.all false
set_option maxRecDepth 4000
section
namespace Go.Abs
def F7 (ob:zN):Prop:=∀(σ:List (Nat×Nat))(l l':Nat)(w:List ai)(n:Nat)(b:Bool),kN 0 σ l=some l'→qB 0 σ (ob w (.own l 5 0 n) b)=some (ob w (.own l' 5 0 n) b)
def oH:F7 fF:=fun σ l l' w n b h=>by simp only[fF,qB,nG,BE,h]
def qz (W:List ai):F7 (fW W):=fun σ l l' w n b h=>by simp only[fW,qB,nG,BE,h]
def HV:D→Nat
 | .agg [.sl _ ws,_,_]=>ws.length
 | .agg [.sl _ ws,.int _ i,_,_]=>ws.length-i.toNat
 |_=>0
def yX (c:List D→Nat)(ds:List D)(st:St):Nat:=match ds with
 | .ptr l _ _ _::aaz=>(match look st.m l with
  |some (.buf _ [o])=>6*HV o+c aaz
  |_=>0)
 |_=>0
def JQ (w:List ai)(X:D)(b:Bool):HV (fF w X b)=w.length:=by simp[HV,fF]
def JR {W w:List ai}(h:w<:+W)(X:D)(b:Bool):HV (fW W w X b)=w.length:=by
 have:=h.length_le;simp only[HV,fW,List.length_map,Int.toNat_natCast];omega
def lU {c:List D→Nat}{l k nx:Nat}{aaz:List D}{m:List (Nat×bo)}{w:List ai}{X:D}{b:Bool}(h:look m l=some (.buf k [fF w X b])):yX c (.ptr l k 0 0::aaz) ⟨nx,m⟩=6*w.length+c aaz:=by
 simp only[yX,h,JQ]
def qt {c:List D→Nat}{l k nx:Nat}{aaz:List D}{m:List (Nat×bo)}{W w:List ai}{X:D}{b:Bool}(hw:w<:+W)(h:look m l=some (.buf k [fW W w X b])):yX c (.ptr l k 0 0::aaz) ⟨nx,m⟩=6*w.length+c aaz:=by
 simp only[yX,h,JR hw]
def Cj (nd:List Nd):aT (nd.map Nd.D)=true:=bg (fun _=>rfl) _
section
variable [cz] {P:Program} {ν:List (Nat×Nat)} {b9:List Nat} {t:List (Nat×pK)} {fid n key u k:Nat} {af:aB} {ob:zN} {aaz:List D} {w:List ai} {nd:List Nd} {b:Bool} {lp ln nx:Nat} {m:List (Nat×bo)} {K:D→St→Prop} {Pp:PO→Prop} {V:PO→D}
def Hq (hob:F7 ob)(hk5:k≠5)(has:aT aaz=true)(h1:look m lp=some (.buf k [ob w (.own ln 5 0 nd.length) b]))(h2:look m ln=some (.buf 5 (nd.map Nd.D))):
  lp≠ln∧(∀i,i<(D.ptr lp k 0 0::aaz).length→Iq 0 [(lp,0),(ln,1)] ((D.ptr lp k 0 0::aaz).getD i .any) ((D.ptr 0 k 0 0::aaz).getD i .any))∧fG 0 2 [(lp,0),(ln,1)]=true∧(∀l i,(l,i)∈[(lp,0),(ln,1)]→look m l≠none)∧
   ∀i bb,look [(0,.buf k [ob w (.own 1 5 0 nd.length) b]),(1,.buf 5 (nd.map Nd.D))] i=some bb→∃l b',(l,i)∈[(lp,0),(ln,1)]∧look m l=some b'∧pJ 0 [(lp,0),(ln,1)] b' bb:=by
 have hne:lp≠ln:=by
  rintro rfl;rw[h1]at h2;exact hk5 (bo.buf.inj (Option.some.inj h2)).1
 have hb:Nat.beq lp ln=false:=by cases h:Nat.beq lp ln with
  |false=>rfl
  |true=>exact absurd (Nat.eq_of_beq_eq_true h) hne
 have hb':Nat.beq ln lp=false:=by cases h:Nat.beq ln lp with
  |false=>rfl
  |true=>exact absurd (Nat.eq_of_beq_eq_true h).symm hne
 refine⟨hne,fun i hi=>?_, ?_,fun l i h=>?_,fun i bb h=>?_⟩
 ·match i with
  |0=>exact .inr (.inl (by simp[qB,BE,kN]))
  |i+1=>exact .inl ⟨rfl,cu has i⟩
 ·simp[fG,hb,hb'];rfl
 ·rcases List.mem_cons.1 h with h|h
  ·obtain⟨rfl,rfl⟩:=Prod.mk.inj h;rw[h1];simp
  ·obtain⟨rfl,rfl⟩:=Prod.mk.inj (List.mem_singleton.1 h);rw[h2];simp
 ·simp only[look]at h;split at h
  ·rename_i e;subst e;obtain rfl:=Option.some.inj h;exact⟨lp,_,.head _,h1,rfl,.inr (.inl (by simp only[nG,hob _ ln 1 w nd.length b (show kN 0 [(lp,0),(ln,1)] ln=some 1 by simp[kN,hb])]))⟩
  ·split at h
   ·rename_i e;subst e;obtain rfl:=Option.some.inj h;exact⟨ln,_,.tail _ (.head _),h2,rfl,.inl ⟨rfl,Cj nd⟩⟩
   ·cases h
def eE (hob:F7 ob)(hk5:k≠5)(has:aT aaz=true)(hV:∀o,(V o).a7=true)(hmix:P.follows .mixedOrders=true)(hC:FG P ν b9 fid af)(hnp:aaz.length+1=af.np)
  (h1:look m lp=some (.buf k [ob w (.own ln 5 0 nd.length) b])) (h2:look m ln=some (.buf 5 (nd.map Nd.D))) (h3:lp<nx) (h4:ln<nx)
  (hK:∀o,Pp o→K (V o) ⟨nx+1,(nx,.buf 5 (o.nd.map Nd.D))::cE (bS m ln) lp (.buf k [ob o.w (.own nx 5 0 o.nd.length) o.bad])⟩)
  (hw:bz ((under t key u).at 2) af.body (jn af (tv k ob Pp V)) (ed af (.ptr 0 k 0 0::aaz)) ⟨2,[(0,.buf k [ob w (.own 1 5 0 nd.length) b]),(1,.buf 5 (nd.map Nd.D))]⟩):nJ P ν b9 (under t key u) fid (.ptr lp k 0 0::aaz) ⟨nx,m⟩ K:=by
 obtain⟨hne,g2,g3,g4,g5⟩:=Hq hob hk5 has h1 h2;refine xu (σi:=[(lp,0),(ln,1)]) (cs:=.ptr 0 k 0 0::aaz) (fun q=>aK t key u q) hmix hC (by simp) g2 (by simpa using hnp) g3 g4 g5 hw ?_;rintro d m1 ⟨o,j,hj,hP,rfl,e0,ej⟩;have hb0:Nat.beq 0 j=false:=by cases j<;>first|omega|rfl
 have hbj:Nat.beq j 0=false:=by cases j<;>first|omega|rfl
 have hbl:Nat.beq lp nx=false:=by cases h:Nat.beq lp nx with
  |false=>rfl
  |true=>have:=Nat.eq_of_beq_eq_true h;omega
 have hbl':Nat.beq nx lp=false:=by cases h:Nat.beq nx lp with
  |false=>rfl
  |true=>have:=Nat.eq_of_beq_eq_true h;omega
 refine⟨[(0,lp),(j,nx)],j+1,_,V o,⟨g3, ?_,Nat.le_succ _,g4, ?_,g5, ?_⟩,.inl ⟨rfl,hV o⟩,hK o hP⟩
 ·simp[fG,hbj,hb0,hbl,hbl'];omega
 ·intro i l h;rcases List.mem_cons.1 h with h|h
  ·obtain⟨rfl,rfl⟩:=Prod.mk.inj h;exact .inl (.head _)
  ·obtain⟨rfl,rfl⟩:=Prod.mk.inj (List.mem_singleton.1 h);exact .inr (Nat.le_refl _)
 ·intro l bb h;simp only[look]at h;split at h
  ·rename_i e;subst e;obtain rfl:=Option.some.inj h;exact .inl ⟨j,_,.tail _ (.head _),ej,rfl,.inl ⟨rfl,Cj _⟩⟩
  ·rename_i hln;rw[bP]at h;split at h
   ·rename_i e;subst e;obtain rfl:=Option.some.inj h;exact .inl ⟨0,_,.head _,e0,rfl,.inr (.inl (by simp only[nG,hob _ j nx o.w o.nd.length o.bad (show kN 0 [(0,l),(j,nx)] j=some nx by simp[kN,hb0])]))⟩
   ·rename_i hlp;rw[eD]at h;split at h
    ·cases h
    ·rename_i hl2;refine .inr ⟨by simp only[lh,if_neg (fun e=>hlp (Eq.symm e)),if_neg hln],fun i hi=>?_,h⟩;rcases List.mem_cons.1 hi with hi|hi
     ·exact hlp (Prod.mk.inj hi).1
     ·exact hl2 (Prod.mk.inj (List.mem_singleton.1 hi)).1
def sA (hob:F7 ob)(hk5:k≠5)(has:aT aaz=true)(hV:∀o,(V o).a7=true)(hmix:P.follows .mixedOrders=true)(hC:FG P ν b9 fid af)(hnp:aaz.length+1=af.np)
  (h1:look m lp=some (.buf k [ob w (.own ln 5 0 nd.length) b])) (h2:look m ln=some (.buf 5 (nd.map Nd.D))) (h3:lp<nx) (h4:ln<nx)
  (hK:∀o,Pp o→K (V o) ⟨nx,cE m lp (.buf k [ob o.w (.own ln 5 0 nd.length) o.bad])⟩)
  (hw:bz ((under t key u).at 2) af.body (jn af (Dh k ob nd Pp V)) (ed af (.ptr 0 k 0 0::aaz)) ⟨2,[(0,.buf k [ob w (.own 1 5 0 nd.length) b]),(1,.buf 5 (nd.map Nd.D))]⟩):nJ P ν b9 (under t key u) fid (.ptr lp k 0 0::aaz) ⟨nx,m⟩ K:=by
 obtain⟨hne,g2,g3,g4,g5⟩:=Hq hob hk5 has h1 h2;refine xu (σi:=[(lp,0),(ln,1)]) (cs:=.ptr 0 k 0 0::aaz) (fun q=>aK t key u q) hmix hC (by simp) g2 (by simpa using hnp) g3 g4 g5 hw ?_;rintro d m1 ⟨o,hP,rfl,e0,ej⟩;have hbl:Nat.beq lp ln=false:=by cases h:Nat.beq lp ln with
  |false=>rfl
  |true=>exact absurd (Nat.eq_of_beq_eq_true h) hne
 have hbl':Nat.beq ln lp=false:=by cases h:Nat.beq ln lp with
  |false=>rfl
  |true=>exact absurd (Nat.eq_of_beq_eq_true h).symm hne
 refine⟨[(0,lp),(1,ln)],2,⟨nx,cE m lp (.buf k [ob o.w (.own ln 5 0 nd.length) o.bad])⟩,V o,⟨g3, ?_,Nat.le_refl _,g4, ?_,g5, ?_⟩,.inl ⟨rfl,hV o⟩,hK o hP⟩
 ·simp[fG,hbl,hbl'];exact⟨h3,rfl,h4⟩
 ·intro i l h;rcases List.mem_cons.1 h with h|h
  ·obtain⟨rfl,rfl⟩:=Prod.mk.inj h;exact .inl (.head _)
  ·obtain⟨rfl,rfl⟩:=Prod.mk.inj (List.mem_singleton.1 h);exact .inl (.tail _ (.head _))
 ·intro l bb h;simp only at h;rw[bP]at h;split at h
  ·rename_i e;subst e;obtain rfl:=Option.some.inj h;exact .inl ⟨0,_,.head _,e0,rfl,.inr (.inl (by simp only[nG,hob _ 1 ln o.w nd.length o.bad (show kN 0 [(0,l),(1,ln)] 1=some ln from rfl)]))⟩
  ·rename_i hlp;by_cases hl2:l=ln
   ·subst hl2;rw[h2]at h;obtain rfl:=Option.some.inj h;exact .inl ⟨1,_,.tail _ (.head _),ej,rfl,.inl ⟨rfl,Cj _⟩⟩
   ·refine .inr ⟨by simp only[lh,if_neg (fun e=>hlp (Eq.symm e)),if_neg (fun e=>hl2 (Eq.symm e))],fun i hi=>?_,h⟩;rcases List.mem_cons.1 hi with hi|hi
    ·exact hlp (Prod.mk.inj hi).1
    ·exact hl2 (Prod.mk.inj (List.mem_singleton.1 hi)).1
def oc {a b:Nat}(h:a≠b):Nat.beq a b=false:=by
 cases h2:Nat.beq a b with
 |false=>rfl
 |true=>exact absurd (Nat.eq_of_beq_eq_true h2) h
def vU {m:List (Nat×bo)}{l lw:Nat}(h:l≠lw):eA (bS m lw) l=match look m l with
 |some (.bld (some l2) _ _)=>bS (bS m lw) l2
 |_=>bS m lw:=by
 haveI:cz:={gd:=fun _=>True,le:=fun _ _ _ _ _=>trivial}
 unfold eA;rw[eD,if_neg h];cases look m l with
 |none=>rfl
 |some b=>cases b with
  |bld o n u=>cases o<;>rfl
  |_=>rfl
def EP {ws:List ai}{s:ai}{l lw:Nat}(hmix:P.follows .mixedOrders=true)(hC:FG P ν b9 fid af)(hnp:2=af.np)
  (h1:pQ m l s) (h2:look m lw=some (.buf 1 (ws.map D.str))) (h3:l<nx) (h4:lw<nx) (hK:K (.tup []) ⟨nx+1,od (bS m lw) l nx (s++bY ws)⟩)
  (hw:∀m0,pQ m0 0 s→look m0 1=some (.buf 1 (ws.map D.str))→bz ((under t key u).at 3) af.body (jn af (fun d m=>d=.tup []∧look m 0=some (.bld (some 9) (s++bY ws).length true)∧look m 9=some (.row (s++bY ws)))) (ed af [.ptr 0 2 0 0,.own 1 1 0 ws.length]) ⟨3,m0⟩):
  nJ P ν b9 (under t key u) fid [.ptr l 2 0 0,.own lw 1 0 ws.length] ⟨nx,m⟩ K:=by
 have hlw:l≠lw:=by
  rintro rfl;rcases h1 with⟨u,h,_⟩|⟨l2,u,h,_⟩<;>rw[h2]at h<;>cases h
 have hnl:aT (ws.map D.str)=true:=bg (fun _=>rfl) _;have b1:=oc hlw;have b2:=oc (Ne.symm hlw);have b3:=oc (show l≠nx by omega);have b4:=oc (show nx≠l by omega)

 have fin:∀(σi:List (Nat×Nat)) (m0:List (Nat×bo)),fG 0 3 σi=true→(l,0)∈σi→(∀l i,(l,i)∈σi→look m l≠none)→(∀i b,look m0 i=some b→∃l b',(l,i)∈σi∧look m l=some b'∧pJ 0 σi b' b)→
   (∀l' b,look (eA (bS m lw) l) l'=some b→l'≠l→look m l'=some b∧∀i,(l',i)∉σi)→∀d m1,(d=.tup []∧look m1 0=some (.bld (some 9) (s++bY ws).length true)∧look m1 9=some (.row (s++bY ws)))→
   ∃(σo:List (Nat×Nat)) (q1:Nat) (st':St) (vd':D),Fr σi σo 3 q1 m0 m1 ⟨nx,m⟩ st'∧Iq 0 σo d vd'∧K vd' st':=by
  rintro σi m0 oki hm hlt hm0 hoff d m1 ⟨rfl,e0,e9⟩;refine⟨[(0,l),(9,nx)],10,⟨nx+1,od (bS m lw) l nx (s++bY ws)⟩,.tup [],⟨oki, ?_,Nat.le_succ _,hlt, ?_,hm0, ?_⟩,.inl ⟨rfl,rfl⟩,hK⟩
  ·simp[fG,b3,b4];exact⟨by omega,rfl⟩
  ·intro i l' h;rcases List.mem_cons.1 h with h|h
   ·obtain⟨rfl,rfl⟩:=Prod.mk.inj h;exact .inl hm
   ·obtain⟨rfl,rfl⟩:=Prod.mk.inj (List.mem_singleton.1 h);exact .inr (Nat.le_refl _)
  ·intro l' bb h;simp only[od,look]at h;split at h
   ·rename_i e;subst e;obtain rfl:=Option.some.inj h;exact .inl ⟨9,_,.tail _ (.head _),e9,rfl⟩
   ·rename_i hln;rw[bP]at h;split at h
    ·rename_i e;subst e;obtain rfl:=Option.some.inj h;exact .inl ⟨0,_,.head _,e0,⟨nx,rfl,rfl⟩,rfl,rfl⟩
    ·rename_i hl;obtain⟨g1,g2⟩:=hoff l' bb h hl;exact .inr ⟨by simp only[lh,if_neg (fun e=>hl (Eq.symm e)),if_neg hln],g2,g1⟩
 rcases h1 with⟨u,h1,rfl⟩|⟨l2,u,h1,h5⟩
 ·have g4:∀l' i,(l',i)∈[(l,0),(lw,1)]→look m l'≠none:=by
   intro l' i h;rcases List.mem_cons.1 h with h|h
   ·obtain⟨rfl,rfl⟩:=Prod.mk.inj h;rw[h1];simp
   ·obtain⟨rfl,rfl⟩:=Prod.mk.inj (List.mem_singleton.1 h);rw[h2];simp
  have g3:fG 0 3 [(l,0),(lw,1)]=true:=by simp[fG,b1,b2];rfl
  have g5:∀i b,look [(0,bo.bld none 0 u),(1,.buf 1 (ws.map D.str))] i=some b→∃l' b',(l',i)∈[(l,0),(lw,1)]∧look m l'=some b'∧pJ 0 [(l,0),(lw,1)] b' b:=by
   intro i b h;simp only[look]at h;split at h
   ·rename_i e;subst e;obtain rfl:=Option.some.inj h;exact⟨l,_,.head _,h1,rfl,rfl,rfl⟩
   ·split at h
    ·rename_i e;subst e;obtain rfl:=Option.some.inj h;exact⟨lw,_,.tail _ (.head _),h2,rfl,.inl ⟨rfl,hnl⟩⟩
    ·cases h
  refine xu (σi:=[(l,0),(lw,1)]) (cs:=[.ptr 0 2 0 0,.own 1 1 0 ws.length]) (fun q=>aK t key _ q) hmix hC rfl ?_ hnp g3 g4 g5 (hw _ (.inl ⟨u,rfl,rfl⟩) rfl) (fin _ _ g3 (.head _) g4 g5 ?_)
  ·intro i hi
   match i,hi with
   |0,_=>exact .inr (.inl (by simp[qB,BE,kN]))
   |1,_=>exact .inr (.inl (by simp[qB,BE,kN,b1]))
  ·intro l' b h hl;rw[vU hlw]at h;simp only[h1]at h;rw[eD]at h;split at h
   ·cases h
   ·rename_i hw';refine⟨h,fun i hi=>?_⟩;rcases List.mem_cons.1 hi with hi|hi
    ·exact hl (Prod.mk.inj hi).1
    ·exact hw' (Prod.mk.inj (List.mem_singleton.1 hi)).1
 ·have c1:l2≠l:=by rintro rfl;rw[h1]at h5;cases h5
  have c2:l2≠lw:=by rintro rfl;rw[h2]at h5;cases h5
  have d1:=oc c1;have d2:=oc c2;have d3:=oc (Ne.symm c1);have d4:=oc (Ne.symm c2);have g4:∀l' i,(l',i)∈[(l,0),(lw,1),(l2,2)]→look m l'≠none:=by
   intro l' i h;rcases List.mem_cons.1 h with h|h
   ·obtain⟨rfl,rfl⟩:=Prod.mk.inj h;rw[h1];simp
   ·rcases List.mem_cons.1 h with h|h
    ·obtain⟨rfl,rfl⟩:=Prod.mk.inj h;rw[h2];simp
    ·obtain⟨rfl,rfl⟩:=Prod.mk.inj (List.mem_singleton.1 h);rw[h5];simp
  have g3:fG 0 3 [(l,0),(lw,1),(l2,2)]=true:=by simp[fG,b1,b2,d1,d2,d3,d4];exact⟨⟨rfl,rfl⟩,rfl⟩
  have g5:∀i b,look [(0,bo.bld (some 2) s.length u),(1,.buf 1 (ws.map D.str)),(2,.row s)] i=some b→∃l' b',(l',i)∈[(l,0),(lw,1),(l2,2)]∧look m l'=some b'∧pJ 0 [(l,0),(lw,1),(l2,2)] b' b:=by
   intro i b h;simp only[look]at h;split at h
   ·rename_i e;subst e;obtain rfl:=Option.some.inj h;exact⟨l,_,.head _,h1,⟨2,by simp[kN,d3,d4],rfl⟩,rfl,rfl⟩
   ·split at h
    ·rename_i e;subst e;obtain rfl:=Option.some.inj h;exact⟨lw,_,.tail _ (.head _),h2,rfl,.inl ⟨rfl,hnl⟩⟩
    ·split at h
     ·rename_i e;subst e;obtain rfl:=Option.some.inj h;exact⟨l2,_,.tail _ (.tail _ (.head _)),h5,rfl⟩
     ·cases h
  refine xu (σi:=[(l,0),(lw,1),(l2,2)]) (cs:=[.ptr 0 2 0 0,.own 1 1 0 ws.length]) (fun q=>aK t key _ q) hmix hC rfl ?_ hnp g3 g4 g5 (hw _ (.inr ⟨2,u,rfl,rfl⟩) rfl) (fin _ _ g3 (.head _) g4 g5 ?_)
  ·intro i hi
   match i,hi with
   |0,_=>exact .inr (.inl (by simp[qB,BE,kN]))
   |1,_=>exact .inr (.inl (by simp[qB,BE,kN,b1]))
  ·intro l' b h hl;rw[vU hlw]at h;simp only[h1]at h;rw[eD]at h;split at h
   ·cases h
   ·rename_i hw2;rw[eD]at h;split at h
    ·cases h
    ·rename_i hw';refine⟨h,fun i hi=>?_⟩;rcases List.mem_cons.1 hi with hi|hi
     ·exact hl (Prod.mk.inj hi).1
     ·rcases List.mem_cons.1 hi with hi|hi
      ·exact hw' (Prod.mk.inj hi).1
      ·exact hw2 (Prod.mk.inj (List.mem_singleton.1 hi)).1
end
end Go.Abs
end
namespace Go.Abs
def tE {α:Type}{f:α→D}(hf:∀x y,f x=f y↔x=y):∀a b:List α,a.map f=b.map f↔a=b
 |[],[]=>by simp
 |[],_::_=>by simp
 |_::_,[]=>by simp
 |x::a,y::b=>by simp only[List.map_cons,List.cons.injEq,hf,tE hf a b]
def Jj (a b:Nat):((a:Nat):Int)=(b:Nat)↔a=b:=by omega
def iU8 (x y:UInt8):((x.toNat:Nat):Int)=(y.toNat:Nat)↔x=y:=(Jj _ _).trans UInt8.toNat_inj
def EL (a b:List ai):a.map D.str=b.map D.str↔a=b:=tE (fun _ _=>by simp) a b
def iInt (a b:List Int):a.map (D.int .i64)=b.map (D.int .i64)↔a=b:=tE (fun _ _=>by simp) a b
def iByt (a b:ai):(a.map fun c=>D.int .u8 c.toNat)=(b.map fun c=>D.int .u8 c.toNat)↔a=b:=tE (fun x y=>by rw[D.int.injEq,iU8];simp) a b
def iVer (a b:b7):b7.D a=b7.D b↔a=b:=by cases a;cases b;simp[b7.D]
def Kv (a b:bm):bm.D a=bm.D b↔a=b:=by cases a;cases b;simp[bm.D,EL]
def GJ (a b:List bm):a.map bm.D=b.map bm.D↔a=b:=tE Kv a b
def Ku (a b:aP):aP.D a=aP.D b↔a=b:=by cases a;cases b;simp[aP.D,GJ]
def GH (a b:List aP):a.map aP.D=b.map aP.D↔a=b:=tE Ku a b
def PV (a b:ec):ec.D a=ec.D b↔a=b:=by cases a;cases b;simp[ec.D]
def Kr (a b:List ec):a.map ec.D=b.map ec.D↔a=b:=tE PV a b
def Kt (a b:bd):bd.D a=bd.D b↔a=b:=by cases a;cases b;simp[bd.D,EL]
def GG (a b:List bd):a.map bd.D=b.map bd.D↔a=b:=tE Kt a b
def iRec (a b:Rec):Rec.D a=Rec.D b↔a=b:=by
 obtain⟨n,⟨v1,v2,v3,v4,v5⟩,x,y,z⟩:=a;obtain⟨n',⟨w1,w2,w3,w4,w5⟩,x',y',z'⟩:=b;simp[Rec.D,GH,Kr,GG,and_assoc]
def PW (a b:cj):cj.D a=cj.D b↔a=b:=by
 obtain⟨n,p,v1,v2,v3,v4,v5⟩:=a;obtain⟨n',p',w1,w2,w3,w4,w5⟩:=b;simp[cj.D]
def Ks (a b:List cj):a.map cj.D=b.map cj.D↔a=b:=tE PW a b
def iNd (a b:Nd):Nd.D a=Nd.D b↔a=b:=by cases a;cases b;simp[Nd.D]
def PX (a b:List Nd):a.map Nd.D=b.map Nd.D↔a=b:=tE iNd a b
def L0 (a b:Alt):n9 a=n9 b↔a=b:=by simp[n9,Ks]
def iRng (a b:pR):dy a=dy b↔a=b:=by simp[dy,tE L0]
def PU (a b:List Alt):a.map n9=b.map n9↔a=b:=tE L0 a b
def iMrk (a b:Dg):eX a=eX b↔a=b:=by simp[eX,PX]
def iLd (a b:Ld):Ld.D a=Ld.D b↔a=b:=by cases a;cases b;simp[Ld.D,EL,Jj]
def iPr (w w':List ai)(x x':D)(b b':Bool):fF w x b=fF w' x' b'↔w=w'∧x=x'∧b=b':=by simp[fF,EL]
def bp {A:RT→Prop}(h:A (fun ds d=>A fun ds' d'=>ds'=ds→d=d'):=by
 (repeat' first|apply And.intro|intro _)
 all_goals rename_i e
 all_goals (try simp only[List.cons.injEq,D.str.injEq,D.int.injEq,D.bool.injEq,D.sl.injEq,D.ref.injEq,D.agg.injEq,EL,iInt,iByt,iVer,Kv,GJ,Ku,GH,PV,Kr,Kt,GG,iRec,PW,Ks,iNd,PX,L0,iRng,PU,iMrk,iPr,iU8,UInt8.toNat_inj,Jj,and_true,true_and,reduceCtorEq,and_false,false_and]at e)
 all_goals first|rfl|(simp only[e];done)|simp_all):OE (yV A):=LV h
def I5 {A:FT→Prop}(h:A (fun d ds v s=>A fun d' ds' v' s'=>d'=d→ds'=ds→v=v'∧s=s'):=by
 (repeat' first|apply And.intro|intro _)
 all_goals rename_i e' e
 all_goals (try simp only[List.cons.injEq,D.str.injEq,D.int.injEq,D.bool.injEq,D.sl.injEq,iLd,EL,iU8,UInt8.toNat_inj,Jj,and_true,true_and]at e e')
 all_goals first|rfl|(simp only[e,e'];done)|simp_all):um (mF A):=I6 h
end Go.Abs
section
namespace Go.Abs
open Go
def jT:aB:=⟨2,10,[⟨2,none⟩],bO,(sq (r1 [gm ct] 2 0) (sq (rg [gm s1,gx 475 [l0,tA] gQ,gm l1,ge l2 0,ge l2 1,ge l2 2,gm l3,gm l4,gm l5] [(4,6),(6,7),(3,8)]) (sq (sq (r1 [gm s3,ix l0,gm l1,dH 2 s0,bT 2 (.nilck l3),hH 2 9 l4,hY 2 l5,bT 2 (dC l6 jF),ea l2 l7,gm l8,dH 9 s4,bT 9 (.ia 1 l10 jG),hY 9 fI,bT 9 (dC gV (cs [98,97,114,101])),dH 9 iQ,gmt 14 s4,bZ 14 (.ia 1 kB jG),iO 14 mE,bZ 14 (dC nU (cs [102,117,108,108])),yP 9 jt oB,ea l9 pY] 5 20) (.cond s5 (sq (r1 [gm ct] 2 0) .ret) .skip)) (sq (r2 [gm s4,ga 1 l0 bR,gd l1,gm s6,gm s4,ga 1 l4 jG,gd l5,aG l6 (cs [98,97,114,101]),gn (.build [.str [],.str [],.az,.bool false] [(0,1,l2),(1,1,l3),(3,1,l7)]),gb 4 (.c (.agg [.str [],.str [],.az,.bool false])),gt 4 l9 l8] 8 9) (sq (sq (r1 [gm s4,ga 1 l0 jF,gd l1,bN l2 (cs [45])] 7 3) (.cond s7 (rg [gm s4,ga 1 l0 jF,gd l1,gx 470 [l2,(i8 44)] gQ,gf 2 s8,gt 1 l4 l3] []) .skip)) (sq (r2 [gm s0,gc l0,gf 0 l1,gf 6 l2,gd l3,gm s0,gc l5,gf 0 l6,gf 6 l7,gd l8,gl l9,dP l10 bR,ga 3 l4 fI,gm gV] 9 13) (sq (rt [gm s9,gm s9,gc l1,gf 0 l2,gd l3,gk 4 true s8,gn (.bsl 4 (.agg [.str [],.str [],.az,.bool false]) 1 [(0,l5)]),gn (.app 4 l4 l6),gc l0,gf 0 l8,gt 1 l9 l7] []) (sq (r1 [gm me] 2 0) .ret))))))))⟩
def w472 {Γ:Ctx}(hm:(Γ.at 5).a8)(t:ai)(nm:ai)(v:b7)(N:List aP)(B:List ec)(Z:List bd)(st:Nat)(h470:uk (Γ.at 5))(h475:IB (Γ.at 5))(hp0:t.length≤1048576)(hp1:st=2→N≠[])(hp2:pZ N≤1000000)(hp3:N.length≤1000000):bz (Γ.at 5) jT.body (jn jT (LH (rU ⟨⟨nm,v,N,B,Z⟩,st⟩ t)):Ex→List bx→St→Prop) (ed jT [.ptr 0 10 0 0,.str t]) ⟨5,[(0,.buf 10 [lE nm v N.length B.length Z.length ((st:Nat):Int) 1 3 4]),(1,.buf 3 (dk 2 N)),(2,.buf 4 (kD N)),(3,.buf 3 (B.map ec.D)),(4,.buf 2 (Z.map bd.D))]⟩:=by
 show bz _ _ _ [⟨true,.ptr 0 10 0 0⟩,⟨true,.str t⟩,.un,.un,.un,.un,.un,.un,.un,.un] ⟨5,[(0,.buf 10 [lE nm v N.length B.length Z.length ((st:Nat):Int) 1 3 4]),(1,.buf 3 (dk 2 N)),(2,.buf 4 (kD N)),(3,.buf 3 (B.map ec.D)),(4,.buf 2 (Z.map bd.D))]⟩;have hrl:=zq t 4;have hrn:=sF t 4;have hre:=vQ t 4;obtain⟨⟨l,u,ok⟩,hq⟩:∃q,ei t 4=q:=⟨_,rfl⟩
 rw[hq]at hrl hrn hre;dsimp only at hrl hrn hre;refine aj ?_;refine ax ?_;refine ak (v:=.tup [.sl 1 (l.map D.str),.str u,.bool ok]) (hc:=by have:=h475 t 4 hp0 (by decide);rw[hq]at this;exact this) ?_;refine aC ?_;refine dU (.sl _ _) ?_;refine p8 ?_;refine bc (v:=.int .i64 ((st:Nat):Int)) ?_;refine ax ?_;refine bJ 3 (hb:=fun hf=>by simp at hf;have hln:=hrn (by first|exact hf|exact hf.1|exact hf.1.1|exact hf.1.1.1);omega) ?_;refine bD (v:=.str l[3]!) (hi:=fun hf=>by simp at hf;have hln:=hrn (by first|exact hf|exact hf.1|exact hf.1.1|exact hf.1.1.1);omega) ?_;refine av ?_;refine bJ 3 (hb:=fun hf=>by simp at hf;have hln:=hrn (by first|exact hf|exact hf.1|exact hf.1.1|exact hf.1.1.1);omega) ?_;refine bD (v:=.str l[3]!) (hi:=fun hf=>by simp at hf;have hln:=hrn (by first|exact hf|exact hf.1|exact hf.1.1|exact hf.1.1.1);omega) ?_;refine ax ?_;refine aq (fun hc0=>?_) (fun hc0=>?_)
 ·simp only[Bool.or_eq_true,Bool.and_eq_true,Bool.not_eq_true',decide_eq_true_eq,decide_eq_false_iff_not]at hc0;have ho:rU ⟨⟨nm,v,N,B,Z⟩,st⟩ t=none:=by
   unfold rU;rw[hrl];rcases hc0 with(h|h)|⟨h1,h2⟩
   ·rw[h];rfl
   ·by_cases hk:ok=true
    ·rw[if_pos hk];simp only;rw[if_neg (fun hh=>h (by omega))]
    ·rw[if_neg hk]
   ·by_cases hk:ok=true
    ·rw[if_pos hk];simp only;rw[if_neg];rintro⟨_,hh⟩;unfold js at hh;rw[decide_eq_false (show ¬l[3]! =cV from h1),decide_eq_false (show ¬l[3]! =kt from h2)]at hh;cases hh
    ·rw[if_neg hk]
  rw[ho];refine aJ ?_;refine bq trivial di (Eq.trans ae (congrArg D.bool ?_)) ae ⟨rfl,fun y hy=>by cases hy⟩;rfl
 simp only[Bool.or_eq_false_iff,Bool.and_eq_false_iff,Bool.not_eq_false',decide_eq_true_eq,decide_eq_false_iff_not]at hc0;obtain⟨⟨hk,hst⟩,hho⟩:=hc0;obtain rfl:st=2:=by omega
 obtain⟨N,n,rfl⟩:=pF (hp1 rfl);rw[eH,gH];rw[nA]at hp2;have hnl:(N++[n]).length=N.length+1:=by simp
 have hln:=hrn hk;have hlm:∀w∈l,w.length≤1048576:=fun w hw=>Nat.le_trans (hre w hw) hp0
 have hhow:js l=true:=by
  unfold js;rcases hho with h|h
  ·rw[decide_eq_true (show l[3]! =cV from h)];rfl
  ·rw[decide_eq_true (show l[3]! =kt from h),Bool.or_true]
 have ho:rU ⟨⟨nm,v,N++[n],B,Z⟩,2⟩ t=some ⟨⟨nm,v,N++[⟨n.any++[(⟨l[1]!,u,if l[2]! =[45]then []else ah l[2]! 44,decide (l[3]! =cV)⟩:bm)],n.when',n.option⟩],B,Z⟩,2⟩:=by
  unfold rU;rw[hrl,if_pos hk];simp only;rw[if_pos ⟨trivial,hhow⟩,dw]
 rw[ho];refine av ?_;refine bJ 1 (hb:=fun _=>by omega) ?_;refine bD (v:=.str l[1]!) (hi:=fun _=>by omega) ?_;refine ar ?_;refine bJ 3 (hb:=fun _=>by omega) ?_;refine bD (v:=.str l[3]!) (hi:=fun _=>by omega) ?_;refine aC ?_;refine aW (.agg [.str l[1]!,.str u,.az,.bool (decide (l[3]! =cV))]) ?_;refine aC ?_;refine aL (.agg [.str l[1]!,.str u,.az,.bool (decide (l[3]! =cV))]) (he:=by exact rfl) ?_;refine ax ?_;refine bJ 2 (hb:=fun _=>by omega) ?_;refine bD (v:=.str l[2]!) (hi:=fun _=>by omega) ?_;refine ar ?_;refine cd (fun hc1=>?_) fun hc1=>?_
 ·refine ar ?_;refine bJ 2 (hb:=fun _=>by omega) ?_;refine bD (v:=.str l[2]!) (hi:=fun _=>by omega) ?_;refine ak (v:=.sl 1 ((ah l[2]! 44).map D.str)) (hc:=h470 l[2]! 44 (hlm _ (bA (by omega)))) ?_;refine aC ?_;refine aL (bm.N (⟨l[1]!,u,if l[2]! =[45]then []else ah l[2]! 44,decide (l[3]! =cV)⟩:bm)) (he:=by show _=D.agg [.str l[1]!,.str u,JA (if l[2]! =[45]then []else ah l[2]! 44),.bool (decide (l[3]! =cV))];rw[if_neg hc1,G6 (m5 _ _)];exact rfl) ?_;refine aA ?_;refine bc (v:=.own 1 3 0 (N++[n]).length) ?_;refine ax ?_;refine bc (v:=.own 1 3 0 (N++[n]).length) ?_;refine gT ?_;refine aC ?_;refine gW N.length (hj:=fun _=>by simp) (hb:=fun _=>by simp) ?_;refine aV ?_;refine HD (es:=N.map aP.D++[ju 2 n]) (.own 2 4 0 n.any.length) (hi:=fun _=>by simp) (hv:=fun _=>by rw[lP _ _ _ _ (by simp)];exact rfl) ?_;refine cG (d:=bm.N (⟨l[1]!,u,if l[2]! =[45]then []else ah l[2]! 44,decide (l[3]! =cV)⟩:bm)) ?_;refine cx [bm.N (⟨l[1]!,u,if l[2]! =[45]then []else ah l[2]! 44,decide (l[3]! =cV)⟩:bm)] ?_;refine kM (q:=bm.N) (xs:=n.any) (e:=(⟨l[1]!,u,if l[2]! =[45]then []else ah l[2]! 44,decide (l[3]! =cV)⟩:bm)) ?_;refine ar ?_;refine rA (es:=N.map aP.D++[ju 2 n]) (N.map aP.D++[ju 78 ⟨n.any++[(⟨l[1]!,u,if l[2]! =[45]then []else ah l[2]! 44,decide (l[3]! =cV)⟩:bm)],n.when',n.option⟩]) (hi:=by simp) (he:=by rw[lP _ _ _ _ (by simp),oR _ _ _ _ (by simp)];exact rfl) ?_;refine aJ ?_;refine bq trivial di (Eq.trans ae (congrArg D.bool ?_)) ae ⟨rfl,fun y hy=>by cases hy;exact⟨1,78,3,4,by decide,⟨(by have e:(N++[(⟨n.any++[(⟨l[1]!,u,if l[2]! =[45]then []else ah l[2]! 44,decide (l[3]! =cV)⟩:bm)],n.when',n.option⟩:aP)]).length=(N++[n]).length:=(by simp);show _=some (bo.buf 10 [lE nm v (N++[(⟨n.any++[(⟨l[1]!,u,if l[2]! =[45]then []else ah l[2]! 44,decide (l[3]! =cV)⟩:bm)],n.when',n.option⟩:aP)]).length B.length Z.length ((2:Nat):Int) 1 3 4]);rw[e];exact rfl),(by rw[eH];exact rfl),(by rw[gH];exact rfl),ae,ae⟩⟩⟩;rfl
 refine ar ?_;rw[show(D.agg [.str l[1]!,.str u,.az,.bool (decide (l[3]! =cV))])=bm.N (⟨l[1]!,u,if l[2]! =[45]then []else ah l[2]! 44,decide (l[3]! =cV)⟩:bm)by show _=D.agg [.str l[1]!,.str u,JA (if l[2]! =[45]then []else ah l[2]! 44),.bool (decide (l[3]! =cV))];rw[if_pos hc1];rfl];refine ax ?_;refine bc (v:=.own 1 3 0 (N++[n]).length) ?_;refine ax ?_;refine bc (v:=.own 1 3 0 (N++[n]).length) ?_;refine gT ?_;refine aC ?_;refine gW N.length (hj:=fun _=>by simp) (hb:=fun _=>by simp) ?_;refine aV ?_;refine HD (es:=N.map aP.D++[ju 2 n]) (.own 2 4 0 n.any.length) (hi:=fun _=>by simp) (hv:=fun _=>by rw[lP _ _ _ _ (by simp)];exact rfl) ?_;refine cG (d:=bm.N (⟨l[1]!,u,if l[2]! =[45]then []else ah l[2]! 44,decide (l[3]! =cV)⟩:bm)) ?_;refine cx [bm.N (⟨l[1]!,u,if l[2]! =[45]then []else ah l[2]! 44,decide (l[3]! =cV)⟩:bm)] ?_;refine kM (q:=bm.N) (xs:=n.any) (e:=(⟨l[1]!,u,if l[2]! =[45]then []else ah l[2]! 44,decide (l[3]! =cV)⟩:bm)) ?_;refine ar ?_;refine rA (es:=N.map aP.D++[ju 2 n]) (N.map aP.D++[ju 72 ⟨n.any++[(⟨l[1]!,u,if l[2]! =[45]then []else ah l[2]! 44,decide (l[3]! =cV)⟩:bm)],n.when',n.option⟩]) (hi:=by simp) (he:=by rw[lP _ _ _ _ (by simp),oR _ _ _ _ (by simp)];exact rfl) ?_;refine aJ ?_;refine bq trivial di (Eq.trans ae (congrArg D.bool ?_)) ae ⟨rfl,fun y hy=>by cases hy;exact⟨1,72,3,4,by decide,⟨(by have e:(N++[(⟨n.any++[(⟨l[1]!,u,if l[2]! =[45]then []else ah l[2]! 44,decide (l[3]! =cV)⟩:bm)],n.when',n.option⟩:aP)]).length=(N++[n]).length:=(by simp);show _=some (bo.buf 10 [lE nm v (N++[(⟨n.any++[(⟨l[1]!,u,if l[2]! =[45]then []else ah l[2]! 44,decide (l[3]! =cV)⟩:bm)],n.when',n.option⟩:aP)]).length B.length Z.length ((2:Nat):Int) 1 3 4]);rw[e];exact rfl),(by rw[eH];exact rfl),(by rw[gH];exact rfl),ae,ae⟩⟩⟩;rfl
end Go.Abs
end
section
namespace Go.Abs
open Go
def jh:aB:=⟨2,8,[⟨2,none⟩],bO,(sq (r1 [gm ct] 2 0) (sq (rg [gm s1,gx 475 [l0,bR] gQ,gm l1,ge l2 0,ge l2 1,ge l2 2,gm l3,gm l4,gm l5] [(6,7),(3,8)]) (sq (.block 0 (sq (r1 [gm s3,ix l0,gm l1] 4 2) (.cond s4 (sq (r1 [gm ct] 2 0) .ret) (sq (r1 [gm s0,gc l0,gf 9 l1,gd l2,aG l3 jF,gm l4] 5 5) (.cond s5 (sq (rt [gm s0,gc l0,gf 0 l1,gf 6 l2,gd l3,gm s0,gc l5,gf 0 l6,gf 6 l7,gd l8,gl l9,dP l10 bR,gm s0,gm s6,ga 3 l4 fI,gf 1 jt,gt 1 kB iQ,gc gV,gf 9 nU,gt 1 oB jG] []) (sq (r1 [gm me] 2 0) .ret)) (sq (r1 [gm s0,gc l0,gf 9 l1,gd l2,aG l3 B4,gm l4] 7 5) (.cond s7 (sq (rt [gm s0,gc l0,gf 0 l1,gf 7 l2,gd l3,gm s0,gc l5,gf 0 l6,gf 7 l7,gd l8,gl l9,dP l10 bR,gm s0,gm s6,ga 3 l4 fI,gf 2 jt,gt 1 kB iQ,gc gV,gf 9 nU,gt 1 oB tY] []) (sq (r1 [gm me] 2 0) .ret)) .skip))))))) (sq (r1 [gm ct] 2 0) .ret))))⟩
def w473 {Γ:Ctx}(hm:(Γ.at 5).a8)(t:ai)(nm:ai)(v:b7)(N:List aP)(B:List ec)(Z:List bd)(st:Nat)(h475:IB (Γ.at 5))(hp0:t.length≤1048576)(hp1:st=2→N≠[])(hp2:st=5→B≠[])(hp3:N.length≤1000000)(hp4:B.length≤1000000):bz (Γ.at 5) jh.body (jn jh (LH (mw ⟨⟨nm,v,N,B,Z⟩,st⟩ t)):Ex→List bx→St→Prop) (ed jh [.ptr 0 10 0 0,.str t]) ⟨5,[(0,.buf 10 [lE nm v N.length B.length Z.length ((st:Nat):Int) 1 3 4]),(1,.buf 3 (dk 2 N)),(2,.buf 4 (kD N)),(3,.buf 3 (B.map ec.D)),(4,.buf 2 (Z.map bd.D))]⟩:=by
 show bz _ _ _ [⟨true,.ptr 0 10 0 0⟩,⟨true,.str t⟩,.un,.un,.un,.un,.un,.un] ⟨5,[(0,.buf 10 [lE nm v N.length B.length Z.length ((st:Nat):Int) 1 3 4]),(1,.buf 3 (dk 2 N)),(2,.buf 4 (kD N)),(3,.buf 3 (B.map ec.D)),(4,.buf 2 (Z.map bd.D))]⟩;have hrl:=zq t 1;have hrn:=sF t 1;have hre:=vQ t 1;obtain⟨⟨l,u,ok⟩,hq⟩:∃q,ei t 1=q:=⟨_,rfl⟩
 rw[hq]at hrl hrn hre;dsimp only at hrl hrn hre;refine aj ?_;refine ax ?_;refine ak (v:=.tup [.sl 1 (l.map D.str),.str u,.bool ok]) (hc:=by have:=h475 t 1 hp0 (by decide);rw[hq]at this;exact this) ?_;refine aC ?_;refine dU (.sl _ _) ?_;refine gZ ?_;refine wp_cond (fun hc0=>?_) (fun hc0=>?_)
 ·simp only[Bool.not_eq_true']at hc0;have ho:mw ⟨⟨nm,v,N,B,Z⟩,st⟩ t=none:=by unfold mw;rw[hrl,hc0];rfl
  rw[ho];refine aJ ?_;refine bq trivial di (Eq.trans ae (congrArg D.bool ?_)) ae ⟨rfl,fun y hy=>by cases hy⟩;rfl
 simp only[Bool.not_eq_false']at hc0;have hw:mw ⟨⟨nm,v,N,B,Z⟩,st⟩ t=(if st=2 then some ⟨⟨nm,v,ep N fun n=>⟨n.any,u,n.option⟩,B,Z⟩,3⟩else if st=5 then some ⟨⟨nm,v,N,ep B fun b=>⟨b.name,b.range,u⟩,Z⟩,6⟩else none):=by
  unfold mw;rw[hrl,if_pos hc0]
 refine ax ?_;refine bc (v:=.int .i64 ((st:Nat):Int)) ?_;refine av ?_;refine wp_cond (fun hc1=>?_) (fun hc1=>?_)
 ·simp only[decide_eq_true_eq]at hc1;obtain rfl:st=2:=by omega
  obtain⟨N,n,rfl⟩:=pF (hp1 rfl);have hnl:(N++[n]).length=N.length+1:=by simp
  rw[if_pos rfl,dw]at hw;rw[hw,eH,gH];refine aJ ?_;refine bc (v:=.own 1 3 0 (N++[n]).length) ?_;refine ax ?_;refine bc (v:=.own 1 3 0 (N++[n]).length) ?_;refine gT ?_;refine av ?_;refine gW N.length (hj:=fun _=>by omega) (hb:=fun _=>by omega) ?_;refine aC ?_;refine rA (es:=N.map aP.D++[ju 2 n]) (N.map aP.D++[ju 2 ⟨n.any,u,n.option⟩]) (hi:=by simp) (he:=by rw[lP _ _ _ _ (by simp),oR _ _ _ _ (by simp)];exact rfl) ?_;refine ar ?_;refine aL (lE nm v (N++[n]).length B.length Z.length ((3:Nat):Int) 1 3 4) (he:=by exact rfl) ?_;refine aA ?_;refine bq trivial di (Eq.trans ae (congrArg D.bool ?_)) ae ⟨rfl,fun y hy=>by cases hy;exact⟨1,2,3,4,by decide,⟨(by have e:(N++[(⟨n.any,u,n.option⟩:aP)]).length=(N++[n]).length:=(by simp);show _=some (bo.buf 10 [lE nm v (N++[(⟨n.any,u,n.option⟩:aP)]).length B.length Z.length ((3:Nat):Int) 1 3 4]);rw[e];exact rfl),(by rw[eH];exact rfl),(by rw[gH];exact rfl),ae,ae⟩⟩⟩;rfl
 simp only[decide_eq_false_iff_not]at hc1;rw[if_neg (show ¬st=2 by omega)]at hw;refine ax ?_;refine bc (v:=.int .i64 ((st:Nat):Int)) ?_;refine av ?_;refine wp_cond (fun hc2=>?_) (fun hc2=>?_)
 ·simp only[decide_eq_true_eq]at hc2;obtain rfl:st=5:=by omega
  obtain⟨B,b,rfl⟩:=pF (hp2 rfl);have hbl:(B++[b]).length=B.length+1:=by simp
  rw[if_pos rfl,dw]at hw;rw[hw];rw[List.map_append];refine aJ ?_;refine bc (v:=.own 3 3 0 (B++[b]).length) ?_;refine ax ?_;refine bc (v:=.own 3 3 0 (B++[b]).length) ?_;refine gT ?_;refine av ?_;refine gW B.length (hj:=fun _=>by omega) (hb:=fun _=>by omega) ?_;refine aC ?_;refine rA (es:=B.map ec.D++[b].map ec.D) (B.map ec.D++[ec.D ⟨b.name,b.range,u⟩]) (hi:=by simp) (he:=by rw[List.map_cons,List.map_nil,lP _ _ _ _ (by simp),oR _ _ _ _ (by simp)];exact rfl) ?_;refine ar ?_;refine aL (lE nm v N.length (B++[b]).length Z.length ((6:Nat):Int) 1 3 4) (he:=by exact rfl) ?_;refine aA ?_;refine bq trivial di (Eq.trans ae (congrArg D.bool ?_)) ae ⟨rfl,fun y hy=>by cases hy;exact⟨1,2,3,4,by decide,⟨(by have e:(B++[(⟨b.name,b.range,u⟩:ec)]).length=(B++[b]).length:=(by simp);show _=some (bo.buf 10 [lE nm v N.length (B++[(⟨b.name,b.range,u⟩:ec)]).length Z.length ((6:Nat):Int) 1 3 4]);rw[e];exact rfl),ae,ae,(by rw[List.map_append];exact rfl),ae⟩⟩⟩;rfl
 simp only[decide_eq_false_iff_not]at hc2;rw[if_neg (show ¬st=5 by omega)]at hw;rw[hw];refine aA ?_;refine bq trivial di (Eq.trans ae (congrArg D.bool ?_)) ae ⟨rfl,fun y hy=>by cases hy⟩;rfl
def gC:aB:=⟨2,5,[⟨2,none⟩],bO,(sq (r1 [gm ct] 2 0) (sq (sq (r1 [gm s1,gl l0,aN l1 jF,gm l2,dH 3 s1,dH 3 s1,bT 3 (.len l5),bT 3 (.call 474 [l4,l6] [[.sl 1 [.a]],[.a]]),bT 3 (.un .not l7),ea l3 l8] 3 9) (.cond s3 (sq (r1 [gm ct] 2 0) .ret) .skip)) (sq (r1 [gm s1,ga 1 l0 bR,gd l1,gn (.build [.str [],.az] [(0,1,l2)]),gb 2 (.c (.agg [.str [],.az])),gt 2 l4 l3] 4 4) (sq (rt [gf 1 s4,gd l0,gm s1,gn (.slA 1 l2 (some jF) none),gn (.app 1 l1 l3),gf 1 s4,gt 1 l5 l4] []) (sq (rt [gm s0,gm s0,gm s0,gc l2,gf 0 l3,gf 8 l4,gd l5,gk 2 true s4,gn (.bsl 2 (.agg [.str [],.az]) 1 [(0,l7)]),gn (.app 2 l6 l8),gc l0,gf 0 l10,gf 8 fI,gt 1 gV l9,gc l1,gf 9 jt,gt 1 kB FJ] []) (sq (r1 [gm me] 2 0) .ret))))))⟩
def w476 {Γ:Ctx}(hm:(Γ.at 5).a8)(l:List ai)(nm:ai)(v:b7)(N:List aP)(B:List ec)(Z:List bd)(st:Nat)(h474:KZ (Γ.at 5))(hp0:l.length≤1048577)(hp1:Z.length≤1000000):bz (Γ.at 5) gC.body (jn gC (LH ((if 2≤l.length∧rr l l.length=true then some (⟨⟨nm,v,N,B,Z++[⟨l[1]!,l.drop 2⟩]⟩,7⟩:fX)else none))):Ex→List bx→St→Prop) (ed gC [.ptr 0 10 0 0,.sl 1 (l.map D.str)]) ⟨5,[(0,.buf 10 [lE nm v N.length B.length Z.length ((st:Nat):Int) 1 3 4]),(1,.buf 3 (dk 2 N)),(2,.buf 4 (kD N)),(3,.buf 3 (B.map ec.D)),(4,.buf 2 (Z.map bd.D))]⟩:=by
 show bz _ _ _ [⟨true,.ptr 0 10 0 0⟩,⟨true,.sl 1 (l.map D.str)⟩,.un,.un,.un] ⟨5,[(0,.buf 10 [lE nm v N.length B.length Z.length ((st:Nat):Int) 1 3 4]),(1,.buf 3 (dk 2 N)),(2,.buf 4 (kD N)),(3,.buf 3 (B.map ec.D)),(4,.buf 2 (Z.map bd.D))]⟩;refine aj ?_;refine aA ?_;intro u0;refine ax ?_;refine gT ?_;refine ak (hc:=h474 l l.length) ?_;refine av ?_;refine aq (fun hc0=>?_) (fun hc0=>?_)
 ·simp only[Bool.or_eq_true,Bool.not_eq_true',decide_eq_true_eq]at hc0;have ho:(if 2≤l.length∧rr l l.length=true then some (⟨⟨nm,v,N,B,Z++[⟨l[1]!,l.drop 2⟩]⟩,7⟩:fX)else none)=none:=if_neg (by rintro⟨a,b⟩;rcases hc0 with h|h;omega;rw[b]at h;cases h);rw[ho];refine aJ ?_;refine bq trivial di (Eq.trans ae (congrArg D.bool ?_)) ae ⟨rfl,fun y hy=>by cases hy⟩;rfl
 simp only[Bool.or_eq_false_iff,Bool.not_eq_false',decide_eq_false_iff_not]at hc0;have h2l:2≤l.length:=by omega
 have ho:(if 2≤l.length∧rr l l.length=true then some (⟨⟨nm,v,N,B,Z++[⟨l[1]!,l.drop 2⟩]⟩,7⟩:fX)else none)=some (⟨⟨nm,v,N,B,Z++[⟨l[1]!,l.drop 2⟩]⟩,7⟩:fX):=if_pos ⟨h2l,hc0.2⟩;rw[ho];refine av ?_;refine bJ 1 (hb:=fun _=>by omega) ?_;refine bD (v:=.str l[1]!) (hi:=fun _=>by omega) ?_;refine aW (.agg [.str l[1]!,.az]) ?_;refine aC ?_;refine aL (.agg [.str l[1]!,.az]) (he:=by exact rfl) ?_;refine av ?_;refine bc (v:=.az) ?_;refine aC ?_;refine rz 2 (hb:=fun _=>by omega) ?_;refine Mm (n:=(l.drop 2).length) (he:=rQ.sl) (hn:=by rw[List.length_map]) (hb:=by rw[List.length_drop];omega) ?_;refine aC ?_;refine aL (.agg [.str l[1]!,.own 26 1 0 (l.drop 2).length]) (he:=by exact rfl) ?_;refine aC ?_;refine eu 26 (he:=by simp only[jr,fq,fV,ke,k9,bS,Nat.reduceEqDiff,if_true,if_false,and_self,true_and,and_true,false_and,and_false,Nat.zero_add,List.length_map,Nat.le_refl,List.drop_zero,aE,reduceCtorEq,List.length_cons,List.length_nil,Nat.reduceAdd,Nat.reduceLeDiff,lE];exact rfl) (hm:=by simp only[jr,fq,fV,ke,k9,bS,Nat.reduceEqDiff,if_true,if_false,and_self,true_and,and_true,false_and,and_false,Nat.zero_add,List.length_map,Nat.le_refl,List.drop_zero,aE,reduceCtorEq,List.length_cons,List.length_nil,Nat.reduceAdd,Nat.reduceLeDiff,lE,sn 26 _ _ (by decide),sb,qm,qn];exact rfl) ?_;refine aV ?_;refine bc (v:=.own 4 2 0 Z.length) ?_;refine cG (d:=bd.D ⟨l[1]!,l.drop 2⟩) ?_;refine cx [bd.D ⟨l[1]!,l.drop 2⟩] ?_;refine kM (q:=bd.D) (xs:=Z) (e:=⟨l[1]!,l.drop 2⟩) ?_;refine av ?_;refine aL (lE nm v N.length B.length (Z++[(⟨l[1]!,l.drop 2⟩:bd)]).length ((st:Nat):Int) 1 3 38) (he:=by exact rfl) ?_;refine ar ?_;refine aL (lE nm v N.length B.length (Z++[(⟨l[1]!,l.drop 2⟩:bd)]).length ((7:Nat):Int) 1 3 38) (he:=by exact rfl) ?_;refine aJ ?_;refine bq trivial di (Eq.trans ae (congrArg D.bool ?_)) ae ⟨rfl,fun y hy=>by cases hy;exact⟨1,2,3,38,by decide,⟨ae,ae,ae,ae,ae⟩⟩⟩;rfl
def jf:aB:=⟨2,6,[⟨2,none⟩],bO,(sq (r1 [gm ct] 2 0) (sq (sq (r1 [gm s1,gl l0,bN l1 jG,gm l2,dH 3 s1,bT 3 (.ia 1 l4 bh),hY 3 l5,bT 3 (dC l6 (cs [112,97,99,107,97,103,101])),ea l3 l7,gm l8,dH 9 s1,bT 9 (.ia 1 l10 bR),hY 9 fI,bT 9 (ca gV cse),ea l9 iQ] 3 14) (.cond s3 (sq (r1 [gm ct] 2 0) .ret) .skip)) (sq (rg [gm s1,ga 1 l0 jF,gd l1,gx 568 [l2] bO,gm l3,ge l4 0,ge l4 1,gb 5 (.c (.agg [.int .i64 0,.int .i64 0,.int .i64 0,.str [],.str []])),gt 5 l7 l5,gm l6] [(4,7),(5,9)]) (sq (rt [gm s0,gm s0,gm s0,gm s1,ga 1 l3 bR,gd l4,gn (.ldI 5 true s4),gc l0,gf 0 l7,gf 0 l8,gt 1 l9 l5,gc l1,gf 0 fI,gf 1 gV,gt 5 iQ l6,gc l2,gf 9 kB,gt 1 mE bR] []) (sq (r1 [gm s5,aG l0 bh,gm l1] 2 2) .ret)))))⟩
def w471 {Γ:Ctx}(hm:(Γ.at 5).a8)(l:List ai)(nm:ai)(v:b7)(N:List aP)(B:List ec)(Z:List bd)(st:Nat)(h568:NZ (Γ.at 5))(hp0:∀w∈l,w.length≤1048576):bz (Γ.at 5) jf.body (jn jf (LH (oy ⟨⟨nm,v,N,B,Z⟩,st⟩ l)):Ex→List bx→St→Prop) (ed jf [.ptr 0 10 0 0,.sl 1 (l.map D.str)]) ⟨5,[(0,.buf 10 [lE nm v N.length B.length Z.length ((st:Nat):Int) 1 3 4]),(1,.buf 3 (dk 2 N)),(2,.buf 4 (kD N)),(3,.buf 3 (B.map ec.D)),(4,.buf 2 (Z.map bd.D))]⟩:=by
 show bz _ _ _ [⟨true,.ptr 0 10 0 0⟩,⟨true,.sl 1 (l.map D.str)⟩,.un,.un,.un,.un] ⟨5,[(0,.buf 10 [lE nm v N.length B.length Z.length ((st:Nat):Int) 1 3 4]),(1,.buf 3 (dk 2 N)),(2,.buf 4 (kD N)),(3,.buf 3 (B.map ec.D)),(4,.buf 2 (Z.map bd.D))]⟩;refine aj ?_;refine aA ?_;intro u0;refine av ?_;refine bJ 0 (hb:=fun hf=>by simp at hf;omega) ?_;refine bD (v:=.str l[0]!) (hi:=fun hf=>by simp at hf;omega) ?_;refine ax ?_;refine bJ 1 (hb:=fun hf=>by simp at hf;omega) ?_;refine bD (v:=.str l[1]!) (hi:=fun hf=>by simp at hf;omega) ?_;refine av ?_;refine aq (fun hc0=>?_) (fun hc0=>?_)
 ·simp only[Bool.or_eq_true,Bool.not_eq_true',decide_eq_true_eq,decide_eq_false_iff_not]at hc0;have ho:oy ⟨⟨nm,v,N,B,Z⟩,st⟩ l=none:=by
   unfold oy;rw[if_neg];rintro⟨⟨a,b⟩,c⟩;rcases hc0 with(h|h)|h
   ·exact h (by omega)
   ·exact h b
   ·exact c h
  rw[ho];refine aJ ?_;refine bq trivial di (Eq.trans ae (congrArg D.bool ?_)) ae ⟨rfl,fun y hy=>by cases hy⟩;rfl
 simp only[Bool.or_eq_false_iff,Bool.not_eq_false',decide_eq_true_eq,decide_eq_false_iff_not]at hc0;obtain⟨⟨hl3,hl0⟩,hl1⟩:=hc0;obtain hl3:l.length=3:=by omega
 have hhx:oy ⟨⟨nm,v,N,B,Z⟩,st⟩ l=(match ee l[2]! with
  |some v=>some ⟨⟨l[1]!,v,N,B,Z⟩,1⟩
  |none=>none):=if_pos ⟨⟨hl3,hl0⟩,hl1⟩
 rw[hhx];refine av ?_;refine bJ 2 (hb:=fun _=>by omega) ?_;refine bD (v:=.str l[2]!) (hi:=fun _=>by omega) ?_;refine ak (hc:=h568 l[2]! (hp0 _ (bA (by omega)))) ?_;refine aC ?_;refine dU (b7.D _) ?_;refine ar ?_;refine aL (b7.D ((ee l[2]!).getD dY)) (he:=by exact rfl) ?_;refine ar ?_;refine eu 28 (he:=by simp only[jr,fq,fV,ke,k9,bS,Nat.reduceEqDiff,if_true,if_false,and_self,true_and,and_true,false_and,and_false,Nat.zero_add,List.length_map,Nat.le_refl,List.drop_zero,aE,reduceCtorEq,List.length_cons,List.length_nil,Nat.reduceAdd,Nat.reduceLeDiff,lE,b7.D];exact rfl) (hm:=by simp only[jr,fq,fV,ke,k9,bS,Nat.reduceEqDiff,if_true,if_false,and_self,true_and,and_true,false_and,and_false,Nat.zero_add,List.length_map,Nat.le_refl,List.drop_zero,aE,reduceCtorEq,List.length_cons,List.length_nil,Nat.reduceAdd,Nat.reduceLeDiff,lE,b7.D,sn 28 _ _ (by decide),sb,qm,qn];exact rfl) ?_;refine aJ ?_;refine bJ 1 (hb:=fun _=>by omega) ?_;refine bD (v:=.str l[1]!) (hi:=fun _=>by omega) ?_;refine ze (v:=b7.D ((ee l[2]!).getD dY)) ?_;refine av ?_;refine aL (lE l[1]! v N.length B.length Z.length ((st:Nat):Int) 1 3 4) (he:=by exact rfl) ?_;refine av ?_;refine aL (lE l[1]! ((ee l[2]!).getD dY) N.length B.length Z.length ((st:Nat):Int) 1 3 4) (he:=by exact rfl) ?_;refine ar ?_;refine aL (lE l[1]! ((ee l[2]!).getD dY) N.length B.length Z.length ((1:Nat):Int) 1 3 4) (he:=by exact rfl) ?_;refine aV ?_;refine bq trivial di (Eq.trans ae (congrArg D.bool ?_)) ae ⟨rfl,fun y hy=>by obtain⟨w,hv⟩:∃w,ee l[2]! =some w:=(by cases hv:ee l[2]! with|none=>rw[hv]at hy;cases hy|some w=>exact⟨w,rfl⟩);rw[hv]at hy;cases hy;exact⟨1,2,3,4,by decide,⟨(by rw[hv];exact rfl),ae,ae,ae,ae⟩⟩⟩;rw[Ih];cases ee l[2]! <;>rfl
end Go.Abs
end
namespace Go.Abs
def Af (x:fX)(l:List ai):Option fX:=if 2≤l.length∧rr l l.length=true then some ⟨⟨x.r.name,x.r.v,x.r.needs,x.r.bars,x.r.feats++[⟨l[1]!,l.drop 2⟩]⟩,7⟩else none
def KW (Γ:Ctx):Prop:=∀(x:fX)(l:List ai),(∀w∈l,w.length≤1048576)→PK Γ 471 [.sl 1 (l.map D.str)] x (oy x l)
def KX (Γ:Ctx):Prop:=∀(x:fX)(t:ai),t.length≤1048576→(x.st=2→x.r.needs≠[])→pZ x.r.needs≤1000000→x.r.needs.length≤1000000→PK Γ 472 [.str t] x (rU x t)
def KY (Γ:Ctx):Prop:=∀(x:fX)(t:ai),t.length≤1048576→(x.st=2→x.r.needs≠[])→(x.st=5→x.r.bars≠[])→x.r.needs.length≤1000000→x.r.bars.length≤1000000→PK Γ 473 [.str t] x (mw x t)
def K0 (Γ:Ctx):Prop:=∀(x:fX)(l:List ai),l.length≤1048577→x.r.feats.length≤1000000→PK Γ 476 [.sl 1 (l.map D.str)] x (Af x l)
def yw {out:Option fX}{L:Nat}(h:qk 0 L (L+1) (L+2) (L+3)=true):LH out (.bool out.isSome) (rS out 0 L++[]):=by
 refine⟨rfl,fun y hy=>?_⟩;subst hy;refine⟨L,L+1,L+2,L+3,h, ?_⟩;simp only[qk,Bool.not_eq_true',Bool.or_eq_false_iff]at h;obtain⟨⟨⟨⟨⟨⟨⟨⟨⟨h1,h2⟩,h3⟩,h4⟩,h5⟩,h6⟩,h7⟩,h8⟩,h9⟩,h10⟩:=h;have ne:∀{a b:Nat},Nat.beq a b=false→¬a=b:=fun h e=>by subst e;simp at h
 rw[List.append_nil];unfold rS LG;constructor<;>simp only[look,if_true,ne h1,ne h2,ne h3,ne h4,ne h5,ne h6,ne h7,ne h8,ne h9,ne h10,if_false]
mutual
theorem LD:∀d:D,d.a7=true→rL d d
 | .az,_=>.inl rfl
 | .agg a,h=>⟨a,rfl,yv a h⟩
 | .any,h=>⟨rfl,h⟩
 | .bool b,h=>⟨rfl,h⟩
 | .int k n,h=>⟨rfl,h⟩
 | .str s,h=>⟨rfl,h⟩
 | .tup s,h=>⟨rfl,h⟩
 | .sl k s,h=>⟨rfl,h⟩
 | .ref k s i o,h=>⟨rfl,h⟩
 | .nilp,h=>⟨rfl,h⟩
 | .nilf,h=>⟨rfl,h⟩
 | .fn f c,h=>⟨rfl,h⟩
theorem yv:∀l:List D,aT l=true→yu l l
 |[],_=>rfl
 |d::r,h=>by
  simp only[aT,Bool.and_eq_true]at h;exact⟨d,r,rfl,LD d h.1,yv r h.2⟩
end
def vi:D:=.agg [.az,.str [],.str []]
def xd (j:Nat):∀N:List aP,yu (N.map aP.D++[vi]) (N.map aP.D++[ju j ⟨[],[],[]⟩])
 |[]=>⟨_,_,rfl,⟨_,rfl,⟨_,_,rfl,.inr ⟨_,_,_,rfl⟩,⟨_,_,rfl,⟨rfl,rfl⟩,⟨_,_,rfl,⟨rfl,rfl⟩,rfl⟩⟩⟩⟩,rfl⟩
 |a::r=>⟨_,_,rfl,⟨_,rfl,yv _ rfl⟩,xd j r⟩
def xG:∀N:List aP,BB (fV 2 4 (kD N) (dk 2 N)) (N.map aP.D)
 |[]=>.nil
 |[n]=>by
  have e:fV 2 4 (kD [n]) (dk 2 [n])=[.agg [.sl 4 (n.any.map bm.N),.str n.when',.str n.option]]:=by
   simp only[dk,kD,ju,fV,fq,List.length_map,Nat.zero_add,Nat.le_refl,and_self,if_true,List.drop_zero,aE]
  rw[e];exact .cons (.ag (.cons (.ss (.map fun x _=>x.wk)) (.rf _))) .nil
 |a::b::r=>.cons (.refl _) (xG (b::r))
def jH {α:Type}{c:Prop} [Decidable c]{a y:α}(h:(if c then some a else none)=some y):c∧a=y:=by
 split at h
 ·rename_i hc;exact⟨hc,Option.some.inj h⟩
 ·cases h
def Jm {α:Type}{c:Prop} [Decidable c]{a:α}:(if c then some a else none).isSome=decide c:=by
 by_cases h:c
 ·rw[if_pos h,decide_eq_true h];rfl
 ·rw[if_neg h,decide_eq_false h];rfl
def DJ {x:fX}{t:ai}(h:x.st=0):c8 x t=uP (ah t 32):=by unfold c8;simp only[h,if_true]
def DK {x:fX}{t:ai}(h0:x.st≠0)(h:(ah t 32)[0]! =dJ):c8 x t=if(ah t 32).length=1∧x.st<5 then some ⟨⟨x.r.name,x.r.v,x.r.needs++[⟨[],[],[]⟩],x.r.bars,x.r.feats⟩,2⟩else none:=by
 unfold c8;simp only[h0,if_false,h,if_true]
def GU {x:fX}{t:ai}(h0:x.st≠0)(h:(ah t 32)[0]! =fj):c8 x t=rU x t:=by
 have hw:=wu;unfold c8;simp only[h0,if_false,h,if_true,Ne.symm hw.1]
def DL {x:fX}{t:ai}(h0:x.st≠0)(h:(ah t 32)[0]! =ek):c8 x t=mw x t:=by
 have hw:=wu;unfold c8;simp only[h0,if_false,h,if_true,Ne.symm hw.2.1,Ne.symm hw.2.2.2.2.2.1]
def GW {x:fX}{t:ai}(h0:x.st≠0)(h:(ah t 32)[0]! =cr):c8 x t=if rr (ah t 32) 2=true∧(x.st=2∨x.st=3)then some ⟨⟨x.r.name,x.r.v,ep x.r.needs fun n=>⟨n.any,n.when',(ah t 32)[1]!⟩,x.r.bars,x.r.feats⟩,4⟩else none:=by
 have hw:=wu;unfold c8;simp only[h0,if_false,h,if_true,Ne.symm hw.2.2.1,Ne.symm hw.2.2.2.2.2.2.1,Ne.symm hw.2.2.2.2.2.2.2.2.2.1]
def GV {x:fX}{t:ai}(h0:x.st≠0)(h:(ah t 32)[0]! =fE):c8 x t=if(ei t 2).2.2=true∧x.st≤6 then some ⟨⟨x.r.name,x.r.v,x.r.needs,x.r.bars++[⟨(ei t 2).1[1]!,(ei t 2).2.1,[]⟩],x.r.feats⟩,5⟩else none:=by
 have hw:=wu;unfold c8;simp only[h0,if_false,h,if_true,Ne.symm hw.2.2.2.1,Ne.symm hw.2.2.2.2.2.2.2.1,Ne.symm hw.2.2.2.2.2.2.2.2.2.2.1,Ne.symm hw.2.2.2.2.2.2.2.2.2.2.2.2.1];rw[zq];by_cases hk:(ei t 2).2.2=true
 ·rw[if_pos hk];by_cases hs:x.st≤6
  ·rw[if_pos ⟨hk,hs⟩];simp only[hs,if_true]
  ·rw[if_neg (fun hh=>hs hh.2)];simp only[hs,if_false]
 ·rw[if_neg hk,if_neg (fun hh=>hk hh.1)]
def DI {x:fX}{t:ai}(h0:x.st≠0)(h:(ah t 32)[0]! =bQ):c8 x t=Af x (ah t 32):=by
 have hw:=wu;unfold c8 Af;simp only[h0,h,Ne.symm hw.2.2.2.2.1,Ne.symm hw.2.2.2.2.2.2.2.2.1,Ne.symm hw.2.2.2.2.2.2.2.2.2.2.2.1,Ne.symm hw.2.2.2.2.2.2.2.2.2.2.2.2.2.1,Ne.symm hw.2.2.2.2.2.2.2.2.2.2.2.2.2.2,if_false,if_true]
def Ky {x:fX}{t:ai}(h0:x.st≠0)(h1:¬(ah t 32)[0]! =dJ)(h2:¬(ah t 32)[0]! =fj)(h3:¬(ah t 32)[0]! =ek)(h4:¬(ah t 32)[0]! =cr)(h5:¬(ah t 32)[0]! =fE)(h6:¬(ah t 32)[0]! =bQ):c8 x t=none:=by
 unfold c8;simp only[h0,h1,h2,h3,h4,h5,h6,if_false]
end Go.Abs
section
namespace Go.Abs
open Go
def jg:aB:=⟨2,18,[⟨2,none⟩],bO,(sq (r1 [gm ct] 2 0) (sq (r1 [gm s1,gx 470 [l0,(i8 32)] gQ,gm l1] 4 2) (sq (sq (r1 [gm s0,gc l0,gf 9 l1,gd l2,aG l3 bh] 3 4) (.cond s3 (sq (r1 [gm s0,gm s4,gn (.callM 471 [l0,l1]),gm l2] 2 3) .ret) .skip)) (sq (sq (r1 [gm s4,ga 1 l0 bh,gd l1] 5 2) (.block 0 (sq (r1 [aG s5 (cs [110,101,101,100]),gm l0] 6 1) (.cond s6 (sq (rg [gm s0,gm s0,gc l1,gf 0 l2,gf 6 l3,gd l4,gn (.build [.az,.str [],.str []] []),gn (.bsl 3 (.agg [.az,.str [],.str []]) 1 [(0,l6)]),gn (.app 3 l5 l7),gc l0,gf 0 l9,gf 6 l10,gt 1 fI l8] []) (sq (r1 [gm s4,gl l0,aG l1 bR,gm l2,gmt 3 s0,bZ 3 (.nilck l4),kA 3 9 l5,iO 3 l6,bZ 3 (pT l7 B4),dZ l3 l8,gm l9] 7 10) (sq (rg [gm s0,gc l0,gf 9 l1,gt 1 l2 jF] []) (sq (r1 [gm s7,gm l0] 2 1) .ret)))) (sq (r1 [aG s5 (cs [97,110,121]),gm l0] 8 1) (.cond s8 (sq (r1 [gm s0,gm s1,gn (.callM 472 [l0,l1]),gm l2] 2 3) .ret) (sq (r1 [aG s5 (cs [119,104,101,110]),gm l0] 9 1) (.cond s9 (sq (r1 [gm s0,gm s1,gn (.callM 473 [l0,l1]),gm l2] 2 3) .ret) (sq (r1 [aG s5 (cs [111,112,116,105,111,110]),gm l0] 10 1) (.cond jx (sq (sq (r1 [gm s4,gx 474 [l0,jF] [[.sl 1 [.a]],[.a]],ix l1,gm l2,dH 3 s0,bT 3 (.nilck l4),hH 3 9 l5,hY 3 l6,bT 3 (dC l7 jF),dH 3 l8,gmt 9 s0,bZ 9 (.nilck l10),kA 9 9 fI,iO 9 gV,bZ 9 (dC iQ jG),yP 3 l9 jt,ea l3 kB] 11 16) (.cond mc (sq (r1 [gm ct] 2 0) .ret) .skip)) (sq (rt [gm s0,gc l0,gf 0 l1,gf 6 l2,gd l3,gm s0,gc l5,gf 0 l6,gf 6 l7,gd l8,gl l9,dP l10 bR,gm s0,gm s4,ga 1 iQ bR,gd jt,ga 3 l4 fI,gf 2 mE,gt 1 nU kB,gc gV,gf 9 pY,gt 1 ua tA] []) (sq (r1 [gm me] 2 0) .ret))) (sq (r1 [aG s5 (cs [98,97,114]),gm l0] 12 1) (.cond lY (sq (rg [gm s1,gx 475 [l0,jF] gQ,gm l1,ge l2 0,ge l2 1,ge l2 2,gm l3,gm l4,gm l5] [(15,6),(16,7),(13,8)]) (sq (sq (r1 [gm pP,ix l0,gm l1,dH 2 s0,bT 2 (.nilck l3),hH 2 9 l4,hY 2 l5,bT 2 (dz l6 tY),ea l2 l7] 14 8) (.cond tn (sq (r1 [gm ct] 2 0) .ret) .skip)) (sq (rt [gm s0,gm s0,gm s0,gc l2,gf 0 l3,gf 7 l4,gd l5,gm vW,ga 1 l7 bR,gd l8,gm BF,gn (.build [.str [],.str [],.str []] [(0,1,l9),(1,1,l10)]),gn (.bsl 3 (.agg [.str [],.str [],.str []]) 1 [(0,fI)]),gn (.app 3 l6 gV),gc l0,gf 0 jt,gf 7 kB,gt 1 mE iQ,gc l1,gf 9 oB,gt 1 pY B4] []) (sq (r1 [gm me] 2 0) .ret)))) (sq (r1 [aG s5 (cs [102,101,97,116,117,114,101]),gm l0] 17 1) (.cond Bc (sq (r1 [gm s0,gm s4,gn (.callM 476 [l0,l1]),gm l2] 2 3) .ret) .skip)))))))))))))) (sq (r1 [gm ct] 2 0) .ret)))))⟩
def w224 {Γ:Ctx}(hm:(Γ.at 5).a8)(s:ai)(nm:ai)(v:b7)(N:List aP)(B:List ec)(Z:List bd)(st:Nat)(h470:uk (Γ.at 5))(h471:KW (Γ.at 5))(h472:KX (Γ.at 5))(h473:KY (Γ.at 5))(h474:KZ (Γ.at 5))(h475:IB (Γ.at 5))(h476:K0 (Γ.at 5))(hp0:s.length≤1048576)(hp1:st=0→N=[]∧B=[]∧Z=[])(hp2:st=2∨st=3→N≠[])(hp3:st=5→B≠[])(hp4:N.length≤900000∧B.length≤900000∧Z.length≤900000∧pZ N≤900000):bz (Γ.at 5) jg.body (jn jg (LH (c8 ⟨⟨nm,v,N,B,Z⟩,st⟩ s)):Ex→List bx→St→Prop) (ed jg [.ptr 0 10 0 0,.str s]) ⟨5,[(0,.buf 10 [lE nm v N.length B.length Z.length ((st:Nat):Int) 1 3 4]),(1,.buf 3 (dk 2 N)),(2,.buf 4 (kD N)),(3,.buf 3 (B.map ec.D)),(4,.buf 2 (Z.map bd.D))]⟩:=by
 show bz _ _ _ [⟨true,.ptr 0 10 0 0⟩,⟨true,.str s⟩,.un,.un,.un,.un,.un,.un,.un,.un,.un,.un,.un,.un,.un,.un,.un,.un] ⟨5,[(0,.buf 10 [lE nm v N.length B.length Z.length ((st:Nat):Int) 1 3 4]),(1,.buf 3 (dk 2 N)),(2,.buf 4 (kD N)),(3,.buf 3 (B.map ec.D)),(4,.buf 2 (Z.map bd.D))]⟩;have hsp:1≤(ah s 32).length:=dR 32 s [];have hsl:=cn s 32;have hlm:∀w∈ah s 32,w.length≤1048576:=fun w hw=>Nat.le_trans (dj s 32 hw) hp0
 obtain⟨z1,z2,z3,z4⟩:=hp4;have hrl:=zq s 2;have hrn:=sF s 2;have hre:=vQ s 2;obtain⟨⟨l,u,ok⟩,hq⟩:∃q,ei s 2=q:=⟨_,rfl⟩
 rw[hq]at hrl hrn hre;dsimp only at hrl hrn hre;refine aj ?_;refine ax ?_;refine ak (v:=.sl 1 ((ah s 32).map D.str)) (hc:=h470 s 32 hp0) ?_;refine aV ?_;refine bc (v:=.int .i64 ((st:Nat):Int)) ?_;refine ar ?_;refine aq (fun hc0=>?_) (fun hc0=>?_)
 ·simp only[decide_eq_true_eq]at hc0;obtain rfl:st=0:=by omega
  have ho:c8 ⟨⟨nm,v,N,B,Z⟩,0⟩ s=oy ⟨⟨nm,v,N,B,Z⟩,0⟩ (ah s 32):=by
   rw[DJ rfl,Dw ⟨hp1,fun h=>by simp at h,fun h=>by simp at h⟩ rfl]
  rw[ho];refine ax ?_;refine bW (nx':=18) (v:=.bool (oy ⟨⟨nm,v,N,B,Z⟩,0⟩ (ah s 32)).isSome) (m':=rS (oy ⟨⟨nm,v,N,B,Z⟩,0⟩ (ah s 32)) 0 16++[]) (hc:=fun K' hK=>h471 ⟨⟨nm,v,N,B,Z⟩,0⟩ (ah s 32) hlm _ 0 1 2 3 4 _ K' ⟨by exact rfl,by exact rfl,by exact rfl,by exact rfl,by exact rfl⟩ (by decide) ⟨by simp only[List.length_cons,List.length_nil];omega,by simp only[List.length_cons,List.length_nil];omega,by simp only[List.length_cons,List.length_nil];omega,by simp only[List.length_cons,List.length_nil];omega,by simp only[List.length_cons,List.length_nil];omega⟩ (by exact hK)) (hn:=by decide) ?_;refine av ?_;refine bq trivial di (Eq.trans ae (congrArg D.bool ?_)) ae (yw (by decide));rfl
 simp only[decide_eq_false_iff_not]at hc0;have h0:(⟨⟨nm,v,N,B,Z⟩,st⟩:fX).st≠0:=by show st≠0;omega
 refine ax ?_;refine bJ 0 (hb:=fun _=>by omega) ?_;refine bD (v:=.str (ah s 32)[0]!) (hi:=fun _=>by omega) ?_;refine aA ?_;refine wp_cond (fun hc1=>?_) (fun hc1=>?_)
 ·simp only[decide_eq_true_eq]at hc1;have hw:(ah s 32)[0]! =dJ:=hc1;have ho:=DK h0 hw;dsimp only at ho;refine eu 2 (hn:=jA N) (he:=by simp only[jr,fq,fV,ke,k9,bS,Nat.reduceEqDiff,if_true,if_false,and_self,true_and,and_true,false_and,and_false,Nat.zero_add,List.length_map,Nat.le_refl,List.drop_zero,aE,reduceCtorEq,List.length_cons,List.length_nil,Nat.reduceAdd,Nat.reduceLeDiff,lE];exact rfl) (hm:=by simp only[jr,fq,fV,ke,k9,bS,Nat.reduceEqDiff,if_true,if_false,and_self,true_and,and_true,false_and,and_false,Nat.zero_add,List.length_map,Nat.le_refl,List.drop_zero,aE,reduceCtorEq,List.length_cons,List.length_nil,Nat.reduceAdd,Nat.reduceLeDiff,lE,qm,qn];exact rfl) ?_;refine kY [(0,.buf 10 [lE nm v N.length B.length Z.length ((st:Nat):Int) 1 3 4]),(1,.buf 3 (N.map aP.D)),(3,.buf 3 (B.map ec.D)),(4,.buf 2 (Z.map bd.D))] (.id ae (.bf ae (xG N) (.id ae (.id ae .nil)))) ?_;refine aA ?_;refine bc (v:=.own 1 3 0 N.length) ?_;refine aW vi ?_;refine cx [vi] ?_;refine tk (xs:=N.map aP.D) (zs:=N.map aP.D++[vi]) (n:=(N++[(⟨[],[],[]⟩:aP)]).length) (ha:=by simp) (he:=rQ.all (es:=[vi]) ae rfl) (hz:=by rw[List.drop_zero,List.take_of_length_le (by simp)]) (hn:=by simp) (hb:=by simp;omega) ?_;refine av ?_;refine aL (lE nm v (N++[(⟨[],[],[]⟩:aP)]).length B.length Z.length ((st:Nat):Int) 27 3 4) (he:=by exact rfl) ?_;refine ax ?_;intro u0;refine aJ ?_;refine bc (v:=.int .i64 ((st:Nat):Int)) ?_;refine bB ?_;refine aL (lE nm v (N++[(⟨[],[],[]⟩:aP)]).length B.length Z.length ((2:Nat):Int) 27 3 4) (he:=by exact rfl) ?_;refine aC ?_;refine e8 (aX.to (env':=[⟨true,.ptr 0 10 0 0⟩,.un,.un,.un,.un,.un,.un,⟨true,.bool _⟩,.un,.un,.un,.un,.un,.un,.un,.un,.un,.un]) (c:=90) (nx':=90) (m':=[(0,.buf 10 [lE nm v (N++[(⟨[],[],[]⟩:aP)]).length B.length Z.length ((2:Nat):Int) 60 3 4]),(60,.buf 3 (N.map aP.D++[ju 61 ⟨[],[],[]⟩])),(61,.buf 4 []),(3,.buf 3 (B.map ec.D)),(4,.buf 2 (Z.map bd.D))]) [(27,60)] rfl ae Hx (by refine aO.lg ae ae ae ?_;refine aO.ni 27 ae ae (xd 61 N) ?_;refine aO.mt ae ae ae ae ?_;refine aO.eS ae ae (by exact bg (fun _=>rfl) _) ?_;refine aO.eS ae ae (by exact bg (fun _=>rfl) _) ?_;exact aO.nil)) ?_;refine aA ?_;refine bq trivial di (Eq.trans ae (congrArg D.bool ?_)) ae ⟨rfl,fun y hy=>by rw[ho]at hy;obtain⟨_,rfl⟩:=jH hy;exact⟨60,61,3,4,by decide,⟨ae,(by rw[eH];exact rfl),(by rw[gH];exact rfl),ae,ae⟩⟩⟩;rw[ho,Jm,Bool.eq_iff_iff];simp only[Bool.and_eq_true,decide_eq_true_eq];omega
 simp only[decide_eq_false_iff_not]at hc1;have n1:¬(ah s 32)[0]! =dJ:=hc1;refine ax ?_;refine wp_cond (fun hc2=>?_) (fun hc2=>?_)
 ·simp only[decide_eq_true_eq]at hc2;have hw:(ah s 32)[0]! =fj:=hc2;have ho:=GU h0 hw;rw[ho];refine av ?_;refine bW (nx':=25) (v:=.bool (rU ⟨⟨nm,v,N,B,Z⟩,st⟩ s).isSome) (m':=rS (rU ⟨⟨nm,v,N,B,Z⟩,st⟩ s) 0 23++[]) (hc:=fun K' hK=>h472 ⟨⟨nm,v,N,B,Z⟩,st⟩ s hp0 (fun h=>hp2 (.inl h)) (by show pZ N≤_;omega) (by show N.length≤_;omega) _ 0 1 2 3 4 _ K' ⟨by exact rfl,by exact rfl,by exact rfl,by exact rfl,by exact rfl⟩ (by decide) ⟨by simp only[List.length_cons,List.length_nil];omega,by simp only[List.length_cons,List.length_nil];omega,by simp only[List.length_cons,List.length_nil];omega,by simp only[List.length_cons,List.length_nil];omega,by simp only[List.length_cons,List.length_nil];omega⟩ (by exact hK)) (hn:=by decide) ?_;refine ax ?_;refine bq trivial di (Eq.trans ae (congrArg D.bool ?_)) ae (yw (by decide));rfl
 simp only[decide_eq_false_iff_not]at hc2;have n2:¬(ah s 32)[0]! =fj:=hc2;refine ax ?_;refine wp_cond (fun hc3=>?_) (fun hc3=>?_)
 ·simp only[decide_eq_true_eq]at hc3;have hw:(ah s 32)[0]! =ek:=hc3;have ho:=DL h0 hw;rw[ho];refine av ?_;refine bW (nx':=27) (v:=.bool (mw ⟨⟨nm,v,N,B,Z⟩,st⟩ s).isSome) (m':=rS (mw ⟨⟨nm,v,N,B,Z⟩,st⟩ s) 0 25++[]) (hc:=fun K' hK=>h473 ⟨⟨nm,v,N,B,Z⟩,st⟩ s hp0 (fun h=>hp2 (.inl h)) hp3 (by show N.length≤_;omega) (by show B.length≤_;omega) _ 0 1 2 3 4 _ K' ⟨by exact rfl,by exact rfl,by exact rfl,by exact rfl,by exact rfl⟩ (by decide) ⟨by simp only[List.length_cons,List.length_nil];omega,by simp only[List.length_cons,List.length_nil];omega,by simp only[List.length_cons,List.length_nil];omega,by simp only[List.length_cons,List.length_nil];omega,by simp only[List.length_cons,List.length_nil];omega⟩ (by exact hK)) (hn:=by decide) ?_;refine ax ?_;refine bq trivial di (Eq.trans ae (congrArg D.bool ?_)) ae (yw (by decide));rfl
 simp only[decide_eq_false_iff_not]at hc3;have n3:¬(ah s 32)[0]! =ek:=hc3;refine ax ?_;refine wp_cond (fun hc4=>?_) (fun hc4=>?_)
 ·simp only[decide_eq_true_eq]at hc4;have hw:(ah s 32)[0]! =cr:=hc4;have ho:=GW h0 hw;dsimp only at ho;refine av ?_;refine ak (hc:=h474 (ah s 32) 2) ?_;refine aJ ?_;refine bc (v:=.int .i64 ((st:Nat):Int)) ?_;refine aJ ?_;refine bc (v:=.int .i64 ((st:Nat):Int)) ?_;refine ax ?_;refine aq (fun hc5=>?_) (fun hc5=>?_)
  ·simp only[Bool.or_eq_true,Bool.and_eq_true,Bool.not_eq_true',decide_eq_true_eq,decide_eq_false_iff_not]at hc5;rw[if_neg (by rintro⟨a,b⟩;rcases hc5 with h|h;(rw[a]at h;cases h);omega)]at ho;rw[ho];refine aA ?_;refine bq trivial di (Eq.trans ae (congrArg D.bool ?_)) ae ⟨rfl,fun y hy=>by cases hy⟩;rfl
  simp only[Bool.or_eq_false_iff,Bool.and_eq_false_iff,Bool.not_eq_false',decide_eq_true_eq,decide_eq_false_iff_not]at hc5;obtain⟨hon,hst⟩:=hc5;have hst:st=2∨st=3:=by omega
  obtain⟨N,n,rfl⟩:=pF (hp2 hst);have hnl:(N++[n]).length=N.length+1:=by simp
  have hl2:(ah s 32).length=2:=(mT.1 hon).1;rw[if_pos ⟨hon,hst⟩,dw]at ho;rw[ho,eH,gH];refine aA ?_;refine bc (v:=.own 1 3 0 (N++[n]).length) ?_;refine ax ?_;refine bc (v:=.own 1 3 0 (N++[n]).length) ?_;refine gT ?_;refine av ?_;refine bJ 1 (hb:=fun _=>by omega) ?_;refine bD (v:=.str (ah s 32)[1]!) (hi:=fun _=>by omega) ?_;refine gW N.length (hj:=fun _=>by omega) (hb:=fun _=>by omega) ?_;refine aC ?_;refine rA (es:=N.map aP.D++[ju 2 n]) (N.map aP.D++[ju 2 ⟨n.any,n.when',(ah s 32)[1]!⟩]) (hi:=by simp) (he:=by rw[lP _ _ _ _ (by simp),oR _ _ _ _ (by simp)];exact rfl) ?_;refine ar ?_;refine aL (lE nm v (N++[n]).length B.length Z.length ((4:Nat):Int) 1 3 4) (he:=by exact rfl) ?_;refine aA ?_;refine bq trivial di (Eq.trans ae (congrArg D.bool ?_)) ae ⟨rfl,fun y hy=>by cases hy;exact⟨1,2,3,4,by decide,⟨(by have e:(N++[(⟨n.any,n.when',(ah s 32)[1]!⟩:aP)]).length=(N++[n]).length:=(by simp);show _=some (bo.buf 10 [lE nm v (N++[(⟨n.any,n.when',(ah s 32)[1]!⟩:aP)]).length B.length Z.length ((4:Nat):Int) 1 3 4]);rw[e];exact rfl),(by rw[eH];exact rfl),(by rw[gH];exact rfl),ae,ae⟩⟩⟩;rfl
 simp only[decide_eq_false_iff_not]at hc4;have n4:¬(ah s 32)[0]! =cr:=hc4;refine ax ?_;refine wp_cond (fun hc6=>?_) (fun hc6=>?_)
 ·simp only[decide_eq_true_eq]at hc6;have hw:(ah s 32)[0]! =fE:=hc6;have ho:=GV h0 hw;rw[hq]at ho;dsimp only at ho;refine ar ?_;refine ak (v:=.tup [.sl 1 (l.map D.str),.str u,.bool ok]) (hc:=by have:=h475 s 2 hp0 (by decide);rw[hq]at this;exact this) ?_;refine aC ?_;refine dU (.sl _ _) ?_;refine p8 ?_;refine bc (v:=.int .i64 ((st:Nat):Int)) ?_;refine av ?_;refine aq (fun hc7=>?_) (fun hc7=>?_)
  ·simp only[Bool.or_eq_true,Bool.not_eq_true',decide_eq_true_eq,decide_eq_false_iff_not]at hc7;rw[if_neg (by rintro⟨a,b⟩;rcases hc7 with h|h;(rw[a]at h;cases h);omega)]at ho;rw[ho];refine aA ?_;refine bq trivial di (Eq.trans ae (congrArg D.bool ?_)) ae ⟨rfl,fun y hy=>by cases hy⟩;rfl
  simp only[Bool.or_eq_false_iff,Bool.not_eq_false',decide_eq_true_eq,decide_eq_false_iff_not]at hc7;have hln:=hrn hc7.1;rw[if_pos ⟨hc7.1,by omega⟩]at ho;rw[ho];refine bB ?_;refine bc (v:=.own 3 3 0 B.length) ?_;refine aC ?_;refine bJ 1 (hb:=fun _=>by omega) ?_;refine bD (v:=.str l[1]!) (hi:=fun _=>by omega) ?_;refine aC ?_;refine aW (ec.D (⟨l[1]!,u,[]⟩:ec)) ?_;refine cx [ec.D (⟨l[1]!,u,[]⟩:ec)] ?_;refine kM (q:=ec.D) (xs:=B) (e:=(⟨l[1]!,u,[]⟩:ec)) ?_;refine av ?_;refine aL (lE nm v N.length (B++[(⟨l[1]!,u,[]⟩:ec)]).length Z.length ((st:Nat):Int) 1 58 4) (he:=by exact rfl) ?_;refine ar ?_;refine aL (lE nm v N.length (B++[(⟨l[1]!,u,[]⟩:ec)]).length Z.length ((5:Nat):Int) 1 58 4) (he:=by exact rfl) ?_;refine aA ?_;refine bq trivial di (Eq.trans ae (congrArg D.bool ?_)) ae ⟨rfl,fun y hy=>by cases hy;exact⟨1,2,58,4,by decide,⟨ae,ae,ae,ae,ae⟩⟩⟩;rfl
 simp only[decide_eq_false_iff_not]at hc6;have n6:¬(ah s 32)[0]! =fE:=hc6;refine ax ?_;refine wp_cond (fun hc8=>?_) (fun hc8=>?_)
 ·simp only[decide_eq_true_eq]at hc8;have hw:(ah s 32)[0]! =bQ:=hc8;have ho:=DI h0 hw;rw[ho];refine av ?_;refine bW (nx':=33) (v:=.bool (Af ⟨⟨nm,v,N,B,Z⟩,st⟩ (ah s 32)).isSome) (m':=rS (Af ⟨⟨nm,v,N,B,Z⟩,st⟩ (ah s 32)) 0 31++[]) (hc:=fun K' hK=>h476 ⟨⟨nm,v,N,B,Z⟩,st⟩ (ah s 32) (by omega) (by show Z.length≤_;omega) _ 0 1 2 3 4 _ K' ⟨by exact rfl,by exact rfl,by exact rfl,by exact rfl,by exact rfl⟩ (by decide) ⟨by simp only[List.length_cons,List.length_nil];omega,by simp only[List.length_cons,List.length_nil];omega,by simp only[List.length_cons,List.length_nil];omega,by simp only[List.length_cons,List.length_nil];omega,by simp only[List.length_cons,List.length_nil];omega⟩ (by exact hK)) (hn:=by decide) ?_;refine ax ?_;refine bq trivial di (Eq.trans ae (congrArg D.bool ?_)) ae (yw (by decide));rfl
 simp only[decide_eq_false_iff_not]at hc8;have n8:¬(ah s 32)[0]! =bQ:=hc8;have ho:=Ky h0 n1 n2 n3 n4 n6 n8;rw[ho];refine aA ?_;refine bq trivial di (Eq.trans ae (congrArg D.bool ?_)) ae ⟨rfl,fun y hy=>by cases hy⟩;rfl
end Go.Abs
end
namespace Go.Abs
def KN (Γ:Ctx):Prop:=∀(x:fX)(t:ai),x.ok→x.sz≤900000→t.length≤1048576→PK Γ 224 [.str t] x (c8 x t)
def wQ {f:aP→aP}(l:List aP)(hf:∀n,(f n).any.length≤n.any.length+1):pZ (ep l f)≤pZ l+1:=by
 by_cases h:l=[]
 ·subst h;simp[ep,pZ]
 ·obtain⟨a,x,rfl⟩:=pF h;rw[dw,nA,nA];exact hf x
def oQ {α:Type}(l:List α)(f:α→α):(ep l f).length=l.length:=by
 by_cases h:l=[]
 ·subst h;rfl
 ·obtain⟨a,x,rfl⟩:=pF h;rw[dw];simp
def vX {α:Type}{l:List α}(f:α→α)(h:l≠[]):ep l f≠[]:=by
 intro e;have:=oQ l f;rw[e]at this;exact h (List.eq_nil_of_length_eq_zero this.symm)
def zw {x:fX}{nm:ai}{v:b7}{st:Nat}(f:aP→aP)(hf:∀n,(f n).any.length≤n.any.length+1):(⟨⟨nm,v,ep x.r.needs f,x.r.bars,x.r.feats⟩,st⟩:fX).sz≤x.sz+1:=by
 have:=wQ x.r.needs hf;unfold fX.sz;simp only[oQ];omega
def JX {x y:fX}{t:ai}(h:c8 x t=some y)(hx:x.ok):y.ok∧y.sz≤x.sz+1:=by
 by_cases h0:x.st=0
 ·rw[DJ h0,←Dw hx h0]at h;obtain⟨e1,e2,e3⟩:=hx.1 h0;unfold oy at h;split at h
  ·split at h
   ·obtain rfl:=Option.some.inj h;refine⟨⟨fun h=>by simp at h,fun h=>by simp at h,fun h=>by simp at h⟩,Nat.le_succ _⟩
   ·cases h
  ·cases h
 by_cases h1:(ah t 32)[0]! =dJ
 ·rw[DK h0 h1]at h;obtain⟨_,rfl⟩:=jH h;refine⟨⟨fun h=>by simp at h,fun _=>by simp,fun h=>by simp at h⟩, ?_⟩;unfold fX.sz;rw[nA];simp only[List.length_append,List.length_cons,List.length_nil];omega
 by_cases h2:(ah t 32)[0]! =fj
 ·rw[GU h0 h2]at h;unfold rU at h;split at h
  ·obtain⟨hc,rfl⟩:=jH h;refine⟨⟨fun h=>by simp at h,fun _=>vX _ (hx.2.1 (.inl hc.1)),fun h=>by simp at h⟩,zw _ (fun n=>by simp)⟩
  ·cases h
 by_cases h3:(ah t 32)[0]! =ek
 ·rw[DL h0 h3]at h;unfold mw at h;split at h
  ·split at h
   ·rename_i hc;obtain rfl:=Option.some.inj h;refine⟨⟨fun h=>by simp at h,fun _=>vX _ (hx.2.1 (.inl hc)),fun h=>by simp at h⟩,zw _ (fun n=>by simp)⟩
   ·obtain⟨hc,rfl⟩:=jH h;refine⟨⟨fun h=>by simp at h,fun h=>by simp at h,fun h=>by simp at h⟩, ?_⟩;unfold fX.sz;simp only[oQ];omega
  ·cases h
 by_cases h4:(ah t 32)[0]! =cr
 ·rw[GW h0 h4]at h;obtain⟨hc,rfl⟩:=jH h;refine⟨⟨fun h=>by simp at h,fun h=>by simp at h,fun h=>by simp at h⟩,zw _ (fun n=>by simp)⟩
 by_cases h5:(ah t 32)[0]! =fE
 ·rw[GV h0 h5]at h;obtain⟨hc,rfl⟩:=jH h;refine⟨⟨fun h=>by simp at h,fun h=>by simp at h,fun _=>by simp⟩, ?_⟩;unfold fX.sz;simp only[List.length_append,List.length_cons,List.length_nil];omega
 by_cases h6:(ah t 32)[0]! =bQ
 ·rw[DI h0 h6]at h;obtain⟨hc,rfl⟩:=jH h;refine⟨⟨fun h=>by simp at h,fun h=>by simp at h,fun h=>by simp at h⟩, ?_⟩;unfold fX.sz;simp only[List.length_append,List.length_cons,List.length_nil];omega
 rw[Ky h0 h1 h2 h3 h4 h5 h6]at h;cases h
abbrev kj (s:ai):List ai:=(ah s 10).take ((ah s 10).length-1)
abbrev vc (s:ai):ai:=(ah s 10)[(ah s 10).length-1]!
def vJ {s:ai}(h:¬4096<s.length):c7 s=if(mY (kj s)).isSome=false∨(dX (kj s)).2≠[]∨vc s≠[]then(ik,2,(((kj s).length-(dX (kj s)).2.length:Nat):Int)+1)
  else if(bX (dX (kj s)).1).1≠0 then(ik,(bX (dX (kj s)).1).1,0)else((dX (kj s)).1,0,0):=by unfold c7;rw[if_neg h]
def AM {s:ai}{x:fX}{i:Nat}(h:¬4096<s.length)(hi:i≤(kj s).length)(hr:jW rH (kj s)=(x,(kj s).drop i))(hn:i<(kj s).length∨vc s≠[]):c7 s=(ik,2,(i:Int)+1):=by
 rw[vJ h];have ha:=zt (kj s);have hl:((kj s).drop i).length=(kj s).length-i:=List.length_drop;cases hp:mY (kj s)with
 |none=>
  rw[hp]at ha;simp only at ha;rw[ha]at hr;simp only[Prod.mk.injEq]at hr;have hv:dX (kj s)=(ik,kj s):=by unfold dX;rw[hp]
  rw[if_pos (.inl rfl),hv];have:(kj s).length=(kj s).length-i:=by rw[←hl,←hr.2]
  simp only[Prod.mk.injEq,true_and];omega
 |some p=>
  obtain⟨r,rest⟩:=p;rw[hp]at ha;obtain⟨st,_,ha⟩:=ha;rw[ha]at hr;simp only[Prod.mk.injEq]at hr;have hv:dX (kj s)=(r,rest):=by unfold dX;rw[hp]
  rw[hv,hr.2];rw[if_pos]
  ·simp only[hl,Prod.mk.injEq,true_and];omega
  ·rcases hn with hn|hn
   ·refine .inr (.inl fun e=>?_);simp only at e;rw[e]at hl;simp only[List.length_nil]at hl;omega
   ·exact .inr (.inr hn)
def HL {s:ai}{x:fX}(h:¬4096<s.length)(hr:jW rH (kj s)=(x,[]))(h0:x.st=0):c7 s=(ik,2,1):=by
 have ha:=zt (kj s);cases hp:mY (kj s)with
 |none=>
  rw[hp]at ha;simp only at ha;rw[ha]at hr;simp only[Prod.mk.injEq]at hr;have hv:dX (kj s)=(ik,kj s):=by unfold dX;rw[hp]
  rw[vJ h,if_pos (.inl (by rw[hp];rfl)),hv,hr.2];rfl
 |some p=>
  obtain⟨r,rest⟩:=p;rw[hp]at ha;obtain⟨st,h1,ha⟩:=ha;rw[ha]at hr;simp only[Prod.mk.injEq]at hr;rw[←hr.1]at h0;simp only at h0;omega
def JN {s:ai}{x:fX}(h:¬4096<s.length)(hr:jW rH (kj s)=(x,[]))(h0:x.st≠0)(hl:vc s=[]):gA x.r∧c7 s=if(bX x.r).1≠0 then(ik,(bX x.r).1,0)else(x.r,0,0):=by
 have ha:=zt (kj s);cases hp:mY (kj s)with
 |none=>
  rw[hp]at ha;simp only at ha;rw[ha]at hr;simp only[Prod.mk.injEq]at hr;rw[←hr.1]at h0;exact absurd rfl h0
 |some p=>
  obtain⟨r,rest⟩:=p;rw[hp]at ha;obtain⟨st,h1,ha⟩:=ha;rw[ha]at hr;simp only[Prod.mk.injEq]at hr;obtain⟨rfl,rfl⟩:=hr;have hv:dX (kj s)=(r,[]):=by unfold dX;rw[hp]
  have hlm:wH (kj s):=fun t ht=>by
   have:=dj s 10 (List.mem_of_mem_take ht);omega
  have hsm:=(D5 hlm).1;rw[hv]at hsm;refine⟨hsm, ?_⟩;rw[vJ h,hv,hp];rw[if_neg (by rintro(h|h|h);cases h;exact h rfl;exact h hl)]
def Cd {s:ai}(h:vc s=[]):fA s=(kj s,true):=by unfold fA;rw[if_pos h]
def ER {s:ai}(h:¬vc s=[]):fA s=(kj s++[vc s],false):=by
 unfold fA;rw[if_neg h];have hp:1≤(ah s 10).length:=dR 10 s [];have:=(drop_one (l:=ah s 10) (n:=(ah s 10).length-1) (by omega)).2;exact congrArg (fun l=>(l,false)) this
def sr (lo a b:Nat)(σ:List (Nat×Nat))(h:kN lo σ a=some b):∀N:List aP,nG lo σ (dk a N)=some (dk b N)
 |[]=>rfl
 |[n]=>by simp only[dk,ju,nG,qB,BE,h]
 |c::d::r=>by
  have:=sr lo a b σ h (d::r);have hc:qB lo σ (aP.D c)=some (aP.D c):=rfl;simp only[dk,nG,this,hc]
def vj (j:Nat):∀N:List aP,BB (fV j 4 (kD N) (dk j N)) (N.map aP.D)
 |[]=>.nil
 |[n]=>by
  have e:fV j 4 (kD [n]) (dk j [n])=[.agg [.sl 4 (n.any.map bm.N),.str n.when',.str n.option]]:=by
   simp only[dk,kD,ju,fV,fq,List.length_map,Nat.zero_add,Nat.le_refl,and_self,if_true,List.drop_zero,aE]
  rw[e];exact .cons (.ag (.cons (.ss (.map fun x _=>x.wk)) (.rf _))) .nil
 |a::b::r=>.cons (.refl _) (vj j (b::r))
def yO (l k:Nat)(es:List D)(N:List aP):fV l k es (N.map aP.D)=N.map aP.D:=nu l k es _ (bg (fun _=>rfl) _)
def Ce (s:ai):((fA s).2=true∧vc s=[]∧(fA s).1=kj s)∨((fA s).2=false∧vc s≠[]∧(fA s).1=kj s++[vc s]):=by
 by_cases h:vc s=[]
 ·rw[Cd h];exact .inl ⟨rfl,h,rfl⟩
 ·rw[ER h];exact .inr ⟨rfl,h,rfl⟩
def xX {x:fX}{l:List ai}{i:Nat}(h:i<l.length):l.drop i=l[i]! ::l.drop (i+1):=by
 rw[List.drop_eq_getElem_cons h];simp[h]
end Go.Abs
section
namespace Go.Abs
def Gg {a b:Nat}(h:a≠b):Nat.beq a b=false:=by
 cases h2:Nat.beq a b with
 |false=>rfl
 |true=>exact absurd (Nat.eq_of_beq_eq_true h2) h
def eW {a b:Nat}(h:Nat.beq a b=false):Nat.beq b a=false:=Gg fun e=>by subst e;rw[Nat.beq_refl]at h;cases h
section
variable [cz] {P:Program} {ν:List (Nat×Nat)} {b9:List Nat} {t:List (Nat×pK)} {fid n key u k:Nat} {af:aB} {aaz:List D} {nx:Nat} {m:List (Nat×bo)} {K:D→St→Prop}
def Fz {a:D}{k q i:Nat}{es:List D}{m1:List (Nat×bo)}(ha:a.a7=true)(hes:aT es=true)(hmix:P.follows .mixedOrders=true)(hC:FG P ν b9 fid af)(hnp:1=af.np)
  (hl:look m1 q=some (.buf k es)) (hK:K (.own nx k 0 i) ⟨nx+1,(nx,.buf k es)::m⟩) (hw:bz ((under t key u).at 0) af.body (jn af (One (.own q k 0 i) m1)) (ed af [a]) ⟨0,[]⟩):nJ P ν b9 (under t key u) fid [a] ⟨nx,m⟩ K:=by
 refine xu (σi:=[]) (m0:=[]) (cs:=[a]) (fun q=>aK t key u q) hmix hC rfl ?_ hnp rfl (fun _ _ h=>by cases h) (fun _ _ h=>by cases h) hw ?_
 ·intro i hi
  match i,hi with
  |0,_=>exact .inl ⟨rfl,ha⟩
 ·rintro d m2 ⟨rfl,rfl⟩;refine⟨[(q,nx)],q+1,_,.own nx k 0 i,⟨rfl, ?_,Nat.le_succ _,(fun _ _ h=>by cases h), ?_,(fun _ _ h=>by cases h), ?_⟩,.inr (.inl (by simp[qB,BE,kN])),hK⟩
  ·simp[fG]
  ·intro i l h;obtain⟨rfl,rfl⟩:=Prod.mk.inj (List.mem_singleton.1 h);exact .inr (Nat.le_refl _)
  ·intro l bb h;simp only[look]at h;split at h
   ·rename_i e;subst e;obtain rfl:=Option.some.inj h;exact .inl ⟨q,_,.head _,hl,rfl,.inl ⟨rfl,hes⟩⟩
   ·rename_i hn;exact .inr ⟨by simp only[lh,if_neg hn],(fun _ h=>by cases h),h⟩
def KC {a0 a1 a2 a3 a4 b0 b1 b2 b3 b4 c:Nat}(ha:qk a0 a1 a2 a3 a4=true)(hb:qk b0 b1 b2 b3 b4=true)(hc:b0<c∧b1<c∧b2<c∧b3<c∧b4<c):fG 0 c [(a0,b0),(a1,b1),(a2,b2),(a3,b3),(a4,b4)]=true:=by
 simp only[qk,Bool.not_eq_true',Bool.or_eq_false_iff]at ha hb;obtain⟨⟨⟨⟨⟨⟨⟨⟨⟨x1,x2⟩,x3⟩,x4⟩,x5⟩,x6⟩,x7⟩,x8⟩,x9⟩,x10⟩:=ha;obtain⟨⟨⟨⟨⟨⟨⟨⟨⟨y1,y2⟩,y3⟩,y4⟩,y5⟩,y6⟩,y7⟩,y8⟩,y9⟩,y10⟩:=hb;obtain⟨c0,c1,c2,c3,c4⟩:=hc;have bt:∀{x:Nat},x<c→Nat.blt x c=true:=fun {x} h=>by simp[Nat.blt];omega
 have bl:∀{x:Nat},Nat.ble 0 x=true:=fun {x}=>by simp
 simp only[fG,List.all_cons,List.all_nil,eW x1,eW x2,eW x3,eW x4,eW x5,eW x6,eW x7,eW x8,eW x9,eW x10,eW y1,eW y2,eW y3,eW y4,eW y5,eW y6,eW y7,eW y8,eW y9,eW y10,bt c0,bt c1,bt c2,bt c3,bt c4,bl,Bool.not_false,Bool.and_self,Bool.true_and]
def Qj {a0 a1 a2 a3 a4 b0 b1 b2 b3 b4:Nat}(ha:qk a0 a1 a2 a3 a4=true):kN 0 [(a0,b0),(a1,b1),(a2,b2),(a3,b3),(a4,b4)] a0=some b0∧kN 0 [(a0,b0),(a1,b1),(a2,b2),(a3,b3),(a4,b4)] a1=some b1∧kN 0 [(a0,b0),(a1,b1),(a2,b2),(a3,b3),(a4,b4)] a2=some b2∧kN 0 [(a0,b0),(a1,b1),(a2,b2),(a3,b3),(a4,b4)] a3=some b3∧kN 0 [(a0,b0),(a1,b1),(a2,b2),(a3,b3),(a4,b4)] a4=some b4:=by
 simp only[qk,Bool.not_eq_true',Bool.or_eq_false_iff]at ha;obtain⟨⟨⟨⟨⟨⟨⟨⟨⟨x1,x2⟩,x3⟩,x4⟩,x5⟩,x6⟩,x7⟩,x8⟩,x9⟩,x10⟩:=ha;simp only[kN,x1,x2,x3,x4,x5,x6,x7,x8,x9,x10,Nat.beq_refl,cond_true,cond_false,and_self]
def Qi {σ:List (Nat×Nat)}{m:List (Nat×bo)}{x:fX}{a0 a1 a2 a3 a4 b0 b1 b2 b3 b4:Nat}(h:IV m x a0 a1 a2 a3 a4)(ha:qk a0 a1 a2 a3 a4=true)(hs:σ=[(a0,b0),(a1,b1),(a2,b2),(a3,b3),(a4,b4)]):
  ∀l b,look (LG x b0 b1 b2 b3 b4) l=some b→∃i b',(i,l)∈σ∧look m i=some b'∧pJ 0 σ b' b:=by
 obtain⟨r0,r1,r2,r3,r4⟩:=Qj (b0:=b0) (b1:=b1) (b2:=b2) (b3:=b3) (b4:=b4) ha;intro l b hl;rw[←hs]at r0 r1 r2 r3 r4;have mem:(a0,b0)∈σ∧(a1,b1)∈σ∧(a2,b2)∈σ∧(a3,b3)∈σ∧(a4,b4)∈σ:=by subst hs;simp
 obtain⟨q0,q1,q2,q3,q4⟩:=mem;simp only[LG,look]at hl;split at hl
 ·rename_i e;subst e;obtain rfl:=Option.some.inj hl;exact⟨a0,_,q0,h.a0,rfl,.inr (.inl (by simp only[lE,nG,qB,BE,r1,r3,r4]))⟩
 ·split at hl
  ·rename_i e;subst e;obtain rfl:=Option.some.inj hl;exact⟨a1,_,q1,h.a1,rfl,.inr (.inl (sr _ _ _ _ r2 _))⟩
  ·split at hl
   ·rename_i e;subst e;obtain rfl:=Option.some.inj hl;exact⟨a2,_,q2,h.a2,rfl,.inl ⟨rfl,jA _⟩⟩
   ·split at hl
    ·rename_i e;subst e;obtain rfl:=Option.some.inj hl;exact⟨a3,_,q3,h.a3,rfl,.inl ⟨rfl,bg (fun _=>rfl) _⟩⟩
    ·split at hl
     ·rename_i e;subst e;obtain rfl:=Option.some.inj hl;exact⟨a4,_,q4,h.a4,rfl,.inl ⟨rfl,bg (fun _=>rfl) _⟩⟩
     ·cases hl
def MF {m:List (Nat×bo)}{j0 j1 j2 j3 j4 l:Nat}{b:bo}(h:look (zO m j0 j1 j2 j3 j4) l=some b):(l≠j0∧l≠j1∧l≠j2∧l≠j3∧l≠j4)∧look m l=some b:=by
 simp only[zO,eD]at h;split at h
 ·cases h
 ·rename_i e4;split at h
  ·cases h
  ·rename_i e3;split at h
   ·cases h
   ·rename_i e2;split at h
    ·cases h
    ·rename_i e1;split at h
     ·cases h
     ·rename_i e0;exact⟨⟨e0,e1,e2,e3,e4⟩,h⟩
def GY (a b:List (Nat×bo))(l:Nat):look (a++b) l=match look a l with
 |some x=>some x
 |none=>look b l:=by
 induction a with
 |nil=>rfl
 |cons p r ih=>
  obtain⟨q,c⟩:=p;simp only[List.cons_append,look];split
  ·rfl
  ·exact ih
def Ct {a0 a1 a2 a3 a4 b0 b1 b2 b3 b4 p q:Nat}(h:(p,q)∈[(a0,b0),(a1,b1),(a2,b2),(a3,b3),(a4,b4)]):p=a0∧q=b0∨p=a1∧q=b1∨p=a2∧q=b2∨p=a3∧q=b3∨p=a4∧q=b4:=by
 simpa only[List.mem_cons,Prod.mk.injEq,List.not_mem_nil,or_false]using h
def oL {x:fX}{out:Option fX}{j0 j1 j2 j3 j4:Nat}(has:aT aaz=true)(hmix:P.follows .mixedOrders=true)(hC:FG P ν b9 fid af)(hnp:aaz.length+1=af.np)
  (h1:IV m x j0 j1 j2 j3 j4) (h2:qk j0 j1 j2 j3 j4=true) (h3:j0<nx∧j1<nx∧j2<nx∧j3<nx∧j4<nx) (hK:K (.bool out.isSome) ⟨nx+4,rS out j0 nx++zO m j0 j1 j2 j3 j4⟩)
  (hw:bz ((under t key u).at 5) af.body (jn af (LH out)) (ed af (.ptr 0 10 0 0::aaz)) ⟨5,LG x 0 1 2 3 4⟩):nJ P ν b9 (under t key u) fid (.ptr j0 10 0 0::aaz) ⟨nx,m⟩ K:=by
 have g3:fG 0 5 [(j0,0),(j1,1),(j2,2),(j3,3),(j4,4)]=true:=KC h2 rfl (by decide);have g4:∀l i,(l,i)∈[(j0,0),(j1,1),(j2,2),(j3,3),(j4,4)]→look m l≠none:=by
  intro l i h;rcases Ct h with⟨rfl,_⟩|⟨rfl,_⟩|⟨rfl,_⟩|⟨rfl,_⟩|⟨rfl,_⟩
  ·rw[h1.a0];simp
  ·rw[h1.a1];simp
  ·rw[h1.a2];simp
  ·rw[h1.a3];simp
  ·rw[h1.a4];simp
 have g5:=Qi (b0:=0) (b1:=1) (b2:=2) (b3:=3) (b4:=4) h1 h2 rfl;refine xu (σi:=[(j0,0),(j1,1),(j2,2),(j3,3),(j4,4)]) (cs:=.ptr 0 10 0 0::aaz) (fun q=>aK t key u q) hmix hC (by simp) ?_ (by simpa using hnp) g3 g4 g5 hw ?_
 ·intro i hi
  match i with
  |0=>exact .inr (.inl (by simp[qB,BE,kN]))
  |i+1=>exact .inl ⟨rfl,cu has i⟩
 have hoff:∀l b,look (zO m j0 j1 j2 j3 j4) l=some b→(∀i,(l,i)∉[(j0,0),(j1,1),(j2,2),(j3,3),(j4,4)])∧look m l=some b:=by
  intro l b h;obtain⟨⟨e0,e1,e2,e3,e4⟩,hl⟩:=MF h;refine⟨fun i hi=>?_,hl⟩;rcases Ct hi with⟨h,_⟩|⟨h,_⟩|⟨h,_⟩|⟨h,_⟩|⟨h,_⟩<;>contradiction
 rintro d m1 ⟨rfl,hy⟩;cases out with
 |none=>
  refine⟨[],5,_,.bool false,⟨g3,by simp[fG],(Nat.le_add_right _ _:nx≤nx+4),g4,(fun _ _ h=>by cases h),g5, ?_⟩,.inl ⟨rfl,rfl⟩,hK⟩;intro l b h;obtain⟨k1,k2⟩:=hoff l b h;exact .inr ⟨rfl,k1,k2⟩
 |some y=>
  obtain⟨a1,a2,a3,a4,hf,hat⟩:=hy y rfl;have hg:qk j0 nx (nx+1) (nx+2) (nx+3)=true:=by
   simp only[qk,Bool.not_eq_true',Bool.or_eq_false_iff];refine⟨⟨⟨⟨⟨⟨⟨⟨⟨?_, ?_⟩, ?_⟩, ?_⟩, ?_⟩, ?_⟩, ?_⟩, ?_⟩, ?_⟩, ?_⟩<;>exact Gg (by omega)
  refine⟨[(0,j0),(a1,nx),(a2,nx+1),(a3,nx+2),(a4,nx+3)],5+a1+a2+a3+a4,_,.bool true,⟨g3,KC hf hg (by dsimp only;omega),(Nat.le_add_right _ _:nx≤nx+4),g4, ?_,g5, ?_⟩,.inl ⟨rfl,rfl⟩,hK⟩
  ·intro i l h;rcases Ct h with⟨rfl,rfl⟩|⟨rfl,rfl⟩|⟨rfl,rfl⟩|⟨rfl,rfl⟩|⟨rfl,rfl⟩
   ·exact .inl (.head _)
   all_goals exact .inr (by dsimp only;omega)
  ·intro l b h;dsimp only at h;rw[GY]at h;cases hl:look (rS (some y) j0 nx) l with
   |some c=>
    rw[hl]at h;obtain rfl:=Option.some.inj h;exact .inl (Qi hat hf rfl l c hl)
   |none=>
    rw[hl]at h;obtain⟨k1,k2⟩:=hoff l b h;refine .inr ⟨?_,k1,k2⟩;simp only[rS,LG,look]at hl;split at hl
    ·cases hl
    ·rename_i e0;split at hl
     ·cases hl
     ·rename_i e1;split at hl
      ·cases hl
      ·rename_i e2;split at hl
       ·cases hl
       ·rename_i e3;split at hl
        ·cases hl
        ·rename_i e4;simp only[lh,if_neg e0,if_neg e1,if_neg e2,if_neg e3,if_neg e4,if_neg (Ne.symm e0),if_neg (Ne.symm e1),if_neg (Ne.symm e2),if_neg (Ne.symm e3),if_neg (Ne.symm e4)]
end
end Go.Abs
end
section
namespace Go.Abs
open Go
def vK:aB:=⟨2,6,[⟨2,none⟩],bO,(sq (r1 [gm ct] 2 0) (sq (sq (r1 [gm bh] 3 0) (.block 0 (.loop (sq (sq (r1 [gm s3,gm s0,gl l1,aN l0 l2] 4 3) (eN s4 0)) (sq (.block 1 (sq (r1 [gm s0,gm s3,ga 1 l0 l1,gd l2,gx 357 [l3] bO,ix l4] 5 5) (.cond s5 (sq (r1 [gm ct] 2 0) .ret) .skip))) (r1 [gm s3,au l0 bR,gm l1] 3 2)))))) (sq (r1 [gm s0,gl l0,vg l1 tY,gm l2,gmt 3 s0,bZ 3 (.call 815 [l4] [[.sl 1 [.a]]]),dZ l3 l5,gm l6,gmt 7 s1,gmt 7 l8,dH 9 s0,bT 9 (.len l10),bT 9 (ca fI bh),LZ 7 l9 gV,dZ l7 iQ,gm jt] 2 15) .ret)))⟩
def w812 {Γ:Ctx}(hm:(Γ.at 0).a8)(h357:BJ Γ)(h815:Li Γ)(l:List ai)(al:Bool)   :dq Γ vK (.bool (jl l al)) [.sl 1 (l.map D.str),.bool al]:=by
 show bz _ _ _ [⟨_,_⟩,⟨_,_⟩,_,_,_,_] _;refine aj ?_;refine aA ?_;refine aY hm (ι:=Nat) (fun i=>[⟨true,.sl 1 (l.map D.str)⟩,⟨true,.bool al⟩,.un,⟨true,.int .i64 (i:Nat)⟩,.un,.un]) (fun i=>[]) 2 (fun i=>i≤l.length∧jl l al=(b8 (fun i=>bV l[i]!) i l.length&&((decide (l.length≤6)&&rising l)&&(al ||decide (l.length=0))))) (fun i=>l.length-i) 0 ⟨by omega,(wf_2 l al).symm⟩ (cS []) ?_;rintro i ⟨hi,hr⟩;refine aJ ?_;intro u0;refine ar ?_;refine cd (fun hc0=>?_) fun hc0=>?_
 ·refine aV ?_;refine ak (hc:=h357 _) ?_;refine ar ?_;refine wp_cond (fun hc1=>?_) (fun hc1=>?_)
  ·simp only[Bool.not_eq_true']at hc1;refine aA ?_;refine br ?_;rw[hr,aH (by omega),hc1];rfl
  simp only[Bool.not_eq_false']at hc1;refine bB ?_;exact⟨i+1,⟨by omega,by rw[hr,aH (by omega),hc1];rfl⟩,by omega,(cS [])⟩
 refine aJ ?_;intro u1;refine av ?_;refine ak (hc:=h815 _) ?_;refine aJ ?_;refine gT ?_;refine aA ?_;refine br ?_;rw[hr,bE (by omega),Bool.true_and,decide_eq_decide.2 (show((l.length:Nat):Int)≤6↔l.length≤6 by omega),decide_eq_decide.2 (show((l.length:Nat):Int)=0↔l.length=0 by omega)]
def Oj (Γ:Ctx):Prop:=∀(l:List ai)(al:Bool),Γ.pre 812 [.sl 1 (l.map D.str),.bool al]∧Γ.val 812 [.sl 1 (l.map D.str),.bool al]=.bool (jl l al)
def CG:aB:=⟨3,10,[⟨3,none⟩],bO,(sq (rg [gb 9 s0,gb 4 s1,gm bh] [(6,0),(4,1),(3,2)]) (sq (.block 0 (sq (r1 [gf 0 s4,gd l0,gx 216 [l1] bO,ix l2,gm l3] 5 4) (.cond s5 (sq (r1 [gm tA] 3 0) .ret) (sq (r1 [gf 0 s4,gd l0,gf 0 s6,gd l2,aG l1 l3,gm l4] 7 5) (.cond s7 (sq (r1 [gm B5] 3 0) .ret) (sq (r1 [gf 1 s4,gd l0,gx 572 [l1] bO,ix l2,gm l3] 8 4) (.cond s8 (sq (r1 [gm tY] 3 0) .ret) (sq (r1 [gf 2 s4,gd l0,gm s2,gx 812 [l1,l2] [[.sl 1 [.a]],[.a]],ix l3,gm l4] 9 5) (.cond s9 (sq (r1 [gm (i6 11)] 3 0) .ret) .skip))))))))) (sq (r1 [gm bh] 3 0) .ret)))⟩
def w669 {Γ:Ctx}(hm:(Γ.at 0).a8)(h216:FX Γ)(h572:K3 Γ)(h812:Oj Γ)(r:Rec)(w:bm)(al:Bool)  (hp0:w.sm):dq Γ CG (.int .i64 (gY r w al)) [Rec.D r,bm.D w,.bool al]:=by
 show bz _ _ _ [⟨_,_⟩,⟨_,_⟩,⟨_,_⟩,_,_,_,_,_,_,_] _;refine aj ?_;refine bB ?_;refine ak (hc:=h216 _) ?_;refine av ?_;refine fm (fun hc0=>?_) fun hc0=>?_
 ·refine aJ ?_;refine eB ?_;have hw:eL r w.name w.range=4:=by rw[eL,if_pos hc0]
  rw[gY,if_pos (by rw[hw];decide),hw]
 refine bB ?_;refine fm (fun hc1=>?_) fun hc1=>?_
 ·refine aJ ?_;refine eB ?_;have hw:eL r w.name w.range=8:=by rw[eL,if_neg (by simp[hc0]),if_pos hc1]
  rw[gY,if_pos (by rw[hw];decide),hw]
 refine av ?_;refine ak (hc:=h572 w.range hp0.1.2) ?_;refine av ?_;refine wp_cond (fun hc2=>?_) (fun hc2=>?_)
 ·try simp only[gJ]at hc2
  refine aJ ?_;refine eB ?_;have hw:eL r w.name w.range=6:=by rw[eL,if_neg (by simp[hc0]),if_neg hc1,if_pos hc2]
  rw[gY,if_pos (by rw[hw];decide),hw]
 simp only[Bool.not_eq_false']at hc2;have hw0:eL r w.name w.range=0:=by rw[eL,if_neg (by simp[hc0]),if_neg hc1,if_neg (by simp[hc2])]
 refine ax ?_;refine ak (hc:=h812 w.feats al) ?_;refine av ?_;refine fm (fun hc3=>?_) fun hc3=>?_
 ·refine aJ ?_;refine eB ?_;rw[gY,if_neg (by simp[hw0]),if_pos hc3]
 refine aA ?_;refine eB ?_;rw[gY,if_neg (by simp[hw0]),if_neg (by simp[hc3])]
def N4 (Γ:Ctx):Prop:=∀(r:Rec)(w:bm)(al:Bool),(w.sm)→Γ.pre 669 [Rec.D r,bm.D w,.bool al]∧Γ.val 669 [Rec.D r,bm.D w,.bool al]=.int .i64 (gY r w al)
def CB:aB:=⟨2,13,[⟨2,none⟩],bO,(sq (rg [gb 9 s0,gb 3 s1,gm bh] [(8,0),(3,1),(2,2)]) (sq (sq (r1 [gf 0 s3,gd l0,gl l1,aG l2 bh] 4 3) (.cond s4 (sq (r1 [gm EM] 2 0) .ret) .skip)) (sq (sq (r1 [gf 0 s3,gd l0,gl l1,cB l2 jG] 5 3) (.cond s5 (sq (r1 [gm jG] 2 0) .ret) .skip)) (sq (sq (r1 [gm bh] 6 0) (.block 0 (.loop (sq (sq (r1 [gm s6,gf 0 s3,gd l1,gl l2,aN l0 l3] 7 4) (eN s7 0)) (sq (.block 1 (sq (r2 [gk 9 true s8,gf 0 s3,gd l1,gm s6,ga 4 l2 l3,gk 4 true l4,gf 0 s3,gd l6,gl l7,aG l8 bR,gx 669 [l0,l5,l9] [[.a,.a,.a,.a,.a,.a,.sl 3 [.sl 4 [.a,.a,.sl 1 [.a],.a],.a,.a],.sl 3 [.a,.a,.a],.sl 2 [.a,.sl 1 [.a]]],[.a,.a,.sl 1 [.a],.a],[.a]],gm l10] 9 11) (sq (r1 [gm s9,bN l0 bh] 10 1) (.cond jx (sq (r1 [gm s9,gm l0] 2 1) .ret) .skip)))) (r1 [gm s6,au l0 bR,gm l1] 6 2)))))) (sq (sq (r1 [gf 1 s3,gd l0,gx 670 [l1] bO,ix l2] 11 3) (.cond mc (sq (r1 [gm FJ] 2 0) .ret) .skip)) (sq (sq (r1 [gf 2 s3,gd l0,bN l1 cse,gm l2,kA 3 2 s3,iO 3 l4,bZ 3 (.call 357 [l5] bO),bZ 3 (.un .not l6),dZ l3 l7] 12 8) (.cond lY (sq (r1 [gm (i6 14)] 2 0) .ret) .skip)) (sq (r1 [gm bh] 2 0) .ret)))))))⟩
def w457 {Γ:Ctx}(hm:(Γ.at 0).a8)(h357:BJ Γ)(h669:N4 Γ)(h670:K9 Γ)(r:Rec)(n:aP)  (hp0:n.sm):dq Γ CB (.int .i64 (fJ r n)) [Rec.D r,aP.D n]:=by
 show bz _ _ _ [⟨_,_⟩,⟨_,_⟩,_,_,_,_,_,_,_,_,_,_,_] _;refine aj ?_;refine cR ?_;intro u0;refine ar ?_;refine cd (fun hc0=>?_) fun hc0=>?_
 ·refine aJ ?_;refine eB ?_;rw[fJ,if_pos (by omega)]
 refine aA ?_;intro u1;refine ar ?_;refine cd (fun hc1=>?_) fun hc1=>?_
 ·refine aJ ?_;refine eB ?_;rw[fJ,if_neg (by omega),if_pos (by omega)]
 refine aJ ?_;refine aY hm (ι:=Nat) (fun i=>[.un,.un,.un,⟨true,.ptr 1 3 0 0⟩,.un,.un,⟨true,.int .i64 (i:Nat)⟩,.un,⟨true,.ptr 0 9 0 0⟩,.un,.un,.un,.un]) (fun i=>[(0,.buf 9 [Rec.D r]),(1,.buf 3 [aP.D n])]) 12 (fun i=>i≤n.any.length∧my r n.any=iW (fun i=>gY r n.any[i]! (decide ((n.any.length:Int)=1))) i n.any.length) (fun i=>n.any.length-i) 0 ⟨by omega,rfl⟩ (cS [(0,0),(1,1)]) ?_;rintro i ⟨hi,hr⟩;refine aA ?_;intro u2;refine ar ?_;refine cd (fun hc2=>?_) fun hc2=>?_
 ·refine aV ?_;refine bJ i ?_;first|refine bD (v:=(bm.D _)) ?_|refine dM (v:=(bm.D _)) ?_
  refine ar ?_;refine gT ?_;refine aC ?_;refine ak (hc:=h669 r n.any[i]! _ (hp0.1 _ (bA (by omega)))) ?_;refine aA ?_;refine fm (fun hc3=>?_) fun hc3=>?_
  ·refine aV ?_;refine eB ?_;have hw:my r n.any=gY r n.any[i]! (decide ((n.any.length:Int)=1)):=by rw[hr,lL (by omega) hc3]
   rw[fJ,if_neg (by omega),if_neg (by omega),if_pos (by rw[hw];exact hc3),hw]
  refine bB ?_;exact⟨i+1,⟨by omega,by rw[hr,pk (by omega) hc3]⟩,by omega,(cS [(0,0),(1,1)])⟩
 refine ax ?_;have hw0:my r n.any=0:=by rw[hr,pj (by omega)]
 refine ar ?_;refine ak (hc:=h670 _) ?_;refine ar ?_;refine aq (fun hc4=>?_) (fun hc4=>?_)
 ·try simp only[gJ]at hc4
  refine aJ ?_;refine eB ?_;rw[fJ,if_neg (by omega),if_neg (by omega),if_neg (by simp[hw0]),if_pos hc4]
 simp only[Bool.not_eq_false']at hc4;refine cR ?_;refine ak (hc:=h357 _) ?_;refine av ?_;refine aq (fun hc5=>?_) (fun hc5=>?_)
 ·try simp only[gJ]at hc5
  refine aJ ?_;refine eB ?_;rw[fJ,if_neg (by omega),if_neg (by omega),if_neg (by simp[hw0]),if_neg (by simp[hc4]),if_pos hc5]
 simp only[Bool.and_eq_false_iff,Bool.not_eq_false',decide_eq_true_eq]at hc5;refine aJ ?_;refine eB ?_;rw[fJ,if_neg (by omega),if_neg (by omega),if_neg (by simp[hw0]),if_neg (by simp[hc4]),if_neg (by rintro⟨g1,g2⟩;rcases hc5 with h|h;exact g1 h;rw[g2]at h;cases h)]
def NL (Γ:Ctx):Prop:=∀(r:Rec)(n:aP),(n.sm)→Γ.pre 457 [Rec.D r,aP.D n]∧Γ.val 457 [Rec.D r,aP.D n]=.int .i64 (fJ r n)
def Fc:aB:=⟨2,9,[⟨2,none⟩],bO,(sq (rg [gb 9 s0,gb 3 s1,gm bh] [(5,0),(3,1),(2,2)]) (sq (.block 0 (sq (r1 [gf 0 s3,gd l0,gx 216 [l1] bO,ix l2,gm l3] 4 4) (.cond s4 (sq (r1 [gm tA] 2 0) .ret) (sq (r1 [gf 0 s3,gd l0,gf 0 s5,gd l2,aG l1 l3,gm l4] 6 5) (.cond s6 (sq (r1 [gm B5] 2 0) .ret) (sq (r1 [gf 1 s3,gd l0,gx 572 [l1] bO,ix l2,gm l3] 7 4) (.cond s7 (sq (r1 [gm tY] 2 0) .ret) (sq (r1 [gf 2 s3,gd l0,gx 670 [l1] bO,ix l2,gm l3] 8 4) (.cond s8 (sq (r1 [gm FJ] 2 0) .ret) .skip))))))))) (sq (r1 [gm bh] 2 0) .ret)))⟩
def w458 {Γ:Ctx}(hm:(Γ.at 0).a8)(h216:FX Γ)(h572:K3 Γ)(h670:K9 Γ)(r:Rec)(b:ec)  (hp0:b.sm):dq Γ Fc (.int .i64 (nP r b)) [Rec.D r,ec.D b]:=by
 show bz _ _ _ [⟨_,_⟩,⟨_,_⟩,_,_,_,_,_,_,_] _;refine aj ?_;refine bB ?_;refine ak (hc:=h216 _) ?_;refine av ?_;refine fm (fun hc0=>?_) fun hc0=>?_
 ·refine aJ ?_;refine eB ?_;have hw:eL r b.name b.range=4:=by rw[eL,if_pos hc0]
  rw[nP,if_pos (by rw[hw];decide),hw]
 refine bB ?_;refine fm (fun hc1=>?_) fun hc1=>?_
 ·refine aJ ?_;refine eB ?_;have hw:eL r b.name b.range=8:=by rw[eL,if_neg (by simp[hc0]),if_pos hc1]
  rw[nP,if_pos (by rw[hw];decide),hw]
 refine av ?_;refine ak (hc:=h572 b.range hp0.2.1) ?_;refine av ?_;refine wp_cond (fun hc2=>?_) (fun hc2=>?_)
 ·try simp only[gJ]at hc2
  refine aJ ?_;refine eB ?_;have hw:eL r b.name b.range=6:=by rw[eL,if_neg (by simp[hc0]),if_neg hc1,if_pos hc2]
  rw[nP,if_pos (by rw[hw];decide),hw]
 simp only[Bool.not_eq_false']at hc2;have hw0:eL r b.name b.range=0:=by rw[eL,if_neg (by simp[hc0]),if_neg hc1,if_neg (by simp[hc2])]
 refine av ?_;refine ak (hc:=h670 _) ?_;refine av ?_;refine fm (fun hc3=>?_) fun hc3=>?_
 ·refine aJ ?_;refine eB ?_;rw[nP,if_neg (by simp[hw0]),if_pos hc3]
 refine aA ?_;refine eB ?_;rw[nP,if_neg (by simp[hw0]),if_neg (by simp[hc3])]
def NM (Γ:Ctx):Prop:=∀(r:Rec)(b:ec),(b.sm)→Γ.pre 458 [Rec.D r,ec.D b]∧Γ.val 458 [Rec.D r,ec.D b]=.int .i64 (nP r b)
def zk:aB:=⟨2,7,[⟨2,none⟩],bO,(sq (rg [gb 9 s0,gm ct] [(4,0),(2,1)]) (sq (sq (r1 [gm bh] 3 0) (.block 0 (.loop (sq (sq (r1 [gm s3,gf 6 s4,gd l1,gl l2,aN l0 l3] 5 4) (eN s5 0)) (sq (.block 1 (sq (r1 [gf 6 s4,gd l0,gm s3,ga 3 l1 l2,gf 2 l3,gd l4,gm s1,aG l5 l6] 6 7) (.cond s6 (sq (r1 [gm me] 2 0) .ret) .skip))) (r1 [gm s3,au l0 bR,gm l1] 3 2)))))) (sq (r1 [gm ct] 2 0) .ret)))⟩
def w673 {Γ:Ctx}(hm:(Γ.at 0).a8)  (r:Rec)(x:ai)   :dq Γ zk (.bool (Co r.needs x)) [Rec.D r,.str x]:=by
 show bz _ _ _ [⟨_,_⟩,⟨_,_⟩,_,_,_,_,_] _;refine aj ?_;refine aV ?_;refine aY hm (ι:=Nat) (fun i=>[.un,⟨true,.str x⟩,.un,⟨true,.int .i64 (i:Nat)⟩,⟨true,.ptr 0 9 0 0⟩,.un,.un]) (fun i=>[(0,.buf 9 [Rec.D r])]) 3 (fun i=>i≤r.needs.length∧Co r.needs x=(r.needs.drop i).any (fun n=>decide (n.option=x))) (fun i=>r.needs.length-i) 0 ⟨by omega,rfl⟩ (cS [(0,0)]) ?_;rintro i ⟨hi,hr⟩;refine aA ?_;intro u0;refine ar ?_;refine cd (fun hc0=>?_) fun hc0=>?_
 ·refine aA ?_;refine bJ i ?_;refine aJ ?_;refine fm (fun hc1=>?_) fun hc1=>?_
  ·refine aA ?_;refine br ?_;rw[hr,yy (c:=fun n:aP=>decide (n.option=x)) (by omega) (decide_eq_true hc1)]
  refine bB ?_;exact⟨i+1,⟨by omega,by rw[hr,BM (c:=fun n:aP=>decide (n.option=x)) (by omega) (decide_eq_false hc1)]⟩,by omega,(cS [(0,0)])⟩
 refine aA ?_;refine br ?_;rw[hr,yx (by omega)]
def N6 (Γ:Ctx):Prop:=∀(r:Rec)(x:ai),Γ.pre 673 [Rec.D r,.str x]∧Γ.val 673 [Rec.D r,.str x]=.bool (Co r.needs x)
def zl:aB:=⟨2,7,[⟨2,none⟩],bO,(sq (rg [gb 9 s0,gm ct] [(4,0),(2,1)]) (sq (sq (r1 [gm bh] 3 0) (.block 0 (.loop (sq (sq (r1 [gm s3,gf 6 s4,gd l1,gl l2,aN l0 l3] 5 4) (eN s5 0)) (sq (.block 1 (sq (r1 [gf 6 s4,gd l0,gm s3,ga 3 l1 l2,gf 0 l3,gd l4,gl l5,aG l6 bR,gm l7,kA 8 6 s4,iO 8 l9,gmt 8 s3,bZ 8 (.ia 3 l10 fI),kA 8 0 gV,iO 8 iQ,bZ 8 (.ia 4 jt bh),kA 8 0 kB,iO 8 mE,gmt 8 s1,bZ 8 (ca nU oB),dZ l8 pY] 6 20) (.cond s6 (sq (r1 [gm me] 2 0) .ret) .skip))) (r1 [gm s3,au l0 bR,gm l1] 3 2)))))) (sq (r1 [gm ct] 2 0) .ret)))⟩
def w674 {Γ:Ctx}(hm:(Γ.at 0).a8)  (r:Rec)(x:ai)   :dq Γ zl (.bool (vC r.needs x)) [Rec.D r,.str x]:=by
 show bz _ _ _ [⟨_,_⟩,⟨_,_⟩,_,_,_,_,_] _;refine aj ?_;refine aV ?_;refine aY hm (ι:=Nat) (fun i=>[.un,⟨true,.str x⟩,.un,⟨true,.int .i64 (i:Nat)⟩,⟨true,.ptr 0 9 0 0⟩,.un,.un]) (fun i=>[(0,.buf 9 [Rec.D r])]) 3 (fun i=>i≤r.needs.length∧vC r.needs x=(r.needs.drop i).any (fun n=>decide (n.any.length=1)&&decide (n.any[0]!.name=x))) (fun i=>r.needs.length-i) 0 ⟨by omega,rfl⟩ (cS [(0,0)]) ?_;rintro i ⟨hi,hr⟩;refine aA ?_;intro u0;refine ar ?_;refine cd (fun hc0=>?_) fun hc0=>?_
 ·refine aA ?_;refine bJ i ?_;refine av ?_;intro u1;refine aJ ?_;refine bJ i (hb:=fun _=>by omega) ?_;refine aC ?_;refine bD (q:=aP.D) (xs:=r.needs) (i:=i) (hi:=fun _=>by omega) (v:=(.sl 4 (r.needs[i]!.any.map bm.D))) ?_;refine bJ 0 (hb:=fun h=>by simp only[Bool.true_and,beq_iff_eq,Bool.and_eq_true,decide_eq_true_eq]at h;omega) ?_;refine aC ?_;refine bD (q:=bm.D) (xs:=r.needs[i]!.any) (i:=0) (hi:=fun h=>by simp only[Bool.true_and,beq_iff_eq,Bool.and_eq_true,decide_eq_true_eq]at h;omega) (v:=(.str r.needs[i]!.any[0]!.name)) ?_;refine ax ?_;refine wp_cond (fun hc1=>?_) (fun hc1=>?_)
  ·rw[decide_eq_decide.2 (show((r.needs[i]!.any.length:Nat):Int)=1↔r.needs[i]!.any.length=1 by omega)]at hc1;have hz:=hc1;refine aA ?_;refine br ?_;rw[hr,yy (by omega) hz]
  rw[decide_eq_decide.2 (show((r.needs[i]!.any.length:Nat):Int)=1↔r.needs[i]!.any.length=1 by omega)]at hc1;have hz:=hc1;refine bB ?_;exact⟨i+1,⟨by omega,by rw[hr,BM (by omega) hz]⟩,by omega,(cS [(0,0)])⟩
 refine aA ?_;refine br ?_;rw[hr,yx (by omega)]
def N7 (Γ:Ctx):Prop:=∀(r:Rec)(x:ai),Γ.pre 674 [Rec.D r,.str x]∧Γ.val 674 [Rec.D r,.str x]=.bool (vC r.needs x)
def A1:aB:=⟨2,10,[⟨2,none⟩],bO,(sq (rg [gb 9 s0,gm bh] [(6,0),(2,1)]) (sq (sq (r1 [gm bh] 3 0) (.block 0 (.loop (sq (sq (r1 [gm s3,gm s1,gl l1,aN l0 l2] 4 3) (eN s4 0)) (sq (.block 1 (sq (rg [gm s1,gm s3,ga 1 l0 l1,gd l2,gx 672 [l3] bO,gm l4,ge l5 0,ge l5 1,ge l5 2,gm l6,gm l7,gm l8] [(5,9),(7,10)]) (sq (sq (r1 [gm s5,aG l0 jF,gm l1,bZ 2 (.ld 9 true s6),gmt 2 s7,bZ 2 (.call 673 [l3,l4] [[.a,.a,.a,.a,.a,.a,.sl 3 [.sl 4 [.a,.a,.sl 1 [.a],.a],.a,.a],.sl 3 [.a,.a,.a],.sl 2 [.a,.sl 1 [.a]]],[.a]]),bZ 2 (.un .not l5),dZ l2 l6] 8 7) (.cond s8 (sq (r1 [gm (i6 14)] 2 0) .ret) .skip)) (sq (r1 [gm s5,aG l0 jG,gm l1,bZ 2 (.ld 9 true s6),gmt 2 s7,bZ 2 (.call 674 [l3,l4] [[.a,.a,.a,.a,.a,.a,.sl 3 [.sl 4 [.a,.a,.sl 1 [.a],.a],.a,.a],.sl 3 [.a,.a,.a],.sl 2 [.a,.sl 1 [.a]]],[.a]]),bZ 2 (.un .not l5),dZ l2 l6] 9 7) (.cond s9 (sq (r1 [gm (i6 16)] 2 0) .ret) .skip))))) (r1 [gm s3,au l0 bR,gm l1] 3 2)))))) (sq (r1 [gm bh] 2 0) .ret)))⟩
def w460 {Γ:Ctx}(hm:(Γ.at 0).a8)(h672:La Γ)(h673:N6 Γ)(h674:N7 Γ)(r:Rec)(of:List ai)  (hp0:∀t∈of,t.length≤1048576):dq Γ A1 (.int .i64 (iY r of)) [Rec.D r,.sl 1 (of.map D.str)]:=by
 show bz _ _ _ [⟨_,_⟩,⟨_,_⟩,_,_,_,_,_,_,_,_] _;refine aj ?_;refine aV ?_;refine aY hm (ι:=Nat) (fun i=>[.un,⟨true,.sl 1 (of.map D.str)⟩,.un,⟨true,.int .i64 (i:Nat)⟩,.un,.un,⟨true,.ptr 0 9 0 0⟩,.un,.un,.un]) (fun i=>[(0,.buf 9 [Rec.D r])]) 3 (fun i=>i≤of.length∧iY r of=iW (fun i=>kg r of[i]!) i of.length) (fun i=>of.length-i) 0 ⟨by omega,rfl⟩ (cS [(0,0)]) ?_;rintro i ⟨hi,hr⟩;refine aJ ?_;intro u0;refine ar ?_;refine cd (fun hc0=>?_) fun hc0=>?_
 ·refine aV ?_;refine ak (hc:=h672 of[i]! (hp0 _ (bA (by omega)))) ?_;refine wB ?_;refine ak (hc:=h673 r (cg of[i]!).2.1) ?_;refine av ?_;refine aq (fun hc1=>?_) (fun hc1=>?_)
  ·try simp only[gJ]at hc1
   refine aV ?_;refine eB ?_;have he:kg r of[i]! =14:=by rw[kg,if_pos hc1]
   rw[hr,lL (by omega) (by rw[he];decide),he]
  have hn1:¬((cg of[i]!).1=2∧Co r.needs (cg of[i]!).2.1=false):=by rintro⟨g1,g2⟩;rw[g1,g2]at hc1;cases hc1
  refine aV ?_;refine ak (hc:=h674 r (cg of[i]!).2.1) ?_;refine av ?_;refine wp_cond (fun hc2=>?_) (fun hc2=>?_)
  ·try simp only[gJ]at hc2
   refine aA ?_;refine eB ?_;have he:kg r of[i]! =16:=by rw[kg,if_neg hn1,if_pos hc2]
   rw[hr,lL (by omega) (by rw[he];decide),he]
  have hn2:¬((cg of[i]!).1=3∧vC r.needs (cg of[i]!).2.1=false):=by rintro⟨g1,g2⟩;rw[g1,g2]at hc2;cases hc2
  refine bB ?_;exact⟨i+1,⟨by omega,by rw[hr,pk (by omega) (by rw[kg,if_neg hn1,if_neg hn2])]⟩,by omega,(cS [(0,0)])⟩
 refine aA ?_;refine eB ?_;rw[hr,pj (by omega)]
def NO (Γ:Ctx):Prop:=∀(r:Rec)(of:List ai),(∀t∈of,t.length≤1048576)→Γ.pre 460 [Rec.D r,.sl 1 (of.map D.str)]∧Γ.val 460 [Rec.D r,.sl 1 (of.map D.str)]=.int .i64 (iY r of)
end Go.Abs
end
section
namespace Go.Abs
open Go
def A2:aB:=⟨1,17,[⟨1,none⟩,⟨2,none⟩],gQ,(sq (rg [gb 9 s0,gm bh,gm bh] [(4,0),(1,1),(2,2)]) (sq (sq (r1 [gm bh] 3 0) (.block 0 (.loop (sq (sq (r1 [gm s3,gf 6 s4,gd l1,gl l2,aN l0 l3] 5 4) (eN s5 0)) (sq (.block 1 (sq (r2 [gk 9 true s4,gf 6 s4,gd l1,gm s3,ga 3 l2 l3,gk 3 true l4,gx 457 [l0,l5] [[.a,.a,.a,.a,.a,.a,.sl 3 [.sl 4 [.a,.a,.sl 1 [.a],.a],.a,.a],.sl 3 [.a,.a,.a],.sl 2 [.a,.sl 1 [.a]]],[.sl 4 [.a,.a,.sl 1 [.a],.a],.a,.a]],gm l6] 6 7) (sq (r1 [gm s6,bN l0 bh] 7 1) (.cond s7 (sq (rg [gm s6,gm s3,gm l0,gm l1] [(1,2),(2,3)]) .ret) .skip)))) (r1 [gm s3,au l0 bR,gm l1] 3 2)))))) (sq (sq (r1 [gm bh] 8 0) (.block 2 (.loop (sq (sq (r1 [gm s8,gf 7 s4,gd l1,gl l2,aN l0 l3] 9 4) (eN s9 2)) (sq (.block 3 (sq (r2 [gk 9 true s4,gf 7 s4,gd l1,gm s8,ga 3 l2 l3,gk 3 true l4,gx 458 [l0,l5] [[.a,.a,.a,.a,.a,.a,.sl 3 [.sl 4 [.a,.a,.sl 1 [.a],.a],.a,.a],.sl 3 [.a,.a,.a],.sl 2 [.a,.sl 1 [.a]]],[.a,.a,.a]],gm l6] 10 7) (sq (r1 [gm jx,bN l0 bh] 11 1) (.cond mc (sq (rg [gm jx,gm s8,gm l0,gm l1] [(1,2),(2,3)]) .ret) .skip)))) (r1 [gm s8,au l0 bR,gm l1] 8 2)))))) (sq (sq (r1 [gf 8 s4,gd l0,gx 459 [l1] [[.sl 2 [.a,.sl 1 [.a]]]],ix l2] 12 3) (.cond lY (sq (rg [gm (i6 11),gm bh] [(1,0),(2,1)]) .ret) .skip)) (sq (sq (r1 [gm bh] 13 0) (.block 4 (.loop (sq (sq (r1 [gm pP,gf 8 s4,gd l1,gl l2,aN l0 l3] 14 4) (eN tn 4)) (sq (.block 5 (sq (r2 [gk 9 true s4,gf 8 s4,gd l1,gm pP,ga 2 l2 l3,gf 1 l4,gd l5,gx 460 [l0,l6] [[.a,.a,.a,.a,.a,.a,.sl 3 [.sl 4 [.a,.a,.sl 1 [.a],.a],.a,.a],.sl 3 [.a,.a,.a],.sl 2 [.a,.sl 1 [.a]]],[.sl 1 [.a]]],gm l7] 15 8) (sq (r1 [gm vW,bN l0 bh] 16 1) (.cond BF (sq (rg [gm vW,gm pP,gm l0,gm l1] [(1,2),(2,3)]) .ret) .skip)))) (r1 [gm pP,au l0 bR,gm l1] 13 2)))))) (sq (rg [gm bh,gm bh] [(1,0),(2,1)]) .ret))))))⟩
def w218 {Γ:Ctx}(hm:(Γ.at 0).a8)(h457:NL Γ)(h458:NM Γ)(h459:NN Γ)(h460:NO Γ)(r:Rec)  (hp0:gA r):dq Γ A2 (.tup [.int .i64 (dh r).1,.int .i64 (dh r).2]) [Rec.D r]:=by
 show bz _ _ _ [⟨_,_⟩,_,_,_,_,_,_,_,_,_,_,_,_,_,_,_,_] _;refine aj ?_;refine bB ?_;refine aY hm (ι:=Nat) (fun i=>[.un,.un,.un,⟨true,.int .i64 (i:Nat)⟩,⟨true,.ptr 0 9 0 0⟩,.un,.un,.un,.un,.un,.un,.un,.un,.un,.un,.un,.un]) (fun i=>[(0,.buf 9 [Rec.D r])]) 4 (fun i=>i≤r.needs.length∧lW r=gr (fun i=>fJ r r.needs[i]!) i r.needs.length) (fun i=>r.needs.length-i) 0 ⟨by omega,rfl⟩ (cS [(0,0)]) ?_;rintro i ⟨hi,hr⟩;refine aA ?_;intro u0;refine ar ?_;refine cd (fun hc0=>?_) fun hc0=>?_
 ·refine aV ?_;refine bJ i ?_;first|refine bD (v:=(aP.D _)) ?_|refine dM (v:=(aP.D _)) ?_
  refine ak (hc:=h457 r r.needs[i]! (hp0.2.1 _ (bA (by omega)))) ?_;refine aA ?_;refine fm (fun hc1=>?_) fun hc1=>?_
  ·refine cR ?_;refine bC (aF (congrArg (D.int .i64) ?_) (congrArg (D.int .i64) ?_));all_goals
    have hq:dh r=(fJ r r.needs[i]!,((i:Nat):Int)):=by
     exact AG (by rw[hr,iw (by omega) hc1]) hc1
    rw[hq];first|done|rfl
  refine bB ?_;exact⟨i+1,⟨by omega,by rw[hr,lz (by omega) hc1]⟩,by omega,(cS [(0,0)])⟩
 refine ax ?_;have hn0:lW r=(0,0):=by rw[hr,lx (by omega)]
 refine ar ?_;refine aY hm (ι:=Nat) (fun i=>[.un,.un,.un,.un,⟨true,.ptr 0 9 0 0⟩,.un,.un,.un,⟨true,.int .i64 (i:Nat)⟩,.un,.un,.un,.un,.un,.un,.un,.un]) (fun i=>[(0,.buf 9 [Rec.D r])]) 10 (fun i=>i≤r.bars.length∧qL r=gr (fun i=>nP r r.bars[i]!) i r.bars.length) (fun i=>r.bars.length-i) 0 ⟨by omega,rfl⟩ (cS [(0,0)]) ?_;rintro i ⟨hi,hr⟩;refine aA ?_;intro u1;refine ar ?_;refine cd (fun hc2=>?_) fun hc2=>?_
 ·refine aV ?_;refine bJ i ?_;first|refine bD (v:=(ec.D _)) ?_|refine dM (v:=(ec.D _)) ?_
  refine ak (hc:=h458 r r.bars[i]! (hp0.2.2.1 _ (bA (by omega)))) ?_;refine aA ?_;refine fm (fun hc3=>?_) fun hc3=>?_
  ·refine cR ?_;refine bC (aF (congrArg (D.int .i64) ?_) (congrArg (D.int .i64) ?_));all_goals
    have hq:dh r=(nP r r.bars[i]!,((i:Nat):Int)):=by
     exact vy hn0 (by rw[hr,iw (by omega) hc3]) hc3
    rw[hq];first|done|rfl
  refine bB ?_;exact⟨i+1,⟨by omega,by rw[hr,lz (by omega) hc3]⟩,by omega,(cS [(0,0)])⟩
 refine ax ?_;have hb0:qL r=(0,0):=by rw[hr,lx (by omega)]
 refine ar ?_;refine ak (hc:=h459 r.feats hp0.2.2.2) ?_;refine ar ?_;refine aq (fun hc4=>?_) (fun hc4=>?_)
 ·try simp only[gJ]at hc4
  refine aA ?_;refine bC (aF (congrArg (D.int .i64) ?_) (congrArg (D.int .i64) ?_));all_goals
   have hq:dh r=(11,0):=by
    exact AH hn0 hb0 hc4
   rw[hq];first|done|rfl
 simp only[Bool.not_eq_false']at hc4;refine aJ ?_;refine aY hm (ι:=Nat) (fun i=>[.un,.un,.un,.un,⟨true,.ptr 0 9 0 0⟩,.un,.un,.un,.un,.un,.un,.un,.un,⟨true,.int .i64 (i:Nat)⟩,.un,.un,.un]) (fun i=>[(0,.buf 9 [Rec.D r])]) 20 (fun i=>i≤r.feats.length∧yL r=gr (fun i=>iY r r.feats[i]!.of) i r.feats.length) (fun i=>r.feats.length-i) 0 ⟨by omega,rfl⟩ (cS [(0,0)]) ?_;rintro i ⟨hi,hr⟩;refine aA ?_;intro u2;refine ar ?_;refine cd (fun hc5=>?_) fun hc5=>?_
 ·refine aV ?_;refine bJ i ?_;refine ar ?_;refine ak (hc:=h460 r r.feats[i]!.of (hp0.2.2.2 _ (bA (by omega))).2.2) ?_;refine aA ?_;refine fm (fun hc6=>?_) fun hc6=>?_
  ·refine cR ?_;refine bC (aF (congrArg (D.int .i64) ?_) (congrArg (D.int .i64) ?_));all_goals
    have hq:dh r=(iY r r.feats[i]!.of,((i:Nat):Int)):=by
     exact rv hn0 hb0 hc4 (by rw[hr,iw (f:=(fun i=>iY r r.feats[i]!.of)) (by omega) hc6])
    rw[hq];first|done|rfl
  refine bB ?_;exact⟨i+1,⟨by omega,by rw[hr,lz (f:=(fun i=>iY r r.feats[i]!.of)) (by omega) hc6]⟩,by omega,(cS [(0,0)])⟩
 refine aV ?_;refine bC (aF (congrArg (D.int .i64) ?_) (congrArg (D.int .i64) ?_));all_goals
  have hq:dh r=(0,0):=by
   exact rv hn0 hb0 hc4 (by rw[hr,lx (by omega)])
  rw[hq];first|done|rfl
def Nq (Γ:Ctx):Prop:=∀(r:Rec),(gA r)→Γ.pre 218 [Rec.D r]∧Γ.val 218 [Rec.D r]=.tup [.int .i64 (dh r).1,.int .i64 (dh r).2]
def AY:aB:=⟨1,11,[⟨1,none⟩,⟨2,none⟩],gQ,(sq (rg [gb 9 s0,gm bh,gm bh] [(3,0),(1,1),(2,2)]) (sq (.block 0 (sq (r1 [gf 0 s3,gd l0,gx 216 [l1] bO,ix l2,gm l3] 4 4) (.cond s4 (sq (rg [gm tA,gm bh] [(1,0),(2,1)]) .ret) (sq (r1 [gf 1 s3,gk 5 true l0,gx 217 [l1] EJ,ix l2,gm l3] 5 4) (.cond s5 (sq (rg [gm B4,gm bh] [(1,0),(2,1)]) .ret) (sq (r1 [gf 6 s3,gd l0,gl l1,cB l2 B5,gm l3,hH 4 7 s3,hY 4 l5,bT 4 (.len l6),bT 4 (dz l7 B5),ea l4 l8,gm l9] 6 10) (.cond s6 (sq (rg [gm jG,gm bh] [(1,0),(2,1)]) .ret) .skip))))))) (sq (sq (rg [gk 9 true s3,gx 218 [l0] [[.a,.a,.a,.a,.a,.a,.sl 3 [.sl 4 [.a,.a,.sl 1 [.a],.a],.a,.a],.sl 3 [.a,.a,.a],.sl 2 [.a,.sl 1 [.a]]]],gm l1,ge l2 0,ge l2 1,gm l3,gm l4] [(7,5),(9,6)]) (sq (r1 [gm s7,bN l0 bh] 8 1) (.cond s8 (sq (rg [gm s7,gm s9,gm l0,gm l1] [(1,2),(2,3)]) .ret) .skip))) (sq (sq (r1 [gk 9 true s3,gx 219 [l0] [[.a,.a,.a,.a,.a,.a,.sl 3 [.sl 4 [.a,.a,.sl 1 [.a],.a],.a,.a],.sl 3 [.a,.a,.a],.sl 2 [.a,.sl 1 [.a]]]],m9 l1,cB l2 (i6 4096)] 10 3) (.cond jx (sq (rg [gm jG,gm bh] [(1,0),(2,1)]) .ret) .skip)) (sq (rg [gm bh,gm bh] [(1,0),(2,1)]) .ret)))))⟩
def w71 {Γ:Ctx}(hm:(Γ.at 0).a8)(h216:FX Γ)(h217:FY Γ)(h218:Nq Γ)(h219:Nr Γ)(r:Rec)  (hp0:gA r):dq Γ AY (.tup [.int .i64 (bX r).1,.int .i64 (bX r).2]) [Rec.D r]:=by
 show bz _ _ _ [⟨_,_⟩,_,_,_,_,_,_,_,_,_,_] _;refine aj ?_;refine bB ?_;refine ak (hc:=h216 _) ?_;refine av ?_;refine wp_cond (fun hc0=>?_) (fun hc0=>?_)
 ·try simp only[gJ]at hc0
  refine aA ?_;refine bC (aF (congrArg (D.int .i64) ?_) (congrArg (D.int .i64) ?_));all_goals (have hq:bX r=(4,0):=(by rw[bX,if_pos hc0]);rw[hq];first|done|rfl)
 simp only[Bool.not_eq_false']at hc0;refine ar ?_;refine bc (v:=b7.D r.v) ?_;refine ak (hc:=h217 r.v hp0.1.2) ?_;refine av ?_;refine wp_cond (fun hc1=>?_) (fun hc1=>?_)
 ·try simp only[gJ]at hc1
  refine aA ?_;refine bC (aF (congrArg (D.int .i64) ?_) (congrArg (D.int .i64) ?_));all_goals (have hq:bX r=(5,0):=(by rw[bX,if_neg (by simp[hc0]),if_pos hc1]);rw[hq];first|done|rfl)
 simp only[Bool.not_eq_false']at hc1;refine ax ?_;intro u0;refine ax ?_;refine gT ?_;refine ax ?_;refine fm (fun hc2=>?_) fun hc2=>?_
 ·refine aA ?_;refine bC (aF (congrArg (D.int .i64) ?_) (congrArg (D.int .i64) ?_));all_goals (have hq:bX r=(3,0):=(by rw[bX,if_neg (by simp[hc0]),if_neg (by simp[hc1]),if_pos (by omega)]);rw[hq];first|done|rfl)
 refine aJ ?_;refine ak (hc:=h218 r hp0) ?_;refine fM ?_;refine aq (fun hc3=>?_) (fun hc3=>?_)
 ·try simp only[gJ]at hc3
  refine bB ?_;refine bC (aF (congrArg (D.int .i64) ?_) (congrArg (D.int .i64) ?_));all_goals
   have hq:bX r=dh r:=by
    exact mM hc0 hc1 (by omega) (by omega) rfl hc3
   rw[hq];first|done|rfl
 simp only[Bool.not_eq_false',decide_eq_true_eq]at hc3;have hpz:dh r=(0,0):=AI hc3;have hgd:pW r:=⟨⟨hc0,hc1⟩,⟨by omega,by omega⟩,hpz⟩;refine ax ?_;refine ak (hc:=h219 r ⟨hgd,hp0⟩) ?_;refine aC ?_;intro u1;refine ar ?_;refine cd (fun hc4=>?_) fun hc4=>?_
 ·refine aA ?_;refine bC (aF (congrArg (D.int .i64) ?_) (congrArg (D.int .i64) ?_));all_goals
   have hq:bX r=(3,0):=by
    rw[qQ hc0 hc1 (by omega) (by omega) hpz,if_pos (by omega)]
   rw[hq];first|done|rfl
 refine aA ?_;refine bC (aF (congrArg (D.int .i64) ?_) (congrArg (D.int .i64) ?_));all_goals
  have hq:bX r=(0,0):=by
   rw[qQ hc0 hc1 (by omega) (by omega) hpz,if_neg (by omega)]
  rw[hq];first|done|rfl
def C71 (Γ:Ctx):Prop:=∀(r:Rec),(gA r)→Γ.pre 71 [Rec.D r]∧Γ.val 71 [Rec.D r]=.tup [.int .i64 (bX r).1,.int .i64 (bX r).2]
end Go.Abs
end
section
namespace Go.Abs
open Go
def vM:aB:=⟨2,5,[⟨2,none⟩],bO,(sq (rg [gb 4 s0,gb 4 s1,gm ct] [(3,0),(4,1),(2,2)]) (sq (r1 [gf 0 s3,gd l0,gf 0 s4,gd l2,aG l1 l3,gm l4,kA 5 1 s3,iO 5 l6,kA 5 1 s4,iO 5 l8,bZ 5 (ca l7 l9),dZ l5 l10,gm fI,kA 12 3 s3,iO 12 iQ,kA 12 3 s4,iO 12 kB,bZ 12 (.eqA false false [.b] jt mE),dZ gV nU,gm oB,kA 19 2 s3,iO 19 ua,kA 19 2 s4,iO 19 xA,bZ 19 (.call 226 [wP,BC] [[.sl 1 [.a]],[.sl 1 [.a]]]),dZ pY BD,gm B8] 2 26) .ret))⟩
def w477 {Γ:Ctx}(hm:(Γ.at 0).a8)(h226:KO Γ)(a:bm)(b:bm)   :dq Γ vM (.bool (decide (a=b))) [bm.D a,bm.D b]:=by
 show bz _ _ _ [⟨_,_⟩,⟨_,_⟩,_,_,_] _;refine aj ?_;refine KH ?_;refine P6 (hb:=eqBb _ _) ?_;refine aA ?_;refine ak (hc:=h226 _ _) ?_;refine ax ?_;refine br ?_;rw[bm.tp a b]
def NT (Γ:Ctx):Prop:=∀(a:bm)(b:bm),Γ.pre 477 [bm.D a,bm.D b]∧Γ.val 477 [bm.D a,bm.D b]=.bool (decide (a=b))
def vL:aB:=⟨2,9,[⟨2,none⟩],bO,(sq (rg [gb 3 s0,gb 3 s1,gm ct] [(3,0),(4,1),(2,2)]) (sq (sq (r1 [gf 1 s3,gd l0,gf 1 s4,gd l2,bN l1 l3,gm l4,hH 5 2 s3,hY 5 l6,hH 5 2 s4,hY 5 l8,bT 5 (dC l7 l9),ea l5 l10,gm fI,hH 12 0 s3,hY 12 iQ,bT 12 (.len jt),hH 12 0 s4,hY 12 mE,bT 12 (.len nU),bT 12 (dC kB oB),ea gV pY] 5 20) (.cond s5 (sq (r1 [gm ct] 2 0) .ret) .skip)) (sq (sq (r1 [gm bh] 6 0) (.block 0 (.loop (sq (sq (r1 [gm s6,gf 0 s3,gd l1,gl l2,aN l0 l3] 7 4) (eN s7 0)) (sq (.block 1 (sq (r2 [gf 0 s3,gd l0,gm s6,ga 4 l1 l2,gk 4 true l3,gf 0 s4,gd l5,gm s6,ga 4 l6 l7,gk 4 true l8,gx 477 [l4,l9] [[.a,.a,.sl 1 [.a],.a],[.a,.a,.sl 1 [.a],.a]],ix l10] 8 11) (.cond s8 (sq (r1 [gm ct] 2 0) .ret) .skip))) (r1 [gm s6,au l0 bR,gm l1] 6 2)))))) (sq (r1 [gm me] 2 0) .ret))))⟩
def w225 {Γ:Ctx}(hm:(Γ.at 0).a8)(h477:NT Γ)(a:aP)(b:aP)   :dq Γ vL (.bool (decide (a=b))) [aP.D a,aP.D b]:=by
 show bz _ _ _ [⟨_,_⟩,⟨_,_⟩,_,_,_,_,_,_,_] _;refine aj ?_;refine QN ?_;refine gT ?_;refine ar ?_;refine gT ?_;refine av ?_;refine aq (fun hc0=>?_) (fun hc0=>?_)
 ·simp only[Bool.or_eq_true,Bool.not_eq_true',decide_eq_false_iff_not]at hc0;refine aJ ?_;refine br ?_;symm;rw[decide_eq_false_iff_not];rintro rfl;simp at hc0
 simp only[Bool.or_eq_false_iff,Bool.not_eq_false',decide_eq_true_eq]at hc0;refine aJ ?_;have hb:=aP.Ql hc0.1.1 hc0.1.2 (by omega);refine aY hm (ι:=Nat) (fun i=>[.un,.un,.un,⟨true,.ptr 0 3 0 0⟩,⟨true,.ptr 1 3 0 0⟩,.un,⟨true,.int .i64 (i:Nat)⟩,.un,.un]) (fun i=>[(0,.buf 3 [aP.D a]),(1,.buf 3 [aP.D b])]) 25 (fun i=>i≤a.any.length∧decide (a=b)=b8 (fun i=>decide (a.any[i]! =b.any[i]!)) i a.any.length) (fun i=>a.any.length-i) 0 ⟨by omega,hb⟩ (cS [(0,0),(1,1)]) ?_;rintro i ⟨hi,hr⟩;refine aA ?_;intro u0;refine ar ?_;refine cd (fun hc1=>?_) fun hc1=>?_
 ·refine aV ?_;first|refine bD (v:=(bm.D _)) ?_|refine dM (v:=(bm.D _)) ?_
  refine ax ?_;first|refine bD (v:=(bm.D _)) ?_|refine dM (v:=(bm.D _)) ?_
  refine ak (hc:=h477 _ _) ?_;refine ar ?_;refine wp_cond (fun hc2=>?_) (fun hc2=>?_)
  ·simp only[Bool.not_eq_true',decide_eq_false_iff_not]at hc2;refine aA ?_;refine br ?_;rw[hr,aH (by omega),decide_eq_false hc2];rfl
  simp only[Bool.not_eq_false',decide_eq_true_eq]at hc2;refine bB ?_;exact⟨i+1,⟨by omega,by rw[hr,aH (by omega),decide_eq_true hc2];rfl⟩,by omega,(cS [(0,0),(1,1)])⟩
 refine aA ?_;refine br ?_;rw[hr,bE (by omega)]
def Nu (Γ:Ctx):Prop:=∀(a:aP)(b:aP),Γ.pre 225 [aP.D a,aP.D b]∧Γ.val 225 [aP.D a,aP.D b]=.bool (decide (a=b))
def CA:aB:=⟨2,15,[⟨2,none⟩],bO,(sq (rg [gb 9 s0,gb 9 s1,gm ct] [(3,0),(4,1),(2,2)]) (sq (sq (r1 [gf 0 s3,gd l0,gf 0 s4,gd l2,bN l1 l3,gm l4,hH 5 1 s3,bT 5 (.ld 5 true l6),hH 5 1 s4,bT 5 (.ld 5 true l8),bT 5 (.eqA true true [.i .i64,.i .i64,.i .i64,.s,.s] l7 l9),ea l5 l10,gm fI,hH 12 6 s3,hY 12 iQ,bT 12 (.len jt),hH 12 6 s4,hY 12 mE,bT 12 (.len nU),bT 12 (dC kB oB),ea gV pY,gm ua,hH 21 7 s3,hY 21 xA,bT 21 (.len BC),hH 21 7 s4,hY 21 B8,bT 21 (.len FK),bT 21 (dC BD GQ),ea wP Jt,gm Ju,hH 30 8 s3,hY 30 MV,bT 30 (.len MW),hH 30 8 s4,hY 30 l34,bT 30 (.len l35),bT 30 (dC l33 l36),ea L6 l37] 5 38) (.cond s5 (sq (r1 [gm ct] 2 0) .ret) .skip)) (sq (sq (r1 [gm bh] 6 0) (.block 0 (.loop (sq (sq (r1 [gm s6,gf 6 s3,gd l1,gl l2,aN l0 l3] 7 4) (eN s7 0)) (sq (.block 1 (sq (r2 [gf 6 s3,gd l0,gm s6,ga 3 l1 l2,gk 3 true l3,gf 6 s4,gd l5,gm s6,ga 3 l6 l7,gk 3 true l8,gx 225 [l4,l9] [[.sl 4 [.a,.a,.sl 1 [.a],.a],.a,.a],[.sl 4 [.a,.a,.sl 1 [.a],.a],.a,.a]],ix l10] 8 11) (.cond s8 (sq (r1 [gm ct] 2 0) .ret) .skip))) (r1 [gm s6,au l0 bR,gm l1] 6 2)))))) (sq (sq (r1 [gm bh] 9 0) (.block 2 (.loop (sq (sq (r1 [gm s9,gf 7 s3,gd l1,gl l2,aN l0 l3] 10 4) (eN jx 2)) (sq (.block 3 (sq (r2 [gf 7 s3,gd l0,gm s9,ga 3 l1 l2,gk 3 true l3,gf 7 s4,gd l5,gm s9,ga 3 l6 l7,gk 3 true l8,gn (.eqA true true [.s,.s,.s] l4 l9)] 11 10) (.cond mc (sq (r1 [gm ct] 2 0) .ret) .skip))) (r1 [gm s9,au l0 bR,gm l1] 9 2)))))) (sq (sq (r1 [gm bh] 12 0) (.block 4 (.loop (sq (sq (r1 [gm lY,gf 8 s3,gd l1,gl l2,aN l0 l3] 13 4) (eN pP 4)) (sq (.block 5 (sq (r2 [gf 8 s3,gd l0,gm lY,ga 2 l1 l2,gf 0 l3,gd l4,gf 8 s4,gd l6,gm lY,ga 2 l7 l8,gf 0 l9,gd l10,bN l5 fI,gm gV,hH 13 8 s3,hY 13 jt,dH 13 lY,bT 13 (.ia 2 kB mE),hH 13 1 nU,hY 13 oB,hH 13 8 s4,hY 13 ua,dH 13 lY,bT 13 (.ia 2 wP xA),hH 13 1 BC,hY 13 BD,bT 13 (.call 226 [pY,B8] [[.sl 1 [.a]],[.sl 1 [.a]]]),bT 13 (.un .not FK),ea iQ GQ] 14 28) (.cond tn (sq (r1 [gm ct] 2 0) .ret) .skip))) (r1 [gm lY,au l0 bR,gm l1] 12 2)))))) (sq (r1 [gm me] 2 0) .ret))))))⟩
def w78 {Γ:Ctx}(hm:(Γ.at 0).a8)(h225:Nu Γ)(h226:KO Γ)(a:Rec)(b:Rec)   :dq Γ CA (.bool (decide (a=b))) [Rec.D a,Rec.D b]:=by
 show bz _ _ _ [⟨_,_⟩,⟨_,_⟩,_,_,_,_,_,_,_,_,_,_,_,_,_] _;refine aj ?_;refine kv ?_;refine bc (v:=(b7.D _)) ?_;refine aC ?_;refine bc (v:=(b7.D _)) ?_;refine KA (hb:=b7.eq _ _) ?_;refine ax ?_;refine gT ?_;refine ar ?_;refine gT ?_;refine aJ ?_;refine gT ?_;refine ar ?_;refine gT ?_;refine aJ ?_;refine gT ?_;refine ar ?_;refine gT ?_;refine av ?_;refine aq (fun hc0=>?_) (fun hc0=>?_)
 ·simp only[Bool.or_eq_true,Bool.not_eq_true',decide_eq_false_iff_not]at hc0;refine aJ ?_;refine br ?_;symm;rw[decide_eq_false_iff_not];rintro rfl;simp at hc0
 simp only[Bool.or_eq_false_iff,Bool.not_eq_false',decide_eq_true_eq]at hc0;refine aJ ?_;have hb:=m3 (show a.needs.length=b.needs.length by omega);refine aY hm (ι:=Nat) (fun i=>[.un,.un,.un,⟨true,.ptr 0 9 0 0⟩,⟨true,.ptr 1 9 0 0⟩,.un,⟨true,.int .i64 (i:Nat)⟩,.un,.un,.un,.un,.un,.un,.un,.un]) (fun i=>[(0,.buf 9 [Rec.D a]),(1,.buf 9 [Rec.D b])]) 43 (fun i=>i≤a.needs.length∧decide (a.needs=b.needs)=b8 (fun i=>decide (a.needs[i]! =b.needs[i]!)) i a.needs.length) (fun i=>a.needs.length-i) 0 ⟨by omega,hb⟩ (cS [(0,0),(1,1)]) ?_;rintro i ⟨hi,hr⟩;refine aA ?_;intro u0;refine ar ?_;refine cd (fun hc1=>?_) fun hc1=>?_
 ·refine aV ?_;first|refine bD (v:=(aP.D _)) ?_|refine dM (v:=(aP.D _)) ?_
  refine ax ?_;first|refine bD (v:=(aP.D _)) ?_|refine dM (v:=(aP.D _)) ?_
  refine ak (hc:=h225 _ _) ?_;refine ar ?_;refine wp_cond (fun hc2=>?_) (fun hc2=>?_)
  ·simp only[Bool.not_eq_true',decide_eq_false_iff_not]at hc2;refine aA ?_;refine br ?_;have hd:decide (a.needs=b.needs)=false:=by rw[hr,aH (by omega),decide_eq_false hc2];rfl
   rw[Rec.tp a b,hd];simp
  simp only[Bool.not_eq_false',decide_eq_true_eq]at hc2;refine bB ?_;exact⟨i+1,⟨by omega,by rw[hr,aH (by omega),decide_eq_true hc2];rfl⟩,by omega,(cS [(0,0),(1,1)])⟩
 refine ax ?_;have hn:decide (a.needs=b.needs)=true:=by rw[hr,bE (by omega)]
 refine ar ?_;have hb:=m3 (show a.bars.length=b.bars.length by omega);refine aY hm (ι:=Nat) (fun i=>[.un,.un,.un,⟨true,.ptr 0 9 0 0⟩,⟨true,.ptr 1 9 0 0⟩,.un,.un,.un,.un,⟨true,.int .i64 (i:Nat)⟩,.un,.un,.un,.un,.un]) (fun i=>[(0,.buf 9 [Rec.D a]),(1,.buf 9 [Rec.D b])]) 49 (fun i=>i≤a.bars.length∧decide (a.bars=b.bars)=b8 (fun i=>decide (a.bars[i]! =b.bars[i]!)) i a.bars.length) (fun i=>a.bars.length-i) 0 ⟨by omega,hb⟩ (cS [(0,0),(1,1)]) ?_;rintro i ⟨hi,hr⟩;refine aA ?_;intro u1;refine ar ?_;refine cd (fun hc3=>?_) fun hc3=>?_
 ·refine aV ?_;first|refine bD (v:=(ec.D _)) ?_|refine dM (v:=(ec.D _)) ?_
  refine ax ?_;first|refine bD (v:=(ec.D _)) ?_|refine dM (v:=(ec.D _)) ?_
  refine KA (hb:=ec.eq _ _) ?_;refine aC ?_;refine wp_cond (fun hc4=>?_) (fun hc4=>?_)
  ·simp only[Bool.not_eq_true',decide_eq_false_iff_not]at hc4;refine aA ?_;refine br ?_;have hd:decide (a.bars=b.bars)=false:=by rw[hr,aH (by omega),decide_eq_false hc4];rfl
   rw[Rec.tp a b,hd];simp
  simp only[Bool.not_eq_false',decide_eq_true_eq]at hc4;refine bB ?_;exact⟨i+1,⟨by omega,by rw[hr,aH (by omega),decide_eq_true hc4];rfl⟩,by omega,(cS [(0,0),(1,1)])⟩
 refine ax ?_;have hbr:decide (a.bars=b.bars)=true:=by rw[hr,bE (by omega)]
 refine ar ?_;have hb:=m3 (show a.feats.length=b.feats.length by omega);refine aY hm (ι:=Nat) (fun i=>[.un,.un,.un,⟨true,.ptr 0 9 0 0⟩,⟨true,.ptr 1 9 0 0⟩,.un,.un,.un,.un,.un,.un,.un,⟨true,.int .i64 (i:Nat)⟩,.un,.un]) (fun i=>[(0,.buf 9 [Rec.D a]),(1,.buf 9 [Rec.D b])]) 55 (fun i=>i≤a.feats.length∧decide (a.feats=b.feats)=b8 (fun i=>decide (a.feats[i]! =b.feats[i]!)) i a.feats.length) (fun i=>a.feats.length-i) 0 ⟨by omega,hb⟩ (cS [(0,0),(1,1)]) ?_;rintro i ⟨hi,hr⟩;refine aA ?_;intro u2;refine ar ?_;refine cd (fun hc5=>?_) fun hc5=>?_
 ·refine QQ ?_;refine ak (hc:=h226 _ _) ?_;refine av ?_;refine wp_cond (fun hc6=>?_) (fun hc6=>?_)
  ·simp only[Bool.or_eq_true,Bool.not_eq_true',decide_eq_false_iff_not]at hc6;replace hc6:¬a.feats[i]! =b.feats[i]! :=fun e=>by rw[e]at hc6;simp at hc6
   refine aA ?_;refine br ?_;have hd:decide (a.feats=b.feats)=false:=by rw[hr,aH (by omega),decide_eq_false hc6];rfl
   rw[Rec.tp a b,hd];simp
  simp only[Bool.or_eq_false_iff,Bool.not_eq_false',decide_eq_true_eq]at hc6;replace hc6:a.feats[i]! =b.feats[i]! :=bd.eq2 hc6.1 hc6.2;refine bB ?_;exact⟨i+1,⟨by omega,by rw[hr,aH (by omega),decide_eq_true hc6];rfl⟩,by omega,(cS [(0,0),(1,1)])⟩
 refine aA ?_;refine br ?_;have hf:decide (a.feats=b.feats)=true:=by rw[hr,bE (by omega)]
 rw[Rec.tp a b,hn,hbr,hf,decide_eq_true hc0.1.1.1.1,decide_eq_true hc0.1.1.1.2];rfl
def C78 (Γ:Ctx):Prop:=∀(a:Rec)(b:Rec),Γ.pre 78 [Rec.D a,Rec.D b]∧Γ.val 78 [Rec.D a,Rec.D b]=.bool (decide (a=b))
end Go.Abs
end
section
namespace Go.Abs
open Go
def zm:aB:=⟨1,7,gG,bO,(sq (rg [gb 4 s0,gm cse] [(2,0),(1,1)]) (sq (rg [gm (cs [45]),gm (cs [102,117,108,108])] [(5,0),(6,1)]) (sq (sq (r1 [gf 2 s2,gd l0,gl l1,cB l2 bh] 3 3) (.cond s3 (r1 [gf 2 s2,gd l0,gx 249 [l1,(i8 44)] [[.sl 1 [.a]],[.a]],gm l2] 5 3) .skip)) (sq (sq (r1 [gf 3 s2,gd l0] 4 1) (.cond s4 (r1 [gm (cs [98,97,114,101])] 6 0) .skip)) (sq (r1 [gf 0 s2,gd l0,au (cs [97,110,121,32]) l1,au l2 (cs [32]),gm s5,au l3 l4,au l5 (cs [32]),gm s6,au l6 l7,au l8 (cs [32]),gf 1 s2,gd l10,au l9 fI,au gV (cs [10]),gm iQ] 1 14) .ret)))))⟩
def w461 {Γ:Ctx}(hm:(Γ.at 0).a8)(h249:FZ Γ)(w:bm)  (hp0:w.fit):dq Γ zm (.str (gE w)) [bm.D w]:=by
 show bz _ _ _ [⟨_,_⟩,_,_,_,_,_,_] _;have q1:=wx hp0;have q2:=hp0.1.1.1;have q3:=hp0.1.1.2;refine aj ?_;refine gZ ?_;intro u0;refine ar ?_;refine cd (fun hc0=>?_) fun hc0=>?_
 ·refine av ?_;refine ak (hc:=h249 w.feats 44 (by omega)) ?_;refine aV ?_;refine cd (fun hc1=>?_) fun hc1=>?_
  ·refine aA ?_;refine eM ?_;refine eM ?_;refine aC ?_;refine eM ?_;refine eM ?_;refine aC ?_;refine eM ?_;refine eM ?_;refine ar ?_;refine eM ?_;refine eM ?_;refine av ?_;refine ch ?_;all_goals
    simp only[gE,bY,oX,aM,fj,kt,cV];first|rw[if_pos (show w.feats.length=0 by omega)]|rw[if_neg (show ¬w.feats.length=0 by omega)]
    simp[hc1]
  refine ax ?_;refine eM ?_;refine eM ?_;refine aC ?_;refine eM ?_;refine eM ?_;refine aC ?_;refine eM ?_;refine eM ?_;refine ar ?_;refine eM ?_;refine eM ?_;refine av ?_;refine ch ?_;all_goals
   simp only[gE,bY,oX,aM,fj,kt,cV];first|rw[if_pos (show w.feats.length=0 by omega)]|rw[if_neg (show ¬w.feats.length=0 by omega)]
   simp[hc1]
 refine aA ?_;refine cd (fun hc1=>?_) fun hc1=>?_
 ·refine aA ?_;refine eM ?_;refine eM ?_;refine aC ?_;refine eM ?_;refine eM ?_;refine aC ?_;refine eM ?_;refine eM ?_;refine ar ?_;refine eM ?_;refine eM ?_;refine av ?_;refine ch ?_;all_goals
   simp only[gE,bY,oX,aM,fj,kt,cV];first|rw[if_pos (show w.feats.length=0 by omega)]|rw[if_neg (show ¬w.feats.length=0 by omega)]
   simp[hc1]
 refine ax ?_;refine eM ?_;refine eM ?_;refine aC ?_;refine eM ?_;refine eM ?_;refine aC ?_;refine eM ?_;refine eM ?_;refine ar ?_;refine eM ?_;refine eM ?_;refine av ?_;refine ch ?_;all_goals
  simp only[gE,bY,oX,aM,fj,kt,cV];first|rw[if_pos (show w.feats.length=0 by omega)]|rw[if_neg (show ¬w.feats.length=0 by omega)]
  simp[hc1]
def NP (Γ:Ctx):Prop:=∀(w:bm),(w.fit)→Γ.pre 461 [bm.D w]∧Γ.val 461 [bm.D w]=.str (gE w)
def CF:aB:=⟨1,3,gG,bO,(sq (r1 [gm cse] 1 0) (sq (sq (r1 [gm s0,aG l0 cse] 2 1) (lA s2 cse)) (sq (r1 [gm s0,au (cs [119,104,101,110,32]) l0,au l1 (cs [10]),gm l2] 1 3) .ret)))⟩
def w462 {Γ:Ctx}(hm:(Γ.at 0).a8)  (s:ai)  (hp0:s.length≤1048576):dq Γ CF (.str (gX s)) [.str s]:=by
 show bz _ _ _ [⟨_,_⟩,_,_] _;refine aj ?_;refine aV ?_;refine cd (fun hc0=>?_) fun hc0=>?_
 ·refine aJ ?_;refine ch ?_;rw[gX,if_pos hc0]
 refine av ?_;refine eM ?_;refine eM ?_;refine av ?_;refine ch ?_;rw[gX,if_neg hc0];simp[bY,aM,ek]
def NQ (Γ:Ctx):Prop:=∀(s:ai),(s.length≤1048576)→Γ.pre 462 [.str s]∧Γ.val 462 [.str s]=.str (gX s)
end Go.Abs
end
section
namespace Go.Abs
open Go
def CE:aB:=⟨1,13,gG,bO,(sq (rg [gb 9 s0,gm cse] [(2,0),(1,1)]) (sq (r2 [gf 0 s2,gd l0,au (cs [112,97,99,107,97,103,101,32]) l1,au l2 (cs [32]),gf 1 s2,gk 5 true l4,gx 316 [l5] EJ,au l3 l6,au l7 (cs [10]),gm l8] 5 9) (sq (sq (r1 [gm bh] 3 0) (.block 0 (.loop (sq (sq (r1 [gm s3,gf 6 s2,gd l1,gl l2,aN l0 l3] 4 4) (eN s4 0)) (sq (.block 1 (sq (r1 [gm s5,au l0 (cs [110,101,101,100,10]),gm l1] 5 2) (sq (sq (r1 [gm bh] 6 0) (.block 2 (.loop (sq (sq (r1 [gm s6,gf 6 s2,gd l1,gm s3,ga 3 l2 l3,gf 0 l4,gd l5,gl l6,aN l0 l7] 7 8) (eN s7 2)) (sq (.block 3 (r1 [gm s5,gf 6 s2,gd l1,gm s3,ga 3 l2 l3,gf 0 l4,gd l5,gm s6,ga 4 l6 l7,gk 4 true l8,gx 461 [l9] [[.a,.a,.sl 1 [.a],.a]],au l0 l10,gm fI] 5 12)) (r1 [gm s6,au l0 bR,gm l1] 6 2)))))) (sq (r1 [gm s5,gf 6 s2,gd l1,gm s3,ga 3 l2 l3,gf 1 l4,gd l5,gx 462 [l6] bO,au l0 l7,gm l8] 5 9) (sq (r1 [gf 6 s2,gd l0,gm s3,ga 3 l1 l2,gf 2 l3,gd l4,bN l5 cse] 8 6) (.cond s8 (r1 [gm s5,au l0 (cs [111,112,116,105,111,110,32]),gf 6 s2,gd l2,gm s3,ga 3 l3 l4,gf 2 l5,gd l6,au l1 l7,au l8 (cs [10]),gm l9] 5 10) .skip)))))) (r1 [gm s3,au l0 bR,gm l1] 3 2)))))) (sq (sq (r1 [gm bh] 9 0) (.block 4 (.loop (sq (sq (r1 [gm s9,gf 7 s2,gd l1,gl l2,aN l0 l3] 10 4) (eN jx 4)) (sq (.block 5 (r2 [gm s5,au l0 (cs [98,97,114,32]),gf 7 s2,gd l2,gm s9,ga 3 l3 l4,gf 0 l5,gd l6,au l1 l7,au l8 (cs [32]),gf 7 s2,gd l10,gm s9,ga 3 fI gV,gf 1 iQ,gd jt,au l9 kB,au mE (cs [10]),gf 7 s2,gd oB,gm s9,ga 3 pY ua,gf 2 wP,gd xA,gx 462 [BC] bO,au nU BD,gm B8] 5 26)) (r1 [gm s9,au l0 bR,gm l1] 9 2)))))) (sq (sq (r1 [gm bh] 11 0) (.block 6 (.loop (sq (sq (r1 [gm mc,gf 8 s2,gd l1,gl l2,aN l0 l3] 12 4) (eN lY 6)) (sq (.block 7 (r2 [gm s5,gf 8 s2,gd l1,gm mc,ga 2 l2 l3,gf 0 l4,gd l5,gn (.bsl 1 (.str []) 2 [(0,(cs [102,101,97,116,117,114,101])),(1,l6)]),gf 8 s2,gd l8,gm mc,ga 2 l9 l10,gf 1 fI,gd gV,gn (.app 1 l7 iQ),gx 249 [jt,(i8 32)] [[.sl 1 [.a]],[.a]],au l0 kB,au mE (cs [10]),gm nU] 5 18)) (r1 [gm mc,au l0 bR,gm l1] 11 2)))))) (sq (r1 [gm s5,gm l0] 1 1) .ret))))))⟩
def w219 {Γ:Ctx}(hm:(Γ.at 0).a8)(h249:FZ Γ)(h316:Ny Γ)(h461:NP Γ)(h462:NQ Γ)(r:Rec)  (hp0:pW r∧gA r):dq Γ CE (.str (nN r)) [Rec.D r]:=by
 show bz _ _ _ [⟨_,_⟩,_,_,_,_,_,_,_,_,_,_,_,_] _;have hft:=xw hp0;have q0:=hft.nm;have q00:=wm r.v hft.v;refine aj ?_;refine aA ?_;refine eM ?_;refine eM ?_;refine aC ?_;refine bc (v:=b7.D r.v) ?_;refine ak (hc:=h316 r.v hft.v) ?_;refine eM ?_;refine eM ?_;refine aA ?_;refine aY hm (ι:=Nat) (fun i=>[.un,.un,⟨true,.ptr 0 9 0 0⟩,⟨true,.int .i64 (i:Nat)⟩,.un,⟨true,.str (iR r i)⟩,.un,.un,.un,.un,.un,.un,.un]) (fun i=>[(0,.buf 9 [Rec.D r])]) 13 (fun i=>i≤r.needs.length) (fun i=>r.needs.length-i) 0 (by omega) (aX.to [(0,0)] ae ae (by repeat(first|exact de.nil|refine de.un ?_|refine de.eq ae ?_|refine de.nl (congrArg D.str (by rw[Ic];simp[pX,bY,aM,cL])) ae ?_)) qy) ?_;intro i hi;have q1:=zy hft i hi;refine aA ?_;intro u0;refine ar ?_;refine cd (fun hc0=>?_) fun hc0=>?_
 ·refine av ?_;have hnf:=hft.n _ (bA (show i<r.needs.length by omega));have hn3:=hnf.1.1;refine aC ?_;refine eM ?_;refine aA ?_;refine aY hm (ι:=Nat) (fun j=>[.un,.un,⟨true,.ptr 0 9 0 0⟩,⟨true,.int .i64 (i:Nat)⟩,.un,⟨true,.str (iR r i++cQ r.needs[i]! j)⟩,⟨true,.int .i64 (j:Nat)⟩,.un,.un,.un,.un,.un,.un]) (fun j=>[(0,.buf 9 [Rec.D r])]) 22 (fun j=>j≤r.needs[i]!.any.length) (fun j=>r.needs[i]!.any.length-j) 0 (by omega) (aX.to [(0,0)] ae ae (by repeat(first|exact de.nil|refine de.un ?_|refine de.eq ae ?_|refine de.nl (congrArg D.str (by rw[Jx])) ae ?_)) qy) ?_;intro j hj;have q2:=xF hnf j (by omega);refine gF ?_;intro u1;refine ar ?_;refine cd (fun hc1=>?_) fun hc1=>?_
  ·refine av ?_;have hwf:=hnf.1.2 _ (bA (show j<r.needs[i]!.any.length by omega));have q3:=sO hwf;refine cR ?_;first|refine bD (v:=(bm.D _)) ?_|refine dM (v:=(bm.D _)) ?_
   refine ak (hc:=h461 r.needs[i]!.any[j]! hwf) ?_;refine eM ?_;refine cR ?_;exact⟨j+1,(by omega),by omega,(aX.to [(0,0)] ae ae (by repeat(first|exact de.nil|refine de.un ?_|refine de.eq ae ?_|refine de.nl (congrArg D.str (by rw[lV (by omega),List.append_assoc])) ae ?_)) qy)⟩
  refine av ?_;have q4:=lH hnf.2.1;have q5:=hnf.2.2;refine aV ?_;refine ak (hc:=h462 r.needs[i]!.when' hnf.2.1) ?_;refine eM ?_;refine fM ?_;refine fm (fun hc2=>?_) fun hc2=>?_
  ·refine ar ?_;refine eM ?_;refine aA ?_;refine eM ?_;refine eM ?_;refine cR ?_;have hq:iR r (i+1)=iR r i++(cQ r.needs[i]! j++gX r.needs[i]!.when'++ru r.needs[i]!.option):=by rw[kr (by omega),sj (j:=j) (by omega)]
   have ho:ru r.needs[i]!.option=[111,112,116,105,111,110,32]++r.needs[i]!.option++[10]:=by rw[ru,if_neg hc2];simp[bY,aM,cr]
   exact⟨i+1,(by omega),by omega,(aX.to [(0,0)] ae ae (by repeat(first|exact de.nil|refine de.un ?_|refine de.eq ae ?_|refine de.nl (congrArg D.str (by rw[hq,ho];simp only[List.append_assoc])) ae ?_)) qy)⟩
  refine bB ?_;have hq:iR r (i+1)=iR r i++(cQ r.needs[i]! j++gX r.needs[i]!.when'++ru r.needs[i]!.option):=by rw[kr (by omega),sj (j:=j) (by omega)]
  have ho:ru r.needs[i]!.option=[]:=by rw[ru,if_pos hc2]
  exact⟨i+1,(by omega),by omega,(aX.to [(0,0)] ae ae (by repeat(first|exact de.nil|refine de.un ?_|refine de.eq ae ?_|refine de.nl (congrArg D.str (by rw[hq,ho];simp only[List.append_assoc,List.append_nil])) ae ?_)) qy)⟩
 refine ax ?_;have h33:i=r.needs.length:=by omega
 subst h33;refine ar ?_;refine aY hm (ι:=Nat) (fun i=>[.un,.un,⟨true,.ptr 0 9 0 0⟩,.un,.un,⟨true,.str (wh r i)⟩,.un,.un,.un,⟨true,.int .i64 (i:Nat)⟩,.un,.un,.un]) (fun i=>[(0,.buf 9 [Rec.D r])]) 19 (fun i=>i≤r.bars.length) (fun i=>r.bars.length-i) 0 (by omega) (aX.to [(0,0)] ae ae (by repeat(first|exact de.nil|refine de.un ?_|refine de.eq ae ?_|refine de.nl (congrArg D.str (by rw[Ie])) ae ?_)) qy) ?_;intro i hi;have q1:=zz hft i hi;refine aA ?_;intro u2;refine ar ?_;refine cd (fun hc3=>?_) fun hc3=>?_
 ·refine av ?_;have q4:=hft.b _ (bA (show i<r.bars.length by omega));have q5:=q4.1;have q6:=q4.2.1;have q7:=lH q4.2.2;refine aC ?_;refine eM ?_;refine aA ?_;refine eM ?_;refine eM ?_;refine aA ?_;refine eM ?_;refine eM ?_;refine aA ?_;refine ak (hc:=h462 r.bars[i]!.when' q4.2.2) ?_;refine eM ?_;refine cR ?_;have hq:=Bo (r:=r) (i:=i) (by omega);exact⟨i+1,(by omega),by omega,(aX.to [(0,0)] ae ae (by repeat(first|exact de.nil|refine de.un ?_|refine de.eq ae ?_|refine de.nl (congrArg D.str (by rw[hq];simp[yB,bY,aM,fE])) ae ?_)) qy)⟩
 refine ax ?_;have h33:i=r.bars.length:=by omega
 subst h33;refine ar ?_;refine aY hm (ι:=Nat) (fun i=>[.un,.un,⟨true,.ptr 0 9 0 0⟩,.un,.un,⟨true,.str (yl r i)⟩,.un,.un,.un,.un,.un,⟨true,.int .i64 (i:Nat)⟩,.un]) (fun i=>[(0,.buf 9 [Rec.D r])]) 25 (fun i=>i≤r.feats.length) (fun i=>r.feats.length-i) 0 (by omega) (aX.to [(0,0)] ae ae (by repeat(first|exact de.nil|refine de.un ?_|refine de.eq ae ?_|refine de.nl (congrArg D.str (by rw[Ig])) ae ?_)) qy) ?_;intro i hi;have q1:=Ec hft i hi;refine aA ?_;intro u3;refine ar ?_;refine cd (fun hc4=>?_) fun hc4=>?_
 ·refine av ?_;have q4:=hft.f _ (bA (show i<r.feats.length by omega));have q5:=xo q4;have q6:=q4.2;simp only[qZ,bY,List.length_append,List.length_cons,List.length_nil]at q5;refine aV ?_;refine cx [(.str _),(.str _)] ?_;refine aA ?_;refine Mn (xs:=[bQ,r.feats[i]!.name]) (ys:=r.feats[i]!.of) (he:=rQ.sl) (hb:=by simp only[List.length_cons,List.length_nil];omega) ?_;refine ak (hc:=h249 ([bQ,r.feats[i]!.name]++r.feats[i]!.of) 32 (by omega)) (ha:=fun _=>congrArg (fun d=>[d,D.int .u8 32]) (rK (q:=D.str) (fun _=>rfl) ae)) (hp:=fun _=>⟨oY (q:=D.str) (fun _=>rfl) ae,rfl,trivial⟩) ?_;refine cO (hb:=fun _=>by first|omega|(simp only[List.length_append,List.length_cons,List.length_nil];omega)) ?_;refine cO (hb:=fun _=>by first|omega|(simp only[List.length_append,List.length_cons,List.length_nil];omega)) ?_;refine cR ?_;have hq:=Bp (r:=r) (i:=i) (by omega);exact⟨i+1,(by omega),by omega,(aX.to [(0,0)] ae ae (by repeat(first|exact de.nil|refine de.un ?_|refine de.eq ae ?_|refine de.nl (congrArg D.str (by rw[hq];simp[qZ,bY])) ae ?_)) qy)⟩
 refine av ?_;have h33:i=r.feats.length:=by omega
 subst h33;refine ax ?_;refine ch ?_;exact zA r
end Go.Abs
end
section
namespace Go.Abs
open Go
def zj:aB:=⟨1,6,[⟨1,none⟩,⟨2,none⟩],gQ,(sq (rg [gb 9 s0,gm cse,gm bh] [(3,0),(1,1),(2,2)]) (sq (sq (r1 [gk 9 true s3,gx 70 [l0] [[.a,.a,.a,.a,.a,.a,.sl 3 [.sl 4 [.a,.a,.sl 1 [.a],.a],.a,.a],.sl 3 [.a,.a,.a],.sl 2 [.a,.sl 1 [.a]]]],gm l1,ge l2 0,ge l2 1,gm l3,gm l4] 4 5) (sq (r1 [gm s4,bN l0 bh] 5 1) (.cond s5 (sq (rg [gm s4,gm cse,gm l0] [(1,1),(2,2)]) .ret) .skip))) (sq (rg [gk 9 true s3,gx 215 [l0] [[.a,.a,.a,.a,.a,.a,.sl 3 [.sl 4 [.a,.a,.sl 1 [.a],.a],.a,.a],.sl 3 [.a,.a,.a],.sl 2 [.a,.sl 1 [.a]]]],gm l1,gm bh] [(1,2),(2,3)]) .ret)))⟩
def w72 {Γ:Ctx}(hm:(Γ.at 0).a8)(h70:C70 Γ)(h215:KM Γ)(r:Rec)  (hp0:gA r):dq Γ zj (.tup [.str (nE r).1,.int .i64 (nE r).2]) [Rec.D r]:=by
 show bz _ _ _ [⟨_,_⟩,_,_,_,_,_] _;refine aj ?_;refine aV ?_;refine ak (hc:=h70 r hp0) ?_;refine fM ?_;refine cd (fun hc0=>?_) fun hc0=>?_
 ·refine aV ?_;refine bC (aF (congrArg D.str ?_) (congrArg (D.int .i64) ?_));all_goals
   simp[nE,hc0]
 refine ar ?_;have hgd:=z6 hc0;refine aC ?_;refine ak (hc:=h215 r ⟨hgd,hp0⟩) ?_;refine ax ?_;refine bC (aF (congrArg D.str ?_) (congrArg (D.int .i64) ?_));all_goals
  simp[nE,hc0]
def C72 (Γ:Ctx):Prop:=∀(r:Rec),(gA r)→Γ.pre 72 [Rec.D r]∧Γ.val 72 [Rec.D r]=.tup [.str (nE r).1,.int .i64 (nE r).2]
end Go.Abs
end
