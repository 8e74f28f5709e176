/- A part of the proofs. -/
import Derived.Lib.CountLaws
import Derived.Lib.IndexMore
import Derived.Lib.ItoaNum
import Derived.Lib.Join
import Derived.Lib.Split
import Derived.Lib.SplitLaws
import Derived.Lib.Strings
import Derived.Lib.TrimByte
import Derived.Shelf.Strings.Split
import Derived.Test.YtfijeeijkndliaaGreatDoorP07
set_option linter.all false
set_option maxRecDepth 4000
namespace Go.Abs
variable {Y:Ctx}(hm:(Y.at 0).cQ)
section
def LN (ob:Cw):Prop:=∀(σ:List (Nat×Nat)) (l l':Nat) (w:List ak) (n:Nat) (b:Bool),lu 0 σ l=some l'->r8 0 σ (ob w (.own l 5 0 n) b)=some (ob w (.own l' 5 0 n) b)
def oQ:LN gy:=fun σ l l' w n b h=>by simp only[gy,r8,qW,HP,h]
def Qr:D->Nat
 | .agg [.sl _ ws,_,_]=>ws.length
 | .agg [.sl _ ws,.int _ i,_,_]=>ws.length-i.toNat
 |_=>0
def JF (c:List D->Nat)(ds:List D)(st:St):Nat:=match ds with
 | .ptr l _ _ _::aai=>(match look st.m l with
  |some (.buf _ [o])=>6*Qr o+c aai
  |_=>0)
 |_=>0
def Nu (w:List ak)(X:D)(b:Bool):Qr (gy w X b)=w.length:=by simp[Qr,gy]
def lH {c:List D->Nat}{l k nx:Nat}{aai:List D}{m:List (Nat×bp)}{w:List ak}{X:D}{b:Bool}(h:look m l=some (.buf k [gy w X b])):JF c (.ptr l k 0 0::aai) ⟨nx,m⟩=6*w.length+c aai:=by
 simp only[JF,h,Nu]
def Dj (nd:List Nd):aY (nd.map Nd.D)=true:=bj (fun _=>rfl) _
section
variable [cP] {P:Program} {ν:List (Nat×Nat)} {cj:List Nat} {t:List (Nat×nV)} {fid n key u k:Nat} {af:aN} {ob:Cw} {aai:List D} {w:List ak} {nd:List Nd} {b:Bool} {lp ln nx:Nat} {m:List (Nat×bp)} {K:D->St->Prop} {Pp:PO->Prop} {V:PO->D}
def Kg (hob:LN ob)(hk5:k≠5)(has:aY aai=true)(h1:look m lp=some (.buf k [ob w (.own ln 5 0 nd.length) b]))(h2:look m ln=some (.buf 5 (nd.map Nd.D))):
  lp≠ln/\(∀i,i<(D.ptr lp k 0 0::aai).length->Ix 0 [(lp,0),(ln,1)] ((D.ptr lp k 0 0::aai).getD i .any) ((D.ptr 0 k 0 0::aai).getD i .any))/\gN 0 2 [(lp,0),(ln,1)]=true/\(∀l i,(l,i)∈[(lp,0),(ln,1)]->look m l≠none)/\
   ∀i bb,look [(0,.buf k [ob w (.own 1 5 0 nd.length) b]),(1,.buf 5 (nd.map Nd.D))] i=some bb->∃l b',(l,i)∈[(lp,0),(ln,1)]/\look m l=some b'/\pZ 0 [(lp,0),(ln,1)] b' bb:=by
 have hne:lp≠ln:=by
  rintro rfl;rw[h1]at h2;exact hk5 (bp.buf.inj (br h2)).1
 have hb:Nat.beq lp ln=false:=by cases h:Nat.beq lp ln with
  |false=>rfl
  |true=>exact absurd (Nat.eq_of_beq_eq_true h) hne
 have hb':Nat.beq ln lp=false:=by cases h:Nat.beq ln lp with
  |false=>rfl
  |true=>exact absurd (Nat.eq_of_beq_eq_true h).symm hne
 refine⟨hne,fun i hi=>?_, ?_,fun l i h=>?_,fun i bb h=>?_⟩
 .match i with
  |0=>exact .inr (.inl (by simp[r8,HP,lu]))
  |i+1=>exact .inl ⟨rfl,cB has i⟩
 .simp[gN,hb,hb'];rfl
 .grind
 .simp only[look]at h;split at h
  .rename_i e;subst e;obtain rfl:=br h;exact⟨lp,_,.head _,h1,rfl,.inr (.inl (by simp only[qW,hob _ ln 1 w nd.length b (show lu 0 [(lp,0),(ln,1)] ln=some 1 by simp[lu,hb])]))⟩
  .split at h
   .rename_i e;subst e;obtain rfl:=br h;exact⟨ln,_,.tail _ (.head _),h2,rfl,.inl ⟨rfl,Dj nd⟩⟩
   .cases h
def jO (hob:LN ob)(hk5:k≠5)(has:aY aai=true)(hV:∀o,(V o).aX=true)(hmix:P.follows .mixedOrders=true)(hC:Ie P ν cj fid af)(hnp:aai.length+1=af.np)
  (h1:look m lp=some (.buf k [ob w (.own ln 5 0 nd.length) b])) (h2:look m ln=some (.buf 5 (nd.map Nd.D))) (h3:lp<nx) (h4:ln<nx)
  (hK:∀o,Pp o->K (V o) ⟨nx+1,(nx,.buf 5 (o.nd.map Nd.D))::cM (cd m ln) lp (.buf k [ob o.w (.own nx 5 0 o.nd.length) o.bad])⟩)
  (hw:ca ((under t key u).at 2) af.body (nU af (Cx k ob Pp V)) (gh af (.ptr 0 k 0 0::aai)) ⟨2,[(0,.buf k [ob w (.own 1 5 0 nd.length) b]),(1,.buf 5 (nd.map Nd.D))]⟩):nL P ν cj (under t key u) fid (.ptr lp k 0 0::aai) ⟨nx,m⟩ K:=by
 obtain⟨hne,g2,g3,g4,g5⟩:=Kg hob hk5 has h1 h2;refine x7 (σi:=[(lp,0),(ln,1)]) (cs:=.ptr 0 k 0 0::aai) (fun q=>wT t key u q) hmix hC aJ g2 (by simpa using hnp) g3 g4 g5 hw ?_;rintro d m1 ⟨o,j,hj,hP,rfl,e0,ej⟩;have hb0:Nat.beq 0 j=false:=by cases j<;>first|omega|rfl
 have hbj:Nat.beq j 0=false:=by cases j<;>first|omega|rfl
 have hbl:Nat.beq lp nx=false:=by cases h:Nat.beq lp nx with
  |false=>rfl
  |true=>have:=Nat.eq_of_beq_eq_true h;omega
 have hbl':Nat.beq nx lp=false:=by cases h:Nat.beq nx lp with
  |false=>rfl
  |true=>have:=Nat.eq_of_beq_eq_true h;omega
 refine⟨[(0,lp),(j,nx)],j+1,_,V o,⟨g3, ?_,Nat.le_succ _,g4, ?_,g5, ?_⟩,.inl ⟨rfl,hV o⟩,hK o hP⟩
 .simp[gN,hbj,hb0,hbl,hbl'];omega
 .intro i l h;rcases cD.1 h with h|h
  .obtain⟨rfl,rfl⟩:=Prod.mk.inj h;exact .inl (.head _)
  .obtain⟨rfl,rfl⟩:=Prod.mk.inj (cT.1 h);exact .inr (aF _)
 .intro l bb h;simp only[look]at h;split at h
  .rename_i e;subst e;obtain rfl:=br h;exact .inl ⟨j,_,.tail _ (.head _),ej,rfl,.inl ⟨rfl,Dj _⟩⟩
  .rename_i hln;rw[bU]at h;split at h
   .rename_i e;subst e;obtain rfl:=br h;exact .inl ⟨0,_,.head _,e0,rfl,.inr (.inl (by simp only[qW,hob _ j nx o.w o.nd.length o.bad (show lu 0 [(0,l),(j,nx)] j=some nx by simp[lu,hb0])]))⟩
   .rename_i hlp;rw[eX]at h;split at h
    .cases h
    .rename_i hl2;refine .inr ⟨by simp only[kT,aj (fun e=>hlp (Eq.symm e)),aj hln],fun i hi=>?_,h⟩;rcases cD.1 hi with hi|hi
     .exact hlp (Prod.mk.inj hi).1
     .exact hl2 (Prod.mk.inj (cT.1 hi)).1
def HF (hob:LN ob)(hk5:k≠5)(has:aY aai=true)(hV:∀o,(V o).aX=true)(hmix:P.follows .mixedOrders=true)(hC:Ie P ν cj fid af)(hnp:aai.length+1=af.np)
  (h1:look m lp=some (.buf k [ob w (.own ln 5 0 nd.length) b])) (h2:look m ln=some (.buf 5 (nd.map Nd.D))) (h3:lp<nx) (h4:ln<nx)
  (hK:∀o,Pp o->K (V o) ⟨nx,cM m lp (.buf k [ob o.w (.own ln 5 0 nd.length) o.bad])⟩)
  (hw:ca ((under t key u).at 2) af.body (nU af (NY k ob nd Pp V)) (gh af (.ptr 0 k 0 0::aai)) ⟨2,[(0,.buf k [ob w (.own 1 5 0 nd.length) b]),(1,.buf 5 (nd.map Nd.D))]⟩):nL P ν cj (under t key u) fid (.ptr lp k 0 0::aai) ⟨nx,m⟩ K:=by
 obtain⟨hne,g2,g3,g4,g5⟩:=Kg hob hk5 has h1 h2;refine x7 (σi:=[(lp,0),(ln,1)]) (cs:=.ptr 0 k 0 0::aai) (fun q=>wT t key u q) hmix hC aJ g2 (by simpa using hnp) g3 g4 g5 hw ?_;rintro d m1 ⟨o,hP,rfl,e0,ej⟩;have hbl:Nat.beq lp ln=false:=by cases h:Nat.beq lp ln with
  |false=>rfl
  |true=>exact absurd (Nat.eq_of_beq_eq_true h) hne
 have hbl':Nat.beq ln lp=false:=by cases h:Nat.beq ln lp with
  |false=>rfl
  |true=>exact absurd (Nat.eq_of_beq_eq_true h).symm hne
 refine⟨[(0,lp),(1,ln)],2,⟨nx,cM m lp (.buf k [ob o.w (.own ln 5 0 nd.length) o.bad])⟩,V o,⟨g3, ?_,aF _,g4, ?_,g5, ?_⟩,.inl ⟨rfl,hV o⟩,hK o hP⟩
 .simp[gN,hbl,hbl'];exact⟨h3,rfl,h4⟩
 .intro i l h;rcases cD.1 h with h|h
  .obtain⟨rfl,rfl⟩:=Prod.mk.inj h;exact .inl (.head _)
  .obtain⟨rfl,rfl⟩:=Prod.mk.inj (cT.1 h);exact .inl (.tail _ (.head _))
 .intro l bb h;simp only at h;rw[bU]at h;split at h
  .rename_i e;subst e;obtain rfl:=br h;exact .inl ⟨0,_,.head _,e0,rfl,.inr (.inl (by simp only[qW,hob _ 1 ln o.w nd.length o.bad (show lu 0 [(0,l),(1,ln)] 1=some ln from rfl)]))⟩
  .rename_i hlp;by_cases hl2:l=ln
   .subst hl2;rw[h2]at h;obtain rfl:=br h;exact .inl ⟨1,_,.tail _ (.head _),ej,rfl,.inl ⟨rfl,Dj _⟩⟩
   .refine .inr ⟨by simp only[kT,aj (fun e=>hlp (Eq.symm e)),aj (fun e=>hl2 (Eq.symm e))],fun i hi=>?_,h⟩;rcases cD.1 hi with hi|hi
    .exact hlp (Prod.mk.inj hi).1
    .exact hl2 (Prod.mk.inj (cT.1 hi)).1
def od {a b:Nat}(h:a≠b):Nat.beq a b=false:=by
 cases h2:Nat.beq a b with
 |false=>rfl
 |true=>exact absurd (Nat.eq_of_beq_eq_true h2) h
def wG {m:List (Nat×bp)}{l lw:Nat}(h:l≠lw):eU (cd m lw) l=match look m l with
 |some (.bld (some l2) _ _)=>cd (cd m lw) l2
 |_=>cd m lw:=by
 grind [eU,eX,look]
def Hg {ws:List ak}{s:ak}{l lw:Nat}(hmix:P.follows .mixedOrders=true)(hC:Ie P ν cj fid af)(hnp:2=af.np)
  (h1:qf m l s) (h2:look m lw=some (.buf 1 (ws.map D.str))) (h3:l<nx) (h4:lw<nx) (hK:K (.tup []) ⟨nx+1,oe (cd m lw) l nx (s++b9 ws)⟩)
  (hw:∀m0,qf m0 0 s->look m0 1=some (.buf 1 (ws.map D.str))->ca ((under t key u).at 3) af.body (nU af (fun d m=>d=.tup []/\look m 0=some (.bld (some 9) (s++b9 ws).length true)/\look m 9=some (.row (s++b9 ws)))) (gh af [.ptr 0 2 0 0,.own 1 1 0 ws.length]) ⟨3,m0⟩):
  nL P ν cj (under t key u) fid [.ptr l 2 0 0,.own lw 1 0 ws.length] ⟨nx,m⟩ K:=by
 have hlw:l≠lw:=by
  rintro rfl;rcases h1 with⟨u,h,_⟩|⟨l2,u,h,_⟩<;>rw[h2]at h<;>cases h
 have hnl:aY (ws.map D.str)=true:=bj (fun _=>rfl) _;have b1:=od hlw;have b2:=od (Ne.symm hlw);have b3:=od (show l≠nx by omega);have b4:=od (show nx≠l by omega)

 have fin:∀(σi:List (Nat×Nat)) (m0:List (Nat×bp)),gN 0 3 σi=true->(l,0)∈σi->(∀l i,(l,i)∈σi->look m l≠none)->(∀i b,look m0 i=some b->∃l b',(l,i)∈σi/\look m l=some b'/\pZ 0 σi b' b)->
   (∀l' b,look (eU (cd m lw) l) l'=some b->l'≠l->look m l'=some b/\∀i,(l',i)∉σi)->∀d m1,(d=.tup []/\look m1 0=some (.bld (some 9) (s++b9 ws).length true)/\look m1 9=some (.row (s++b9 ws)))->
   ∃(σo:List (Nat×Nat)) (q1:Nat) (st':St) (vd':D),Fr σi σo 3 q1 m0 m1 ⟨nx,m⟩ st'/\Ix 0 σo d vd'/\K vd' st':=by
  rintro σi m0 oki hm hlt hm0 hoff d m1 ⟨rfl,e0,e9⟩;refine⟨[(0,l),(9,nx)],10,⟨nx+1,oe (cd m lw) l nx (s++b9 ws)⟩,.tup [],⟨oki, ?_,Nat.le_succ _,hlt, ?_,hm0, ?_⟩,.inl ⟨rfl,rfl⟩,hK⟩
  .simp[gN,b3,b4];exact⟨ae,rfl⟩
  .intro i l' h;rcases cD.1 h with h|h
   .obtain⟨rfl,rfl⟩:=Prod.mk.inj h;exact .inl hm
   .obtain⟨rfl,rfl⟩:=Prod.mk.inj (cT.1 h);exact .inr (aF _)
  .intro l' bb h;simp only[oe,look]at h;split at h
   .rename_i e;subst e;obtain rfl:=br h;exact .inl ⟨9,_,.tail _ (.head _),e9,rfl⟩
   .rename_i hln;rw[bU]at h;split at h
    .rename_i e;subst e;obtain rfl:=br h;exact .inl ⟨0,_,.head _,e0,⟨nx,rfl,rfl⟩,rfl,rfl⟩
    .rename_i hl;obtain⟨g1,g2⟩:=hoff l' bb h hl;exact .inr ⟨by simp only[kT,aj (fun e=>hl (Eq.symm e)),aj hln],g2,g1⟩
 rcases h1 with⟨u,h1,rfl⟩|⟨l2,u,h1,h5⟩
 .have g4:∀l' i,(l',i)∈[(l,0),(lw,1)]->look m l'≠none:=by
   intro l' i h;rcases cD.1 h with h|h
   .obtain⟨rfl,rfl⟩:=Prod.mk.inj h;rw[h1];simp
   .obtain⟨rfl,rfl⟩:=Prod.mk.inj (cT.1 h);rw[h2];simp
  have g3:gN 0 3 [(l,0),(lw,1)]=true:=by simp[gN,b1,b2];rfl
  have g5:∀i b,look [(0,bp.bld none 0 u),(1,.buf 1 (ws.map D.str))] i=some b->∃l' b',(l',i)∈[(l,0),(lw,1)]/\look m l'=some b'/\pZ 0 [(l,0),(lw,1)] b' b:=by
   intro i b h;simp only[look]at h;split at h
   .rename_i e;subst e;obtain rfl:=br h;exact⟨l,_,.head _,h1,rfl,rfl,rfl⟩
   .split at h
    .rename_i e;subst e;obtain rfl:=br h;exact⟨lw,_,.tail _ (.head _),h2,rfl,.inl ⟨rfl,hnl⟩⟩
    .cases h
  refine x7 (σi:=[(l,0),(lw,1)]) (cs:=[.ptr 0 2 0 0,.own 1 1 0 ws.length]) (fun q=>wT t key _ q) hmix hC rfl ?_ hnp g3 g4 g5 (hw _ (.inl ⟨u,rfl,rfl⟩) rfl) (fin _ _ g3 (.head _) g4 g5 ?_)
  .intro i hi
   match i,hi with
   |0,_=>exact .inr (.inl (by simp[r8,HP,lu]))
   |1,_=>exact .inr (.inl (by simp[r8,HP,lu,b1]))
  .intro l' b h hl;rw[wG hlw]at h;simp only[h1]at h;rw[eX]at h;split at h
   .cases h
   .rename_i hw';refine⟨h,fun i hi=>?_⟩;rcases cD.1 hi with hi|hi
    .exact hl (Prod.mk.inj hi).1
    .exact hw' (Prod.mk.inj (cT.1 hi)).1
 .have c1:l2≠l:=by rintro rfl;rw[h1]at h5;cases h5
  have c2:l2≠lw:=by rintro rfl;rw[h2]at h5;cases h5
  have d1:=od c1;have d2:=od c2;have d3:=od (Ne.symm c1);have d4:=od (Ne.symm c2);have g4:∀l' i,(l',i)∈[(l,0),(lw,1),(l2,2)]->look m l'≠none:=by
   intro l' i h;rcases cD.1 h with h|h
   .obtain⟨rfl,rfl⟩:=Prod.mk.inj h;rw[h1];simp
   .rcases cD.1 h with h|h
    .obtain⟨rfl,rfl⟩:=Prod.mk.inj h;rw[h2];simp
    .obtain⟨rfl,rfl⟩:=Prod.mk.inj (cT.1 h);rw[h5];simp
  have g3:gN 0 3 [(l,0),(lw,1),(l2,2)]=true:=by simp[gN,b1,b2,d1,d2,d3,d4];exact⟨⟨rfl,rfl⟩,rfl⟩
  have g5:∀i b,look [(0,bp.bld (some 2) s.length u),(1,.buf 1 (ws.map D.str)),(2,.row s)] i=some b->∃l' b',(l',i)∈[(l,0),(lw,1),(l2,2)]/\look m l'=some b'/\pZ 0 [(l,0),(lw,1),(l2,2)] b' b:=by
   intro i b h;simp only[look]at h;split at h
   .rename_i e;subst e;obtain rfl:=br h;exact⟨l,_,.head _,h1,⟨2,by simp[lu,d3,d4],rfl⟩,rfl,rfl⟩
   .split at h
    .rename_i e;subst e;obtain rfl:=br h;exact⟨lw,_,.tail _ (.head _),h2,rfl,.inl ⟨rfl,hnl⟩⟩
    .split at h
     .rename_i e;subst e;obtain rfl:=br h;exact⟨l2,_,.tail _ (.tail _ (.head _)),h5,rfl⟩
     .cases h
  refine x7 (σi:=[(l,0),(lw,1),(l2,2)]) (cs:=[.ptr 0 2 0 0,.own 1 1 0 ws.length]) (fun q=>wT t key _ q) hmix hC rfl ?_ hnp g3 g4 g5 (hw _ (.inr ⟨2,u,rfl,rfl⟩) rfl) (fin _ _ g3 (.head _) g4 g5 ?_)
  .intro i hi
   match i,hi with
   |0,_=>exact .inr (.inl (by simp[r8,HP,lu]))
   |1,_=>exact .inr (.inl (by simp[r8,HP,lu,b1]))
  .intro l' b h hl;rw[wG hlw]at h;simp only[h1]at h;rw[eX]at h;split at h
   .cases h
   .rename_i hw2;rw[eX]at h;split at h
    .cases h
    .rename_i hw';refine⟨h,fun i hi=>?_⟩;rcases cD.1 hi with hi|hi
     .exact hl (Prod.mk.inj hi).1
     .rcases cD.1 hi with hi|hi
      .exact hw' (Prod.mk.inj hi).1
      .exact hw2 (Prod.mk.inj (cT.1 hi)).1
end
end
theorem qN {α:Type}{f:α->D}(hf:∀x y,f x=f y↔x=y):∀a b:List α,a.map f=b.map f↔a=b
 |[],[]=>aJ
 |[],_::_=>aJ
 |_::_,[]=>aJ
 |x::a,y::b=>by simp only[List.map_cons,rl,hf,qN hf a b]
def Mu (a b:Nat):((a:Nat):Int)=(b:Nat)↔a=b:=ae
theorem iU8 (x y:UInt8):((x.toNat:Nat):Int)=(y.toNat:Nat)↔x=y:=(Mu _ _).trans lT
def G3 (a b:List ak):a.map D.str=b.map D.str↔a=b:=qN (fun _ _=>aJ) a b
def iInt (a b:List Int):a.map (D.int .i64)=b.map (D.int .i64)↔a=b:=qN (fun _ _=>aJ) a b
def iByt (a b:ak):(a.map fun c=>D.int .u8 c.toNat)=(b.map fun c=>D.int .u8 c.toNat)↔a=b:=by grind [qN,iU8]
def iVer (a b:gE):gE.D a=gE.D b↔a=b:=by cases a;cases b;simp[gE.D]
def Oh (a b:cu):cu.D a=cu.D b↔a=b:=by cases a;cases b;simp[cu.D,G3]
def Jm (a b:List cu):a.map cu.D=b.map cu.D↔a=b:=qN Oh a b
def Of (a b:bT):bT.D a=bT.D b↔a=b:=by cases a;cases b;simp[bT.D,Jm]
def zu (a b:List bT):a.map bT.D=b.map bT.D↔a=b:=qN Of a b
def SY (a b:jT):jT.D a=jT.D b↔a=b:=by cases a;cases b;simp[jT.D]
def Ej (a b:List jT):a.map jT.D=b.map jT.D↔a=b:=qN SY a b
def Od (a b:ct):ct.D a=ct.D b↔a=b:=by cases a;cases b;simp[ct.D,G3]
def zt (a b:List ct):a.map ct.D=b.map ct.D↔a=b:=qN Od a b
def iRec (a b:Rec):Rec.D a=Rec.D b↔a=b:=by
 obtain⟨n,⟨v1,v2,v3,v4,v5⟩,x,y,z⟩:=a;obtain⟨n',⟨w1,w2,w3,w4,w5⟩,x',y',z'⟩:=b;simp[Rec.D,zu,Ej,zt,and_assoc]
def SZ (a b:dx):dx.D a=dx.D b↔a=b:=by
 obtain⟨n,p,v1,v2,v3,v4,v5⟩:=a;obtain⟨n',p',w1,w2,w3,w4,w5⟩:=b;simp[dx.D]
def Ob (a b:List dx):a.map dx.D=b.map dx.D↔a=b:=qN SZ a b
def iNd (a b:Nd):Nd.D a=Nd.D b↔a=b:=by cases a;cases b;simp[Nd.D]
def S1 (a b:List Nd):a.map Nd.D=b.map Nd.D↔a=b:=qN iNd a b
def PG (a b:Alt):ry a=ry b↔a=b:=by simp[ry,Ob]
def iRng (a b:Co):lP a=lP b↔a=b:=by simp[lP,qN PG]
def SX (a b:List Alt):a.map ry=b.map ry↔a=b:=qN PG a b
def iMrk (a b:QJ):oJ a=oJ b↔a=b:=by simp[oJ,S1]
def iLd (a b:Ld):Ld.D a=Ld.D b↔a=b:=by cases a;cases b;simp[Ld.D,G3,Mu]
def iPr (w w':List ak)(x x':D)(b b':Bool):gy w x b=gy w' x' b'↔w=w'/\x=x'/\b=b':=by simp[gy,G3]
def L6 {A:FT->Prop}(h:A (fun d ds v s=>A fun d' ds' v' s'=>d'=d->ds'=ds->v=v'/\s=s'):=by
 (repeat' first|apply And.intro|intro _)
 all_goals rename_i e' e
 all_goals (try simp only[rl,D.str.injEq,D.int.injEq,D.bool.injEq,D.sl.injEq,iLd,G3,iU8,lT,Mu,bQ,bY]at e e')
 all_goals first|rfl|(simp only[e,e'];done)|simp_all):vc (mH A):=L7 h
def iQ (l:List Int)(i:Int):Int:=if i<0\/(l.length:Int)<=i then 0 else l[i.toNat]!
def Ni {v n:Int}(h:0<n)(h2:¬v.tmod n<0):v.tmod n=v%n:=by
 rw[Int.tmod_eq_emod];rw[Int.tmod_eq_emod]at h2;have h3:=Int.emod_nonneg v (show n≠0 by omega);have h4:=Int.emod_lt_of_pos v h
 grind
def Nh {v n:Int}(h:0<n)(h2:v.tmod n<0):v.tmod n+n=v%n:=by
 rw[Int.tmod_eq_emod]at h2⊢;have h3:=Int.emod_nonneg v (show n≠0 by omega)
 grind
def dI (l:List Int)(i n:Int):Int:=iQ l i%n
def cY (l:List Int)(i n:Int)(h:0<n):0<=dI l i n/\dI l i n<n:=⟨Int.emod_nonneg _ ae,Int.emod_lt_of_pos _ h⟩
def lh (v n:Int)(h:0<n):0<=v%n/\v%n<n:=⟨Int.emod_nonneg _ ae,Int.emod_lt_of_pos _ h⟩
theorem pD {α:Type} [Inhabited α]{q:α->D}(xs:List α){j:Nat}(h:j<xs.length):cut (xs.map q) (j*1) 1 false=q xs[j]! :=by
 show(xs.map q).getD (j*1) .any=_;rw[Nat.mul_one];exact getD_map h
def C7 {α:Type} [Inhabited α]{q:α->D}(xs:List α){j n:Nat}(h:j<xs.length)(hn:(1==n)=false):mT (.agg (xs.map q)) n 1 (0+j*1) false=q xs[j]! :=by
 have hc:(D.agg (xs.map q)).cells=xs.map q:=by
  rfl
 grind [mT,pD]
def Dl:List ak:=[[97,112,112],[98],[99],[100],[101,45,50]]
def b8 (n:Int):ak:=Dl[(n%5).toNat]!
def NM:List ak:=[[120],[121],[122],[119,95,49]]
def kK (n:Int):ak:=NM[(n%4).toNat]!
def Dr:List Int:=[9,7,6,3,1,2]
def ua (l:List Int)(i:Int):dx:=⟨Dr[(dI l i 6).toNat]!,3,⟨dI l (i+1) 3,dI l (i+2) 2,0,[],[]⟩⟩
def j3 (l:List Int)(i:Int):ak:=if(ua l i).op=9 then [42]else eA (ua l i)
def ye:List ak:=[[111,115],[97,114,99,104],[97,98,105]]
def GC:List ak:=[[32,61,32],[32,33,61,32]]
def j4 (l:List Int)(i:Int):ak:=if 2<dI l i 6 then []else ye[(dI l i 6).toNat]! ++GC[(dI l (i+1) 2).toNat]! ++kK (1+dI l (i+1) 3)
def y0:List ak:=[[120],[121]]
def mE (l:List Int)(i:Int)(alone:Bool):List ak:=if alone=true/\2<dI l (i+5) 5 then y0.take (dI l (i+5) 5-2).toNat else []
def kJ (l:List Int)(i own:Int)(alone:Bool):cu:=⟨b8 (own+1+dI l i 4),j3 l (i+1),mE l i alone,decide (dI l (i+4) 3=0)⟩
def eQ (l:List Int)(i:Int):Nat:=if dI l i 5=1 then 2 else 1
def rR (l:List Int)(i own:Int)(k:Nat):List cu:=(List.range k).map fun(k:Nat)=>kJ l (i+1+6*(k:Nat)) own (decide ((eQ l i:Int)=1))
def gr (l:List Int)(i own:Int):bT:=⟨rR l i own (eQ l i),j4 l (i+14),if dI l (i+16) 4=1 then kK (iQ l (i+17))else []⟩
def GR (l:List Int)(i own:Int)(k:Nat):rR l i own (k+1)=rR l i own k++[kJ l (i+1+6*(k:Nat)) own (decide ((eQ l i:Int)=1))]:=by
 unfold rR;rw[List.range_succ,List.map_append];rfl
def vG (l:List Int)(i:Int):eQ l i<=2:=by
 unfold eQ;split<;>omega
def jP (s:ak):List ak->Nat
 |[]=>0
 |a::r=>if Op.bytesLess a s=true then jP s r+1 else 0
def fE (l:List ak)(s:ak):List ak:=if jP s l<l.length/\l[jP s l]! =s then l else l.take (jP s l)++[s]++l.drop (jP s l)
def zM (s:ak):∀l:List ak,jP s l<=l.length
 |[]=>aF _
 |a::r=>by
  have:=zM s r
  grind [jP]
def zN (s:ak):∀(l:List ak) (i:Nat),i<jP s l->Op.bytesLess l[i]! s=true
 |[],i,h=>by simp[jP]at h
 |a::r,i,h=>by
  simp only[jP]at h;split at h
  .rename_i ha;cases i with
   |zero=>simpa using ha
   |succ i=>simpa using zN s r i ae
  .omega
def sW (s:ak):∀l:List ak,jP s l<l.length->Op.bytesLess l[jP s l]! s=false
 |[],h=>by simp at h
 |a::r,h=>by
  simp only[jP]at h⊢;split
  .rename_i ha;rw[aw ha]at h;simpa using sW s r (by simpa using h)
  .rename_i ha;simpa using ha
def CH (n b:Int):Int:=IntKind.wrap .i64 (((BitVec.ofInt 64 (n.fdiv (2^(min b.toNat 64))))&&&(BitVec.ofInt 64 1)).toNat)
def lj:List ak:=[N4,[120],[121],[122]]
def Je (r:Rec)(n:Int)(of:List ak)(j:Nat):List ak:=if ¬r.needs[j]!.option=[]/\CH n (3+(j:Nat))=1 then fE of ([63]++r.needs[j]!.option)else of
def N6 (r:Rec)(n:Int)(of:List ak)(j:Nat):List ak:=if r.needs[j]!.any.length=1/\CH n (5+(j:Nat))=1 then fE of (r.needs[j]!.any[0]!.name++[47]++[120])else of
def N7 (r:Rec)(n:Int)(of:List ak)(j:Nat):List ak:=N6 r n (Je r n of j) j
def nZ (r:Rec)(n:Int)(j:Nat):List ak:=(List.range j).foldl (N7 r n) []
def Mj (l:List Int)(i:Int)(n:Int)(k:Nat)(of:List ak):List ak:=if(k<3/\CH n 7=1)/\¬iQ l (i+(k:Nat)+1)%3=0 then fE of lj[k+1]! else of
def QO (l:List Int)(i:Int)(r:Rec)(k:Nat):Option ct:=if iQ l (i+(k:Nat))%3=0 then none else some ⟨lj[k]!,Mj l i (iQ l (i+(k:Nat))) k (nZ r (iQ l (i+(k:Nat))) (min r.needs.length 2))⟩
def Jf (l:List Int)(i:Int)(r:Rec)(k:Nat):List ct:=(List.range k).filterMap (QO l i r)
def iY (l:List Int)(i:Int)(r:Rec):List ct:=Jf l i r 4
theorem mR (r:Rec)(n:Int)(j:Nat):nZ r n (j+1)=N7 r n (nZ r n j) j:=by
 unfold nZ;rw[List.range_succ,List.foldl_append];rfl
def PC {l:List Int}{i:Int}{r:Rec}{k:Nat}(h:iQ l (i+(k:Nat))%3=0):Jf l i r (k+1)=Jf l i r k:=by
 unfold Jf;rw[List.range_succ,List.filterMap_append];simp[QO,h]
def Ef {l:List Int}{i:Int}{r:Rec}{k:Nat}{of:List ak}(h:¬iQ l (i+(k:Nat))%3=0)(ho:Mj l i (iQ l (i+(k:Nat))) k (nZ r (iQ l (i+(k:Nat))) (min r.needs.length 2))=of):Jf l i r (k+1)=Jf l i r k++[⟨lj[k]!,of⟩]:=by
 unfold Jf;rw[List.range_succ,List.filterMap_append];simp[QO,h,ho]
theorem oR (l:List ak)(s:ak):(fE l s).length<=l.length+1:=by
 grind [fE]
theorem Mh (r:Rec)(n:Int)(of:List ak)(j:Nat):(Je r n of j).length<=of.length+1:=by
 grind [Je,oR]
theorem Mi (r:Rec)(n:Int)(of:List ak)(j:Nat):(N6 r n of j).length<=of.length+1:=by
 grind [N6,oR]
def zp (r:Rec)(n:Int):∀j,(nZ r n j).length<=2*j
 |0=>by simp[nZ]
 |j+1=>by
  have h1:=zp r n j
  grind [Mh,nZ,Mi,Je,mR,N7]
def k8 (n:Int):(b8 n).length<=3:=by
 obtain⟨h1,h2⟩:=lh n 5 aE;unfold b8;have:(n%5).toNat<5:=ae;revert this;generalize (n%5).toNat=k;revert k;decide
def sH (n:Int):(kK n).length<=3:=by
 obtain⟨h1,h2⟩:=lh n 4 aE;unfold kK;have:(n%4).toNat<4:=ae;revert this;generalize (n%4).toNat=k;revert k;decide
def G9 (k:Nat)(h:k<3):(ye[k]!).length<=4:=by
 revert k;decide
def I4 (k:Nat)(h:k<2):(GC[k]!).length<=4:=by
 revert k;decide
def L9 (l:List Int)(i:Int):(ua l i).v.sm:=⟨by simp[ua],by simp[ua]⟩
def KA:ak:=[114,99,46,49]
def qJ (l:List Int)(i:Int):ak:=if dI l (i+2) 9=1 then KA else []
def vE (l:List Int)(i:Int):ak:=if dI l (i+2) 9=2 then [55]else []
def GY (l:List Int)(i:Int):gE:=⟨dI l i 3,dI l (i+1) 2,0,qJ l i,vE l i⟩
def gK (l:List Int)(i:Int):Nat:=(dI l (i+3) 4%3).toNat
def SV (l:List Int)(i:Int):(dI l (i+3) 4).tmod 3=(gK l i:Int):=by
 have h:=cY l (i+3) 4 aE;rw[Int.tmod_eq_emod_of_nonneg h.1];unfold gK;omega
def N8 (l:List Int)(i:Int):gK l i<=2:=by unfold gK;omega
def Cq (l:List Int)(i own:Int)(n:Nat):List bT:=(List.range n).map fun(q:Nat)=>gr l (i+4+20*((gK l i-q:Nat):Int) -20) own
def Ji {l:List Int}{i own:Int}{k:Nat}(hk:k<=gK l i)(h0:0<k):Cq l i own (gK l i-(k-1))=Cq l i own (gK l i-k)++[gr l (i+4+20*(k:Int) -20) own]:=by
 rw[show gK l i-(k-1)=(gK l i-k)+1 by omega];unfold Cq;rw[List.range_succ,List.map_append,List.map_singleton,show gK l i-(gK l i-k)=k by omega]
def oA (l:List Int)(i own:Int):List bT:=Cq l i own (gK l i)
def xn (l:List Int)(i own:Int):jT:=⟨b8 (own+1+dI l (i+46) 4),j3 l (i+47),j4 l (i+50)⟩
def qi (l:List Int)(i own:Int):List jT:=if dI l (i+45) 5=1 then [xn l i own]else []
def nP (l:List Int)(i own:Int):Rec:=⟨b8 own,GY l i,oA l i own,qi l i own,[]⟩
def ki (l:List Int)(i own:Int):Rec:={nP l i own with feats:=iY l (i+52) (nP l i own)}
def GQ {l:List Int}{i own:Int}{k:Nat}{w:cu}(h:w∈rR l i own k):w.name.length<=3:=by
 obtain⟨q,_,rfl⟩:=eW.1 h;exact k8 _
def sG (l:List Int)(i own:Int):(gr l i own).option.length<=3:=by
 show(if _ then _ else _:ak).length<=3;split
 .exact sH _
 .simp
def GX (l:List Int)(i own:Int):∀j:Nat,j<(nP l i own).needs.length->(nP l i own).needs[j]!.option.length<=100/\((nP l i own).needs[j]!.any.length=1->(nP l i own).needs[j]!.any[0]!.name.length<=100):=by
 intro j hj;have hm:=bL hj;obtain⟨q,_,hq⟩:=eW.1 hm;rw[<-hq];generalize i+4+20*((gK l i-q:Nat):Int) -20=x;refine⟨cC (sG _ _ _) aE,fun h=>?_⟩;have h2:=bL (l:=(gr l x own).any) (i:=0) ae;exact cC (GQ (k:=eQ l x) h2) aE
def Bg:∀a b:ak,Op.bytesLess a b=false->a≠b->Op.bytesLess b a=true
 |[],[],_,h=>absurd rfl h
 |[],_::_,h,_=>by simp[Op.bytesLess]at h
 |_::_,[],_,_=>by simp[Op.bytesLess]
 |x::a,y::b,h,hn=>by
  simp only[Op.bytesLess,dT,bC,dF,beq_eq_false_iff_ne]at h;simp only[Op.bytesLess,dk,a8,bt,beq_iff_eq];obtain⟨h1,h2⟩:=h;by_cases e:x=y
  .subst e;refine .inr ⟨rfl,Bg a b (h2.resolve_left fun h=>h rfl) fun e=>hn (by rw[e])⟩
  grind
def wx {l:List ak}{s t:ak}(h:t∈fE l s):t∈l\/t=s:=by
 grind [fE]
def DH (l:List ak):rising l=true↔∀i,1<=i->i<l.length->Op.bytesLess l[i-1]! l[i]! =true:=by
 unfold rising;rw[eY]
def oS {l:List ak}{s:ak}(h:rising l=true):rising (fE l s)=true:=by
 unfold fE;split
 .exact h
 .rename_i hn;rw[DH]at h⊢;have hl:=zM s l;have hlt:=zN s l;have hst:=sW s l;generalize jP s l=k at hn hl hlt hst⊢;have hlen:(l.take k++[s]++l.drop k).length=l.length+1:=by
   simp only[bA,fW,pr,aH,aO];omega
  have g1:∀j,j<k->(l.take k++[s]++l.drop k)[j]! =l[j]! :=fun j hj=>by
   have a:j<(l.take k).length:=by rw[fW];omega
   have b:j<l.length:=ae;rw[dU,getElem!_pos _ _ (by rw[bA];omega),List.getElem_append_left a,List.getElem_take,getElem!_pos l j b]
  have g2:(l.take k++[s]++l.drop k)[k]! =s:=by
   have a:(l.take k).length=k:=by rw[fW];omega
   rw[dU,getElem!_pos _ _ (by simp only[bA,a,aH];omega),List.getElem_append_right ae];simp[a]
  have g3:∀j,k<j->j<l.length+1->(l.take k++[s]++l.drop k)[j]! =l[j-1]! :=fun j hj hj2=>by
   have a:(l.take k).length=k:=by rw[fW];omega
   have b:(l.take k++[s]).length=k+1:=by rw[bA,a];rfl
   rw[getElem!_pos _ _ (by rw[hlen];omega),List.getElem_append_right ae,List.getElem_drop,getElem!_pos l (j-1) ae];congr 1;omega
  intro i h1 h2;rw[hlen]at h2;rcases Nat.lt_trichotomy i k with hik|hik|hik
  .rw[g1 i hik,g1 (i-1) ae];exact h i h1 ae
  .subst hik;rw[g2,g1 (i-1) ae];exact hlt _ ae
  .rw[g3 i hik h2];by_cases he:i=k+1
   .subst he;rw[show k+1-1=k from rfl,g2];exact Bg _ _ (hst ae) fun e=>hn ⟨ae,e⟩
   .rw[g3 (i-1) ae ae];exact h (i-1) ae ae
def Dm:∀k,k<5->ee Dl[k]! =true/\Dl[k]!.length<=3/\dy (Dl[k]! ++[47]++[120])=((3:Int),Dl[k]!,([120]:ak)):=by decide+kernel
theorem PY:∀a,a<5->∀b,b<5->a≠b->Dl[a]! ≠Dl[b]! :=by decide+kernel
def QF:∀k,k<4->cJ NM[k]! =true/\dy (([63]:ak)++NM[k]!)=((2:Int),NM[k]!,([]:ak)):=by decide+kernel
def SS (k a b:Nat):ak:=if Dr[k]! =9 then [42]else eA ⟨Dr[k]!,3,⟨(a:Nat),(b:Nat),0,[],[]⟩⟩
def Nw (s:ak):Prop:=im s=true/\s.length<=8/\s≠[]/\(∀c∈s,c≠10)
instance (s:ak):Decidable (Nw s):=by unfold Nw;infer_instance
def Bm (s:ak):Prop:=pN s=true/\s.length<=16/\(∀c∈s,c≠10)
instance (s:ak):Decidable (Bm s):=by unfold Bm;infer_instance
def Ma:∀k,k<6->∀a,a<3->∀b,b<2->Nw (SS k a b):=by decide+kernel
theorem K2:∀k,k<3->∀a,a<2->∀b,b<4->Bm (ye[k]! ++GC[a]! ++NM[b]!):=by decide+kernel
def lC (n:Int):(n%5).toNat<5/\b8 n=Dl[(n%5).toNat]! :=by
 have:=lh n 5 aE;exact⟨ae,rfl⟩
def vH (n:Int):ee (b8 n)=true/\(b8 n).length<=3:=⟨(Dm _ (lC n).1).1,(Dm _ (lC n).1).2.1⟩
def A0 (own d:Int)(h0:0<=d)(h1:d<4):b8 (own+1+d)≠b8 own:=by
 have a:=lC (own+1+d);have b:=lC own
 grind [PY]
def A2 (n:Int):(n%4).toNat<4/\kK n=NM[(n%4).toNat]! :=by
 have:=lh n 4 aE;exact⟨ae,rfl⟩
theorem A3 (n:Int):cJ (kK n)=true/\dy (([63]:ak)++kK n)=((2:Int),kK n,([]:ak)):=QF _ (A2 n).1
def uC (l:List Int)(i:Int):Nw (j3 l i):=by
 have a:=cY l i 6 aE;have b:=cY l (i+1) 3 aE;have c:=cY l (i+2) 2 aE;have:=Ma (dI l i 6).toNat ae (dI l (i+1) 3).toNat ae (dI l (i+2) 2).toNat ae
 grind [SS,dI,j3,ua]
def Ho:Bm []:=by decide+kernel
def oB (l:List Int)(i:Int):Bm (j4 l i):=by
 unfold j4;split
 .exact Ho
 .rename_i h;have a:=cY l i 6 aE;have b:=cY l (i+1) 2 aE;have c:=A2 (1+dI l (i+1) 3)
  grind [K2]
def tA {f:Nat->Int}{n:Nat}(h:∀j,j<n->f j=0):iV f 0 n=0:=by
 have:∀k i,i+k=n->iV f i n=0:=by
  intro k;induction k with
  |zero=>intro i e;exact sD ae
  |succ k ih=>intro i e;rw[sE ae (h i ae)];exact ih (i+1) ae
 exact this n 0 ae
def ox {f:Nat->Int}{n:Nat}(h:∀j,j<n->f j=0):fD f 0 n=(0,0):=by
 have:∀k i,i+k=n->fD f i n=(0,0):=by
  intro k;induction k with
  |zero=>intro i e;exact kY ae
  |succ k ih=>intro i e;rw[kZ ae (h i ae)];exact ih (i+1) ae
 exact this n 0 ae
def yR {r:Rec}{nm rg:ak}(h1:ee nm=true)(h2:nm≠r.name)(h3:im rg=true):kO r nm rg=0:=by
 grind [kO]
def Lb:∀n,mz (y0.take n) true=true
 |0=>aE
 |1=>aE
 |n+2=>by
  have:y0.take (n+2)=y0:=eM (by simp[y0]);rw[this];decide
theorem GZ (l:List Int)(i:Int)(al:Bool):mz (mE l i al) al=true:=by
 unfold mE;split
 .rename_i h;rw[h.1];exact Lb _
 .cases al<;>decide
def H4 {r:Rec}{own:Int}(hr:r.name=b8 own)(l:List Int)(i:Int)(al:Bool):mA r (kJ l i own al) al=0:=by
 have h:=cY l i 4 aE;have h1:=yR (r:=r) (vH (own+1+dI l i 4)).1 (by rw[hr];exact A0 own _ h.1 h.2) (uC l (i+1)).1;unfold mA;show(if kO r (b8 (own+1+dI l i 4)) (j3 l (i+1))≠0 then _ else if mz (mE l i al) al=false then _ else _)=_
 grind [GZ]
def AY (l:List Int)(i own:Int)(k:Nat):(rR l i own k).length=k:=by simp[rR]
def AX {l:List Int}{i own:Int}{k j:Nat}(h:j<k):(rR l i own k)[j]! =kJ l (i+1+6*(j:Nat)) own (decide ((eQ l i:Int)=1)):=by
 grind [rR]
def xY (l:List Int)(i:Int):1<=eQ l i:=by unfold eQ;split<;>omega
def Eh (l:List Int)(i own:Int):(gr l i own).option=[]\/∃n,(gr l i own).option=kK n:=by
 show(if _ then _ else _:ak)=[]\/_;split
 .rename_i h;exact .inr ⟨iQ l (i+17),aw h⟩
 .exact .inl rfl
def Hp {r:Rec}{own:Int}(hr:r.name=b8 own)(l:List Int)(i:Int):lI r (gr l i own)=0:=by
 have hl:(gr l i own).any.length=eQ l i:=AY _ _ _ _;have h1:=xY l i;have h2:=vG l i;unfold lI;rw[aj (by rw[hl];omega),aj (by rw[hl];omega)];have hw:nJ r (gr l i own).any=0:=by
  unfold nJ;refine tA fun j hj=>?_
  rw[hl]at hj⊢;show mA r (rR l i own (eQ l i))[j]! _=0;rw[AX hj];exact H4 hr l _ _
 rw[hw,aj aJ,aj (by rw[show(gr l i own).when'=j4 l (i+14)from rfl,(oB l (i+14)).1];simp)];rcases Eh l i own with h|⟨n,h⟩
 .rw[aj (by rw[h];simp)]
 grind [A3]
def Mk (l:List Int)(i own:Int)(n:Nat):(Cq l i own n).length=n:=by simp[Cq]
def uD {l:List Int}{i own:Int}{n:Nat}{x:bT}(h:x∈Cq l i own n):∃k:Int,x=gr l k own:=by
 obtain⟨q,_,rfl⟩:=eW.1 h;exact⟨_,rfl⟩
def Dk {r:Rec}{l:List Int}{i own:Int}(hr:r.name=b8 own)(hn:r.needs=oA l i own):lJ r=(0,0):=by
 unfold lJ;refine ox fun j hj=>?_
 obtain⟨k,hk⟩:=uD (show r.needs[j]! ∈Cq l i own (gK l i)by rw[show Cq l i own (gK l i)=r.needs from hn.symm];exact bL hj);rw[hk];exact Hp hr l k
def IG {r:Rec}{own:Int}(hr:r.name=b8 own)(l:List Int)(i:Int):vi r (xn l i own)=0:=by
 have h:=cY l (i+46) 4 aE;have h1:=yR (r:=r) (vH (own+1+dI l (i+46) 4)).1 (by rw[hr];exact A0 own _ h.1 h.2) (uC l (i+47)).1;unfold vi;show(if kO r (b8 (own+1+dI l (i+46) 4)) (j3 l (i+47))≠0 then _ else if pN (j4 l (i+50))=false then _ else _)=_;rw[h1,aj aJ,(oB l (i+50)).1,aj aJ]
def GU {l:List Int}{i own:Int}{b:jT}(h:b∈qi l i own):b=xn l i own:=by
 grind [qi]
def SG (l:List Int)(i:Int)(r:Rec)(t:ak):Prop:=(∃m∈r.needs,m.option≠[]/\t=[63]++m.option)\/(∃m∈r.needs,m.any.length=1/\t=m.any[0]!.name++[47]++[120])\/∃k,k<3/\¬iQ l (i+(k:Nat)+1)%3=0/\t=lj[k+1]!
def Jg (l:List Int)(i:Int)(r:Rec)(n:Int):∀j,j<=r.needs.length->rising (nZ r n j)=true/\∀t∈nZ r n j,SG l i r t
 |0,_=>⟨rfl,fun t ht=>by simp[nZ]at ht⟩
 |j+1,hj=>by
  obtain⟨h1,h2⟩:=Jg l i r n j ae;have hm:r.needs[j]! ∈r.needs:=bL ae;have hA:rising (Je r n (nZ r n j) j)=true/\∀t∈Je r n (nZ r n j) j,SG l i r t:=by
   unfold Je;split
   .rename_i h;refine⟨oS h1,fun t ht=>?_⟩;rcases wx ht with ht|rfl
    .exact h2 t ht
    .exact .inl ⟨_,hm,h.1,rfl⟩
   .exact⟨h1,h2⟩
  obtain⟨h3,h4⟩:=hA;rw[mR,N7];unfold N6;split
  .rename_i h;refine⟨oS h3,fun t ht=>?_⟩;rcases wx ht with ht|rfl
   .exact h4 t ht
   .exact .inr (.inl ⟨_,hm,h.1,rfl⟩)
  .exact⟨h3,h4⟩
theorem PA (l:List Int)(i:Int)(r:Rec)(n:Int)(k j:Nat)(hj:j<=r.needs.length):rising (Mj l i n k (nZ r n j))=true/\(∀t∈Mj l i n k (nZ r n j),SG l i r t)/\(Mj l i n k (nZ r n j)).length<=2*j+1:=by
 obtain⟨h1,h2⟩:=Jg l i r n j hj;have h3:=zp r n j;unfold Mj;split
 .rename_i h;refine⟨oS h1,fun t ht=>?_,cC (oR _ _) ae⟩;rcases wx ht with ht|rfl
  .exact h2 t ht
  .exact .inr (.inr ⟨k,h.1.1,h.2,rfl⟩)
 .exact⟨h1,h2,ae⟩
def qI {l:List Int}{i:Int}{r:Rec}{f:ct}(h:f∈iY l i r):∃k,k<4/\f.name=lj[k]! /\¬iQ l (i+(k:Nat))%3=0/\rising f.of=true/\(∀t∈f.of,SG l i r t)/\f.of.length<=5:=by
 obtain⟨k,hk,he⟩:=List.mem_filterMap.1 h
 grind [QO,PA,iQ]
def CU {l:List Int}{i:Int}{r:Rec}{k:Nat}(hk:k<4)(h:¬iQ l (i+(k:Nat))%3=0):∃f∈iY l i r,f.name=lj[k]! :=by
 have e:QO l i r k=some ⟨lj[k]!,Mj l i (iQ l (i+(k:Nat))) k (nZ r (iQ l (i+(k:Nat))) (min r.needs.length 2))⟩:=aj h;exact⟨_,List.mem_filterMap.2 ⟨k,List.mem_range.2 hk,e⟩,rfl⟩
def GN {fs:List ct}{nm:ak}(h:∃f∈fs,f.name=nm):0<=findF fs nm 0:=by
 grind [findF]
theorem Bq:∀k,k<4->dy lj[k]! =((1:Int),lj[k]!,([]:ak))/\cJ lj[k]! =true:=by decide+kernel
theorem JK:∀a,a<4->∀b,b<4->a<b->Op.bytesLess lj[a]! lj[b]! =true:=by decide+kernel
theorem GV (l:List Int)(i:Int)(r:Rec):(iY l i r).Pairwise fun a b=>Op.bytesLess a.name b.name=true:=by
 unfold iY Jf;refine List.Pairwise.filterMap _ (R:=fun a b=>a<b/\b<4) ?_ aE
 grind [QO,lj,JK]
def vF (l:List Int)(i:Int)(r:Rec):(iY l i r).length<=4:=by
 grind [iY,Jf]
def NdG (r:Rec):Prop:=∀m∈r.needs,(m.option=[]\/∃n,m.option=kK n)/\(m.any.length=1->∃n,m.any[0]!.name=b8 n)
def A8 {l:List Int}{i:Int}{r r2:Rec}{t:ak}(h:SG l i r t)(hr:NdG r)(hn:r2.needs=r.needs)(hf:r2.feats=iY l i r):kj r2.feats t=true/\lD r2 t=0/\t.length<=7:=by
 rcases h with⟨m,hm,h1,rfl⟩|⟨m,hm,h1,rfl⟩|⟨k,hk,h1,rfl⟩
 .obtain⟨n,e⟩:=(hr m hm).1.resolve_left h1;have hx:=(A3 n).2;have hl:=sH n;rw[e];refine⟨by unfold kj;rw[hx];rfl, ?_,by simp only[bA,aH,aO];omega⟩;unfold lD;rw[hx];have:M7 r2.needs (kK n)=true:=by
   unfold M7;rw[List.any_eq_true];exact⟨m,by rw[hn];exact hm,by simp[e]⟩
  simp[this]
 .obtain⟨n,e⟩:=(hr m hm).2 h1;have hx:=(Dm _ (lC n).1).2.2;have hl:=k8 n;rw[<-(lC n).2]at hx;rw[e];generalize b8 n=w at e hx hl;refine⟨by unfold kj;rw[hx];rfl, ?_,by simp only[bA,aH,aO];omega⟩;have:EB r2.needs w=true:=by
   unfold EB;rw[List.any_eq_true];exact⟨m,by rw[hn];exact hm,by rw[e,h1];simp⟩
  unfold lD;rw[hx,aj aJ,aj (by rw[this];simp)]
 .have hx:=(Bq (k+1) ae).1;have hl:∀k,k<4->lj[k]!.length<=7:=aE
  refine⟨?_,by unfold lD;rw[hx];simp,hl _ ae⟩;have:G4 r2.feats lj[k+1]! =true:=by
   unfold G4;rw[hf,dk];right;rw[a8];exact GN (CU (k:=k+1) ae (by rw[show i+((k+1:Nat):Int)=i+(k:Nat)+1 by omega];exact h1))
  unfold kj;rw[hx];dsimp only;rw[this];rfl
theorem P9 {α:Type} [Inhabited α]{R:α->α->Prop}{l:List α}(h:l.Pairwise R){i:Nat}(h0:0<i)(hi:i<l.length):R l[i-1]! l[i]! :=by
 rw[getElem!_pos l _ ae,getElem!_pos l _ hi];exact List.pairwise_iff_getElem.1 h _ _ ae hi ae
def GL {l:List Int}{i:Int}{r r2:Rec}(hr:NdG r)(hn:r2.needs=r.needs)(hf:r2.feats=iY l i r):iU r2.feats=true/\sC r2=(0,0):=by
 have hit:∀f∈r2.feats,∀t∈f.of,kj r2.feats t=true/\lD r2 t=0/\t.length<=7:=fun f hf' t ht=>by
  obtain⟨k,_,_,_,_,h,_⟩:=qI (show f∈iY l i r by rw[<-hf];exact hf');exact A8 (h t ht) hr hn hf
 constructor
 .have hlen:=vF l i r;unfold iU;rw[bt,a8,eY];refine⟨by rw[hf];omega,fun j _ hj=>?_⟩;have hm:r2.feats[j]! ∈r2.feats:=bL hj;obtain⟨k,hk,e1,e2,e3,e4,e5⟩:=qI (show r2.feats[j]! ∈iY l i r by rw[<-hf];exact hm)
  grind [mD,Bq,P9,GV,vK,eY,bL]
 .unfold sC;refine ox fun j hj=>?_
  unfold qK;exact tA fun q hq=>(hit _ (bL hj) _ (bL hq)).2.1
def mQ {α:Type}{f:α->ak}{B:Nat}:∀{l:List α},(∀x∈l,(f x).length<=B)->((l.map f).flatten).length<=l.length*B
 |[],_=>aJ
 |a::r,h=>by
  have h1:=h a (.head _);have h2:=mQ (l:=r) fun x hx=>h x (.tail _ hx)
  simp only[List.map_cons,List.flatten_cons,bA,aH,Nat.succ_mul];omega
def lg {l:List ak}{B n:Nat}(h:∀t∈l,t.length<=B)(hn:l.length<=n):(b9 l).length<=n*(B+1)+1:=by
 have h1:=lf 32 B l h;have h2:=eu (B+1) hn
 grind [b9]
def E3 (w:cu):Prop:=w.name.length<=3/\w.range.length<=8/\(w.feats=[]\/w.feats=y0.take 1\/w.feats=y0)
theorem Ic (n:Nat):y0.take n=[]\/y0.take n=y0.take 1\/y0.take n=y0:=by
 match n with
 |0=>exact .inl rfl
 |1=>exact .inr (.inl rfl)
 |n+2=>exact .inr (.inr (eM (by simp[y0])))
def x5 (l:List Int)(i own:Int)(al:Bool):E3 (kJ l i own al):=by
 refine⟨k8 _,(uC l (i+1)).2.1, ?_⟩;show mE l i al=[]\/mE l i al=y0.take 1\/mE l i al=y0
 grind [mE,Ic]
def H5 {w:cu}(h:E3 w):(b9 (nR w)).length<=46:=by
 refine lg (B:=8) (n:=5) (fun t ht=>?_) (by simp[nR]);simp only[nR,cD,eD,or_false]at ht;rcases ht with rfl|rfl|rfl|rfl|rfl
 .decide
 .have:=h.1;omega
 .rcases h.2.2 with e|e|e<;>rw[e]<;>decide
 .split<;>decide
 .exact h.2.1
theorem yP {s:ak}(h:s.length<=16):(jC s).length<=35:=by
 unfold jC;split
 .simp
 .exact lg (B:=16) (n:=2) (fun t ht=>by
   simp only[cD,eD,or_false]at ht;rcases ht with rfl|rfl
   .decide
   .exact h) aJ
def JY {s:ak}(h:s.length<=6):(xw s).length<=15:=by
 unfold xw;split
 .simp
 .exact lg (B:=6) (n:=2) (fun t ht=>by
   simp only[cD,eD,or_false]at ht;rcases ht with rfl|rfl
   .decide
   .exact h) aJ
def GW (l:List Int)(i own:Int):(oL (gr l i own)).length<=160:=by
 have h1:=mQ (f:=fun w=>b9 (nR w)) (B:=46) (l:=(gr l i own).any) fun w hw=>by
  obtain⟨q,_,rfl⟩:=eW.1 (show w∈rR l i own (eQ l i)from hw);exact H5 (x5 _ _ _ _)
 have h2:(gr l i own).any.length<=2:=by rw[show(gr l i own).any.length=eQ l i from AY _ _ _ _];exact vG l i
 have h3:=yP (oB l (i+14)).2.1;have h4:=JY (s:=(gr l i own).option) (cC (sG l i own) aE);have h5:(b9 [jB]).length<=6:=aE;unfold oL;simp only[bA];show _+(((gr l i own).any.map fun w=>b9 (nR w)).flatten).length+(jC (j4 l (i+14))).length+_<=_;omega
def IH {b:jT}(h:b.name.length<=3/\b.range.length<=8/\b.when'.length<=16):(vj b).length<=63:=by
 have h1:=lg (B:=8) (n:=3) (l:=[kX,b.name,b.range]) (fun t ht=>by
  simp only[cD,eD,or_false]at ht;rcases ht with rfl|rfl|rfl
  .decide
  .omega
  .exact h.2.1) aJ
 grind [yP,vj]
def Jh (l:List Int)(i own:Int):(xn l i own).name.length<=3/\(xn l i own).range.length<=8/\(xn l i own).when'.length<=16:=⟨k8 _,(uC l (i+47)).2.1,(oB l (i+50)).2.1⟩
def GH {f:ct}(h:f.name.length<=7/\f.of.length<=5/\∀t∈f.of,t.length<=7):(rN f).length<=57:=by
 refine lg (B:=7) (n:=7) (fun t ht=>?_) cX;simp only[List.mem_append,cD,eD,or_false]at ht;rcases ht with(rfl|rfl)|ht
 .decide
 .exact h.1
 .exact h.2.2 t ht
structure y8 (l:List Int)(i own:Int)(r:Rec):Prop where
 nm:r.name=b8 own
 ns:r.needs=oA l i own
 v:iP r.v=true/\r.v.pre.length<=4/\r.v.build.length<=1
 bl:r.bars.length<=2
 b:∀b∈r.bars,vi r b=0/\b.name.length<=3/\b.range.length<=8/\b.when'.length<=16
 fs:iU r.feats=true/\sC r=(0,0)
 fl:r.feats.length<=4
 f:∀f∈r.feats,f.name.length<=7/\f.of.length<=5/\∀t∈f.of,t.length<=7
def vI (l:List Int)(i own:Int):(oA l i own).length<=2:=by rw[oA,Mk];exact N8 l i
def y8.good {l:List Int}{i own:Int}{r:Rec}(h:y8 l i own r):x8 r:=by
 have h1:=vI l i own;have h2:=h.bl;refine⟨⟨by rw[h.nm];exact(vH own).1,h.v.1⟩,⟨by rw[h.ns];omega,ae⟩,wi (Dk h.nm h.ns) ?_ h.fs.1 h.fs.2⟩;unfold tu;exact ox fun j hj=>(h.b _ (bL hj)).1
def y8.sm {l:List Int}{i own:Int}{r:Rec}(h:y8 l i own r):m4 r:=by
 refine⟨⟨by rw[h.nm];exact cC (k8 own) aE,cC h.v.2.1 aE,cC h.v.2.2 aE⟩,fun n hn=>?_,fun b hb=>?_,fun f hf=>?_⟩
 .obtain⟨k,rfl⟩:=uD (show n∈Cq l i own (gK l i)by rw[show Cq l i own (gK l i)=r.needs from h.ns.symm];exact hn);refine⟨fun w hw=>?_,cC (oB l (k+14)).2.1 aE,cC (sG l k own) aE⟩;obtain⟨q,_,rfl⟩:=eW.1 (show w∈rR l k own (eQ l k)from hw);obtain⟨a,b,c⟩:=x5 l (k+1+6*(q:Nat)) own (decide ((eQ l k:Int)=1));refine⟨⟨cC a aE,cC b aE⟩,fun t ht=>?_⟩
  grind [y0]
 .obtain⟨_,a,b,c⟩:=h.b b hb;exact⟨cC a aE,cC b aE,cC c aE⟩
 .obtain⟨a,b,c⟩:=h.f f hf;exact⟨cC a aE,cC b aE,fun t ht=>cC (c t ht) aE⟩
def K0 {v:gE}(h:iP v=true/\v.pre.length<=4/\v.build.length<=1):(qe v).length<=30:=by
 obtain⟨h1,h2,h3⟩:=h;have hv:=h1;simp only[iP,xm,bt,a8]at h1;have a:=fC 4 v.major.toNat ae ae;have b:=fC 4 v.minor.toNat ae ae;have c:=fC 4 v.patch.toNat ae ae
 grind [qe,H2,coreS]
def y8.len {l:List Int}{i own:Int}{r:Rec}(h:y8 l i own r):(jm r).length<=800:=by
 have h1:(qk r).length<=94:=lg (B:=30) (n:=3) (fun t ht=>by
  simp only[cD,eD,or_false]at ht;rcases ht with rfl|rfl|rfl
  .decide
  .rw[h.nm];exact cC (k8 own) aE
  .exact K0 h.v) aJ
 have h2:=mQ (f:=oL) (B:=160) (l:=r.needs) fun n hn=>by
  obtain⟨k,rfl⟩:=uD (show n∈Cq l i own (gK l i)by rw[show Cq l i own (gK l i)=r.needs from h.ns.symm];exact hn);exact GW l k own
 have h3:=mQ (f:=vj) (B:=63) (l:=r.bars) fun b hb=>IH (h.b b hb).2
 have h4:=mQ (f:=rN) (B:=57) (l:=r.feats) fun f hf=>GH (h.f f hf)
 have h5:=vI l i own;have h6:=h.bl;have h7:=h.fl;rw[h.ns]at h2;unfold jm;rw[h.ns];simp only[bA];omega
def y8.check {l:List Int}{i own:Int}{r:Rec}(h:y8 l i own r):cw r=(0,0):=by
 obtain⟨⟨a,b⟩,⟨c,d⟩,e⟩:=h.good;rw[vv a b ae ae e,aj (by have:=h.len;omega)]
def Ml (l:List Int)(i:Int):iP (GY l i)=true/\(GY l i).pre.length<=4/\(GY l i).build.length<=1:=by
 have a:=cY l i 3 aE;have b:=cY l (i+1) 2 aE;have key:∀x,x<3->∀y,y<2->∀p∈[([]:ak),KA],∀q∈[([]:ak),[55]],iP ⟨(x:Nat),(y:Nat),0,p,q⟩=true:=by decide+kernel
 have hp:qJ l i∈[([]:ak),KA]:=by unfold qJ;split<;>simp
 have hq:vE l i∈[([]:ak),[55]]:=by unfold vE;split<;>simp
 have h:=key (dI l i 3).toNat ae (dI l (i+1) 2).toNat ae _ hp _ hq;have e:(⟨((dI l i 3).toNat:Int),((dI l (i+1) 2).toNat:Int),0,qJ l i,vE l i⟩:gE)=GY l i:=by
  grind [GY,dI]
 rw[e]at h;refine⟨h, ?_, ?_⟩
 .show(qJ l i).length<=4;unfold qJ;split<;>decide
 grind
def xZ (l:List Int)(i own:Int):NdG (nP l i own):=by
 intro m hm;obtain⟨k,rfl⟩:=uD (show m∈Cq l i own (gK l i)from hm);refine⟨Eh l k own,fun h=>?_⟩;have h1:0<eQ l k:=by have:=xY l k;omega
 have:=AX (l:=l) (i:=k) (own:=own) h1;exact⟨_,ar cu.name this⟩
def GS (l:List Int)(i own:Int):(qi l i own).length<=1:=by unfold qi;split<;>simp
def MZ:∀k,k<4->lj[k]!.length<=7:=aE
def A1 (l:List Int)(i own:Int):y8 l i own (ki l i own):=by
 have hf:=GL (r:=nP l i own) (r2:=ki l i own) (l:=l) (i:=i+52) (xZ l i own) rfl rfl;refine⟨rfl,rfl,Ml l i,cC (GS l i own) aE,fun b hb=>?_,hf,vF _ _ _,fun f hf2=>?_⟩
 .obtain rfl:=GU (show b∈qi l i own from hb);exact⟨IG rfl l i,Jh l i own⟩
 .obtain⟨k,hk,e,_,_,hi,hl⟩:=qI (show f∈iY l (i+52) (nP l i own)from hf2);refine⟨by rw[e];exact MZ k hk,hl,fun t ht=>?_⟩;exact(A8 (r2:=ki l i own) (hi t ht) (xZ l i own) rfl rfl).2.2
end Go.Abs
section
namespace Go.Abs
variable {Y:Ctx}(hm:(Y.at 0).cQ)
def qy (w:ak):Prop:=w≠[]/\∀c∈w,c≠32/\c≠10
def zi (w:ak):Prop:=∀c∈w,c≠10
def fw (t:ak):ak:=(ai t 32)[0]!
def hd (R:List ak):Option ak:=R.head?.map fw
structure SM (w:cu):Prop where
 nm:qy w.name
 rg:w.range≠[]/\zi w.range
 fs:∀t∈w.feats,qy t/\∀c∈t,c≠44
 ne:aR [44] w.feats≠[45]
structure SH (n:bT):Prop where
 a:∀w∈n.any,SM w
 w:zi n.when'
 o:n.option=[]\/qy n.option
structure BarW (b:jT):Prop where
 nm:qy b.name
 rg:b.range≠[]/\zi b.range
 w:zi b.when'
structure Sa (f:ct):Prop where
 nm:qy f.name
 o:∀t∈f.of,qy t
end Go.Abs
namespace Go.Abs
variable {Y:Ctx}(hm:(Y.at 0).cQ)
structure RecW (r:Rec):Prop where
 nm:qy r.name
 v:iP r.v=true
 n:∀n∈r.needs,SH n
 b:∀b∈r.bars,BarW b
 f:∀f∈r.feats,Sa f
def xj (l:List ak):ak:=(l.map fun t=>t++[10]).flatten
def Gx (t:ak)(l:List ak):xj (t::l)=t++[10]++xj l:=by simp[xj]
def Bb:∀ls:List ak,aR [10] (ls++[[]])=xj ls
 |[]=>rfl
 |a::r=>by
  rw[eV,fQ _ _ _ aJ,Bb r,Gx]
end Go.Abs
end
namespace Go.Abs
variable {Y:Ctx}(hm:(Y.at 0).cQ)
abbrev Om (s:ak):List ak:=(ai s 10).take ((ai s 10).length-1)
abbrev vT (s:ak):ak:=(ai s 10)[(ai s 10).length-1]!
theorem Db {s:ak}(h:vT s=[]):aD s=(Om s,true):=by unfold aD;rw[aw h]
theorem Hh {s:ak}(h:¬vT s=[]):aD s=(Om s++[vT s],false):=by
 unfold aD;rw[aj h];have hp:1<=(ai s 10).length:=fm 10 s [];have:=(drop_one (l:=ai s 10) (n:=(ai s 10).length-1) ae).2;exact ar (fun l=>(l,false)) this
def Dc (s:ak):((aD s).2=true/\vT s=[]/\(aD s).1=Om s)\/((aD s).2=false/\vT s≠[]/\(aD s).1=Om s++[vT s]):=by
 by_cases h:vT s=[]
 .grind [Db]
 grind [Hh]
end Go.Abs
section
namespace Go.Abs
variable {Y:Ctx}(hm:(Y.at 0).cQ)
structure Gi where
 r:Rec
 sum:Int
 off:Bool
 deriving Inhabited,DecidableEq
def Gi.D (x:Gi):D:=.agg [.str x.r.name,.int .i64 x.r.v.major,.int .i64 x.r.v.minor,.int .i64 x.r.v.patch,.str x.r.v.pre,.str x.r.v.build,.sl 3 (x.r.needs.map bT.D),.sl 3 (x.r.bars.map jT.D),.sl 2 (x.r.feats.map ct.D),.int .u64 x.sum,.bool x.off]
structure QL where
 name:ak
 es:List Gi
 deriving Inhabited,DecidableEq
def QL.D (s:QL):D:=.agg [.str s.name,.sl 11 (s.es.map Gi.D)]
end Go.Abs
namespace Go.Abs
variable {Y:Ctx}(hm:(Y.at 0).cQ)
def Dt (r:Rec):(kv r).1.length<=4096:=by
 grind [kv,cw,jm]
end Go.Abs
end
namespace Go.Abs
variable {Y:Ctx}(hm:(Y.at 0).cQ)
def S0 (a b:Gi):Gi.D a=Gi.D b↔a=b:=by
 obtain⟨⟨n,⟨v1,v2,v3,v4,v5⟩,x,y,z⟩,s,o⟩:=a;obtain⟨⟨n',⟨w1,w2,w3,w4,w5⟩,x',y',z'⟩,s',o'⟩:=b;simp[Gi.D,zu,Ej,zt,and_assoc]
def Oc (a b:List Gi):a.map Gi.D=b.map Gi.D↔a=b:=qN S0 a b
def iShf (a b:QL):QL.D a=QL.D b↔a=b:=by cases a;cases b;simp[QL.D,Oc]
def pre1 (b c:UInt8)(r:ak):([b]:ak).isPrefixOf (c::r)=(b==c):=by simp[List.isPrefixOf]
def Lp:Option Nat->Int
 |some k=>(k:Int)
 |none=>-1
theorem oD:∀(s:ak) (b:UInt8),Lib.index s [b]=Lp (s.findIdx? (fun c=>c==b))
 |[],b=>rfl
 |c::r,b=>by
  unfold Lib.index;rw[pre1,List.findIdx?_cons,oD r b];by_cases h:c=b
  .subst h;simp[Lp]
  .have h1:(b==c)=false:=by simp[Ne.symm h]
   have h2:(c==b)=false:=by simp[h]
   simp only[h1,h2,fX,aM];cases r.findIdx? (fun c=>c==b)with
   |none=>rfl
   |some k=>
    grind [Lp]
def Pw (s:ak)(b:UInt8):Lib.cut s [b]=fO s b:=by
 unfold Lib.cut fO
 grind [oD,Lp]
def contains_eq (s:ak)(b:UInt8):Lib.contains s [b]=s.contains b:=by
 unfold Lib.contains;rw[oD];rw[Bool.eq_iff_iff];cases h:s.findIdx? (fun c=>c==b)with
 |none=>
  grind [Lp]
 |some k=>
  grind [Lp]
def GA (s p:ak):(Lib.trimPrefix s p,Lib.hasPrefix s p)=eH s p:=by
 unfold Lib.trimPrefix Lib.hasPrefix eH
 grind
def Ba (b:ak):∀l,aR b l=Lib.join l b
 |[]=>rfl
 |[t]=>(Lib.join_one t b).symm
 |t::u::r=>by
  rw[fQ _ _ _ aJ,Ba b (u::r),Lib.join_cons,Lib.join_cons];simp[Lib.joinTail]
def decDigits_eq (n:Nat):Lib.decDigits n=eh n:=by
 induction n using Nat.strongRecOn with
 |_ n ih=>
  rw[Lib.decDigits];by_cases h:n<10
  .rw[dif_pos h,pF h];rfl
  .rw[dif_neg h,pE ae,ih (n/10) ae];rfl
def MF {n:Int}(h:0<=n):Lib.itoa n=eh n.toNat:=by
 unfold Lib.itoa;rw[aj ae,decDigits_eq]
def m9 (b:UInt8):∀(s cur:ak),s.findIdx? (fun c=>c==b)=none->bH b.toNat s cur=[cur++s]
 |[],cur,_=>by simp[bH]
 |c::r,cur,h=>by
  rw[List.findIdx?_cons]at h;split at h
  .cases h
  .rename_i hc;have hr:r.findIdx? (fun c=>c==b)=none:=by
    cases hq:r.findIdx? (fun c=>c==b)with
    |none=>rfl
    |some k=>rw[hq]at h;cases h
   have hne:¬((c.toNat:Int)=(b.toNat:Int)):=fun e=>hc (by
    have:c.toNat=b.toNat:=ae;simp[lT.1 this])
   simp only[bH,aj hne];rw[m9 b r (cur++[c]) hr];simp
def lQ (b:UInt8):∀(s cur:ak) (k:Nat),s.findIdx? (fun c=>c==b)=some k->bH b.toNat s cur=(cur++s.take k)::bH b.toNat (s.drop (k+1)) []
 |[],cur,k,h=>by simp at h
 |c::r,cur,k,h=>by
  rw[List.findIdx?_cons]at h;split at h
  .grind [bH]
  .rename_i hc;have hne:¬((c.toNat:Int)=(b.toNat:Int)):=fun e=>hc (by
    have:c.toNat=b.toNat:=ae;simp[lT.1 this])
   cases hq:r.findIdx? (fun c=>c==b)with
   |none=>rw[hq]at h;cases h
   |some j=>
    rw[hq]at h;have hk:k=j+1:=by simpa using h.symm
    subst hk;simp only[bH,aj hne];rw[lQ b r (cur++[c]) j hq];simp
def yC (b:UInt8):∀(k:Nat) (s:ByteArray),Lib.countB s ⟨⟨[b]⟩⟩=k->(Lib.splitB ⟨⟨[b]⟩⟩ 0 k s).map (fun t=>t.data.toList)=ai s.data.toList b.toNat:=by
 intro k;induction k with
 |zero=>
  intro s h;rw[Lib.splitB_zero];have hi:Lib.indexB s ⟨⟨[b]⟩⟩=Lp (s.data.toList.findIdx? (fun c=>c==b)):=oD _ b;cases hq:s.data.toList.findIdx? (fun c=>c==b)with
  |none=>simp[ai,m9 b _ [] hq]
  |some j=>
   rw[hq]at hi;have:=Lib.countB_hit s ⟨⟨[b]⟩⟩ j (aF 1) hi;omega
 |succ k ih=>
  intro s h;have hi:Lib.indexB s ⟨⟨[b]⟩⟩=Lp (s.data.toList.findIdx? (fun c=>c==b)):=oD _ b;cases hq:s.data.toList.findIdx? (fun c=>c==b)with
  |none=>
   rw[hq]at hi;have:=Lib.countB_miss s ⟨⟨[b]⟩⟩ hi;omega
  |some j=>
   rw[hq]at hi;have h1:1<=(⟨⟨[b]⟩⟩:ByteArray).size:=aF 1;have hc:=Lib.countB_hit s ⟨⟨[b]⟩⟩ j h1 hi;rw[Lib.splitB_hit _ _ _ _ j hi];simp only[List.map_cons];rw[ih _ ae];have e1:(s.extract 0 (j+0)).data.toList=s.data.toList.take j:=by
    rw[Lib.extract_data];simp
   have e2:(s.extract (j+(⟨⟨[b]⟩⟩:ByteArray).size) s.size).data.toList=s.data.toList.drop (j+1):=by
    rw[Lib.extract_data];exact eM (by rw[pr,Lib.size_eq];exact aF _)
   rw[e1,e2];simp only[ai];rw[lQ b _ [] j hq];simp
end Go.Abs
section
namespace Go.Abs
variable {Y:Ctx}(hm:(Y.at 0).cQ)
open Go.Proofs
def BW (sep:ak)(k:Nat)(s:ak)(h:Lib.index s sep=-1):Lib.splitK sep 0 k s=[s]:=by
 cases k with
 |zero=>rfl
 |succ k=>unfold Lib.splitK;rw[if_pos (beq_iff_eq.2 h)]
def DN (sep:ak)(k:Nat)(s:ak)(i:Nat)(h:Lib.index s sep=i):Lib.splitK sep 0 (k+1) s=s.take i::Lib.splitK sep 0 k (s.drop (i+sep.length)):=by
 have hm:¬(Lib.index s sep==-1)=true:=fun e=>by have:=beq_iff_eq.1 e;omega
 have e:(Lib.index s sep).toNat=i:=by omega
 rw[Lib.splitK,if_neg hm,e];rfl
def kV (b:UInt8):∀(s cur:ak),aR [b] (bH b.toNat s cur)=cur++s
 |[],cur=>by simp[bH,aR]
 |c::r,cur=>by
  unfold bH;split
  .rename_i h;have hc:c=b:=by
    have:c.toNat=b.toNat:=by omega
    exact UInt8.toNat_inj.1 this
   have hne:bH b.toNat r []≠[]:=m8 r b.toNat;rw[fQ _ _ _ hne,kV b r [],hc];simp
  .rw[kV b r (cur++[c])];simp
def Gz (a:ak){l:List ak}(k:Nat)(hl:l≠[]):nX (k+2) (a::l)=a::nX (k+1) l:=by
 grind [nX]
theorem HW:∀(k:Nat) (s:ak),Lib.splitK [32] 0 k s=nX (k+1) (ai s 32):=by
 intro k;induction k with
 |zero=>
  intro s;have hj:aR [32] (ai s 32)=s:=by
   have:=kV 32 s [];simpa[ai]using this
  unfold nX;split
  .rename_i h;show [s]=_;have hne:ai s 32≠[]:=m8 _ _
   match hq:ai s 32,hne,h with
   |[t],_,_=>rw[hq]at hj;rw[<-hj];rfl
   |_::_::_,_,h=>simp at h
  .simp only[Nat.zero_add,Nat.sub_self,List.take_zero,List.drop_zero,List.nil_append,hj];rfl
 |succ k ih=>
  intro s;have hi:=oD s 32;cases hq:s.findIdx? (fun c=>c==32)with
  |none=>
   rw[hq]at hi;have hs:ai s 32=[s]:=by have:=m9 32 s [] hq;simpa[ai]using this
   rw[BW _ _ _ hi,hs];rfl
  |some j=>
   rw[hq]at hi;have hs:ai s 32=s.take j::ai (s.drop (j+1)) 32:=by have:=lQ 32 s [] j hq;simpa[ai]using this
   rw[DN _ _ _ j hi,hs,Gz _ _ (m8 _ _),ih];rfl
def DV (n:Nat)(h:1<=n)(s:ak):Lib.splitK [32] 0 (min n (s.length+1) -1) s=iE (n:Int) s:=by
 grind [dE,HW,iE,nX]
def Td (c d:UInt8)(r:ak):([124,124]:ak).isPrefixOf (c::d::r)=(decide (c=124)&&decide (d=124)):=by
 grind
theorem yE:∀(s cur:ak),Lib.index s [124,124]=-1->a7 s cur=[cur++s]
 |[],cur,_=>by simp[a7]
 |[c],cur,_=>rfl
 |c::d::r,cur,h=>by
  unfold Lib.index at h;rw[Td]at h;by_cases h2:c=124/\d=124
  .simp[h2.1,h2.2]at h
  .have h3:(decide (c=124)&&decide (d=124))=false:=by rw[<-Bool.decide_and];exact decide_eq_false h2
   rw[h3,if_neg (by simp)]at h;have h4:Lib.index (d::r) [124,124]=-1:=by
    have:=Lib.index_ge (d::r) [124,124]
    grind
   rw[a7,if_neg h2,yE (d::r) _ h4];simp
def yD:∀(s cur:ak) (i:Nat),Lib.index s [124,124]=i->a7 s cur=(cur++s.take i)::a7 (s.drop (i+2)) []
 |[],cur,i,h=>by simp[Lib.index]at h
 |[c],cur,i,h=>by simp[Lib.index,List.isPrefixOf]at h
 |c::d::r,cur,i,h=>by
  unfold Lib.index at h;rw[Td]at h;by_cases h2:c=124/\d=124
  .rw[h2.1,h2.2]at h;have hi:i=0:=by simp at h;omega
   subst hi;rw[a7,if_pos h2];simp
  .have h3:(decide (c=124)&&decide (d=124))=false:=by rw[<-Bool.decide_and];exact decide_eq_false h2
   rw[h3,if_neg (by simp)]at h;split at h
   .omega
   .obtain⟨j,rfl⟩:∃j,i=j+1:=⟨i-1,by
     have:=Lib.index_ge (d::r) [124,124];rename_i h5;have:Lib.index (d::r) [124,124]≠-1:=fun e=>h5 (beq_iff_eq.2 e)
     omega⟩
    rw[a7,if_neg h2,yD (d::r) _ j (by omega)];simp
def HV:∀(k:Nat) (s:ByteArray),Lib.countB s ⟨⟨[124,124]⟩⟩=k->(Lib.splitB ⟨⟨[124,124]⟩⟩ 0 k s).map (fun t=>t.data.toList)=a7 s.data.toList []:=by
 intro k;induction k with
 |zero=>
  intro s h;rcases Lib.indexB_cases s ⟨⟨[124,124]⟩⟩with hi|⟨i,hi,_⟩
  .rw[Lib.splitB_zero]
   grind [yE]
  .have:=Lib.countB_hit s ⟨⟨[124,124]⟩⟩ i (by decide) hi;omega
 |succ k ih=>
  intro s h;rcases Lib.indexB_cases s ⟨⟨[124,124]⟩⟩with hi|⟨i,hi,_⟩
  .rw[Lib.countB_miss _ _ hi]at h;omega
  .have hc:=Lib.countB_hit s ⟨⟨[124,124]⟩⟩ i (by decide) hi;rw[Lib.splitB_hit _ _ _ _ i hi,List.map_cons,ih _ (by omega),yD _ _ i (show Lib.index s.data.toList [124,124]=i from hi),Lib.extract_from_zero,Lib.extract_to_end];rfl
def yL {p:UInt8->Bool}:∀(l:ak),∀x∈l.takeWhile p,p x=true
 |[],x,h=>by cases h
 |a::r,x,h=>by
  rw[List.takeWhile_cons]at h;split at h
  .rename_i ha;rcases List.mem_cons.1 h with rfl|h
   .exact ha
   .exact yL r x h
  .cases h
theorem sz {p:UInt8->Bool}:∀(l:ak),(∀x∈l,p x=true)->l.dropWhile p=[]
 |[],_=>rfl
 |a::r,h=>by
  rw[List.dropWhile_cons,if_pos (h a (.head _))];exact sz r fun x hx=>h x (.tail _ hx)
def vk:∀s,rA s=s.dropWhile (· ==32)
 |[]=>rfl
 |c::r=>by
  unfold rA;by_cases h:c=32
  .rw[if_pos h,vk r];simp[h]
  .rw[if_neg h,List.dropWhile_cons,if_neg (by simpa using h)]
def IJ (s:ak):Lib.trimB s 32=gF s:=by
 unfold Lib.trimB Lib.trimLeftB Lib.trimRightB gF;rw[vk,vk];generalize hp:(fun c:UInt8=>c==32)=p;have hs:s=s.takeWhile p++s.dropWhile p:=(List.takeWhile_append_dropWhile).symm;generalize ha:s.takeWhile p=a at hs;generalize hm:s.dropWhile p=m at hs;have hall:∀x∈a,p x=true:=by rw[<-ha];exact yL s
 subst hs;rw[List.reverse_append,List.dropWhile_append];cases m with
 |nil=>
  grind [sz]
 |cons c r=>
  have hc:p c=false:=by
   have:=List.head_dropWhile_not p (l:=a++c::r) (by rw[hm];simp);simpa[hm]using this
  have hne:((c::r).reverse.dropWhile p)≠[]:=by
   rw[List.reverse_cons,List.dropWhile_append];split
   .simp[hc]
   .simp
  rw[if_neg (by simpa using hne),List.reverse_append,List.reverse_reverse,List.dropWhile_append,sz _ hall];simp only[List.isEmpty_nil,if_true];rw[List.reverse_cons,List.dropWhile_append];split
  .simp[hc]
  .simp[hc]
end Go.Abs
namespace Go.Proofs
open Go.Shelf Go.RowKit Go.Lib
set_option maxHeartbeats 1000000 in
theorem DO {P:Program}{J:Ren}(L:Lays.n147 P J)(hi9:(P.info? (J.t 9)).map (fun i=>(i.zero,i.size,i.bytes))=some (some (.string ByteArray.empty),1,16))(s sep:ByteArray)(m:Int)(w:World)
  (hs:s.size<4294967281) (hm:w.cell? ⟨(J.g 1),0,none⟩=some (.int .i64 m)) (h1:1<=sep.size):
  Calls P (J.f 147) #[.string s,.string sep,.int .i64 (-1)] w fun e w'=>
   e=.returned (.slice (some ⟨w.heap.size,0,none⟩) (Lib.splitB sep 0 (Lib.countB s sep) s).length (Lib.countB s sep+1))/\w'=w.alloc (.cells (Lib.cellsOf (Lib.splitB sep 0 (Lib.countB s sep) s) (Lib.countB s sep+1)) (J.t 9)):=by
 have hle:=Lib.countB_le sep h1 s.size s (Nat.le_refl _);have c:=Any.strings_genSplit {L with} hi9 s sep 0 (-1) (Lib.countB s sep+1) m w hs hm h1 (Nat.zero_le _) (by decide) (by decide) (by rw[if_pos (by decide)];omega);rw[Nat.add_sub_cancel]at c;have t3:=L.t3;have t9:=L.t9;have t31:=L.t31;have a3:=L.a3;have a9:=L.a9;have a31:=L.a31;have z3:=L.z3;have v3:=L.v3;have z9:=L.z9;have v9:=L.v9;have z31:=L.z31;have v31:=L.v31;have e221:∀args w,(callFunc (J.f 221) args).run P w=.ok (.enter (J.f 221) args) w:=enters_of L.f221 (by kernel_rfl) rfl
 go_enter L.f147,Body.n147_ntmps J
 go_wp2_with (go_at_fn (J.f 221);refine c.mono ?_;rintro e w' ⟨rfl,hw⟩;rw[hw])
 go_ret
 exact⟨rfl,rfl⟩
end Go.Proofs
end
section
namespace Go.Abs
variable {Y:Ctx}(hm:(Y.at 0).cQ)
def eg (t:ak):ak×Bool:=if t.getLast? =some 10 then(t.dropLast,true)else(t,false)
def hH (s:ak):List ak:=(Om s).map (· ++[10])++[vT s]
def ik (s:ak):List ak:=if vT s=[]then(Om s).map (· ++[10])else hH s
def oY (p:Nat->Bool):Nat->Nat->Nat
 |k,0=>k
 |k,f+1=>if p k=true then k else oY p (k+1) f
def q9 (p:Nat->Bool)(k n:Nat):Nat:=oY p k (n-k)
def KO {p:Nat->Bool}{k n:Nat}(h:k<n)(hp:p k=true):q9 p k n=k:=by
 unfold q9;rw[show n-k=(n-(k+1))+1 by omega,oY,aw hp]
def Ny {p:Nat->Bool}{k n:Nat}(h:k<n)(hp:p k=false):q9 p k n=q9 p (k+1) n:=by
 unfold q9;rw[show n-k=(n-(k+1))+1 by omega,oY,aj (by simp[hp])]
def KN {p:Nat->Bool}{k n:Nat}(h:n<=k):q9 p k n=k:=by
 unfold q9;rw[show n-k=0 by omega,oY]
theorem BU (p:Nat->Bool):∀f k,k<=oY p k f/\oY p k f<=k+f
 |0,k=>⟨aF _,aF _⟩
 |f+1,k=>by
  have:=BU p f (k+1);unfold oY;split<;>omega
def Nx (p:Nat->Bool){k n:Nat}(h:k<=n):q9 p k n<=n:=by
 grind [BU,q9]
def tQ {p q:Nat->Bool}:∀f k,(∀j,k<=j->j<k+f->p j=q j)->oY p k f=oY q k f
 |0,_,_=>rfl
 |f+1,k,h=>by
  unfold oY;rw[h k (aF _) ae,tQ f (k+1) fun j h1 h2=>h j ae ae]
def DK {p q:Nat->Bool}{k n:Nat}(h:∀j,k<=j->j<n->p j=q j):q9 p k n=q9 q k n:=tQ _ _ fun j h1 h2=>h j h1 ae
def slice {α:Type}(l:List α)(a b:Nat):List α:=(l.take b).drop a
def mM (L:List ak)(en:Bool)(i:Nat):Bool:=en ||decide (i+1<L.length)
def AD (l:List ak)(en:Bool):ak:=if en=true then xj l else aR [10] l
def wj (s:ak):(∃A,aD s=(A,true)/\ik s=A.map (· ++[10]))\/∃A b,aD s=(A++[b],false)/\ik s=A.map (· ++[10])++[b]:=by
 rcases Dc s with⟨h1,h2,h3⟩|⟨h1,h2,h3⟩
 .grind [ik]
 .exact .inr ⟨Om s,vT s,Prod.ext h3 h1,by unfold ik;rw[aj h2];rfl⟩
theorem pR (s:ak):(ik s).length=(aD s).1.length:=by
 rcases wj s with⟨A,h1,h2⟩|⟨A,b,h1,h2⟩<;>rw[h1,h2]<;>simp
def Ds {s:ak}{i:Nat}(h:i<(aD s).1.length):(ik s)[i]! =(aD s).1[i]! ++(if mM (aD s).1 (aD s).2 i=true then [10]else []):=by
 rcases wj s with⟨A,h1,h2⟩|⟨A,b,h1,h2⟩
 .grind [mM]
 grind [mM]
theorem pc:∀(s cur:ak),(∀c∈cur,c≠10)->∀t∈bH 10 s cur,∀c∈t,c≠10
 |[],cur,h,t,ht=>by
  grind [bH]
 |a::r,cur,h,t,ht=>by
  unfold bH at ht;split at ht
  .rcases cD.1 ht with rfl|ht
   .exact h
   .exact pc r [] aJ t ht
  .rename_i hn;refine pc r (cur++[a]) (fun c hc=>?_) t ht;rcases List.mem_append.1 hc with hc|hc
   .exact h c hc
   .rw[cT.1 hc];rintro rfl;exact hn rfl
def vO {s t:ak}(h:t∈(aD s).1):∀c∈t,c≠10:=by
 grind [ai,pc,aD]
def yQ {t:ak}(h:∀c∈t,c≠10)(b:Bool):eg (t++(if b=true then [10]else []))=(t,b):=by
 grind [eg]
def Px (t:ak):(fO t 32).1=fw t:=by
 unfold fw fO;cases hq:t.findIdx? (fun c=>c==32)with
 |none=>
  have hs:ai t 32=[t]:=by have:=m9 32 t [] hq;simpa[ai]using this
  rw[hs];rfl
 |some j=>
  have hs:ai t 32=t.take j::ai (t.drop (j+1)) 32:=by have:=lQ 32 t [] j hq;simpa[ai]using this
  rw[hs];rfl
def yc:∀l:List ak,aR [] l=l.flatten
 |[]=>rfl
 |[t]=>by simp[aR]
 |t::u::r=>by
  have:=yc (u::r);simp only[aR,this];simp
def yd (t:ak):∀l:List ak,aR [10] (l++[t])=xj l++t
 |[]=>rfl
 |[u]=>by simp[aR,xj]
 |u::v::r=>by
  have:=yd t (v::r)
  grind [aR,xj]
def HT {α β:Type}(f:α->β)(l:List α)(a b:Nat):slice (l.map f) a b=(slice l a b).map f:=by simp[slice]
def L1 {s:ak}{a b:Nat}(ha:a<=b)(hb:b<=(aD s).1.length):aR [] (slice (ik s) a b)=AD (slice (aD s).1 a b) ((aD s).2 ||decide (b<(aD s).1.length)):=by
 rw[yc];rcases wj s with⟨A,h1,h2⟩|⟨A,d,h1,h2⟩
 .rw[h1,h2,HT];simp only[Bool.true_or,AD,aP];rfl
 .rw[h1]at hb⊢;rw[h2];simp only[bA,aH,aO,Bool.false_or]at hb⊢;by_cases hl:b<A.length+(0+1)
  .have e1:slice (A.map (· ++[10])++[d]) a b=(slice A a b).map (· ++[10]):=by
    unfold slice;rw[List.take_append_of_le_length (by simp only[bz];omega)];simp
   have e2:slice (A++[d]) a b=slice A a b:=by
    unfold slice;rw[List.take_append_of_le_length ae]
   rw[e1,e2,AD,aw (cK hl)];rfl
  .have hq:b=A.length+1:=ae;rw[AD,aj (by simpa using hl)];by_cases h4:a=b
   .have e1:∀l:List ak,l.length<=b->slice l a b=[]:=fun l hl=>jR cX
    rw[e1 _ cX,e1 _ cX];rfl
   .have ha2:a<=A.length:=ae;have e1:slice (A.map (· ++[10])++[d]) a b=(A.drop a).map (· ++[10])++[d]:=by
     unfold slice;rw[eM cX,List.drop_append_of_le_length (by simpa using ha2),List.map_drop]
    have e2:slice (A++[d]) a b=A.drop a++[d]:=by
     unfold slice;rw[eM cX,List.drop_append_of_le_length ha2]
    rw[e1,e2,yd];simp[xj]
end Go.Abs
namespace Go.Abs
variable {Y:Ctx}(hm:(Y.at 0).cQ)
def J8 (s:ak):1<=(hH s).length:=by unfold hH;simp
def J9 (s:ak):ik s=if(hH s)[(hH s).length-1]! =[]then(hH s).take ((hH s).length-1)else hH s:=by
 grind [hH,ik]
def wX (s:ak):(eg s).1.length<=s.length:=by
 grind [eg]
end Go.Abs
namespace Go.Abs
variable {Y:Ctx}(hm:(Y.at 0).cQ)
def zL {s t:ak}(h:t∈ik s):t.length<=s.length+1:=by
 have h1:t∈hH s:=by
  grind [ik,hH]
 unfold hH at h1;rcases List.mem_append.1 h1 with h2|h2
 .obtain⟨u,hu,rfl⟩:=eW.1 h2;have:=dm s 10 (lU hu);simp;omega
 grind [fm,ra,ai]
def Ez {s:ak}{i:Nat}(h:i<(ik s).length):(ik s)[i]!.length<=s.length+1:=zL (bL h)
end Go.Abs
namespace Go.Abs
variable {Y:Ctx}(hm:(Y.at 0).cQ)
def HU {α:Type}{l:List α}{a b:Nat}{x:α}(h:x∈slice l a b):x∈l:=lU (List.mem_of_mem_drop h)
end Go.Abs
namespace Go.Abs
variable {Y:Ctx}(hm:(Y.at 0).cQ)
def KB (t:ak):m4 (dq t).1:=by
 unfold dq;split
 .exact uM
 .rename_i h;dsimp only;have hL:xI ((ai t 10).take ((ai t 10).length-1)):=fun u hu=>by
   have:=dm t 10 (lU hu);omega
  grind [uM,EJ]
def Ka (s:ak):(ik s).length<=s.length+1:=by
 grind [pR,dE,aD]
end Go.Abs
end
namespace Go.Abs
variable {Y:Ctx}(hm:(Y.at 0).cQ)
structure dW where
 name:ak
 shelf:ak
 deriving Inhabited,DecidableEq
def dW.D (x:dW):D:=.agg [.str x.name,.str x.shelf]
structure bF where
 name:ak
 range:ak
 deriving Inhabited,DecidableEq
def bF.D (x:bF):D:=.agg [.str x.name,.str x.range]
structure iq where
 r:Rec
 ps:List dW
 hs:List bF
 deriving Inhabited,DecidableEq
def iq.D (x:iq):D:=.agg [.str x.r.name,.int .i64 x.r.v.major,.int .i64 x.r.v.minor,.int .i64 x.r.v.patch,.str x.r.v.pre,.str x.r.v.build,.sl 3 (x.r.needs.map bT.D),.sl 3 (x.r.bars.map jT.D),.sl 2 (x.r.feats.map ct.D),.sl 2 (x.ps.map dW.D),.sl 2 (x.hs.map bF.D)]
def dW.eq (a b:dW):gJ (dW.D a).cells (dW.D b).cells=decide (a=b):=by
 obtain⟨a1,a2⟩:=a;obtain⟨b1,b2⟩:=b
 grind [dW.D,D.cells,gJ,nv]
def bF.eq (a b:bF):gJ (bF.D a).cells (bF.D b).cells=decide (a=b):=by
 obtain⟨a1,a2⟩:=a;obtain⟨b1,b2⟩:=b
 grind [bF.D,D.cells,gJ,nv]
def Kb (l:List dW)(i:Nat):Int:=if(ee l[i]!.name=false\/ee l[i]!.shelf=false)\/(0<i/\Op.bytesLess l[i-1]!.name l[i]!.name=false)then 15 else 0
def tD (l:List bF)(i:Nat):Int:=if ee l[i]!.name=false\/(0<i/\Op.bytesLess l[i-1]!.name l[i]!.name=false)then 4 else if im l[i]!.range=false then 6 else 0
def oP (l:List dW):Int×Int:=fD (Kb l) 0 l.length
def nC (l:List bF):Int×Int:=fD (tD l) 0 l.length
def dA (m:iq):Int×Int:=if ¬(cw m.r).1=0 then cw m.r else if 8<m.ps.length\/8<m.hs.length then(3,0)else if ¬(oP m.ps).1=0 then oP m.ps else nC m.hs
def wW:ak:=[112,105,110]
def pk:ak:=[104,111,108,100]
def HB (x:dW):ak:=b9 [wW,x.name,x.shelf]
def A5 (x:bF):ak:=b9 [pk,x.name,x.range]
def EW (m:iq):ak:=jm m.r++((m.ps.map HB).flatten++(m.hs.map A5).flatten)
def qR (m:iq):ak×Int:=if ¬(dA m).1=0 then([],(dA m).1)else(EW m,0)
def AE {m:iq}(h:(dA m).1=0):(cw m.r).1=0:=by
 unfold dA at h;split at h
 .rename_i h1;exact absurd h h1
 .rename_i h1;exact Classical.not_not.1 h1
def recN:Rec:=⟨[],kB,[],[],[]⟩
def zE:iq:=⟨recN,[],[]⟩
def isM (w:ak):Bool:=decide (w=wW) ||decide (w=pk)
def kM (L:List ak):Nat:=q9 (fun j=>isM (fw L[j]!)) 0 L.length
def mw (q:List dW×List bF)(t:ak):Option (List dW×List bF):=
 if(ai t 32)[0]! =wW then(if(q.2.length=0/\(ai t 32).length=3)/\¬(ai t 32)[1]! =[]/\¬(ai t 32)[2]! =[]then some (q.1++[⟨(ai t 32)[1]!,(ai t 32)[2]!⟩],q.2)else none)
 else if((ai t 32)[0]! =pk/\3<=(ai t 32).length)/\¬(ai t 32)[1]! =[]/\¬aR [32] ((ai t 32).drop 2)=[]then some (q.1,q.2++[⟨(ai t 32)[1]!,aR [32] ((ai t 32).drop 2)⟩])else none
def wO (L:List ak)(en:Bool):Nat->List dW×List bF->Nat->(List dW×List bF)×Int
 |0,q,_=>(q,0)
 |f+1,q,i=>if i<L.length then(if mM L en i=false then(([],[]),(i:Int)+1)else match mw q L[i]! with
   |none=>(([],[]),(i:Int)+1)
   |some q'=>wO L en f q' (i+1))
  else(q,0)
def jy (L:List ak)(en:Bool)(q:List dW×List bF)(i:Nat):(List dW×List bF)×Int:=wO L en (L.length-i) q i
def ek (s:ak):ak:=AD (slice (aD s).1 0 (kM (aD s).1)) ((aD s).2 ||decide (kM (aD s).1<(aD s).1.length))
def zo (r:Rec)(q:(List dW×List bF)×Int):iq×Int×Int:=if ¬q.2=0 then(zE,2,q.2)else if ¬(dA ⟨r,q.1.1,q.1.2⟩).1=0 then(zE,(dA ⟨r,q.1.1,q.1.2⟩).1,0)else(⟨r,q.1.1,q.1.2⟩,0,0)
def kN (s:ak):iq×Int×Int:=if 8192<s.length then(zE,3,0)else if ¬(dq (ek s)).2.1=0 then(zE,(dq (ek s)).2.1,(dq (ek s)).2.2)else
 zo (dq (ek s)).1 (jy (aD s).1 (aD s).2 ([],[]) (kM (aD s).1))
def HO {L:List ak}{en:Bool}{q:List dW×List bF}{i:Nat}(h:L.length<=i):jy L en q i=(q,0):=by
 unfold jy;rw[show L.length-i=0 by omega];rfl
def HN {L:List ak}{en:Bool}{q:List dW×List bF}{i:Nat}(h:i<L.length)(hw:mM L en i=false):jy L en q i=(([],[]),(i:Int)+1):=by
 unfold jy;rw[show L.length-i=(L.length-(i+1))+1 by omega,wO,aw h,aw hw]
def KH {L:List ak}{en:Bool}{q:List dW×List bF}{i:Nat}(h:i<L.length)(hq:mw q L[i]! =none):jy L en q i=(([],[]),(i:Int)+1):=by
 unfold jy;rw[show L.length-i=(L.length-(i+1))+1 by omega,wO,aw h,hq];split<;>rfl
def wD {L:List ak}{en:Bool}{q q':List dW×List bF}{i:Nat}(h:i<L.length)(hw:mM L en i=true)(hq:mw q L[i]! =some q'):jy L en q i=jy L en q' (i+1):=by
 unfold jy;rw[show L.length-i=(L.length-(i+1))+1 by omega,wO,aw h,aj (by rw[hw];simp),hq]
def aV (t:ak):List ak:=if(ai t 32).length<3 then ai t 32 else [(ai t 32)[0]!,(ai t 32)[1]!,aR [32] ((ai t 32).drop 2)]
def wL (b:UInt8):∀(s cur:ak),(∀c∈cur,c≠b)->∀t∈bH b.toNat s cur,∀c∈t,c≠b
 |[],cur,h,t,ht=>by
  simp only[bH,cT]at ht;rw[ht];exact h
 |a::r,cur,h,t,ht=>by
  unfold bH at ht;split at ht
  .rcases cD.1 ht with rfl|ht
   .exact h
   .exact wL b r [] aJ t ht
  .rename_i hn;refine wL b r (cur++[a]) (fun c hc=>?_) t ht;rcases List.mem_append.1 hc with hc|hc
   .exact h c hc
   .rw[cT.1 hc];rintro rfl;exact hn rfl
def Ov {t:ak}(h:3<=(ai t 32).length):(aR [32] ((ai t 32).drop 2)).contains 32=!decide ((ai t 32).length=3):=by
 have hn:∀u∈ai t 32,∀c∈u,c≠32:=fun u hu=>wL 32 t [] aJ u (by simpa[ai]using hu)
 match hq:ai t 32,h with
 |a::b::c::r,_=>
  rw[hq]at hn;cases r with
  |nil=>
   simp only[List.drop_succ_cons,bN,aR,aH,aO];simp only[decide_true,Bool.not_true];rw[Bool.eq_false_iff];intro h;exact hn c aJ 32 (by simpa using h) rfl
  |cons d r=>
   simp only[List.drop_succ_cons,bN,aR,aH];simp
def wH {t:ak}(h:(aV t).length=3):3<=(ai t 32).length/\(aV t)[0]! =(ai t 32)[0]! /\(aV t)[1]! =(ai t 32)[1]! /\(aV t)[2]! =aR [32] ((ai t 32).drop 2):=by
 unfold aV at h⊢;split at h
 .omega
 .rename_i h3;rw[aj h3];exact⟨ae,rfl,rfl,rfl⟩
def BZ {q:List dW×List bF}{t:ak}(h:(aV t).length=3)(h1:¬(aV t)[1]! =[])(h2:¬(aV t)[2]! =[])(h0:(aV t)[0]! =wW):
  mw q t=if(decide (q.2.length=0)&& !(aV t)[2]!.contains 32)=true then some (q.1++[⟨(aV t)[1]!,(aV t)[2]!⟩],q.2)else none:=by
 obtain⟨h3,e0,e1,e2⟩:=wH h;rw[e0]at h0;rw[e1]at h1⊢;rw[e2]at h2⊢;rw[Ov h3];unfold mw;rw[aw h0];by_cases h4:(ai t 32).length=3
 .have e:aR [32] ((ai t 32).drop 2)=(ai t 32)[2]! :=by
   match hq:ai t 32,h4 with
   |[a,b,c],_=>rfl
  rw[e]at h2⊢;by_cases h5:q.2.length=0
  .rw[aw ⟨⟨h5,h4⟩,h1,h2⟩,aw (by rw[cK h5,cK h4];rfl)]
  .rw[aj (fun h=>h5 h.1.1),aj (by rw[dJ h5];simp)]
 .rw[aj (fun h=>h4 h.1.2),aj (by rw[dJ h4];simp)]
def HY {q:List dW×List bF}{t:ak}(h:(aV t).length=3)(h1:¬(aV t)[1]! =[])(h2:¬(aV t)[2]! =[])(h0:(aV t)[0]! =pk):
  mw q t=some (q.1,q.2++[⟨(aV t)[1]!,(aV t)[2]!⟩]):=by
 obtain⟨h3,e0,e1,e2⟩:=wH h;rw[e0]at h0;rw[e1]at h1⊢;rw[e2]at h2⊢;unfold mw;rw[aj (by rw[h0];decide),aw ⟨⟨h0,h3⟩,h1,h2⟩]
def EU {q:List dW×List bF}{t:ak}(h:¬(aV t).length=3\/(aV t).contains []=true\/(¬(aV t)[0]! =wW/\¬(aV t)[0]! =pk)):mw q t=none:=by
 by_cases h3:(ai t 32).length<3
 .unfold mw;split
  .rw[aj ae]
  .rw[aj ae]
 .have hs:aV t=[(ai t 32)[0]!,(ai t 32)[1]!,aR [32] ((ai t 32).drop 2)]:=by unfold aV;rw[aj h3]
  have hl:(aV t).length=3:=by rw[hs];rfl
  obtain⟨_,e0,e1,e2⟩:=wH hl;rcases h with h|h|⟨h4,h5⟩
  .exact absurd hl h
  .have h':(ai t 32)[0]! =[]\/(ai t 32)[1]! =[]\/aR [32] ((ai t 32).drop 2)=[]:=by
    rw[hs]at h;generalize (ai t 32)[0]! =a at h⊢;generalize (ai t 32)[1]! =b at h⊢;generalize aR [32] ((ai t 32).drop 2)=c at h⊢;have:([]:ak)∈[a,b,c]:=by simpa using h
    simp only[cD,eD,or_false]at this;exact this.imp Eq.symm (fun h=>h.imp Eq.symm Eq.symm)
   unfold mw;split
   .rename_i hp;rw[aj];rintro⟨⟨_,h5⟩,h6,h7⟩;rcases h' with h'|h'|h'
    .rw[hp]at h';cases h'
    .exact h6 h'
    .have e:aR [32] ((ai t 32).drop 2)=(ai t 32)[2]! :=by
      match hq:ai t 32,h5 with
      |[a,b,c],_=>rfl
     exact h7 (e▸h')
   .rw[aj];rintro⟨⟨h4,_⟩,h6,h7⟩;rcases h' with h'|h'|h'
    .rw[h4]at h';cases h'
    .exact h6 h'
    .exact h7 h'
  .rw[e0]at h4 h5;unfold mw;rw[aj h4,aj (fun h=>h5 h.1.1)]
def S2 (a b:dW):dW.D a=dW.D b↔a=b:=by cases a;cases b;simp[dW.D]
def Og (a b:List dW):a.map dW.D=b.map dW.D↔a=b:=qN S2 a b
def Oe (a b:bF):bF.D a=bF.D b↔a=b:=by cases a;cases b;simp[bF.D]
def Jl (a b:List bF):a.map bF.D=b.map bF.D↔a=b:=qN Oe a b
def iMan (a b:iq):iq.D a=iq.D b↔a=b:=by
 obtain⟨⟨n,⟨v1,v2,v3,v4,v5⟩,x,y,z⟩,p,h⟩:=a;obtain⟨⟨n',⟨w1,w2,w3,w4,w5⟩,x',y',z'⟩,p',h'⟩:=b;simp[iq.D,zu,Ej,zt,Og,Jl,and_assoc]
def GB {A:RT->Prop}(h:A (fun ds d=>A fun ds' d'=>ds'=ds->d=d'):=by
 (repeat' first|apply And.intro|intro _)
 all_goals rename_i e
 all_goals (try simp only[rl,D.str.injEq,D.int.injEq,D.bool.injEq,D.sl.injEq,D.ref.injEq,D.agg.injEq,D.fn.injEq,G3,iInt,iByt,iVer,Oh,Jm,Of,zu,SY,Ej,Od,zt,iRec,Oc,iShf,S0,S2,Og,Oe,Jl,iMan,SZ,Ob,iNd,S1,PG,iRng,SX,iMrk,iPr,iU8,lT,Mu,bQ,bY,reduceCtorEq,cy,cx]at e)
 all_goals first|rfl|(simp only[e];done)|simp_all):R8 (zD A):=Py h
end Go.Abs
section
namespace Go.Abs
variable {Y:Ctx}(hm:(Y.at 0).cQ)
structure R9 (x:Gi):Prop where
 w:RecW x.r
 c:cw x.r=(0,0)
 l:(jm x.r).length<=800
 s:Tw x.r=x.sum
 m:m4 x.r
def R9.sa {x:Gi}(h:R9 x):0<=x.sum/\x.sum<18446744073709551616:=by
 rw[<-h.s];unfold Tw;split
 .decide
 .exact DQ _
end Go.Abs
namespace Go.Abs
variable {Y:Ctx}(hm:(Y.at 0).cQ)
end Go.Abs
end
namespace Go.Abs
variable {Y:Ctx}(hm:(Y.at 0).cQ)
def join_one {l:List ak}(h:l≠[]):aR [10] l++[10]=xj l:=by
 rw[<-Bb];induction l with
 |nil=>exact absurd rfl h
 |cons a r ih=>
  match r with
  |[]=>simp[aR]
  |b::q=>
   have:=ih aJ;simp only[eV,aR,dU]at this⊢;rw[this]
def Jz {s:ak}{i:Nat}(h:i<(aD s).1.length):(aD s).1[i]!.length<=s.length+1:=by
 have h1:=Ez (s:=s) (i:=i) (by rw[pR];exact h);rw[Ds h,bA]at h1;omega
def Fw (T:List D->D->Prop):Prop:=∀(s:ak),(s.length<=1048576)->T [.str s,.str [10],.int .i64 1,.int .i64 (-1)] (.sl 1 ((hH s).map D.str))
def Rl (Y:Ctx):Prop:=Fw (ch Y 331)
def Fp (T:List D->D->Prop):Prop:=∀(s:ak),(s.length<=1048576)->T [.str s,.str [10]] (.tup [.str (eg s).1,.bool (eg s).2])
def Ri (Y:Ctx):Prop:=Fp (ch Y 244)
section
theorem qu {a b:Nat}(h:a≠b):Nat.beq a b=false:=by
 cases h2:Nat.beq a b with
 |false=>rfl
 |true=>exact absurd (Nat.eq_of_beq_eq_true h2) h
def sw {a b:Nat}(h:Nat.beq a b=false):Nat.beq b a=false:=by grind [qu]
section
variable [cP] {P:Program} {ν:List (Nat×Nat)} {cj:List Nat} {t:List (Nat×nV)} {fid n key u k:Nat} {af:aN} {aai:List D} {nx:Nat} {m:List (Nat×bp)} {K:D->St->Prop}
def H0 {a:D}{k q i:Nat}{es:List D}{m1:List (Nat×bp)}(ha:a.aX=true)(hes:aY es=true)(hmix:P.follows .mixedOrders=true)(hC:Ie P ν cj fid af)(hnp:1=af.np)
  (hl:look m1 q=some (.buf k es)) (hK:K (.own nx k 0 i) ⟨nx+1,(nx,.buf k es)::m⟩) (hw:ca ((under t key u).at 0) af.body (nU af (One (.own q k 0 i) m1)) (gh af [a]) ⟨0,[]⟩):nL P ν cj (under t key u) fid [a] ⟨nx,m⟩ K:=by
 refine x7 (σi:=[]) (m0:=[]) (cs:=[a]) (fun q=>wT t key u q) hmix hC rfl ?_ hnp rfl (fun _ _ h=>by cases h) (fun _ _ h=>by cases h) hw ?_
 .intro i hi
  match i,hi with
  |0,_=>exact .inl ⟨rfl,ha⟩
 .rintro d m2 ⟨rfl,rfl⟩;refine⟨[(q,nx)],q+1,_,.own nx k 0 i,⟨rfl, ?_,Nat.le_succ _,(fun _ _ h=>by cases h), ?_,(fun _ _ h=>by cases h), ?_⟩,.inr (.inl (by simp[r8,HP,lu])),hK⟩
  .simp[gN]
  .grind
  .intro l bb h;simp only[look]at h;split at h
   .rename_i e;subst e;obtain rfl:=br h;exact .inl ⟨q,_,.head _,hl,rfl,.inl ⟨rfl,hes⟩⟩
   .rename_i hn;exact .inr ⟨by simp only[kT,aj hn],(fun _ h=>by cases h),h⟩
end
end
def eO (r:Rec)(p h:D):D:=.agg [.str r.name,.int .i64 r.v.major,.int .i64 r.v.minor,.int .i64 r.v.patch,.str r.v.pre,.str r.v.build,.sl 3 (r.needs.map bT.D),.sl 3 (r.bars.map jT.D),.sl 2 (r.feats.map ct.D),p,h]
def Ao (m:List (Nat×bp))(r:Rec)(ps:List dW)(hs:List bF):Prop:=look m 2=some (.buf 11 [eO r (.own 4 2 0 ps.length) (.own 5 2 0 hs.length)])/\look m 4=some (.buf 2 (ps.map dW.D))/\look m 5=some (.buf 2 (hs.map bF.D))
def LL (r:Rec)(ps:List dW)(hs:List bF):List (Nat×bp):=[(0,.buf 11 [eO r (.own 1 2 0 ps.length) (.own 2 2 0 hs.length)]),(1,.buf 2 (ps.map dW.D)),(2,.buf 2 (hs.map bF.D))]
def LM (r:Rec)(q:List dW×List bF)(b:Bool):D->List (Nat×bp)->Prop:=fun d m=>d=.bool b/\∃i j,(1<=i/\1<=j/\i≠j)/\look m 0=some (.buf 11 [eO r (.own i 2 0 q.1.length) (.own j 2 0 q.2.length)])/\look m i=some (.buf 2 (q.1.map dW.D))/\look m j=some (.buf 2 (q.2.map bF.D))
def Dd (m:List (Nat×bp)):List (Nat×bp):=cd (cd (cd m 2) 4) 5
def vV (m:List (Nat×bp))(nx:Nat)(r:Rec)(q:List dW×List bF):List (Nat×bp):=(nx,.buf 2 (q.1.map dW.D))::(nx+1,.buf 2 (q.2.map bF.D))::(2,.buf 11 [eO r (.own nx 2 0 q.1.length) (.own (nx+1) 2 0 q.2.length)])::Dd m
def zr (l k:Nat)(es:List D)(Z:List dW):jo l k es (Z.map dW.D)=Z.map dW.D:=qH l k es _ (bj (fun _=>rfl) _)
def zq (l k:Nat)(es:List D)(Z:List bF):jo l k es (Z.map bF.D)=Z.map bF.D:=qH l k es _ (bj (fun _=>rfl) _)
section
section
variable [cP] {P:Program} {ν:List (Nat×Nat)} {cj:List Nat} {t:List (Nat×nV)} {fid n key u k:Nat} {af:aN} {nx:Nat} {m:List (Nat×bp)} {K:D->St->Prop}
def JC {r:Rec}{ps:List dW}{hs:List bF}(h:Ao m r ps hs):(∀l i,(l,i)∈[(2,0),(4,1),(5,2)]->look m l≠none)/\
  ∀i bb,look (LL r ps hs) i=some bb->∃l b',(l,i)∈[(2,0),(4,1),(5,2)]/\look m l=some b'/\pZ 0 [(2,0),(4,1),(5,2)] b' bb:=by
 obtain⟨h0,h2,h3⟩:=h;constructor
 .intro l i hi;simp only[cD,dn,eD,or_false]at hi;rcases hi with⟨rfl,_⟩|⟨rfl,_⟩|⟨rfl,_⟩
  .rw[h0];simp
  .rw[h2];simp
  .rw[h3];simp
 .intro i bb hi;simp only[LL,look]at hi;split at hi
  .rename_i e;subst e;obtain rfl:=br hi;exact⟨2,_,.head _,h0,rfl,.inr (.inl rfl)⟩
  split at hi
  .rename_i e;subst e;obtain rfl:=br hi;exact⟨4,_,.tail _ (.head _),h2,rfl,.inl ⟨rfl,bj (fun _=>rfl) _⟩⟩
  split at hi
  .rename_i e;subst e;obtain rfl:=br hi;exact⟨5,_,.tail _ (.tail _ (.head _)),h3,rfl,.inl ⟨rfl,bj (fun _=>rfl) _⟩⟩
  .cases hi
def MP {l:Nat}{b:bp}(h:look (Dd m) l=some b):(l≠2/\l≠4/\l≠5)/\look m l=some b:=by
 simp only[Dd,eX]at h;split at h
 .cases h
 grind
def PS {l:Nat}(h:l≠2/\l≠4/\l≠5):∀i,(l,i)∉[(2,0),(4,1),(5,2)]:=by
 intro i hi;simp only[cD,dn,eD,or_false]at hi;omega
def MQ {r:Rec}{ps:List dW}{hs:List bF}{q:List dW×List bF}{b:Bool}(hm:Ao m r ps hs)(hx:6<=nx)(hK:K (.bool b) ⟨nx+2,vV m nx r q⟩){d:D}{m1:List (Nat×bp)}(h:LM r q b d m1):
  ∃(σo:List (Nat×Nat)) (q1:Nat) (st':St) (vd':D),Fr [(2,0),(4,1),(5,2)] σo 3 q1 (LL r ps hs) m1 ⟨nx,m⟩ st'/\Ix 0 σo d vd'/\K vd' st':=by
 obtain⟨g4,g5⟩:=JC hm;obtain⟨rfl,i,j,⟨hi,hj,hij⟩,e0,ei,ej⟩:=h;have a1:=qu (show i≠0 by omega);have a2:=qu (show j≠0 by omega);have a3:=qu hij;have b1:=sw a1;have b2:=sw a2;have b3:=sw a3;have c1:=qu (show nx≠2 by omega);have c2:=qu (show nx+1≠2 by omega);have c3:=qu (show nx≠nx+1 by omega);have d1:=sw c1;have d2:=sw c2;have d3:=sw c3;have r0:lu 0 [(0,2),(i,nx),(j,nx+1)] 0=some 2:=rfl;have r1:lu 0 [(0,2),(i,nx),(j,nx+1)] i=some nx:=by simp only[lu,a1,b1,Nat.beq_refl,cond_true,cond_false]
 have r2:lu 0 [(0,2),(i,nx),(j,nx+1)] j=some (nx+1):=by simp only[lu,a2,b2,a3,b3,Nat.beq_refl,cond_true,cond_false]
 refine⟨[(0,2),(i,nx),(j,nx+1)],i+j+1,_,_,⟨rfl, ?_,(Nat.le_add_right _ _:nx<=nx+2),g4, ?_,g5, ?_⟩,.inl ⟨rfl,rfl⟩,hK⟩
 .have l1:Nat.blt 2 (nx+2)=true:=by simp[Nat.blt];omega
  have l2:Nat.blt nx (nx+2)=true:=by simp[Nat.blt]
  have l3:Nat.blt (nx+1) (nx+2)=true:=by simp[Nat.blt]
  simp[gN,a1,a2,a3,b1,b2,b3,c1,c2,c3,d1,d2,d3,l1,l2,l3];try omega
 .intro i' l h;simp only[cD,dn,eD,or_false]at h;rcases h with⟨rfl,rfl⟩|⟨rfl,rfl⟩|⟨rfl,rfl⟩
  .exact .inl aJ
  .exact .inr (aF _)
  .exact .inr (Nat.le_add_right _ _)
 .intro l bb h;simp only[vV,look]at h;split at h
  .rename_i e;subst e;obtain rfl:=br h;exact .inl ⟨i,_,aJ,ei,rfl,.inl ⟨rfl,bj (fun _=>rfl) _⟩⟩
  rename_i n1;split at h
  .rename_i e;subst e;obtain rfl:=br h;exact .inl ⟨j,_,aJ,ej,rfl,.inl ⟨rfl,bj (fun _=>rfl) _⟩⟩
  rename_i n2;split at h
  .rename_i e;subst e;obtain rfl:=br h;exact .inl ⟨0,_,.head _,e0,rfl,.inr (.inl (by simp only[eO,qW,r8,HP,r1,r2]))⟩
  rename_i n3;obtain⟨k1,k2⟩:=MP h;exact .inr ⟨by simp only[kT];rw[aj n3,aj n1,aj n2],PS k1,k2⟩
def AH {r:Rec}{ps:List dW}{hs:List bF}{q:List dW×List bF}{a b:ak}{ans:Bool}(hmix:P.follows .mixedOrders=true)(hC:Ie P ν cj fid af)(hnp:3=af.np)(hm:Ao m r ps hs)(hx:6<=nx)
  (hK:K (.bool ans) ⟨nx+2,vV m nx r q⟩) (hw:ca ((under t key u).at 3) af.body (nU af (LM r q ans)) (gh af [.str a,.str b,.fn 3000000 [.ptr 0 11 0 0]]) ⟨3,LL r ps hs⟩):nL P ν cj (under t key u) fid [.str a,.str b,.fn 3000000 [.ptr 2 11 0 0]] ⟨nx,m⟩ K:=by
 obtain⟨g4,g5⟩:=JC hm;refine x7 (σi:=[(2,0),(4,1),(5,2)]) (cs:=[.str a,.str b,.fn 3000000 [.ptr 0 11 0 0]]) (fun q=>wT t key u q) hmix hC rfl ?_ hnp rfl g4 g5 hw fun d m1 h=>MQ hm hx hK h
 intro i hi
 match i,hi with
 |0,_=>exact .inl ⟨rfl,rfl⟩
 |1,_=>exact .inl ⟨rfl,rfl⟩
 |2,_=>exact .inr (.inl rfl)
end
end
def C4:aN:=⟨2,5,[⟨2,none⟩],di,(sq (r1 [gm b7] 2 0) (sq (r1 [gm s0,gm s1,gn (.bin .rem l0 l1),gm l2] 3 3) (sq (sq (r1 [gm s3,bo l0 b7] 4 1) (.cond s4 (r1 [gm s3,gm s1,ay l0 l1,gm l2] 3 3) .skip)) (sq (r1 [gm s3,gm l0] 2 1) .ret))))⟩
def w478 {Y:Ctx}(hm:(Y.at 0).cQ)  (v:Int)(n:Int)  (hp0:0<n/\n<=9223372036854775807):fo Y C4 (.int .i64 (v%n)) [.int .i64 v,.int .i64 n]:=by
 show ca _ _ _ [⟨_,_⟩,⟨_,_⟩,_,_,_] _;refine av ?_;refine bm ?_;refine EE (v.tmod n) (hn:=by intro _;omega) (hb:=fun _=>rfl) ?_;have ht:=DR v n ae;refine bI ?_;refine dR (fun hc0=>?_) fun hc0=>?_
 .refine fJ ?_;refine jj ?_;exact Nh hp0.1 hc0
 refine bh ?_;refine jj ?_;exact Ni hp0.1 hc0
def FJ (T:List D->D->Prop):Prop:=∀(v:Int) (n:Int),(0<n/\n<=9223372036854775807)->T [.int .i64 v,.int .i64 n] (.int .i64 (v%n))
def Ir (Y:Ctx):Prop:=FJ (ch Y 478)
def MK:aN:=⟨2,4,[⟨2,none⟩],di,(sq (r1 [gm b7] 2 0) (sq (sq (r1 [gm s1,bo l0 b7,gm l1,fZ 2 s1,fZ 2 s0,dc 2 (.len l4),dc 2 (vg l3 l5),gR l2 l6] 3 7) (.cond s3 (sq (r1 [gm b7] 2 0) .ret) .skip)) (sq (r1 [gm s0,gm s1,ga 1 l0 l1,gd l2,gm l3] 2 4) .ret)))⟩
def w479 {Y:Ctx}(hm:(Y.at 0).cQ)  (l:List Int)(i:Int)   :fo Y MK (.int .i64 (iQ l i)) [.sl 1 (l.map (D.int .i64)),.int .i64 i]:=by
 show ca _ _ _ [⟨_,_⟩,⟨_,_⟩,_,_] _;refine av ?_;refine ez ?_;refine nk ?_;refine aG ?_;refine dR (fun hc0=>?_) fun hc0=>?_
 .refine bm ?_;refine jj ?_;simp only[iQ];rw[aw hc0]
 refine aK ?_;refine Kr ?_;refine aK ?_;refine jj ?_;simp only[iQ];rw[aj ae]
def FK (T:List D->D->Prop):Prop:=∀(l:List Int) (i:Int),T [.sl 1 (l.map (D.int .i64)),.int .i64 i] (.int .i64 (iQ l i))
def Lx (Y:Ctx):Prop:=FK (ch Y 479)
def Ha:aN:=⟨3,4,[⟨3,none⟩],di,(sq (r1 [gm b7] 3 0) (sq (r1 [gm s0,gm s1,gx 479 [l0,l1] [[.sl 1 [.a]],[.a]],gm s2,gx 478 [l2,l3] iZ,gm l4] 3 5) .ret))⟩
def w228 {Y:Ctx}(hm:(Y.at 0).cQ)(h478:Ir Y)(h479:Lx Y)(l:List Int)(i:Int)(n:Int)  (hp0:0<n/\n<=9223372036854775807):fo Y Ha (.int .i64 (dI l i n)) [.sl 1 (l.map (D.int .i64)),.int .i64 i,.int .i64 n]:=by
 show ca _ _ _ [⟨_,_⟩,⟨_,_⟩,⟨_,_⟩,_] _;refine av ?_;refine bm ?_;refine aq (hc:=h479 l i) ?_;refine az ?_;refine aq (hc:=h478 _ n hp0) ?_;refine aG ?_;exact jj rfl
def Fe (T:List D->D->Prop):Prop:=∀(l:List Int) (i:Int) (n:Int),(0<n/\n<=9223372036854775807)->T [.sl 1 (l.map (D.int .i64)),.int .i64 i,.int .i64 n] (.int .i64 (dI l i n))
def Cs (Y:Ctx):Prop:=Fe (ch Y 228)
def Hb:aN:=⟨1,2,mJ,di,(sq (r1 [gm cse] 1 0) (sq (r1 [gn (.build [.str [],.str [],.str [],.str [],.str []] [(0,1,(cs [97,112,112])),(1,1,(cs [98])),(2,1,(cs [99])),(3,1,(cs [100])),(4,1,(cs [101,45,50]))]),gm s0,gx 478 [l1,Ek] iZ,gn (.ixA 5 1 false l0 l2),gm l3] 1 4) .ret))⟩
def w227 {Y:Ctx}(hm:(Y.at 0).cQ)(h478:Ir Y)(n:Int)   :fo Y Hb (.str (b8 n)) [.int .i64 n]:=by
 show ca _ _ _ [⟨_,_⟩,_] _;refine av ?_;refine aG ?_;have hr:=lh n 5 aE;refine ep (Dl.map D.str) ?_;refine az ?_;refine aq (hc:=h478 n 5 aE) ?_;refine By (n%5).toNat (.str Dl[(n%5).toNat]!) (hj:=fun _=>ae) (hb:=fun _=>ae) (hv:=fun _=>pD Dl (by show _<5;omega)) ?_;refine aG ?_;exact du rfl
def Fc (T:List D->D->Prop):Prop:=∀(n:Int),T [.int .i64 n] (.str (b8 n))
def Ip (Y:Ctx):Prop:=Fc (ch Y 227)
def Hf:aN:=⟨1,2,mJ,di,(sq (r1 [gm cse] 1 0) (sq (r1 [gn (.build [.str [],.str [],.str [],.str []] [(0,1,(cs [120])),(1,1,(cs [121])),(2,1,(cs [122])),(3,1,(cs [119,95,49]))]),gm s0,gx 478 [l1,ud] iZ,gn (.ixA 4 1 false l0 l2),gm l3] 1 4) .ret))⟩
def w481 {Y:Ctx}(hm:(Y.at 0).cQ)(h478:Ir Y)(n:Int)   :fo Y Hf (.str (kK n)) [.int .i64 n]:=by
 show ca _ _ _ [⟨_,_⟩,_] _;refine av ?_;refine aG ?_;have hr:=lh n 4 aE;refine ep (NM.map D.str) ?_;refine az ?_;refine aq (hc:=h478 n 4 aE) ?_;refine By (n%4).toNat (.str NM[(n%4).toNat]!) (hj:=fun _=>ae) (hb:=fun _=>ae) (hv:=fun _=>pD NM (by show _<4;omega)) ?_;refine aG ?_;exact du rfl
def FM (T:List D->D->Prop):Prop:=∀(n:Int),T [.int .i64 n] (.str (kK n))
def OT (Y:Ctx):Prop:=FM (ch Y 481)
def Jw:aN:=⟨2,6,[⟨2,none⟩],di,(sq (r1 [gm cse] 2 0) (sq (r1 [gn (.build [.int .i64 0,.int .i64 0,.int .i64 0,.int .i64 0,.int .i64 0,.int .i64 0] [(0,1,El),(1,1,PH),(2,1,Al),(3,1,k9),(4,1,cN),(5,1,mi)]),gb 6 (.c (.agg [.int .i64 0,.int .i64 0,.int .i64 0,.int .i64 0,.int .i64 0,.int .i64 0])),gt 6 l1 l0] 3 1) (sq (r2 [gm s0,gm s1,gx 228 [l0,l1,Al] [[.sl 1 [.a]],[.a],[.a]],gn (.iaP 6 1 s3 l2),gd l3,gm s0,gm s1,ay l6 cN,gx 228 [l5,l7,k9] [[.sl 1 [.a]],[.a],[.a]],gm s0,gm s1,ay l10 mi,gx 228 [l9,kl,mi] [[.sl 1 [.a]],[.a],[.a]],gn (.build [.int .i64 0,.int .i64 0,.int .i64 0,.str [],.str []] [(0,1,l8),(1,1,mG)]),gn (.build [.int .i64 0,.int .i64 0,.int .i64 0,.int .i64 0,.int .i64 0,.str [],.str []] [(0,1,l4),(1,1,k9),(2,5,nQ)]),gb 7 (.c (.agg [.int .i64 0,.int .i64 0,.int .i64 0,.int .i64 0,.int .i64 0,.str [],.str []])),gt 7 pL n7] 4 15) (sq (sq (r1 [gf 0 s4,gd l0,aU l1 El] 5 2) (.cond s5 (sq (r1 [gm (cs [42])] 2 0) .ret) .skip)) (sq (r1 [gk 7 true s4,gx 482 [l0] PF,gm l1] 2 2) .ret)))))⟩
def w230 {Y:Ctx}(hm:(Y.at 0).cQ)(h228:Cs Y)(h482:RE Y)(l:List Int)(i:Int)  (hp0:0<=i/\i<=4000000):fo Y Jw (.str (j3 l i)) [.sl 1 (l.map (D.int .i64)),.int .i64 i]:=by
 show ca _ _ _ [⟨_,_⟩,⟨_,_⟩,_,_,_,_] _;refine av ?_;refine aG ?_;refine ep (Dr.map (D.int .i64)) ?_;refine az ?_;refine aQ (.agg (Dr.map (D.int .i64))) (he:=aT) ?_;refine aA ?_;have hr:=cY l i 6 aE;refine aA ?_;refine aq (hc:=h228 l (i) 6 aE) ?_;refine zQ (dI l i 6).toNat (hj:=fun _=>ae) (hb:=fun _=>ae) ?_;refine bZ (v:=.int .i64 Dr[(dI l i 6).toNat]!) (hv:=fun _=>C7 Dr (by show _<6;omega) rfl) (ho:=ae) ?_;refine aG ?_;refine aq (hc:=h228 l (i+1) 3 aE) ?_;refine aG ?_;refine aq (hc:=h228 l (i+2) 2 aE) ?_;refine bq (gE.D (ua l i).v) ?_;refine bq (dx.D (ua l i)) ?_;refine az ?_;refine aQ (dx.D (ua l i)) (he:=aT) ?_;refine aK ?_;refine bZ (v:=.int .i64 (ua l i).op) ?_;refine aA ?_;refine dR (fun hc0=>?_) fun hc0=>?_
 .refine bm ?_;refine du ?_;unfold j3;rw[aw hc0]
 refine aA ?_;refine dj (d:=dx.D (ua l i)) ?_;refine aq (hc:=h482 (ua l i) (L9 l i)) ?_;refine aG ?_;refine du ?_;unfold j3;rw[aj hc0]
def Fg (T:List D->D->Prop):Prop:=∀(l:List Int) (i:Int),(0<=i/\i<=4000000)->T [.sl 1 (l.map (D.int .i64)),.int .i64 i] (.str (j3 l i))
def Lt (Y:Ctx):Prop:=Fg (ch Y 230)
def Hd:aN:=⟨2,5,[⟨2,none⟩],di,(sq (r1 [gm cse] 2 0) (sq (r1 [gm s0,gm s1,gx 228 [l0,l1,Al] [[.sl 1 [.a]],[.a],[.a]],gm l2] 3 3) (sq (sq (r1 [gm s3,eI l0 mi] 4 1) (.cond s4 (sq (r1 [gm cse] 2 0) .ret) .skip)) (sq (r2 [gn (.build [.str [],.str [],.str []] [(0,1,(cs [111,115])),(1,1,(cs [97,114,99,104])),(2,1,(cs [97,98,105]))]),gm s3,gn (.ixA 3 1 false l0 l1),gn (.build [.str [],.str []] [(0,1,(cs [32,61,32])),(1,1,(cs [32,33,61,32]))]),gm s0,gm s1,ay l5 cN,gx 228 [l4,l6,mi] [[.sl 1 [.a]],[.a],[.a]],gn (.ixA 2 1 false l3 l7),ay l2 l8,gm s0,gm s1,ay kl cN,gx 228 [l10,mG,k9] [[.sl 1 [.a]],[.a],[.a]],ay cN nQ,gx 481 [n7] di,ay l9 pL,gm si] 2 17) .ret))))⟩
def w231 {Y:Ctx}(hm:(Y.at 0).cQ)(h228:Cs Y)(h481:OT Y)(l:List Int)(i:Int)  (hp0:0<=i/\i<=4000000):fo Y Hd (.str (j4 l i)) [.sl 1 (l.map (D.int .i64)),.int .i64 i]:=by
 show ca _ _ _ [⟨_,_⟩,⟨_,_⟩,_,_,_] _;refine av ?_;refine bm ?_;refine aq (hc:=h228 l (i) 6 aE) ?_;refine bI ?_;refine ax (fun hc0=>?_) (fun hc0=>?_)
 .try simp only[ed]at hc0
  refine bm ?_;refine du ?_;unfold j4;rw[aw hc0]
 simp only[bC]at hc0;have hr:=cY l i 6 aE;have hr2:=cY l (i+1) 2 aE;have hr3:=cY l (i+1) 3 aE;have hw:=sH (1+dI l (i+1) 3);have hk:=G9 (dI l i 6).toNat ae;have he:=I4 (dI l (i+1) 2).toNat ae;refine aA ?_;refine ep (ye.map D.str) ?_;refine az ?_;refine By (dI l i 6).toNat (.str ye[(dI l i 6).toNat]!) (hj:=fun _=>ae) (hb:=fun _=>ae) (hv:=fun _=>pD ye (by show _<3;omega)) ?_;refine ep (GC.map D.str) ?_;refine aG ?_;refine aq (hc:=h228 l (i+1) 2 aE) ?_;refine By (dI l (i+1) 2).toNat (.str GC[(dI l (i+1) 2).toNat]!) (hj:=fun _=>ae) (hb:=fun _=>ae) (hv:=fun _=>pD GC (by show _<2;omega)) ?_;refine eB (hb:=fun _=>ae) ?_;refine aG ?_;refine aq (hc:=h228 l (i+1) 3 aE) ?_;refine az ?_;refine aq (hc:=h481 _) ?_;refine eB (hb:=fun _=>by simp only[bA];omega) ?_;refine aG ?_;refine du ?_;unfold j4;rw[aj hc0]
def Fh (T:List D->D->Prop):Prop:=∀(l:List Int) (i:Int),(0<=i/\i<=4000000)->T [.sl 1 (l.map (D.int .i64)),.int .i64 i] (.str (j4 l i))
def OJ (Y:Ctx):Prop:=Fh (ch Y 231)
def He:aN:=⟨4,8,[⟨4,some (4,true)⟩],[[.a,.a,.sl 1 [.a],.a]],(sq (r1 [gb 4 (.c (.agg [.str [],.str [],.au,.bool false]))] 4 0) (sq (r1 [gm s2,ay l0 cN,gm s0,gm s1,gx 228 [l2,l3,ud] [[.sl 1 [.a]],[.a],[.a]],ay l1 l4,gx 227 [l5] di,gm s0,gm s1,ay l8 cN,gx 230 [l7,l9] [[.sl 1 [.a]],[.a]],gm s0,gm s1,ay mG ud,gx 228 [kl,nQ,k9] [[.sl 1 [.a]],[.a],[.a]],aU n7 b7,gn (.build [.str [],.str [],.au,.bool false] [(0,1,l6),(1,1,l10),(3,1,pL)]),gb 4 (.c (.agg [.str [],.str [],.au,.bool false])),gt 4 xd si] 7 17) (sq (sq (r1 [gm s0,gm s1,ay l1 Ek,gx 228 [l0,l2,Ek] [[.sl 1 [.a]],[.a],[.a]],gm l3] 5 4) (sq (r1 [gm s3,gm l0,gmt 1 s5,dC 1 (ew l2 mi),iM l1 l3] 6 4) (.cond s6 (rg [gn (.bsl 1 (.str []) 2 [(0,(cs [120])),(1,(cs [121]))]),gm s5,gA l1 mi,gn (.slA 1 l0 none (some l2)),gf 2 s7,gt 1 l4 l3] []) .skip))) (sq (rg [gk 4 true s7,gt 4 s4 l0] []) .ret))))⟩
def w480 {Y:Ctx}(hm:(Y.at 0).cQ)(h227:Ip Y)(h228:Cs Y)(h230:Lt Y)(l:List Int)(i:Int)(own:Int)(alone:Bool)  (hp0:0<=i/\i<=3000000)(hp1:0<=own/\own<=1000000):fo Y He (cu.D (kJ l i own alone)) [.sl 1 (l.map (D.int .i64)),.int .i64 i,.int .i64 own,.bool alone]:=by
 show ca _ _ _ [⟨_,_⟩,⟨_,_⟩,⟨_,_⟩,⟨_,_⟩,_,_,_,_] _;refine av ?_;refine aG ?_;have hr:=cY l i 4 aE;refine aK ?_;refine aq (hc:=h228 l (i) 4 aE) ?_;refine az ?_;refine aq (hc:=h227 (own+1+dI l i 4)) ?_;refine aG ?_;refine aq (hc:=h230 l (i+1) ae) ?_;refine aG ?_;refine aq (hc:=h228 l (i+4) 3 aE) ?_;refine az ?_;refine bq (.agg [.str (b8 (own+1+dI l i 4)),.str (j3 l (i+1)),.au,.bool (decide (dI l (i+4) 3=0))]) ?_;refine az ?_;refine aQ (.agg [.str (b8 (own+1+dI l i 4)),.str (j3 l (i+1)),.au,.bool (decide (dI l (i+4) 3=0))]) (he:=aT) ?_;refine bh ?_;refine aq (hc:=h228 l (i+5) 5 aE) ?_;refine aK ?_;have hr5:=cY l (i+5) 5 aE;refine bh ?_;refine dR (fun hc0=>?_) fun hc0=>?_
 .refine az ?_;refine cZ (y0.map D.str) ?_;refine aA ?_;refine BB (dI l (i+5) 5-2).toNat (hj:=fun _=>ae) (hb:=fun _=>ae) ?_;refine az ?_;refine aQ (.agg [.str (b8 (own+1+dI l i 4)),.str (j3 l (i+1)),(.own 30 1 0 (dI l (i+5) 5-2).toNat),.bool (decide (dI l (i+4) 3=0))]) (he:=aT) ?_;refine az ?_;have hk:(dI l (i+5) 5-2).toNat<=y0.length:=by show _<=2;omega
  refine eF 30 ?_ (he:=by simp only[kg,hZ,jo,kR,lY,cd,Nat.reduceEqDiff,aP,aM,cA,bY,bQ,cx,cy,bD,bz,aF,bN,aI,reduceCtorEq,aH,aO,Nat.reduceAdd,Nat.reduceLeDiff,hk,<-List.map_take];exact rfl) (hm:=by simp only[kg,hZ,jo,kR,lY,cd,Nat.reduceEqDiff,aP,aM,cA,bY,bQ,cx,cy,bD,bz,aF,bN,aI,reduceCtorEq,aH,aO,Nat.reduceAdd,Nat.reduceLeDiff,hk,<-List.map_take];exact rfl);refine az ?_;refine dj (d:=(.agg [.str (b8 (own+1+dI l i 4)),.str (j3 l (i+1)),(.sl 1 ((y0.take (dI l (i+5) 5-2).toNat).map D.str)),.bool (decide (dI l (i+4) 3=0))])) ?_;refine aQ (.agg [.str (b8 (own+1+dI l i 4)),.str (j3 l (i+1)),(.sl 1 ((y0.take (dI l (i+5) 5-2).toNat).map D.str)),.bool (decide (dI l (i+4) 3=0))]) (he:=aT) ?_;refine aA ?_;refine cv (?_);simp only[cu.D,kJ,mE];rw[aw hc0];rfl
 refine az ?_;have hf:mE l i alone=[]:=aj (by rintro⟨h1,h2⟩;rcases hc0 with h|h;rw[h]at h1;cases h1;exact h h2);refine nS [(0,.buf 4 [.agg [.str [],.str [],.au,.bool false]]),(18,.buf 4 [cu.D (kJ l i own alone)])] (.id ah (.bf ah (.cons (by simp only[cu.D,kJ,hf];exact .ag (.cons (.refl _) (.cons (.refl _) (.cons (.nil 1) (.cons (.refl _) .nil))))) .nil) .nil)) ?_;refine az ?_;refine dj (d:=(cu.D (kJ l i own alone))) ?_;refine aQ (cu.D (kJ l i own alone)) (he:=aT) ?_;refine aA ?_;refine cv (?_);rfl
def FL (T:List D->D->Prop):Prop:=∀(l:List Int) (i:Int) (own:Int) (alone:Bool),(0<=i/\i<=3000000)->(0<=own/\own<=1000000)->T [.sl 1 (l.map (D.int .i64)),.int .i64 i,.int .i64 own,.bool alone] (cu.D (kJ l i own alone))
def RC (Y:Ctx):Prop:=FL (ch Y 480)
def Hc:aN:=⟨3,10,[⟨3,some (3,true)⟩],[[.sl 4 [.a,.a,.sl 1 [.a],.a],.a,.a]],(sq (r1 [gb 3 (.c (.agg [.au,.str [],.str []]))] 3 0) (sq (r1 [gb 3 (.c (.agg [.au,.str [],.str []]))] 8 0) (sq (r1 [gm cN] 6 0) (sq (sq (r1 [gm s0,gm s1,gx 228 [l0,l1,Ek] [[.sl 1 [.a]],[.a],[.a]],aU l2 cN] 4 3) (.cond s4 (r1 [gm mi] 6 0) .skip)) (sq (sq (r1 [gm b7] 5 0) (.block 0 (.loop (sq (sq (r1 [gm s5,gm s6,bo l0 l1] 7 2) (jG s7 0)) (sq (.block 1 (rt [gf 0 s8,gd l0,gm s0,gm s1,ay l3 cN,gm s5,gn (.bin .mul Al l5),ay l4 l6,gm s2,gm s6,aU l9 cN,gx 480 [l2,l7,l8,l10] [[.sl 1 [.a]],[.a],[.a],[.a]],gn (.bsl 4 (.agg [.str [],.str [],.au,.bool false]) 1 [(0,kl)]),gn (.app 4 l1 mG),gf 0 s8,gt 1 n7 nQ] [])) (r1 [gm s5,ay l0 cN,gm l1] 5 2)))))) (sq (rg [gm s0,gm s1,ay l1 (i6 14),gx 231 [l0,l2] [[.sl 1 [.a]],[.a]],gf 1 s8,gt 1 l4 l3] []) (sq (sq (r1 [gm s0,gm s1,ay l1 (i6 16),gx 228 [l0,l2,ud] [[.sl 1 [.a]],[.a],[.a]],aU l3 cN] 9 4) (.cond s9 (rg [gm s0,gm s1,ay l1 (i6 17),gx 479 [l0,l2] [[.sl 1 [.a]],[.a]],gx 481 [l3] di,gf 2 s8,gt 1 l5 l4] []) .skip)) (sq (rg [gk 3 true s8,gt 3 s3 l0] []) .ret))))))))⟩
def w229 (h228:Cs Y)(h231:OJ Y)(h479:Lx Y)(h480:RC Y)(h481:OT Y)(l:List Int)(i:Int)(own:Int)  (hp0:0<=i/\i<=2000000)(hp1:0<=own/\own<=1000000):fo Y Hc (bT.D (gr l i own)) [.sl 1 (l.map (D.int .i64)),.int .i64 i,.int .i64 own]:=by
 show ca _ _ _ [⟨_,_⟩,⟨_,_⟩,⟨_,_⟩,_,_,_,_,_,_,_] _;refine av ?_;refine jD ?_;refine aq (hc:=h228 l (i) 5 aE) ?_;refine aA ?_;refine nK hm (ι:=Unit) (fun _=>[⟨true,.sl 1 (l.map (D.int .i64))⟩,⟨true,.int .i64 i⟩,⟨true,.int .i64 own⟩,⟨true,.ptr 0 3 0 0⟩,.un,.un,⟨true,.int .i64 (eQ l i:Nat)⟩,.un,⟨true,.ptr 1 3 0 0⟩,.un]) (fun _=>[(0,.buf 3 [.agg [.au,.str [],.str []]]),(1,.buf 3 [.agg [.au,.str [],.str []]])]) 20 (fun _=>True) ?_ ?_
 .refine iR (fun hc0=>?_) fun hc0=>?_
  .refine aK ?_;have hmn:((eQ l i:Nat):Int)=2:=by simp[eQ,hc0]
   exact⟨(),trivial,(aW.to [(0,0),(1,1)] ah ah (by repeat(first|exact dr.nil|refine dr.un ?_|refine dr.eq ah ?_|refine dr.nl (ar (D.int .i64) hmn) ah ?_)) qb)⟩
  refine aA ?_;have hmn:((eQ l i:Nat):Int)=1:=by simp[eQ,hc0]
  exact⟨(),trivial,(aW.to [(0,0),(1,1)] ah ah (by repeat(first|exact dr.nil|refine dr.un ?_|refine dr.eq ah ?_|refine dr.nl (ar (D.int .i64) hmn) ah ?_)) qb)⟩
 .rintro _-
  have hml:=vG l i;refine aK ?_;refine bO hm (ι:=(Nat×List cu)) (fun p=>[⟨true,.sl 1 (l.map (D.int .i64))⟩,⟨true,.int .i64 i⟩,⟨true,.int .i64 own⟩,⟨true,.ptr 0 3 0 0⟩,.un,⟨true,.int .i64 (p.1:Nat)⟩,⟨true,.int .i64 (eQ l i:Nat)⟩,.un,⟨true,.ptr 1 3 0 0⟩,.un]) (fun p=>[(0,.buf 3 [.agg [.au,.str [],.str []]]),(1,.buf 3 [(.agg [.own 2 4 0 p.2.length,.str [],.str []])]),(2,.buf 4 (p.2.map cu.D))]) 40 (fun p=>p.1<=eQ l i/\p.2=rR l i own p.1) (fun p=>eQ l i-p.1) (0,[]) ⟨ea,rfl⟩ (aW.to [(0,0),(1,1)] ah ah lZ (by refine jS ?_;refine bg.ni 1 ah ah (by exact⟨_,_,rfl,⟨_,rfl,⟨_,_,rfl,Or.inr ⟨_,_,_,rfl⟩,⟨_,_,rfl,⟨rfl,rfl⟩,⟨_,_,rfl,⟨rfl,rfl⟩,rfl⟩⟩⟩⟩,rfl⟩) ?_;refine bg.mt ah ah ah ah ?_;exact bg.nil)) ?_;rintro⟨k,ws⟩ ⟨hk,hw⟩;dsimp only at hk hw⊢;have hwl:ws.length=k:=by rw[hw];simp[rR]
  refine bh ?_;refine ax (fun hc1=>?_) (fun hc1=>?_)
  .try simp only[ed]at hc1
   refine ez ?_;refine uL ?_;refine aK ?_;refine aq (hc:=h480 l (i+1+6*(k:Nat)) own (decide ((eQ l i:Int)=1)) ae hp1) ?_;refine cZ [cu.D (kJ l (i+1+6*(k:Nat)) own (decide ((eQ l i:Int)=1)))] ?_;refine jg (q:=cu.D) (xs:=ws) (e:=kJ l (i+1+6*(k:Nat)) own (decide ((eQ l i:Int)=1))) ?_;refine az ?_;refine aQ (.agg [.own 56 4 0 (ws++[kJ l (i+1+6*(k:Nat)) own (decide ((eQ l i:Int)=1))]).length,.str [],.str []]) (he:=aT) ?_;refine cH ?_;exact⟨(k+1,ws++[kJ l (i+1+6*(k:Nat)) own (decide ((eQ l i:Int)=1))]),⟨ea,by dsimp only;rw[GR,hw]⟩,ea,(aW.to [(0,0),(1,1),(56,2)] ah ah lZ (by refine jS ?_;refine bg.Ih ah ah ah ?_;refine bg.nl 56 ah ah rfl (bj (fun _=>rfl) _) ?_;exact bg.nil))⟩
  simp only[bC]at hc1;obtain rfl:k=eQ l i:=ae;refine bh ?_;refine aq (hc:=h231 l (i+14) ae) ?_;refine az ?_;refine aQ (.agg [.own 2 4 0 ws.length,.str (j4 l (i+14)),.str []]) (he:=aT) ?_;refine bh ?_;refine aq (hc:=h228 l (i+16) 4 aE) ?_;refine aA ?_;refine dR (fun hc2=>?_) fun hc2=>?_
  .refine aK ?_;refine aq (hc:=h479 l (i+17)) ?_;refine aq (hc:=h481 _) ?_;refine az ?_;refine aQ (.agg [.own 2 4 0 ws.length,.str (j4 l (i+14)),.str (kK (iQ l (i+17)))]) (he:=aT) ?_;refine az ?_;refine eF 2 ?_;refine az ?_;refine dj (d:=(.agg [.sl 4 (ws.map cu.D),.str (j4 l (i+14)),.str (kK (iQ l (i+17)))])) ?_;refine aQ (.agg [.sl 4 (ws.map cu.D),.str (j4 l (i+14)),.str (kK (iQ l (i+17)))]) (he:=aT) ?_;refine aA ?_;refine cv (?_);simp only[bT.D,gr];rw[aw hc2,<-hw];rfl
  refine az ?_;refine eF 2 ?_;refine az ?_;refine dj (d:=(.agg [.sl 4 (ws.map cu.D),.str (j4 l (i+14)),.str []])) ?_;refine aQ (.agg [.sl 4 (ws.map cu.D),.str (j4 l (i+14)),.str []]) (he:=aT) ?_;refine aA ?_;refine cv (?_);simp only[bT.D,gr];rw[aj hc2,<-hw];rfl
def Ff (T:List D->D->Prop):Prop:=∀(l:List Int) (i:Int) (own:Int),(0<=i/\i<=2000000)->(0<=own/\own<=1000000)->T [.sl 1 (l.map (D.int .i64)),.int .i64 i,.int .i64 own] (bT.D (gr l i own))
def Rc (Y:Ctx):Prop:=Ff (ch Y 229)
def Jx:aN:=⟨2,6,[⟨2,none⟩],[[.sl 1 [.a]]],(sq (r1 [gm (.c (.au))] 2 0) (sq (r1 [gm b7] 3 0) (sq (.block 0 (.loop (sq (sq (r1 [gm s3,gm s0,gl l1,bo l0 l2,gm l3,gmt 4 s0,gmt 4 s3,dC 4 (.ia 1 l5 l6),pJ 4 l7,gmt 4 s1,dC 4 (rz l8 l9),iM l4 l10] 4 11) (jG s4 0)) (.block 1 (r1 [gm s3,ay l0 cN,gm l1] 3 2))))) (sq (sq (r1 [gm s3,gm s0,gl l1,bo l0 l2,gm l3,gmt 4 s0,gmt 4 s3,dC 4 (.ia 1 l5 l6),pJ 4 l7,gmt 4 s1,dC 4 (dP l8 l9),iM l4 l10] 5 11) (.cond s5 (sq (r1 [gm s0,gm l0] 2 1) .ret) .skip)) (sq (r2 [gm s0,gm s3,gn (.slA 1 l0 none (some l1)),gn (.appN 1 l2),gm s1,gn (.bsl 1 (.str []) 1 [(0,l4)]),gn (.app 1 l3 l5),gm s0,gm s3,gn (.slA 1 l7 (some l8) none),gn (.app 1 l6 l9),gm l10] 2 11) .ret)))))⟩
def w483  (l:List ak)(s:ak)  (hp0:l.length<=1000):fo Y Jx (.sl 1 ((fE l s).map D.str)) [.sl 1 (l.map D.str),.str s]:=by
 show ca _ _ _ [⟨_,_⟩,⟨_,_⟩,_,_,_,_] _;refine av ?_;refine bm ?_;refine bO hm (ι:=Nat) (fun i=>[⟨true,.sl 1 (l.map D.str)⟩,⟨true,.str s⟩,.un,⟨true,.int .i64 (i:Nat)⟩,.un,.un]) (fun i=>[]) 2 (fun i=>i<=jP s l) (fun i=>l.length-i) 0 (Nat.zero_le _) (fP []) ?_;rintro i hi;have hpl:=zM s l;refine bm ?_;intro u0;refine aK ?_;refine cr i ?_;refine b6 (v:=.str l[i]!) ?_;refine aK ?_;refine ax (fun hc0=>?_) (fun hc0=>?_)
 .simp only[bt,a8]at hc0;have hip:i+1<=jP s l:=by
   by_cases he:i=jP s l
   .have h1:=sW s l ae;rw[<-he,hc0.2]at h1;cases h1
   .omega
  refine ez ?_;exact⟨i+1,ae,ae,(fP [])⟩
 simp only[dF,bC]at hc0;obtain rfl:i=jP s l:=by
  by_cases he:i<jP s l
  .have h1:=zN s l i he;rcases hc0 with h|h
   .omega
   .rw[h1]at h;cases h
  .omega
 refine bI ?_;intro u1;refine aK ?_;refine cr (jP s l) ?_;refine b6 (v:=.str l[jP s l]!) ?_;refine aK ?_;refine dR (fun hc1=>?_) fun hc1=>?_
 .refine bh ?_;refine cv (?_);rw[fE,aw ⟨ae,hc1.2⟩];rfl
 refine aK ?_;refine oU (jP s l) ?_;refine Np (he:=sg.sl) (n:=(l.take (jP s l)).length) (hn:=aJ) (hb:=by simp only[fW];omega) ?_;refine az ?_;refine cZ [.str s] ?_;refine jg (q:=D.str) (xs:=l.take (jP s l)) (e:=s) (hb:=by simp only[fW];omega) ?_;refine aA ?_;refine wy (jP s l) ?_;refine Qa (xs:=l.take (jP s l)++[s]) (ys:=l.drop (jP s l)) (he:=sg.sl) (hb:=by simp only[bA,fW,pr,aH,aO];omega) ?_;refine aA ?_;refine eF 36 ?_;refine az ?_;refine cv (?_);rw[fE,aj (by rintro⟨h1,h2⟩;rcases hc1 with h|h;omega;exact h h2)];rfl
def FN (T:List D->D->Prop):Prop:=∀(l:List ak) (s:ak),(l.length<=1000)->T [.sl 1 (l.map D.str),.str s] (.sl 1 ((fE l s).map D.str))
def RF (Y:Ctx):Prop:=FN (ch Y 483)
def xp:aN:=⟨3,18,[⟨3,none⟩],[[.sl 2 [.a,.sl 1 [.a]]]],(sq (rg [gb 9 s2,gm (.c (.au))] [(10,0),(3,1)]) (sq (r1 [gm (.c (.au))] 17 0) (sq (r1 [gn (.build [.str [],.str [],.str [],.str []] [(0,1,(cs [100,101,102,97,117,108,116])),(1,1,(cs [120])),(2,1,(cs [121])),(3,1,(cs [122]))]),gb 4 (.c (.agg [.str [],.str [],.str [],.str []])),gt 4 l1 l0] 8 1) (sq (sq (r1 [gm b7] 4 0) (.block 0 (.loop (sq (sq (r1 [gm s4,bo l0 ud] 5 1) (jG s5 0)) (sq (.block 1 (sq (r1 [gm s0,gm s1,gm s4,ay l1 l2,gx 479 [l0,l3] [[.sl 1 [.a]],[.a]],gm l4] 6 5) (sq (sq (r1 [gm s6,gx 478 [l0,k9] iZ,aU l1 b7] 7 2) (.cond s7 (.exit 1) .skip)) (sq (r1 [gm s4,gn (.iaP 4 1 s8 l0),gd l1,gn (.build [.str [],.au] [(0,1,l2)]),gb 2 (.c (.agg [.str [],.au])),gt 2 l4 l3] 14 4) (sq (sq (r1 [gm b7] 9 0) (.block 2 (.loop (sq (sq (r1 [gm s9,gf 6 mL,gd l1,gl l2,bo l0 l3,gm l4,gmt 5 s9,dC 5 (rz l6 mi),iM l5 l7] 11 8) (jG pU 2)) (sq (.block 3 (sq (r1 [gf 6 mL,gd l0,gm s9,ga 3 l1 l2,gk 3 true l3,gb 3 (.c (.agg [.au,.str [],.str []])),gt 3 l5 l4] 12 5) (sq (sq (r1 [gf 2 m6,gd l0,dd l1 cse,gm l2,gmt 3 s6,gmt 3 s9,dC 3 (D4 k9 l5),dC 3 (.cvi .u64 l6),dC 3 (.bin .shr l4 l7),dC 3 (IE l8 cN),dC 3 (dP l9 cN),iM l3 l10] 13 11) (.cond rq (rg [gf 1 rr,gd l0,gf 2 m6,gd l2,ay (cs [63]) l3,gx 483 [l1,l4] [[.sl 1 [.a]],[.a]],gf 1 rr,gt 1 l6 l5] []) .skip)) (sq (r1 [gf 0 m6,gd l0,gl l1,aU l2 cN,gm l3,gmt 4 s6,gmt 4 s9,dC 4 (D4 Ek l6),dC 4 (.cvi .u64 l7),dC 4 (.bin .shr l5 l8),dC 4 (IE l9 cN),dC 4 (dP l10 cN),iM l4 kl] 15 12) (.cond tP (rt [gf 1 rr,gd l0,gf 0 m6,gd l2,ga 4 l3 b7,gf 0 l4,gd l5,ay l6 (cs [47]),ay l7 (cs [120]),gx 483 [l1,l8] [[.sl 1 [.a]],[.a]],gf 1 rr,gt 1 l10 l9] []) .skip))))) (r1 [gm s9,ay l0 cN,gm l1] 9 2)))))) (sq (sq (r1 [gm s4,bo l0 k9,gm l1,gmt 2 s6,dC 2 (.bin .shr l3 (iu 7)),dC 2 (IE l4 cN),dC 2 (dP l5 cN),iM l2 l6,gm l7,gmt 8 s0,gmt 8 s1,gmt 8 s4,dC 8 (D4 l10 kl),dC 8 (D4 mG cN),dC 8 (.call 479 [l9,nQ] [[.sl 1 [.a]],[.a]]),dC 8 (.call 478 [n7,k9] iZ),dC 8 (gO pL b7),iM l8 si] 16 17) (.cond An (rt [gf 1 rr,gd l0,gm s4,ay l2 cN,gn (.iaP 4 1 s8 l3),gd l4,gx 483 [l1,l5] [[.sl 1 [.a]],[.a]],gf 1 rr,gt 1 l7 l6] []) .skip)) (r1 [gm yz,gk 2 true rr,gn (.bsl 2 (.agg [.str [],.au]) 1 [(0,l1)]),gn (.app 2 l0 l2),gm l3] 17 4))))))) (r1 [gm s4,ay l0 cN,gm l1] 4 2)))))) (sq (r1 [gm yz,gm l0] 3 1) .ret)))))⟩
def w232 (h478:Ir Y)(h479:Lx Y)(h483:RF Y)(l:List Int)(i:Int)(r:Rec)  (hp0:0<=i/\i<=2000000)(hp1:∀j:Nat,j<r.needs.length->r.needs[j]!.option.length<=100/\(r.needs[j]!.any.length=1->r.needs[j]!.any[0]!.name.length<=100)):fo Y xp (.sl 2 ((iY l i r).map ct.D)) [.sl 1 (l.map (D.int .i64)),.int .i64 i,Rec.D r]:=by
 show ca _ _ _ [⟨_,_⟩,⟨_,_⟩,⟨_,_⟩,_,_,_,_,_,_,_,_,_,_,_,_,_,_,_] _;refine av ?_;refine bI ?_;refine ep (lj.map D.str) ?_;refine az ?_;refine aQ (.agg (lj.map D.str)) (he:=aT) ?_;refine bm ?_;refine bO hm (ι:=(Nat×List ct)) (fun p=>[⟨true,.sl 1 (l.map (D.int .i64))⟩,⟨true,.int .i64 i⟩,.un,.un,⟨true,.int .i64 (p.1:Nat)⟩,.un,.un,.un,⟨true,.ptr 4 4 0 0⟩,.un,⟨true,.ptr 0 9 0 0⟩,.un,.un,.un,.un,.un,.un,⟨true,.own 1 2 0 p.2.length⟩]) (fun p=>[(0,.buf 9 [Rec.D r]),(4,.buf 4 [.agg (lj.map D.str)]),(1,.buf 2 (p.2.map ct.D))]) 30 (fun p=>p.1<=4/\p.2=Jf l i r p.1) (fun p=>4-p.1) (0,[]) ⟨ea,rfl⟩ (aW.to [(0,0),(4,4)] ah ah (by repeat(first|exact dr.nil|refine dr.un ?_|refine dr.eq ah ?_|refine dr.ni (Or.inr ⟨_,_,_,rfl⟩) ?_)) (by refine bg.gH ah ah eL ?_;refine bg.gH ah ah eL ?_;refine bg.mt ah ah ah ah ?_;exact bg.nil)) ?_;rintro⟨k,fs⟩ ⟨hk,hf⟩;dsimp only at hk hf⊢;have hfl:fs.length<=k:=by
  rw[hf];unfold Jf;exact cC (List.length_filterMap_le _ _) aJ
 refine bm ?_;refine ax (fun hc0=>?_) (fun hc0=>?_)
 .try simp only[ed]at hc0
  refine bI ?_;refine aq (hc:=h479 l (i+(k:Nat))) ?_;refine bm ?_;refine aq (hc:=h478 _ 3 aE) ?_;refine aA ?_;refine dR (fun hc1=>?_) fun hc1=>?_
  .refine cH ?_;exact⟨(k+1,fs),⟨ea,by dsimp only;rw[hf,PC hc1]⟩,ea,(aW.to [(0,0),(4,4),(1,1)] ah ah lZ (by refine bg.gH ah ah eL ?_;refine bg.gH ah ah eL ?_;refine bg.gH ah ah eL ?_;exact bg.nil))⟩
  refine aG ?_;refine zQ k (hb:=fun _=>ae) ?_;refine bZ (v:=.str lj[k]!) (hv:=fun _=>C7 lj (by show _<4;omega) rfl) (ho:=ae) ?_;refine bq (.agg [.str lj[k]!,.au]) ?_;refine az ?_;refine aQ (.agg [.str lj[k]!,.au]) (he:=aT) ?_;refine az ?_;refine nS [(0,.buf 9 [Rec.D r]),(4,.buf 4 [.agg (lj.map D.str)]),(1,.buf 2 (fs.map ct.D)),(45,.buf 2 [(.agg [.str lj[k]!,.sl 1 ((([]:List ak)).map D.str)])])] (.id ah (.id ah (.id ah (.bf ah (.cons (.ag (.cons (.refl _) (.cons (.nil 1) .nil))) .nil) .nil)))) ?_;refine aK ?_;refine bO hm (ι:=(Nat×List ak)) (fun p=>[⟨true,.sl 1 (l.map (D.int .i64))⟩,⟨true,.int .i64 i⟩,.un,.un,⟨true,.int .i64 (k:Nat)⟩,.un,⟨true,.int .i64 (iQ l (i+(k:Nat)))⟩,.un,⟨true,.ptr 4 4 0 0⟩,⟨true,.int .i64 (p.1:Nat)⟩,⟨true,.ptr 0 9 0 0⟩,.un,.un,.un,⟨true,.ptr 2 2 0 0⟩,.un,.un,⟨true,.own 1 2 0 fs.length⟩]) (fun p=>[(0,.buf 9 [Rec.D r]),(4,.buf 4 [.agg (lj.map D.str)]),(1,.buf 2 (fs.map ct.D)),(2,.buf 2 [.agg [.str lj[k]!,.sl 1 (p.2.map D.str)]])]) 60 (fun p=>p.1<=min r.needs.length 2/\p.2=nZ r (iQ l (i+(k:Nat))) p.1) (fun p=>2-p.1) (0,[]) ⟨ea,rfl⟩ (aW.to [(0,0),(4,4),(1,1),(45,2)] ah ah lZ (by refine bg.gH ah ah eL ?_;refine bg.gH ah ah eL ?_;refine bg.gH ah ah eL ?_;refine bg.nl 45 ah ah rfl ah ?_;exact bg.nil)) ?_;rintro⟨j,of⟩ ⟨hj,ho⟩;dsimp only at hj ho⊢;have hol:of.length<=4:=by
   have:=zp r (iQ l (i+(k:Nat))) j;rw[ho];omega
  refine aK ?_;refine bZ (v:=.sl 3 (r.needs.map bT.D)) ?_;refine az ?_;intro u0;refine bh ?_;refine ax (fun hc2=>?_) (fun hc2=>?_)
  .simp only[bt,a8]at hc2;obtain⟨hpo,hpn⟩:=hp1 j ae;refine aK ?_;refine bZ (v:=.sl 3 (r.needs.map bT.D)) ?_;refine az ?_;refine cr j (hb:=fun _=>ae) ?_;refine b6 (v:=bT.D r.needs[j]!) (hi:=fun _=>ae) ?_;refine az ?_;refine aQ (bT.D r.needs[j]!) (he:=aT) ?_;refine lV ?_;refine tK (3+(j:Nat)) (hb:=fun _=>by rw[IntKind.wrap_u64];omega) ?_;refine EF _ (hb:=fun _=>rfl) ?_;refine zP (CH (iQ l (i+(k:Nat))) (3+(j:Nat))) (hb:=fun _=>rfl) ?_;refine aG ?_;refine dR (fun hc3=>?_) fun hc3=>?_
   .refine aA ?_;refine bZ (v:=.sl 1 (of.map D.str)) ?_;refine az ?_;refine bZ (v:=.str r.needs[j]!.option) ?_;refine eB (hb:=fun _=>dK) ?_;refine aq (hc:=h483 of ([63]++r.needs[j]!.option) ae) ?_;refine az ?_;refine aQ (.agg [.str lj[k]!,.sl 1 ((fE of ([63]++r.needs[j]!.option)).map D.str)]) (he:=aT) ?_;refine bm ?_;intro u1;refine bm ?_;refine tK (5+(j:Nat)) (hb:=fun _=>by rw[IntKind.wrap_u64];omega) ?_;refine EF _ (hb:=fun _=>rfl) ?_;refine zP (CH (iQ l (i+(k:Nat))) (5+(j:Nat))) (hb:=fun _=>rfl) ?_;refine aG ?_;refine iR (fun hc4=>?_) fun hc4=>?_
    .refine az ?_;have hpl:=oR of ([63]++r.needs[j]!.option);refine az ?_;refine bZ (v:=.sl 1 (((fE of ([63]++r.needs[j]!.option))).map D.str)) ?_;refine az ?_;refine bZ (v:=.sl 4 (r.needs[j]!.any.map cu.D)) ?_;refine cr 0 (hb:=fun _=>ae) ?_;refine az ?_;refine b6 (v:=.str r.needs[j]!.any[0]!.name) (hi:=fun _=>ae) ?_;refine eB (hb:=fun _=>by have:=hpn ae;simp only[aH,aO];omega) ?_;refine eB (hb:=fun _=>by have:=hpn ae;simp only[bA,aH,aO];omega) ?_;refine aq (hc:=h483 (fE of ([63]++r.needs[j]!.option)) (r.needs[j]!.any[0]!.name++[47]++[120]) ae) ?_;refine az ?_;refine aQ (.agg [.str lj[k]!,.sl 1 ((fE (fE of ([63]++r.needs[j]!.option)) (r.needs[j]!.any[0]!.name++[47]++[120])).map D.str)]) (he:=aT) ?_;refine cH ?_;have hA:Je r (iQ l (i+(k:Nat))) of j=fE of ([63]++r.needs[j]!.option):=aw hc3;have hB:N6 r (iQ l (i+(k:Nat))) (fE of ([63]++r.needs[j]!.option)) j=fE (fE of ([63]++r.needs[j]!.option)) (r.needs[j]!.any[0]!.name++[47]++[120]):=aw ⟨ae,hc4.2⟩;have hJ:nZ r (iQ l (i+(k:Nat))) (j+1)=(fE (fE of ([63]++r.needs[j]!.option)) (r.needs[j]!.any[0]!.name++[47]++[120])):=by rw[mR,N7,<-ho,hA,hB]
     exact⟨(j+1,(fE (fE of ([63]++r.needs[j]!.option)) (r.needs[j]!.any[0]!.name++[47]++[120]))),⟨ea,hJ.symm⟩,ea,(aW.to [(0,0),(4,4),(1,1),(2,2)] ah ah lZ (by refine bg.gH ah ah eL ?_;refine bg.gH ah ah eL ?_;refine bg.gH ah ah eL ?_;refine bg.gH ah ah eL ?_;exact bg.nil))⟩
    refine cH ?_;have hA:Je r (iQ l (i+(k:Nat))) of j=fE of ([63]++r.needs[j]!.option):=aw hc3;have hB:N6 r (iQ l (i+(k:Nat))) (fE of ([63]++r.needs[j]!.option)) j=(fE of ([63]++r.needs[j]!.option)):=aj (by rintro⟨h1,h2⟩;rcases hc4 with h|h;omega;exact h h2);have hJ:nZ r (iQ l (i+(k:Nat))) (j+1)=(fE of ([63]++r.needs[j]!.option)):=by rw[mR,N7,<-ho,hA,hB]
    exact⟨(j+1,(fE of ([63]++r.needs[j]!.option))),⟨ea,hJ.symm⟩,ea,(aW.to [(0,0),(4,4),(1,1),(2,2)] ah ah lZ (by refine bg.gH ah ah eL ?_;refine bg.gH ah ah eL ?_;refine bg.gH ah ah eL ?_;refine bg.gH ah ah eL ?_;exact bg.nil))⟩
   refine bm ?_;intro u1;refine bm ?_;refine tK (5+(j:Nat)) (hb:=fun _=>by rw[IntKind.wrap_u64];omega) ?_;refine EF _ (hb:=fun _=>rfl) ?_;refine zP (CH (iQ l (i+(k:Nat))) (5+(j:Nat))) (hb:=fun _=>rfl) ?_;refine aG ?_;refine iR (fun hc4=>?_) fun hc4=>?_
   .refine az ?_;have hpl:=oR of ([63]++r.needs[j]!.option);refine az ?_;refine bZ (v:=.sl 1 ((of).map D.str)) ?_;refine az ?_;refine bZ (v:=.sl 4 (r.needs[j]!.any.map cu.D)) ?_;refine cr 0 (hb:=fun _=>ae) ?_;refine az ?_;refine b6 (v:=.str r.needs[j]!.any[0]!.name) (hi:=fun _=>ae) ?_;refine eB (hb:=fun _=>by have:=hpn ae;simp only[aH,aO];omega) ?_;refine eB (hb:=fun _=>by have:=hpn ae;simp only[bA,aH,aO];omega) ?_;refine aq (hc:=h483 of (r.needs[j]!.any[0]!.name++[47]++[120]) ae) ?_;refine az ?_;refine aQ (.agg [.str lj[k]!,.sl 1 ((fE of (r.needs[j]!.any[0]!.name++[47]++[120])).map D.str)]) (he:=aT) ?_;refine cH ?_;have hA:Je r (iQ l (i+(k:Nat))) of j=of:=aj (by rintro⟨h1,h2⟩;rcases hc3 with h|h;exact h1 h;exact h h2);have hB:N6 r (iQ l (i+(k:Nat))) of j=fE of (r.needs[j]!.any[0]!.name++[47]++[120]):=aw ⟨ae,hc4.2⟩;have hJ:nZ r (iQ l (i+(k:Nat))) (j+1)=(fE of (r.needs[j]!.any[0]!.name++[47]++[120])):=by rw[mR,N7,<-ho,hA,hB]
    exact⟨(j+1,(fE of (r.needs[j]!.any[0]!.name++[47]++[120]))),⟨ea,hJ.symm⟩,ea,(aW.to [(0,0),(4,4),(1,1),(2,2)] ah ah lZ (by refine bg.gH ah ah eL ?_;refine bg.gH ah ah eL ?_;refine bg.gH ah ah eL ?_;refine bg.gH ah ah eL ?_;exact bg.nil))⟩
   refine cH ?_;have hA:Je r (iQ l (i+(k:Nat))) of j=of:=aj (by rintro⟨h1,h2⟩;rcases hc3 with h|h;exact h1 h;exact h h2);have hB:N6 r (iQ l (i+(k:Nat))) of j=of:=aj (by rintro⟨h1,h2⟩;rcases hc4 with h|h;omega;exact h h2);have hJ:nZ r (iQ l (i+(k:Nat))) (j+1)=of:=by rw[mR,N7,<-ho,hA,hB]
   exact⟨(j+1,of),⟨ea,hJ.symm⟩,ea,(aW.to [(0,0),(4,4),(1,1),(2,2)] ah ah lZ (by refine bg.gH ah ah eL ?_;refine bg.gH ah ah eL ?_;refine bg.gH ah ah eL ?_;refine bg.gH ah ah eL ?_;exact bg.nil))⟩
  simp only[dF,bC]at hc2;obtain rfl:j=min r.needs.length 2:=ae;subst ho;refine cH ?_;refine EF _ (hb:=fun _=>rfl) ?_;refine zP (CH (iQ l (i+(k:Nat))) 7) (hb:=fun _=>rfl) ?_;refine cH ?_;refine er (hc:=fun hf=>h479 l (i+(k:Nat)+1)) ?_;refine er (hc:=fun hf=>h478 _ 3 aE) ?_;refine aG ?_;refine dR (fun hc5=>?_) fun hc5=>?_
  .refine aA ?_;refine bZ (v:=.sl 1 ((nZ r (iQ l (i+(k:Nat))) (min r.needs.length 2)).map D.str)) ?_;refine aA ?_;refine zQ (k+1) (hb:=fun _=>ae) ?_;refine bZ (v:=.str lj[k+1]!) (hv:=fun _=>C7 lj (by show _<4;omega) rfl) (ho:=ae) ?_;refine aq (hc:=h483 (nZ r (iQ l (i+(k:Nat))) (min r.needs.length 2)) lj[k+1]! ae) ?_;refine az ?_;refine aQ (.agg [.str lj[k]!,.sl 1 ((fE (nZ r (iQ l (i+(k:Nat))) (min r.needs.length 2)) lj[k+1]!).map D.str)]) (he:=aT) ?_;refine aG ?_;refine dj (d:=ct.D ⟨lj[k]!,fE (nZ r (iQ l (i+(k:Nat))) (min r.needs.length 2)) lj[k+1]!⟩) ?_;refine cZ [ct.D ⟨lj[k]!,fE (nZ r (iQ l (i+(k:Nat))) (min r.needs.length 2)) lj[k+1]!⟩] ?_;refine jg (q:=ct.D) (xs:=fs) (e:=⟨lj[k]!,fE (nZ r (iQ l (i+(k:Nat))) (min r.needs.length 2)) lj[k+1]!⟩) ?_;refine ez ?_;have hC:Mj l i (iQ l (i+(k:Nat))) k (nZ r (iQ l (i+(k:Nat))) (min r.needs.length 2))=fE (nZ r (iQ l (i+(k:Nat))) (min r.needs.length 2)) lj[k+1]! :=aw ⟨⟨ae,hc5.1.2⟩,by rw[show i+(k:Nat)+1=i+(k:Int)+1 by omega];exact hc5.2⟩;exact⟨(k+1,fs++[⟨lj[k]!,fE (nZ r (iQ l (i+(k:Nat))) (min r.needs.length 2)) lj[k+1]!⟩]),⟨ea,by dsimp only;rw[hf];exact(Ef hc1 hC).symm⟩,ea,(aW.to [(0,0),(4,4),(99,1)] ah ah (by repeat(first|exact dr.nil|refine dr.un ?_|refine dr.eq ah ?_|refine dr.ni (Or.inr ⟨_,_,_,rfl⟩) ?_)) (by refine bg.gH ah ah eL ?_;refine bg.gH ah ah eL ?_;refine bg.nl 99 ah ah rfl (bj (fun _=>rfl) _) ?_;exact bg.nil))⟩
  refine aG ?_;refine dj (d:=ct.D ⟨lj[k]!,(nZ r (iQ l (i+(k:Nat))) (min r.needs.length 2))⟩) ?_;refine cZ [ct.D ⟨lj[k]!,(nZ r (iQ l (i+(k:Nat))) (min r.needs.length 2))⟩] ?_;refine jg (q:=ct.D) (xs:=fs) (e:=⟨lj[k]!,(nZ r (iQ l (i+(k:Nat))) (min r.needs.length 2))⟩) ?_;refine ez ?_;have hC:Mj l i (iQ l (i+(k:Nat))) k (nZ r (iQ l (i+(k:Nat))) (min r.needs.length 2))=(nZ r (iQ l (i+(k:Nat))) (min r.needs.length 2)):=aj (by rintro⟨⟨h1,h2⟩,h3⟩;rcases hc5 with(h|h)|h;omega;exact h h2;exact h3 h);exact⟨(k+1,fs++[⟨lj[k]!,(nZ r (iQ l (i+(k:Nat))) (min r.needs.length 2))⟩]),⟨ea,by dsimp only;rw[hf];exact(Ef hc1 hC).symm⟩,ea,(aW.to [(0,0),(4,4),(90,1)] ah ah (by repeat(first|exact dr.nil|refine dr.un ?_|refine dr.eq ah ?_|refine dr.ni (Or.inr ⟨_,_,_,rfl⟩) ?_)) (by refine bg.gH ah ah eL ?_;refine bg.gH ah ah eL ?_;refine bg.nl 90 ah ah rfl (bj (fun _=>rfl) _) ?_;exact bg.nil))⟩
 simp only[bC]at hc0;obtain rfl:k=4:=ae;refine bh ?_;refine eF 1 ?_;refine az ?_;refine cv (?_);rw[hf];rfl
def Fi (T:List D->D->Prop):Prop:=∀(l:List Int) (i:Int) (r:Rec),(0<=i/\i<=2000000)->(∀j:Nat,j<r.needs.length->r.needs[j]!.option.length<=100/\(r.needs[j]!.any.length=1->r.needs[j]!.any[0]!.name.length<=100))->T [.sl 1 (l.map (D.int .i64)),.int .i64 i,Rec.D r] (.sl 2 ((iY l i r).map ct.D))
def Rd (Y:Ctx):Prop:=Fi (ch Y 232)
def Bd:aN:=⟨3,10,[⟨3,some (9,true)⟩],[rm],(sq (r1 [gb 9 (.c (.agg [.str [],.int .i64 0,.int .i64 0,.int .i64 0,.str [],.str [],.au,.au,.au]))] 3 0) (sq (r1 [gm s2,gx 227 [l0] di,gm s0,gm s1,gx 228 [l2,l3,k9] [[.sl 1 [.a]],[.a],[.a]],gm s0,gm s1,ay l6 cN,gx 228 [l5,l7,mi] [[.sl 1 [.a]],[.a],[.a]],gn (.build [.int .i64 0,.int .i64 0,.int .i64 0,.str [],.str []] [(0,1,l4),(1,1,l8)]),gn (.build [.str [],.int .i64 0,.int .i64 0,.int .i64 0,.str [],.str [],.au,.au,.au] [(0,1,l1),(1,5,l9)]),gb 9 (.c (.agg [.str [],.int .i64 0,.int .i64 0,.int .i64 0,.str [],.str [],.au,.au,.au])),gt 9 kl l10] 5 11) (sq (sq (r1 [gm s0,gm s1,ay l1 mi,gx 228 [l0,l2,El] [[.sl 1 [.a]],[.a],[.a]],aU l3 cN] 4 4) (.cond s4 (rg [gf 1 s5,gf 3 l0,gt 1 l1 (cs [114,99,46,49])] []) .skip)) (sq (sq (r1 [gm s0,gm s1,ay l1 mi,gx 228 [l0,l2,El] [[.sl 1 [.a]],[.a],[.a]],aU l3 mi] 6 4) (.cond s6 (rg [gf 1 s5,gf 4 l0,gt 1 l1 (cs [55])] []) .skip)) (sq (sq (r1 [gm s0,gm s1,ay l1 k9,gx 228 [l0,l2,ud] [[.sl 1 [.a]],[.a],[.a]],gn (.bin .rem l3 k9),gm l4] 7 5) (.block 0 (.loop (sq (sq (r1 [gm s7,eI l0 b7] 8 1) (jG s8 0)) (sq (.block 1 (rt [gf 6 s5,gd l0,gm s0,gm s1,ay l3 ud,gm s7,gn (.bin .mul (i6 20) l5),ay l4 l6,gA l7 (i6 20),gm s2,gx 229 [l2,l8,l9] [[.sl 1 [.a]],[.a],[.a]],gn (.bsl 3 (.agg [.au,.str [],.str []]) 1 [(0,l10)]),gn (.app 3 l1 kl),gf 6 s5,gt 1 nQ mG] [])) (r1 [gm s7,gA l0 cN,gm l1] 7 2)))))) (sq (sq (r1 [gm s0,gm s1,ay l1 (i6 45),gx 228 [l0,l2,Ek] [[.sl 1 [.a]],[.a],[.a]],aU l3 cN] 9 4) (.cond s9 (rt [gf 7 s5,gd l0,gm s2,ay l2 cN,gm s0,gm s1,ay l5 (i6 46),gx 228 [l4,l6,ud] [[.sl 1 [.a]],[.a],[.a]],ay l3 l7,gx 227 [l8] di,gm s0,gm s1,ay kl (i6 47),gx 230 [l10,mG] [[.sl 1 [.a]],[.a]],gm s0,gm s1,ay pL (i6 50),gx 231 [n7,si] [[.sl 1 [.a]],[.a]],gn (.build [.str [],.str [],.str []] [(0,1,l9),(1,1,nQ),(2,1,xd)]),gn (.bsl 3 (.agg [.str [],.str [],.str []]) 1 [(0,yg)]),gn (.app 3 l1 Bc),gf 7 s5,gt 1 En C1] []) .skip)) (sq (rg [gm s0,gm s1,ay l1 (i6 52),gk 9 true s5,gx 232 [l0,l2,l3] [[.sl 1 [.a]],[.a],rm],gf 8 s5,gt 1 l5 l4] []) (sq (rg [gk 9 true s5,gt 9 s3 l0] []) .ret))))))))⟩
def w79 (h227:Ip Y)(h228:Cs Y)(h229:Rc Y)(h230:Lt Y)(h231:OJ Y)(h232:Rd Y)(l:List Int)(i:Int)(own:Int)  (hp0:0<=i/\i<=1000000)(hp1:0<=own/\own<=100000):fo Y Bd (Rec.D (ki l i own)) [.sl 1 (l.map (D.int .i64)),.int .i64 i,.int .i64 own]:=by
 show ca _ _ _ [⟨_,_⟩,⟨_,_⟩,⟨_,_⟩,_,_,_,_,_,_,_] _;refine av ?_;refine aK ?_;refine aq (hc:=h227 own) ?_;refine aA ?_;refine aq (hc:=h228 l (i) 3 aE) ?_;refine aG ?_;refine aq (hc:=h228 l (i+1) 2 aE) ?_;refine bq (gE.D ⟨dI l i 3,dI l (i+1) 2,0,[],[]⟩) ?_;refine bq (.agg [.str (b8 own),.int .i64 (dI l i 3),.int .i64 (dI l (i+1) 2),.int .i64 0,.str [],.str [],.au,.au,.au]) ?_;refine az ?_;refine aQ (.agg [.str (b8 own),.int .i64 (dI l i 3),.int .i64 (dI l (i+1) 2),.int .i64 0,.str [],.str [],.au,.au,.au]) (he:=aT) ?_;refine bh ?_;refine aq (hc:=h228 l (i+2) 9 aE) ?_;refine aA ?_;refine nK hm (ι:=Unit) (fun _=>[⟨true,.sl 1 (l.map (D.int .i64))⟩,⟨true,.int .i64 i⟩,⟨true,.int .i64 own⟩,⟨true,.ptr 0 9 0 0⟩,.un,⟨true,.ptr 12 9 0 0⟩,.un,.un,.un,.un]) (fun _=>[(0,.buf 9 [ey]),(12,.buf 9 [(.agg [.str (b8 own),.int .i64 (dI l i 3),.int .i64 (dI l (i+1) 2),.int .i64 0,.str (qJ l i),.str [],.au,.au,.au])])]) 30 (fun _=>True) ?_ ?_
 .refine iR (fun hc0=>?_) fun hc0=>?_
  .refine aG ?_;refine aQ (.agg [.str (b8 own),.int .i64 (dI l i 3),.int .i64 (dI l (i+1) 2),.int .i64 0,.str KA,.str [],.au,.au,.au]) (he:=aT) ?_;refine aA ?_;have hp:qJ l i=KA:=aw hc0;rw[hp];exact⟨(),trivial,(aW.to [(0,0),(12,12)] ah ah lZ (by repeat(first|exact bg.nil|refine bg.gH ah ah eL ?_|refine bg.Ih ah ah ah ?_)))⟩
  refine aA ?_;have hp:qJ l i=[]:=aj hc0;rw[hp];exact⟨(),trivial,(aW.to [(0,0),(12,12)] ah ah lZ (by repeat(first|exact bg.nil|refine bg.gH ah ah eL ?_|refine bg.Ih ah ah ah ?_)))⟩
 .rintro _-
  refine bm ?_;refine aq (hc:=h228 l (i+2) 9 aE) ?_;refine aA ?_;refine nK hm (ι:=Unit) (fun _=>[⟨true,.sl 1 (l.map (D.int .i64))⟩,⟨true,.int .i64 i⟩,⟨true,.int .i64 own⟩,⟨true,.ptr 0 9 0 0⟩,.un,⟨true,.ptr 12 9 0 0⟩,.un,.un,.un,.un]) (fun _=>[(0,.buf 9 [ey]),(12,.buf 9 [(.agg [.str (b8 own),.int .i64 (dI l i 3),.int .i64 (dI l (i+1) 2),.int .i64 0,.str (qJ l i),.str (vE l i),.au,.au,.au])])]) 40 (fun _=>True) ?_ ?_
  .refine iR (fun hc1=>?_) fun hc1=>?_
   .refine aG ?_;refine aQ (.agg [.str (b8 own),.int .i64 (dI l i 3),.int .i64 (dI l (i+1) 2),.int .i64 0,.str (qJ l i),.str [55],.au,.au,.au]) (he:=aT) ?_;refine aA ?_;have hp:vE l i=[55]:=aw hc1;rw[hp];exact⟨(),trivial,(aW.to [(0,0),(12,12)] ah ah lZ (by repeat(first|exact bg.nil|refine bg.gH ah ah eL ?_|refine bg.Ih ah ah ah ?_)))⟩
   refine aA ?_;have hp:vE l i=[]:=aj hc1;rw[hp];exact⟨(),trivial,(aW.to [(0,0),(12,12)] ah ah lZ (by repeat(first|exact bg.nil|refine bg.gH ah ah eL ?_|refine bg.Ih ah ah ah ?_)))⟩
  .rintro _-
   have hK:=N8 l i;refine bm ?_;refine aq (hc:=h228 l (i+3) 4 aE) ?_;refine EE ((gK l i:Nat):Int) (hn:=by intro _;omega) (hb:=fun _=>SV l i) ?_;refine aA ?_;refine bO hm (ι:=(Nat×List bT)) (fun p=>[⟨true,.sl 1 (l.map (D.int .i64))⟩,⟨true,.int .i64 i⟩,⟨true,.int .i64 own⟩,⟨true,.ptr 0 9 0 0⟩,.un,⟨true,.ptr 12 9 0 0⟩,.un,⟨true,.int .i64 (p.1:Nat)⟩,.un,.un]) (fun p=>[(0,.buf 9 [ey]),(12,.buf 9 [(.agg [.str (b8 own),.int .i64 (dI l i 3),.int .i64 (dI l (i+1) 2),.int .i64 0,.str (qJ l i),.str (vE l i),.own 1 3 0 p.2.length,.au,.au])]),(1,.buf 3 (p.2.map bT.D))]) 60 (fun p=>p.1<=gK l i/\p.2=Cq l i own (gK l i-p.1)) (fun p=>p.1) (gK l i,[]) ⟨aF _,by dsimp only;rw[Nat.sub_self];rfl⟩ (aW.to [(0,0),(12,12)] ah ah lZ (by refine bg.gH ah ah eL ?_;refine bg.ni 12 ah ah (by exact⟨_,_,rfl,⟨_,rfl,⟨_,_,rfl,⟨rfl,rfl⟩,⟨_,_,rfl,⟨rfl,rfl⟩,⟨_,_,rfl,⟨rfl,rfl⟩,⟨_,_,rfl,⟨rfl,rfl⟩,⟨_,_,rfl,⟨rfl,rfl⟩,⟨_,_,rfl,⟨rfl,rfl⟩,⟨_,_,rfl,Or.inr ⟨_,_,_,rfl⟩,⟨_,_,rfl,Or.inl rfl,⟨_,_,rfl,Or.inl rfl,rfl⟩⟩⟩⟩⟩⟩⟩⟩⟩⟩,rfl⟩) ?_;refine bg.mt ah ah ah ah ?_;exact bg.nil)) ?_;rintro⟨k,ns⟩ ⟨hk,hn⟩;dsimp only at hk hn⊢;have hnl:ns.length<=3:=by rw[hn];simp[Cq];omega
   refine bm ?_;refine ax (fun hc2=>?_) (fun hc2=>?_)
   .try simp only[ed]at hc2
    refine ez ?_;refine uL ?_;refine aG ?_;refine aq (hc:=h229 l (i+4+20*(k:Int) -20) own ae ae) ?_;refine cZ [bT.D (gr l (i+4+20*(k:Int) -20) own)] ?_;refine jg (q:=bT.D) (xs:=ns) (e:=gr l (i+4+20*(k:Int) -20) own) ?_;refine az ?_;refine aQ (.agg [.str (b8 own),.int .i64 (dI l i 3),.int .i64 (dI l (i+1) 2),.int .i64 0,.str (qJ l i),.str (vE l i),.own 74 3 0 (ns++[gr l (i+4+20*(k:Int) -20) own]).length,.au,.au]) (he:=aT) ?_;refine cH ?_;exact⟨(k-1,ns++[gr l (i+4+20*(k:Int) -20) own]),⟨ea,by dsimp only;rw[Ji hk ae,hn]⟩,ea,(aW.to [(0,0),(12,12),(74,1)] ah ah (by repeat(first|exact dr.nil|refine dr.un ?_|refine dr.eq ah ?_|refine dr.nl (ar (D.int .i64) (show((k-1:Nat):Int)=(k:Int) -1 by omega)) ah ?_)) (by refine bg.gH ah ah eL ?_;refine bg.Ih ah ah ah ?_;refine bg.nl 74 ah ah rfl (bj (fun _=>rfl) _) ?_;exact bg.nil))⟩
   simp only[bC]at hc2;obtain rfl:k=0:=ae;obtain rfl:ns=oA l i own:=by rw[hn];rfl
   refine aG ?_;refine eF 1 ?_;refine aK ?_;refine aq (hc:=h228 l (i+45) 5 aE) ?_;refine aA ?_;refine nK hm (ι:=Unit) (fun _=>[⟨true,.sl 1 (l.map (D.int .i64))⟩,⟨true,.int .i64 i⟩,⟨true,.int .i64 own⟩,⟨true,.ptr 0 9 0 0⟩,.un,⟨true,.ptr 12 9 0 0⟩,.un,.un,.un,.un]) (fun _=>[(0,.buf 9 [ey]),(12,.buf 9 [(.agg [.str (b8 own),.int .i64 (dI l i 3),.int .i64 (dI l (i+1) 2),.int .i64 0,.str (qJ l i),.str (vE l i),(.sl 3 ((oA l i own).map bT.D)),(.own 2 3 0 (qi l i own).length),.au])]),(2,.buf 3 ((qi l i own).map jT.D))]) 100 (fun _=>True) ?_ ?_
   .refine iR (fun hc3=>?_) fun hc3=>?_
    .refine az ?_;have hr46:=cY l (i+46) 4 aE;refine az ?_;refine bZ (v:=.au) ?_;refine bm ?_;refine aq (hc:=h228 l (i+46) 4 aE) ?_;refine az ?_;refine aq (hc:=h227 (own+1+dI l (i+46) 4)) ?_;refine aG ?_;refine aq (hc:=h230 l (i+47) ae) ?_;refine aG ?_;refine aq (hc:=h231 l (i+50) ae) ?_;refine bq (jT.D (xn l i own)) ?_;refine cZ [jT.D (xn l i own)] ?_;refine zO (n:=1) (ys:=[jT.D (xn l i own)]) (he:=sg.all ah rfl) (hn:=rfl) ?_;refine az ?_;refine aQ (.agg [.str (b8 own),.int .i64 (dI l i 3),.int .i64 (dI l (i+1) 2),.int .i64 0,.str (qJ l i),.str (vE l i),(.sl 3 ((oA l i own).map bT.D)),(.own 87 3 0 1),.au]) (he:=aT) ?_;refine aA ?_;have hb:qi l i own=[xn l i own]:=aw hc3;rw[hb];exact⟨(),trivial,(aW.to [(0,0),(12,12),(87,2)] ah ah lZ (by refine bg.gH ah ah eL ?_;refine bg.Ih ah ah ah ?_;refine bg.nl 87 ah ah ah ah ?_;exact bg.nil))⟩
    refine aA ?_;have hb:qi l i own=[]:=aj hc3;rw[hb];exact⟨(),trivial,(aW.to [(0,0),(12,12)] ah ah lZ (by refine bg.gH ah ah eL ?_;refine bg.ni 12 ah ah (by exact⟨_,_,rfl,⟨_,rfl,⟨_,_,rfl,⟨rfl,rfl⟩,⟨_,_,rfl,⟨rfl,rfl⟩,⟨_,_,rfl,⟨rfl,rfl⟩,⟨_,_,rfl,⟨rfl,rfl⟩,⟨_,_,rfl,⟨rfl,rfl⟩,⟨_,_,rfl,⟨rfl,rfl⟩,⟨_,_,rfl,⟨rfl,rfl⟩,⟨_,_,rfl,Or.inr ⟨_,_,_,rfl⟩,⟨_,_,rfl,Or.inl rfl,rfl⟩⟩⟩⟩⟩⟩⟩⟩⟩⟩,rfl⟩) ?_;refine bg.mt ah ah ah ah ?_;exact bg.nil))⟩
   .rintro _-
    refine eF 2 ?_;refine nS [(0,.buf 9 [ey]),(12,.buf 9 [Rec.D (nP l i own)])] (.id ah (.bf ah (.cons (.ag (.cons (.refl _) (.cons (.refl _) (.cons (.refl _) (.cons (.refl _) (.cons (.refl _) (.cons (.refl _) (.cons (.refl _) (.cons (.refl _) (.cons (.nil 2) .nil)))))))))) .nil) .nil)) ?_;refine aK ?_;refine dj (d:=Rec.D (nP l i own)) ?_;refine aq (hc:=h232 l (i+52) (nP l i own) ae (GX l i own)) ?_;refine az ?_;refine aQ (Rec.D (ki l i own)) (he:=aT) ?_;refine aA ?_;refine dj (d:=Rec.D (ki l i own)) ?_;refine aQ (Rec.D (ki l i own)) (he:=aT) ?_;refine aA ?_;refine cv (?_);rfl
def Li (T:List D->D->Prop):Prop:=∀(l:List Int) (i:Int) (own:Int),(0<=i/\i<=1000000)->(0<=own/\own<=100000)->T [.sl 1 (l.map (D.int .i64)),.int .i64 i,.int .i64 own] (Rec.D (ki l i own))
def C79 (Y:Ctx):Prop:=Li (ch Y 79)
def zV:aN:=⟨1,6,[⟨1,none⟩,⟨2,none⟩],iZ,(sq (rg [gb 9 s0,gm cse,gm b7] [(3,0),(1,1),(2,2)]) (sq (sq (r1 [gk 9 true s3,gx 70 [l0] [rm],gm l1,ge l2 0,ge l2 1,gm l3,gm l4] 4 5) (sq (r1 [gm s4,dd l0 b7] 5 1) (.cond s5 (sq (rg [gm s4,gm cse,gm l0] [(1,1),(2,2)]) .ret) .skip))) (sq (rg [gk 9 true s3,gx 215 [l0] [rm],gm l1,gm b7] [(1,2),(2,3)]) .ret)))⟩
def w72 {Y:Ctx}(hm:(Y.at 0).cQ)(h70:C70 Y)(h215:OI Y)(r:Rec)  (hp0:m4 r):fo Y zV (.tup [.str (kv r).1,.int .i64 (kv r).2]) [Rec.D r]:=by
 show ca _ _ _ [⟨_,_⟩,_,_,_,_,_] _;refine av ?_;refine bI ?_;refine aq (hc:=h70 r hp0) ?_;refine fJ ?_;refine dR (fun hc0=>?_) fun hc0=>?_
 .refine bI ?_;refine cv (aZ (ar D.str ?_) (ar (D.int .i64) ?_));all_goals
   simp[kv,hc0]
 refine aA ?_;have hgd:=AG hc0;refine az ?_;refine aq (hc:=h215 r ⟨hgd,hp0⟩) ?_;refine aK ?_;refine cv (aZ (ar D.str ?_) (ar (D.int .i64) ?_));all_goals
  simp[kv,hc0]
def Lg (T:List D->D->Prop):Prop:=∀(r:Rec),(m4 r)->T [Rec.D r] (.tup [.str (kv r).1,.int .i64 (kv r).2])
def C72 (Y:Ctx):Prop:=Lg (ch Y 72)
def rj:aN:=⟨2,3,[⟨2,none⟩],[[.sl 1 [.a]]],(sq (r1 [gm (.c (.au))] 2 0) (sq (r1 [gm s0,gm s1,gm s1,uE l2,gn (.call 331 [l0,l1,l3,(.c (.int .i64 (-1)))] hb4),gm l4] 2 5) .ret))⟩
def w239 {Y:Ctx}(hm:(Y.at 0).cQ)(h331:Rl Y)(s:ak)  (hp0:s.length<=1048576):fo Y rj (.sl 1 ((hH s).map D.str)) [.str s,.str [10]]:=by
 show ca _ _ _ [⟨_,_⟩,⟨_,_⟩,_] _;refine av ?_;refine bI ?_;intro u0;refine aq (hc:=h331 s hp0) ?_;refine aG ?_;refine cv (?_);rfl
def Fk (T:List D->D->Prop):Prop:=∀(s:ak),(s.length<=1048576)->T [.str s,.str [10]] (.sl 1 ((hH s).map D.str))
def Rf (Y:Ctx):Prop:=Fk (ch Y 239)
def zX:List ak:=[[111,110,101],[116,119,111]]
def AZ (l:List Int)(i own:Int):iq:=⟨ki l i own,
 if dI l (i+82) 6=1 then [⟨b8 (1+dI l (i+83) 3),zX[(dI l (i+84) 2).toNat]!⟩]else [],
 if dI l (i+85) 6=1 then [⟨b8 (1+dI l (i+86) 4),j3 l (i+87)⟩]else []⟩
def SR (t:ak):nX 3 (ai t 32)=aV t:=by
 unfold nX aV
 match ai t 32 with
 |[]=>rfl
 |[a]=>rfl
 |[a,b]=>rfl
 |[a,b,c]=>rfl
 |a::b::c::d::r=>
  rw[aj aJ,aj aJ];rfl
def bS:ak:=[98]
def cS:ak:=[99]
def Oj (a b:ak):Bool:=Op.bytesLess a b ||a==b
def rsP (n:ak):List dW:=[⟨bS,zX[0]!⟩,⟨n,zX[1]!⟩]
def rsH (n:ak):List bF:=[⟨bS,[42]⟩,⟨cS,[42]⟩,⟨n,[60,49]⟩]
def QX (l:List Int)(own:Int):iq:=⟨ki l 0 0,rsP (b8 own),rsH (b8 own)⟩
def Tq:∀k,k<5->oP (rsP Dl[k]!)=(if Oj Dl[k]! bS=true then(15,1)else(0,0))/\nC (rsH Dl[k]!)=(if Oj Dl[k]! cS=true then(4,2)else(0,0)):=by decide+kernel
def KJ (l:List Int)(own:Int):dA (QX l own)=if Oj (b8 own) bS=true then(15,1)else if Oj (b8 own) cS=true then(4,2)else(0,0):=by
 obtain⟨hk,e⟩:=lC own;obtain⟨h1,h2⟩:=Tq _ hk;unfold dA;rw[aj (by rw[show cw (QX l own).r=(0,0)from(A1 l 0 0).check];simp),aj (by show ¬(8<2\/8<3);omega)];show(if ¬(oP (rsP (b8 own))).1=0 then oP (rsP (b8 own))else nC (rsH (b8 own)))=_;rw[e,h1,h2];split
 .rfl
 .rfl
def LV:ak:=[112,97,99,107,97,103,101,32,97,112,112,32,49,46,48,46,48,10,112,105,110,32,98,32,111,110,101,10,104,111,108,100,32,98,32,60,50,10]
def LW:ak:=[112,97,99,107,97,103,101,32,97,112,112,32,49,46,48,46,48,10,104,111,108,100,32,98,32,60,50,10,112,105,110,32,98,32,111,110,101,10]
def Gq:iq:=⟨⟨[97,112,112],⟨1,0,0,[],[]⟩,[],[],[]⟩,[⟨bS,zX[0]!⟩],[⟨bS,[60,50]⟩]⟩
def SP:kN LV=(Gq,0,0):=by decide+kernel
def N3:(kN LW).2=(2,3):=by decide+kernel
def SQ:qR Gq=(LV,0):=by decide+kernel
end Go.Abs
