/- A part of the proofs. -/
import Derived.Test.YtkmlboofmolbaaaGreatDoorP07
set_option linter.all false
set_option maxRecDepth 60000
set_option maxHeartbeats 2000000
noncomputable section
namespace Go.Abs
variable(T:List D->D->Prop)(Z:Ctx){env env' rs:List ba}(n:Nat){J:Src->ba}{α:Type}(x:List GI){g:Option (Nat×Bool)}{cm:List (Nat×Nat)}{d:D}{Y:Ctx}{draw:Bool}{ds:List D}{nx k l f:Nat}(b:Bool){st:St}
section
variable [cP]{P:Program}{ν:List (Nat×Nat)}{bU:List Nat}{t:List (Nat×mO)}{fid n key u:Nat}{af:aj}{m:List (Nat×bn)}{K:D->St->Prop}
def rZ {a b:Nat}(h:a≠b):Nat.beq a b=false:=by
 cases h2:Nat.beq a b with
 |false=>rfl
 |true=>exact absurd (Nat.eq_of_beq_eq_true h2) h
theorem DO {m:List (Nat×bn)}{lw:Nat}(h:l≠lw):gC (cT m lw) l=match look m l with
 |some (.bld (some l2) _ _)=>cT (cT m lw) l2
 |_=>cT m lw:=by
 grind [gC,fq,look]
def TX {ws:List au}{s:au}{lw:Nat}(hmix:P.follows .mixedOrders=true)(hC:Vc P ν bU fid af)(hnp:2=af.np)(h1:uR m l s)(h2:look m lw=some (.buf 1 (ws.map D.str)))(h3:l<nx)(h4:lw<nx)(hK:K (.tup []) ⟨nx+1,r7 (cT m lw) l nx (s++cx ws)⟩)(hw:∀m0,uR m0 0 s->look m0 1=some (.buf 1 (ws.map D.str))->dx ((under t key u).at 3) af.body (uG af (λd m=>d=.tup []/\look m 0=some (.bld (some 9) (s++cx ws).length true)/\look m 9=some (.row (s++cx ws)))) (fU af [.ptr 0 2 0 0,.own 1 1 0 ws.length]) ⟨3,m0⟩):
  uS P ν bU (under t key u) fid [.ptr l 2 0 0,.own lw 1 0 ws.length] ⟨nx,m⟩ K:=by
 have hlw:l≠lw:=by
  rintro rfl;rcases h1 with⟨u,h,_⟩|⟨l2,u,h,_⟩<;>rw[h2]at h<;>cases h
 have hnl:aM (ws.map D.str)=true:=bQ (λ_=>rfl) _;have b1:=rZ hlw;have b2:=rZ (Ne.symm hlw);have b3:=rZ (show l≠nx by omega);have b4:=rZ (show nx≠l by omega)

 have fin:∀(σi:List (Nat×Nat)) (m0:List (Nat×bn)),gU 0 3 σi=true->(l,0)∈σi->(∀l i,(l,i)∈σi->look m l≠none)->(∀i b,look m0 i=some b->∃l b',(l,i)∈σi/\look m l=some b'/\qv 0 σi b' b)->
   (∀l' b,look (gC (cT m lw) l) l'=some b->l'≠l->look m l'=some b/\∀i,(l',i)∉σi)->∀d m1,(d=.tup []/\look m1 0=some (.bld (some 9) (s++cx ws).length true)/\look m1 9=some (.row (s++cx ws)))->
   ∃(σo:List (Nat×Nat)) (q1:Nat) (st':St) (vd':D),Fr σi σo 3 q1 m0 m1 ⟨nx,m⟩ st'/\RnD 0 σo d vd'/\K vd' st':=by
  rintro σi m0 oki hm hlt hm0 hoff d m1 ⟨rfl,e0,e9⟩;refine⟨[(0,l),(9,nx)],10,⟨nx+1,r7 (cT m lw) l nx (s++cx ws)⟩,.tup [],⟨oki, ?_,Nat.le_succ _,hlt, ?_,hm0, ?_⟩,.inl ⟨rfl,rfl⟩,hK⟩
  .simp[gU,b3,b4];exact⟨ae,rfl⟩
  .intro i l' h;rcases bL.1 h with h|h
   .obtain⟨rfl,rfl⟩:=Prod.mk.inj h;exact .inl hm
   .obtain⟨rfl,rfl⟩:=Prod.mk.inj (aD.1 h);exact .inr (aN _)
  .intro l' bb h;simp only[r7,look]at h;split at h
   .rename_i e;subst e;obtain rfl:=a7 h;exact .inl ⟨9,_,.tail _ (.head _),e9,rfl⟩
   .rename_i hln;rw[bS]at h;split at h
    .rename_i e;subst e;obtain rfl:=a7 h;exact .inl ⟨0,_,.head _,e0,⟨nx,rfl,rfl⟩,rfl,rfl⟩
    .rename_i hl;obtain⟨g1,g2⟩:=hoff l' bb h hl;exact .inr ⟨by simp only[oc,ai (λe=>hl (Eq.symm e)),ai hln],g2,g1⟩
 rcases h1 with⟨u,h1,rfl⟩|⟨l2,u,h1,h5⟩
 .have g4:∀l' i,(l',i)∈[(l,0),(lw,1)]->look m l'≠none:=by
   intro l' i h;rcases bL.1 h with h|h
   .obtain⟨rfl,rfl⟩:=Prod.mk.inj h;rw[h1];simp
   .obtain⟨rfl,rfl⟩:=Prod.mk.inj (aD.1 h);rw[h2];simp
  have g3:gU 0 3 [(l,0),(lw,1)]=true:=by simp[gU,b1,b2];rfl
  have g5:∀i b,look [(0,bn.bld none 0 u),(1,.buf 1 (ws.map D.str))] i=some b->∃l' b',(l',i)∈[(l,0),(lw,1)]/\look m l'=some b'/\qv 0 [(l,0),(lw,1)] b' b:=by
   intro i b h;simp only[look]at h;split at h
   .rename_i e;subst e;obtain rfl:=a7 h;exact⟨l,_,.head _,h1,rfl,rfl,rfl⟩
   .split at h
    .rename_i e;subst e;obtain rfl:=a7 h;exact⟨lw,_,.tail _ (.head _),h2,rfl,.inl ⟨rfl,hnl⟩⟩
    .cases h
  refine Lr (σi:=[(l,0),(lw,1)]) (cs:=[.ptr 0 2 0 0,.own 1 1 0 ws.length]) (λq=>Gq t key _ q) hmix hC rfl ?_ hnp g3 g4 g5 (hw _ (.inl ⟨u,rfl,rfl⟩) rfl) (fin _ _ g3 (.head _) g4 g5 ?_)
  .intro i hi
   match i,hi with
   |0,_=>exact .inr (.inl S5)
   |1,_=>exact .inr (.inl (by simp[rW,Si,mN,b1]))
  .intro l' b h hl;rw[DO hlw]at h;simp only[h1]at h;rw[fq]at h;split at h
   .cases h
   .rename_i hw';refine⟨h,λi hi=>?_⟩;rcases bL.1 hi with hi|hi
    .exact hl (Prod.mk.inj hi).1
    .exact hw' (Prod.mk.inj (aD.1 hi)).1
 .have c1:l2≠l:=by rintro rfl;rw[h1]at h5;cases h5
  have c2:l2≠lw:=by rintro rfl;rw[h2]at h5;cases h5
  have d1:=rZ c1;have d2:=rZ c2;have d3:=rZ (Ne.symm c1);have d4:=rZ (Ne.symm c2);have g4:∀l' i,(l',i)∈[(l,0),(lw,1),(l2,2)]->look m l'≠none:=by
   intro l' i h;rcases bL.1 h with h|h
   .obtain⟨rfl,rfl⟩:=Prod.mk.inj h;rw[h1];simp
   .rcases bL.1 h with h|h
    .obtain⟨rfl,rfl⟩:=Prod.mk.inj h;rw[h2];simp
    .obtain⟨rfl,rfl⟩:=Prod.mk.inj (aD.1 h);rw[h5];simp
  have g3:gU 0 3 [(l,0),(lw,1),(l2,2)]=true:=by simp[gU,b1,b2,d1,d2,d3,d4];exact⟨⟨rfl,rfl⟩,rfl⟩
  have g5:∀i b,look [(0,bn.bld (some 2) s.length u),(1,.buf 1 (ws.map D.str)),(2,.row s)] i=some b->∃l' b',(l',i)∈[(l,0),(lw,1),(l2,2)]/\look m l'=some b'/\qv 0 [(l,0),(lw,1),(l2,2)] b' b:=by
   intro i b h;simp only[look]at h;split at h
   .rename_i e;subst e;obtain rfl:=a7 h;exact⟨l,_,.head _,h1,⟨2,by simp[mN,d3,d4],rfl⟩,rfl,rfl⟩
   .split at h
    .rename_i e;subst e;obtain rfl:=a7 h;exact⟨lw,_,.tail _ (.head _),h2,rfl,.inl ⟨rfl,hnl⟩⟩
    .split at h
     .rename_i e;subst e;obtain rfl:=a7 h;exact⟨l2,_,.tail _ (.tail _ (.head _)),h5,rfl⟩
     .cases h
  refine Lr (σi:=[(l,0),(lw,1),(l2,2)]) (cs:=[.ptr 0 2 0 0,.own 1 1 0 ws.length]) (λq=>Gq t key _ q) hmix hC rfl ?_ hnp g3 g4 g5 (hw _ (.inr ⟨2,u,rfl,rfl⟩) rfl) (fin _ _ g3 (.head _) g4 g5 ?_)
  .intro i hi
   match i,hi with
   |0,_=>exact .inr (.inl S5)
   |1,_=>exact .inr (.inl (by simp[rW,Si,mN,b1]))
  .intro l' b h hl;rw[DO hlw]at h;simp only[h1]at h;rw[fq]at h;split at h
   .cases h
   .rename_i hw2;rw[fq]at h;split at h
    .cases h
    .rename_i hw';refine⟨h,λi hi=>?_⟩;rcases bL.1 hi with hi|hi
     .exact hl (Prod.mk.inj hi).1
     .rcases bL.1 hi with hi|hi
      .exact hw' (Prod.mk.inj hi).1
      .exact hw2 (Prod.mk.inj (aD.1 hi)).1
end
def ah {p:Prop}(h:p:=by exact rfl):p:=h
def Pa {p:Prop}(h:p:=by repeat(first|exact fH.nil|refine fH.un ?_|refine fH.eq cZ ?_)):p:=h
def ec {p:Prop}(h:p:=by first|exact rfl|exact bQ (λ_=>rfl) _):p:=h
def O9 {p:Prop}(h:p:=by repeat(first|exact fH.nil|refine fH.un ?_|refine fH.eq cZ ?_|refine fH.nl cZ cZ ?_)):p:=h
def jC {p:Prop}(h:p:=by repeat' first|exact trivial|exact rfl|refine And.intro ?_ ?_):p:=h
def Dk {p:Prop}(h:p:=by repeat' first|exact trivial|exact rfl|exact aN _|refine And.intro ?_ ?_):p:=h
def Dj {p:Prop}(h:p:=by repeat(first|exact bp.nil|refine bp.vO cZ cZ (by first|exact rfl|exact bQ (λ_=>rfl) _) ?_|refine bp.KD cZ cZ cZ ?_|refine bp.NN cZ cZ cZ cZ ?_)):p:=h
def Mm {p:Prop}(h:p:=by simp only[uJ,iz,lu,wF,Aa,cT,Nat.reduceEqDiff,a8,aW,fS,dG,dh,fG,fR,bX,aZ,aN,cR,br,reduceCtorEq,bE,b8,Nat.reduceAdd,Nat.reduceLeDiff];exact rfl):p:=h
def b0 {p:Prop}[Decidable p]:(decide p=true)=p:=aV
def b1 {p:Prop}[Decidable p]:decide p=false↔¬p:=cy
def b2:((!b)=true)=(b=false):=cG b
def b3:((!b)=false)=(b=true):=dq b
def b4:(¬(b=false))=(b=true):=Bool.not_eq_false b
def b5 (a b:Bool):((a ||b)=true)=(a=true\/b=true):=dF a b
abbrev wkk (Y:Ctx)(a:aj)(d:D)(ds:List D):Prop:=dx (Y.at 0) a.body (NX a d) (fU a ds) ⟨0,[]⟩
def fM {a:aj}{d2:D}{e:Ex}{m:List (Nat×bn)}(h:d2=d)(he:e.home:=by exact trivial)(h1:oA m env a.res:=by exact Dk)(h2:AR a env m:=by exact jC)(h3:NK a env m=d2:=by exact rfl):NX a d e env ⟨nx,m⟩:=PV he h1 h2 (h3.trans h)
def rrrb {a:aj}{d d2:Bool}{e:Ex}{m:List (Nat×bn)}(h:d2=d)(he:e.home:=by exact trivial)(h1:oA m env a.res:=by exact Dk)(h2:AR a env m:=by exact jC)(h3:NK a env m=.bool d2:=by exact rfl):NX a (.bool d) e env ⟨nx,m⟩:=fM (aw _ h) he h1 h2 h3
def gtt {lo c nx2:Nat}{env2:List ba}{m m2:List (Nat×bn)}(σ:List (Nat×Nat))(hc:nx2=c:=by exact ah)(h:gU lo c σ=true:=by exact ah)(he:fH lo σ env env2:=by exact O9)(hm:bp lo c σ m m2:=by exact Dj):aY lo env ⟨nx,m⟩ env2 ⟨nx2,m2⟩:=aY.to σ hc h he hm
section
variable {Q:Ex->List ba->St->Prop}
def cmN:Wm env rs []=env:=rfl
def cmC {s p:Nat}{r:List (Nat×Nat)}{env1:List ba}{f:Bool}(e:bZ [] rs (.l p)=⟨f,d⟩)(hs:env.set s ⟨f,d⟩=env1)(h:Wm env1 rs r=env'):Wm env rs ((s,p)::r)=env':=by
 simp only[Wm,e,hs,h]
def rrrg {b:AC}{nx':Nat}{m:List (Nat×bn)}{fU:List ba}(h:dx Y b Q env' ⟨nx',m⟩)(he:Wm env rs cm=env':=by repeat(first|apply cmC cZ (by simp only[List.set_cons_zero,List.set_cons_succ];exact rfl)|with_reducible exact cmN))(hn:nx+rs.length=nx':=by simp only[bE,b8,Nat.reduceAdd];exact rfl):ay Y draw [] fU rs nx m (λvs st'=>dx Y b Q (iF env vs cm) st'):=
 bB h he hn
def rrrh {nx':Nat}{m:List (Nat×bn)}{fU:List ba}(h:Q .normal env' ⟨nx',m⟩)(he:Wm env rs cm=env':=by repeat(first|apply cmC cZ (by simp only[List.set_cons_zero,List.set_cons_succ];exact rfl)|with_reducible exact cmN))(hn:nx+rs.length=nx':=by simp only[bE,b8,Nat.reduceAdd];exact rfl):ay Y draw [] fU rs nx m (λvs st'=>Q .normal (iF env vs cm) st'):=
 nH h he hn
end
def Fam (_:Prop):Type:=Unit
def wE {q:Prop}:Fam q:=()
structure Hid (q:Prop)(f:Fam q):Prop where
 val:q
def zzn {p q:Prop}(k:q)(h:Hid q wE->p:=by intro h;first|exact HN λ_=>h.1|exact Dn λ_=>h.1|exact Pg λ_=>h.1):p:=h ⟨k⟩
def gJ:(∀{p:Prop} [Decidable p],(decide p=true)=p)/\(∀{p:Prop} [Decidable p],decide p=false↔¬p)/\(∀b:Bool,((!b)=true)=(b=false))/\(∀b:Bool,((!b)=false)=(b=true))/\(∀b:Bool,(¬(b=false))=(b=true))/\(∀a b:Bool,((a ||b)=true)=(a=true\/b=true))/\(∀{a b:Bool},(a ||b)=false↔a=false/\b=false)/\(∀a b:Bool,((a&&b)=true)=(a=true/\b=true))/\(∀{a b:Bool},(a&&b)=false↔a=false\/b=false)/\(∀b:Bool,(¬(b=true))=(b=false))/\(∀b:Bool,(true&&b)=b)/\∀b:Bool,(b&&true)=b:=
 ⟨aV,cy,cG,dq,Bool.not_eq_false,dF,eF,aC,er,Bool.not_eq_true,eu,gG⟩
section
variable {Q:Ex->List ba->St->Prop}
def dN {c:Src}{a b r:AC}{t:Bool}{c1 c2:Prop}(h1:c1->dx Y (.seq a r) Q env st)(h2:c2->dx Y (.seq b r) Q env st)(hc:bZ env [] c=⟨true,.bool t⟩:=by exact rfl)(e1:t=true->c1:=by intro h;(try simp only[gJ]at h);exact h)(e2:t=false->c2:=by intro h;(try simp only[gJ]at h);exact h):dx Y (.seq (.cond c a b) r) Q env st:=aR (λh=>h1 (e1 h)) (λh=>h2 (e2 h)) hc
def Bv {c:Src}{a b:AC}{t:Bool}{c1 c2:Prop}(h1:c1->dx Y a Q env st)(h2:c2->dx Y b Q env st)(hc:bZ env [] c=⟨true,.bool t⟩:=by exact rfl)(e1:t=true->c1:=by intro h;(try simp only[gJ]at h);exact h)(e2:t=false->c2:=by intro h;(try simp only[gJ]at h);exact h):dx Y (.cond c a b) Q env st:=wp_cond (λh=>h1 (e1 h)) (λh=>h2 (e2 h)) hc
end
abbrev zzh1:List Sh:=[.a,.a,.a,.a,.a,.a,.sl 3 [.sl 4 [.a,.a,.sl 1 [.a],.a],.a,.a],.sl 3 [.a,.a,.a],.sl 2 [.a,.sl 1 [.a]]]
abbrev s0:Src:=.s 0
abbrev s1:Src:=.s 1
abbrev s2:Src:=.s 2
abbrev s3:Src:=.s 3
abbrev s4:Src:=.s 4
abbrev s5:Src:=.s 5
abbrev s6:Src:=.s 6
abbrev s7:Src:=.s 7
abbrev s8:Src:=.s 8
abbrev s9:Src:=.s 9
abbrev UQ:Src:=.s 10
abbrev s11:Src:=.s 11
abbrev ZM:Src:=.s 12
abbrev s13:Src:=.s 13
abbrev s14:Src:=.s 14
abbrev s15:Src:=.s 15
abbrev s16:Src:=.s 16
abbrev s17:Src:=.s 17
abbrev s18:Src:=.s 18
abbrev s19:Src:=.s 19
abbrev s20:Src:=.s 20
abbrev s21:Src:=.s 21
abbrev s22:Src:=.s 22
abbrev s23:Src:=.s 23
abbrev s24:Src:=.s 24
abbrev s25:Src:=.s 25
abbrev s26:Src:=.s 26
abbrev l0:Src:=.l 0
abbrev l1:Src:=.l 1
abbrev l2:Src:=.l 2
abbrev l3:Src:=.l 3
abbrev l4:Src:=.l 4
abbrev l5:Src:=.l 5
abbrev l6:Src:=.l 6
abbrev l7:Src:=.l 7
abbrev l8:Src:=.l 8
abbrev l9:Src:=.l 9
abbrev l10:Src:=.l 10
abbrev l11:Src:=.l 11
abbrev l12:Src:=.l 12
abbrev l13:Src:=.l 13
abbrev l14:Src:=.l 14
abbrev l15:Src:=.l 15
abbrev l16:Src:=.l 16
abbrev l17:Src:=.l 17
abbrev l18:Src:=.l 18
abbrev l19:Src:=.l 19
abbrev gm (x:Src):GI:=⟨.mv x,none⟩
abbrev gn (x:ax):GI:=⟨x,none⟩
abbrev i6 (n:Int):Src:=.c (.int .i64 n)
abbrev cs (s:List UInt8):Src:=.c (.str s)
abbrev gd (x:Src):GI:=⟨.ld 1 false x,none⟩
abbrev gk (b:Bool)(x:Src):GI:=⟨.ld n b x,none⟩
abbrev gf (x:Src):GI:=⟨.fa n x,none⟩
abbrev gl (x:Src):GI:=⟨.len x,none⟩
abbrev ga (x y:Src):GI:=⟨.ia n x y,none⟩
abbrev gb (x:Src):GI:=⟨.box n x,none⟩
abbrev gt (x y:Src):GI:=⟨.st n x y,none⟩
abbrev gx (x:List Src)(y:List (List Sh)):GI:=⟨.call n x y,none⟩
abbrev rg (y:List (Nat×Nat)):AC:=.reg false x y
abbrev rt (y:List (Nat×Nat)):AC:=.reg true x y
abbrev ae6 (x y:Src):ax:=.bin .lss x y
abbrev zP (x y:Src):ax:=.bin .eql x y
abbrev b_gtr (x y:Src):ax:=.bin .gtr x y
abbrev cbF:Src:=.c (.bool false)
abbrev cbT:Src:=.c (.bool true)
abbrev cse:Src:=.c (.str [])
abbrev yE:Src:=.c (.int .i64 0)
abbrev TN:Src:=.c (.int .i64 1)
abbrev gmt (x:Src):GI:=⟨.mv x,some (n,true)⟩
abbrev gdt (x:Src):GI:=⟨.ld 1 false x,some (n,true)⟩
abbrev Ri (n o:Nat)(x:Src):GI:=⟨.fa o x,some (n,true)⟩
abbrev A2 (x:ax):GI:=⟨x,some (n,true)⟩
abbrev gmf (x:Src):GI:=⟨.mv x,some (n,false)⟩
abbrev gdf (x:Src):GI:=⟨.ld 1 false x,some (n,false)⟩
abbrev gff (n o:Nat)(x:Src):GI:=⟨.fa o x,some (n,false)⟩
abbrev BA (x:ax):GI:=⟨x,some (n,false)⟩
abbrev sq (a b:AC):AC:=.seq a b
abbrev gcr (c x:Src):AC:=.cond c (.seq (.reg false [⟨.mv x,none⟩] [(1,0)]) .ret) .skip
abbrev ha1:List (List Sh):=[[.a]]
abbrev ha2:List (List Sh):=[[.a,.a]]
abbrev ha3:List (List Sh):=[[.a,.a,.a]]
abbrev ha5:List (List Sh):=[[.a,.a,.a,.a,.a]]
abbrev rT:List (List Sh):=[[.a],[.a]]
abbrev hb3:List (List Sh):=[[.a],[.a],[.a]]
abbrev hb4:List (List Sh):=[[.a],[.a],[.a],[.a]]
abbrev go1 (c x:Src):GI:=⟨.pick c (.c (.bool true)) x,none⟩
abbrev ga1 (c x:Src):GI:=⟨.pick c x (.c (.bool false)),none⟩
abbrev gaf (c x:Src):GI:=⟨.pick c x (.c (.bool false)),some (n,false)⟩
abbrev ou (x y:Src):GI:=⟨.bin .lss x y,none⟩
abbrev Hs (x y:Src):GI:=⟨.bin .eql x y,none⟩
abbrev qP (x y:Src):GI:=⟨.bin .add x y,none⟩
abbrev X3 (x y:Src):GI:=⟨.bin .gtr x y,none⟩
abbrev sC (x y:Src):GI:=⟨.bin .neq x y,none⟩
abbrev ajx (x y:Src):GI:=⟨.bin .leq x y,none⟩
abbrev gce (c:Src)(n:Nat):AC:=.cond c .skip (.exit n)
abbrev i8 (n:Int):Src:=.c (.int .u8 n)
abbrev i3 (n:Int):Src:=.c (.int .i32 n)
abbrev gno (x:Src):GI:=⟨.un .not x,none⟩
abbrev r1 (a b:Nat):AC:=.reg false x [(a,b)]
abbrev r2 (a b:Nat):AC:=.reg true x [(a,b)]
abbrev re1:List GG:=[⟨1,none⟩]
def IQ:=∀(l:List au) (x:UInt8),((cw [x] l).length<=1099511627776)->T [.sl 1 (l.map D.str),.int .u8 (x.toNat:Nat)] (.str (cw [x] l))
def C249:Prop:=IQ (aH Z 249)
def JZ:=∀(l:List au),T [.sl 1 (l.map D.str)] (.bool (rising l))
def C815:Prop:=JZ (aH Z 815)
def oZ:=∀(n:Int),(0<=n/\n<=9999)->T [.int .i64 n] (.str (nY n.toNat))
def C336:Prop:=oZ (aH Z 336)
def SV:=∀(l:List au) (sep:au),(l.length<=1048600)->(sep.length<=4)->(∀t∈l,t.length<=2097200)->T [.sl 1 (l.map D.str),.str sep] (.str (cw sep l))
def C242:Prop:=SV (aH Z 242)
def SQ:=∀(s:au) (b:UInt8),(s.length<=1048576)->T [.str s,.str [b]] (.sl 1 ((bd s b.toNat).map D.str))
def C124:Prop:=SQ (aH Z 124)
def S0:=∀(s:au) (b:UInt8),(s.length<=1048576)->T [.str s,.str [b]] (.tup [.str (uI s b).1,.str (uI s b).2.1,.bool (uI s b).2.2])
def C487:Prop:=S0 (aH Z 487)
def SW:=∀(s:au) (p:au),(s.length<=1048576)->(p.length<=1048576)->T [.str s,.str p] (.tup [.str (qE s p).1,.bool (qE s p).2])
def C254:Prop:=SW (aH Z 254)
def SS:=∀(s:au),(oW s)->T [.str s] (.bool (xy s))
def C212:Prop:=SS (aH Z 212)
def C670:Prop:=SS (aH Z 670)
def SY:=∀(s:au),(kA s)->T [.str s] (.bool (qV s))
def C444:Prop:=SY (aH Z 444)
def C572:Prop:=SY (aH Z 572)
def SU:=∀(l:List cn),(ju l)->T [.sl 2 (l.map cn.D)] (.bool (ek l))
def C213:Prop:=SU (aH Z 213)
def SZ:=∀(s:au),(rC s)->T [.str s] (.tup [.int .i64 (bP s).1,.str (bP s).2.1,.str (bP s).2.2])
def C448:Prop:=SZ (aH Z 448)
def C459:Prop:=SU (aH Z 459)
def C672:Prop:=SZ (aH Z 672)
def tV:=∀(r:Rec),(Fy r/\ir r)->T [Rec.D r] (.str (D7 r))
def C219:Prop:=tV (aH Z 219)
def C215:Prop:=tV (aH Z 215)
def NL:=∀(s:au),(s.length<=1048576)->T [.str s,.str [124,124]] (.sl 1 ((jm s []).map D.str))
def aeX:Prop:=NL (aH Z 124)
def S2:=∀(s:au) (b:UInt8),(b=32)->(s.length<=1048576)->T [.str s,.str [b]] (.str (B6 s))
def C683:Prop:=S2 (aH Z 683)
def ua:=∀(s:au),T [.str s] (.bool (gT s))
def S8:Prop:=ua (aH Z 349)
def tR:=∀(s:au),T [.str s] (.bool (dn s))
def S6:Prop:=tR (aH Z 208)
def uu:=∀(s:au),T [.str s] (.tup [.int .i64 (C6 s),.bool (ox s)])
def C658:Prop:=uu (aH Z 658)
def uk:=∀(s:au) (b:Int),(s.length<=1048576)->T [.str s,.int .u8 b] (.sl 1 ((bd s b).map D.str))
def Vr:Prop:=uk (aH Z 533)
def uv:=∀(t:au),T [.str t] (.bool (cU t))
def C659:Prop:=uv (aH Z 659)
def ue:=∀(n:Int),T [.int .i64 n] (.bool (Cs n))
def C440:Prop:=ue (aH Z 440)
def Je:=∀(s:au),(s.length<=1048576)->T [.str s] (.bool (sU s false))
def C442:Prop:=Je (aH Z 442)
def Jd:=∀(s:au),(s.length<=1048576)->T [.str s] (.bool (sU s true))
def C441:Prop:=Jd (aH Z 441)
def tS:=∀(v:ca),(v.sm)->T [ca.D v] (.bool (gQ v))
def AU:Prop:=tS (aH Z 209)
def C665:Prop:=oZ (aH Z 665)
def ug:=∀(v:ca),(v.sm)->T [ca.D v] (.str (uO v))
def C451:Prop:=ug (aH Z 451)
def Jm:=∀(h:Int) (k:Nat),(k=13)->T [.int .u64 h,.int .i64 (k:Nat)] (.int .u64 (rot h k))
def C463:Prop:=Jm (aH Z 463)
def tW:=∀(s:au),T [.sl 1 ((s).map λb=>D.int .u8 b.toNat)] (.int .u64 (sumL s))
def C220:Prop:=tW (aH Z 220)
def IM:=∀(r:Rec) (name:au) (rng:au),(kA rng)->T [Rec.D r,.str name,.str rng] (.int .i64 (gR r name rng))
def C211:Prop:=IM (aH Z 211)
def uf:=∀(r:Rec) (w:di) (al:Bool),(w.sm)->T [Rec.D r,di.D w,.bool al] (.int .i64 (lG r w al))
def C443:Prop:=uf (aH Z 443)
def tT:=∀(r:Rec) (n:bw),(n.sm)->T [Rec.D r,bw.D n] (.int .i64 (jF r n))
def C210:Prop:=tT (aH Z 210)
def IN:=∀(r:Rec) (s:au),(rC s)->T [Rec.D r,.str s] (.int .i64 (oe r s))
def C214:Prop:=IN (aH Z 214)
def zE:=∀(r:Rec),(ir r)->T [Rec.D r] (.tup [.int .i64 (dc r).1,.int .i64 (dc r).2])
def C70:Prop:=zE (aH Z 70)
def zF:=∀(r:Rec),(ir r)->T [Rec.D r] (.tup [.str (fD r).1,.int .i64 (fD r).2])
def C72:Prop:=zF (aH Z 72)
def zG:=∀(r:Rec),(ir r)->T [Rec.D r] (.tup [.int .u64 (wv r),.int .i64 (fD r).2])
def C74:Prop:=zG (aH Z 74)
def JR:=∀(x:Int),T [.int .i64 x] (.bool false)
def C714:Prop:=JR (aH Z 714)
def JQ:=∀(x:au),T [.str x] (.bool false)
def C704:Prop:=JQ (aH Z 704)
def uj:=∀(a:Int) (b:Int),T [.int .i64 a,.int .i64 b] (.int .i64 (dt a b))
def C532:Prop:=uj (aH Z 532)
def ui:=∀(a:au) (b:au),T [.str a,.str b] (.int .i64 (pM a b))
def C516:Prop:=ui (aH Z 516)
def Jv:=∀(l:List Int),T [.sl 1 (l.map (D.int .i64))] (.int .i64 (fZ (λi=>l[i]!) 0 l.length))
def C531:Prop:=Jv (aH Z 531)
def Ju:=∀(v:ca),T [ca.D v] (ca.D (sb v))
def C530:Prop:=Ju (aH Z 530)
def um:=∀(a:au) (b:au),T [.str a,.str b] (.int .i64 (yq a b))
def C534:Prop:=um (aH Z 534)
def tZ:=∀(a:ca) (b:ca),(a.sm/\b.sm)->T [ca.D a,ca.D b] (.int .i64 (iL a b))
def S7:Prop:=tZ (aH Z 295)
def uw:=∀(a:ca) (b:ca),(a.sm/\b.sm)->T [ca.D a,ca.D b] (.bool (L6 a b))
def C701:Prop:=uw (aH Z 701)
def JP:=∀(x:kj) (nm:au) (v:ca),(x.r.v.sm/\v.sm)->T [kj.D x,.ref 1 [.str nm] 0 0,.ref 5 [ca.D v] 0 0] (.bool (Ly nm v x))
def C700:Prop:=JP (aH Z 700)
def JO:=∀(l:List kj) (nm:au) (v:ca),((∀x∈l,x.r.v.sm)/\v.sm)->T [.sl 11 (l.map kj.D),.fn 700 [.ref 1 [.str nm] 0 0,.ref 5 [ca.D v] 0 0]] (.int .i64 (sG l nm v 0))
def C699:Prop:=JO (aH Z 699)
def uh:=∀(l:List kj) (nm:au) (v:ca),((∀x∈l,x.r.v.sm)/\v.sm)->T [.sl 11 (l.map kj.D),.str nm,ca.D v] (.int .i64 (sG l nm v 0))
def C511:Prop:=uh (aH Z 511)
def ub:=∀(s:bM),(∀x∈s.es,ir x.r)->T [bM.D s] (.bool (ic s))
def C353:Prop:=ub (aH Z 353)
def J4:=∀(n:Nat),(n<=9999)->T [.int .u64 (n:Nat)] (.str (nY n))
def C882:Prop:=J4 (aH Z 882)
def C734:Prop:=oZ (aH Z 734)
def C470:Prop:=uk (aH Z 470)
def Jf:=∀(c:Int),T [.int .u8 c] (.bool (jU c))
def C453:Prop:=Jf (aH Z 453)
def Jg:=∀(c:Int),T [.int .u8 c] (.bool (bO c))
def C454:Prop:=Jg (aH Z 454)
def Vq:Prop:=ua (aH Z 357)
def GJ:Prop:=tR (aH Z 216)
def C667:Prop:=uu (aH Z 667)
def C668:Prop:=uv (aH Z 668)
def JF:=∀(t:au),T [.str t] (.bool (wx t))
def C666:Prop:=JF (aH Z 666)
def Jh:=∀(s:au) (p:Bool),(s.length<=1048576)->T [.str s,.bool p] (.bool (D5 s p))
def C456:Prop:=Jh (aH Z 456)
def C455:Prop:=ue (aH Z 455)
def BW:Prop:=tS (aH Z 217)
def Jy:=∀(v:ca),(Cs v.major=true/\Cs v.minor=true/\Cs v.patch=true)->T [ca.D v] (.str (nY v.major.toNat++[46]++nY v.minor.toNat++[46]++nY v.patch.toNat))
def C554:Prop:=Jy (aH Z 554)
def C316:Prop:=ug (aH Z 316)
def Jn:=∀(h:Int) (n:Nat),(n<=63)->T [.int .u64 h,.int .u64 (n:Nat)] (.int .u64 (rot h n))
def C464:Prop:=Jn (aH Z 464)
def C221:Prop:=tW (aH Z 221)
def JY:=∀(l:List au) (al:Bool),T [.sl 1 (l.map D.str),.bool al] (.bool (nK l al))
def C812:Prop:=JY (aH Z 812)
def C669:Prop:=uf (aH Z 669)
def C457:Prop:=tT (aH Z 457)
def Ji:=∀(r:Rec) (b:mM),(b.sm)->T [Rec.D r,mM.D b] (.int .i64 (rY r b))
def C458:Prop:=Ji (aH Z 458)
def JG:=∀(r:Rec) (x:au),T [Rec.D r,.str x] (.bool (Yr r.needs x))
def C673:Prop:=JG (aH Z 673)
def JH:=∀(r:Rec) (x:au),T [Rec.D r,.str x] (.bool (Mj r.needs x))
def C674:Prop:=JH (aH Z 674)
def Jj:=∀(r:Rec) (of:List au),(∀t∈of,rC t)->T [Rec.D r,.sl 1 (of.map D.str)] (.int .i64 (mQ r of))
def C460:Prop:=Jj (aH Z 460)
def Jk:=∀(w:di),(w.fit)->T [di.D w] (.str (j0 w))
def C461:Prop:=Jk (aH Z 461)
def Jl:=∀(s:au),(s.length<=1048576)->T [.str s] (.str (kC s))
def C462:Prop:=Jl (aH Z 462)
def IP:=∀(r:Rec),(ir r)->T [Rec.D r] (.tup [.int .i64 (eo r).1,.int .i64 (eo r).2])
def C218:Prop:=IP (aH Z 218)
def C71:Prop:=zE (aH Z 71)
def C73:Prop:=zF (aH Z 73)
def C75:Prop:=zG (aH Z 75)
def Vt:Prop:=uj (aH Z 630)
def C927:Prop:=ui (aH Z 927)
def C783:Prop:=um (aH Z 783)
def JE:=∀(a:au) (b:au),(a.length<=1048576/\b.length<=1048576)->T [.str a,.str b] (.int .i64 (Bb a b))
def C631:Prop:=JE (aH Z 631)
def Ta:Prop:=tZ (aH Z 424)
def C501:Prop:=uw (aH Z 501)
def Vs:Prop:=uh (aH Z 580)
def S9:Prop:=ub (aH Z 358)
def I3:=∀(x:bM) (s:bM),T [bM.D x,.ref 2 [bM.D s] 0 0] (.bool (FA s.name x))
def C355:Prop:=I3 (aH Z 355)
def I2:=∀(l:List bM) (s:bM),T [.sl 2 (l.map bM.D),.fn 355 [.ref 2 [bM.D s] 0 0]] (.int .i64 (mE l s.name))
def C354:Prop:=I2 (aH Z 354)
def tP:=∀(l:List bM),(jl l)->T [.sl 2 (l.map bM.D)] (.bool (eS l))
def C142:Prop:=tP (aH Z 142)
def uc:=∀(l:List bM) (nm:au),T [.sl 2 (l.map bM.D),.str nm] (.int .i64 (mE l nm))
def C359:Prop:=uc (aH Z 359)
def C145:Prop:=tP (aH Z 145)
def tY:=∀(s:bM) (nm:au) (v:ca),((∀x∈s.es,ir x.r)/\v.sm)->T [bM.D s,.str nm,ca.D v] (.int .i64 (jR s nm v))
def C274:Prop:=tY (aH Z 274)
def C695:Prop:=tY (aH Z 695)
def qu:=∀(c:Cut),(c.v.sm)->T [Cut.D c] (.bool (pN c))
def QE:Prop:=qu (aH Z 1086)
def qq:=∀(a:Cut) (b:Cut),(a.v.sm/\b.v.sm)->T [Cut.D a,Cut.D b] (.int .i64 (ll a b))
def QD:Prop:=qq (aH Z 1020)
def qt:=∀(c:Cut) (v:ca),(c.v.sm/\v.sm)->T [Cut.D c,ca.D v] (.bool (j5 c v))
def aeO:Prop:=qt (aH Z 1025)
def qp:=∀(s:Span),(s.sm)->T [Span.D s] (.bool (qg s))
def KF:Prop:=qp (aH Z 1019)
def uA:=∀(s:Span) (v:ca),(s.sm/\v.sm)->T [Span.D s,ca.D v] (.bool (sv s v))
def C926:Prop:=uA (aH Z 926)
def uz:=∀(l:List Span),(zN l)->T [.sl 14 (l.map Span.D)] (.bool (sS l))
def Vw:Prop:=uz (aH Z 916)
def uy:=∀(l:List Span) (v:ca),(zN l/\v.sm)->T [.sl 14 (l.map Span.D),ca.D v] (.bool (wh l v))
def C782:Prop:=uy (aH Z 782)
def JA:=∀(v:ca),T [ca.D v] (.bool (vR v))
def C600:Prop:=JA (aH Z 600)
def Ka:=∀(c:Cut),T [Cut.D c] (.bool (mV c))
def C917:Prop:=Ka (aH Z 917)
def ux:=∀(s:cA),(s.sm)->T [cA.D s] (.bool (wj s))
def Vu:Prop:=ux (aH Z 770)
def ur:=∀(s:cA) (v:ca),(s.sm/\v.sm)->T [cA.D s,ca.D v] (.bool (pf s v))
def C627:Prop:=ur (aH Z 627)
def SX:Prop:=T [] (cA.D RP)
def C375:Prop:=SX (aH Z 375)
def aeF:Prop:=T [] (cA.D pH)
def C374:Prop:=aeF (aH Z 374)
def aar {q:α->D}{xs:List α}{m:List (Nat×bn)}{sh:List Sh}(hq:∀x,xV m sh (q x)=q x)(hl:look m l=some (.buf k (xs.map q))):xV m [.sl k sh] (.own l k 0 xs.length)=.sl k (xs.map q):=by
 show D.sl k _=_;simp only[aI,hl,cR,br,List.map_map];congr 1;apply List.map_congr_left;intro x _;have:=hq x;simp only[Function.comp];generalize q x=d at this;cases d<;>exact this
def SL {q:α->D}{xs:List α}{m:List (Nat×bn)}{sh:List Sh}(hq:∀x,xVO m sh (q x))(hl:look m l=some (.buf k (xs.map q))):xVO m [.sl k sh] (.own l k 0 xs.length):=by
 refine⟨by simp only[ed,hl];exact⟨trivial,aB⟩,λe he=>?_⟩;simp only[aI,hl,cR,br,cg]at he;obtain⟨x,_,rfl⟩:=he;have:=hq x;generalize q x=d at this;cases d<;>exact this
def QF:Prop:=qu (aH Z 1087)
def Vm:Prop:=qq (aH Z 1024)
def aeP:Prop:=qt (aH Z 1055)
def Vl:Prop:=qp (aH Z 1023)
def C980:Prop:=uA (aH Z 980)
def C925:Prop:=uz (aH Z 925)
def C861:Prop:=uy (aH Z 861)
def Kb:=∀(c:Cut),T [Cut.D c] (.bool (rK c))
def C924:Prop:=Kb (aH Z 924)
def C780:Prop:=ux (aH Z 780)
def C712:Prop:=ur (aH Z 712)
def I8:=∀(a:Key) (b:Key),T [Key.D a,Key.D b] (.int .i64 (HF a b))
def C408:Prop:=I8 (aH Z 408)
def JD:=∀(l:List Want) (n:Int),(∀x∈l,x.sm)->T [.sl 3 (l.map Want.D),.int .i64 n] (.bool (pB n l))
def C622:Prop:=JD (aH Z 622)
def JX:=∀(w:Want) (n:Int),(w.sm)->T [Want.D w,.int .i64 n] (.bool (sX n w))
def C778:Prop:=JX (aH Z 778)
def JW:=∀(l:List Want) (n:Int),(∀x∈l,x.sm)->T [.sl 3 (l.map Want.D),.int .i64 n] (.bool (rJ n l))
def C777:Prop:=JW (aH Z 777)
def JC:=∀(c:eA) (n:Int),(c.sm)->T [eA.D c,.int .i64 n] (.bool (gQ c.v&&mZ n c))
def C618:Prop:=JC (aH Z 618)
def I9:=∀(c:eA) (n:Int),(c.sm)->T [eA.D c,.int .i64 n] (.bool (mZ n c))
def C409:Prop:=I9 (aH Z 409)
def JB:=∀(a:cJ) (b:cJ),T [cJ.D a,cJ.D b] (.bool (jK a b))
def C617:Prop:=JB (aH Z 617)
def I7:=∀(w:bR) (i:Int),(w.sm/\(0<=i/\i<w.us.length)/\w.us.length<=48)->T [bR.D w,.int .i64 i] (.bool (sV w.us i.toNat))
def C403:Prop:=I7 (aH Z 403)
def tQ:=∀(w:bR),(w.sm)->T [bR.D w] (.bool (eE w))
def C169:Prop:=tQ (aH Z 169)
def C175:Prop:=tQ (aH Z 175)
def Jt:=∀(w:bR) (c:List Int),(w.sm)->T [bR.D w,.sl 1 (c.map (D.int .i64))] (.bool (sn w c))
def C510:Prop:=Jt (aH Z 510)
def tX:=∀(w:bR) (c:List Int),(w.sm)->T [bR.D w,.sl 1 (c.map (D.int .i64))] (.bool (en w c))
def C273:Prop:=tX (aH Z 273)
def uq:=∀(w:bR) (c:List Int) (x:Want),(MetW w c x)->T [bR.D w,.sl 1 (c.map (D.int .i64)),Want.D x] (.bool (kV w c x))
def C624:Prop:=uq (aH Z 624)
def uo:=∀(w:bR) (c:List Int) (l:List Want),(∀x∈l,MetW w c x)->T [bR.D w,.sl 1 (c.map (D.int .i64)),.sl 3 (l.map Want.D)] (.bool (DY w c l))
def C623:Prop:=uo (aH Z 623)
def Vp:Prop:=tX (aH Z 170)
def C629:Prop:=uq (aH Z 629)
def C628:Prop:=uo (aH Z 628)
def ud:=∀(w:bR) (c:List Int),(WrgP w c)->T [bR.D w,.sl 1 (c.map (D.int .i64))] (.sl 3 ((jf w c).map wH.D))
def C410:Prop:=ud (aH Z 410)
def Jc:=∀(w:bR) (c:List Int) (u:Nat),(OneP w c u)->T [bR.D w,.sl 1 (c.map (D.int .i64)),.int .i64 ((u:Nat):Int)] (.sl 3 ((A8 w c u).map wH.D))
def C417:Prop:=Jc (aH Z 417)
def C186:Prop:=ud (aH Z 186)
def Ql:=∀(w:bR) (c:List Int),(WrgP w c)->T [bR.D w,.sl 1 (c.map (D.int .i64))] (.bool (en w c&&decide ((jf w c).length=0)))
def C52:Prop:=Ql (aH Z 52)
def Js:=∀(s:bM) (nm:au) (v:ca),((∀x∈s.es,ir x.r)/\v.sm)->T [bM.D s,.str nm,ca.D v] (.tup [kj.D (oM s nm v).1,.bool (oM s nm v).2])
def C508:Prop:=Js (aH Z 508)
def JJ:=∀(c:eA) (x:dr),(c.v.sm/\x.v.sm)->T [eA.D c,.ref 9 [dr.D x] 0 0] (.bool (Vf x.v true c))
def C690:Prop:=JJ (aH Z 690)
def JK:=∀(c:eA) (x:dr),(c.v.sm/\x.v.sm)->T [eA.D c,.ref 9 [dr.D x] 0 0] (.bool (Vf x.v false c))
def C691:Prop:=JK (aH Z 691)
def JI:=∀(l:List eA) (b:Bool) (x:dr),((∀c∈l,c.v.sm)/\x.v.sm)->T [.sl 8 (l.map eA.D),.fn (bif b then 690 else 691) [.ref 9 [dr.D x] 0 0]] (.int .i64 (gM (Vf x.v b) l 0))
def C689:Prop:=JI (aH Z 689)
def C502:=∀(shop:List bM) (w:bR) (x:dr) (c:List Int) (kvs:List D),LinP shop w x c->VJ w.us kvs->∀(nx lm lc:Nat) (m:List (Nat×bn)) (K:D->St->Prop),lc<nx->lm<nx->look m lc=some (.buf 1 (c.map (D.int .i64)))->look m lm=some (.mpb kvs)->K (.int .i64 (mT shop w.us x c).1) ⟨nx,cX m lc (.buf 1 ((mT shop w.us x c).2.map (D.int .i64)))⟩->Z.tr 502 [.agg [.sl 2 (shop.map bM.D),.sl 3 (w.us.map cJ.D),.fn 5000000 [.it lm],.own lc 1 0 w.us.length],dr.D x] ⟨nx,m⟩ K
def tO:=∀(e:Env),T [Env.D e] (.bool (n6 e))
def C138:Prop:=tO (aH Z 138)
def Jx:=∀(x:dr),(x.sm)->T [dr.D x] (.bool (Ho x))
def C553:Prop:=Jx (aH Z 553)
def IZ:=∀(l:kD),(l.sm)->T [kD.D l] (.bool (LF l))
def C315:Prop:=IZ (aH Z 315)
def IS:=∀(shop:List bM) (e:Env) (w:bR) (l:kD),(ChoP shop w l)->T [.sl 2 (shop.map bM.D),Env.D e,bR.D w,kD.D l] (.tup [.sl 1 ((jL shop e w l).1.map (D.int .i64)),.int .i64 (jL shop e w l).2.1,.str (jL shop e w l).2.2])
def C264:Prop:=IS (aH Z 264)
def Vo:Prop:=tO (aH Z 144)
def IU:=∀(shop:List bM) (e:Env) (w:bR) (l:kD),(ChoP shop w l)->T [.sl 2 (shop.map bM.D),Env.D e,bR.D w,kD.D l] (.tup [.int .i64 (rS shop e w l).1,.str (rS shop e w l).2])
def C265:Prop:=IU (aH Z 265)
def Qh:=∀(v:Int) (n:Int),(n<=9223372036854775807)->T [.int .i64 v,.int .i64 n] (.int .i64 (bo v n))
def C25:Prop:=Qh (aH Z 25)
def IJ:=∀(l:List Int) (i:Int),T [.sl 1 (l.map (D.int .i64)),.int .i64 i] (.int .i64 (atI l i))
def C159:Prop:=IJ (aH Z 159)
def GH:=∀(g:Gs) (n:Int),(n<=9223372036854775807)->(0<=g.i/\g.i<=1000000)->Z.fp 109 (Gs.D g) [.int .i64 n]/\Z.fv 109 (Gs.D g) [.int .i64 n]=.int .i64 (g.val n)/\Z.fs 109 (Gs.D g) [.int .i64 n]=Gs.D g.aS
def SP:Prop:=T [] (.sl 5 (bJ.map ca.D))
def C112:Prop:=SP (aH Z 112)
def SO:Prop:=T [] (.sl 1 (cI.map D.str))
def C111:Prop:=SO (aH Z 111)
def SR:Prop:=T [] (.sl 1 (kf.map D.str))
def C135:Prop:=SR (aH Z 135)
def Jw:=∀(l:List au) (s:au),T [.sl 1 (l.map D.str),.str s] (.int .i64 (ET l s))
def C536:Prop:=Jw (aH Z 536)
def C297:=∀(g:Gs) (own:au),(0<=g.i/\g.i<=990000)->Z.fp 297 (Gs.D g) [.str own]/\Z.fv 297 (Gs.D g) [.str own]=.str (cW g own).1/\Z.fs 297 (Gs.D g) [.str own]=Gs.D (cW g own).2
def C535:=∀(g:Gs) (own:au),(0<=g.i/\g.i<=990000)->Z.fp 535 (Gs.D g) [.str own]/\Z.fv 535 (Gs.D g) [.str own]=di.D (dE g own).1/\Z.fs 535 (Gs.D g) [.str own]=Gs.D (dE g own).2
def C296:=∀(g:Gs) (own:au),(0<=g.i/\g.i<=980000)->Z.fp 296 (Gs.D g) [.str own]/\Z.fv 296 (Gs.D g) [.str own]=bw.D (mz g own).1/\Z.fs 296 (Gs.D g) [.str own]=Gs.D (mz g own).2
def C298:=∀(g:Gs) (l:List bw),(0<=g.i/\g.i<=980000)->((∀n∈l,n.sm)/\l.length<=1000)->Z.fp 298 (Gs.D g) [.sl 3 (l.map bw.D)]/\Z.fv 298 (Gs.D g) [.sl 3 (l.map bw.D)]=cn.D (m7 g l).1/\Z.fs 298 (Gs.D g) [.sl 3 (l.map bw.D)]=Gs.D (m7 g l).2
def C110:=∀(g:Gs) (nm:au) (v:ca) (most:Int),(0<=g.i/\g.i<=970000)->(0<=most/\most<=100)->Z.fp 110 (Gs.D g) [.str nm,ca.D v,.int .i64 most]/\Z.fv 110 (Gs.D g) [.str nm,ca.D v,.int .i64 most]=Rec.D (py g nm v most).1/\Z.fs 110 (Gs.D g) [.str nm,ca.D v,.int .i64 most]=Gs.D (py g nm v most).2
def Jp:=∀(s:bM) (r:Rec),((∀x∈s.es,ir x.r)/\ir r)->T [bM.D s,Rec.D r] (.tup [bM.D (kX s r).1,.int .i64 (kX s r).2])
def C504:Prop:=Jp (aH Z 504)
def Jo:=∀(s:bM) (nm:au) (v:ca) (on:Bool),((∀x∈s.es,ir x.r)/\v.sm)->T [bM.D s,.str nm,ca.D v,.bool on] (.tup [bM.D (oH s nm v on).1,.int .i64 (oH s nm v on).2])
def C503:Prop:=Jo (aH Z 503)
def C266:=∀(g:Gs) (l:List bM),(0<=g.i/\g.i<=960000)->(jl l/\1<=l.length/\l.length<=100)->Z.fp 266 (Gs.D g) [.sl 2 (l.map bM.D)]/\Z.fv 266 (Gs.D g) [.sl 2 (l.map bM.D)]=.sl 2 ((lR g l).1.map bM.D)/\Z.fs 266 (Gs.D g) [.sl 2 (l.map bM.D)]=Gs.D (lR g l).2
def Qm:=∀(ks:List Int) (most:Int),(0<=most/\most<=100)->T [.sl 1 (ks.map (D.int .i64)),.int .i64 most] (.sl 2 ((bh ks most).map bM.D))
def C90:Prop:=Qm (aH Z 90)
def Qj:=∀(n:Int),T [.int .i64 n] (Env.D (bV n))
def C29:Prop:=Qj (aH Z 29)
def eZ:Env:=⟨[],[],[]⟩
def QK:bR:=⟨[⟨[],[],[⟨zV,-1,[],[]⟩]⟩]⟩
def antL:dr:=⟨[97,110,116],zV,[],0,[]⟩
def awk_1:jL [] eZ QK ⟨eZ,[]⟩=([0],0,[]):=by decide+kernel
def awk_2:rS [] eZ QK ⟨eZ,[]⟩=(0,[]):=by decide+kernel
def awk_3:rS [] eZ QK ⟨bV 1,[]⟩=(34,[]):=by decide+kernel
def awk_4:rS [] eZ QK ⟨eZ,[antL]⟩=(9,[97,110,116]):=by decide+kernel
def ahc:QK.sm:=by
 intro u hu;rw[aD.1 hu];refine⟨aU,λc hc=>?_⟩;rw[aD.1 hc];exact⟨⟨aU,aU⟩,λ_ h=>cj,λ_ h=>cj⟩
def QL {l:kD}(h:l.sm):ChoP [] QK l:=⟨(λ_ h=>cj),ahc,h⟩
theorem aix (n:Int):∀i,((bV n).at i).length<=1048576:=by
 intro i;have h:(Fq[(bo n 3).toNat]!).length<=1048576:=oa (P:=λs:au=>s.length<=1048576) aU aU _;unfold bV Env.at
 grind
def aaz:Prop:=T [] (.bool true)
def C89:Prop:=aaz (aH Z 89)
def B7 (m:List (Nat×bn))(l k n:Nat):Bool:=match look m l with
 |some (.buf k' es)=>decide (k=k')&&decide (n<=es.length)
 |_=>false
theorem wT {m:List (Nat×bn)}{n:Nat}(h:B7 m l k n=true):ed m l k n:=by
 unfold B7 at h;unfold ed;split at h<;>simp_all
def dY (a:Option α):Option α:=match b with|true=>a|false=>none
def cE {b:Bool}{a:Option α}{x:α}(h:dY b a=some x):b=true/\a=some x:=by cases b<;>simp_all[dY]
def RV {e:D}(h:dY d.aT (some d)=some e):d.aT=true/\d=e:=⟨(cE h).1,a7 (cE h).2⟩
def XW (f:D->Option D):List D->Option (List D)
 |[]=>some []
 |d::r=>match f d with
  |some e=>match XW f r with
   |some s=>some (e::s)
   |none=>none
  |none=>none
def puC (m:List (Nat×bn))(pv:List Sh->D->Option D):Sh->D->Option D
 | .a,d=>match d with
  | .aL=>some (.sl 0 [])
  |d=>dY d.aT (some d)
 | .sl k cs,d=>match d with
  | .aL=>some (.sl k [])
  | .own l k' i c=>dY (B7 m l k' (i+c)) ((XW (pv cs) (((aI m l).drop i).take c)).map (.sl k'))
  |d=>dY d.aT (some d)
 | .pt cs,d=>match d with
  | .ptr l k i o=>dY (B7 m l k 0) ((XW (pv cs) (aI m l)).map λes=>.ref k es i o)
  |d=>dY d.aT (some d)
 | .kp _,_=>none
def puL (pc:Sh->D->Option D):List Sh->List D->Option (List D)
 |[],ds=>dY (aM ds) (some ds)
 |_::_,[]=>some []
 |s::r,d::ds=>match pc s d with
  |some e=>match puL pc r ds with
   |some es=>some (e::es)
   |none=>none
  |none=>none
def puV (m:List (Nat×bn)):Nat->List Sh->D->Option D
 |0,_,_=>none
 |n+1,ss,d=>match ss with
  |[]=>dY d.aT (some d)
  |s::r=>match d with
   | .agg cs=>(puL (puC m (puV m n)) (s::r) cs).map .agg
   |d=>puC m (puV m n) s d
def puS (m:List (Nat×bn)):List (List Sh)->List D->Option (List D)
 |_,[]=>some []
 |[],d::r=>match puV m 9 [.a] d with
  |some e=>match puS m [] r with
   |some es=>some (e::es)
   |none=>none
  |none=>none
 |s::ss,d::r=>match puV m 9 s d with
  |some e=>match puS m ss r with
   |some es=>some (e::es)
   |none=>none
  |none=>none
theorem Rz {P:D->Prop}{g f:D->_}(hf:∀d e,f d=some e->P d/\g d=e):∀{l r:List D},XW f l=some r->(∀d∈l,P d)/\l.map g=r:=by
 intro l;induction l<;>grind [XW]
section
variable {m:List (Nat×bn)}
def ake {pv:List Sh->D->Option D}(hv:∀s d e,pv s d=some e->gO m s d/\je m s d=e){s:Sh}{e:D}(h:puC m pv s d=some e):iB m s d/\kW m s d=e:=by
 cases s with
 |a=>cases d<;>simp only[puC,iB,kW]at h⊢ <;>first|exact RV h|exact⟨rfl,a7 h⟩
 |kp cs=>cases h
 |sl k cs=>
  cases d<;>simp only[puC,iB,kW]at h⊢
  case own l k' i c=>
   obtain⟨h1,h2⟩:=cE h;obtain⟨es,h3,rfl⟩:=df.1 h2;obtain⟨h4,h5⟩:=Rz (hv cs) h3;exact⟨⟨wT h1,h4⟩,by rw[h5]⟩
  all_goals first|exact RV h|exact⟨rfl,a7 h⟩
 |pt cs=>
  cases d<;>simp only[puC,iB,kW]at h⊢
  case ptr l k i o=>
   obtain⟨h1,h2⟩:=cE h;obtain⟨es,h3,rfl⟩:=df.1 h2;obtain⟨h4,h5⟩:=Rz (hv cs) h3;exact⟨⟨wT h1,h4⟩,by rw[h5]⟩
  all_goals first|exact RV h|exact⟨rfl,a7 h⟩
theorem akf {pc:Sh->D->Option D}(hc:∀s d e,pc s d=some e->iB m s d/\kW m s d=e):∀{ss:List Sh}{ds es:List D},puL pc ss ds=some es->kv m ss ds/\nF m ss ds=es:=by
 intro ss;induction ss with
 |nil=>intro ds es h;simp only[kv,nF];exact⟨(cE h).1,a7 (cE h).2⟩
 |cons s r ih=>
  intro ds es h;cases ds with
  |nil=>simp_all[puL,kv,nF]
  |cons d ds=>
   simp only[puL]at h;simp only[kv,nF]
   grind
theorem YL:∀{n:Nat}{ss:List Sh}{d e:D},puV m n ss d=some e->gO m ss d/\je m ss d=e:=by
 intro n;induction n with
 |zero=>intro ss d e h;cases h
 |succ n ih=>
  intro ss d e h;have hc:∀s d e,puC m (puV m n) s d=some e->iB m s d/\kW m s d=e:=λs d e h=>ake (λs d e h=>ih h) h
  cases ss with
  |nil=>simp only[gO,je];exact RV h
  |cons s r=>
   cases d
   case agg cs=>
    simp only[puV]at h;obtain⟨es,h3,rfl⟩:=df.1 h;have:=akf hc h3;simp only[gO,je];exact⟨this.1,by rw[this.2]⟩
   all_goals simp only[puV]at h;simp only[gO,je];exact hc _ _ _ h
theorem YK:∀{sh:List (List Sh)}{ds es:List D},puS m sh ds=some es->ji m sh ds/\iH m sh ds=es:=by
 intro sh ds;induction ds generalizing sh with
 |nil=>intro es h;cases sh<;>simp_all[puS,ji,iH]
 |cons d r ih=>
  intro es h;cases sh<;>simp only[puS]at h<;>simp only[ji,iH]<;>grind [YL]
end
def Rb (J:Src->ba)(len:Nat):List (Nat×Nat×Src)->Bool
 |[]=>true
 |(o,n,s)::r=>((J s).ok&&decide ((J s).d.cells.length=n))&&(decide (o+n<=len)&&Rb J len r)
def Cg (J:Src->ba)(k n:Nat):List (Nat×Src)->Bool
 |[]=>true
 |(i,s)::r=>(decide (i<n)&&(J s).ok)&&(decide ((J s).d.cells.length=k)&&Cg J k n r)
def Uc (J:Src->ba):List Src->Bool
 |[]=>true
 |s::r=>(J s).ok&&Uc J r
theorem WT {len:Nat}:∀{l:List (Nat×Nat×Src)},Rb J len l=true->zZ J len l:=by
 intro l;induction l<;>grind [Rb,zZ]
theorem Tx {n:Nat}:∀{l:List (Nat×Src)},Cg J k n l=true->qG J k n l:=by
 intro l;induction l<;>grind [Cg,qG]
theorem HB:∀{l:List Src},Uc J l=true->BJ J l:=by
 intro l;induction l<;>grind [Uc,BJ]
def ldB (m:List (Nat×bn))(n:Nat):D->Bool
 | .ptr l k i o=>B7 m l k (i+1)&&decide (o+n<=k)
 | .ref k es i o=>decide (i<es.length)&&decide (o+n<=k)
 |_=>false
theorem XF {m:List (Nat×bn)}{n:Nat}(h:ldB m n d=true):LG m n d:=by
 cases d<;>simp_all[ldB,LG]<;>exact wT h.1
def binB (op:BinOp):D->D->Bool
 | .int k a,.int k' b=>match op with
  | .quo=>decide (k=k')&&decide (b≠0)
  | .rem=>decide (k=k')&&decide (b≠0)
  | .shl=>false
  | .shr=>false
  |_=>decide (k=k')
 | .str a,.str b=>match op with
  | .add=>decide (a.length+b.length<=9223372036854775807)
  | .eql=>true| .neq=>true| .lss=>true| .geq=>true| .leq=>true| .gtr=>true
  |_=>false
 |_,_=>false
theorem abY {op:BinOp}{a b:D}(h:binB op a b=true):AY op a b:=by
 cases a<;>cases b<;>cases op<;>simp_all[binB,AY]
def EN (o:Option D)(hi:Nat):Bool:=match o with
 |none=>true
 |some (.int _ n)=>decide (0<=n)&&decide (n<=hi)
 |_=>false
theorem ab1 {o:Option D}{hi:Nat}(h:EN o hi=true):nu o hi:=by
 unfold EN at h;unfold nu;split at h<;>simp_all
def Ub (J:Src->ba):Option Src->Bool
 |none=>true
 |some s=>(J s).ok
theorem adI {o:Option Src}(h:Ub J o=true):L4 J o:=by cases o<;>simp_all[Ub,L4]
def elsB (m:List (Nat×bn))(k:Nat):D->Bool
 | .sl k' _=>decide (k'=k)
 | .own l k' i n=>decide (k'=k)&&B7 m l k (i+n)
 | .str _=>decide (k=1)
 | .aL=>true
 |_=>false
theorem acK {m:List (Nat×bn)}(h:elsB m k d=true):Cd m k d:=by
 cases d<;>simp_all[elsB,Cd]<;>exact wT h.2
def oblB (J:Src->ba)(m:List (Nat×bn)):ax->Bool
 | .mv x=>(J x).ok
 | .pick c a b=>(J c).ok&&match(J c).d with
  | .bool true=>(J a).ok
  | .bool false=>(J b).ok
  |_=>false
 | .box k x=>(J x).ok&&decide ((J x).d.cells.length=k)
 | .build z ps=>Rb J z.length ps
 | .bsl k z n ps=>decide (z.cells.length=k)&&Cg J k n ps
 | .ld n _ p=>(J p).ok&&ldB m n (J p).d
 | .st n p v=>((J p).ok&&(J v).ok)&&(decide ((J v).d.cells.length=n)&&match(J p).d with
  | .ptr l k i o=>B7 m l k (i+1)&&decide (o+n<=k)
  |_=>false)
 | .nilck x=>(J x).ok&&match(J x).d with| .ptr .. =>true| .ref .. =>true|_=>false
 | .bin op x y=>((J x).ok&&(J y).ok)&&binB op (J x).d (J y).d
 | .mn _ x y=>((J x).ok&&(J y).ok)&&match(J x).d,(J y).d with| .int _ _,.int _ _=>true|_,_=>false
 | .un op x=>(J x).ok&&match op,(J x).d with
  | .not,.bool _=>true
  | .neg,.int _ _=>true
  |_,_=>false
 | .cvi _ x=>(J x).ok&&match(J x).d with| .int _ _=>true|_=>false
 | .mks k z ln cp=>((J ln).ok&&(J cp).ok)&&(decide (z.cells.length=k)&&match(J ln).d,(J cp).d with
  | .int _ n,.int _ c=>decide (0<=n)&&(decide (n<=c)&&decide (c<=1073741824))
  |_,_=>false)
 | .slS x lo hi=>((J x).ok&&Ub J lo)&&(Ub J hi&&match(J x).d with
  | .str s=>EN (dO J hi) s.length&&EN (dO J lo) (ee (dO J hi) s.length)
  |_=>false)
 | .slA k x lo hi=>((J x).ok&&Ub J lo)&&(Ub J hi&&match(J x).d with
  | .sl k' es=>decide (k'=k)&&(EN (dO J hi) es.length&&EN (dO J lo) (ee (dO J hi) es.length))
  | .own _ k' _ n=>decide (k'=k)&&(EN (dO J hi) n&&EN (dO J lo) (ee (dO J hi) n))
  | .aL=>EN (dO J hi) 0&&EN (dO J lo) 0
  |_=>false)
 | .slX k x hi mx=>((J x).ok&&(J hi).ok)&&((J mx).ok&&match(J hi).d,(J mx).d with
  | .int _ h,.int _ m=>decide (0<=h)&&(decide (h<=m)&&match(J x).d with
    | .sl k' es=>decide (k'=k)&&decide (m<=es.length)
    | .own _ k' _ n=>decide (k'=k)&&decide (m<=n)
    |_=>false)
  |_,_=>false)
 | .fa _ p=>(J p).ok&&match(J p).d with| .ptr .. =>true| .ref .. =>true|_=>false
 | .fld off n ag x=>(J x).ok&&match(J x).d with| .agg cs=>decide (off+n<=cs.length)&&(ag ||decide (n=1))|_=>false
 | .ia k x i=>((J x).ok&&(J i).ok)&&match(J x).d,(J i).d with
  | .sl k' es,.int _ n=>decide (k'=k)&&(decide (0<=n)&&decide (n<es.length))
  | .own _ k' _ c,.int _ n=>decide (k'=k)&&(decide (0<=n)&&decide (n<c))
  |_,_=>false
 | .iaP n _ x i=>((J x).ok&&(J i).ok)&&match(J x).d,(J i).d with
  | .ptr ..,.int _ c=>decide (0<=c)&&decide (c<n)
  | .ref ..,.int _ c=>decide (0<=c)&&decide (c<n)
  |_,_=>false
 | .ixS x i=>((J x).ok&&(J i).ok)&&match(J x).d,(J i).d with
  | .str s,.int _ n=>decide (0<=n)&&decide (n<s.length)
  |_,_=>false
 | .ixA n k ag x i=>((J x).ok&&(J i).ok)&&((ag ||decide (k=1))&&match(J x).d,(J i).d with
  | .agg cs,.int _ c=>decide (0<=c)&&(decide (c<n)&&decide (cs.length=n*k))
  |_,_=>false)
 | .ext x i=>(J x).ok&&match(J x).d with| .tup ds=>decide (i<ds.length)|_=>false
 | .len x=>(J x).ok&&match(J x).d with| .sl _ _=>true| .own .. =>true| .aL=>true|_=>false
 | .lenS x=>(J x).ok&&match(J x).d with| .str _=>true|_=>false
 | .app k x y=>((J x).ok&&(J y).ok)&&(elsB m k (J y).d&&match(J x).d with
  | .own l k' i n=>decide (k'=k)&&(B7 m l k (i+n)&&decide (n+(qw m (J y).d).length<=1073741824))
  | .aL=>decide ((qw m (J y).d).length<=1073741824)
  |_=>false)
 | .appN k y=>(J y).ok&&(elsB m k (J y).d&&decide ((qw m (J y).d).length<=1073741824))
 | .bslI k z n ps=>decide (z.cells.length=k)&&(Cg J k n ps&&aM (mh J (List.replicate n z) ps))
 | .ldU n _ p=>(J p).ok&&match(J p).d with
  | .ptr l k i o=>(B7 m l k (i+1)&&decide (o+n<=k))&& !aM (aI m l)
  | .ref k es i o=>decide (i<es.length)&&decide (o+n<=k)
  |_=>false
 | .ldW n _ p=>(J p).ok&&match(J p).d with
  | .ptr l k i o=>(B7 m l k (i+1)&&decide (o+n<=k))&&decide (4<k)
  | .ref k es i o=>decide (i<es.length)&&decide (o+n<=k)
  |_=>false
 | .ldI n _ p=>(J p).ok&&match(J p).d with
  | .ref k es i o=>decide (i<es.length)&&decide (o+n<=k)
  |_=>false
 | .stU n p v qs=>((J p).ok&&(J v).ok)&&(decide ((J v).d.cells.length=n)&&match(J p).d with
  | .ptr l k i o=>B7 m l k (i+1)&&(decide (o+n<=k)&&(decide (k<=4) ||qs.all λq=>!(ct (J q).d).contains l))
  |_=>false)
 |_=>false
theorem adG {m:List (Nat×bn)}{i:ax}(h:oblB J m i=true):i.eG Y J m:=by
 cases i<;>simp only[oblB,aC,iJ]at h;all_goals simp only[ax.eG]
 all_goals grind [WT,Tx,wT,XF,abY,ab1,acK,adI]
def ax.spec:ax->Bool
 | .callM .. | .callvM .. | .isNl .. =>true
 |_=>false
def K6:Ctx:=⟨λ_ _=>False,λ_ _=>.any,λ_ _ _ _=>False,λ_ _ _=>False,λ_ _ _=>.any,λ_ _ _=>.any,0⟩
def ax.lone:ax->Bool
 | .call .. | .callv .. | .callM .. | .callvM .. | .callF .. | .isNl .. =>false
 |_=>true
def aah {m:List (Nat×bn)}{L:Nat}{i:ax}(h:i.lone=true):i.val K6 J m L=i.val Y J m L:=by
 cases i<;>first|rfl|cases h
def WA {m:List (Nat×bn)}{L:Nat}{i:ax}(h:i.lone=true):i.bU K6 J m L=i.bU Y J m L:=by
 cases i<;>first|rfl|cases h
def TF (vs:List ba)(i:ax):Option (Nat×Bool)->Bool
 |none=>true
 |some (j,_)=>i.calm&&(!(vs.getD j .un).ok ||(vs.getD j .un).d.isBool)
theorem G9 {vs:List ba}{i:ax}(h:TF vs i g=true):Ve vs i g:=by
 cases g<;>simp_all[TF,Ve]<;>grind
def Rj (vs:List ba):Option (Nat×Bool)->Bool
 |none=>true
 |some (j,_)=>!(vs.getD j .un).ok ||(vs.getD j .un).d.isBool
theorem Lq {vs:List ba}(h:Rj vs g=true):yV vs g:=by
 cases g<;>simp_all[Rj,yV]<;>grind
abbrev EP:=Nat->List D->Option D
abbrev EM:=Nat->List D->St->Option (D×St)
variable{q:EM}
abbrev EL:=AC->List ba->St->Option (Ex×List ba×St)
def KC (p:EP)(q:EM):List GI->List ba->List ba->St->Option (List ba×St)
 |[],_,vs,st=>some (vs,{st with nx:=st.nx+vs.length})
 |⟨i,g⟩::r,env,vs,st=>match i with
  | .callM f args=>dY (Rj vs g) (match flag vs g with
   |true=>dY (Uc (Src.ev env vs) args) (match q f (iR (Src.ev env vs) args) {st with nx:=st.nx+vs.length}with
    |some (d,st')=>dY (decide (st.nx+vs.length<=st'.nx)) (KC p q r env (vs++[⟨true,d⟩]) {st' with nx:=st'.nx-vs.length})
    |none=>none)
   |false=>KC p q r env (vs++[⟨false,.any⟩]) st)
  | .callvM f args=>dY (Rj vs g) (match flag vs g with
   |true=>match Src.ev env vs f with
    |⟨true,.fn n caps⟩=>dY (decide (n<2000000)&&Uc (Src.ev env vs) args) (match q (N7 n) (N6 n (iR (Src.ev env vs) args) caps) {st with nx:=st.nx+vs.length}with
     |some (d,st')=>dY (decide (st.nx+vs.length<=st'.nx)) (KC p q r env (vs++[⟨true,d⟩]) {st' with nx:=st'.nx-vs.length})
     |none=>none)
    |_=>none
   |false=>KC p q r env (vs++[⟨false,.any⟩]) st)
  | .call f args sh=>dY (TF vs i g) (match flag vs g with
   |true=>dY (Uc (Src.ev env vs) args) (match puS st.m sh (iR (Src.ev env vs) args)with
    |some ds=>match p f ds with
     |some d=>dY (qB (iR (Src.ev env vs) args) d) (KC p q r env (vs++[⟨true,d⟩]) st)
     |none=>none
    |none=>none)
   |false=>KC p q r env (vs++[⟨false,.any⟩]) st)
  |i=>dY (i.lone&&TF vs i g) (match flag vs g with
   |true=>dY (oblB (Src.ev env vs) st.m i) (KC p q r env (vs++[⟨true,i.val K6 (Src.ev env vs) st.m (st.nx+vs.length)⟩]) {st with m:=i.bU K6 (Src.ev env vs) st.m (st.nx+vs.length)})
   |false=>KC p q r env (vs++[⟨false,.any⟩]) {st with m:=i.bU K6 (Src.ev env vs) st.m (st.nx+vs.length)})
def RR (Y:Ctx)(p:EP):=∀f ds d,p f ds=some d->Y.pre f ds/\Y.val f ds=d
def okQ (Y:Ctx)(q:EM):=∀f ds st d st',q f ds st=some (d,st')->∀K:D->St->Prop,K d st'->Y.tr f ds st K
def aiA {p:EP}(hp:RR Y p)(hq:okQ Y q):∀{ins:List GI}{env vs:List ba}{st:St}{vs':List ba}{st':St},KC p q ins env vs st=some (vs',st')->∀K:List ba->St->Prop,K vs' st'->eW Y draw ins env vs st K:=by
 intro ins;induction ins with
 |nil=>intro env vs st vs' st' h K hK;simp only[KC,aE,dk]at h;obtain⟨rfl,rfl⟩:=h;exact hK
 |cons gi r ih=>
  obtain⟨i,g⟩:=gi;intro env vs st vs' st' h K hK;have fin:∀{d:D} {m':List (Nat×bn)},i.spec=false->i.lC draw g=false->Ve vs i g->(flag vs g=true->i.eG Y (Src.ev env vs) st.m/\i.val Y (Src.ev env vs) st.m (st.nx+vs.length)=d)->i.bU Y (Src.ev env vs) st.m (st.nx+vs.length)=m'->
    KC p q r env (vs++[⟨flag vs g,d⟩]) {st with m:=m'} =some (vs',st')->eW Y draw (⟨i,g⟩::r) env vs st K:=by
   intro d m' h0 h1 h2 h3 h4 h5;have h6:=ih h5 K hK;subst h4;rw[show eW Y draw (⟨i,g⟩::r) env vs st K=(Ve vs i g/\(flag vs g=true->i.eG Y (Src.ev env vs) st.m)/\((flag vs g=true->i.KB draw (Src.ev env vs))->∃d,(flag vs g=true->i.val Y (Src.ev env vs) st.m (st.nx+vs.length)=d)/\
    eW Y draw r env (vs++[⟨flag vs g,d⟩]) {st with m:=i.bU Y (Src.ev env vs) st.m (st.nx+vs.length)} K))by
    cases i<;>first|(cases h0;done)|(simp only[eW];rw[h1];rfl)]
   exact⟨h2,λh=>(h3 h).1,λ_=>⟨d,λh=>(h3 h).2,h6⟩⟩
  have lon:(dY (i.lone&&TF vs i g) (match flag vs g with
   |true=>dY (oblB (Src.ev env vs) st.m i) (KC p q r env (vs++[⟨true,i.val K6 (Src.ev env vs) st.m (st.nx+vs.length)⟩]) {st with m:=i.bU K6 (Src.ev env vs) st.m (st.nx+vs.length)})
   |false=>KC p q r env (vs++[⟨false,.any⟩]) {st with m:=i.bU K6 (Src.ev env vs) st.m (st.nx+vs.length)}))=some (vs',st')->eW Y draw (⟨i,g⟩::r) env vs st K:=by
   intro h;obtain⟨h1,h2⟩:=cE h;rw[aC]at h1;have h3:=G9 h1.2;have h4:i.spec=false:=by revert h1;cases i<;>simp[ax.spec,ax.lone]
   have h5:i.lC draw g=false:=by cases g<;>simp_all[ax.lC,TF]
   rw[WA (Y:=Y) h1.1,aah (Y:=Y) h1.1]at h2;cases hf:flag vs g
   .rw[hf]at h2;exact fin (d:=.any) h4 h5 h3 (λh=>by rw[hf]at h;cases h) rfl (by rw[hf];exact h2)
   .rw[hf]at h2;obtain⟨h6,h7⟩:=cE h2;exact fin h4 h5 h3 (λ_=>⟨adG h6,rfl⟩) rfl (by rw[hf];exact h7)
  cases i
  case callM f args=>
   obtain⟨h0,h⟩:=cE h;refine⟨Lq h0,λhf=>?_,λhf=>?_⟩<;>rw[hf]at h
   .obtain⟨h1,h2⟩:=cE h;split at h2
    .rename_i d st1 h3;obtain⟨h4,h5⟩:=cE h2;exact⟨HB h1,hq _ _ _ _ _ h3 _ ⟨by simpa using h4,ih h5 K hK⟩⟩
    .cases h2
   .exact ih h K hK
  case callvM f args=>
   obtain⟨h0,h⟩:=cE h;refine⟨Lq h0,λhf=>?_,λhf=>?_⟩<;>rw[hf]at h
   .simp only at h;split at h
    .rename_i n caps h0;obtain⟨h1,h2⟩:=cE h;rw[aC]at h1;split at h2
     .rename_i d st1 h3;obtain⟨h4,h5⟩:=cE h2;rw[h0];exact⟨rfl,HB h1.2,by simpa using h1.1,hq _ _ _ _ _ h3 _ ⟨by simpa using h4,ih h5 K hK⟩⟩
     .cases h2
    .cases h
   .exact ih h K hK
  case call f args sh=>
   simp only[KC]at h;obtain⟨h1,h2⟩:=cE h;cases hf:flag vs g
   .rw[hf]at h2;exact fin (d:=.any) rfl (by simp[ax.lC,ax.calm]) (G9 h1) (λh=>by rw[hf]at h;cases h) rfl (by rw[hf];exact h2)
   .rw[hf]at h2;obtain⟨h3,h4⟩:=cE h2;split at h4
    .rename_i ds h5;split at h4
     .rename_i d h6;obtain⟨h7,h8⟩:=cE h4;obtain⟨e1,e2⟩:=YK h5;obtain⟨e3,e4⟩:=hp _ _ _ h6;refine fin (d:=d) rfl (by simp[ax.lC,ax.calm]) (G9 h1) (λ_=>?_) rfl (by rw[hf];exact h8);simp only[ax.eG,ax.val,e2,e4];exact⟨⟨HB h3,e1,e3,h7⟩,trivial⟩
     .cases h4
    .cases h4
  all_goals exact lon h
def iq {b:Bool}{a a':Option α}{x:α}(hm:a=some x->a'=some x)(h:dY b a=some x):dY b a'=some x:=by
 obtain⟨h1,h2⟩:=cE h;rw[h1];exact hm h2
def WD {p p':EP}{q':EM}(hp:∀f ds d,p f ds=some d->p' f ds=some d)(hq:∀f ds st d,q f ds st=some d->q' f ds st=some d):∀{ins:List GI}{env vs:List ba}{st:St}{x:List ba×St},KC p q ins env vs st=some x->KC p' q' ins env vs st=some x:=by
 intro ins;induction ins with
 |nil=>exact λh=>h
 |cons gi r ih=>
  obtain⟨i,g⟩:=gi;intro env vs st x h;cases i
  case callM f args=>
   refine iq (λh=>?_) h;cases hf:flag vs g<;>rw[hf]at h
   .exact ih h
   .refine iq (λh=>?_) h;split at h
    .rename_i h1;rw[hq _ _ _ _ h1];exact iq (λh=>ih h) h
    .cases h
  case callvM f args=>
   refine iq (λh=>?_) h;cases hf:flag vs g<;>rw[hf]at h
   .exact ih h
   .simp only at h⊢;split at h
    .refine iq (λh=>?_) h;split at h
     .rename_i h1;rw[hq _ _ _ _ h1];exact iq (λh=>ih h) h
     .cases h
    .cases h
  case call f args sh=>
   refine iq (λh=>?_) h;cases hf:flag vs g<;>rw[hf]at h
   .exact ih h
   .refine iq (λh=>?_) h;split at h
    .split at h
     .rename_i h2;simp only[hp _ _ _ h2];exact iq (λh=>ih h) h
     .cases h
    .cases h
  all_goals
   simp only[KC]at h⊢;obtain⟨h1,h2⟩:=cE h;rw[h1];cases hf:flag vs g<;>rw[hf]at h2
   .exact ih h2
   .obtain⟨h3,h4⟩:=cE h2;simp only[h3,dY];exact ih h4
def A1 (p:EP)(q:EM)(l:EL):AC->List ba->St->Option (Ex×List ba×St)
 | .reg _ ins cm,env,st=>match KC p q ins env [] st with
  |some (vs,st')=>some (.normal,iF env vs cm,st')
  |none=>none
 | .seq a b,env,st=>match A1 p q l a env st with
  |some (.normal,e,s)=>A1 p q l b e s
  |r=>r
 | .cond c a b,env,st=>match c.ev env []with
  |⟨true,.bool true⟩=>A1 p q l a env st
  |⟨true,.bool false⟩=>A1 p q l b env st
  |_=>none
 | .block id a,env,st=>match A1 p q l a env st with
  |some (.exit j,e,s)=>if j=id then some (.normal,e,s)else some (.exit j,e,s)
  |r=>r
 | .loop a,env,st=>l a env st
 | .exit id,env,st=>some (.exit id,env,st)
 | .ret,env,st=>some (.ret,env,st)
 | .skip,env,st=>some (.normal,env,st)
def okL (Y:Ctx)(l:EL):=∀a env st e env' st',l a env st=some (e,env',st')->∀Q:Ex->List ba->St->Prop,Q e env' st'->dx Y (.loop a) Q env st
def kP {lo:Nat}{p:List ba->St->Prop}(h:p env st):Gh lo p env st:=⟨env,st,.refl _ _,h⟩
def Oj {p:EP}{l:EL}(hp:RR Y p)(hq:okQ Y q)(hl:okL Y l):∀{c:AC}{env:List ba}{st:St}{e:Ex}{env':List ba}{st':St},A1 p q l c env st=some (e,env',st')->∀Q:Ex->List ba->St->Prop,Q e env' st'->dx Y c Q env st:=by
 intro c;induction c with
 |reg draw ins cm=>
  intro env st e env' st' h Q hQ;simp only[A1]at h;split at h
  .rename_i vs s1 h1;simp only[aE,dk]at h;obtain⟨rfl,rfl,rfl⟩:=h;exact kP (aiA hp hq h1 _ hQ)
  .cases h
 |seq a b iha ihb=>
  intro env st e env' st' h Q hQ;simp only[A1]at h;split at h
  .rename_i e1 s1 h1;exact kP (iha h1 _ (ihb h _ hQ))
  .rename_i h1;refine kP (iha h _ ?_);cases e with
   |normal=>exact absurd h (h1 _ _)
   |exit j=>exact hQ
   |ret=>exact hQ
 |cond c a b iha ihb=>
  intro env st e env' st' h Q hQ;simp only[A1]at h;split at h
  .rename_i h1;refine kP ⟨by rw[h1], ?_⟩;rw[h1];exact⟨λ_=>iha h _ hQ,λh=>cj⟩
  .rename_i h1;refine kP ⟨by rw[h1], ?_⟩;rw[h1];exact⟨λh=>cj,λ_=>ihb h _ hQ⟩
  .cases h
 |block id a iha=>
  intro env st e env' st' h Q hQ;simp only[A1]at h;split at h
  .rename_i j e1 s1 h1;refine kP (iha h1 _ ?_);show if j=id then _ else _
   split at h
   .rename_i h2;simp only[aE,dk]at h;obtain⟨rfl,rfl,rfl⟩:=h;rw[ak h2];exact hQ
   .rename_i h2;simp only[aE,dk]at h;obtain⟨rfl,rfl,rfl⟩:=h;rw[ai h2];exact hQ
  .rename_i h1;refine kP (iha h _ ?_);cases e with
   |exit j=>exact absurd h (h1 _ _ _)
   |normal=>exact hQ
   |ret=>exact hQ
 |loop a _=>exact λh=>hl _ _ _ _ _ _ h
 |exit id=>intro env st e env' st' h Q hQ;simp only[A1,aE,dk]at h;obtain⟨rfl,rfl,rfl⟩:=h;exact kP hQ
 |ret=>intro env st e env' st' h Q hQ;simp only[A1,aE,dk]at h;obtain⟨rfl,rfl,rfl⟩:=h;exact kP hQ
 |skip=>intro env st e env' st' h Q hQ;simp only[A1,aE,dk]at h;obtain⟨rfl,rfl,rfl⟩:=h;exact kP hQ
def WC {p p':EP}{q':EM}{l l':EL}(hp:∀f ds d,p f ds=some d->p' f ds=some d)(hq:∀f ds st d,q f ds st=some d->q' f ds st=some d)(hl:∀a env st d,l a env st=some d->l' a env st=some d):∀{c:AC}{env:List ba}{st:St}{x:Ex×List ba×St},A1 p q l c env st=some x->A1 p' q' l' c env st=some x:=by
 intro c;induction c with
 |reg draw ins cm=>
  intro env st x h;simp only[A1]at h⊢;split at h
  .rename_i h1;rw[WD hp hq h1];exact h
  .cases h
 |seq a b iha ihb=>
  intro env st x h;simp only[A1]at h⊢;split at h
  .rename_i h1;rw[iha h1];exact ihb h
  .rename_i h1;rw[iha h];obtain⟨e,e1,s1⟩:=x;cases e with
   |normal=>exact absurd h (h1 _ _)
   |exit j=>rfl
   |ret=>rfl
 |cond c a b iha ihb=>
  intro env st x h;simp only[A1]at h⊢;split at h
  .exact iha h
  .exact ihb h
  .cases h
 |block id a iha=>
  intro env st x h;simp only[A1]at h⊢;split at h
  .rename_i h1;rw[iha h1];exact h
  .rename_i h1;rw[iha h];obtain⟨e,e1,s1⟩:=x;cases e with
   |exit j=>exact absurd h (h1 _ _ _)
   |normal=>rfl
   |ret=>rfl
 |loop a _=>exact λh=>hl _ _ _ _ h
 |exit id=>exact λh=>h
 |ret=>exact λh=>h
 |skip=>exact λh=>h
def Ex.Rk:Ex->Bool
 | .exit _=>false
 |_=>true
def ZF (m:List (Nat×bn))(env:List ba):List GG->Bool
 |[]=>true
 |r::rs=>((env.getD r.s .un).ok&&match r.mem with
   |none=>true
   |some (n,_)=>ldB m n (env.getD r.s .un).d)&&ZF m env rs
def Ls {e:Ex}(h:e.Rk=true):e.home:=by cases e<;>simp_all[Ex.Rk,Ex.home]
theorem Sg {m:List (Nat×bn)}:∀{l:List GG},ZF m env l=true->oA m env l:=by
 intro l;induction l<;>grind [ZF,oA,XF]
structure EvS where
 p:EP
 q:EM
 l:EL
def evF (E:EvS)(a:aj)(ds:List D):Option D:=dY (decide (ds.length=a.np)) (match A1 E.p E.q E.l a.body (fU a ds) ⟨0,[]⟩with
 |some (e,env,st)=>dY (e.Rk&&ZF st.m env a.res) (match a.res with
  |[r]=>puV st.m 9 (a.rsh.getD 0 []) (Ig st.m env r)
  |rs=>(puS st.m a.rsh (qY st.m env rs)).map .tup)
 |none=>none)
def evM (E:EvS)(a:aj)(ds:List D)(st:St):Option (D×St):=dY (decide (ds.length=a.np)) (match A1 E.p E.q E.l a.body (fU a ds) st with
 |some (e,env,st')=>dY (e.Rk&&ZF st'.m env a.res) (some (kg a env st',st'))
 |none=>none)
def lA (tb:Nat->Option aj)(ex:EP):Nat->EvS
 |0=>⟨λ_ _=>none,λ_ _ _=>none,λ_ _ _=>none⟩
 |n+1=>⟨λf ds=>match tb f with
   |some a=>evF (lA tb ex n) a ds
   |none=>ex f ds,λf ds st=>match tb f with
   |some a=>evM (lA tb ex n) a ds st
   |none=>none,λa env st=>match A1 (lA tb ex n).p (lA tb ex n).q (lA tb ex n).l a env st with
   |some (.normal,e,s)=>(lA tb ex n).l a e s
   |r=>r⟩
section
variable {tb:Nat->Option aj}{ex:EP}
def Fs:(∀f ds d,(lA tb ex n).p f ds=some d->(lA tb ex (n+1)).p f ds=some d)/\(∀f ds st d,(lA tb ex n).q f ds st=some d->(lA tb ex (n+1)).q f ds st=some d)/\∀a env st d,(lA tb ex n).l a env st=some d->(lA tb ex (n+1)).l a env st=some d:=by
 induction n with
 |zero=>exact⟨λ_ _ _ h=>cj,λ_ _ _ _ h=>cj,λ_ _ _ _ h=>cj⟩
 |succ n ih=>
  obtain⟨h1,h2,h3⟩:=ih;have hc:∀{c:AC} {env:List ba} {st:St} {x:Ex×List ba×St},A1 (lA tb ex n).p (lA tb ex n).q (lA tb ex n).l c env st=some x->A1 (lA tb ex (n+1)).p (lA tb ex (n+1)).q (lA tb ex (n+1)).l c env st=some x:=λh=>WC h1 h2 h3 h
  refine⟨λf ds d h=>?_,λf ds st d h=>?_,λa env st d h=>?_⟩
  .simp only[lA]at h⊢;split at h
   .refine iq (λh=>?_) h;split at h
    .rename_i h4;have:=hc h4;simp only[lA]at this;rw[this];exact h
    .cases h
   .exact h
  .simp only[lA]at h⊢;split at h
   .refine iq (λh=>?_) h;split at h
    .rename_i h4;have:=hc h4;simp only[lA]at this;rw[this];exact h
    .cases h
   .exact h
  .rw[lA]at h⊢;simp only at h⊢;split at h
   .rename_i h4;rw[hc h4];exact h3 _ _ _ _ h
   .rename_i h4;rw[hc h];obtain⟨e,e1,s1⟩:=d;cases e with
    |normal=>exact absurd h (h4 _ _)
    |exit j=>rfl
    |ret=>rfl
def Lb {n:Nat}(h:(lA tb ex n).p f ds=some d)(hk:n<=k):(lA tb ex k).p f ds=some d:=by
 induction hk with
 |refl=>exact h
 |step _ ih=>exact(Fs _).1 _ _ _ ih
def WG {n:Nat}{d:D×St}(h:(lA tb ex n).q f ds st=some d)(hk:n<=k):(lA tb ex k).q f ds st=some d:=by
 induction hk with
 |refl=>exact h
 |step _ ih=>exact(Fs _).2.1 _ _ _ _ ih
end
def Vg (P:Nat->Prop):Nat:=Classical.epsilon λk=>P k/\∀j,P j->k<=j
def y2 {P:Nat->Prop}:∀{n:Nat},P n->P (Vg P)/\∀j,P j->Vg P<=j:=by
 have h:∀n,P n->∃k,P k/\∀j,P j->k<=j:=by
  intro n;induction n using Nat.strongRecOn with
  |_ n ih=>
   intro hn;by_cases h:∃j,P j/\j<n
   .obtain⟨j,h1,h2⟩:=h;exact ih j h2 h1
   .exact⟨n,hn,λj hj=>by
     rcases dZ j n with h1|h1
     .exact absurd ⟨j,hj,h1⟩ h
     .exact h1⟩
 exact λ{n} hn=>Classical.epsilon_spec (h n hn)
section
variable {tb:Nat->Option aj}{ex:EP}
def WE {N:Nat}(hp:∀n,n<N->RR Y (lA tb ex n).p)(hq:∀n,n<N->okQ Y (lA tb ex n).q):okL Y (lA tb ex N).l:=by
 intro a env st e env' st' h Q hQ
 let P:List ba->St->Nat->Prop:=λenv st n=>n<=N/\(lA tb ex n).l a env st=some (e,env',st')
 refine kP ⟨λenv st=>∃n,P env st n,λenv st=>Vg (P env st),⟨N,aN _,h⟩,λenv st ⟨n,hn⟩=>?_⟩;obtain⟨⟨h1,h2⟩,h3⟩:=y2 (P:=P env st) hn;obtain⟨k,hk⟩:∃k,Vg (P env st)=k:=⟨_,rfl⟩
 rw[hk]at h1 h2 h3;cases k with
 |zero=>cases h2
 |succ k=>
  rw[lA]at h2;simp only at h2;have ih:okL Y (lA tb ex k).l:=WE (λn h=>hp n ae) λn h=>hq n ae
  split at h2
  .rename_i e1 s1 h4;refine Oj (hp k ae) (hq k ae) ih h4 _ ⟨e1,s1,.refl _ _,⟨k,ae,h2⟩, ?_⟩;have:=(y2 (P:=P e1 s1) (n:=k) ⟨ae,h2⟩).2 k ⟨ae,h2⟩;show Vg (P e1 s1)<Vg (P env st);omega
  .rename_i h4;refine Oj (hp k ae) (hq k ae) ih h2 _ ?_;cases e with
   |normal=>exact absurd h2 (h4 _ _)
   |exit j=>exact hQ
   |ret=>exact hQ
termination_by N
end
def b6 (tb:Nat->Option aj)(ex:EP)(k f:Nat):mO where
 key:=k
 rel ds d:=∃n,(lA tb ex n).p f ds=some d
 mu ds:=Vg λn=>∃d,(lA tb ex n).p f ds=some d
 relF:=noF
 tr ds st K:=∃n d st',(lA tb ex n).q f ds st=some (d,st')/\K d st'
 muE ds st:=Vg λn=>∃d,(lA tb ex n).q f ds st=some d
 mono _ _ _ _ h h1:=by obtain⟨n,d,st',h2,h3⟩:=h1;exact⟨n,d,st',h2,h _ _ h3⟩
section
variable {tb:Nat->Option aj}{ex:EP}{t:List (Nat×mO)}
def DM:Det (b6 tb ex k f).rel:=by
 intro ds d d' ⟨n,h⟩ ⟨n',h'⟩;have h1:=Lb h (Nat.le_max_left n n');rw[Lb h' (Nat.le_max_right n n')]at h1;exact(a7 h1).symm
def kM {k' u n:Nat}(hr:lk t f nb=b6 tb ex k f)(hk:k<k')(h:(lA tb ex n).p f ds=some d):(under t k' u).pre f ds/\(under t k' u).val f ds=d:=
 okp (hr▸DM) (.inl (by rw[hr];exact hk)) (by rw[hr];exact⟨n,h⟩)
def WH (hrow:∀f a,tb f=some a->lk t f nb=b6 tb ex k f)(hex:∀u,RR (under t k u) ex){u n:Nat}(hn:n<u):RR (under t k u) (lA tb ex n).p:=by
 intro f ds d h;cases n with
 |zero=>cases h
 |succ n=>
  cases hf:tb f with
  |none=>simp only[lA,hf]at h;exact hex u f ds d h
  |some a=>
   have hr:=hrow f a hf;refine okp (hr▸DM) (.inr ⟨by rw[hr];rfl, ?_⟩) (by rw[hr];exact⟨_,h⟩);rw[hr];have:=(y2 (P:=λn=>∃d,(lA tb ex n).p f ds=some d) ⟨d,h⟩).2 _ ⟨d,h⟩;exact Nat.lt_of_le_of_lt this hn
def WI (hrow:∀f a,tb f=some a->lk t f nb=b6 tb ex k f)(hex:∀u,RR (under t k u) ex){u n:Nat}(hn:n<u):okQ (under t k u) (lA tb ex n).q:=by
 intro f ds st d st' h K hK;cases n with
 |zero=>cases h
 |succ n=>
  cases hf:tb f with
  |none=>simp only[lA,hf]at h;cases h
  |some a=>
   have hr:=hrow f a hf;refine RS (.inr ⟨by rw[hr];rfl, ?_⟩) (by rw[hr];exact⟨_,_,_,h,hK⟩);rw[hr];have:=(y2 (P:=λn=>∃d,(lA tb ex n).q f ds st=some d) ⟨_,h⟩).2 _ ⟨_,h⟩;exact Nat.lt_of_le_of_lt this hn
def Ra (hrow:∀f a,tb f=some a->lk t f nb=b6 tb ex k f)(hex:∀u,RR (under t k u) ex){u n:Nat}(hn:n<u){c:AC}{e:Ex}{st':St}(h:A1 (lA tb ex n).p (lA tb ex n).q (lA tb ex n).l c env st=some (e,env',st')){Q:Ex->List ba->St->Prop}(hQ:Q e env' st'):dx ((under t k u).at l) c Q env st:=
 Oj (Y:=(under t k u).at l) (WH hrow hex hn) (WI hrow hex hn) (WE (λn' h=>WH hrow hex ae) λn' h=>WI hrow hex ae) h Q hQ
variable [cP]{P:Program}{ν:List (Nat×Nat)}{bU:List Nat}{fid:Nat}{a:aj}
theorem aK (hrow:∀f a,tb f=some a->lk t f nb=b6 tb ex k f)(hex:∀u,RR (under t k u) ex)(hmix:P.follows .mixedOrders=true)(hC:Vc P ν bU fid a)(hf:tb f=some a):Owe P ν bU t fid f:=by
 have hr:=hrow f a hf;refine⟨?_, ?_, ?_⟩<;>rw[hr]
 .intro ds d ⟨n,h⟩;obtain⟨⟨d',h1⟩,h2⟩:=y2 (P:=λn=>∃d,(lA tb ex n).p f ds=some d) ⟨d,h⟩;have h3:d'=d:=DM (k:=k) ds d' d ⟨_,h1⟩ ⟨_,h⟩;subst h3;show KJ P ν bU (under t k (Vg λn=>∃d,(lA tb ex n).p f ds=some d)) fid ds d';generalize (Vg λn=>∃d,(lA tb ex n).p f ds=some d)=N at h1;cases N with
  |zero=>cases h1
  |succ N=>
   simp only[lA,hf]at h1;obtain⟨g1,g2⟩:=cE h1;split at g2
   .rename_i e env st g3;obtain⟨g4,g5⟩:=cE g2;rw[aC]at g4;refine av hmix hC (by simpa using g1) (Ra hrow hex (Nat.lt_succ_self N) g3 ⟨Ls g4.1,Sg g4.2, ?_⟩);unfold MX ZG;split at g5
    .rename_i r hres;rw[hres];exact YL g5
    .rename_i rs hres;obtain⟨es,g6,rfl⟩:=df.1 g5;have:=YK g6;split
     .rename_i r hr;exact absurd hr (hres r)
     .exact⟨this.1,by rw[this.2]⟩
   .cases g2
 .exact HA
 .intro ds st K ⟨n,d,st',h,hK⟩;obtain⟨⟨d',h1⟩,h2⟩:=y2 (P:=λn=>∃d,(lA tb ex n).q f ds st=some d) ⟨_,h⟩;have h3:d'=(d,st'):=by
   have:=WG h1 (h2 n ⟨_,h⟩);rw[h]at this;exact(a7 this).symm
  subst h3;show uS P ν bU (under t k (Vg λn=>∃d,(lA tb ex n).q f ds st=some d)) fid ds st K;generalize (Vg λn=>∃d,(lA tb ex n).q f ds st=some d)=N at h1;cases N with
  |zero=>cases h1
  |succ N=>
   simp only[lA,hf]at h1;obtain⟨g1,g2⟩:=cE h1;split at g2
   .rename_i e env s1 g3;obtain⟨g4,g5⟩:=cE g2;rw[aC]at g4;simp only[aE,dk]at g5;obtain⟨g6,rfl⟩:=g5;intro hok x args hl hargs hs hfr;obtain⟨fn,hfn,hc,hn⟩:=hC.split;obtain⟨body,c1,_⟩:=gK hc;refine .inr ⟨fid,args,ig hfn hn (by rw[c1];rfl) args x.w, ?_⟩;refine Calls.mono (aiF (K:=K) hok hmix hfn hc hl hargs hs hfr ⟨by simpa using g1,Ra hrow hex (Nat.lt_succ_self N) g3 ⟨Ls g4.1,Sg g4.2, ?_⟩⟩) λe w' he=>?_
    .rw[g6];exact hK
    .grind
   .cases g2
end
def rH:aj:=bj 237
def rI:aj:=bj 269
def vc:aj:=bj 175
def yj:aj:=bj 94
def uX:aj:=bj 238
def sj:aj:=bj 273
def At:aj:=bj 140
def x9:aj:=bj 177
def xu:aj:=bj 270
def xw:aj:=bj 271
def vx:aj:=bj 294
def vw:aj:=bj 293
def va:aj:=bj 209
def ve:aj:=bj 210
def yi:aj:=bj 142
def yk:aj:=bj 143
def rv:aj:=bj 274
def ry:aj:=bj 272
def vj:aj:=bj 176
def oU:aj:=bj 296
def CZ:aj:=bj 297
def xx:aj:=bj 298
def yn:aj:=bj 318
def wZ:aj:=bj 316
def AO:aj:=bj 319
def lE:aj:=bj 246
def Ar:aj:=bj 247
def vi:aj:=bj 248
def AJ:aj:=bj 180
def ye:aj:=bj 181
def AK:aj:=bj 182
def DI:aj:=bj 183
def AL:aj:=bj 184
def DF:aj:=bj 185
def si:aj:=bj 301
def m8:aj:=bj 321
def om:aj:=bj 322
def Ag:aj:=bj 323
def Af:aj:=bj 324
def Ca:aj:=bj 344
def w9:aj:=bj 345
def zR:aj:=bj 336
def nj:aj:=bj 279
def nk:aj:=bj 280
def oz:aj:=bj 281
def x7:aj:=bj 282
def x6:aj:=bj 283
def yf:aj:=bj 215
def yg:aj:=bj 212
def DE:aj:=bj 213
def sQ:aj:=bj 214
def DC:aj:=bj 216
def oT:aj:=bj 349
def oo:aj:=bj 350
def oV:aj:=bj 351
def oS:aj:=bj 352
def Ae:aj:=bj 353
def Ad:aj:=bj 354
def zS:aj:=bj 362
def uV:aj:=bj 361
def oy:aj:=bj 305
def x5:aj:=bj 306
def As:aj:=bj 307
def x8:aj:=bj 308
def AI:aj:=bj 251
def AG:aj:=bj 249
def vv:aj:=bj 250
def pZ:aj:=bj 369
def nd:aj:=bj 330
def nq:aj:=bj 358
def yb:aj:=bj 188
def DA:aj:=bj 262
def vl:aj:=bj 218
def vo:aj:=bj 219
def yc:aj:=bj 220
def vr:aj:=bj 221
def yd:aj:=bj 290
def Aw:aj:=bj 252
def ya:aj:=bj 254
def Ax:aj:=bj 255
def Ay:aj:=bj 256
def F3:aj:=bj 286
def Av:aj:=bj 284
def F0:aj:=bj 309
def Dy:aj:=bj 333
def Du:aj:=bj 193
def Au:aj:=bj 194
def Az:aj:=bj 331
def AA:aj:=bj 313
def F1:aj:=bj 314
def AB:aj:=bj 315
def xZ:aj:=bj 224
def F4:aj:=bj 225
def Dz:aj:=bj 335
def sM:aj:=bj 258
def DG:aj:=bj 259
def DB:aj:=bj 263
def vg:aj:=bj 285
def DH:aj:=bj 287
def Dx:aj:=bj 291
def vu:aj:=bj 310
def AE:aj:=bj 311
def AD:aj:=bj 312
def AH:aj:=bj 332
def vt:aj:=bj 334
def AF:aj:=bj 359
def yh:aj:=bj 360
def tbT:List (Nat×aj):=[(212,rH),(444,rI),(670,vc),(572,yj),(213,uX),(448,sj),(459,At),(672,x9),(445,xu),(446,xw),(496,vx),(495,vw),(813,va),(814,ve),(744,yi),(745,yk),(449,rv),(447,ry),(671,vj),(660,oU),(661,CZ),(662,xx),(684,yn),(682,wZ),(685,AO),(952,lE),(953,Ar),(954,vi),(896,AJ),(897,ye),(898,AK),(899,DI),(900,AL),(901,DF),(663,si),(808,m8),(809,om),(810,Ag),(811,Af),(827,Ca),(828,w9),(819,zR),(1032,nj),(1033,nk),(1034,oz),(1035,x7),(1036,x6),(482,yf),(1006,yg),(1007,DE),(1008,sQ),(676,DC),(946,oT),(947,oo),(948,oV),(949,oS),(950,Ae),(951,Ad),(957,zS),(956,uV),(1097,oy),(1098,x5),(1099,As),(1100,x8),(677,AI),(678,AG),(1079,vv),(1031,pZ),(1126,nd),(1141,nq),(156,yb),(374,DA),(376,vl),(377,vo),(378,yc),(379,vr),(598,yd),(599,Aw),(601,ya),(602,Ax),(603,Ay),(604,F3),(769,Av),(771,F0),(772,Dy),(907,Du),(908,Au),(918,Az),(919,AA),(920,F1),(921,AB),(1010,xZ),(1011,F4),(1021,Dz),(1081,sM),(1082,DG),(1085,DB),(1118,vg),(1119,DH),(1122,Dx),(1137,vu),(1138,AE),(1139,AD),(1144,AH),(1145,vt),(1147,AF),(1148,yh)]
def aeH:=∀(s:au),(kA s)->T [.str s] (cA.D (fg s))
def C908:Prop:=aeH (aH Z 908)
def aeG:=∀(s:au) (e:Env),(oW s/\lz e)->T [.str s,Env.D e] (.bool (FO s e))
def C907:Prop:=aeG (aH Z 907)
def aax:=∀(s:au),(kA s)->T [.str s] (.tup [cA.D (fg s),.int .i64 0])
def aeJ:Prop:=aax (aH Z 1011)
def aay:=∀(s:cA),(s∈hZ)->T [cA.D pH,cA.D s] (cA.D s)
def aeT:Prop:=aay (aH Z 1085)
def aaA:=∀(v:ca),(v∈bJ)->T [ca.D v] (cA.D (dJ v))
def Vv:Prop:=aaA (aH Z 156)
def Kd:=∀(l:List cn) (nm:au),T [.sl 2 (l.map cn.D),.str nm] (.int .i64 (findF l nm 0))
def C955:Prop:=Kd (aH Z 955)
def J0:=∀(l:List cn) (nm:au),T [.sl 2 (l.map cn.D),.str nm] (.bool (isF l nm))
def C816:Prop:=J0 (aH Z 816)
end Go.Abs
section
set_option maxRecDepth 10000
namespace Go.Abs
variable{d:D}{Y:Ctx}
def P4:List D->Option (List au)
 |[]=>some []
 | .str s::r=>match P4 r with
  |some l=>some (s::l)
  |none=>none
 |_=>none
theorem BP:∀{l:List D}{r:List au},P4 l=some r->l=r.map D.str:=by
 intro l;induction l with
 |nil=>intro r h;cases h;rfl
 |cons d l ih=>intro r h;cases d<;>simp only[P4]at h<;>grind
def uK (s:au):Bool:=decide (s.length<=1048576)
def exO:EP:=λf ds=>match ds with
 |[.str s]=>bif Nat.beq f 349 ||Nat.beq f 357 then some (.bool (gT s))else bif Nat.beq f 208 ||Nat.beq f 216 then some (.bool (dn s))else
  bif Nat.beq f 658 ||Nat.beq f 667 then some (.tup [.int .i64 (C6 s),.bool (ox s)])else none
 |[.int .i64 n]=>dY ((Nat.beq f 665 ||Nat.beq f 734)&&(decide (0<=n)&&decide (n<=9999))) (some (.str (nY n.toNat)))
 |[.str s,.int .u8 b]=>dY ((Nat.beq f 533 ||Nat.beq f 470)&&uK s) (some (.sl 1 ((bd s b).map D.str)))
 |[.str s,.str [124,124]]=>dY (uK s&&Nat.beq f 124) (some (.sl 1 ((jm s []).map D.str)))
 |[.str s,.str [b]]=>dY (uK s) (bif Nat.beq f 124 then some (.sl 1 ((bd s b.toNat).map D.str))else bif Nat.beq f 683&&b==32 then some (.str (B6 s))else
  bif Nat.beq f 487 then some (.tup [.str (uI s b).1,.str (uI s b).2.1,.bool (uI s b).2.2])else bif Nat.beq f 254 then some (.tup [.str (qE s [b]).1,.bool (qE s [b]).2])else none)
 |[.sl 1 l]=>match P4 l with
  |some l=>bif Nat.beq f 815 then some (.bool (rising l))else none
  |none=>none
 |[.sl 1 l,.int .u8 x]=>match P4 l with
  |some l=>dY (Nat.beq f 249&&(decide (x=(x.toNat.toUInt8.toNat:Nat))&&uK (cw [x.toNat.toUInt8] l))) (some (.str (cw [x.toNat.toUInt8] l)))
  |none=>none
 |[.sl 1 l,.str s]=>match P4 l with
  |some l=>dY (Nat.beq f 242&&(decide (l.length<=9)&&(decide (s.length<=4)&&l.all uK))) (some (.str (cw s l)))
  |none=>none
 |[.agg [.int .i64 a,.int .i64 b,.int .i64 c,.str p,.str q]]=>dY ((Nat.beq f 209 ||Nat.beq f 217)&&(uK p&&uK q)) (some (.bool (gQ ⟨a,b,c,p,q⟩)))
 |_=>none
def eU (n:Nat):Option aj:=lk (tbT.map λp=>(p.1,some p.2)) n none
def aiD (h349:S8 Y)(h357:Vq Y)(h208:S6 Y)(h216:GJ Y)(h658:C658 Y)(h667:C667 Y)(h665:C665 Y)(h734:C734 Y)(h533:Vr Y)(h470:C470 Y)(h124:C124 Y)(h9124:aeX Y)(h683:C683 Y)(h487:C487 Y)(h254:C254 Y)(h815:C815 Y)(h249:C249 Y)(h242:C242 Y)(h209:AU Y)(h217:BW Y):RR Y exO:=by
 intro f ds d h;unfold exO at h;split at h
 .simp only[Bool.cond_eq_ite,dF,Nat.beq_eq]at h;split at h
  .rename_i hf;cases h;rcases hf with rfl|rfl
   .exact h349 _
   .exact h357 _
  split at h
  .rename_i hf;cases h;rcases hf with rfl|rfl
   .exact h208 _
   .exact h216 _
  split at h
  .rename_i hf;cases h;rcases hf with rfl|rfl
   .exact h658 _
   .exact h667 _
  .cases h
 .obtain⟨h1,h2⟩:=cE h;simp only[dF,aC,Nat.beq_eq,aV]at h1;cases h2;rcases h1 with⟨rfl|rfl,h1⟩
  .exact h665 _ h1
  .exact h734 _ h1
 .obtain⟨h1,h2⟩:=cE h;simp only[dF,aC,Nat.beq_eq,uK,aV]at h1;cases h2;rcases h1 with⟨rfl|rfl,h1⟩
  .exact h533 _ _ h1
  .exact h470 _ _ h1
 .obtain⟨h1,h2⟩:=cE h;simp only[aC,Nat.beq_eq,uK,aV]at h1;cases h2;obtain⟨h1,rfl⟩:=h1;exact h9124 _ h1
 .obtain⟨h1,h2⟩:=cE h;simp only[uK,aV]at h1;simp only[Bool.cond_eq_ite,aC,Nat.beq_eq,beq_iff_eq]at h2;split at h2
  .rename_i hf;cases h2;subst hf;exact h124 _ _ h1
  split at h2
  .rename_i hf;cases h2;obtain⟨rfl,hb⟩:=hf;exact h683 _ _ hb h1
  split at h2
  .rename_i hf;cases h2;subst hf;exact h487 _ _ h1
  split at h2
  .rename_i hf;cases h2;subst hf;exact h254 _ _ h1 aB
  .cases h2
 .split at h
  .rename_i l hl;obtain rfl:=BP hl;simp only[Bool.cond_eq_ite,Nat.beq_eq]at h;split at h
   .rename_i hf;cases h;subst hf;exact h815 _
   .cases h
  .cases h
 .rename_i lx x;split at h
  .rename_i l hl;obtain rfl:=BP hl;obtain⟨h1,h2⟩:=cE h;simp only[aC,Nat.beq_eq,uK,aV]at h1;cases h2;obtain⟨rfl,h3,h4⟩:=h1;revert h3 h4;generalize Nat.toUInt8 (Int.toNat x)=y;intro h3 h4;subst h3;exact h249 _ y (eR h4 aU)
  .cases h
 .split at h
  .rename_i l hl;obtain rfl:=BP hl;obtain⟨h1,h2⟩:=cE h;simp only[aC,Nat.beq_eq,uK,List.all_eq_true,aV]at h1;cases h2;obtain⟨rfl,h3,h4,h5⟩:=h1;exact h242 _ _ ae h4 λt ht=>eR (h5 t ht) aU
  .cases h
 .obtain⟨h1,h2⟩:=cE h;simp only[dF,aC,Nat.beq_eq,uK,aV]at h1;cases h2;rcases h1 with⟨rfl|rfl,h1⟩
  .exact h209 ⟨_,_,_,_,_⟩ h1
  .exact h217 ⟨_,_,_,_,_⟩ h1
 .cases h
def jb:Option D->Bool
 |some (.bool b)=>b
 |_=>false
def dM {o:Option D}{b:Bool}(hb:b=true)(h:jb o=true):o=some (.bool b):=by unfold jb at h;split at h<;>simp_all
def fN (c:Bool):Option D->Bool
 |some (.bool b)=>b==c
 |_=>false
def cD {o:Option D}{b:Bool}(h:fN b o=true):o=some (.bool b):=by unfold fN at h;split at h<;>simp_all
def rB (x:Int×au×au):Option D->Bool
 |some (.tup [.int .i64 a,.str b,.str c])=>decide (a=x.1)&&(b==x.2.1&&c==x.2.2)
 |_=>false
def jT {o:Option D}{x:Int×au×au}(h:rB x o=true):o=some (.tup [.int .i64 x.1,.str x.2.1,.str x.2.2]):=by unfold rB at h;split at h<;>simp_all
def verO:D->Option ca
 | .agg [.int .i64 a,.int .i64 b,.int .i64 c,.str p,.str q]=>some ⟨a,b,c,p,q⟩
 |_=>none
def aez {v:ca}(h:verO d=some v):d=v.D:=by
 unfold verO at h;split at h
 .cases h;rfl
 .cases h
def cutO:D->Option Cut
 | .agg [.int .i64 e,.int .i64 a,.int .i64 b,.int .i64 c,.str p,.str q,.bool z]=>some ⟨e,⟨a,b,c,p,q⟩,z⟩
 |_=>none
def Q4 {v:Cut}(h:cutO d=some v):d=v.D:=by
 unfold cutO at h;split at h
 .cases h;rfl
 .cases h
def Gb:D->Option Span
 | .agg [.int .i64 e,.int .i64 a,.int .i64 b,.int .i64 c,.str p,.str q,.bool z,.int .i64 e',.int .i64 a',.int .i64 b',.int .i64 c',.str p',.str q',.bool z']=>some ⟨⟨e,⟨a,b,c,p,q⟩,z⟩,⟨e',⟨a',b',c',p',q'⟩,z'⟩⟩
 |_=>none
def yo {v:Span}(h:Gb d=some v):d=v.D:=by
 unfold Gb at h;split at h
 .cases h;rfl
 .cases h
def CS {α:Type}(f:D->Option α):List D->Option (List α)
 |[]=>some []
 |d::r=>match f d with
  |some a=>match CS f r with
   |some l=>some (a::l)
   |none=>none
  |none=>none
def sy {α:Type}{f:D->Option α}{q:α->D}(hq:∀{d:D}{a:α},f d=some a->d=q a):∀{l:List D}{r:List α},CS f l=some r->l=r.map q
 |[],r,h=>by cases h;rfl
 |d::l,r,h=>by
  unfold CS at h;split at h
  .rename_i a ha;split at h
   .rename_i t ht;cases h;rw[hq ha,sy hq ht];rfl
   .cases h
  .cases h
def WL:D->Option cn
 | .agg [.str n,.sl 1 l]=>match P4 l with
  |some l=>some ⟨n,l⟩
  |none=>none
 |_=>none
def WN {v:cn}(h:WL d=some v):d=v.D:=by
 unfold WL at h;split at h
 .split at h
  .rename_i l hl;cases h;rw[BP hl];rfl
  .cases h
 .cases h
def smV (v:ca):Bool:=uK v.pre&&uK v.build
def Il {v:ca}(h:smV v=true):v.sm:=by simpa[smV,uK,ca.sm]using h
def smS (s:Span):Bool:=smV s.f.v&&smV s.t.v
def ZZ {s:Span}(h:smS s=true):s.sm:=by
 rw[smS,aC]at h;exact⟨Il h.1,Il h.2⟩
def P0 {l:List Span}(h:l.all smS=true):zN l:=λs hs=>ZZ (List.all_eq_true.1 h s hs)
def Rl (d:D):Option cA:=match d with
 | .agg [.sl 14 a,.sl 14 b]=>match CS Gb a with
  |some a=>match CS Gb b with
   |some b=>some ⟨a,b⟩
   |none=>none
  |none=>none
 |_=>none
def Lv {v:cA}(h:Rl d=some v):d=v.D:=by
 unfold Rl at h;split at h
 .split at h
  .rename_i a ha;split at h
   .rename_i b hb;cases h;rw[sy yo ha,sy yo hb];rfl
   .cases h
  .cases h
 .cases h
def ex1 (f:Nat)(d:D):Option D:=bif Nat.beq f 144 then(match d with
  | .agg [.str a,.str b,.str c]=>some (.bool (n6 ⟨a,b,c⟩))
  |_=>none)else bif Nat.beq f 600 then(match verO d with
  |some v=>some (.bool (vR v))
  |none=>none)else bif Nat.beq f 1019 then(match Gb d with
  |some s=>dY (smS s) (some (.bool (qg s)))
  |none=>none)else bif Nat.beq f 770 then(match Rl d with
  |some s=>dY (s.rel.all smS&&s.pr.all smS) (some (.bool (wj s)))
  |none=>none)else bif Nat.beq f 916 then(match d with
  | .sl 14 l=>match CS Gb l with
   |some l=>dY (l.all smS) (some (.bool (sS l)))
   |none=>none
  |_=>none)else none
def exN:EP:=λf ds=>match ds with
 |[]=>dY (Nat.beq f 375) (some (cA.D RP))
 |[d]=>ex1 f d
 |[.sl 2 l,.str s]=>match CS WL l with
  |some l=>dY (Nat.beq f 816) (some (.bool (isF l s)))
  |none=>none
 |[a,b]=>match cutO a with
  |some a=>match cutO b with
   |some b=>dY (Nat.beq f 1020&&(smV a.v&&smV b.v)) (some (.int .i64 (ll a b)))
   |none=>none
  |none=>none
 |_=>none
def aiB (h144:Vo Y)(h600:C600 Y)(h1019:KF Y)(h770:Vu Y)(h916:Vw Y){f:Nat}{e:D}(h:ex1 f d=some e):Y.pre f [d]/\Y.val f [d]=e:=by
 unfold ex1 at h;simp only[Bool.cond_eq_ite,Nat.beq_eq]at h;split at h
 .rename_i hf;subst hf;split at h
  .cases h;exact h144 ⟨_,_,_⟩
  .cases h
 split at h
 .rename_i hf;subst hf;split at h
  .rename_i v hv;cases h;rw[aez hv];exact h600 v
  .cases h
 split at h
 .rename_i hf;subst hf;split at h
  .rename_i s hs;obtain⟨h1,h2⟩:=cE h;cases h2;rw[yo hs];exact h1019 s (ZZ h1)
  .cases h
 split at h
 .rename_i hf;subst hf;split at h
  .rename_i s hs;obtain⟨h1,h2⟩:=cE h;rw[aC]at h1;cases h2;rw[Lv hs];exact h770 s ⟨P0 h1.1,P0 h1.2⟩
  .cases h
 split at h
 .rename_i hf;subst hf;split at h
  .split at h
   .rename_i l hl;obtain⟨h1,h2⟩:=cE h;cases h2;rw[sy yo hl];exact h916 l (P0 h1)
   .cases h
  .cases h
 .cases h
def aiC (h144:Vo Y)(h375:C375 Y)(h600:C600 Y)(h770:Vu Y)(h816:C816 Y)(h916:Vw Y)(h1019:KF Y)(h1020:QD Y):RR Y exN:=by
 intro f ds d h;unfold exN at h;split at h
 .obtain⟨h1,h2⟩:=cE h;cases h2;obtain rfl:=Nat.eq_of_beq_eq_true h1;exact h375
 .exact aiB h144 h600 h1019 h770 h916 h
 .split at h
  .rename_i l hl;obtain⟨h1,h2⟩:=cE h;cases h2;obtain rfl:=Nat.eq_of_beq_eq_true h1;rw[sy WN hl];exact h816 _ _
  .cases h
 .split at h
  .rename_i a ha;split at h
   .rename_i b hb;obtain⟨h1,h2⟩:=cE h;simp only[aC]at h1;cases h2;obtain⟨h1,h3,h4⟩:=h1;obtain rfl:=Nat.eq_of_beq_eq_true h1;rw[Q4 ha,Q4 hb];exact h1020 _ _ ⟨Il h3,Il h4⟩
   .cases h
  .cases h
 .cases h
def eM:EP:=λf ds=>match exO f ds with
 |some d=>some d
 |none=>exN f ds
def aiE (h1:RR Y exO)(h2:RR Y exN):RR Y eM:=by
 intro f ds d h;unfold eM at h;split at h
 .rename_i e he;cases h;exact h1 f ds d he
 .exact h2 f ds d h
def Ee (v:cA):Option D->Bool
 |some d=>match Rl d with
  |some x=>decide (x=v)
  |none=>false
 |none=>false
def gD {o:Option D}{v:cA}(h:Ee v o=true):o=some v.D:=by
 unfold Ee at h;split at h
 .split at h
  .rename_i x hx;rw[Lv hx,of_decide_eq_true h]
  .cases h
 .cases h
def vsZ (v:cA):Option D->Bool
 |some (.tup [d,.int .i64 0])=>Ee v (some d)
 |_=>false
def sW {o:Option D}{v:cA}(h:vsZ v o=true):o=some (.tup [v.D,.int .i64 0]):=by
 unfold vsZ at h;split at h
 .rw[a7 (gD h)]
 .cases h
abbrev cr (f:Nat)(ds:List D):Option D:=(lA eU eM 60).p f ds
end Go.Abs
end
namespace Go.Abs
variable{c:List Int}{us:List cJ}{l:List bM}{w:bR}{od:List (List Int)}(T:List D->D->Prop){P:Key->Prop}{n k j:Nat}(shop:List bM)(ks:List Int){y:cF}(Z:Ctx){r:Rec}
section
variable {Y:Ctx}{draw:Bool}{r:List GI}{env rs:List ba}{nx:Nat}{m:List (Nat×bn)}{K:List ba->St->Prop}{g:Option (Nat×Bool)}{f:Bool}
def r_mn {x y:Src}{fx fy:Bool}{k k2:IntKind}{a b:Int}(v:Int)(h:ay Y draw r env (⟨f,.int k v⟩::rs) nx m K)(hg:GF rs g f:=by first|exact rfl|exact⟨_,_,rfl,rfl⟩)(hx:bZ env rs x=⟨fx,.int k a⟩:=by exact rfl)(hy:bZ env rs y=⟨fy,.int k2 b⟩:=by exact rfl)(kx:f=true->fx=true:=by first|exact λ_=>rfl|exact λh=>h|(intro h;simp_all))(ky:f=true->fy=true:=by first|exact λ_=>rfl|exact λh=>h|(intro h;simp_all))(hv:f=true->(if b<a then b else a)=v):ay Y draw (⟨.mn false x y,g⟩::r) env rs nx m K:=
 bF rfl hg _ (λhf=>by simp[ax.eG,hx,hy,kx hf,ky hf]) (λhf=>by simp only[ax.val,hx,hy,iJ,aW];rw[hv hf]) (λ_=>h)
end
def I6:=∀(n:Int),(0<=n/\n<=40)->T [.int .i64 n] (.int .i64 (2^n.toNat))
def C381:Prop:=I6 (aH Z 381)
def II:=∀(w:bR) (u:Int),(w.sm)->T [bR.D w,.int .i64 u] (.int .i64 (n9 w.us u))
def C158:Prop:=II (aH Z 158)
def Ja:=∀(w:bR) (x:Want),(w.sm/\x.sm)->T [bR.D w,Want.D x] (.int .i64 (uL w.us x))
def C415:Prop:=Ja (aH Z 415)
def R1 {r i:Nat}(h:0<r)(hn:n<1000000):Mi us r i n=Mi us (r-1) (i+1) (if us[i]!.feat=[]then n*(us[i]!.cands.length+1)else n):=by
 obtain⟨q,rfl⟩:∃q,r=q+1:=⟨r-1,ae⟩
 rw[Mi,ak hn];rfl
def YI {r i:Nat}(h:r=0\/¬n<1000000):Mi us r i n=n:=by
 cases r with
 |zero=>rfl
 |succ r=>rw[Mi,ai ae]
def adU {i:Nat}(h:us[i]!.cands.length<=16)(hn:vY us i<1000000):vY us (i+1)<=20000000:=by
 rw[vY];split
 .exact eR (Nat.mul_le_mul (show vY us i<=1000000 by omega) (show us[i]!.cands.length+1<=17 by omega)) aU
 .omega
def akb {i:Nat}(h:us[i]!.feat=[]):((vY us i:Nat):Int)*(((us[i]!.cands.length:Nat):Int)+1)=((vY us (i+1):Nat):Int):=by rw[vY,ak h];push_cast;rfl
def aka {i:Nat}(h:¬us[i]!.feat=[]):vY us i=vY us (i+1):=by rw[vY,ai h]
def p8 (us:List cJ)(l:List Int)(u:Nat):List (List Int):=(List.range u).map (E1 us l)
def Ug (us:List cJ)(l:List Int)(u:Nat):(p8 us l u).length=u:=by simp[p8]
def adO (us:List cJ)(l:List Int)(u:Nat):p8 us l u++[E1 us l u]=p8 us l (u+1):=by simp[p8,List.range_succ]
def ord_z {l:List Int}(h:l.length=0):iU us l=[]:=ak h
def ord_e {l:List Int}(h:¬l.length=0):iU us l=p8 us l us.length:=ai h
def Xa {o:List Int}{p:Int}(h:j<o.length):(oK (λk=>decide (o[k]! =p)) 0 j ||decide (o[j]! =p))=oK (λk=>decide (o[k]! =p)) 0 (j+1):=by
 rw[Bool.eq_iff_iff,dF,wN,wN];constructor
 .rintro(⟨i,h1,h2,h3⟩|h1)
  .exact⟨i,h1,ae,h3⟩
  .exact⟨j,ae,ae,h1⟩
 .rintro⟨i,h1,h2,h3⟩;rcases dZ i j with h4|h4
  .exact .inl ⟨i,h1,h4,h3⟩
  .obtain rfl:i=j:=ae;exact .inr h3
def Ma {n:Nat}{k:Int}:∀i,(kE n k i).length<=i
 |0=>aN _
 |i+1=>by
  have:=Ma (n:=n) (k:=k) i;rw[kE];split
  .omega
  .rw[cu,List.length_singleton];omega
def aj0 {i:Nat}{k:Int}(h:TI (kE n k i) (E2 n k i)=false):kE n k i++[E2 n k i]=kE n k (i+1):=by rw[kE,ai jc]
def ajZ {i:Nat}{k:Int}(h:TI (kE n k i) (E2 n k i)=true):kE n k i=kE n k (i+1):=by rw[kE,ak h]
def ZE {a b:Int}(ha:0<=a):a.tmod b=a%b:=Int.tmod_eq_emod_of_nonneg ha
def aj3 {i:Nat}{k:Int}(hi:i<=16):0<=(i:Int)*(1+k%3)/\(i:Int)*(1+k%3)<=48:=by
 have h1:=Int.emod_nonneg k (show(3:Int)≠0 by decide);have h2:=Int.emod_lt_of_pos k (show(0:Int)<3 by decide);exact⟨Int.mul_nonneg ae ae,Int.le_trans (Int.mul_le_mul (show(i:Int)<=16 by omega) (show 1+k%3<=3 by omega) ae ae) aU⟩
def acV (l k:Nat)(es:List Abs.D)(o:List (List Int)):lu l k es (o.map jS)=o.map jS:=jM l k es _ (bQ (λ_=>rfl) _)
def G7 (l k:Nat)(es:List Abs.D)(w:bR):iz l k es (bR.D w)=bR.D w:=rfl
def Np (o:List Int)(n:Nat):∀i,(cK o n i).length<=o.length+i
 |0=>aN _
 |i+1=>by
  have:=Np o n i;rw[cK];split
  .omega
  .rw[cu,List.length_singleton];omega
def ak8 {o:List Int}{t:Nat}(h:TI (cK o n t) ((n:Int) -1-(t:Int))=false):cK o n t++[((n:Nat):Int) -1-((t:Nat):Int)]=cK o n (t+1):=by rw[cK,ai jc]
def ak7 {o:List Int}{t:Nat}(h:TI (cK o n t) ((n:Int) -1-(t:Int))=true):cK o n t=cK o n (t+1):=by rw[cK,ak h]
def aj2 {u:Int}(h:u<(od.length:Int)):cV od u=od[u.toNat]! :=ak h
def aj1 {u:Int}(h:¬u<(od.length:Int)):cV od u=[]:=ai h
def vX {m:kn}{b:Bool}(hm:wJ m)(hO:yH m od)(hc:KA m c)(h:nlB (O2 (mH m od c)) b):(b=true->mH m od c=none)/\(b=false->∃d,mH m od c=some d):=by
 cases e:mH m od c with
 |none=>rw[e]at h;exact⟨λ_=>rfl,λhb=>by rw[hb]at h;cases h⟩
 |some d=>
  have h2:=(mG hm hO _ _ hc e).2.1;have h3:=hm.1.1;refine⟨λhb=>?_,λ_=>⟨d,rfl⟩⟩;rw[e]at h;have h4:d.map (D.int .i64)=[]:=h hb;have h5:=aw List.length h4;simp only[aZ,b8]at h5;omega
def XX {x:Want}(hs:∀x∈w.us,x.cands.length<=16)(hc:ChP w.us c)(h0:0<=x.u)(h1:x.u<(w.us.length:Int)):Tc w.us (Ab c) x↔kV w c x=true:=by
 obtain⟨u,hu⟩:∃u:Nat,x.u=((u:Nat):Int):=⟨x.u.toNat,ae⟩
 have hul:u<w.us.length:=ae;have hcu:=hc.2 u hul;unfold Tc kV Ab;rw[V9 hu hul hs,hu,Int.toNat_natCast];simp only[aC,aV];constructor
 .rintro⟨⟨h2,h3⟩,h4⟩;have e:(c[u]! +1).toNat-1=c[u]!.toNat:=ae;rw[e]at h4;exact⟨ae,h4⟩
 .rintro⟨h2,h3⟩;have e:(c[u]! +1).toNat-1=c[u]!.toNat:=ae;rw[e];exact⟨⟨ae,ae⟩,h3⟩
def VH (hw:eE w=true):InW w:=by
 intro u hu c hc;obtain⟨i,hi,rfl⟩:=gu hu;obtain⟨k,hk,rfl⟩:=gu hc;exact Ei hw hi hk
def Ck (hw:eE w=true)(hs:∀x∈w.us,x.cands.length<=16)(hc:ChP w.us c)(h:Cj (dz w.us) c=true):(en w c=true/\jf w c=[])/\0<=c[0]! :=by
 have hS:=akW hw hs hc h;have hI:=VH hw;have hm:en w c=true:=by
  unfold en sn;rw[hw,eu,aC,aV,bD];refine⟨hc.1,λj _ hj=>?_⟩;have:=hc.2 j (by rw[<-hc.1];exact hj);unfold yU;rw[aC,aV,aV];exact this
 refine⟨⟨hm,(BT hm).2 λu hu h0=>?_⟩, ?_⟩
 .have hul:u<w.us.length:=by rw[<-hc.1];exact hu
  have hcu:=hc.2 u hul;have hk:Ab c u≠0:=by unfold Ab;omega
  have e:Ab c u-1=c[u]!.toNat:=by unfold Ab;omega
  obtain⟨_,_,_,g1,g2,_⟩:=hS;have g1:=g1 u hul hk;have g2:=g2 u hul hk;rw[e]at g1 g2;have hmem:aX w c u∈w.us[u]!.cands:=aq ae;obtain⟨hI1,hI2⟩:=hI _ (aq hul) _ hmem;refine⟨λk hk=>?_,λk hk=>?_⟩
  .obtain⟨x,hx,hmx⟩:=g1 _ (aq hk);have:=hI1 _ (aq hk) x hx;exact List.any_eq_true.2 ⟨x,hx,(XX hs hc this.1 this.2).1 hmx⟩
  .have hx:=aq hk;have:=hI2 _ hx;cases hq:kV w c (aX w c u).bars[k]! with
   |false=>rfl
   |true=>exact absurd ((XX hs hc this.1 this.2).2 hq) (g2 _ hx)
 .unfold Cj at h;rw[aC,aV]at h;exact h.1
section
variable {m:hR}{shop:List bM}{e:Env}{os:List Int}
abbrev ew (m:hR)(shop:List bM)(e:Env):bR×Int:=gV [m] shop e []
abbrev IB (m:hR)(shop:List bM)(e:Env):cF:=yv [m] shop e []
def DV (h:¬(ew m shop e).2=0\/5000<Dd (ew m shop e).1.us):aF m shop e os=((ew m shop e).1,[],false):=ak h
def DW (h:(ew m shop e).2=0/\¬5000<Dd (ew m shop e).1.us)(hn:kN (ew m shop e).1.us (iU (ew m shop e).1.us os)=none):aF m shop e os=((ew m shop e).1,[],false):=by
 unfold aF;rw[ai (by rintro(h1|h1);exact h1 h.1;exact h.2 h1),hn]
def DX (h:(ew m shop e).2=0/\¬5000<Dd (ew m shop e).1.us)(hn:kN (ew m shop e).1.us (iU (ew m shop e).1.us os)=some c):aF m shop e os=((ew m shop e).1,rL (ew m shop e).1 c,true):=by
 unfold aF;rw[ai (by rintro(h1|h1);exact h1 h.1;exact h.2 h1),hn]
def pK (hy:qy (IB m shop e))(h:(ew m shop e).2=0):KE (ew m shop e).1/\eE (ew m shop e).1=true:=by
 unfold ew gV at*
 split at h
 .cases h
 .split at h
  .cases h
  .split at h
   .cases h
   .rename_i h3;have h4:(ez (IB m shop e)).2=true:=by simpa using h3
    rw[ai mc,ai mc,ai h3];obtain⟨_,_,_,_,h5⟩:=sZ hy.p h4;exact⟨h5,Ej hy h4⟩
def TB (hy:qy (IB m shop e))(h:(ew m shop e).2=0)(os:List Int):((((ew m shop e).1.sm/\(ew m shop e).1.us.length<=1000)/\Few (ew m shop e).1.us)/\eE (ew m shop e).1=true)/\yH (dz (ew m shop e).1.us) (iU (ew m shop e).1.us os):=by
 obtain⟨h1,h2⟩:=pK hy h;have:=h1.len;exact⟨⟨⟨⟨h1.sm,ae⟩,h1.few⟩,h2⟩,p9 os⟩
def TA (hy:qy (IB m shop e))(h:(ew m shop e).2=0)(hn:kN (ew m shop e).1.us (iU (ew m shop e).1.us os)=some c):c.length<=1000:=by
 obtain⟨h1,h2⟩:=pK hy h;have h3:=(mG h1.msk (p9 os) _ _ (sE _) hn).2.1;have h4:=h1.msk.1;omega
def Li (hy:qy (IB m shop e))(h:(ew m shop e).2=0){b:Bool}(hb:nlB (O2 (kN (ew m shop e).1.us (iU (ew m shop e).1.us os))) b):(b=true->kN (ew m shop e).1.us (iU (ew m shop e).1.us os)=none)/\(b=false->∃d,kN (ew m shop e).1.us (iU (ew m shop e).1.us os)=some d):=
 vX (pK hy h).1.msk (p9 os) (sE _) hb
end
section
variable {shop:List bM}{e:Env}{u:Nat}{x:eA}
def OfP (shop:List bM)(w:bR)(c:List Int):Prop:=jl shop/\w.sm/\0<=c[0]!
def of_a (h:((eE w=false\/eS shop=false)\/n6 e=false)\/en w c=false):jO shop e w c=(Hk,1):=ak h
def of_b (h:((eE w=true/\eS shop=true)/\n6 e=true)/\en w c=true)(h2:en w c=false\/¬(jf w c).length=0):jO shop e w c=(Hk,37):=by
 unfold jO;rw[ai gv,ak (h2.resolve_left (by simp[h.2]))]
def of_x (h:((eE w=true/\eS shop=true)/\n6 e=true)/\en w c=true)(h2:en w c=true/\(jf w c).length=0):jO shop e w c=if ¬(iW shop w c).2=0 then(Hk,(iW shop w c).2)else(⟨e,(iW shop w c).1⟩,0):=by
 unfold jO;rw[ai gv,ai (λh3=>h3 h2.2)]
def of_c (h:((eE w=true/\eS shop=true)/\n6 e=true)/\en w c=true)(h2:en w c=true/\(jf w c).length=0)(h0:(dX shop w.us c u).2=0)(hs:gP w.us c u=false)(hu:u<w.us.length)(k:Int)(hk:¬k=0)(hl:(fo shop w.us c u (fO w.us c u)).2=k):jO shop e w c=(Hk,k):=by
 have h3:=TY h0 hs rfl (by rw[hl];exact hk);rw[hl]at h3;have h4:iW shop w c=([],k):=(FD (i:=u+1) (by rw[h3];exact hk) ae).trans h3;rw[of_x h h2,h4,ak hk]
def of_d (h:((eE w=true/\eS shop=true)/\n6 e=true)/\en w c=true)(h2:en w c=true/\(jf w c).length=0)(h0:(iW shop w c).2=0):jO shop e w c=(⟨e,(iW shop w c).1⟩,0):=by
 rw[of_x h h2,ai (λh=>h h0)]
def ajk (h:x.sh=-1):fo shop w.us c u x=(⟨w.us[u]!.name,x.v,[],0,mg w.us c u⟩,0):=ak h
def ajl (h:¬x.sh=-1)(h2:x.sh<0\/(shop.length:Int)<=x.sh):(fo shop w.us c u x).2=12:=by unfold fo;rw[ai h,ak h2]
def ajm (h:¬x.sh=-1)(h2:¬x.sh<0/\¬(shop.length:Int)<=x.sh)(h3:(oM shop[x.sh.toNat]! w.us[u]!.name x.v).2=false):(fo shop w.us c u x).2=9:=by
 unfold fo oM at*
 rw[ai h,ai ae];split at h3
 .rename_i h4;rw[ak h4]
 .cases h3
def ajn (h:¬x.sh=-1)(h2:¬x.sh<0/\¬(shop.length:Int)<=x.sh)(h3:(oM shop[x.sh.toNat]! w.us[u]!.name x.v).2=true):fo shop w.us c u x=(⟨w.us[u]!.name,x.v,shop[x.sh.toNat]!.name,(oM shop[x.sh.toNat]! w.us[u]!.name x.v).1.sum,mg w.us c u⟩,0):=by
 unfold fo oM at*
 rw[ai h,ai ae];split at h3
 .cases h3
 .rename_i h4;rw[ai h4,ai h4]
end
def Ru (us:List cJ)(c:List Int):dX shop us c 1=([],0):=by
 rw[dX];show(if((([],0):List dr×Int).2≠0)then _ else _)=_;rw[ai (λh=>h rfl),ak (by unfold gP;simp)];rfl
def ajp (l k:Nat)(es:List Abs.D)(x:dr):iz l k es (dr.D x)=dr.D x:=rfl
def acW (l k:Nat)(es:List Abs.D)(o:List dr):lu l k es (o.map dr.D)=o.map dr.D:=jM l k es _ (bQ (λ_=>rfl) _)
def NT (r:Rec):Prop:=r.v∈bJ/\∀n∈r.needs,∀w∈n.any,∀f∈w.feats,f=fW
def GenS (l:List bM):=∀s∈l,∀x∈s.es,NT x.r
def abS (g:Gs)(own:au):∀w∈(ib g own).1,∀f∈w.feats,f=fW:=by
 unfold ib;split
 .intro w hw;simp only[bL,cY,or_false]at hw;rcases hw with rfl|rfl<;>intro f hf<;>cases hf
 .split
  .intro w hw f hf;rw[aD.1 hw]at hf;exact aD.1 hf
  .intro w hw f hf;rw[aD.1 hw]at hf;cases hf
def X1 (own:au)(g:Gs):∀i,∀n∈(nS own g i).1,∀w∈n.any,∀f∈w.feats,f=fW
 |0=>λ_ h=>by cases h
 |i+1=>λn h=>by
  rcases List.mem_append.1 h with h|h
  .exact X1 own g i n h
  .rw[aD.1 h];exact abS _ _
def Se (g:Gs)(nm:au){v:ca}(hv:v∈bJ)(most:Int):NT (py g nm v most).1:=⟨hv,X1 nm g.aS _⟩
section
variable {P:Rec->Prop}
def ZQ {p:bM×Int}(h:∀s∈l,∀x∈s.es,P x.r)(hp:∀x∈p.1.es,P x.r):∀s∈q9 l k p,∀x∈s.es,P x.r:=by
 unfold q9;split
 .intro s hs;rcases List.mem_or_eq_of_mem_set hs with h1|rfl
  .exact h s h1
  .exact hp
 .exact h
def alk {s:bM}{nm:au}{v:ca}{on:Bool}(h:∀x∈s.es,P x.r):∀x∈(oH s nm v on).1.es,P x.r:=by
 unfold oH;split
 .intro x hx;cases hx
 .split
  .intro x hx;cases hx
  .rename_i h2;obtain⟨j,hj,hjl⟩:=(BL (l:=s.es) (nm:=nm) (v:=v)).resolve_left ae;rw[hj,Int.toNat_natCast];intro x hx;rcases List.mem_or_eq_of_mem_set hx with h1|rfl
   .exact h x h1
   .exact h s.es[j]! (aq hjl)
def put_P {s:bM}(h:∀x∈s.es,P x.r)(hr:P r):∀x∈(kX s r).1.es,P x.r:=by
 unfold kX;split
 .intro x hx;cases hx
 .split
  .intro x hx;cases hx
  .split
   .intro x hx;cases hx
   .split
    .intro x hx;cases hx
    .intro x hx;rcases List.mem_append.1 hx with h1|h1
     .exact h x h1
     .rw[aD.1 h1];exact hr
def afc (h:∀s∈l,∀x∈s.es,P x.r)(k:Nat):∀x∈l[k]!.es,P x.r:=oa (P:=λs:bM=>∀x∈s.es,P x.r) (λ_ h=>cj) h k
def pub_P {g:Gs}(h:∀s∈l,∀x∈s.es,P x.r)(hr:∀h nm v,v∈bJ->nm∈cI->P (py h nm v 2).1):∀s∈(lR g l).1,∀x∈s.es,P x.r:=by
 have r4:=g.aS.eQ 4 ae;have r5:=g.aS.aS.eQ 4 ae;by_cases h1:g.aS.aS.aS.val 6=0
 .rw[show lR g l=(q9 l (kG g l) (Vj g l),g.aS.aS.aS.aS.aS)from ak h1];exact ZQ h (alk (afc h _))
 .rw[show lR g l=(q9 l (kG g l) (Vh g l),(rcG g).2)from ai h1];exact ZQ h (put_P (afc h _) (hr _ _ _ (aq (by simp only[bJ,bE,b8];omega)) (C2 ae)))
def pS_P {g:Gs}(hr:∀h nm v,v∈bJ->nm∈cI->P (py h nm v 2).1):∀i,∀s∈(pS g i).1,∀x∈s.es,P x.r
 |0=>λs hs=>by
  simp only[pS,Nc,bL,cY,or_false]at hs;rcases hs with rfl|rfl<;>intro x hx<;>cases hx
 |i+1=>by rw[pS];exact pub_P (pS_P hr i) hr
end
def ZW (most:Int):GenS (bh ks most):=pS_P (λh nm v hv _=>Se h nm hv 2) _
def W8 (h:GenS l):VU l:=λs hs x hx=>(h s hs x hx).1
def aau:(bH ks).r.v=bJ[0]! :=by
 unfold bH;split
 .rfl
 .rfl
def aat:NT (bH ks).r:=by
 unfold bH;split
 .exact Se _ GN aU 3
 .exact⟨aU,λn hn=>by cases hn⟩
def LM (h:qy y)(nm:au):∀x∈dL y nm,x.r.name=nm/\(x.sh=-1\/∃j i:Nat,x.sh=(j:Int)/\j<y.shop.length/\i<y.shop[j]!.es.length/\x.r=y.shop[j]!.es[i]!.r/\ic y.shop[j]! =true):=by
 unfold dL;split
 .rename_i h0;intro x hx;rw[aD.1 hx];refine⟨?_,.inl rfl⟩;rcases e7 (f:=isM nm) (l:=y.l) (k:=0)with⟨h1,_⟩|⟨j,h1,h2,h3,_⟩
  .have:lQ y.l nm=-1:=h1;omega
  .have e:lQ y.l nm=((0+j:Nat):Int):=h1;rw[e,Int.toNat_natCast,bX];simpa[isM]using h3
 .split
  .intro x hx;cases hx
  .rename_i h1;have h1:(cO y.shop y.pins nm).2.2=0:=Classical.not_not.1 h1;have h2:(gy y.shop y.pins nm).2=0:=by
    unfold cO at h1;split at h1
    .rename_i h3;exact absurd h1 h3
    .rename_i h3;exact Classical.not_not.1 h3
   obtain⟨hB,j,hj,hjl⟩:=pQ h2;have e1:cO y.shop y.pins nm=((j:Int),ku y.shop[j]! nm,0):=by
    unfold cO;rw[ai (λh=>h h2),hj,Int.toNat_natCast]
   rw[e1];simp only[Int.toNat_natCast];have hs:=Ik hB hjl;have e2:ku y.shop[j]! nm=eI y.shop[j]!.es nm y.shop[j]!.es.length:=by unfold ku;rw[hs,ai aB]
   intro x hx;obtain⟨⟨i,hi,e⟩,hsh⟩:=(pY (y:=y) (nm:=nm) (a:=j) _).2 x hx;have hr:=(sx y.shop[j]! nm).2 i hi;have hn:=(vU hs (h.v _ (aq hjl)) nm _ (aN _)).2 i (by rw[<-e2];exact hi);exact⟨by rw[e,hn],.inr ⟨j,i.toNat,hsh,hjl,ae,e,hs⟩⟩
def FeK (k:Key):Prop:=k.f=[]\/k.f=lv\/k.f=fW
def Td (k:Key):Prop:=dn k.n=true/\FeK k
structure GM (y:cF):Prop where
 p:qy y
 g:GenS y.shop
 gm:∀m∈y.l,NT m.r
def XQ (h:GM y)(nm:au):∀x∈dL y nm,NT x.r:=by
 intro x hx;rcases(LM h.p nm x hx).2 with hs|⟨j,i,_,hj,hi,e,_⟩
 ·
  unfold dL at hx;split at hx
  .rename_i h0;rw[aD.1 hx];obtain⟨j,hj,hjl⟩:=(qT y.l nm).resolve_left ae;rw[hj,Int.toNat_natCast];exact h.gm _ (aq hjl)
  .split at hx
   .cases hx
   .have h5:=(pY (y:=y) (nm:=nm) (a:=(cO y.shop y.pins nm).1.toNat) _).2 x hx;rw[h5.2]at hs;exact absurd hs ae
 .rw[e];exact h.g _ (aq hj) _ (aq hi)
def AW (P:Key->Prop)(l:List fV):=∀row∈l,∀a∈row,P a.k
def M1 {a b:List fV}(h1:AW P a)(h2:AW P b):AW P (a++b):=λr hr=>(List.mem_append.1 hr).elim (h1 r) (h2 r)
def DN:AW P []:=λr hr=>by cases hr
def tE {α:Type}{f:α->List fV}{l:List α}(h:∀x∈l,AW P (f x)):AW P (l.flatMap f):=λr hr=>by
 obtain⟨x,hx,hr⟩:=List.mem_flatMap.1 hr;exact h x hx r hr
def M3 {k:Key}{s:cA}(h:P k):AW P [[⟨k,s⟩]]:=λr hr b hb=>by
 rw[aD.1 hr]at hb;rw[aD.1 hb];exact h
def Nu {w:di}(hn:dn w.name=true)(hf:∀f∈w.feats,f=fW):∀k∈fh w,Td k:=by
 intro k hk;refine⟨by rw[Eb w k hk];exact hn, ?_⟩;unfold fh at hk;rcases List.mem_append.1 hk with h|h
 .split at h
  .split at h
   .rw[aD.1 h];exact .inl rfl
   .cases h
  .rw[aD.1 h];exact .inr (.inl rfl)
 .obtain⟨f,hf2,rfl⟩:=cg.1 h;exact .inr (.inr (hf f hf2))
def Sk {n:bw}(hN:wK n)(hn:∀w∈n.any,dn w.name=true)(hf:∀w∈n.any,∀f∈w.feats,f=fW):AW Td (iM n):=by
 unfold iM;split
 .intro r hr a ha;obtain⟨k,hk,rfl⟩:=cg.1 hr;rw[aD.1 ha];have h0:=aq hN.1.1;exact Nu (hn _ h0) (hf _ h0) k hk
 .intro r hr a ha;rw[aD.1 hr]at ha;obtain⟨w,hw,rfl⟩:=cg.1 ha;exact Nu (hn w hw) (hf w hw) _ (aq (oE w).1)
def ajd {s:au}(h:rC s):(bP s).1=2\/((bP s).1=3/\(bP s).2.2=fW):=by
 have:∀s∈TR,(bP s).1=2\/((bP s).1=3/\(bP s).2.2=fW):=by decide+kernel
 exact this s h
def Yt (h:B0 r)(hg:NT r)(e:Env)(o:au):AW Td (qS r.needs e o):=tE λn hn=>by
 unfold Ba;split
 .exact Sk ((gH h).2 n hn) (qd h n hn) (hg.2 n hn)
 .exact DN
def X7 (h:B0 r)(hg:NT r)(e:Env)(ft:au):AW Td (cQ r e ft):=by
 unfold cQ;split
 .exact Yt h hg e []
 .refine M1 (M3 ⟨h.1.1.1,.inl rfl⟩) (tE λs hs=>?_);have hi:=ajd ((xG h ft).2 s hs);unfold mr;rw[ai (by rcases hi with h|h<;>omega)];split
  .exact Yt h hg e _
  .rename_i h2;obtain⟨_,h3⟩:=hi.resolve_left h2;refine tE λn hn=>?_
   unfold rD;split
   .rename_i hc;have hN:=(gH h).2 n hn;refine M1 ?_ (M3 ⟨?_,.inr (.inr h3)⟩)
    .split
     .exact DN
     .exact Sk hN (qd h n hn) (hg.2 n hn)
    .show dn (bP s).2.1=true;rw[<-hc.1.2];exact qd h n hn _ (aq hN.1.1)
   .exact DN
def aed (hy:GM y)(k:Key):AW Td (de y k):=by
 unfold de;split
 .obtain⟨⟨⟨m,hm,hM⟩,_⟩,_⟩:=hy.p.p;intro r hr a ha;rw[hm]at hr;rw[aD.1 hr]at ha;rw[aD.1 ha];exact⟨(BC hM).1.1.1,.inr (.inl rfl)⟩
 .exact tE λx hx=>X7 ((xI hy.p.p k).2 x hx).1 (XQ hy k.n x (List.mem_filter.1 hx).1) y.e k.f
def HV {y:cF}(hy:GM y):∀(n:Nat){s:pd}{all:List Key},(∀k∈s.all,k=fL\/Td k)->Be y n s=some all->∀k∈all,k=fL\/Td k
 |0,s,all,_,h=>by cases h
 |n+1,s,all,hI,h=>by
  rw[Be]at h;split at h
  .obtain rfl:=a7 h;exact hI
  .split at h
   .cases h
   .refine HV hy n (λk hk=>?_) h;have hm:∀(row:fV) (s:pd),(∀a∈row,Td a.k)->(∀k∈s.all,k=fL\/Td k)->∀k∈(row.foldl mC s).all,k=fL\/Td k:=by
     intro row;induction row with
     |nil=>intro s _ h;exact h
     |cons b r ih=>
      intro s hn h;refine ih _ (λa ha=>hn a (.tail _ ha)) λk hk=>?_
      rcases((HT s b).1 k).1 hk with h1|rfl
      .exact h k h1
      .exact .inr (hn b (.head _))
    have hm2:∀(l:List fV) (s:pd),AW Td l->(∀k∈s.all,k=fL\/Td k)->∀k∈(Ph s l).all,k=fL\/Td k:=by
     intro l;induction l with
     |nil=>intro s _ h;exact h
     |cons b r ih=>
      intro s hn h;exact ih _ (λrow hr=>hn row (.tail _ hr)) (hm b s (hn b (.head _)) h)
    exact hm2 (de y s.todo[0]!) ⟨s.all,s.todo.drop 1⟩ (aed hy _) hI k hk
def BZ (c:List Int)(is:List Bool):Prop:=is.length=c.length/\∀j:Nat,is[j]! =true->0<=c[j]!
def So (is:List Bool)(i j:Nat)(b:Bool)(h:(is.set i b)[j]! =true):(i=j/\b=true)\/is[j]! =true:=by
 by_cases e:i=j
 .subst e;rcases dZ i is.length with h1|h1
  .rw[List.getElem!_eq_getElem?_getD,List.getElem?_set_self h1]at h;exact .inl ⟨rfl,rp⟩
  .rw[List.set_eq_of_length_le h1]at h;exact .inr h
 .rw[List.getElem!_eq_getElem?_getD,List.getElem?_set_ne e,<-List.getElem!_eq_getElem?_getD]at h;exact .inr h
section
variable {is:List Bool}
def X5 (w:bR)(c:List Int)(is:List Bool)(x:Want):List Bool:=is.set x.u.toNat (is[x.u.toNat]! ||kV w c x)
def adC (x:Want)(h:BZ c is):BZ c (X5 w c is x):=by
 refine⟨by unfold X5;rw[List.length_set];exact h.1,λj hj=>?_⟩;rcases So _ _ _ _ hj with⟨rfl,h1⟩|h1
 .rcases Bool.or_eq_true_iff.1 h1 with h2|h2
  .exact h.2 _ h2
  .unfold kV at h2;simp only[aC,aV]at h2;exact h2.1
 .exact h.2 _ h1
def Hx:∀(l:List Want){is:List Bool},BZ c is->BZ c (vW w c is l)
 |[],_,h=>h
 |x::r,_,h=>Hx r (adC x h)
def Hv:∀(l:List nX){is:List Bool},BZ c is->BZ c (xB w c is l)
 |[],_,h=>h
 |x::r,_,h=>Hv r (Hx x h)
def BD:∀(n:Nat){is:List Bool},BZ c is->BZ c (jd w c n is)
 |0,_,h=>h
 |n+1,_,h=>by
  rw[jd];unfold Hw;split
  .exact Hv _ (BD n h)
  .exact BD n h
def RF:∀(n:Nat){is:List Bool},BZ c is->BZ c (j8 w c n is)
 |0,_,h=>h
 |n+1,_,h=>BD _ (RF n h)
def adA:BZ c (mS c):=by
 refine⟨by simp[mS],λj hj=>?_⟩;rcases So _ _ _ _ hj with⟨rfl,h1⟩|h1
 .simpa using h1
 .exfalso;rcases dZ j c.length with h2|h2<;>simp[List.getElem!_eq_getElem?_getD,h2]at h1
def ajC {l:List Want}{q:Nat}(h:q<l.length):vW w c is (l.take (q+1))=X5 w c (vW w c is (l.take q)) l[q]! :=by
 rw[List.take_add_one,List.getElem?_eq_getElem h,getElem!_pos l q h];simp only[vW,Option.toList_some,List.foldl_append,List.foldl_cons,List.foldl_nil,X5]
def ajB {l:List nX}(h:k<l.length):xB w c is (l.take (k+1))=vW w c (xB w c is (l.take k)) l[k]! :=by
 rw[List.take_add_one,List.getElem?_eq_getElem h,getElem!_pos l k h];simp only[xB,Option.toList_some,List.foldl_append,List.foldl_cons,List.foldl_nil]
def ajA (h:(jd w c j is)[j]! =true):jd w c (j+1) is=xB w c (jd w c j is) (aX w c j).needs:=by rw[jd];unfold Hw;rw[ak h]
def ajz (h:¬(jd w c j is)[j]! =true):jd w c (j+1) is=jd w c j is:=by rw[jd];unfold Hw;rw[ai h]
def afp {i:Nat}(h:i<is.length)(b:Bool):(is.map D.bool).set i (pA ((is.map D.bool).getD i .any) 1 1 0 (.bool b))=(is.set i b).map D.bool:=by
 rw[List.getD_eq_getElem?_getD,List.getElem?_map,List.getElem?_eq_getElem h,List.map_set];rfl
def adB (h:0<c.length):(List.replicate c.length (D.bool false)).set 0 (pA ((List.replicate c.length (D.bool false)).getD 0 .any) 1 1 0 (.bool (decide (0<=c[0]!))))=(mS c).map D.bool:=by
 have:=afp (is:=List.replicate c.length false) (i:=0) rp (decide (0<=c[0]!));rw[List.map_replicate]at this;exact this
def ajD (h:en w c=false):fw w c=[]:=ak h
def RH (h:en w c=true):fw w c=j8 w c c.length (mS c):=ai gv
end
def C0 (h:en w c=true):c.length=w.us.length/\(1<=c.length/\c.length<=48)/\∀i,i<c.length->-1<=c[i]! /\c[i]! <(w.us[i]!.cands.length:Int):=by
 have h2:=h;simp only[en,aC]at h2;obtain⟨h3,h4⟩:=nw h2.2;exact⟨h3,OS h,h4⟩
def aiw (n:Int):lz (bV n):=by
 have h:=c9 n 3 aU;unfold lz bV;obtain⟨i,hi⟩:∃i:Nat,(bo n 3).toNat=i:=⟨_,rfl⟩
 rw[hi];have:i=0\/i=1\/i=2:=ae;rcases this with rfl|rfl|rfl<;>decide
def aeD (ks ss:List Int)(most n:Int):GM (IB (bH ks) (bh ss most) (bV n)):=by
 have hg:=ZW ss most;have hy:=aas ks;refine⟨⟨⟨⟨hy,Nf _ _⟩,aB,(λk hk=>by cases hk), ?_⟩,W8 hg,λm hm=>?_⟩,hg,λm hm=>?_⟩
 .have:=(tN hy (i:=0) aB).2.2.1;have h2:(gN [bH ks]).length<=1:=this;show(gN [bH ks]).length<=1000;omega
 .rw[aD.1 hm,aau];decide
 .rw[aD.1 hm];exact aat ks
def NmS (l:List bM):=∀s∈l,s.name.length<=16
def ZS {s:bM}(h:NmS l)(hs:s.name.length<=16):NmS (l.set k s):=λx hx=>by
 rcases List.mem_or_eq_of_mem_set hx with h1|rfl
 .exact h x h1
 .exact hs
def Ot (h:NmS l)(k:Nat):l[k]!.name.length<=16:=oa (P:=λs:bM=>s.name.length<=16) aU h k
def akh {g:Gs}(h:NmS l):NmS (lR g l).1:=by
 by_cases h1:g.aS.aS.aS.val 6=0
 .by_cases h2:(Vj g l).2=0
  .rw[YM h1 h2];refine ZS h ?_;have:=Ot h (kG g l);unfold Vj oH;split
   .exact Nat.zero_le _
   .split
    .exact Nat.zero_le _
    .exact this
  .rw[YN h1 h2];exact h
 .by_cases h2:(Vh g l).2=0
  .rw[YO h1 h2];refine ZS h ?_;have:=Ot h (kG g l);unfold Vh kX;split
   .exact Nat.zero_le _
   .split
    .exact Nat.zero_le _
    .split
     .exact Nat.zero_le _
     .split
      .exact Nat.zero_le _
      .exact this
  .rw[YP h1 h2];exact h
def afx (g:Gs):∀i,NmS (pS g i).1
 |0=>by
  intro s hs;simp only[pS,Nc,bL,cY,or_false]at hs;rcases hs with rfl|rfl<;>decide
 |i+1=>akh (afx g i)
def aen (ss:List Int)(most:Int):NmS (bh ss most):=afx _ _
def NmU (w:bR):=∀u∈w.us,u.name.length<=16/\u.feat.length<=16
def adx {s:au}(h:dn s=true):s.length<=16:=by
 unfold dn at h;simp only[aC,aV]at h;exact h.1.1.1.2
def Wa (hy:GM y)(h:(ez y).2=true):NmU (ez y).1:=by
 obtain⟨all,h1,h2,_,_⟩:=sZ hy.p.p h;have hk:=HV hy 49 (s:=nG) (all:=all) (λk hk=>.inl (by simpa[nG]using hk)) h1;intro u hu;rw[h2]at hu;obtain⟨k,hk1,rfl⟩:=cg.1 hu;show k.n.length<=16/\k.f.length<=16;rcases hk k hk1 with rfl|⟨h3,h4⟩
 .decide
 .refine⟨adx h3, ?_⟩;rcases h4 with h4|h4|h4<;>rw[h4]<;>decide
structure KK (n:Nat)(x:dr):Prop where
 v:x.v.sm
 name:x.name.length<=16
 shelf:x.shelf.length<=16
 nf:x.feats.length<=n
 ft:∀t∈x.feats,t.length<=16
structure NU (n:Nat)(l:kD):Prop where
 len:l.lines.length<=48
 lines:∀x∈l.lines,KK n x
 env:∀i,(l.env.at i).length<=16
theorem NU.sm {l:kD}(h:NU n l)(hn:n<=1000):l.sm:=by
 refine⟨by have:=h.len;omega,λx hx=>?_,λi=>by have:=h.env i;omega⟩;have k:=h.lines x hx;have k3:=k.name;have k4:=k.shelf;have k5:=k.nf;exact⟨k.v,ae,ae,ae,λt ht=>by have:=k.ft t ht;omega⟩
def KK.mono {m:Nat}{x:dr}(h:KK n x)(hm:n<=m):KK m x:=⟨h.v,h.name,h.shelf,eR h.nf hm,h.ft⟩
section
variable {shop:List bM}{e:Env}
def Cf (hw:NmU w)(nm:au):∀i,i<=w.us.length->∀t∈fY w.us c nm i,t.length<=16
 |0,_=>λt ht=>by cases ht
 |i+1,hi=>by
  rw[fY];split
  .intro t ht;rcases List.mem_append.1 ht with h|h
   .exact Cf hw nm i ae t h
   .rw[aD.1 h];exact(hw _ (aq ae)).2
  .exact Cf hw nm i ae
def ajo (hs:NmS shop)(hm:w.sm)(hl:w.us.length<=48)(hw:NmU w){u:Nat}(hu:u<w.us.length)(h:(fo shop w.us c u (fO w.us c u)).2=0):KK 48 (fo shop w.us c u (fO w.us c u)).1:=by
 have hn:=(hw _ (aq hu)).1;have hf:(mg w.us c u).length<=48:=eR (vJ _ _) hl;have hft:∀t∈mg w.us c u,t.length<=16:=Cf hw _ _ (aN _)
 have hv:(fO w.us c u).v.sm:=oa (P:=λc:eA=>c.v.sm) ⟨aU,aU⟩ (λc hc=>((hm _ (aq hu)).2 c hc).1) _;unfold fo at*
 split at h
 .rename_i h1;rw[ak h1];exact⟨hv,hn,Nat.zero_le _,hf,hft⟩
 .rename_i h1;rw[ai h1];split at h
  .cases h
  .rename_i h2;rw[ai h2];split at h
   .cases h
   .rename_i h3;rw[ai h3];exact⟨hv,hn,Ot hs _,hf,hft⟩
def XM (hs:NmS shop)(hm:w.sm)(hl:w.us.length<=48)(hw:NmU w):∀i,i<=w.us.length->∀x∈(dX shop w.us c i).1,KK 48 x
 |0,_=>λx hx=>by cases hx
 |i+1,hi=>by
  have ih:=XM hs hm hl hw i ae;rw[dX];split
  .exact ih
  .split
   .exact ih
   .split
    .intro x hx;cases hx
    .rename_i h3;intro x hx;rcases List.mem_append.1 hx with h|h
     .exact ih x h
     .rw[aD.1 h];exact ajo hs hm hl hw ae (Classical.not_not.1 h3)
theorem of_w (hs:NmS shop)(hm:w.sm)(hl:w.us.length<=48)(hw:NmU w)(he:∀i,(e.at i).length<=16):NU 48 (jO shop e w c).1:=by
 have h0:NU 48 Hk:=⟨aU,(λx hx=>by cases hx),λi=>by unfold Hk Env.at;grind⟩;unfold jO;split
 .exact h0
 .split
  .exact h0
  .split
   .exact h0
   .exact⟨eR (yZ _) hl,XM hs hm hl hw _ (aN _),he⟩
def ahg {l:kD}(h:NU n l)(a b d:Int):NU (n+1) (hY l a b d):=by
 have hl:∀y∈l.lines,KK (n+1) y:=λy hy=>(h.lines y hy).mono ae
 have hlen:=h.len;have h7:∀t∈nm7,t.length<=16:=aU
 have h5:∀t∈sh5,t.length<=16:=aU
 have h3:∀t∈ft3,t.length<=16:=aU
 have h2:∀t∈bu3,t.length<=2:=aU
 have hset:∀(k:Nat) (x:dr),KK (n+1) x->NU (n+1) ⟨l.env,l.lines.set k x⟩:=λk x hx=>⟨by rw[List.length_set];exact hlen,λy hy=>by
  rcases List.mem_or_eq_of_mem_set hy with h1|rfl
  .exact hl y h1
  .exact hx,h.env⟩
 unfold hY;split
 .exact⟨hlen,hl,h.env⟩
 .rename_i hne;have hpos:0<l.lines.length:=List.length_pos_iff.2 hne;have hr:=c9 a l.lines.length ae;have hx0:=h.lines _ (aq (show(bo a l.lines.length).toNat<l.lines.length by omega));have hx:=hx0.mono (show n<=n+1 by omega);simp only;split
  .exact hset _ _ ⟨hx.v,oa (P:=λs:au=>s.length<=16) aU h7 _,hx.shelf,hx.nf,hx.ft⟩
  split
  .exact hset _ _ ⟨tK _,hx.name,hx.shelf,hx.nf,hx.ft⟩
  split
  .exact hset _ _ ⟨hx.v,hx.name,oa (P:=λs:au=>s.length<=16) aU h5 _,hx.nf,hx.ft⟩
  split
  .exact hset _ _ ⟨hx.v,hx.name,hx.shelf,hx.nf,hx.ft⟩
  split
  .refine hset _ _ ⟨hx.v,hx.name,hx.shelf,by have:=hx0.nf;simp only[cu,List.length_singleton];omega,λt ht=>?_⟩;rcases List.mem_append.1 ht with h1|h1
   .exact hx.ft t h1
   .rw[aD.1 h1];exact oa (P:=λs:au=>s.length<=16) aU h3 _
  split
  .have hb:(bu3[(bo d 3).toNat]!).length<=2:=oa (P:=λs:au=>s.length<=2) aU h2 _;exact hset _ _ ⟨⟨hx.v.1,eR hb aU⟩,hx.name,hx.shelf,hx.nf,hx.ft⟩
  split
  .refine⟨by simp only[cu,dQ,ix];omega,λy hy=>?_,h.env⟩;rcases List.mem_append.1 hy with h1|h1
   .exact hl y (zH h1)
   .exact hl y (List.mem_of_mem_drop h1)
  .exact⟨hlen,hl,λi=>Q9 _ i⟩
end
def U1 (h:en w c=true)(h0:0<=c[0]!):0<=(rL w c)[0]! :=by
 obtain⟨_,⟨h1,_⟩,_⟩:=C0 h;rw[tH h ae];have h2:(mS c)[0]! =true:=by
  unfold mS;rw[List.getElem!_eq_getElem?_getD,List.getElem?_set_self dR];simpa using h0
 have h3:=(BE (w:=w) (c:=c) c.length (mS c)).2 0 (by simp[mS];omega) h2;rw[RH h,ak h3];exact h0
section
variable {m:hR}{shop:List bM}{e:Env}{os:List Int}
def UU (hy:GM (IB m shop e))(h:(aF m shop e os).2.2=true):((aF m shop e os).1.sm/\(aF m shop e os).1.us.length<=48/\NmU (aF m shop e os).1)/\0<=(aF m shop e os).2.1[0]! :=by
 by_cases h0:(ew m shop e).2≠0\/5000<Dd (ew m shop e).1.us
 .rw[DV h0]at h;cases h
 .have h1:(ew m shop e).2=0/\¬5000<Dd (ew m shop e).1.us:=⟨Classical.not_not.1 λh2=>h0 (.inl h2),λh2=>h0 (.inr h2)⟩;cases hf:kN (ew m shop e).1.us (iU (ew m shop e).1.us os)with
  |none=>rw[DW h1 hf]at h;cases h
  |some c=>
   obtain⟨hb,hw⟩:=pK hy.p h1.1;have hc:=mG hb.msk (p9 os) _ _ (sE _) hf;have hs16:∀x∈(ew m shop e).1.us,x.cands.length<=16:=λx hx=>(hb.u x hx).1
   obtain⟨⟨g1,_⟩,g2⟩:=Ck hw hs16 (QZ hc.2) hc.1;rw[DX h1 hf];refine⟨⟨hb.sm,hb.len.2, ?_⟩,U1 g1 g2⟩;have h2:=h1.1;unfold ew gV at h2⊢;split at h2
   .cases h2
   .split at h2
    .cases h2
    .split at h2
     .cases h2
     .rename_i h3;rw[ai mc,ai mc,ai h3];exact Wa hy (by simpa using h3)
end
def Bd (c:List Int)(s:List Int)(Jq:List Nat):List Int:=Jq.foldl (λs j=>s.set j c[j]!) s
def Ml (c:List Int):∀(Jq:List Nat) (s:List Int),(Bd c s Jq).length=s.length
 |[],_=>rfl
 |j::Jq,s=>by rw[Bd,List.foldl_cons];exact(Ml c Jq _).trans (List.length_set ..)
def YY (c s:List Int)(Jq J':List Nat):Bd c s (Jq++J')=Bd c (Bd c s Jq) J':=List.foldl_append ..
theorem Mk (c:List Int):∀(Jq:List Nat) (s:List Int) (i:Nat),(∀j∈Jq,j<s.length)->(Bd c s Jq)[i]! =if i∈Jq then c[i]! else s[i]!
 |[],s,i,_=>by simp[Bd]
 |j::Jq,s,i,h=>by
  have ih:=Mk c Jq (s.set j c[j]!) i (λq hq=>by rw[List.length_set];exact h q (by simp[hq]));rw[Bd,List.foldl_cons];refine dm ih ?_;rw[DQ (h j aB)];simp only[bL]
  grind
def VO (us:List cJ)(c:List Int)(a b:au)(v:ca)(t:Bool):Prop:=0<=gw us a b/\mA us (gw us a b) v t=c[(gw us a b).toNat]! /\0<=c[(gw us a b).toNat]!
def Rg {us:List cJ}{c:List Int}{x:dr}:∀(l:List au) (s:List Int),(∀f∈l,VO us c x.name f x.v false)->vN us x l s=(0,Bd c s (l.map λf=>(gw us x.name f).toNat))
 |[],s,_=>rfl
 |f::r,s,h=>by
  obtain⟨h1,h2,h3⟩:=h f aB;rw[vN,ai ae,h2,Rg r _ (λg hg=>h g (by simp[hg]))];rfl
def Rt (us:List cJ)(x:dr):List Nat:=(gw us x.name []).toNat::x.feats.map λf=>(gw us x.name f).toNat
def VN (us:List cJ)(c:List Int)(x:dr):Prop:=VO us c x.name [] x.v true/\oC shop us[(gw us x.name []).toNat]!.cands[c[(gw us x.name []).toNat]!.toNat]! x=0/\∀f∈x.feats,VO us c x.name f x.v false
def ad2 {shop:List bM}{s:List Int}{x:dr}(h:VN shop us c x):mT shop us x s=(0,Bd c s (Rt us x)):=by
 obtain⟨⟨h1,h2,h3⟩,h4,h5⟩:=h;rw[mT,ai ae,h2,ai (by rw[h4];exact λh=>h rfl),Rg _ _ h5];rfl
def Rs {shop:List bM}{us:List cJ}{c:List Int}:∀(l:List dr) (s:List Int),(∀x∈l,VN shop us c x)->vT shop us l s=(Bd c s (l.flatMap (Rt us)),0,[])
 |[],s,_=>rfl
 |x::r,s,h=>by
  rw[vT,ad2 (h x aB),ai aB,Rs r _ (λy hy=>h y (by simp[hy]))];rw[List.flatMap_cons,YY]
def wA (hw:eE w=true){i:Nat}(h1:1<=i)(hi:i<w.us.length):gw w.us w.us[i]!.name w.us[i]!.feat=(i:Nat):=by
 have hd:∀q,(w.us.drop 1)[q]! =w.us[1+q]! :=λq=>by simp[List.getElem!_eq_getElem?_getD,Nat.add_comm]
 have hu:nE w.us[i]!.name w.us[i]!.feat w.us[i]! =true:=by simp[nE]
 unfold gw;rcases e7 (f:=nE w.us[i]!.name w.us[i]!.feat) (l:=w.us.drop 1) (k:=1)with⟨_,h2⟩|⟨j,h2,h3,h4,_⟩
 .have:=h2 (i-1) (by rw[ix];omega);rw[hd,show 1+(i-1)=i by omega,hu]at this;cases this
 .rw[ix]at h3;rw[hd]at h4;rw[h2];by_cases e:1+j=i
  .omega
  .rcases dZ (1+j) i with h5|h5
   .exact(tI hw ae h5 hi h4 hu).elim
   .exact(tI hw h1 ae ae hu h4).elim
def SF:∀a∈bJ,iL a a=0:=by decide+kernel
def acg (hw:eE w=true){i:Nat}(hi:i<w.us.length)(hk:k<w.us[i]!.cands.length)(h0:0<k):iL w.us[i]!.cands[k-1]!.v w.us[i]!.cands[k]!.v<0:=by
 simp only[eE,aC,bD,lF]at hw;have h1:=(hw.2 i (Nat.zero_le _) hi).2 k (Nat.zero_le _) hk;simp only[m6,aC,cG,er,cy]at h1;rcases h1.2 with h2|h2
 .exact absurd h0 h2
 .omega
def Q3 {w:bR}(hw:eE w=true){i:Nat}(hi:i<w.us.length)(hv:∀x∈w.us[i]!.cands,x.v∈bJ){j:Nat}:∀{k:Nat},j<k->k<w.us[i]!.cands.length->iL w.us[i]!.cands[j]!.v w.us[i]!.cands[k]!.v<0
 |0,h,_=>absurd h (Nat.not_lt_zero _)
 |k+1,h,hk=>by
  have h1:=acg hw hi hk ae;rw[Nat.add_sub_cancel]at h1;by_cases e:j=k
  .subst e;exact h1
  .exact SG _ (hv _ (aq ae)) _ (hv _ (aq ae)) _ (hv _ (aq hk)) (Q3 hw hi hv ae ae) h1
def adT (hw:eE w=true){i:Nat}{v:ca}(hi:i<w.us.length)(hv:∀x∈w.us[i]!.cands,x.v∈bJ)(hk:k<w.us[i]!.cands.length)(e:w.us[i]!.cands[k]!.v=v)(t:Bool):mA w.us (i:Nat) v t=(k:Nat):=by
 have hin:=hv _ (aq hk);rw[e]at hin;have hy:Vf v t w.us[i]!.cands[k]! =true:=by
  unfold Vf;rw[e];cases t<;>simp[SF v hin]
 unfold mA;rw[ai ae,Int.toNat_natCast];rcases e7 (f:=Vf v t) (l:=w.us[i]!.cands) (k:=0)with⟨_,h2⟩|⟨j,h2,h3,h4,h5⟩
 .rw[h2 k hk]at hy;cases hy
 .rw[h2];rcases Nat.lt_trichotomy j k with h6|h6|h6
  .have h7:=Q3 hw hi hv h6 hk;rw[e]at h7;unfold Vf at h4;cases t
   .simp only[cond_false,aV]at h4;omega
   .simp only[cond_true,aV]at h4;rw[h4,SF v hin]at h7;omega
  .subst h6;simp
  .rw[h5 k h6]at hy;cases hy
def pX {shop:List bM}{us:List cJ}{c:List Int}:∀n,(dX shop us c n).2=0->(dX shop us c n).1=((List.range n).filter λu=>!gP us c u).map (λu=>(fo shop us c u (fO us c u)).1)/\∀u,u<n->gP us c u=false->(fo shop us c u (fO us c u)).2=0
 |0,_=>⟨rfl,λu h=>absurd h (Nat.not_lt_zero _)⟩
 |n+1,h=>by
  rw[dX]at h⊢;split at h
  .rename_i h1;exact absurd h h1
  .rename_i h1;have h1':(dX shop us c n).2=0:=by simpa using h1
   obtain⟨i1,i2⟩:=pX n h1';rw[ai h1];split at h
   .rename_i h2;rw[ak h2,List.range_succ,List.filter_append,i1];refine⟨by simp[h2],λu hu hs=>?_⟩;by_cases e:u=n
    .subst e;rw[h2]at hs;cases hs
    .exact i2 u ae hs
   .rename_i h2;rw[ai h2];split at h
    .rename_i h3;exact absurd h h3
    .rename_i h3;rw[ai h3,List.range_succ,List.filter_append,i1];refine⟨by simp[h2],λu hu hs=>?_⟩;by_cases e:u=n
     .subst e;simpa using h3
     .exact i2 u ae hs
def nQ {us:List cJ}{c:List Int}{nm:au}:∀{n:Nat}{f:au},f∈fY us c nm n↔∃i,(0<i/\i<n)/\(us[i]!.name=nm/\us[i]!.feat=f/\f≠[])/\0<=c[i]!
 |0,f=>by simp[fY]
 |n+1,f=>by
  rw[fY];have ih:=nQ (us:=us) (c:=c) (nm:=nm) (n:=n) (f:=f);split
  .rename_i h;rw[List.mem_append,ih,aD];constructor
   .rintro(⟨i,h1,h2,h3⟩|rfl)
    .exact⟨i,⟨h1.1,ae⟩,h2,h3⟩
    .exact⟨n,⟨h.1,ae⟩,⟨h.2.1.1,rfl,h.2.1.2⟩,h.2.2⟩
   .rintro⟨i,h1,h2,h3⟩;by_cases e:i=n
    .subst e;exact .inr h2.2.1.symm
    .exact .inl ⟨i,⟨h1.1,ae⟩,h2,h3⟩
  .rename_i h;rw[ih];constructor
   .rintro⟨i,h1,h2,h3⟩;exact⟨i,⟨h1.1,ae⟩,h2,h3⟩
   .rintro⟨i,h1,h2,h3⟩;by_cases e:i=n
    .subst e;exact absurd ⟨h1.1,⟨h2.1,by rw[h2.2.1];exact h2.2.2⟩,h3⟩ h
    .exact⟨i,⟨h1.1,ae⟩,h2,h3⟩
structure yI (w:bR):Prop where
 val:eE w=true
 ver:∀i,1<=i->i<w.us.length->∀x∈w.us[i]!.cands,x.v∈bJ
 main:∀i,1<=i->i<w.us.length->w.us[i]!.feat≠[]->∀x∈w.us[i]!.cands,∃j,(1<=j/\j<w.us.length)/\(w.us[j]!.name=w.us[i]!.name/\w.us[j]!.feat=[])/\[(⟨(j:Nat),dJ x.v⟩:Want)]∈x.needs
def TK:∀a∈bJ,∀b∈bJ,pf (dJ a) b=true->b=a:=by decide+kernel
def qJ (h:en w c=true):c.length=w.us.length/\∀i,i<w.us.length->-1<=c[i]! /\c[i]! <(w.us[i]!.cands.length:Int):=by
 simp only[en,sn,aC,aV,bD,yU]at h;exact⟨h.2.1,λi hi=>h.2.2 i (Nat.zero_le _) ae⟩
def Rx (hq:yI w)(hm:en w c=true)(hh:jf w c=[]){i:Nat}(h1:1<=i)(hi:i<w.us.length)(hf:w.us[i]!.feat≠[])(hc:0<=c[i]!):
  ∃j,(1<=j/\j<w.us.length)/\(w.us[j]!.name=w.us[i]!.name/\w.us[j]!.feat=[])/\0<=c[j]! /\(fO w.us c j).v=(fO w.us c i).v:=by
 obtain⟨hl,hb⟩:=qJ hm;have hin:c[i]!.toNat<w.us[i]!.cands.length:=by have:=(hb i hi).2;omega
 obtain⟨j,hj,hn,hr⟩:=hq.main i h1 hi hf _ (aq hin);have hw:=((BT hm).1 hh i ae hc).1;obtain⟨k,hk,hke⟩:=List.getElem_of_mem hr;have hs:=hw k hk;have e:(aX w c i).needs[k]! =[(⟨(j:Nat),dJ w.us[i]!.cands[c[i]!.toNat]!.v⟩:Want)]:=by
  show w.us[i]!.cands[c[i]!.toNat]!.needs[k]! =_;rw[getElem!_pos _ k hk];exact hke
 rw[e]at hs;simp only[DY,List.any_cons,List.any_nil,Bool.or_false,kV,Int.toNat_natCast,aC,aV]at hs;refine⟨j,hj,hn,hs.1, ?_⟩;have hjn:c[j]!.toNat<w.us[j]!.cands.length:=by have:=(hb j hj.2).2;have:=hs.1;omega
 exact TK _ (hq.ver i h1 hi _ (aq hin)) _ (hq.ver j hj.1 hj.2 _ (aq hjn)) hs.2
def ZO (hq:yI w)(hm:en w c=true){i:Nat}(h1:1<=i)(hi:i<w.us.length)(hc:0<=c[i]!){v:ca}(e:(fO w.us c i).v=v)(t:Bool):VO w.us c w.us[i]!.name w.us[i]!.feat v t:=by
 obtain⟨hl,hb⟩:=qJ hm;have hin:c[i]!.toNat<w.us[i]!.cands.length:=by have:=(hb i hi).2;omega
 unfold VO;rw[wA hq.val h1 hi,Int.toNat_natCast];exact⟨ae,by rw[adT hq.val hi (hq.ver i h1 hi) hin e t];omega,hc⟩
def j7 {shop:List bM}{u:Nat}{x:eA}(h:(fo shop us c u x).2=0):(fo shop us c u x).1.name=us[u]!.name/\(fo shop us c u x).1.v=x.v/\(fo shop us c u x).1.feats=mg us c u/\oC shop x (fo shop us c u x).1=0:=by
 unfold fo at*
 split
 .rename_i h1;refine⟨rfl,rfl,rfl, ?_⟩;unfold oC;rw[ak h1,ai aB,ai aB]
 .rename_i h1;rw[ai h1]at h;split at h
  .cases h
  .rename_i h2;rw[ai h2];split at h
   .cases h
   .rename_i h3;rw[ai h3];refine⟨rfl,rfl,rfl, ?_⟩;unfold oC;rw[ai h1,ai (by simp only[ne_eq,not_true_eq_false,or_false];exact h2),ai (by simp only[ne_eq,not_true_eq_false,or_false];exact h3)]
def XK {shop:List bM}(hq:yI w)(hm:en w c=true)(hh:jf w c=[]){u:Nat}(hu:u<w.us.length)(hs:gP w.us c u=false)(h:(fo shop w.us c u (fO w.us c u)).2=0):VN shop w.us c (fo shop w.us c u (fO w.us c u)).1:=by
 obtain⟨e1,e2,e3,e4⟩:=j7 h;simp only[gP,eF,cy,dq,aV]at hs;obtain⟨⟨h0,hc⟩,hf⟩:=hs;have hu1:1<=u:=ae;have hc0:0<=c[u]! :=ae;have h1:=ZO hq hm hu1 hu hc0 (v:=(fO w.us c u).v) rfl true;rw[hf]at h1;unfold VN;rw[e1,e2,e3];have hun:=wA hq.val hu1 hu;rw[hf]at hun;refine⟨h1,by rw[hun,Int.toNat_natCast];exact e4,λf hfm=>?_⟩;obtain⟨i,hi,⟨hn,hfe,hne⟩,hci⟩:=nQ.1 hfm;obtain⟨j,hj,⟨hjn,hjf⟩,hjc,hjv⟩:=Rx hq hm hh (i:=i) ae ae (by rw[hfe];exact hne) hci;have:j=u:=by
  have a1:=wA hq.val hj.1 hj.2;rw[hjn,hjf,hn,hun]at a1;omega
 subst this;have h2:=ZO hq hm (i:=i) ae ae hci (v:=(fO w.us c j).v) hjv.symm false;rw[hn,hfe]at h2;exact h2
def Ss {u:Nat}(h1:1<=u)(hc:0<=c[u]!)(hf:us[u]!.feat=[]):gP us c u=false:=by
 simp only[gP,eF,cy,dq,aV];exact⟨⟨ae,ae⟩,hf⟩
end Go.Abs
end
