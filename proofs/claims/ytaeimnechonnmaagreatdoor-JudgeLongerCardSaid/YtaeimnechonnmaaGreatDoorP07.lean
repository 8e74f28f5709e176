/- A part of the proofs. -/
import Derived.KernelRfl
import Derived.Test.YtaeimnechonnmaaGreatDoorProg
import Derived.Test.YtaeimnechonnmaaGreatDoorP06
set_option linter.all false
set_option maxRecDepth 4000
namespace Go.Abs
section
section
variable [df] {P:Program} {ν:List (Nat×Nat)} {cq:List Nat} {t:List (Nat×lr)} {fid key u k:Nat} {af:aE} {nx:Nat} {m:List (Nat×bA)} {K:D->St->Prop}
def xQ {lo kk n n':Nat}{es es':List D}{x y:D}{Q:D->List (Nat×bA)->Prop}(hes:aL es=true)(hes':aL es'=true)(hxn:x.a7=true)(hyn:y.a7=true)(hmix:P.follows .mixedOrders=true)(hC:Ao P ν cq fid af)(hnp:3=af.np)
  (h1:look m lo=some (.buf k es)) (hlo:lo<nx) (hQ:∀d m,Q d m->∃j,d=.own j kk 0 n'/\look m j=some (.buf kk es')) (hK:K (.own nx kk 0 n') ⟨nx+1,(nx,.buf kk es')::cx m lo⟩)
  (hw:bZ ((under t key u).at 1) af.body (kv af Q) (fq af [x,.own 0 k 0 n,y]) ⟨1,[(0,.buf k es)]⟩):kE P ν cq (under t key u) fid [x,.own lo k 0 n,y] ⟨nx,m⟩ K:=by
 have g3:eE 0 1 [(lo,0)]=true:=by simp[eE]
 have g4:∀l i,(l,i)∈[(lo,0)]->look m l≠none:=by
  intro l i h;obtain⟨rfl,rfl⟩:=Prod.mk.inj (bl.1 h);rw[h1];simp
 have g5:∀i b,look [(0,bA.buf k es)] i=some b->∃l b',(l,i)∈[(lo,0)]/\look m l=some b'/\lQ 0 [(lo,0)] b' b:=by
  intro i b h;simp only[look]at h;split at h
  .rename_i e;subst e;obtain rfl:=ba h;exact⟨lo,_,.head _,h1,rfl,.inl ⟨rfl,hes⟩⟩
  .cases h
 refine pT (σi:=[(lo,0)]) (cs:=[x,.own 0 k 0 n,y]) (fun q=>oG t key u q) hmix hC rfl ?_ hnp g3 g4 g5 hw ?_
 .intro i hi
  match i,hi with
  |0,_=>exact .inl ⟨rfl,hxn⟩
  |1,_=>exact .inr (.inl (by simp[jF,qe,eS]))
  |2,_=>exact .inl ⟨rfl,hyn⟩
 .intro d m1 h;obtain⟨j,rfl,hj⟩:=hQ d m1 h;refine⟨[(j,nx)],j+1,_,_,⟨g3, ?_,Nat.le_succ _,g4, ?_,g5, ?_⟩,.inr (.inl (by simp[jF,qe,eS])),hK⟩
  .simp[eE]
  .intro i l h;obtain⟨rfl,rfl⟩:=Prod.mk.inj (bl.1 h);exact .inr (aI _)
  .intro l bb h;simp only[look]at h;split at h
   .rename_i e;subst e;obtain rfl:=ba h;exact .inl ⟨j,_,.head _,hj,rfl,.inl ⟨rfl,hes'⟩⟩
   .rename_i hn;rw[gE]at h;split at h
    .cases h
    .rename_i hl;refine .inr ⟨by simp only[jx,ai hn],fun i hi=>?_,h⟩;exact hl (Prod.mk.inj (bl.1 hi)).1
def FA (w:bG)(facts:List aq)(r:Int×List aq):D->List (Nat×bA)->Prop:=fun d m=>d=.int .i64 r.1/\∃j,1<=j/\look m 0=some (.buf 3 [jE.D ⟨w,facts,.own j 5 0 r.2.length⟩])/\look m j=some (.buf 5 (r.2.map aq.D))
def za {w:bG}{facts rows:List aq}{r:Int×List aq}{lp ln:Nat}{m':List (Nat×bA)}(h1:look m lp=some (.buf 3 [jE.D ⟨w,facts,.own ln 5 0 rows.length⟩]))(hlp:lp<nx){d:D}{m1:List (Nat×bA)}(h:FA w facts r d m1)
  (σi:List (Nat×Nat)) (q:Nat) (m0:List (Nat×bA)) (g3:eE 0 q σi=true) (hmem:(lp,0)∈σi) (g4:∀l i,(l,i)∈σi->look m l≠none) (g5:∀i b,look m0 i=some b->∃l b',(l,i)∈σi/\look m l=some b'/\lQ 0 σi b' b)
  (hm':∀l b,l≠lp->l≠nx->look m' l=some b->look m l=some b/\∀i,(l,i)∉σi) (hK:K (.int .i64 r.1) ⟨nx+1,(nx,.buf 5 (r.2.map aq.D))::cH m' lp (.buf 3 [jE.D ⟨w,facts,.own nx 5 0 r.2.length⟩])⟩):
  ∃(σo:List (Nat×Nat)) (q1:Nat) (st':St) (vd':D),Fr σi σo q q1 m0 m1 ⟨nx,m⟩ st'/\IJ 0 σo d vd'/\K vd' st':=by
 obtain⟨rfl,j,hj1,e0,ej⟩:=h;have a1:=ez (show j≠0 by omega);have a2:=ez (show 0≠j by omega);have a3:=ez (show lp≠nx by omega);have a4:=ez (show nx≠lp by omega);have r1:eS 0 [(0,lp),(j,nx)] j=some nx:=by simp only[eS,a2,cond_false,Nat.beq_refl,cond_true]
 refine⟨[(0,lp),(j,nx)],j+1,_,_,⟨g3, ?_,(Nat.le_succ _:nx<=nx+1),g4, ?_,g5, ?_⟩,.inl ⟨rfl,rfl⟩,hK⟩
 .simp only[eE,List.all_cons,List.all_nil,a1,a2,a3,a4,Bool.not_false,eO,nQ,Nat.blt,bo,Nat.ble_eq];repeat' first|exact trivial|exact rfl|exact Nat.zero_le _|omega|refine And.intro ?_ ?_
 .intro i l h;simp only[dr,dR,dS,or_false]at h;rcases h with⟨rfl,rfl⟩|⟨rfl,rfl⟩
  .exact .inl hmem
  .exact .inr (aI _)
 .intro l bb h;simp only[look]at h;split at h
  .rename_i e;subst e;obtain rfl:=ba h;exact .inl ⟨j,_,.tail _ (.head _),ej,rfl,.inl ⟨rfl,bQ (fun _=>rfl) _⟩⟩
  .rename_i n1;rw[cU]at h;split at h
   .rename_i e;subst e;obtain rfl:=ba h;exact .inl ⟨0,_,.head _,e0,rfl,.inr (.inl (by simp only[jE.D,gU,jF,qe,r1]))⟩
   .rename_i n2;obtain⟨k1,k2⟩:=hm' l bb (fun e=>n2 (by first|exact e|exact e.symm)) (fun e=>n1 (by first|exact e|exact e.symm)) h;exact .inr ⟨by simp only[jx];rw[ai ae,ai ae],k2,k1⟩
def GC {w:bG}{facts rows:List aq}{c:List Int}{r:Int×List aq}{lp ln lc:Nat}(hmix:P.follows .mixedOrders=true)(hC:Ao P ν cq fid af)(hnp:2=af.np)
  (h1:look m lp=some (.buf 3 [jE.D ⟨w,facts,.own ln 5 0 rows.length⟩])) (h2:look m ln=some (.buf 5 (rows.map aq.D))) (h3:look m lc=some (.buf 1 (c.map (D.int .i64)))) (hx:lp<nx/\ln<nx/\lc<nx)
  (hK:K (.int .i64 r.1) ⟨nx+1,(nx,.buf 5 (r.2.map aq.D))::cH (cx (cx m ln) lc) lp (.buf 3 [jE.D ⟨w,facts,.own nx 5 0 r.2.length⟩])⟩)
  (hw:bZ ((under t key u).at 3) af.body (kv af (FA w facts r)) (fq af [.ptr 0 3 0 0,.own 2 1 0 c.length]) ⟨3,[(0,.buf 3 [jE.D ⟨w,facts,.own 1 5 0 rows.length⟩]),(1,.buf 5 (rows.map aq.D)),(2,.buf 1 (c.map (D.int .i64)))]⟩):kE P ν cq (under t key u) fid [.ptr lp 3 0 0,.own lc 1 0 c.length] ⟨nx,m⟩ K:=by
 have n1:lp≠ln:=by
  rintro rfl;rw[h1]at h2;exact absurd (bA.buf.inj (ba h2)).1 bL
 have n2:lp≠lc:=by
  rintro rfl;rw[h1]at h3;exact absurd (bA.buf.inj (ba h3)).1 bL
 have n3:ln≠lc:=by
  rintro rfl;rw[h2]at h3;exact absurd (bA.buf.inj (ba h3)).1 bL
 have b1:=ez n1;have b2:=ez n2;have b3:=ez n3;have b4:=ez n1.symm;have b5:=ez n2.symm;have b6:=ez n3.symm;have r1:eS 0 [(lp,0),(ln,1),(lc,2)] ln=some 1:=by simp only[eS,b1,cond_false,Nat.beq_refl,cond_true]
 have g3:eE 0 3 [(lp,0),(ln,1),(lc,2)]=true:=by simp[eE,b1,b2,b3,b4,b5,b6,Nat.blt];exact⟨⟨rfl,rfl⟩,rfl⟩
 have g4:∀l i,(l,i)∈[(lp,0),(ln,1),(lc,2)]->look m l≠none:=by
  intro l i h;simp only[dr,dR,dS,or_false]at h;rcases h with⟨rfl,_⟩|⟨rfl,_⟩|⟨rfl,_⟩<;>simp[h1,h2,h3]
 have g5:∀i b,look [(0,bA.buf 3 [jE.D ⟨w,facts,.own 1 5 0 rows.length⟩]),(1,.buf 5 (rows.map aq.D)),(2,.buf 1 (c.map (D.int .i64)))] i=some b->∃l b',(l,i)∈[(lp,0),(ln,1),(lc,2)]/\look m l=some b'/\lQ 0 [(lp,0),(ln,1),(lc,2)] b' b:=by
  intro i b h;simp only[look]at h;split at h
  .rename_i e;subst e;obtain rfl:=ba h;exact⟨lp,_,.head _,h1,rfl,.inr (.inl (by simp only[jE.D,gU,jF,qe,r1]))⟩
  .split at h
   .rename_i e;subst e;obtain rfl:=ba h;exact⟨ln,_,.tail _ (.head _),h2,rfl,.inl ⟨rfl,bQ (fun _=>rfl) _⟩⟩
   .split at h
    .rename_i e;subst e;obtain rfl:=ba h;exact⟨lc,_,.tail _ (.tail _ (.head _)),h3,rfl,.inl ⟨rfl,bQ (fun _=>rfl) _⟩⟩
    .cases h
 refine pT (σi:=[(lp,0),(ln,1),(lc,2)]) (cs:=[.ptr 0 3 0 0,.own 2 1 0 c.length]) (fun q=>oG t key u q) hmix hC rfl ?_ hnp g3 g4 g5 hw fun d m1 h=>za h1 hx.1 h _ _ _ g3 (.head _) g4 g5 (fun l b hl hl2 h=>?_) hK
 .intro i hi
  match i,hi with
  |0,_=>exact .inr (.inl (by simp[jF,qe,eS]))
  |1,_=>exact .inr (.inl (by simp[jF,qe,eS,b2,b3]))
 .rw[gE]at h;split at h
  .cases h
  .rename_i e1;rw[gE]at h;split at h
   .cases h
   .rename_i e2;refine⟨h,fun i hi=>?_⟩;simp only[dr,dR,dS,or_false]at hi;rcases hi with⟨e,_⟩|⟨e,_⟩|⟨e,_⟩
    .exact hl e
    .exact e2 e
    .exact e1 e
def GB {w:bG}{facts rows:List aq}{r:Int×List aq}{lp ln:Nat}(hmix:P.follows .mixedOrders=true)(hC:Ao P ν cq fid af)(hnp:2=af.np)
  (h1:look m lp=some (.buf 3 [jE.D ⟨w,facts,.own ln 5 0 rows.length⟩])) (h2:look m ln=some (.buf 5 (rows.map aq.D))) (hx:lp<nx/\ln<nx)
  (hK:K (.int .i64 r.1) ⟨nx+1,(nx,.buf 5 (r.2.map aq.D))::cH (cx m ln) lp (.buf 3 [jE.D ⟨w,facts,.own nx 5 0 r.2.length⟩])⟩)
  (hw:bZ ((under t key u).at 3) af.body (kv af (FA w facts r)) (fq af [.ptr 0 3 0 0,.aA]) ⟨3,[(0,.buf 3 [jE.D ⟨w,facts,.own 1 5 0 rows.length⟩]),(1,.buf 5 (rows.map aq.D))]⟩):kE P ν cq (under t key u) fid [.ptr lp 3 0 0,.aA] ⟨nx,m⟩ K:=by
 have n1:lp≠ln:=by
  rintro rfl;rw[h1]at h2;exact absurd (bA.buf.inj (ba h2)).1 bL
 have b1:=ez n1;have b4:=ez n1.symm;have r1:eS 0 [(lp,0),(ln,1)] ln=some 1:=by simp only[eS,b1,cond_false,Nat.beq_refl,cond_true]
 have g3:eE 0 3 [(lp,0),(ln,1)]=true:=by simp[eE,b4,Nat.blt];exact rfl
 have g4:∀l i,(l,i)∈[(lp,0),(ln,1)]->look m l≠none:=by
  intro l i h;simp only[dr,dR,dS,or_false]at h;rcases h with⟨rfl,_⟩|⟨rfl,_⟩<;>simp[h1,h2]
 have g5:∀i b,look [(0,bA.buf 3 [jE.D ⟨w,facts,.own 1 5 0 rows.length⟩]),(1,.buf 5 (rows.map aq.D))] i=some b->∃l b',(l,i)∈[(lp,0),(ln,1)]/\look m l=some b'/\lQ 0 [(lp,0),(ln,1)] b' b:=by
  intro i b h;simp only[look]at h;split at h
  .rename_i e;subst e;obtain rfl:=ba h;exact⟨lp,_,.head _,h1,rfl,.inr (.inl (by simp only[jE.D,gU,jF,qe,r1]))⟩
  .split at h
   .rename_i e;subst e;obtain rfl:=ba h;exact⟨ln,_,.tail _ (.head _),h2,rfl,.inl ⟨rfl,bQ (fun _=>rfl) _⟩⟩
   .cases h
 refine pT (σi:=[(lp,0),(ln,1)]) (cs:=[.ptr 0 3 0 0,.aA]) (fun q=>oG t key u q) hmix hC rfl ?_ hnp g3 g4 g5 hw fun d m1 h=>za h1 hx.1 h _ _ _ g3 (.head _) g4 g5 (fun l b hl hl2 h=>?_) hK
 .intro i hi
  match i,hi with
  |0,_=>exact .inr (.inl (by simp[jF,qe,eS]))
  |1,_=>exact .inl ⟨rfl,rfl⟩
 .rw[gE]at h;split at h
  .cases h
  .rename_i e2;refine⟨h,fun i hi=>?_⟩;simp only[dr,dR,dS,or_false]at hi;rcases hi with⟨e,_⟩|⟨e,_⟩
   .exact hl e
   .exact e2 e
end
def L8 (ds:List D)(st:St):Nat:=match ds with
 |[.ptr l _ _ _,c]=>(match look st.m l with
  |some (.buf _ [.agg (.sl _ us::_)])=>us.length-(match c with
   | .own _ _ _ n=>n
   |_=>0)
  |_=>0)
 |_=>0
def Cm {w:bG}{facts:List aq}{x:D}{lp lc n nx:Nat}{m:List (Nat×bA)}(h:look m lp=some (.buf 3 [jE.D ⟨w,facts,x⟩])):L8 [.ptr lp 3 0 0,.own lc 1 0 n] ⟨nx,m⟩=w.us.length-n:=by
 simp only[L8,h,jE.D,aS]
def Cl {w:bG}{facts:List aq}{x:D}{lp nx:Nat}{m:List (Nat×bA)}(h:look m lp=some (.buf 3 [jE.D ⟨w,facts,x⟩])):L8 [.ptr lp 3 0 0,.aA] ⟨nx,m⟩=w.us.length:=by
 simp only[L8,h,jE.D,aS,Nat.sub_zero]
def Ji {w:bG}{facts rows:List aq}{c:List Int}:iV 2 1 (c.map (D.int .i64)) (cx [(0,bA.buf 3 [jE.D ⟨w,facts,.own 1 5 0 rows.length⟩]),(1,.buf 5 (rows.map aq.D)),(2,.buf 1 (c.map (D.int .i64)))] 2)=[(0,bA.buf 3 [jE.D ⟨w,facts,.own 1 5 0 rows.length⟩]),(1,.buf 5 (rows.map aq.D))]:=by
 simp[cx,iV,jM,fG,eR,jE.D,eZ]
end
section
section
variable [df] {P:Program} {ν:List (Nat×Nat)} {cq:List Nat} {t:List (Nat×lr)} {fid n key u k:Nat} {af:aE} {nx:Nat} {m:List (Nat×bA)} {K:D->St->Prop}
def zj {lo kk n n':Nat}{es es' Xe:List D}{Q:D->List (Nat×bA)->Prop}(hes:aL es=true)(hes':aL es'=true)(has:aL Xe=true)(hmix:P.follows .mixedOrders=true)(hC:Ao P ν cq fid af)(hnp:Xe.length+1=af.np)
  (h1:look m lo=some (.buf k es)) (hlo:lo<nx) (hQ:∀d m,Q d m->∃j,d=.own j kk 0 n'/\look m j=some (.buf kk es')) (hK:K (.own nx kk 0 n') ⟨nx+1,(nx,.buf kk es')::cx m lo⟩)
  (hw:bZ ((under t key u).at 1) af.body (kv af Q) (fq af (.own 0 k 0 n::Xe)) ⟨1,[(0,.buf k es)]⟩):kE P ν cq (under t key u) fid (.own lo k 0 n::Xe) ⟨nx,m⟩ K:=by
 have g3:eE 0 1 [(lo,0)]=true:=by simp[eE]
 have g4:∀l i,(l,i)∈[(lo,0)]->look m l≠none:=by
  intro l i h;obtain⟨rfl,rfl⟩:=Prod.mk.inj (bl.1 h);rw[h1];simp
 have g5:∀i b,look [(0,bA.buf k es)] i=some b->∃l b',(l,i)∈[(lo,0)]/\look m l=some b'/\lQ 0 [(lo,0)] b' b:=by
  intro i b h;simp only[look]at h;split at h
  .rename_i e;subst e;obtain rfl:=ba h;exact⟨lo,_,.head _,h1,rfl,.inl ⟨rfl,hes⟩⟩
  .cases h
 refine pT (σi:=[(lo,0)]) (cs:=.own 0 k 0 n::Xe) (fun q=>oG t key u q) hmix hC bc ?_ (by simpa using hnp) g3 g4 g5 hw ?_
 .intro i hi
  match i with
  |0=>exact .inr (.inl (by simp[jF,qe,eS]))
  |i+1=>exact .inl ⟨rfl,cr has i⟩
 .intro d m1 h;obtain⟨j,rfl,hj⟩:=hQ d m1 h;refine⟨[(j,nx)],j+1,_,_,⟨g3, ?_,Nat.le_succ _,g4, ?_,g5, ?_⟩,.inr (.inl (by simp[jF,qe,eS])),hK⟩
  .simp[eE]
  .intro i l h;obtain⟨rfl,rfl⟩:=Prod.mk.inj (bl.1 h);exact .inr (aI _)
  .intro l bb h;simp only[look]at h;split at h
   .rename_i e;subst e;obtain rfl:=ba h;exact .inl ⟨j,_,.head _,hj,rfl,.inl ⟨rfl,hes'⟩⟩
   .rename_i hn;rw[gE]at h;split at h
    .cases h
    .rename_i hl;refine .inr ⟨by simp only[jx,ai hn],fun i hi=>?_,h⟩;exact hl (Prod.mk.inj (bl.1 hi)).1
def xP {lo n:Nat}{es Xe:List D}{v:D}{Q:D->List (Nat×bA)->Prop}(hes:aL es=true)(hv:v.a7=true)(has:aL Xe=true)(hmix:P.follows .mixedOrders=true)(hC:Ao P ν cq fid af)(hnp:Xe.length+1=af.np)
  (h1:look m lo=some (.buf k es)) (hlo:lo<nx) (hQ:∀d m,Q d m->d=v) (hK:K v ⟨nx,cx m lo⟩)
  (hw:bZ ((under t key u).at 1) af.body (kv af Q) (fq af (.own 0 k 0 n::Xe)) ⟨1,[(0,.buf k es)]⟩):kE P ν cq (under t key u) fid (.own lo k 0 n::Xe) ⟨nx,m⟩ K:=by
 have g3:eE 0 1 [(lo,0)]=true:=by simp[eE]
 have g4:∀l i,(l,i)∈[(lo,0)]->look m l≠none:=by
  intro l i h;obtain⟨rfl,rfl⟩:=Prod.mk.inj (bl.1 h);rw[h1];simp
 have g5:∀i b,look [(0,bA.buf k es)] i=some b->∃l b',(l,i)∈[(lo,0)]/\look m l=some b'/\lQ 0 [(lo,0)] b' b:=by
  intro i b h;simp only[look]at h;split at h
  .rename_i e;subst e;obtain rfl:=ba h;exact⟨lo,_,.head _,h1,rfl,.inl ⟨rfl,hes⟩⟩
  .cases h
 refine pT (σi:=[(lo,0)]) (cs:=.own 0 k 0 n::Xe) (fun q=>oG t key u q) hmix hC bc ?_ (by simpa using hnp) g3 g4 g5 hw ?_
 .intro i hi
  match i with
  |0=>exact .inr (.inl (by simp[jF,qe,eS]))
  |i+1=>exact .inl ⟨rfl,cr has i⟩
 .intro d m1 h;have hd:=hQ d m1 h;refine⟨[],1,⟨nx,cx m lo⟩,v,⟨g3,rfl,aI _,g4,(fun _ _ h=>by cases h),g5, ?_⟩,.inl ⟨hd.symm,by rw[hd];exact hv⟩,hK⟩;intro l bb h;simp only at h;rw[gE]at h;split at h
  .cases h
  .rename_i hl;refine .inr ⟨rfl,fun i hi=>?_,h⟩;exact hl (Prod.mk.inj (bl.1 hi)).1
def HG {g g':Gs}{xs:List CW}{kk lc:Nat}{E:List D}{v:D}{Q:D->List (Nat×bA)->Prop}(hv:v.a7=true)(hE:aL E=true)(hmix:P.follows .mixedOrders=true)(hC:Ao P ν cq fid af)(hnp:2=af.np)
  (hn:lc≠0/\lc≠10/\lc<nx/\11<=nx) (h0:look m 0=some (.buf 2 [g.D])) (h1:look m lc=some (.buf 8 (xs.map (CW.D 10)))) (h10:look m 10=some (.buf kk E)) (hK:K v ⟨nx,cH m 0 (.buf 2 [g'.D])⟩)
  (hQ:∀d m1,Q d m1->d=v/\look m1 0=some (.buf 2 [g'.D])/\look m1 1=some (.buf 8 (xs.map (CW.D 10)))/\look m1 10=some (.buf kk E))
  (hw:bZ ((under t key u).at 11) af.body (kv af Q) (fq af [.ptr 0 2 0 0,.own 1 8 0 xs.length]) ⟨11,[(0,.buf 2 [g.D]),(1,.buf 8 (xs.map (CW.D 10))),(10,.buf kk E)]⟩):kE P ν cq (under t key u) fid [.ptr 0 2 0 0,.own lc 8 0 xs.length] ⟨nx,m⟩ K:=by
 have b1:=ez hn.1;have b2:=ez hn.2.1;have b3:=ez (Ne.symm hn.1);have b4:=ez (Ne.symm hn.2.1);have r10:eS 0 [(0,0),(lc,1),(10,10)] 10=some 10:=by simp only[eS,b2,cond_false];rfl
 have o10:eS 0 [(0,0),(1,lc),(10,10)] 10=some 10:=rfl;have g3:eE 0 11 [(0,0),(lc,1),(10,10)]=true:=by simp[eE,b1,b2,b3,b4,Nat.blt];exact⟨⟨rfl,rfl⟩,rfl⟩
 have g4:∀l i,(l,i)∈[(0,0),(lc,1),(10,10)]->look m l≠none:=by
  intro l i h;simp only[dr,dR,dS,or_false]at h;rcases h with⟨rfl,_⟩|⟨rfl,_⟩|⟨rfl,_⟩<;>simp[h0,h1,h10]
 have g5:∀i b,look [(0,bA.buf 2 [g.D]),(1,.buf 8 (xs.map (CW.D 10))),(10,.buf kk E)] i=some b->∃l b',(l,i)∈[(0,0),(lc,1),(10,10)]/\look m l=some b'/\lQ 0 [(0,0),(lc,1),(10,10)] b' b:=by
  intro i b h;simp only[look]at h;split at h
  .rename_i e;subst e;obtain rfl:=ba h;exact⟨0,_,.head _,h0,rfl,.inl ⟨rfl,rfl⟩⟩
  .split at h
   .rename_i e;subst e;obtain rfl:=ba h;exact⟨lc,_,.tail _ (.head _),h1,rfl,.inr (.inl (dk r10 xs))⟩
   .split at h
    .rename_i e;subst e;obtain rfl:=ba h;exact⟨10,_,.tail _ (.tail _ (.head _)),h10,rfl,.inl ⟨rfl,hE⟩⟩
    .cases h
 refine pT (σi:=[(0,0),(lc,1),(10,10)]) (cs:=[.ptr 0 2 0 0,.own 1 8 0 xs.length]) (fun q=>oG t key u q) hmix hC rfl ?_ hnp g3 g4 g5 hw ?_
 .intro i hi
  match i,hi with
  |0,_=>exact .inr (.inl (by simp[jF,qe,eS]))
  |1,_=>exact .inr (.inl (by simp[jF,qe,eS,b3]))
 .intro d m1 h;obtain⟨hd,q0,q1,q10⟩:=hQ d m1 h;refine⟨[(0,0),(1,lc),(10,10)],11,⟨nx,cH m 0 (.buf 2 [g'.D])⟩,v,⟨g3, ?_,aI _,g4, ?_,g5, ?_⟩,.inl ⟨hd.symm,by rw[hd];exact hv⟩,hK⟩
  .simp only[eE,List.all_cons,List.all_nil,b1,b2,b3,b4,Bool.not_false,eO,nQ,Nat.blt,bo,Nat.ble_eq];repeat' first|exact rfl|exact Nat.zero_le _|omega|refine And.intro ?_ ?_
  .intro i l h;simp only[dr,dR,dS,or_false]at h;rcases h with⟨rfl,rfl⟩|⟨rfl,rfl⟩|⟨rfl,rfl⟩
   .exact .inl (.head _)
   .exact .inl (.tail _ (.head _))
   .exact .inl (.tail _ (.tail _ (.head _)))
  .intro l bb h;simp only at h;rw[cU]at h;split at h
   .rename_i e;subst e;obtain rfl:=ba h;exact .inl ⟨0,_,.head _,q0,rfl,.inl ⟨rfl,rfl⟩⟩
   .rename_i e0;by_cases e1:l=lc
    .subst e1;rw[h1]at h;obtain rfl:=ba h;exact .inl ⟨1,_,.tail _ (.head _),q1,rfl,.inr (.inl (dk o10 xs))⟩
    .by_cases e2:l=10
     .subst e2;rw[h10]at h;obtain rfl:=ba h;exact .inl ⟨10,_,.tail _ (.tail _ (.head _)),q10,rfl,.inl ⟨rfl,hE⟩⟩
     .refine .inr ⟨by simp only[jx,ai (fun e=>e0 (Eq.symm e)),ai (fun e=>e1 (Eq.symm e)),ai (fun e=>e2 (Eq.symm e))],fun i hi=>?_,h⟩;simp only[dr,dR,dS,or_false]at hi;rcases hi with⟨h,_⟩|⟨h,_⟩|⟨h,_⟩
      .exact e0 h
      .exact e1 h
      .exact e2 h
end
end
section
def Fc:List (Nat×Nat):=[(0,0),(1,1),(2,2),(3,3),(4,4),(5,5),(6,6),(7,7),(8,8),(9,9),(10,10)]
def xr {l i:Nat}(h:(l,i)∈Fc):i=l/\l<=10:=by
 simp only[Fc,dr,dR,dS,or_false]at h;omega
def I6:∀l,l<11->(l,l)∈Fc:=bL
def tI {l:Nat}(h:l<=10):(l,l)∈Fc:=I6 l ae
def vj {m:List (Nat×bA)}{g:Gs}{n:Nat}{nm ft:Nat->dn}{cs:Nat->List CW}{kk:Nat}{E:List D}(hn:n<=8)(hE:aL E=true)(h:IN m g n nm ft cs kk E){l:Nat}(h1:1<=l)(h10:l<=10):∃b,(∀m2 g2,IN m2 g2 n nm ft cs kk E->look m2 l=some b)/\lQ 0 Fc b b:=by
 rcases cK l 2 with h2|h2
 .obtain rfl:l=1:=ae;exact⟨_,fun m2 g2 w=>w.2.1,rfl,.inr (.inl (iN _ fun j hj=>eB ae))⟩
 .rcases cK l 10 with h3|h3
  .obtain⟨j,rfl⟩:∃j,l=2+j:=⟨l-2,ae⟩
   exact⟨_,fun m2 g2 w=>w.2.2.1 j ae,rfl,.inr (.inl (dk rfl _))⟩
  .obtain rfl:l=10:=ae;exact⟨_,fun m2 g2 w=>w.2.2.2,rfl,.inl ⟨rfl,hE⟩⟩
section
variable [df] {P:Program} {ν:List (Nat×Nat)} {cq:List Nat} {t:List (Nat×lr)} {fid key u k:Nat} {af:aE} {nx:Nat} {m:List (Nat×bA)} {K:D->St->Prop}
def z6 {g g':Gs}{n c:Nat}{nm ft:Nat->dn}{cs:Nat->List CW}{kk:Nat}{E Xe:List D}{v:D}{m0:List (Nat×bA)}{Q:D->List (Nat×bA)->Prop}(hv:v.a7=true)(hE:aL E=true)(has:aL Xe=true)(hn:n<=8)(hmix:P.follows .mixedOrders=true)(hC:Ao P ν cq fid af)(hnp:Xe.length+2=af.np)
  (hx:11<=nx) (hw:IN m g n nm ft cs kk E) (h0:IN m0 g n nm ft cs kk E) (hm0:∀i,11<=i->look m0 i=none) (hK:K v ⟨nx,cH m 0 (.buf 2 [g'.D])⟩) (hQ:∀d m1,Q d m1->d=v/\IN m1 g' n nm ft cs kk E)
  (hwp:bZ ((under t key u).at 11) af.body (kv af Q) (fq af (.ptr 0 2 0 0::.own 1 3 0 c::Xe)) ⟨11,m0⟩):kE P ν cq (under t key u) fid (.ptr 0 2 0 0::.own 1 3 0 c::Xe) ⟨nx,m⟩ K:=by
 have g4:∀l i,(l,i)∈Fc->look m l≠none:=by
  intro l i h;obtain⟨_,hl⟩:=xr h;rcases Nat.eq_zero_or_pos l with rfl|hp
  .rw[hw.1];simp
  .obtain⟨b,hb,_⟩:=vj hn hE hw hp hl;rw[hb _ _ hw];simp
 have g5:∀i b,look m0 i=some b->∃l b',(l,i)∈Fc/\look m l=some b'/\lQ 0 Fc b' b:=by
  intro i b h;rcases cK i 11 with hi|hi
  .rcases Nat.eq_zero_or_pos i with rfl|hp
   .rw[h0.1]at h;obtain rfl:=ba h;exact⟨0,_,tI ae,hw.1,rfl,.inl ⟨rfl,rfl⟩⟩
   .obtain⟨b2,hb,hr⟩:=vj hn hE hw hp ae;rw[hb _ _ h0]at h;obtain rfl:=ba h;exact⟨i,_,tI ae,hb _ _ hw,hr⟩
  .rw[hm0 i hi]at h;cases h
 refine pT (σi:=Fc) (cs:=.ptr 0 2 0 0::.own 1 3 0 c::Xe) (fun q=>oG t key u q) hmix hC rfl ?_ (by simpa using hnp) rfl g4 g5 hwp ?_
 .intro i hi
  match i with
  |0=>exact .inr (.inl rfl)
  |1=>exact .inr (.inl rfl)
  |i+2=>exact .inl ⟨rfl,cr has i⟩
 .intro d m1 h;obtain⟨hd,q⟩:=hQ d m1 h;refine⟨Fc,11,⟨nx,cH m 0 (.buf 2 [g'.D])⟩,v,⟨rfl, ?_,aI _,g4, ?_,g5, ?_⟩,.inl ⟨hd.symm,by rw[hd];exact hv⟩,hK⟩
  .simp only[Fc,eE,Nat.blt,bo,Nat.ble_eq];repeat' first|exact rfl|exact Nat.zero_le _|omega|refine And.intro ?_ ?_
  .intro i l h;obtain⟨rfl,hl⟩:=xr h;exact .inl (tI hl)
  .intro l bb h;simp only at h;rw[cU]at h;split at h
   .rename_i e;subst e;obtain rfl:=ba h;exact .inl ⟨0,_,tI ae,q.1,rfl,.inl ⟨rfl,rfl⟩⟩
   .rename_i e0;rcases cK l 11 with hl|hl
    .obtain⟨b2,hb,hr⟩:=vj hn hE hw (show 1<=l by omega) ae;rw[hb _ _ hw]at h;obtain rfl:=ba h;exact .inl ⟨l,_,tI ae,hb _ _ q,hr⟩
    .refine .inr ⟨?_,fun i hi=>by have:=(xr hi).2;omega,h⟩;simp only[Fc,jx];repeat(rw[ai ae])
end
end
section
def HH (nx:Nat):List (Nat×Nat):=[(0,0),(1,nx),(2,nx+1),(3,nx+2),(4,nx+3),(5,nx+4),(6,nx+5),(7,nx+6),(8,nx+7),(9,nx+8)]
def JS {nx l i:Nat}(h:(i,l)∈HH nx):i=0/\l=0\/nx<=l:=by
 simp only[HH,dr,dR,dS,or_false]at h;omega
def MH {nx j:Nat}(h:j<8):eS 0 (HH nx) (2+j)=some (nx+1+j):=by
 match j,h with
 |0,_|1,_|2,_|3,_|4,_|5,_|6,_|7,_=>rfl
def MG {nx j:Nat}(h:j<8):(2+j,nx+1+j)∈HH nx:=by
 match j,h with
 |0,_|1,_|2,_|3,_|4,_|5,_|6,_|7,_=>simp[HH]
def IL {nx:Nat}{us:List RU}(h:us.length<=8):gU 0 (HH nx) (vV us)=some (MW (nx+1) us):=by
 unfold vV UB MW;have h2:∀j∈List.range us.length,eS 0 (HH nx) (2+j)=some (nx+1+j):=fun j hj=>MH (by have:=List.mem_range.1 hj;omega)
 revert h2;generalize List.range us.length=r;intro h2;induction r with
 |nil=>rfl
 |cons a r ih=>
  have:=h2 a (.head _);simp only[List.map_cons,gU,UD,jF,qe,this,ih fun j hj=>h2 j (.tail _ hj)]
def IM {g:Gs}{us:List RU}{j:Nat}(h:j<8):look (UM g us) (2+j)=some (.buf 8 (us[j]!.cs.map (CW.D 10))):=by
 match j,h with
 |0,_|1,_|2,_|3,_|4,_|5,_|6,_|7,_=>rfl
def FD {nx l:Nat}{us:List RU}{r:List (Nat×bA)}{b:bA}(h:look (MX nx us++r) l=some b):l=nx/\b=.buf 3 (MW (nx+1) us)\/(∃j,j<8/\l=nx+1+j/\b=.buf 8 (us[j]!.cs.map (CW.D 10)))\/(l<nx\/nx+8<l)/\look r l=some b:=by
 simp only[MX,pF,vv,look]at h;split at h
 .exact .inl ⟨ae,(ba h).symm⟩
 split at h
 .exact .inr (.inl ⟨0,bL,ae,(ba h).symm⟩)
 split at h
 .exact .inr (.inl ⟨1,bL,ae,(ba h).symm⟩)
 split at h
 .exact .inr (.inl ⟨2,bL,ae,(ba h).symm⟩)
 split at h
 .exact .inr (.inl ⟨3,bL,ae,(ba h).symm⟩)
 split at h
 .exact .inr (.inl ⟨4,bL,ae,(ba h).symm⟩)
 split at h
 .exact .inr (.inl ⟨5,bL,ae,(ba h).symm⟩)
 split at h
 .exact .inr (.inl ⟨6,bL,ae,(ba h).symm⟩)
 split at h
 .exact .inr (.inl ⟨7,bL,ae,(ba h).symm⟩)
 exact .inr (.inr ⟨ae,h⟩)
def u9 (g:Gs)(few:Int):(ec g few).1.length<=8/\∀u∈(ec g few).1,u.pl:=by
 obtain⟨more,e,hm,hl,_,_⟩:=wQ (g:=g) (few:=few);rw[e];refine⟨by simp only[sn,cj,List.length_singleton];omega,fun u hu=>?_⟩;rcases List.mem_append.1 hu with h|h
 .obtain rfl:=bl.1 h;intro c hc;obtain rfl:=bl.1 hc;rfl
 .obtain⟨vs,e,_⟩:=hm u h;intro c hc;rw[e]at hc;exact eN vs c hc
def z7 {a b c d e f g h i j k:bA}{l:Nat}(hl:11<=l):look [(0,a),(1,b),(2,c),(3,d),(4,e),(5,f),(6,g),(7,h),(8,i),(9,j),(10,k)] l=none:=by
 simp only[look];repeat rw[ai ae]
section
variable [df] {P:Program} {ν:List (Nat×Nat)} {cq:List Nat} {t:List (Nat×lr)} {fid key u k:Nat} {af:aE} {nx:Nat} {m:List (Nat×bA)} {K:D->St->Prop}
def BC {g g1:Gs}{us:List RU}{Xe:List D}{Q:D->List (Nat×bA)->Prop}(has:aL Xe=true)(hpl:∀u∈us,u.pl)(hl8:us.length<=8)(hmix:P.follows .mixedOrders=true)(hC:Ao P ν cq fid af)(hnp:Xe.length+1=af.np)
  (h0:look m 0=some (.buf 2 [g.D])) (hx:0<nx) (hQ:∀d m1,Q d m1->d=.own 1 3 0 us.length/\m1=UM g1 us) (hK:K (.own nx 3 0 us.length) ⟨nx+9,MX nx us++cH m 0 (.buf 2 [g1.D])⟩)
  (hw:bZ ((under t key u).at 1) af.body (kv af Q) (fq af (.ptr 0 2 0 0::Xe)) ⟨1,[(0,.buf 2 [g.D])]⟩):kE P ν cq (under t key u) fid (.ptr 0 2 0 0::Xe) ⟨nx,m⟩ K:=by
 have g3:eE 0 1 [(0,0)]=true:=rfl;have g4:∀l i,(l,i)∈[(0,0)]->look m l≠none:=by
  intro l i h;obtain⟨rfl,rfl⟩:=Prod.mk.inj (bl.1 h);rw[h0];simp
 have g5:∀i b,look [(0,bA.buf 2 [g.D])] i=some b->∃l b',(l,i)∈[(0,0)]/\look m l=some b'/\lQ 0 [(0,0)] b' b:=by
  intro i b h;simp only[look]at h;split at h
  .rename_i e;subst e;obtain rfl:=ba h;exact⟨0,_,.head _,h0,rfl,.inl ⟨rfl,rfl⟩⟩
  .cases h
 refine pT (σi:=[(0,0)]) (cs:=.ptr 0 2 0 0::Xe) (fun q=>oG t key u q) hmix hC bc ?_ (by simpa using hnp) g3 g4 g5 hw ?_
 .intro i hi
  match i with
  |0=>exact .inr (.inl rfl)
  |i+1=>exact .inl ⟨rfl,cr has i⟩
 .intro d m1 h;obtain⟨rfl,rfl⟩:=hQ d m1 h;refine⟨HH nx,10,⟨nx+9,MX nx us++cH m 0 (.buf 2 [g1.D])⟩,_,⟨g3, ?_,(Nat.le_add_right _ _:nx<=nx+9),g4, ?_,g5, ?_⟩,.inr (.inl rfl),hK⟩
  .have z:∀i,Nat.beq 0 (i+1)=false:=fun i=>rfl
   simp only[HH,eE,List.all_cons,List.all_nil,bo,eC,Nat.blt,Nat.ble_eq];repeat' first|exact trivial|exact rfl|exact Nat.zero_le _|(exact ez ae)|omega|refine And.intro ?_ ?_
  .intro i l h;rcases JS h with⟨rfl,rfl⟩|h
   .exact .inl (.head _)
   .exact .inr h
  .intro l bb h5;rcases FD h5 with⟨rfl,rfl⟩|⟨j,hj,rfl,rfl⟩|⟨hl,h6⟩
   .exact .inl ⟨1,.buf 3 (vV us),by simp[HH],rfl,rfl,.inr (.inl (IL hl8))⟩
   .exact .inl ⟨2+j,_,MG hj,IM hj,rfl,.inl ⟨rfl,iH hpl j⟩⟩
   .clear h5;rw[cU]at h6;split at h6
    .rename_i e;subst e;obtain rfl:=ba h6;exact .inl ⟨0,.buf 2 [g1.D],.head _,rfl,rfl,.inl ⟨rfl,rfl⟩⟩
    .rename_i e0;refine .inr ⟨?_,fun i hi=>?_,h6⟩
     .simp only[HH,jx];repeat(rw[ai ae])
     .obtain⟨e,_⟩:=Prod.mk.inj (bl.1 hi);omega
end
end
end Go.Abs
section
namespace Go.Abs
def ah {p:Prop}(h:p:=by exact rfl):p:=h
def Jv {p:Prop}(h:p:=by repeat(first|exact aJ.nil|refine aJ.un ?_|refine aJ.eq cv ?_)):p:=h
def dy {p:Prop}(h:p:=by first|exact rfl|exact bQ (fun _=>rfl) _):p:=h
def po {p:Prop}(h:p:=by repeat(first|exact aJ.nil|refine aJ.un ?_|refine aJ.eq cv ?_|refine aJ.nl cv cv ?_)):p:=h
def kY {p:Prop}(h:p:=by repeat' first|exact trivial|exact rfl|refine And.intro ?_ ?_):p:=h
def zl {p:Prop}(h:p:=by repeat' first|exact trivial|exact rfl|exact aI _|refine And.intro ?_ ?_):p:=h
def qqq1 {p:Prop}(h:p:=by repeat(first|exact aH.nil|refine aH.gK cv cv (by first|exact rfl|exact bQ (fun _=>rfl) _) ?_|refine aH.er cv cv cv ?_|refine aH.rK cv cv cv cv ?_)):p:=h
def b0 {p:Prop} [Decidable p]:(decide p=true)=p:=bX
def b1 {p:Prop} [Decidable p]:decide p=false↔¬p:=dE
def b2 (b:Bool):((!b)=true)=(b=false):=eC b
def b3 (b:Bool):((!b)=false)=(b=true):=qp b
def b4 (b:Bool):(¬(b=false))=(b=true):=Bool.not_eq_false b
def b5 (a b:Bool):((a ||b)=true)=(a=true\/b=true):=eu a b
def b6 {a b:Bool}:(a ||b)=false↔a=false/\b=false:=iI
end Go.Abs
namespace Go.Abs
abbrev dM (Y:Ctx)(a:aE)(d:D)(ds:List D):Prop:=bZ (Y.at 0) a.body (MV a d) (fq a ds) ⟨0,[]⟩
def dd {a:aE}{d d2:D}{e:Ex}{nx:Nat}{m:List (Nat×bA)}{env:List bH}(h:d2=d)(he:e.home:=by exact trivial)(h1:nJ m env a.res:=by exact zl)(h2:Ae a env m:=by exact kY)(h3:H2 a env m=d2:=by exact rfl):MV a d e env ⟨nx,m⟩:=HB he h1 h2 (h3.trans h)
def b7 {a:aE}{d d2:Bool}{e:Ex}{nx:Nat}{m:List (Nat×bA)}{env:List bH}(h:d2=d)(he:e.home:=by exact trivial)(h1:nJ m env a.res:=by exact zl)(h2:Ae a env m:=by exact kY)(h3:H2 a env m=.bool d2:=by exact rfl):MV a (.bool d) e env ⟨nx,m⟩:=dd (bK _ h) he h1 h2 h3
def cQ {a:aE}{d d2:Int}{e:Ex}{nx:Nat}{m:List (Nat×bA)}{env:List bH}(h:d2=d)(he:e.home:=by exact trivial)(h1:nJ m env a.res:=by exact zl)(h2:Ae a env m:=by exact kY)(h3:H2 a env m=.int .i64 d2:=by exact rfl):MV a (.int .i64 d) e env ⟨nx,m⟩:=dd (bK _ h) he h1 h2 h3
def fH {lo c nx nx2:Nat}{env env2:List bH}{m m2:List (Nat×bA)}(σ:List (Nat×Nat))(hc:nx2=c:=by exact ah)(h:eE lo c σ=true:=by exact ah)(he:aJ lo σ env env2:=by exact po)(hm:aH lo c σ m m2:=by exact qqq1):aP lo env ⟨nx,m⟩ env2 ⟨nx2,m2⟩:=aP.to σ hc h he hm
end Go.Abs
namespace Go.Abs
def jk {lo c l:Nat}{σ:List (Nat×Nat)}{m r:List (Nat×bA)}{b:bA}(h:aH lo c σ m r)(hh:aH lo c σ m [(l,b)]:=by(first|refine aH.gK cv cv (by first|exact rfl|exact bQ (fun _=>rfl) _) ?_|refine aH.er cv cv cv ?_|refine aH.rK cv cv cv cv ?_)<;>exact aH.nil):aH lo c σ m ((l,b)::r):=⟨hh.1,h⟩
end Go.Abs
namespace Go.Abs
section
variable {Y:Ctx} {Q:Ex->List bH->St->Prop}
def cmN {env rs:List bH}:FX env rs []=env:=rfl
def cmC {s p:Nat}{r:List (Nat×Nat)}{env rs env1 env':List bH}{f:Bool}{d:D}(e:cF [] rs (.l p)=⟨f,d⟩)(hs:env.set s ⟨f,d⟩=env1)(h:FX env1 rs r=env'):FX env rs ((s,p)::r)=env':=by
 simp only[FX,e,hs,h]
def rrrg {draw:Bool}{cm:List (Nat×Nat)}{b:AC}{nx nx':Nat}{m:List (Nat×bA)}{rs env fq env':List bH}(h:bZ Y b Q env' ⟨nx',m⟩)
  (he:FX env rs cm=env':=by repeat(first|apply cmC cv (by simp only[List.set_cons_zero,List.set_cons_succ];exact rfl)|with_reducible exact cmN)) (hn:nx+rs.length=nx':=by simp only[bR,cb,Nat.reduceAdd];exact rfl):aC Y draw [] fq rs nx m (fun vs st'=>bZ Y b Q (fo env vs cm) st'):=
 JB h he hn
def rrrh {draw:Bool}{cm:List (Nat×Nat)}{nx nx':Nat}{m:List (Nat×bA)}{rs env fq env':List bH}(h:Q .normal env' ⟨nx',m⟩)
  (he:FX env rs cm=env':=by repeat(first|apply cmC cv (by simp only[List.set_cons_zero,List.set_cons_succ];exact rfl)|with_reducible exact cmN)) (hn:nx+rs.length=nx':=by simp only[bR,cb,Nat.reduceAdd];exact rfl):aC Y draw [] fq rs nx m (fun vs st'=>Q .normal (fo env vs cm) st'):=
 JC h he hn
end
def Fam (_:Prop):Type:=Unit
def vK {q:Prop}:Fam q:=()
structure Hid (q:Prop)(f:Fam q):Prop where
 val:q
section
variable {Y:Ctx} {draw b1:Bool} {r:List GI} {env rs:List bH} {nx n0 n1:Nat} {m:List (Nat×bA)} {K:List bH->St->Prop} {g:Option (Nat×Bool)} {x0 x1 x2:Src}
def tg0 {Y:Ctx}{a:AC}{Q:Ex->List bH->St->Prop}{env:List bH}{st:St}(h:bZ Y a Q env st):bZ Y a Q env st:=h
def tg1 (h:aC Y draw (⟨.mv x0,g⟩::r) env rs nx m K):aC Y draw (⟨.mv x0,g⟩::r) env rs nx m K:=h
def tg2 (h:aC Y draw [] env rs nx m K):aC Y draw [] env rs nx m K:=h
def tg3 (h:aC Y draw (⟨.fa n0 x1,g⟩::r) env rs nx m K):aC Y draw (⟨.fa n0 x1,g⟩::r) env rs nx m K:=h
def tg4 (h:aC Y draw (⟨.ld n0 b1 x2,g⟩::r) env rs nx m K):aC Y draw (⟨.ld n0 b1 x2,g⟩::r) env rs nx m K:=h
def tg5 (h:aC Y draw (⟨.bin .lss x0 x1,g⟩::r) env rs nx m K):aC Y draw (⟨.bin .lss x0 x1,g⟩::r) env rs nx m K:=h
def tg6 (h:aC Y draw (⟨.bin .eql x0 x1,g⟩::r) env rs nx m K):aC Y draw (⟨.bin .eql x0 x1,g⟩::r) env rs nx m K:=h
def tg7 (h:aC Y draw (⟨.bin .add x0 x1,g⟩::r) env rs nx m K):aC Y draw (⟨.bin .add x0 x1,g⟩::r) env rs nx m K:=h
def tg8 (h:aC Y draw (⟨.bin .gtr x0 x1,g⟩::r) env rs nx m K):aC Y draw (⟨.bin .gtr x0 x1,g⟩::r) env rs nx m K:=h
def tg9 (h:aC Y draw (⟨.bin .neq x0 x1,g⟩::r) env rs nx m K):aC Y draw (⟨.bin .neq x0 x1,g⟩::r) env rs nx m K:=h
def tg10 (h:aC Y draw (⟨.bin .leq x0 x1,g⟩::r) env rs nx m K):aC Y draw (⟨.bin .leq x0 x1,g⟩::r) env rs nx m K:=h
def tg11 (h:aC Y draw (⟨.bin .geq x0 x1,g⟩::r) env rs nx m K):aC Y draw (⟨.bin .geq x0 x1,g⟩::r) env rs nx m K:=h
def tg12 (h:aC Y draw (⟨.bin .sub x0 x1,g⟩::r) env rs nx m K):aC Y draw (⟨.bin .sub x0 x1,g⟩::r) env rs nx m K:=h
def tg13 (h:aC Y draw (⟨.ext x0 n1,g⟩::r) env rs nx m K):aC Y draw (⟨.ext x0 n1,g⟩::r) env rs nx m K:=h
def tg14 (h:aC Y draw (⟨.pick x0 x1 (.c (.bool false)),g⟩::r) env rs nx m K):aC Y draw (⟨.pick x0 x1 (.c (.bool false)),g⟩::r) env rs nx m K:=h
def tg15 (h:aC Y draw (⟨.pick x0 (.c (.bool true)) x1,g⟩::r) env rs nx m K):aC Y draw (⟨.pick x0 (.c (.bool true)) x1,g⟩::r) env rs nx m K:=h
def tg16 (h:aC Y draw (⟨.un .not x0,g⟩::r) env rs nx m K):aC Y draw (⟨.un .not x0,g⟩::r) env rs nx m K:=h
def tg17 (h:aC Y draw (⟨.nilck x0,g⟩::r) env rs nx m K):aC Y draw (⟨.nilck x0,g⟩::r) env rs nx m K:=h
def tg18 (h:aC Y draw (⟨.box n0 x1,g⟩::r) env rs nx m K):aC Y draw (⟨.box n0 x1,g⟩::r) env rs nx m K:=h
def tg19 (h:aC Y draw (⟨.ia n0 x1 x2,g⟩::r) env rs nx m K):aC Y draw (⟨.ia n0 x1 x2,g⟩::r) env rs nx m K:=h
def tg20 (h:aC Y draw (⟨.ixS x0 x1,g⟩::r) env rs nx m K):aC Y draw (⟨.ixS x0 x1,g⟩::r) env rs nx m K:=h
def tg21 (h:aC Y draw (⟨.st n0 x1 x2,g⟩::r) env rs nx m K):aC Y draw (⟨.st n0 x1 x2,g⟩::r) env rs nx m K:=h
def tg22 (h:aC Y draw (⟨.len x0,g⟩::r) env rs nx m K):aC Y draw (⟨.len x0,g⟩::r) env rs nx m K:=h
def tg23 (h:aC Y draw (⟨.lenS x0,g⟩::r) env rs nx m K):aC Y draw (⟨.lenS x0,g⟩::r) env rs nx m K:=h
def tg24 (h:aC Y draw (⟨.rng x0,g⟩::r) env rs nx m K):aC Y draw (⟨.rng x0,g⟩::r) env rs nx m K:=h
def tg25 (h:aC Y draw (⟨.s2b x0,g⟩::r) env rs nx m K):aC Y draw (⟨.s2b x0,g⟩::r) env rs nx m K:=h
def tg26 (h:aC Y draw (⟨.mkB,g⟩::r) env rs nx m K):aC Y draw (⟨.mkB,g⟩::r) env rs nx m K:=h
def tg27 (h:aC Y draw (⟨.app n0 x1 x2,g⟩::r) env rs nx m K):aC Y draw (⟨.app n0 x1 x2,g⟩::r) env rs nx m K:=h
end
def aw {p q:Prop}(k:q)(h:Hid q vK->p:=by
 intro h;first
 |((with_reducible refine tg0 ?_);first|with_reducible exact ak h.1|with_reducible exact HZ h.1|with_reducible exact BG h.1|with_reducible exact MS h.1|with_reducible exact Fb h.1|with_reducible exact wp_ret h.1|with_reducible exact wp_skip h.1|with_reducible exact BE h.1|with_reducible exact wp_exit h.1|with_reducible exact Ac h.1 hm|with_reducible exact Fa h.1 hm)
 |((with_reducible refine tg1 ?_);(refine PI ?_;exact h.1))
 |((with_reducible refine tg2 ?_);first|(refine rrrh ?_;exact h.1)|(refine rrrg ?_;exact h.1))
 |((with_reducible refine tg3 ?_);first|(refine PE ?_;exact h.1)|(refine PF ?_;exact h.1))
 |((with_reducible refine tg4 ?_);first|exact ay (.int _ _) h.1|exact ay (.str _) h.1|(refine bd (v:=.str _) ?_;exact h.1)|(refine ij (v:=.str _) ?_;exact h.1)|(refine bd (v:=.int _ _) ?_;exact h.1)|(refine ij (v:=.int _ _) ?_;exact h.1)|exact ay (.sl _ _) h.1|exact ay (.own _ _ _ _) h.1|exact ay (.bool _) h.1|(refine bd (v:=.sl _ _) ?_;exact h.1)|(refine ij (v:=.sl _ _) ?_;exact h.1)|(refine bd (v:=.bool _) ?_;exact h.1)|(refine ij (v:=.bool _) ?_;exact h.1)|exact aW h.1|exact ay .aA h.1)
 |((with_reducible refine tg5 ?_);first|(refine Bd ?_;exact h.1)|(refine MA ?_;exact h.1))
 |((with_reducible refine tg6 ?_);first|(refine Mo ?_;exact h.1)|(refine Mp ?_;exact h.1))
 |((with_reducible refine tg7 ?_);(refine aG ?_;exact h.1))
 |((with_reducible refine tg8 ?_);first|(refine Ms ?_;exact h.1)|(refine Mt ?_;exact h.1))
 |((with_reducible refine tg9 ?_);first|(refine MB ?_;exact h.1)|(refine MC ?_;exact h.1))
 |((with_reducible refine tg10 ?_);first|(refine My ?_;exact h.1)|(refine Mz ?_;exact h.1))
 |((with_reducible refine tg11 ?_);first|(refine Mq ?_;exact h.1)|(refine Mr ?_;exact h.1))
 |((with_reducible refine tg12 ?_);(refine eW ?_;exact h.1))
 |((with_reducible refine tg13 ?_);first|exact gh (.int _ _) h.1|exact gh (.str _) h.1|exact gh (.bool _) h.1)
 |((with_reducible refine tg14 ?_);(refine PC ?_;exact h.1))
 |((with_reducible refine tg15 ?_);(refine r_or ?_;exact h.1))
 |((with_reducible refine tg16 ?_);(refine PJ ?_;exact h.1))
 |((with_reducible refine tg17 ?_);first|(refine MD ?_;exact h.1)|(refine ME ?_;exact h.1))
 |((with_reducible refine tg18 ?_);(refine PD ?_;exact h.1))
 |((with_reducible refine tg19 ?_);first|exact bh _ h.1|exact Ha h.1|exact fh _ h.1|exact Mu h.1)
 |((with_reducible refine tg20 ?_);first|exact Hb _ h.1|exact Mw h.1)
 |((with_reducible refine tg21 ?_);exact dC _ h.1)
 |((with_reducible refine tg22 ?_);first|exact Hc fun a=>(h.1:_->_) (a rfl rfl)|exact Hd fun a=>(h.1:_->_) (a rfl rfl)|(refine Mx ?_;exact h.1))
 |((with_reducible refine tg23 ?_);exact He fun a=>(h.1:_->_) (a rfl rfl))
 |((with_reducible refine tg24 ?_);(refine PL ?_;exact h.1))
 |((with_reducible refine tg25 ?_);(refine PM ?_;exact h.1))
 |((with_reducible refine tg26 ?_);(refine PG ?_;exact h.1))
 |((with_reducible refine tg27 ?_);(refine fA ?_;exact h.1))
 |with_reducible exact BQ.normal h.1|with_reducible exact BQ.ret h.1|with_reducible exact LQ.normal h.1|with_reducible exact LQ.out h.1|with_reducible exact LQ.ret h.1|with_reducible exact BQ.out h.1|with_reducible exact An.normal h.1|with_reducible exact An.ret h.1|with_reducible exact Ap.normal h.1|with_reducible exact Ap.ret h.1|with_reducible exact An.out h.1|with_reducible exact Ap.out h.1|with_reducible exact CQ.normal h.1|with_reducible exact CQ.ret h.1|with_reducible exact CQ.other h.1|((with_reducible refine BQ.other ?_ h.1);exact rfl)|((with_reducible refine LQ.other ?_ h.1);exact rfl)|((with_reducible refine An.other ?_ h.1);exact rfl)|((with_reducible refine Ap.other ?_ h.1);exact rfl)):p:=h ⟨k⟩
def lP {p q:Prop}(k:q)(h:Hid q vK->p:=by intro h;first|exact Hc fun _=>h.1|exact He fun _=>h.1|exact Hd fun _=>h.1):p:=h ⟨k⟩
section
variable {Y:Ctx} {Q:Ex->List bH->St->Prop}
end
def tp:(∀{p:Prop} [Decidable p],(decide p=true)=p)/\(∀{p:Prop} [Decidable p],decide p=false↔¬p)/\(∀b:Bool,((!b)=true)=(b=false))/\(∀b:Bool,((!b)=false)=(b=true))/\(∀b:Bool,(¬(b=false))=(b=true))/\(∀a b:Bool,((a ||b)=true)=(a=true\/b=true))/\(∀{a b:Bool},(a ||b)=false↔a=false/\b=false)/\(∀a b:Bool,((a&&b)=true)=(a=true/\b=true))/\(∀{a b:Bool},(a&&b)=false↔a=false\/b=false)/\(∀b:Bool,(¬(b=true))=(b=false))/\(∀b:Bool,(true&&b)=b)/\∀b:Bool,(b&&true)=b:=
 ⟨bX,dE,eC,qp,Bool.not_eq_false,eu,iI,bo,fM,Bool.not_eq_true,nQ,eO⟩
section
variable {Y:Ctx} {Q:Ex->List bH->St->Prop} {env:List bH} {st:St}
def di {c:Src}{a b r:AC}{t:Bool}{c1 c2:Prop}(h1:c1->bZ Y (.seq a r) Q env st)(h2:c2->bZ Y (.seq b r) Q env st)(hc:cF env [] c=⟨true,.bool t⟩:=by exact rfl)(e1:t=true->c1:=by intro h;(try simp only[tp]at h);exact h)(e2:t=false->c2:=by intro h;(try simp only[tp]at h);exact h):bZ Y (.seq (.cond c a b) r) Q env st:=bn (fun h=>h1 (e1 h)) (fun h=>h2 (e2 h)) hc
def hJ {c:Src}{a b:AC}{t:Bool}{c1 c2:Prop}(h1:c1->bZ Y a Q env st)(h2:c2->bZ Y b Q env st)(hc:cF env [] c=⟨true,.bool t⟩:=by exact rfl)(e1:t=true->c1:=by intro h;(try simp only[tp]at h);exact h)(e2:t=false->c2:=by intro h;(try simp only[tp]at h);exact h):bZ Y (.cond c a b) Q env st:=wp_cond (fun h=>h1 (e1 h)) (fun h=>h2 (e2 h)) hc
end
end Go.Abs
namespace Go.Abs
def az {p q:Prop}(k:q)(h:Hid q vK->p:=by intro h;(iterate 2 refine aw ?_);exact h.1):p:=h ⟨k⟩
def av {p q:Prop}(k:q)(h:Hid q vK->p:=by intro h;(iterate 3 refine aw ?_);exact h.1):p:=h ⟨k⟩
def aT {p q:Prop}(k:q)(h:Hid q vK->p:=by intro h;(iterate 4 refine aw ?_);exact h.1):p:=h ⟨k⟩
def aF {p q:Prop}(k:q)(h:Hid q vK->p:=by intro h;(iterate 5 refine aw ?_);exact h.1):p:=h ⟨k⟩
def bj {p q:Prop}(k:q)(h:Hid q vK->p:=by intro h;(iterate 6 refine aw ?_);exact h.1):p:=h ⟨k⟩
def cN {p q:Prop}(k:q)(h:Hid q vK->p:=by intro h;(iterate 7 refine aw ?_);exact h.1):p:=h ⟨k⟩
def iK {p q:Prop}(k:q)(h:Hid q vK->p:=by intro h;(iterate 8 refine aw ?_);exact h.1):p:=h ⟨k⟩
def iM {p q:Prop}(k:q)(h:Hid q vK->p:=by intro h;(iterate 9 refine aw ?_);exact h.1):p:=h ⟨k⟩
def kM {p q:Prop}(k:q)(h:Hid q vK->p:=by intro h;(iterate 10 refine aw ?_);exact h.1):p:=h ⟨k⟩
def rU {p q:Prop}(k:q)(h:Hid q vK->p:=by intro h;(iterate 11 refine aw ?_);exact h.1):p:=h ⟨k⟩
def lO {p q:Prop}(k:q)(h:Hid q vK->p:=by intro h;(iterate 12 refine aw ?_);exact h.1):p:=h ⟨k⟩
def DY {p q:Prop}(k:q)(h:Hid q vK->p:=by intro h;(iterate 13 refine aw ?_);exact h.1):p:=h ⟨k⟩
def KN {p q:Prop}(k:q)(h:Hid q vK->p:=by intro h;(iterate 14 refine aw ?_);exact h.1):p:=h ⟨k⟩
def KO {p q:Prop}(k:q)(h:Hid q vK->p:=by intro h;(iterate 15 refine aw ?_);exact h.1):p:=h ⟨k⟩
def Qd {p q:Prop}(k:q)(h:Hid q vK->p:=by intro h;(iterate 16 refine aw ?_);exact h.1):p:=h ⟨k⟩
def Qe {p q:Prop}(k:q)(h:Hid q vK->p:=by intro h;(iterate 18 refine aw ?_);exact h.1):p:=h ⟨k⟩
def Qf {p q:Prop}(k:q)(h:Hid q vK->p:=by intro h;(iterate 21 refine aw ?_);exact h.1):p:=h ⟨k⟩
def Qg {p q:Prop}(k:q)(h:Hid q vK->p:=by intro h;(iterate 26 refine aw ?_);exact h.1):p:=h ⟨k⟩
def Qh {p q:Prop}(k:q)(h:Hid q vK->p:=by intro h;(iterate 28 refine aw ?_);exact h.1):p:=h ⟨k⟩
end Go.Abs
namespace Go.Abs
abbrev s0:Src:=.s 0
abbrev s1:Src:=.s 1
abbrev s2:Src:=.s 2
abbrev s3:Src:=.s 3
abbrev s4:Src:=.s 4
abbrev s5:Src:=.s 5
abbrev s6:Src:=.s 6
abbrev s7:Src:=.s 7
abbrev s8:Src:=.s 8
abbrev s9:Src:=.s 9
abbrev jh:Src:=.s 10
abbrev oD:Src:=.s 11
abbrev lq:Src:=.s 12
abbrev vC:Src:=.s 13
abbrev zK:Src:=.s 14
abbrev JL:Src:=.s 15
abbrev KF:Src:=.s 16
abbrev KG:Src:=.s 17
abbrev s18:Src:=.s 18
abbrev l0:Src:=.l 0
abbrev l1:Src:=.l 1
abbrev l2:Src:=.l 2
abbrev l3:Src:=.l 3
abbrev l4:Src:=.l 4
abbrev l5:Src:=.l 5
abbrev l6:Src:=.l 6
abbrev l7:Src:=.l 7
abbrev l8:Src:=.l 8
abbrev l9:Src:=.l 9
abbrev l10:Src:=.l 10
abbrev hO:Src:=.l 11
abbrev jm:Src:=.l 12
abbrev jZ:Src:=.l 13
abbrev ll:Src:=.l 14
abbrev mG:Src:=.l 15
abbrev oA:Src:=.l 16
abbrev sc:Src:=.l 17
abbrev vA:Src:=.l 18
abbrev yX:Src:=.l 19
abbrev Er:Src:=.l 20
abbrev Es:Src:=.l 21
abbrev Ci:Src:=.l 22
abbrev Ic:Src:=.l 23
abbrev Ky:Src:=.l 24
abbrev L3:Src:=.l 25
abbrev Pw:Src:=.l 26
abbrev Px:Src:=.l 27
abbrev Py:Src:=.l 28
abbrev l29:Src:=.l 29
abbrev l30:Src:=.l 30
abbrev l31:Src:=.l 31
abbrev l32:Src:=.l 32
abbrev l33:Src:=.l 33
abbrev l34:Src:=.l 34
abbrev l35:Src:=.l 35
abbrev l36:Src:=.l 36
abbrev l37:Src:=.l 37
abbrev l38:Src:=.l 38
abbrev l39:Src:=.l 39
abbrev gm (x:Src):GI:=⟨.mv x,none⟩
abbrev gn (x:aB):GI:=⟨x,none⟩
abbrev i6 (n:Int):Src:=.c (.int .i64 n)
abbrev cs (s:List UInt8):Src:=.c (.str s)
abbrev gd (x:Src):GI:=⟨.ld 1 false x,none⟩
abbrev gk (n:Nat)(b:Bool)(x:Src):GI:=⟨.ld n b x,none⟩
abbrev gf (n:Nat)(x:Src):GI:=⟨.fa n x,none⟩
abbrev gl (x:Src):GI:=⟨.len x,none⟩
abbrev ga (n:Nat)(x y:Src):GI:=⟨.ia n x y,none⟩
abbrev ge (x:Src)(n:Nat):GI:=⟨.ext x n,none⟩
abbrev gb (n:Nat)(x:Src):GI:=⟨.box n x,none⟩
abbrev gc (x:Src):GI:=⟨.nilck x,none⟩
abbrev gt (n:Nat)(x y:Src):GI:=⟨.st n x y,none⟩
abbrev gx (n:Nat)(x:List Src)(y:List (List Sh)):GI:=⟨.call n x y,none⟩
abbrev rg (x:List GI)(y:List (Nat×Nat)):AC:=.reg false x y
abbrev rt (x:List GI)(y:List (Nat×Nat)):AC:=.reg true x y
abbrev jL (x y:Src):aB:=.bin .lss x y
abbrev eX (x y:Src):aB:=.bin .eql x y
abbrev eY (x y:Src):aB:=.bin .gtr x y
abbrev mD (x y:Src):aB:=.bin .neq x y
abbrev yE (x y:Src):aB:=.bin .leq x y
abbrev iO (x y:Src):aB:=.bin .geq x y
abbrev tm (x y:Src):aB:=.bin .sub x y
abbrev Ko (x y:Src):aB:=.bin .and x y
abbrev dG:Src:=.c (.bool false)
abbrev pK:Src:=.c (.bool true)
abbrev cse:Src:=.c (.str [])
abbrev b9:Src:=.c (.int .i64 0)
abbrev cS:Src:=.c (.int .i64 1)
abbrev Cf:Src:=.c (.int .i64 2)
abbrev I7:Src:=.c (.int .i64 3)
abbrev LZ:Src:=.c (.int .i64 4)
abbrev ic5:Src:=.c (.int .i64 5)
abbrev ic6:Src:=.c (.int .i64 6)
abbrev ic8:Src:=.c (.int .i64 8)
abbrev ic9:Src:=.c (.int .i64 9)
abbrev gmt (n:Nat)(x:Src):GI:=⟨.mv x,some (n,true)⟩
abbrev jV (n:Nat)(x:Src):GI:=⟨.ld 1 false x,some (n,true)⟩
abbrev fR (n o:Nat)(x:Src):GI:=⟨.fa o x,some (n,true)⟩
abbrev cI (n:Nat)(x:aB):GI:=⟨x,some (n,true)⟩
abbrev fN (n:Nat)(x:Src):GI:=⟨.mv x,some (n,false)⟩
abbrev kJ (n:Nat)(x:Src):GI:=⟨.ld 1 false x,some (n,false)⟩
abbrev j9 (n o:Nat)(x:Src):GI:=⟨.fa o x,some (n,false)⟩
abbrev cX (n:Nat)(x:aB):GI:=⟨x,some (n,false)⟩
abbrev sq (a b:AC):AC:=.seq a b
abbrev Ib (x:Src):AC:=.seq (.reg false [⟨.mv x,none⟩] [(1,0)]) .ret
abbrev AM (c x:Src):AC:=.cond c (.seq (.reg false [⟨.mv x,none⟩] [(1,0)]) .ret) .skip
abbrev dF:List (List Sh):=[[.a]]
abbrev ha2:List (List Sh):=[[.a,.a]]
abbrev nZ:List (List Sh):=[[.a,.a,.a,.a,.a]]
abbrev we:List (List Sh):=[[.a,.a,.a,.a,.a,.a,.a]]
abbrev mN:List (List Sh):=[[.a],[.a]]
abbrev fO (c x:Src):GI:=⟨.pick c (.c (.bool true)) x,none⟩
abbrev gM (c x:Src):GI:=⟨.pick c x (.c (.bool false)),none⟩
abbrev Pn (n:Nat)(c x:Src):GI:=⟨.pick c (.c (.bool true)) x,some (n,true)⟩
abbrev AL (n:Nat)(c x:Src):GI:=⟨.pick c x (.c (.bool false)),some (n,false)⟩
abbrev aR (x y:Src):GI:=⟨.bin .lss x y,none⟩
abbrev ct (x y:Src):GI:=⟨.bin .eql x y,none⟩
abbrev aU (x y:Src):GI:=⟨.bin .add x y,none⟩
abbrev iY (x y:Src):GI:=⟨.bin .gtr x y,none⟩
abbrev dI (x y:Src):GI:=⟨.bin .neq x y,none⟩
abbrev A6 (x y:Src):GI:=⟨.bin .leq x y,none⟩
abbrev mr (x y:Src):GI:=⟨.bin .geq x y,none⟩
abbrev iC (x y:Src):GI:=⟨.bin .sub x y,none⟩
abbrev iX (x y:Src):GI:=⟨.bin .and x y,none⟩
abbrev Cn (x y:Src):GI:=⟨.bin .or x y,none⟩
abbrev fX (c:Src)(n:Nat):AC:=.cond c .skip (.exit n)
abbrev i8 (n:Int):Src:=.c (.int .u8 n)
abbrev i3 (n:Int):Src:=.c (.int .i32 n)
abbrev iu (n:Int):Src:=.c (.int .u64 n)
abbrev I5 (x:Src):GI:=⟨.lenS x,none⟩
abbrev nu (x:Src):GI:=⟨.un .not x,none⟩
abbrev LV (x y:Src):GI:=⟨.ixS x y,none⟩
abbrev r1 (x:List GI)(a b:Nat):AC:=.reg false x [(a,b)]
abbrev r2 (x:List GI)(a b:Nat):AC:=.reg true x [(a,b)]
abbrev mP:List Aq:=[⟨1,none⟩]
end Go.Abs
end
namespace Go.Abs
def tc (T:List D->D->Prop):Prop:=∀(s:dn),T [.str s] (.tup [.int .i64 (sg s),.bool (jJ s)])
def La (Y:Ctx):Prop:=tc (bW Y 658)
def sY (T:List D->D->Prop):Prop:=∀(s:dn) (b:Int),(s.length<=1048576)->T [.str s,.int .u8 b] (.sl 1 ((bm s b).map D.str))
def It (Y:Ctx):Prop:=sY (bW Y 533)
def td (T:List D->D->Prop):Prop:=∀(t:dn),T [.str t] (.bool (cD t))
def Lb (Y:Ctx):Prop:=td (bW Y 659)
def sU (T:List D->D->Prop):Prop:=∀(n:Int),T [.int .i64 n] (.bool (AI n))
def Nn (Y:Ctx):Prop:=sU (bW Y 440)
def Dg (T:List D->D->Prop):Prop:=∀(s:dn),(s.length<=1048576)->T [.str s] (.bool (lL s false))
def K3 (Y:Ctx):Prop:=Dg (bW Y 442)
def DH (T:List D->D->Prop):Prop:=∀(x:Int),T [.int .i64 x] (.bool false)
def NO (Y:Ctx):Prop:=DH (bW Y 714)
def DG (T:List D->D->Prop):Prop:=∀(x:dn),T [.str x] (.bool false)
def NM (Y:Ctx):Prop:=DG (bW Y 704)
def sX (T:List D->D->Prop):Prop:=∀(a:Int) (b:Int),T [.int .i64 a,.int .i64 b] (.int .i64 (cY a b))
def Is (Y:Ctx):Prop:=sX (bW Y 532)
def sV (T:List D->D->Prop):Prop:=∀(a:dn) (b:dn),T [.str a,.str b] (.int .i64 (kB a b))
def K5 (Y:Ctx):Prop:=sV (bW Y 516)
def Dj (T:List D->D->Prop):Prop:=∀(l:List Int),T [.sl 1 (l.map (D.int .i64))] (.int .i64 (fV (fun i=>l[i]!) 0 l.length))
def K6 (Y:Ctx):Prop:=Dj (bW Y 531)
def sW (T:List D->D->Prop):Prop:=∀(v:a8),T [a8.D v] (a8.D (jo v))
def Ns (Y:Ctx):Prop:=sW (bW Y 530)
def sZ (T:List D->D->Prop):Prop:=∀(a:dn) (b:dn),T [.str a,.str b] (.int .i64 (ow a b))
def Nt (Y:Ctx):Prop:=sZ (bW Y 534)
def K4 (Y:Ctx):Prop:=sY (bW Y 470)
def Dh (T:List D->D->Prop):Prop:=∀(c:Int),T [.int .u8 c] (.bool (cW c))
def Np (Y:Ctx):Prop:=Dh (bW Y 454)
def Lc (Y:Ctx):Prop:=tc (bW Y 667)
def Ld (Y:Ctx):Prop:=td (bW Y 668)
def DF (T:List D->D->Prop):Prop:=∀(t:dn),T [.str t] (.bool (ov t))
def NL (Y:Ctx):Prop:=DF (bW Y 666)
def Di (T:List D->D->Prop):Prop:=∀(s:dn) (p:Bool),(s.length<=1048576)->T [.str s,.bool p] (.bool (rS s p))
def Nr (Y:Ctx):Prop:=Di (bW Y 456)
def Nq (Y:Ctx):Prop:=sU (bW Y 455)
def sS (T:List D->D->Prop):Prop:=∀(v:a8),(v.sm)->T [a8.D v] (.bool (jD v))
def wZ (Y:Ctx):Prop:=sS (bW Y 217)
def Fo (Y:Ctx):Prop:=sX (bW Y 630)
def N0 (Y:Ctx):Prop:=sV (bW Y 927)
def NT (Y:Ctx):Prop:=sZ (bW Y 783)
def Du (T:List D->D->Prop):Prop:=∀(a:dn) (b:dn),(a.length<=1048576/\b.length<=1048576)->T [.str a,.str b] (.int .i64 (qX a b))
def NB (Y:Ctx):Prop:=Du (bW Y 631)
def sT (T:List D->D->Prop):Prop:=∀(a:a8) (b:a8),(a.sm/\b.sm)->T [a8.D a,a8.D b] (.int .i64 (j8 a b))
def K0 (Y:Ctx):Prop:=sT (bW Y 424)
def qn (T:List D->D->Prop):Prop:=∀(c:Cut),(c.v.sm)->T [Cut.D c] (.bool (kC c))
def BK (Y:Ctx):Prop:=qn (bW Y 1086)
def ql (T:List D->D->Prop):Prop:=∀(a:Cut) (b:Cut),(a.v.sm/\b.v.sm)->T [Cut.D a,Cut.D b] (.int .i64 (fF a b))
def vT (Y:Ctx):Prop:=ql (bW Y 1020)
def qm (T:List D->D->Prop):Prop:=∀(c:Cut) (v:a8),(c.v.sm/\v.sm)->T [Cut.D c,a8.D v] (.bool (fS c v))
def J7 (Y:Ctx):Prop:=qm (bW Y 1025)
def qk (T:List D->D->Prop):Prop:=∀(s:Span),(s.sm)->T [Span.D s] (.bool (jB s))
def BJ (Y:Ctx):Prop:=qk (bW Y 1019)
def th (T:List D->D->Prop):Prop:=∀(s:Span) (v:a8),(s.sm/\v.sm)->T [Span.D s,a8.D v] (.bool (kU s v))
def NZ (Y:Ctx):Prop:=th (bW Y 926)
def tg (T:List D->D->Prop):Prop:=∀(l:List Span),(bB l)->T [.sl 14 (l.map Span.D)] (.bool (k8 l))
def Fq (Y:Ctx):Prop:=tg (bW Y 916)
def tf (T:List D->D->Prop):Prop:=∀(l:List Span) (v:a8),(bB l/\v.sm)->T [.sl 14 (l.map Span.D),a8.D v] (.bool (my l v))
def NS (Y:Ctx):Prop:=tf (bW Y 782)
def Dl (T:List D->D->Prop):Prop:=∀(v:a8),T [a8.D v] (.bool (o9 v))
def K8 (Y:Ctx):Prop:=Dl (bW Y 600)
def DN (T:List D->D->Prop):Prop:=∀(c:Cut),T [Cut.D c] (.bool (jg c))
def NX (Y:Ctx):Prop:=DN (bW Y 917)
def te (T:List D->D->Prop):Prop:=∀(s:bp),(s.sm)->T [bp.D s] (.bool (mA s))
def Iw (Y:Ctx):Prop:=te (bW Y 770)
def ta (T:List D->D->Prop):Prop:=∀(s:bp) (v:a8),(s.sm/\v.sm)->T [bp.D s,a8.D v] (.bool (mM s v))
def NA (Y:Ctx):Prop:=ta (bW Y 627)
def Dm (T:List D->D->Prop):Prop:=T [] (Cut.D mg)
def Iu (Y:Ctx):Prop:=Dm (bW Y 601)
def Dp (T:List D->D->Prop):Prop:=T [] (Cut.D pY)
def Iv (Y:Ctx):Prop:=Dp (bW Y 603)
def K7 (Y:Ctx):Prop:=sW (bW Y 599)
def C1 (T:List D->D->Prop):Prop:=∀(v:a8),T [a8.D v] (Cut.D (kG v))
def Io (Y:Ctx):Prop:=C1 (bW Y 376)
def C2 (T:List D->D->Prop):Prop:=∀(v:a8),T [a8.D v] (Cut.D (sF v))
def Nb (Y:Ctx):Prop:=C2 (bW Y 377)
def DI (T:List D->D->Prop):Prop:=∀(v:a8) (p:Int),(v.sm)->T [a8.D v,.int .i64 p] (.tup [a8.D (fk v p).1,.bool (fk v p).2])
def NP (Y:Ctx):Prop:=DI (bW Y 769)
def Dn (T:List D->D->Prop):Prop:=∀(v:a8),(v.sm)->T [a8.D v] (.tup [a8.D (hZ v).1,.bool (hZ v).2])
def Nv (Y:Ctx):Prop:=Dn (bW Y 602)
def C0 (T:List D->D->Prop):Prop:=T [] (bp.D uw)
def Fm (Y:Ctx):Prop:=C0 (bW Y 375)
def Dk (T:List D->D->Prop):Prop:=T [] (.sl 14 (pE.map Span.D))
def Nu (Y:Ctx):Prop:=Dk (bW Y 598)
def CZ (T:List D->D->Prop):Prop:=T [] (bp.D vF)
def KY (Y:Ctx):Prop:=CZ (bW Y 374)
def C3 (T:List D->D->Prop):Prop:=∀(v:a8),T [a8.D v] (Cut.D (m7 v))
def Nc (Y:Ctx):Prop:=C3 (bW Y 378)
def C4 (T:List D->D->Prop):Prop:=∀(v:a8),T [a8.D v] (Cut.D (yF v))
def Nd (Y:Ctx):Prop:=C4 (bW Y 379)
def CP (T:List D->D->Prop):Prop:=∀(v:a8),(v.sm)->T [a8.D v] (bp.D (bF v))
def KR (Y:Ctx):Prop:=CP (bW Y 156)
def Ag (T:List D->D->Prop):Prop:=∀(l:List Cut) (c:Cut),((mX l/\c.sm)/\l.length<=10000)->T [.sl 7 (l.map Cut.D),Cut.D c] (.sl 7 ((rY l c).map Cut.D))
def J6 (Y:Ctx):Prop:=Ag (bW Y 1021)
def DO (T:List D->D->Prop):Prop:=∀(l:List Span),(bB l/\l.length<=2000)->T [.sl 14 (l.map Span.D)] (.sl 7 ((cC l).map Cut.D))
def Li (Y:Ctx):Prop:=DO (bW Y 919)
def DP (T:List D->D->Prop):Prop:=∀(l:List Span) (f:Cut) (t:Cut),(bB l/\f.sm/\t.sm)->T [.sl 14 (l.map Span.D),Cut.D f,Cut.D t] (.bool (oU l f t))
def Lj (Y:Ctx):Prop:=DP (bW Y 920)
def Ix (Y:Ctx):Prop:=∀(out:List Span) (f t:Cut),((bB out/\f.sm/\t.sm)/\out.length<=100000)->∀(nx lo:Nat) (m:List (Nat×bA)) (K:D->St->Prop),look m lo=some (.buf 14 (out.map Span.D))->lo<nx->K (.own nx 14 0 (kd out f t).length) ⟨nx+1,(nx,.buf 14 ((kd out f t).map Span.D))::cx m lo⟩->Y.tr 921 [.own lo 14 0 out.length,Cut.D f,Cut.D t] ⟨nx,m⟩ K
def Lh (Y:Ctx):Prop:=∀(l:List Span),(bB l/\l.length<=2000)->∀(nx lo:Nat) (m:List (Nat×bA)) (K:D->St->Prop),look m lo=some (.buf 14 (l.map Span.D))->lo<nx->K (.tup [.sl 14 ((nC l).1.map Span.D),.bool (nC l).2]) ⟨nx,cx m lo⟩->Y.tr 918 [.own lo 14 0 l.length] ⟨nx,m⟩ K
def DK (T:List D->D->Prop):Prop:=∀(l:List Span),(bB l/\l.length<=2000)->T [.sl 14 (l.map Span.D)] (.sl 14 ((sf l).map Span.D))
def NR (Y:Ctx):Prop:=DK (bW Y 772)
section
section
variable {Y:Ctx} {draw:Bool} {r:List GI} {env rs:List bH} {nx:Nat} {m:List (Nat×bA)} {K:List bH->St->Prop} {f:Bool} {g:Option (Nat×Bool)}
def uJ {n:Nat}{x:Src}{fx:Bool}{d:D}(k:Nat)(h:aC Y draw r env (⟨f,.fn k [d]⟩::rs) nx m K)(hk:n+4000000=k:=by exact rfl)(hg:GF rs g f:=by first|exact rfl|exact⟨_,_,rfl,rfl⟩)(hx:cF env rs x=⟨fx,d⟩:=by exact rfl)(kx:f=true->fx=true:=by first|exact fun _=>rfl|exact fun h=>h|(intro h;simp_all)):aC Y draw (⟨.mkI n x,g⟩::r) env rs nx m K:=
 bU rfl hg _ (fun hf=>by simp only[aB.dA,hx];exact kx hf) (fun hf=>by simp only[aB.val,hx,hk]) (fun _=>h)
def zo {x:Src}{fx:Bool}{k:Nat}{cs:List D}(b:Bool)(h:aC Y draw r env (⟨f,.bool b⟩::rs) nx m K)(hx:cF env rs x=⟨fx,.fn k cs⟩:=by exact rfl)(hk:4000000<=k/\k<=4600000:=by decide)(hb:(k==4600000)=b:=by exact rfl)(hg:GF rs g f:=by first|exact rfl|exact⟨_,_,rfl,rfl⟩)(kx:f=true->fx=true:=by first|exact fun _=>rfl|exact fun h=>h|(intro h;simp_all)):aC Y draw (⟨.isI x,g⟩::r) env rs nx m K:=
 bU rfl hg _ (fun hf=>by simp only[aB.dA,hx];exact⟨kx hf,hk⟩) (fun hf=>by simp only[aB.val,hx,hb]) (fun _=>h)
def xW {n:Nat}{z:D}{x:Src}{fx:Bool}{k:Nat}{d:D}(h:aC Y draw r env (⟨f,.tup [d,.bool true]⟩::rs) nx m K)(hx:cF env rs x=⟨fx,.fn k [d]⟩:=by exact rfl)(hk:4000000<=k/\k<=4600000:=by decide)(hb:(k==n+4000000)=true:=by exact rfl)(hg:GF rs g f:=by first|exact rfl|exact⟨_,_,rfl,rfl⟩)(kx:f=true->fx=true:=by first|exact fun _=>rfl|exact fun h=>h|(intro h;simp_all)):aC Y draw (⟨.tas n z x,g⟩::r) env rs nx m K:=
 bU rfl hg _ (fun hf=>by simp only[aB.dA,hx];exact⟨kx hf,hk⟩) (fun hf=>by simp only[aB.val,hx,hb,cond_true,gO]) (fun _=>h)
def q9 {n:Nat}{z:D}{x:Src}{fx:Bool}{k:Nat}{cs:List D}(h:aC Y draw r env (⟨f,.tup [z,.bool false]⟩::rs) nx m K)(hx:cF env rs x=⟨fx,.fn k cs⟩:=by exact rfl)(hk:4000000<=k/\k<=4600000:=by decide)(hb:(k==n+4000000)=false:=by exact rfl)(hg:GF rs g f:=by first|exact rfl|exact⟨_,_,rfl,rfl⟩)(kx:f=true->fx=true:=by first|exact fun _=>rfl|exact fun h=>h|(intro h;simp_all)):aC Y draw (⟨.tas n z x,g⟩::r) env rs nx m K:=
 bU rfl hg _ (fun hf=>by simp only[aB.dA,hx];exact⟨kx hf,hk⟩) (fun hf=>by simp only[aB.val,hx,hb,cond_false]) (fun _=>h)
def xT {x:Src}{fx:Bool}{k:Nat}{cs Xe:List D}{v:D}(n:Nat)(h:aC Y draw r env (⟨f,v⟩::rs) nx m K)(hc:Y.pre n Xe/\Y.val n Xe=v)(hx:cF env rs x=⟨fx,.fn k cs⟩:=by exact rfl)(hk:(4000000<=k/\k<4600000)/\k-4000000=n:=by decide)(ha:je m [] cs=Xe:=by exact rfl)(hn:aL cs=true:=by exact rfl)(hg:GF rs g f:=by first|exact rfl|exact⟨_,_,rfl,rfl⟩)(kx:f=true->fx=true:=by first|exact fun _=>rfl|exact fun h=>h|(intro h;simp_all)):aC Y draw (⟨.invk x,g⟩::r) env rs nx m K:=
 fL rfl hg _ (fun hf=>by simp only[aB.dA,hx,hk.2,(cO _ _ _).1,ha];exact⟨kx hf,hk.1,hn,hc.1⟩) (fun hf=>by simp only[aB.val,hx,hk.2,(cO _ _ _).1,ha,hc.2]) m rfl (fun _=>h)
def Jx {x:Src}{j:Nat}{w:Bool}(d:D)(h:aC Y draw r env (⟨false,d⟩::rs) nx m K)(hg:GF rs (some (j,w)) false:=by exact⟨_,_,rfl,rfl⟩):aC Y draw (⟨.invk x,some (j,w)⟩::r) env rs nx m K:=
 fL rfl hg d (fun hf=>by cases hf) (fun hf=>by cases hf) m rfl (fun _=>h)
def wD (h:aC Y draw r env (⟨f,.fn 4700000 []⟩::rs) nx m K)(hg:GF rs g f:=by first|exact rfl|exact⟨_,_,rfl,rfl⟩):aC Y draw (⟨.zal,g⟩::r) env rs nx m K:=
 fL rfl hg _ (fun _=>trivial) (fun _=>rfl) m rfl (fun _=>h)
def Hk {p v:Src}{fp fv:Bool}{cs:List D}(h:aC Y draw r env (⟨f,.any⟩::rs) nx m K)(hx:cF env rs p=⟨fp,.fn 4700000 cs⟩:=by exact rfl)(hy:cF env rs v=⟨fv,.agg []⟩:=by exact rfl)(hg:GF rs g f:=by first|exact rfl|exact⟨_,_,rfl,rfl⟩)(kx:f=true->fp=true:=by first|exact fun _=>rfl|exact fun h=>h|(intro h;simp_all))(ky:f=true->fv=true:=by first|exact fun _=>rfl|exact fun h=>h|(intro h;simp_all)):aC Y draw (⟨.zst p v,g⟩::r) env rs nx m K:=
 bU rfl hg _ (fun hf=>by simp only[aB.dA,hx,hy];exact⟨kx hf,ky hf,trivial⟩) (fun _=>rfl) (fun _=>h)
def xS {n:Nat}{args:List Src}{chk:List (Nat×Nat×Bool×Src)}{Xe:List D}{v:D}{nx':Nat}{m':List (Nat×bA)}(h:aC Y draw r env (⟨true,v⟩::rs) nx' m' K)
  (hc:∀K':D->St->Prop,K' v ⟨nx'+rs.length,m'⟩->Y.tr n Xe ⟨nx+rs.length,m⟩ K') (hn:nx<=nx')
  (hk:∀c∈chk,xy m' c.2.1 (Src.ev env (rs.reverse.take c.1) c.2.2.2).d/\vB m' c.2.1 c.2.2.1 (Src.ev env (rs.reverse.take c.1) c.2.2.2).d=(rs.reverse.getD c.1 .un).d) (ha:fU (cF env rs) args=Xe:=by exact rfl)
  (ho:rN (cF env rs) args:=by repeat' first|exact trivial|exact rfl|refine And.intro ?_ ?_):aC Y draw (⟨.callL n args chk,none⟩::r) env rs nx m K:=by
 unfold aC at h⊢;show none=none/\rN (Src.ev env rs.reverse) args/\Y.tr n (fU (Src.ev env rs.reverse) args) {nx:=nx+rs.reverse.length,m:=m} _;rw[jT,ha,List.length_reverse];refine⟨rfl,ho,hc _ ⟨fun c hcc _=>hk c hcc,by simp only;omega, ?_⟩⟩;simp only[Nat.add_sub_cancel];simpa using h
end
end
def DJ (T:List D->D->Prop):Prop:=∀(a:List Span) (b:List Span),(D3 a/\D3 b)->T [.sl 14 (a.map Span.D),.sl 14 (b.map Span.D)] (.sl 14 ((Fi a b).map Span.D))
def NQ (Y:Ctx):Prop:=DJ (bW Y 771)
def Dq (T:List D->D->Prop):Prop:=∀(a:bp) (b:bp),(Aw a/\Aw b)->T [bp.D a,bp.D b] (bp.D (GU a b))
def Nw (Y:Ctx):Prop:=Dq (bW Y 604)
def Dr (T:List D->D->Prop):Prop:=∀(a:bp),(Aw a)->T [bp.D a] (bp.D (vP a))
def Nx (Y:Ctx):Prop:=Dr (bW Y 605)
def Df (T:List D->D->Prop):Prop:=∀(s:dn),(s.length<=1048576)->T [.str s] (.bool (lL s true))
def No (Y:Ctx):Prop:=Df (bW Y 441)
def Ar (Y:Ctx):Prop:=sS (bW Y 209)
def H3 (T:List D->D->Prop):Prop:=∀(v:Int) (n:Int),(n<=9223372036854775807)->T [.int .i64 v,.int .i64 n] (.int .i64 (ff v n))
def C25 (Y:Ctx):Prop:=H3 (bW Y 25)
def CS (T:List D->D->Prop):Prop:=∀(l:List Int) (i:Int),T [.sl 1 (l.map (D.int .i64)),.int .i64 i] (.int .i64 (ym l i))
def KS (Y:Ctx):Prop:=CS (bW Y 159)
def DZ (Y:Ctx):Prop:=∀(g:Gs) (n:Int),(n<=9223372036854775807)->(0<=g.i/\g.i<=1000000)->Y.fp 109 (Gs.D g) [.int .i64 n]/\Y.fv 109 (Gs.D g) [.int .i64 n]=.int .i64 (g.val n)/\Y.fs 109 (Gs.D g) [.int .i64 n]=Gs.D g.br
def CO (T:List D->D->Prop):Prop:=T [] (.sl 5 (cE.map a8.D))
def M7 (Y:Ctx):Prop:=CO (bW Y 112)
def KZ (Y:Ctx):Prop:=∀(g:Gs) (xs:List CW),(((0<=g.i/\g.i<=900000)/\xs.length<=4)/\∀c∈xs,c.v.sm)->∀(kk:Nat) (E:List D),aL E=true->∀(nx lc:Nat) (m:List (Nat×bA)) (K:D->St->Prop),(lc≠0/\lc≠10/\lc<nx/\11<=nx)->look m 0=some (.buf 2 [Gs.D g])->look m lc=some (.buf 8 (xs.map (CW.D 10)))->look m 10=some (.buf kk E)->K (bp.D (sk g (xs.map CW.v))) ⟨nx,cH m 0 (.buf 2 [Gs.D g.br.br])⟩->Y.tr 380 [.ptr 0 2 0 0,.own lc 8 0 xs.length] ⟨nx,m⟩ K
def Il (Y:Ctx):Prop:=∀(g:Gs) (n:Nat) (nm ft:Nat->dn) (cs:Nat->List CW) (kk:Nat) (E:List D),aL E=true->((0<=g.i/\g.i<=800000)/\Ft n cs)->∀(nx:Nat) (m:List (Nat×bA)) (K:D->St->Prop),11<=nx->IN m g n nm ft cs kk E->K (Want.D (cw g n (gr cs))) ⟨nx,cH m 0 (.buf 2 [Gs.D g.ef])⟩->Y.tr 157 [.ptr 0 2 0 0,.own 1 3 0 n] ⟨nx,m⟩ K
def KQ (Y:Ctx):Prop:=∀(g:Gs) (n:Nat) (nm ft:Nat->dn) (cs:Nat->List CW) (kk:Nat) (E:List D) (most:Int),aL E=true->((0<=g.i/\g.i<=700000)/\Ft n cs/\(0<=most/\most<=3))->∀(nx:Nat) (m:List (Nat×bA)) (K:D->St->Prop),11<=nx->IN m g n nm ft cs kk E->K (.sl 1 ((ax g n (gr cs) most).1.map dH)) ⟨nx,cH m 0 (.buf 2 [Gs.D (ax g n (gr cs) most).2])⟩->Y.tr 155 [.ptr 0 2 0 0,.own 1 3 0 n,.int .i64 most] ⟨nx,m⟩ K
def KP (Y:Ctx):Prop:=∀(g:Gs) (few:Int),((0<=g.i/\g.i<=600000)/\few<=1000)->∀(nx:Nat) (m:List (Nat×bA)) (K:D->St->Prop),look m 0=some (.buf 2 [Gs.D g])->0<nx->K (.own nx 3 0 (ec g few).1.length) ⟨nx+9,MX nx (ec g few).1++cH m 0 (.buf 2 [Gs.D (ec g few).2])⟩->Y.tr 154 [.ptr 0 2 0 0,.int .i64 few] ⟨nx,m⟩ K
def H4 (T:List D->D->Prop):Prop:=∀(ks:List Int) (few:Int),(few<=1000)->T [.sl 1 (ks.map (D.int .i64)),.int .i64 few] (bG.D (cM ks few))
def C36 (Y:Ctx):Prop:=H4 (bW Y 36)
def Im (Y:Ctx):Prop:=sT (bW Y 295)
def BL (Y:Ctx):Prop:=qn (bW Y 1087)
def Fk (Y:Ctx):Prop:=ql (bW Y 1024)
def Ka (Y:Ctx):Prop:=qm (bW Y 1055)
def Fj (Y:Ctx):Prop:=qk (bW Y 1023)
def N7 (Y:Ctx):Prop:=th (bW Y 980)
def Lk (Y:Ctx):Prop:=tg (bW Y 925)
def NW (Y:Ctx):Prop:=tf (bW Y 861)
def DQ (T:List D->D->Prop):Prop:=∀(c:Cut),T [Cut.D c] (.bool (lJ c))
def NY (Y:Ctx):Prop:=DQ (bW Y 924)
def Lg (Y:Ctx):Prop:=te (bW Y 780)
def NN (Y:Ctx):Prop:=ta (bW Y 712)
def C7 (T:List D->D->Prop):Prop:=∀(a:Key) (b:Key),T [Key.D a,Key.D b] (.int .i64 (uD a b))
def Nf (Y:Ctx):Prop:=C7 (bW Y 408)
def Dt (T:List D->D->Prop):Prop:=∀(l:List Want) (n:Int),(∀x∈l,x.sm)->T [.sl 3 (l.map Want.D),.int .i64 n] (.bool (pD n l))
def Nz (Y:Ctx):Prop:=Dt (bW Y 622)
def C8 (T:List D->D->Prop):Prop:=∀(c:dJ) (n:Int),(c.sm)->T [dJ.D c,.int .i64 n] (.bool (nd n c))
def Ng (Y:Ctx):Prop:=C8 (bW Y 409)
def CT (T:List D->D->Prop):Prop:=∀(w:bG),(w.sm)->T [bG.D w] (.bool (yi w))
def M8 (Y:Ctx):Prop:=CT (bW Y 175)
section
section
variable {Y:Ctx} {draw:Bool} {r:List GI} {env rs:List bH} {nx:Nat} {m:List (Nat×bA)} {K:List bH->St->Prop} {g:Option (Nat×Bool)} {f:Bool}
def PH {x y:Src}{fx fy:Bool}{k k2:IntKind}{a b:Int}(v:Int)(h:aC Y draw r env (⟨f,.int k v⟩::rs) nx m K)(hg:GF rs g f:=by first|exact rfl|exact⟨_,_,rfl,rfl⟩)(hx:cF env rs x=⟨fx,.int k a⟩:=by exact rfl)(hy:cF env rs y=⟨fy,.int k2 b⟩:=by exact rfl)(kx:f=true->fx=true:=by first|exact fun _=>rfl|exact fun h=>h|(intro h;simp_all))(ky:f=true->fy=true:=by first|exact fun _=>rfl|exact fun h=>h|(intro h;simp_all))(hv:f=true->(if b<a then b else a)=v):aC Y draw (⟨.mn x y,g⟩::r) env rs nx m K:=
 bU rfl hg _ (fun hf=>by simp[aB.dA,hx,hy,kx hf,ky hf]) (fun hf=>by simp only[aB.val,hx,hy];rw[hv hf]) (fun _=>h)
end
end
def C5 (T:List D->D->Prop):Prop:=∀(n:Int),(0<=n/\n<=40)->T [.int .i64 n] (.int .i64 (2^n.toNat))
def Ip (Y:Ctx):Prop:=C5 (bW Y 381)
def CR (T:List D->D->Prop):Prop:=∀(w:bG) (u:Int),(w.sm)->T [bG.D w,.int .i64 u] (.int .i64 (bD w.us u))
def yn (Y:Ctx):Prop:=CR (bW Y 158)
def C9 (T:List D->D->Prop):Prop:=∀(w:bG) (x:Want),(w.sm/\x.sm)->T [bG.D w,Want.D x] (.int .i64 (fj w.us x))
def Nh (Y:Ctx):Prop:=C9 (bW Y 415)
def C6 (T:List D->D->Prop):Prop:=∀(w:bG) (l:List bM) (u:Int),(w.sm)->T [bG.D w,.sl 2 (l.map bM.D),.int .i64 u] (.int .i64 (aK w.us l u))
def Iq (Y:Ctx):Prop:=C6 (bW Y 406)
def Dz (T:List D->D->Prop):Prop:=∀(c:aY) (u:Int),(c.w.sm)->T [aY.D c,.int .i64 u] (.int .i64 (bD c.w.us u))
def D0 (Y:Ctx):Prop:=Dz (bW Y 636)
def Dx (T:List D->D->Prop):Prop:=∀(c:aY) (l:List bM) (u:Int),(c.w.sm)->T [aY.D c,.sl 2 (l.map bM.D),.int .i64 u] (.int .i64 (aK c.w.us l u))
def Fp (Y:Ctx):Prop:=Dx (bW Y 634)
def Dv (T:List D->D->Prop):Prop:=∀(c:aY) (l:List bM),(c.w.sm/\∀t∈l,tj t.m)->T [aY.D c,.sl 2 (l.map bM.D)] (.bool (eQ c.w.us l))
def K9 (Y:Ctx):Prop:=Dv (bW Y 632)
def Ai (T:List D->D->Prop):Prop:=∀(c:aY) (x:Want),(c.w.sm/\x.sm)->T [aY.D c,Want.D x] (.int .i64 (fj c.w.us x))
def Fl (Y:Ctx):Prop:=Ai (bW Y 1027)
def DX (T:List D->D->Prop):Prop:=∀(c:aY) (row:aq) (k:Int) (x:Want),((c.w.sm/\x.sm)/\0<=k/\k<=30)->T [aY.D c,aq.D row,.int .i64 k,Want.D x] (.bool (tZ c.w.us row k x))
def N6 (Y:Ctx):Prop:=DX (bW Y 934)
def DT (T:List D->D->Prop):Prop:=∀(c:aY) (row:aq) (k:Int) (x:Want),((c.w.sm/\x.sm)/\0<=k/\k<=30)->T [aY.D c,aq.D row,.int .i64 k,Want.D x] (.bool (uW c.w.us row k x))
def N2 (Y:Ctx):Prop:=DT (bW Y 930)
def DS (T:List D->D->Prop):Prop:=∀(x:Want) (c:aY) (row:aq) (k:Int),((c.w.sm/\x.sm)/\0<=k/\k<=30)->T [Want.D x,.ref 3 [aY.D c] 0 0,.ref 5 [aq.D row] 0 0,.ref 1 [.int .i64 k] 0 0] (.bool (fB true c.w.us row k x))
def N1 (Y:Ctx):Prop:=DS (bW Y 929)
def DW (T:List D->D->Prop):Prop:=∀(x:Want) (c:aY) (row:aq) (k:Int),((c.w.sm/\x.sm)/\0<=k/\k<=30)->T [Want.D x,.ref 3 [aY.D c] 0 0,.ref 5 [aq.D row] 0 0,.ref 1 [.int .i64 k] 0 0] (.bool (fB false c.w.us row k x))
def N5 (Y:Ctx):Prop:=DW (bW Y 933)
def Ah (T:List D->D->Prop):Prop:=∀(l:List Want) (b:Bool) (c:aY) (row:aq) (k:Int),((c.w.sm/\∀x∈l,x.sm)/\0<=k/\k<=30)->T [.sl 3 (l.map Want.D),.fn (bif b then 929 else 933) [.ref 3 [aY.D c] 0 0,.ref 5 [aq.D row] 0 0,.ref 1 [.int .i64 k] 0 0]] (.int .i64 (iA (fB b c.w.us row k) l 0))
def J8 (Y:Ctx):Prop:=Ah (bW Y 1026)
def DR (T:List D->D->Prop):Prop:=∀(l:List Want) (b:Bool) (c:aY) (row:aq) (k:Int),((c.w.sm/\∀x∈l,x.sm)/\0<=k/\k<=30)->T [.sl 3 (l.map Want.D),.fn (bif b then 929 else 933) [.ref 3 [aY.D c] 0 0,.ref 5 [aq.D row] 0 0,.ref 1 [.int .i64 k] 0 0]] (.bool (l.any (fB b c.w.us row k)))
def Ll (Y:Ctx):Prop:=DR (bW Y 928)
def DV (T:List D->D->Prop):Prop:=∀(x:List Want) (c:aY) (row:aq) (k:Int),((c.w.sm/\∀w∈x,w.sm)/\0<=k/\k<=30)->T [.sl 3 (x.map Want.D),.ref 3 [aY.D c] 0 0,.ref 5 [aq.D row] 0 0,.ref 1 [.int .i64 k] 0 0] (.bool (gH c.w.us row k x))
def N4 (Y:Ctx):Prop:=DV (bW Y 932)
def Aj (T:List D->D->Prop):Prop:=∀(l:List kA) (c:aY) (row:aq) (k:Int),((c.w.sm/\∀r∈l,∀x∈r,x.sm)/\0<=k/\k<=30)->T [.sl 1 (l.map dH),.fn 932 [.ref 3 [aY.D c] 0 0,.ref 5 [aq.D row] 0 0,.ref 1 [.int .i64 k] 0 0]] (.int .i64 (iA (gH c.w.us row k) l 0))
def J9 (Y:Ctx):Prop:=Aj (bW Y 1028)
def DU (T:List D->D->Prop):Prop:=∀(l:List kA) (c:aY) (row:aq) (k:Int),((c.w.sm/\∀r∈l,∀x∈r,x.sm)/\0<=k/\k<=30)->T [.sl 1 (l.map dH),.fn 932 [.ref 3 [aY.D c] 0 0,.ref 5 [aq.D row] 0 0,.ref 1 [.int .i64 k] 0 0]] (.bool (l.any (gH c.w.us row k)))
def N3 (Y:Ctx):Prop:=DU (bW Y 931)
def DM (T:List D->D->Prop):Prop:=∀(c:aY) (row:aq) (k:Int) (mild:Bool),((c.w.sm/\0<=row.unit/\row.unit<c.w.us.length)/\0<=k/\k<c.w.us[row.unit.toNat]!.cands.length)->T [aY.D c,aq.D row,.int .i64 k,.bool mild] (.bool (mI c.w.us row k.toNat mild))
def NV (Y:Ctx):Prop:=DM (bW Y 785)
def DL (T:List D->D->Prop):Prop:=∀(t:bM) (row:aq),T [bM.D t,.ref 5 [aq.D row] 0 0] (.bool (decide (t.u=row.unit)))
def NU (Y:Ctx):Prop:=DL (bW Y 784)
def Ds (T:List D->D->Prop):Prop:=∀(l:List bM) (row:aq),T [.sl 2 (l.map bM.D),.fn 784 [.ref 5 [aq.D row] 0 0]] (.int .i64 (iA (fun t=>decide (t.u=row.unit)) l 0))
def Ny (Y:Ctx):Prop:=Ds (bW Y 615)
def Dy (T:List D->D->Prop):Prop:=∀(c:aY) (row:aq) (mild:Bool),(c.w.sm/\eQ c.w.us row.terms=true)->T [aY.D c,aq.D row,.bool mild] (.bool (ix c.w.us row mild))
def ND (Y:Ctx):Prop:=Dy (bW Y 635)
def qo (T:List D->D->Prop):Prop:=T [.agg []] (.bool true)
def Kb (Y:Ctx):Prop:=qo (bW Y 1178)
def Ak (T:List D->D->Prop):Prop:=∀(b:Bool),T [.agg [.bool b]] (.bool true)
def Kd (Y:Ctx):Prop:=Ak (bW Y 1179)
def Ke (Y:Ctx):Prop:=qo (bW Y 1180)
def Al (T:List D->D->Prop):Prop:=T [.agg []] (.bool false)
def Kf (Y:Ctx):Prop:=Al (bW Y 1181)
def Dw (T:List D->D->Prop):Prop:=∀(k:Int),T [.int .i64 k] (wy k)
def NC (Y:Ctx):Prop:=Dw (bW Y 633)
def DA (T:List D->D->Prop):Prop:=∀(c:aY) (row:aq) (i:Int),((c.w.sm/\RowsIn c.rows)/\i<=c.rows.length)->T [aY.D c,aq.D row,.int .i64 i] (.bool (mF c row i))
def NG (Y:Ctx):Prop:=DA (bW Y 637)
def Da (T:List D->D->Prop):Prop:=∀(c:aY) (i:Int),(c.w.sm/\RowsIn c.rows)->T [aY.D c,.int .i64 i] (.bool (cZ c i))
def Ni (Y:Ctx):Prop:=Da (bW Y 425)
def CX (T:List D->D->Prop):Prop:=∀(w:bG) (allow:List Int) (rows:List aq) (i:Int),(w.sm/\RowsIn rows)->T [bG.D w,.sl 1 (allow.map (D.int .i64)),.sl 5 (rows.map aq.D),.int .i64 i] (.bool (cZ ⟨w,allow,rows⟩ i))
def KT (Y:Ctx):Prop:=CX (bW Y 198)
def H7 (T:List D->D->Prop):Prop:=∀(w:bG) (allow:List Int) (rows:List aq),(w.sm/\RowsIn rows)->T [bG.D w,.sl 1 (allow.map (D.int .i64)),.sl 5 (rows.map aq.D)] (.tup [.int .i64 (iw (okW w allow) (fun j=>cZ ⟨w,allow,rows⟩ ((j:Nat):Int)) rows).1,.bool (iw (okW w allow) (fun j=>cZ ⟨w,allow,rows⟩ ((j:Nat):Int)) rows).2])
def C65 (Y:Ctx):Prop:=H7 (bW Y 65)
def H5 (T:List D->D->Prop):Prop:=∀(w:bG) (ks:List Int),(w.sm/\w.us.length<=1000)->T [bG.D w,.sl 1 (ks.map (D.int .i64))] (.sl 1 ((j7 w.us ks).map (D.int .i64)))
def C37 (Y:Ctx):Prop:=H5 (bW Y 37)
def CV (T:List D->D->Prop):Prop:=T [] (bG.D ji)
def Na (Y:Ctx):Prop:=CV (bW Y 197)
section
def lH:List aq:=[⟨1,0,0,0,[⟨0,1⟩]⟩,⟨2,0,0,0,[⟨0,2⟩]⟩,⟨5,0,0,1,[]⟩]
def Pg (l:List aq):Int×Bool:=iw (okW ji []) (fun j=>cZ ⟨ji,[],l⟩ ((j:Nat):Int)) l
set_option maxRecDepth 100000 in
theorem LI:Pg lH=(3,true):=by decide+kernel
set_option maxRecDepth 100000 in
theorem LJ:Pg (lH.drop 1)=(1,false):=by decide+kernel
set_option maxRecDepth 100000 in
theorem LK:cZ ⟨ji,[],lH⟩ 2=true:=by decide+kernel
def j4:ji.sm:=by
 intro u hu;simp only[ji,dr,dS,or_false]at hu;rcases hu with rfl|rfl
 .refine⟨bL,fun c hc=>?_⟩;obtain rfl:=bl.1 hc;refine⟨rT,fun r hr x hx=>?_,fun x hx=>by cases hx⟩;obtain rfl:=bl.1 hr;obtain rfl:=bl.1 hx;exact BO
 .exact⟨bL,fun c hc=>by cases hc⟩
def nM:RowsIn lH:=by
 intro r hr t ht;simp only[lH,dr,dS,or_false]at hr;rcases hr with rfl|rfl|rfl
 .obtain rfl:=bl.1 ht;exact⟨bL,bL⟩
 .obtain rfl:=bl.1 ht;exact⟨bL,bL⟩
 .cases ht
def wI:RowsIn (lH.drop 1):=fun r hr=>nM r (List.mem_of_mem_drop hr)
end
def H6 (T:List D->D->Prop):Prop:=T [] (.bool true)
def C63 (Y:Ctx):Prop:=H6 (bW Y 63)
def Ir (Y:Ctx):Prop:=∀(w:bG),(w.sm/\w.us.length<=1000)->∀(nx:Nat) (m:List (Nat×bA)) (K:D->St->Prop),K (.own nx 1 0 w.us.length) ⟨nx+1,(nx,.buf 1 (((kS w.us)).map (D.int .i64)))::m⟩->Y.tr 436 [bG.D w] ⟨nx,m⟩ K
def Dc (T:List D->D->Prop):Prop:=∀(w:bG) (ms:List Int),(w.sm/\ms.length<=1000)->T [bG.D w,.sl 1 (ms.map (D.int .i64))] (.tup [.sl 2 ((hY w.us ms).1.map bM.D),.bool (hY w.us ms).2])
def K2 (Y:Ctx):Prop:=Dc (bW Y 437)
def CY (T:List D->D->Prop):Prop:=∀(w:bG) (l:List bM),(w.sm/\w.us.length<=1000)->T [bG.D w,.sl 2 (l.map bM.D)] (.tup [.sl 2 ((ui w.us l).1.map bM.D),.bool (ui w.us l).2])
def KV (Y:Ctx):Prop:=CY (bW Y 204)
def De (T:List D->D->Prop):Prop:=∀(w:bG) (a:List bM) (b:List bM) (u:Int),(w.sm/\w.us.length<=1000)->T [bG.D w,.sl 2 (a.map bM.D),.sl 2 (b.map bM.D),.int .i64 u] (.tup [.sl 2 ((fZ w.us a b u).1.map bM.D),.bool (fZ w.us a b u).2])
def Nl (Y:Ctx):Prop:=De (bW Y 439)
def MJ (n:Nat)(r:aq):aq:=⟨r.kind,r.unit,r.a+n,r.b+n,r.terms⟩
def Ig (n:Nat)(r:aq):aq:=if r.kind=5 then MJ n r else r
def n9 (n:Nat)(r:aq):(Ig n r).terms=r.terms:=by unfold Ig;split<;>rfl
def Gy (n:Nat)(r:aq):(Ig n r).kind=r.kind:=by unfold Ig;split<;>rfl
def kF (n:Nat)(L:List aq)(i:Nat)(R:List aq):Prop:=R.length=L.length/\∀k,k<L.length->R[k]! =if n<=k/\k<i then Ig n L[k]! else L[k]!
def kF.start (n:Nat)(L:List aq):kF n L n L:=⟨rfl,fun k hk=>by rw[ai ae]⟩
def kF.at {n i:Nat}{L R:List aq}(h:kF n L i R)(hi:i<L.length):R[i]! =L[i]! :=by rw[h.2 i hi,ai ae]
def kF.step {n i:Nat}{L R:List aq}(h:kF n L i R)(hn:n<=i)(hi:i<L.length)(hk:R[i]!.kind=5):kF n L (i+1) (R.set i (MJ n R[i]!)):=by
 refine⟨by rw[List.length_set];exact h.1,fun k hk2=>?_⟩;have e:=h.at hi;rw[uQ (by rw[h.1];exact hk2)];split
 .rename_i e2;subst e2;rw[au ae,e,Ig,au (by rw[<-e];exact hk)]
 .rw[h.2 k hk2];by_cases q:n<=k/\k<i
  .rw[au q,au ae]
  .rw[ai q,ai ae]
def kF.skip {n i:Nat}{L R:List aq}(h:kF n L i R)(hi:i<L.length)(hk:R[i]!.kind≠5):kF n L (i+1) R:=by
 refine⟨h.1,fun k hk2=>?_⟩;have e:=h.at hi;rw[h.2 k hk2];by_cases q:k=i
 .subst q;rw[ai ae];split
  .rw[Ig,ai (by rw[<-e];exact hk)]
  .rfl
 .by_cases q2:n<=k/\k<i
  .rw[au q2,au ae]
  .rw[ai q2,ai ae]
def LG {A B:List aq}{k:Nat}(h:k<A.length):(A++B)[k]! =A[k]! :=by
 simp[List.getElem!_eq_getElem?_getD,List.getElem?_append_left h]
def Ay {A B:List aq}{k:Nat}(h:A.length<=k):(A++B)[k]! =B[k-A.length]! :=by
 simp[List.getElem!_eq_getElem?_getD,List.getElem?_append_right h]
def yW {w:bG}{al:List Int}{rows:List aq}{i:Nat}(h:cZ ⟨w,[],rows⟩ ((i:Nat):Int)=true):cZ ⟨w,al,rows⟩ ((i:Nat):Int)=true:=by
 unfold cZ at h⊢;simp only[bo,bX]at h⊢;refine⟨h.1, ?_⟩;have hk:=h.2;unfold jO at hk⊢;by_cases k5:rows[((i:Nat):Int).toNat]!.kind=5
 .rw[au k5]at hk⊢;exact hk
 .rw[ai k5]at hk⊢;simp only[bo,bX]at hk⊢;refine⟨hk.1, ?_⟩;have h2:=hk.2;by_cases k1:rows[((i:Nat):Int).toNat]!.kind=1
  .rw[au k1]at h2⊢;exact h2
  rw[ai k1]at h2⊢;by_cases k2:rows[((i:Nat):Int).toNat]!.kind=2\/rows[((i:Nat):Int).toNat]!.kind=3
  .rw[au k2]at h2⊢;exact h2
  rw[ai k2]at h2⊢;by_cases k4:rows[((i:Nat):Int).toNat]!.kind=4
  .rw[au k4]at h2;exfalso;unfold tk at h2;simp only[bo,bX,cb]at h2;have:=Ca h2.1.1;omega
  .rw[ai k4]at h2;cases h2
def Eu {w:bG}{al:List Int}{A B R:List aq}{n:Nat}(hn:n<=A.length)(hA:en w [] A)(hB:en w al B)(h:kF n (A.take n++B) (n+B.length) R):en w al R:=by
 have hl1:(A.take n).length=n:=by rw[ew];omega
 have hlen:R.length=n+B.length:=by rw[h.1,cj,hl1]
 have glo:∀k,k<n->R[k]! =A[k]! :=fun k hk=>by
  rw[h.2 k (by rw[cj,hl1];omega),ai ae,LG ae,kq hk]
 have ghi:∀k,k<B.length->R[n+k]! =Ig n B[k]! :=fun k hk=>by
  rw[h.2 (n+k) (by rw[cj,hl1];omega),au ae,Ay ae,hl1,Nat.add_sub_cancel_left]
 intro i hi;by_cases hin:i<n
 .have e1:R.take n=A.take n:=by
   refine y1 (by rw[ew,ew];omega) fun k hk=>?_
   rw[ew]at hk;rw[kq ae,kq ae,glo k ae]
  rw[<-ml hin (by omega:n<=R.length),e1,ml hin hn];exact yW (hA i ae)
 .obtain⟨j,rfl⟩:∃j,i=n+j:=⟨i-n,ae⟩
  have hj:j<B.length:=ae;have hv:=hB j hj;unfold cZ at hv⊢;simp only[Int.toNat_natCast,bo,bX]at hv⊢;rw[ghi j hj,n9];refine⟨⟨⟨ae,ae⟩,hv.1.2⟩, ?_⟩;have hk:=hv.2;unfold jO at hk⊢;rw[Gy];by_cases k5:B[j]!.kind=5
  .rw[au k5]at hk⊢;rw[Ig,au k5];unfold mF at hk⊢;simp only[bo,bX]at hk⊢;simp only[MJ];obtain⟨⟨⟨⟨q1,q2,q3⟩,q4,q5⟩,q6,q7⟩,q8⟩:=hk;have ea:R[(B[j]!.a+(n:Int)).toNat]!.terms=B[B[j]!.a.toNat]!.terms:=by
    rw[show(B[j]!.a+(n:Int)).toNat=n+B[j]!.a.toNat by omega,ghi _ ae,n9]
   have eb:R[(B[j]!.b+(n:Int)).toNat]!.terms=B[B[j]!.b.toNat]!.terms:=by
    rw[show(B[j]!.b+(n:Int)).toNat=n+B[j]!.b.toNat by omega,ghi _ ae,n9]
   rw[ea,eb];exact⟨⟨⟨⟨q1,ae,ae⟩,ae,ae⟩,q6,q7⟩,q8⟩
  .rw[ai k5]at hk⊢;rw[Ig,ai k5];exact hk
def stJ3 {xs:List aq}{k n:Nat}(h:k<xs.length):((xs.set k ⟨xs[k]!.kind,xs[k]!.unit,xs[k]!.a+(n:Int),xs[k]!.b,xs[k]!.terms⟩).map aq.D).set k (qh (((xs.set k ⟨xs[k]!.kind,xs[k]!.unit,xs[k]!.a+(n:Int),xs[k]!.b,xs[k]!.terms⟩).map aq.D).getD k .any) 5 1 3 (.int .i64 (xs[k]!.b+(n:Int))))=(xs.set k (MJ n xs[k]!)).map aq.D:=by
 rw[stJb (by rw[List.length_set];exact h),uQ h,au rfl,List.set_set];rfl
def Et {w:bG}{al:List Int}{A B R:List aq}{n i:Nat}(hn:n<=A.length)(hB:en w al B)(h:kF n (A.take n++B) i R)(h1:n<=i)(h2:i<n+B.length)(hk:R[i]!.kind=5):(0<=R[i]!.a/\R[i]!.a<B.length)/\0<=R[i]!.b/\R[i]!.b<B.length:=by
 have hl1:(A.take n).length=n:=by rw[ew];omega
 have e:R[i]! =B[i-n]! :=by
  rw[h.at (by rw[cj,hl1];omega),Ay ae,hl1]
 rw[e]at hk⊢;have hv:=hB (i-n) ae;unfold cZ at hv;simp only[Int.toNat_natCast,bo,bX]at hv;have hk2:=hv.2;unfold jO at hk2;rw[au hk]at hk2;unfold mF at hk2;simp only[bo,bX]at hk2;obtain⟨⟨⟨⟨q1,q2,q3⟩,q4,q5⟩,q6,q7⟩,q8⟩:=hk2;omega
def xA {w:bG}{al:List Int}{A B R:List aq}{n:Nat}(hw:II w)(hok:okW w al=true)(hA:(fu w.us []).getD []=A)(hB:fu w.us al=some B)(hn:n<=A.length)(h:kF n (A.take n++B) (n+B.length) R):RowsIn R/\iw (okW w al) (fun j=>cZ ⟨w,al,R⟩ ((j:Nat):Int)) R=(((R.length:Nat):Int),true):=by
 obtain⟨p1,p2,p3⟩:=qb hw.1.2 hB;have hA1:en w [] A:=by
  cases e:fu w.us []with
  |none=>rw[e]at hA;subst hA;exact fun i hi=>(by cases hi)
  |some l=>rw[e]at hA;obtain rfl:l=A:=hA;exact(qb hw.1.2 e).1
 have hR:=Eu hn hA1 p1 h;have hl1:(A.take n).length=n:=by rw[ew];omega
 have hlen:R.length=n+B.length:=by rw[h.1,cj,hl1]
 refine⟨JK hR,AE hok hR ae ?_⟩;rw[h.2 (R.length-1) (by rw[cj,hl1];omega),au ae,n9,Ay ae,hl1,show R.length-1-n=B.length-1 by omega];exact p3
def Jk:∀o:Option (List aq),M5 (uy o)
 |none=>trivial
 |some l=>trivial
def GH {o:Option (List aq)}(h:M4 (uy o) false):∃B,o=some B:=by
 cases o with
 |none=>cases h
 |some B=>exact⟨B,rfl⟩
def CU (T:List D->D->Prop):Prop:=∀(w:bG) (c:List Int) (u:Int),(w.sm)->T [bG.D w,.sl 1 (c.map (D.int .i64)),.int .i64 u] (.int .i64 (mB w.us c u))
def M9 (Y:Ctx):Prop:=CU (bW Y 185)
def DE (T:List D->D->Prop):Prop:=∀(w:bG) (t:bM) (c:List Int),(w.sm)->T [bG.D w,bM.D t,.sl 1 (c.map (D.int .i64))] (.bool (qH w.us c t))
def NK (Y:Ctx):Prop:=DE (bW Y 657)
def DB (T:List D->D->Prop):Prop:=∀(a:List bM) (b:List bM),T [.sl 2 (a.map bM.D),.sl 2 (b.map bM.D)] (.bool (decide (a=b)))
def NH (Y:Ctx):Prop:=DB (bW Y 654)
def DC (T:List D->D->Prop):Prop:=∀(l:List bM) (u:Int),(l.length<=10000)->T [.sl 2 (l.map bM.D),.int .i64 u] (.sl 2 ((kQ l u).map bM.D))
def NI (Y:Ctx):Prop:=DC (bW Y 655)
def yk (T:List D->D->Prop):Prop:=∀(l:List bM),(l.length<=10000)->T [.sl 2 (l.map bM.D)] (.sl 2 ((wL l).map bM.D))
def NJ (Y:Ctx):Prop:=yk (bW Y 656)
def Dd (T:List D->D->Prop):Prop:=∀(p:jE) (c:List Int),(p.w.sm)->T [.ref 3 [jE.D p] 0 0,.sl 1 (c.map (D.int .i64))] (.int .i64 (jR p.w.us p.facts c))
def Nk (Y:Ctx):Prop:=Dd (bW Y 438)
def KW (Y:Ctx):Prop:=(∀(w:bG) (al:List Int) (facts:List aq) (c:List Int) (rows:List aq),rV w al facts c rows->∀(nx lp ln lc:Nat) (m:List (Nat×bA)) (K:D->St->Prop),look m lp=some (.buf 3 [jE.D ⟨w,facts,.own ln 5 0 rows.length⟩])->look m ln=some (.buf 5 (rows.map aq.D))->look m lc=some (.buf 1 (c.map (D.int .i64)))->(lp<nx/\ln<nx/\lc<nx)->K (.int .i64 (ey w.us facts c rows).1) ⟨nx+1,(nx,.buf 5 ((ey w.us facts c rows).2.map aq.D))::cH (cx (cx m ln) lc) lp (.buf 3 [jE.D ⟨w,facts,.own nx 5 0 (ey w.us facts c rows).2.length⟩])⟩->Y.tr 205 [.ptr lp 3 0 0,.own lc 1 0 c.length] ⟨nx,m⟩ K)/\(∀(w:bG) (al:List Int) (facts:List aq) (rows:List aq),rV w al facts [] rows->∀(nx lp ln:Nat) (m:List (Nat×bA)) (K:D->St->Prop),look m lp=some (.buf 3 [jE.D ⟨w,facts,.own ln 5 0 rows.length⟩])->look m ln=some (.buf 5 (rows.map aq.D))->(lp<nx/\ln<nx)->K (.int .i64 (ey w.us facts [] rows).1) ⟨nx+1,(nx,.buf 5 ((ey w.us facts [] rows).2.map aq.D))::cH (cx m ln) lp (.buf 3 [jE.D ⟨w,facts,.own nx 5 0 (ey w.us facts [] rows).2.length⟩])⟩->Y.tr 205 [.ptr lp 3 0 0,.aA] ⟨nx,m⟩ K)
def Kg (Y:Ctx)(u:Nat):Prop:=(∀(w:bG) (al:List Int) (facts:List aq) (c:List Int) (rows:List aq),rV w al facts c rows->(w.us.length-c.length)<u->∀(nx lp ln lc:Nat) (m:List (Nat×bA)) (K:D->St->Prop),look m lp=some (.buf 3 [jE.D ⟨w,facts,.own ln 5 0 rows.length⟩])->look m ln=some (.buf 5 (rows.map aq.D))->look m lc=some (.buf 1 (c.map (D.int .i64)))->(lp<nx/\ln<nx/\lc<nx)->K (.int .i64 (ey w.us facts c rows).1) ⟨nx+1,(nx,.buf 5 ((ey w.us facts c rows).2.map aq.D))::cH (cx (cx m ln) lc) lp (.buf 3 [jE.D ⟨w,facts,.own nx 5 0 (ey w.us facts c rows).2.length⟩])⟩->Y.tr 205 [.ptr lp 3 0 0,.own lc 1 0 c.length] ⟨nx,m⟩ K)/\(∀(w:bG) (al:List Int) (facts:List aq) (rows:List aq),rV w al facts [] rows->w.us.length<u->∀(nx lp ln:Nat) (m:List (Nat×bA)) (K:D->St->Prop),look m lp=some (.buf 3 [jE.D ⟨w,facts,.own ln 5 0 rows.length⟩])->look m ln=some (.buf 5 (rows.map aq.D))->(lp<nx/\ln<nx)->K (.int .i64 (ey w.us facts [] rows).1) ⟨nx+1,(nx,.buf 5 ((ey w.us facts [] rows).2.map aq.D))::cH (cx m ln) lp (.buf 3 [jE.D ⟨w,facts,.own nx 5 0 (ey w.us facts [] rows).2.length⟩])⟩->Y.tr 205 [.ptr lp 3 0 0,.aA] ⟨nx,m⟩ K)
def K1 (Y:Ctx):Prop:=∀(w:bG) (rows:List aq) (r:aq),((w.sm/\w.us.length<=48)/\((∀x∈rows,x.terms.length<=48)/\rows.length<=10000000)/\r.terms.length<=48)->∀(nx lo:Nat) (m:List (Nat×bA)) (K:D->St->Prop),look m lo=some (.buf 5 (rows.map aq.D))->lo<nx->K (.own nx 5 0 (mw w.us rows r).length) ⟨nx+1,(nx,.buf 5 ((mw w.us rows r).map aq.D))::cx m lo⟩->Y.tr 435 [bG.D w,.own lo 5 0 rows.length,aq.D r] ⟨nx,m⟩ K
def Db (T:List D->D->Prop):Prop:=∀(w:bG) (u:Nat) (k:Nat) (l:List Want) (bar:Bool),((w.sm/\w.us.length<=1000)/\(∀x∈l,x.sm)/\l.length<=1000/\k<=30)->T [bG.D w,.int .i64 ((u:Nat):Int),.int .i64 ((k:Nat):Int),.sl 3 (l.map Want.D),.bool bar] (.tup [.sl 2 ((dT w.us u k l bar).1.map bM.D),.bool (dT w.us u k l bar).2])
def Nj (Y:Ctx):Prop:=Db (bW Y 434)
def KU (Y:Ctx):Prop:=∀(w:bG),II w->∀(nx:Nat) (m:List (Nat×bA)) (K:D->St->Prop),K (.own nx 5 0 (kR w.us).length) ⟨nx+1,(nx,.buf 5 ((kR w.us).map aq.D))::m⟩->Y.tr 203 [bG.D w] ⟨nx,m⟩ K
def H8 (T:List D->D->Prop):Prop:=∀(w:bG) (allow:List Int),(II w)->T [bG.D w,.sl 1 (allow.map (D.int .i64))] (uy (fu w.us allow))
def C66 (Y:Ctx):Prop:=H8 (bW Y 66)
def KX (Y:Ctx):Prop:=∀(o:Option (List aq)),((o.getD []).length<=100000/\∀r∈(o.getD []),r.terms.length<=1000)->∀(nx:Nat) (m:List (Nat×bA)) (K:D->St->Prop),K (.own nx 5 0 (o.getD []).length) ⟨nx+1,(nx,.buf 5 ((o.getD []).map aq.D))::m⟩->Y.tr 206 [uy o] ⟨nx,m⟩ K
section
section
variable {Y:Ctx} {draw:Bool} {r:List GI} {env rs:List bH} {nx:Nat} {m:List (Nat×bA)} {K:List bH->St->Prop} {g:Option (Nat×Bool)} {f:Bool}
def Mv {x:Src}{ng:Bool}{d:D}(h:∀b,M4 d b->aC Y draw r env (⟨true,.bool (bif ng then !b else b)⟩::rs) nx m K)(hx:cF env rs x=⟨true,d⟩:=by exact rfl)(hs:M5 d:=by exact trivial):aC Y draw (⟨.isNl x ng,none⟩::r) env rs nx m K:=by
 unfold aC;show none=none/\(Src.ev env rs.reverse x).ok=true/\M5 (Src.ev env rs.reverse x).d/\∀b,M4 (Src.ev env rs.reverse x).d b->_
 rw[jT,hx];refine⟨rfl,rfl,hs,fun b hb=>?_⟩;have:=h b hb;unfold aC at this;simpa using this
end
end
def Am (T:List D->D->Prop):Prop:=∀(a:List Int) (b:List Int) (c:List Int) (n:Int),T [.sl 1 (a.map (D.int .i64)),.sl 1 (b.map (D.int .i64)),.sl 1 (c.map (D.int .i64)),.int .i64 n] (.bool true)
def bY {p:Prop}(h:p:=by((repeat intro _);exact okp Pj (.inl (by assumption)) fun T hT=>(by apply hT<;>assumption))):p:=h
def bJ {t:List (Nat×lr)}{key u q:Nat}:((under t key u).at q).cG:=oG t key u q
section
def M6 (T:FT):Prop:=∀(g:Gs) (n:Int),(n<=9223372036854775807)->(0<=g.i/\g.i<=1000000)->T (Gs.D g) [.int .i64 n] (.int .i64 (g.val n)) (Gs.D g.br)
def N9:As (tV M6):=Ph
def LP:MT (tW yk):=F0 (by intro l _ l2 _ e;simp only[ru,D.sl.injEq,Gj,b8,cd]at e;rw[e])
def Oa:MT (tW Am):=Pj
def bE:List (Nat×lr):=[(25,rP 1 H3),(36,rP 15 H4),(37,rP 3 H5),(63,rP 24 H6),(65,rP 23 H7),(66,rP 14 H8),(109,rF 2 M6),(112,rP 1 CO),(154,rG 3 KP),(155,rG 14 KQ),(156,rP 8 CP),(157,rG 13 Il),(158,rP 2 CR),(159,rP 1 CS),(175,rP 12 CT),(185,rP 2 CU),(197,rP 4 CV),(198,rP 22 CX),(203,rG 13 KU),(204,rP 4 CY),(205,rG 5 KW (L8)),(206,rG 1 KX),(209,rP 4 sS),(217,rP 4 sS),(295,rP 5 sT),(374,rP 3 CZ),(375,rP 1 C0),(376,rP 2 C1),(377,rP 2 C2),(378,rP 3 C3),(379,rP 7 C4),(380,rG 12 KZ),(381,rP 1 C5),(406,rP 3 C6),(408,rP 3 C7),(409,rP 11 C8),(415,rP 11 C9),(424,rP 5 sT),(425,rP 21 Da),(434,rP 12 Db),(435,rG 4 K1),(436,rG 3 Ir),(437,rP 3 Dc),(438,rP 4 Dd),(439,rP 4 De),(440,rP 1 sU),(441,rP 3 Df),(442,rP 2 Dg),(454,rP 1 Dh),(455,rP 1 sU),(456,rP 3 Di),(470,rP 1 sY),(516,rP 2 sV),(530,rP 1 sW),(531,rP 1 Dj),(532,rP 2 sX),(533,rP 1 sY),(534,rP 3 sZ),(598,rP 2 Dk),(599,rP 1 sW),(600,rP 1 Dl),(601,rP 1 Dm),(602,rP 6 Dn),(603,rP 1 Dp),(604,rP 11 Dq),(605,rP 10 Dr),(615,rP 2 Ds),(622,rP 10 Dt),(627,rP 10 ta),(630,rP 1 sX),(631,rP 4 Du),(632,rP 2 Dv),(633,rP 1 Dw),(634,rP 2 Dx),(635,rP 20 Dy),(636,rP 1 Dz),(637,rP 3 DA),(654,rP 1 DB),(655,rP 1 DC),(656,rP 1 yk),(657,rP 3 DE),(658,rP 1 tc),(659,rP 1 td),(666,rP 1 DF),(667,rP 2 tc),(668,rP 1 td),(704,rP 1 DG),(712,rP 10 ta),(714,rP 1 DH),(769,rP 5 DI),(770,rP 9 te),(771,rP 10 DJ),(772,rP 9 DK),(780,rP 9 te),(782,rP 9 tf),(783,rP 3 sZ),(784,rP 1 DL),(785,rP 19 DM),(861,rP 9 tf),(916,rP 8 tg),(917,rP 2 DN),(918,rG 9 Lh),(919,rP 8 DO),(920,rP 7 DP),(921,rG 7 Ix),(924,rP 1 DQ),(925,rP 8 tg),(926,rP 8 th),(927,rP 1 sV),(928,rP 15 DR),(929,rP 13 DS),(930,rP 12 DT),(931,rP 18 DU),(932,rP 16 DV),(933,rP 13 DW),(934,rP 12 DX),(980,rP 8 th),(1019,rP 7 qk),(1020,rP 6 ql),(1021,rP 7 Ag),(1023,rP 7 qk),(1024,rP 6 ql),(1025,rP 6 qm),(1026,rP 14 Ah),(1027,rP 11 Ai),(1028,rP 17 Aj),(1055,rP 6 qm),(1086,rP 5 qn),(1087,rP 5 qn),(1178,rP 1 qo),(1179,rP 1 Ak),(1180,rP 1 qo),(1181,rP 1 Al),(1214,rP 25 Am)]
variable {k u v:Nat}
def G25 (hk:1<k:=by decide):C25 (under bE k u):=bY
def G36 (hk:15<k:=by decide):C36 (under bE k u):=bY
def G37 (hk:3<k:=by decide):C37 (under bE k u):=bY
def G63 (hk:24<k:=by decide):C63 (under bE k u):=bY
def G65 (hk:23<k:=by decide):C65 (under bE k u):=bY
def G66 (hk:14<k:=by decide):C66 (under bE k u):=bY
def Fx (hk:2<k:=by decide):DZ (under bE k u):=fun g n hp0 hp1=>okf N9 hk fun T h=>h g n hp0 hp1
def G112 (hk:1<k:=by decide):M7 (under bE k u):=bY
def G154 (hk:3<k:=by decide):KP (under bE k u):=fun g few hp0 nx m K h0 hx hK=>Ct (.inl hk) fun T _ h=>h g few hp0 nx m K h0 hx hK
def G155 (hk:14<k:=by decide):KQ (under bE k u):=fun g n nm ft cs kk E most hE hp0 nx m K hx hW hK=>Ct (.inl hk) fun T _ h=>h g n nm ft cs kk E most hE hp0 nx m K hx hW hK
def Ol (hk:8<k:=by decide):KR (under bE k u):=bY
def Om (hk:13<k:=by decide):Il (under bE k u):=fun g n nm ft cs kk E hE hp0 nx m K hx hW hK=>Ct (.inl hk) fun T _ h=>h g n nm ft cs kk E hE hp0 nx m K hx hW hK
def yr (hk:2<k:=by decide):yn (under bE k u):=bY
def On (hk:1<k:=by decide):KS (under bE k u):=bY
def G175 (hk:12<k:=by decide):M8 (under bE k u):=bY
def G185 (hk:2<k:=by decide):M9 (under bE k u):=bY
def G197 (hk:4<k:=by decide):Na (under bE k u):=bY
def Oo (hk:22<k:=by decide):KT (under bE k u):=bY
def G203 (hk:13<k:=by decide):KU (under bE k u):=fun w hp0 nx m K hK=>Ct (.inl hk) fun T _ h=>h w hp0 nx m K hK
def Oq (hk:4<k:=by decide):KV (under bE k u):=bY
def G205 (hk:5<k:=by decide):KW (under bE k u):=⟨fun w al facts c rows hp nx lp ln lc m K h1 h2 h3 hx hK=>Ct (.inl hk) fun T _ h=>h.1 w al facts c rows hp nx lp ln lc m K h1 h2 h3 hx hK,fun w al facts rows hp nx lp ln m K h1 h2 hx hK=>Ct (.inl hk) fun T _ h=>h.2 w al facts rows hp nx lp ln m K h1 h2 hx hK⟩
def Kk (hv:v<=u):Kg (under bE 5 u) v:=⟨fun w al facts c rows hp hu nx lp ln lc m K h1 h2 h3 hx hK=>Ct (.inr ⟨rfl,by rw[show(lk bE 205 kD).muE=L8 from rfl,Cm h1];exact jj hu hv⟩) fun T _ h=>h.1 w al facts c rows hp nx lp ln lc m K h1 h2 h3 hx hK,fun w al facts rows hp hu nx lp ln m K h1 h2 hx hK=>Ct (.inr ⟨rfl,by rw[show(lk bE 205 kD).muE=L8 from rfl,Cl h1];exact jj hu hv⟩) fun T _ h=>h.2 w al facts rows hp nx lp ln m K h1 h2 hx hK⟩
def G206 (hk:1<k:=by decide):KX (under bE k u):=fun o hp0 nx m K hK=>Ct (.inl hk) fun T _ h=>h o hp0 nx m K hK
def D2 (hk:4<k:=by decide):Ar (under bE k u):=bY
def yt (hk:4<k:=by decide):wZ (under bE k u):=bY
def Lm (hk:5<k:=by decide):Im (under bE k u):=bY
def Ot (hk:3<k:=by decide):KY (under bE k u):=bY
def Iz (hk:1<k:=by decide):Fm (under bE k u):=bY
def Ln (hk:2<k:=by decide):Io (under bE k u):=bY
def G377 (hk:2<k:=by decide):Nb (under bE k u):=bY
def G378 (hk:3<k:=by decide):Nc (under bE k u):=bY
def G379 (hk:7<k:=by decide):Nd (under bE k u):=bY
def G380 (hk:12<k:=by decide):KZ (under bE k u):=fun g xs hp0 kk E hE nx lc m K hn h0 h1 h10 hK=>Ct (.inl hk) fun T _ h=>h g xs hp0 kk E hE nx lc m K hn h0 h1 h10 hK
def Lo (hk:1<k:=by decide):Ip (under bE k u):=bY
def IA (hk:3<k:=by decide):Iq (under bE k u):=bY
def G408 (hk:3<k:=by decide):Nf (under bE k u):=bY
def G409 (hk:11<k:=by decide):Ng (under bE k u):=bY
def G415 (hk:11<k:=by decide):Nh (under bE k u):=bY
def Ou (hk:5<k:=by decide):K0 (under bE k u):=bY
def G425 (hk:21<k:=by decide):Ni (under bE k u):=bY
def G434 (hk:12<k:=by decide):Nj (under bE k u):=bY
def G435 (hk:4<k:=by decide):K1 (under bE k u):=fun w rows r hp0 nx lo m K h1 h2 hK=>Ct (.inl hk) fun T _ h=>h w rows r hp0 nx lo m K h1 h2 hK
def Ov (hk:3<k:=by decide):Ir (under bE k u):=fun w hp0 nx m K hK=>Ct (.inl hk) fun T _ h=>h w hp0 nx m K hK
def Ox (hk:3<k:=by decide):K2 (under bE k u):=bY
def Oy (hk:4<k:=by decide):Nk (under bE k u):=bY
def Oz (hk:4<k:=by decide):Nl (under bE k u):=bY
def G440 (hk:1<k:=by decide):Nn (under bE k u):=bY
def G441 (hk:3<k:=by decide):No (under bE k u):=bY
def OA (hk:2<k:=by decide):K3 (under bE k u):=bY
def G454 (hk:1<k:=by decide):Np (under bE k u):=bY
def G455 (hk:1<k:=by decide):Nq (under bE k u):=bY
def G456 (hk:3<k:=by decide):Nr (under bE k u):=bY
def OB (hk:1<k:=by decide):K4 (under bE k u):=bY
def OC (hk:2<k:=by decide):K5 (under bE k u):=bY
def G530 (hk:1<k:=by decide):Ns (under bE k u):=bY
def OD (hk:1<k:=by decide):K6 (under bE k u):=bY
def Lp (hk:2<k:=by decide):Is (under bE k u):=bY
def Lq (hk:1<k:=by decide):It (under bE k u):=bY
def G534 (hk:3<k:=by decide):Nt (under bE k u):=bY
def G598 (hk:2<k:=by decide):Nu (under bE k u):=bY
def OE (hk:1<k:=by decide):K7 (under bE k u):=bY
def OF (hk:1<k:=by decide):K8 (under bE k u):=bY
def Lr (hk:1<k:=by decide):Iu (under bE k u):=bY
def G602 (hk:6<k:=by decide):Nv (under bE k u):=bY
def Ls (hk:1<k:=by decide):Iv (under bE k u):=bY
def G604 (hk:11<k:=by decide):Nw (under bE k u):=bY
def G605 (hk:10<k:=by decide):Nx (under bE k u):=bY
def G615 (hk:2<k:=by decide):Ny (under bE k u):=bY
def G622 (hk:10<k:=by decide):Nz (under bE k u):=bY
def G627 (hk:10<k:=by decide):NA (under bE k u):=bY
def IB (hk:1<k:=by decide):Fo (under bE k u):=bY
def G631 (hk:4<k:=by decide):NB (under bE k u):=bY
def OG (hk:2<k:=by decide):K9 (under bE k u):=bY
def G633 (hk:1<k:=by decide):NC (under bE k u):=bY
def IC (hk:2<k:=by decide):Fp (under bE k u):=bY
def G635 (hk:20<k:=by decide):ND (under bE k u):=bY
def Fy (hk:1<k:=by decide):D0 (under bE k u):=bY
def G637 (hk:3<k:=by decide):NG (under bE k u):=bY
def G654 (hk:1<k:=by decide):NH (under bE k u):=bY
def G655 (hk:1<k:=by decide):NI (under bE k u):=bY
def G656 (hk:1<k:=by decide):NJ (under bE k u):=fun l hp0=>okp LP (.inl hk) fun T hT=>hT l hp0
def G657 (hk:3<k:=by decide):NK (under bE k u):=bY
def OH (hk:1<k:=by decide):La (under bE k u):=bY
def OI (hk:1<k:=by decide):Lb (under bE k u):=bY
def G666 (hk:1<k:=by decide):NL (under bE k u):=bY
def OJ (hk:2<k:=by decide):Lc (under bE k u):=bY
def OK (hk:1<k:=by decide):Ld (under bE k u):=bY
def G704 (hk:1<k:=by decide):NM (under bE k u):=bY
def G712 (hk:10<k:=by decide):NN (under bE k u):=bY
def G714 (hk:1<k:=by decide):NO (under bE k u):=bY
def G769 (hk:5<k:=by decide):NP (under bE k u):=bY
def Lu (hk:9<k:=by decide):Iw (under bE k u):=bY
def G771 (hk:10<k:=by decide):NQ (under bE k u):=bY
def G772 (hk:9<k:=by decide):NR (under bE k u):=bY
def OL (hk:9<k:=by decide):Lg (under bE k u):=bY
def G782 (hk:9<k:=by decide):NS (under bE k u):=bY
def G783 (hk:3<k:=by decide):NT (under bE k u):=bY
def G784 (hk:1<k:=by decide):NU (under bE k u):=bY
def G785 (hk:19<k:=by decide):NV (under bE k u):=bY
def G861 (hk:9<k:=by decide):NW (under bE k u):=bY
def ID (hk:8<k:=by decide):Fq (under bE k u):=bY
def G917 (hk:2<k:=by decide):NX (under bE k u):=bY
def G918 (hk:9<k:=by decide):Lh (under bE k u):=fun l hp0 nx lo m K h1 h2 hK=>Ct (.inl hk) fun T _ h=>h l hp0 nx lo m K h1 h2 hK
def OM (hk:8<k:=by decide):Li (under bE k u):=bY
def ON (hk:7<k:=by decide):Lj (under bE k u):=bY
def OO (hk:7<k:=by decide):Ix (under bE k u):=fun out f t hp0 nx lo m K h1 h2 hK=>Ct (.inl hk) fun T _ h=>h out f t hp0 nx lo m K h1 h2 hK
def G924 (hk:1<k:=by decide):NY (under bE k u):=bY
def OP (hk:8<k:=by decide):Lk (under bE k u):=bY
def G926 (hk:8<k:=by decide):NZ (under bE k u):=bY
def G927 (hk:1<k:=by decide):N0 (under bE k u):=bY
def OQ (hk:15<k:=by decide):Ll (under bE k u):=bY
def G929 (hk:13<k:=by decide):N1 (under bE k u):=bY
def G930 (hk:12<k:=by decide):N2 (under bE k u):=bY
def G931 (hk:18<k:=by decide):N3 (under bE k u):=bY
def G932 (hk:16<k:=by decide):N4 (under bE k u):=bY
def G933 (hk:13<k:=by decide):N5 (under bE k u):=bY
def G934 (hk:12<k:=by decide):N6 (under bE k u):=bY
def G980 (hk:8<k:=by decide):N7 (under bE k u):=bY
def Fu (hk:7<k:=by decide):BJ (under bE k u):=bY
def yq (hk:6<k:=by decide):vT (under bE k u):=bY
def Ob (hk:7<k:=by decide):J6 (under bE k u):=bY
def Kh (hk:7<k:=by decide):Fj (under bE k u):=bY
def Ki (hk:6<k:=by decide):Fk (under bE k u):=bY
def Oc (hk:6<k:=by decide):J7 (under bE k u):=bY
def Od (hk:14<k:=by decide):J8 (under bE k u):=bY
def Kj (hk:11<k:=by decide):Fl (under bE k u):=bY
def Oe (hk:17<k:=by decide):J9 (under bE k u):=bY
def Of (hk:6<k:=by decide):Ka (under bE k u):=bY
def Fv (hk:5<k:=by decide):BK (under bE k u):=bY
def Fw (hk:5<k:=by decide):BL (under bE k u):=bY
def Og (hk:1<k:=by decide):Kb (under bE k u):=bY
def Oh (hk:1<k:=by decide):Kd (under bE k u):=bY
def Oi (hk:1<k:=by decide):Ke (under bE k u):=bY
def Oj (hk:1<k:=by decide):Kf (under bE k u):=bY
end
def Mb:List (Nat×Nat):=[(8,1214),(9,63),(10,36),(11,37),(12,206),(13,198),(15,65),(17,66),(19,25),(26,197),(27,154),(28,155),(29,156),(30,109),(31,157),(32,158),(33,159),(34,425),(37,406),(39,175),(41,203),(42,204),(43,205),(46,185),(48,374),(49,112),(50,217),(51,375),(52,376),(53,377),(54,378),(55,379),(56,380),(57,381),(58,632),(59,633),(60,634),(61,635),(62,636),(63,637),(68,408),(69,209),(70,295),(71,409),(73,434),(74,435),(75,436),(76,437),(77,438),(78,439),(79,415),(84,598),(85,455),(86,456),(87,599),(88,600),(89,601),(90,602),(91,603),(92,604),(93,605),(94,615),(95,784),(96,785),(99,531),(100,516),(101,440),(102,441),(103,442),(104,530),(105,532),(106,533),(107,534),(108,622),(111,424),(112,654),(113,655),(114,656),(115,657),(116,627),(120,470),(121,666),(122,667),(123,668),(124,769),(125,770),(126,771),(127,772),(128,928),(129,929),(130,930),(131,931),(132,932),(133,933),(134,934),(135,704),(136,658),(137,659),(138,714),(139,780),(142,630),(143,631),(144,782),(145,454),(146,916),(147,917),(148,918),(149,919),(150,920),(151,921),(152,1026),(153,1027),(154,1028),(155,924),(156,925),(157,783),(158,926),(159,1019),(160,1020),(161,1021),(162,712),(163,1023),(164,1024),(165,927),(166,1025),(167,1086),(168,861),(169,1087),(170,980),(171,1055),(187,1178),(188,1179),(189,1180),(190,1181),(1000000126,501178),(1000000129,501179),(1000000131,501180),(1000000132,501181)]
def Eg:List Nat:=[219,1091,1354,1894,1896,1616,1320,1618,1898,2062,2066,2282,2068,2252,2194,2064,1904,900,931,937,935,445,978,1328,904,942,944,946,952,448,522,1008,1724,1726,1728,1430,486,500,1842,760,314,310,308,1836,872,870,406,410,412,103920080,500000000]
def bI:(Go.Proofs.Tryz.prog).follows .mixedOrders=true:=zzbk
abbrev Ow [df](f n:Nat):Prop:=MU Go.Proofs.Tryz.prog Mb Eg bE f n
abbrev Cp (f:Nat)(a:aE):Prop:=Ao Go.Proofs.Tryz.prog Mb Eg f a
def ck {f:Nat}{a:aE}(h:((Go.Proofs.Tryz.prog).funcs[f]?).map (fun f=>(compile Go.Proofs.Tryz.prog Mb Eg f,f.name== "runtime.NumGoroutine"))=some (some a,false):=by kernel_rfl):Cp f a:=h
end Go.Abs
