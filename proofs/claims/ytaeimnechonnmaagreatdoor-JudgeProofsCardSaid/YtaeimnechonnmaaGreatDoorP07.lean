/- A part of the proofs. -/
import Derived.KernelRfl
import Derived.Test.YtaeimnechonnmaaGreatDoorProg
import Derived.Test.YtaeimnechonnmaaGreatDoorP06
set_option linter.all false
set_option maxRecDepth 4000
namespace Go.Abs
variable {Y:Ctx}(hm:(Y.at 0).cE)
section
section
variable [du] {P:Program} {ν:List (Nat×Nat)} {cz:List Nat} {t:List (Nat×lE)} {fid n key u k:Nat} {af:aJ} {nx:Nat} {m:List (Nat×bT)} {K:D->St->Prop}
def vF {a:D}{dv:Nat->D}{kk:Nat}{es:List D}{Q:D->List (Nat×bT)->Prop}(hmix:P.follows .mixedOrders=true)(hC:zo P ν cz fid af)(hnp:1=af.np)(ha:a.bm=true)(hes:aV es=true)
  (hd:∀j,jm 0 [(j,nx)] (dv j)=some (dv nx)) (hQ:∀d m,Q d m->∃j,d=dv j/\look m j=some (.buf kk es)) (hK:K (dv nx) ⟨nx+1,(nx,.buf kk es)::m⟩)
  (hw:cq ((under t key u).at 0) af.body (kn af Q) (fJ af [a]) ⟨0,[]⟩):kK P ν cz (under t key u) fid [a] ⟨nx,m⟩ K:=by
 refine pB (σi:=[]) (m0:=[]) (cs:=[a]) (fun q=>oJ t key u q) hmix hC rfl ?_ hnp rfl (fun _ _ h=>by cases h) (fun _ _ h=>by cases h) hw ?_
 .intro i hi
  match i,hi with
  |0,_=>exact .inl ⟨rfl,ha⟩
 .intro d m1 h;obtain⟨j,rfl,hj⟩:=hQ d m1 h;refine⟨[(j,nx)],j+1,_,_,⟨rfl, ?_,Nat.le_succ _,(fun _ _ h=>by cases h), ?_,(fun _ _ h=>by cases h), ?_⟩,.inr (.inl (hd j)),hK⟩
  .simp[eP]
  .intro i l h;obtain⟨rfl,rfl⟩:=Prod.mk.inj (bG.1 h);exact .inr (aB _)
  .intro l bb h;simp only[look]at h;split at h
   .rename_i e;subst e;obtain rfl:=bl h;exact .inl ⟨j,_,.head _,hj,rfl,.inl ⟨rfl,hes⟩⟩
   .rename_i hn;exact .inr ⟨by simp only[jy,ai hn],(fun _ h=>by cases h),h⟩
end
end
section
section
variable [du] {P:Program} {ν:List (Nat×Nat)} {cz:List Nat} {t:List (Nat×lE)} {fid key u k:Nat} {af:aJ} {nx:Nat} {m:List (Nat×bT)} {K:D->St->Prop}
def yU {lo kk n n':Nat}{es es':List D}{x y:D}{Q:D->List (Nat×bT)->Prop}(hes:aV es=true)(hes':aV es'=true)(hxn:x.bm=true)(hyn:y.bm=true)(hmix:P.follows .mixedOrders=true)(hC:zo P ν cz fid af)(hnp:3=af.np)
  (h1:look m lo=some (.buf k es)) (hlo:lo<nx) (hQ:∀d m,Q d m->∃j,d=.own j kk 0 n'/\look m j=some (.buf kk es')) (hK:K (.own nx kk 0 n') ⟨nx+1,(nx,.buf kk es')::bY m lo⟩)
  (hw:cq ((under t key u).at 1) af.body (kn af Q) (fJ af [x,.own 0 k 0 n,y]) ⟨1,[(0,.buf k es)]⟩):kK P ν cz (under t key u) fid [x,.own lo k 0 n,y] ⟨nx,m⟩ K:=by
 have g3:eP 0 1 [(lo,0)]=true:=by simp[eP]
 have g4:∀l i,(l,i)∈[(lo,0)]->look m l≠none:=by
  intro l i h;obtain⟨rfl,rfl⟩:=Prod.mk.inj (bG.1 h);rw[h1];simp
 have g5:∀i b,look [(0,bT.buf k es)] i=some b->∃l b',(l,i)∈[(lo,0)]/\look m l=some b'/\mC 0 [(lo,0)] b' b:=by
  intro i b h;simp only[look]at h;split at h
  .rename_i e;subst e;obtain rfl:=bl h;exact⟨lo,_,.head _,h1,rfl,.inl ⟨rfl,hes⟩⟩
  .cases h
 refine pB (σi:=[(lo,0)]) (cs:=[x,.own 0 k 0 n,y]) (fun q=>oJ t key u q) hmix hC rfl ?_ hnp g3 g4 g5 hw ?_
 .intro i hi
  match i,hi with
  |0,_=>exact .inl ⟨rfl,hxn⟩
  |1,_=>exact .inr (.inl (by simp[jm,qh,fh]))
  |2,_=>exact .inl ⟨rfl,hyn⟩
 .intro d m1 h;obtain⟨j,rfl,hj⟩:=hQ d m1 h;refine⟨[(j,nx)],j+1,_,_,⟨g3, ?_,Nat.le_succ _,g4, ?_,g5, ?_⟩,.inr (.inl (by simp[jm,qh,fh])),hK⟩
  .simp[eP]
  .intro i l h;obtain⟨rfl,rfl⟩:=Prod.mk.inj (bG.1 h);exact .inr (aB _)
  .intro l bb h;simp only[look]at h;split at h
   .rename_i e;subst e;obtain rfl:=bl h;exact .inl ⟨j,_,.head _,hj,rfl,.inl ⟨rfl,hes'⟩⟩
   .rename_i hn;rw[hJ]at h;split at h
    .cases h
    .rename_i hl;refine .inr ⟨by simp only[jy,ai hn],fun i hi=>?_,h⟩;exact hl (Prod.mk.inj (bG.1 hi)).1
def Hg (w:bz)(facts:List aj)(r:Int×List aj):D->List (Nat×bT)->Prop:=fun d m=>d=.int .i64 r.1/\∃j,1<=j/\look m 0=some (.buf 3 [j4.D ⟨w,facts,.own j 5 0 r.2.length⟩])/\look m j=some (.buf 5 (r.2.map aj.D))
def Al {w:bz}{facts rows:List aj}{r:Int×List aj}{lp ln:Nat}{m':List (Nat×bT)}(h1:look m lp=some (.buf 3 [j4.D ⟨w,facts,.own ln 5 0 rows.length⟩]))(hlp:lp<nx){d:D}{m1:List (Nat×bT)}(h:Hg w facts r d m1)
  (σi:List (Nat×Nat)) (q:Nat) (m0:List (Nat×bT)) (g3:eP 0 q σi=true) (hmem:(lp,0)∈σi) (g4:∀l i,(l,i)∈σi->look m l≠none) (g5:∀i b,look m0 i=some b->∃l b',(l,i)∈σi/\look m l=some b'/\mC 0 σi b' b)
  (hm':∀l b,l≠lp->l≠nx->look m' l=some b->look m l=some b/\∀i,(l,i)∉σi) (hK:K (.int .i64 r.1) ⟨nx+1,(nx,.buf 5 (r.2.map aj.D))::cU m' lp (.buf 3 [j4.D ⟨w,facts,.own nx 5 0 r.2.length⟩])⟩):
  ∃(σo:List (Nat×Nat)) (q1:Nat) (st':St) (vd':D),Fr σi σo q q1 m0 m1 ⟨nx,m⟩ st'/\Kw 0 σo d vd'/\K vd' st':=by
 obtain⟨rfl,j,hj1,e0,ej⟩:=h;have a1:=ey (show j≠0 by omega);have a2:=ey (show 0≠j by omega);have a3:=ey (show lp≠nx by omega);have a4:=ey (show nx≠lp by omega);have r1:fh 0 [(0,lp),(j,nx)] j=some nx:=by simp only[fh,a2,cond_false,Nat.beq_refl,cond_true]
 refine⟨[(0,lp),(j,nx)],j+1,_,_,⟨g3, ?_,(Nat.le_succ _:nx<=nx+1),g4, ?_,g5, ?_⟩,.inl ⟨rfl,rfl⟩,hK⟩
 .simp only[eP,List.all_cons,List.all_nil,a1,a2,a3,a4,Bool.not_false,eL,jh,Nat.blt,bR,Nat.ble_eq];repeat' first|exact trivial|exact rfl|exact Nat.zero_le _|omega|refine And.intro ?_ ?_
 .intro i l h;simp only[dF,dZ,ec,or_false]at h;rcases h with⟨rfl,rfl⟩|⟨rfl,rfl⟩
  .exact .inl hmem
  .exact .inr (aB _)
 .intro l bb h;simp only[look]at h;split at h
  .rename_i e;subst e;obtain rfl:=bl h;exact .inl ⟨j,_,.tail _ (.head _),ej,rfl,.inl ⟨rfl,cd (fun _=>rfl) _⟩⟩
  .rename_i n1;rw[dk]at h;split at h
   .rename_i e;subst e;obtain rfl:=bl h;exact .inl ⟨0,_,.head _,e0,rfl,.inr (.inl (by simp only[j4.D,fu,jm,qh,r1]))⟩
   .rename_i n2;obtain⟨k1,k2⟩:=hm' l bb (fun e=>n2 (by first|exact e|exact e.symm)) (fun e=>n1 (by first|exact e|exact e.symm)) h;exact .inr ⟨by simp only[jy];rw[ai ae,ai ae],k2,k1⟩
def Is {w:bz}{facts rows:List aj}{c:List Int}{r:Int×List aj}{lp ln lc:Nat}(hmix:P.follows .mixedOrders=true)(hC:zo P ν cz fid af)(hnp:2=af.np)
  (h1:look m lp=some (.buf 3 [j4.D ⟨w,facts,.own ln 5 0 rows.length⟩])) (h2:look m ln=some (.buf 5 (rows.map aj.D))) (h3:look m lc=some (.buf 1 (c.map (D.int .i64)))) (hx:lp<nx/\ln<nx/\lc<nx)
  (hK:K (.int .i64 r.1) ⟨nx+1,(nx,.buf 5 (r.2.map aj.D))::cU (bY (bY m ln) lc) lp (.buf 3 [j4.D ⟨w,facts,.own nx 5 0 r.2.length⟩])⟩)
  (hw:cq ((under t key u).at 3) af.body (kn af (Hg w facts r)) (fJ af [.ptr 0 3 0 0,.own 2 1 0 c.length]) ⟨3,[(0,.buf 3 [j4.D ⟨w,facts,.own 1 5 0 rows.length⟩]),(1,.buf 5 (rows.map aj.D)),(2,.buf 1 (c.map (D.int .i64)))]⟩):kK P ν cz (under t key u) fid [.ptr lp 3 0 0,.own lc 1 0 c.length] ⟨nx,m⟩ K:=by
 have n1:lp≠ln:=by
  rintro rfl;rw[h1]at h2;exact absurd (bT.buf.inj (bl h2)).1 cg
 have n2:lp≠lc:=by
  rintro rfl;rw[h1]at h3;exact absurd (bT.buf.inj (bl h3)).1 cg
 have n3:ln≠lc:=by
  rintro rfl;rw[h2]at h3;exact absurd (bT.buf.inj (bl h3)).1 cg
 have b1:=ey n1;have b2:=ey n2;have b3:=ey n3;have b4:=ey n1.symm;have b5:=ey n2.symm;have b6:=ey n3.symm;have r1:fh 0 [(lp,0),(ln,1),(lc,2)] ln=some 1:=by simp only[fh,b1,cond_false,Nat.beq_refl,cond_true]
 have g3:eP 0 3 [(lp,0),(ln,1),(lc,2)]=true:=by simp[eP,b1,b2,b3,b4,b5,b6,Nat.blt];exact⟨⟨rfl,rfl⟩,rfl⟩
 have g4:∀l i,(l,i)∈[(lp,0),(ln,1),(lc,2)]->look m l≠none:=by
  intro l i h;simp only[dF,dZ,ec,or_false]at h;rcases h with⟨rfl,_⟩|⟨rfl,_⟩|⟨rfl,_⟩<;>simp[h1,h2,h3]
 have g5:∀i b,look [(0,bT.buf 3 [j4.D ⟨w,facts,.own 1 5 0 rows.length⟩]),(1,.buf 5 (rows.map aj.D)),(2,.buf 1 (c.map (D.int .i64)))] i=some b->∃l b',(l,i)∈[(lp,0),(ln,1),(lc,2)]/\look m l=some b'/\mC 0 [(lp,0),(ln,1),(lc,2)] b' b:=by
  intro i b h;simp only[look]at h;split at h
  .rename_i e;subst e;obtain rfl:=bl h;exact⟨lp,_,.head _,h1,rfl,.inr (.inl (by simp only[j4.D,fu,jm,qh,r1]))⟩
  .split at h
   .rename_i e;subst e;obtain rfl:=bl h;exact⟨ln,_,.tail _ (.head _),h2,rfl,.inl ⟨rfl,cd (fun _=>rfl) _⟩⟩
   .split at h
    .rename_i e;subst e;obtain rfl:=bl h;exact⟨lc,_,.tail _ (.tail _ (.head _)),h3,rfl,.inl ⟨rfl,cd (fun _=>rfl) _⟩⟩
    .cases h
 refine pB (σi:=[(lp,0),(ln,1),(lc,2)]) (cs:=[.ptr 0 3 0 0,.own 2 1 0 c.length]) (fun q=>oJ t key u q) hmix hC rfl ?_ hnp g3 g4 g5 hw fun d m1 h=>Al h1 hx.1 h _ _ _ g3 (.head _) g4 g5 (fun l b hl hl2 h=>?_) hK
 .intro i hi
  match i,hi with
  |0,_=>exact .inr (.inl (by simp[jm,qh,fh]))
  |1,_=>exact .inr (.inl (by simp[jm,qh,fh,b2,b3]))
 .rw[hJ]at h;split at h
  .cases h
  .rename_i e1;rw[hJ]at h;split at h
   .cases h
   .rename_i e2;refine⟨h,fun i hi=>?_⟩;simp only[dF,dZ,ec,or_false]at hi;rcases hi with⟨e,_⟩|⟨e,_⟩|⟨e,_⟩
    .exact hl e
    .exact e2 e
    .exact e1 e
def Ir {w:bz}{facts rows:List aj}{r:Int×List aj}{lp ln:Nat}(hmix:P.follows .mixedOrders=true)(hC:zo P ν cz fid af)(hnp:2=af.np)
  (h1:look m lp=some (.buf 3 [j4.D ⟨w,facts,.own ln 5 0 rows.length⟩])) (h2:look m ln=some (.buf 5 (rows.map aj.D))) (hx:lp<nx/\ln<nx)
  (hK:K (.int .i64 r.1) ⟨nx+1,(nx,.buf 5 (r.2.map aj.D))::cU (bY m ln) lp (.buf 3 [j4.D ⟨w,facts,.own nx 5 0 r.2.length⟩])⟩)
  (hw:cq ((under t key u).at 3) af.body (kn af (Hg w facts r)) (fJ af [.ptr 0 3 0 0,.aG]) ⟨3,[(0,.buf 3 [j4.D ⟨w,facts,.own 1 5 0 rows.length⟩]),(1,.buf 5 (rows.map aj.D))]⟩):kK P ν cz (under t key u) fid [.ptr lp 3 0 0,.aG] ⟨nx,m⟩ K:=by
 have n1:lp≠ln:=by
  rintro rfl;rw[h1]at h2;exact absurd (bT.buf.inj (bl h2)).1 cg
 have b1:=ey n1;have b4:=ey n1.symm;have r1:fh 0 [(lp,0),(ln,1)] ln=some 1:=by simp only[fh,b1,cond_false,Nat.beq_refl,cond_true]
 have g3:eP 0 3 [(lp,0),(ln,1)]=true:=by simp[eP,b4,Nat.blt];exact rfl
 have g4:∀l i,(l,i)∈[(lp,0),(ln,1)]->look m l≠none:=by
  intro l i h;simp only[dF,dZ,ec,or_false]at h;rcases h with⟨rfl,_⟩|⟨rfl,_⟩<;>simp[h1,h2]
 have g5:∀i b,look [(0,bT.buf 3 [j4.D ⟨w,facts,.own 1 5 0 rows.length⟩]),(1,.buf 5 (rows.map aj.D))] i=some b->∃l b',(l,i)∈[(lp,0),(ln,1)]/\look m l=some b'/\mC 0 [(lp,0),(ln,1)] b' b:=by
  intro i b h;simp only[look]at h;split at h
  .rename_i e;subst e;obtain rfl:=bl h;exact⟨lp,_,.head _,h1,rfl,.inr (.inl (by simp only[j4.D,fu,jm,qh,r1]))⟩
  .split at h
   .rename_i e;subst e;obtain rfl:=bl h;exact⟨ln,_,.tail _ (.head _),h2,rfl,.inl ⟨rfl,cd (fun _=>rfl) _⟩⟩
   .cases h
 refine pB (σi:=[(lp,0),(ln,1)]) (cs:=[.ptr 0 3 0 0,.aG]) (fun q=>oJ t key u q) hmix hC rfl ?_ hnp g3 g4 g5 hw fun d m1 h=>Al h1 hx.1 h _ _ _ g3 (.head _) g4 g5 (fun l b hl hl2 h=>?_) hK
 .intro i hi
  match i,hi with
  |0,_=>exact .inr (.inl (by simp[jm,qh,fh]))
  |1,_=>exact .inl ⟨rfl,rfl⟩
 .rw[hJ]at h;split at h
  .cases h
  .rename_i e2;refine⟨h,fun i hi=>?_⟩;simp only[dF,dZ,ec,or_false]at hi;rcases hi with⟨e,_⟩|⟨e,_⟩
   .exact hl e
   .exact e2 e
end
def N1 (ds:List D)(st:St):Nat:=match ds with
 |[.ptr l _ _ _,c]=>(match look st.m l with
  |some (.buf _ [.agg (.sl _ us::_)])=>us.length-(match c with
   | .own _ _ _ n=>n
   |_=>0)
  |_=>0)
 |_=>0
def DE {w:bz}{facts:List aj}{x:D}{lp lc n nx:Nat}{m:List (Nat×bT)}(h:look m lp=some (.buf 3 [j4.D ⟨w,facts,x⟩])):N1 [.ptr lp 3 0 0,.own lc 1 0 n] ⟨nx,m⟩=w.us.length-n:=by
 simp only[N1,h,j4.D,aE]
def DC {w:bz}{facts:List aj}{x:D}{lp nx:Nat}{m:List (Nat×bT)}(h:look m lp=some (.buf 3 [j4.D ⟨w,facts,x⟩])):N1 [.ptr lp 3 0 0,.aG] ⟨nx,m⟩=w.us.length:=by
 simp only[N1,h,j4.D,aE,Nat.sub_zero]
def K6 {w:bz}{facts rows:List aj}{c:List Int}:eO 2 1 (c.map (D.int .i64)) (bY [(0,bT.buf 3 [j4.D ⟨w,facts,.own 1 5 0 rows.length⟩]),(1,.buf 5 (rows.map aj.D)),(2,.buf 1 (c.map (D.int .i64)))] 2)=[(0,bT.buf 3 [j4.D ⟨w,facts,.own 1 5 0 rows.length⟩]),(1,.buf 5 (rows.map aj.D))]:=by
 simp[bY,eO,eW,dS,dQ,j4.D,cY]
end
section
section
variable [du] {P:Program} {ν:List (Nat×Nat)} {cz:List Nat} {t:List (Nat×lE)} {fid n key u k:Nat} {af:aJ} {nx:Nat} {m:List (Nat×bT)} {K:D->St->Prop}
def Au {lo kk n n':Nat}{es es' Z6:List D}{Q:D->List (Nat×bT)->Prop}(hes:aV es=true)(hes':aV es'=true)(has:aV Z6=true)(hmix:P.follows .mixedOrders=true)(hC:zo P ν cz fid af)(hnp:Z6.length+1=af.np)
  (h1:look m lo=some (.buf k es)) (hlo:lo<nx) (hQ:∀d m,Q d m->∃j,d=.own j kk 0 n'/\look m j=some (.buf kk es')) (hK:K (.own nx kk 0 n') ⟨nx+1,(nx,.buf kk es')::bY m lo⟩)
  (hw:cq ((under t key u).at 1) af.body (kn af Q) (fJ af (.own 0 k 0 n::Z6)) ⟨1,[(0,.buf k es)]⟩):kK P ν cz (under t key u) fid (.own lo k 0 n::Z6) ⟨nx,m⟩ K:=by
 have g3:eP 0 1 [(lo,0)]=true:=by simp[eP]
 have g4:∀l i,(l,i)∈[(lo,0)]->look m l≠none:=by
  intro l i h;obtain⟨rfl,rfl⟩:=Prod.mk.inj (bG.1 h);rw[h1];simp
 have g5:∀i b,look [(0,bT.buf k es)] i=some b->∃l b',(l,i)∈[(lo,0)]/\look m l=some b'/\mC 0 [(lo,0)] b' b:=by
  intro i b h;simp only[look]at h;split at h
  .rename_i e;subst e;obtain rfl:=bl h;exact⟨lo,_,.head _,h1,rfl,.inl ⟨rfl,hes⟩⟩
  .cases h
 refine pB (σi:=[(lo,0)]) (cs:=.own 0 k 0 n::Z6) (fun q=>oJ t key u q) hmix hC bA ?_ (by simpa using hnp) g3 g4 g5 hw ?_
 .intro i hi
  match i with
  |0=>exact .inr (.inl (by simp[jm,qh,fh]))
  |i+1=>exact .inl ⟨rfl,cB has i⟩
 .intro d m1 h;obtain⟨j,rfl,hj⟩:=hQ d m1 h;refine⟨[(j,nx)],j+1,_,_,⟨g3, ?_,Nat.le_succ _,g4, ?_,g5, ?_⟩,.inr (.inl (by simp[jm,qh,fh])),hK⟩
  .simp[eP]
  .intro i l h;obtain⟨rfl,rfl⟩:=Prod.mk.inj (bG.1 h);exact .inr (aB _)
  .intro l bb h;simp only[look]at h;split at h
   .rename_i e;subst e;obtain rfl:=bl h;exact .inl ⟨j,_,.head _,hj,rfl,.inl ⟨rfl,hes'⟩⟩
   .rename_i hn;rw[hJ]at h;split at h
    .cases h
    .rename_i hl;refine .inr ⟨by simp only[jy,ai hn],fun i hi=>?_,h⟩;exact hl (Prod.mk.inj (bG.1 hi)).1
def yT {lo n:Nat}{es Z6:List D}{v:D}{Q:D->List (Nat×bT)->Prop}(hes:aV es=true)(hv:v.bm=true)(has:aV Z6=true)(hmix:P.follows .mixedOrders=true)(hC:zo P ν cz fid af)(hnp:Z6.length+1=af.np)
  (h1:look m lo=some (.buf k es)) (hlo:lo<nx) (hQ:∀d m,Q d m->d=v) (hK:K v ⟨nx,bY m lo⟩)
  (hw:cq ((under t key u).at 1) af.body (kn af Q) (fJ af (.own 0 k 0 n::Z6)) ⟨1,[(0,.buf k es)]⟩):kK P ν cz (under t key u) fid (.own lo k 0 n::Z6) ⟨nx,m⟩ K:=by
 have g3:eP 0 1 [(lo,0)]=true:=by simp[eP]
 have g4:∀l i,(l,i)∈[(lo,0)]->look m l≠none:=by
  intro l i h;obtain⟨rfl,rfl⟩:=Prod.mk.inj (bG.1 h);rw[h1];simp
 have g5:∀i b,look [(0,bT.buf k es)] i=some b->∃l b',(l,i)∈[(lo,0)]/\look m l=some b'/\mC 0 [(lo,0)] b' b:=by
  intro i b h;simp only[look]at h;split at h
  .rename_i e;subst e;obtain rfl:=bl h;exact⟨lo,_,.head _,h1,rfl,.inl ⟨rfl,hes⟩⟩
  .cases h
 refine pB (σi:=[(lo,0)]) (cs:=.own 0 k 0 n::Z6) (fun q=>oJ t key u q) hmix hC bA ?_ (by simpa using hnp) g3 g4 g5 hw ?_
 .intro i hi
  match i with
  |0=>exact .inr (.inl (by simp[jm,qh,fh]))
  |i+1=>exact .inl ⟨rfl,cB has i⟩
 .intro d m1 h;have hd:=hQ d m1 h;refine⟨[],1,⟨nx,bY m lo⟩,v,⟨g3,rfl,aB _,g4,(fun _ _ h=>by cases h),g5, ?_⟩,.inl ⟨hd.symm,by rw[hd];exact hv⟩,hK⟩;intro l bb h;simp only at h;rw[hJ]at h;split at h
  .cases h
  .rename_i hl;refine .inr ⟨rfl,fun i hi=>?_,h⟩;exact hl (Prod.mk.inj (bG.1 hi)).1
def Jw {g g':Gs}{xs:List CW}{kk lc:Nat}{E:List D}{v:D}{Q:D->List (Nat×bT)->Prop}(hv:v.bm=true)(hE:aV E=true)(hmix:P.follows .mixedOrders=true)(hC:zo P ν cz fid af)(hnp:2=af.np)
  (hn:lc≠0/\lc≠10/\lc<nx/\11<=nx) (h0:look m 0=some (.buf 2 [g.D])) (h1:look m lc=some (.buf 8 (xs.map (CW.D 10)))) (h10:look m 10=some (.buf kk E)) (hK:K v ⟨nx,cU m 0 (.buf 2 [g'.D])⟩)
  (hQ:∀d m1,Q d m1->d=v/\look m1 0=some (.buf 2 [g'.D])/\look m1 1=some (.buf 8 (xs.map (CW.D 10)))/\look m1 10=some (.buf kk E))
  (hw:cq ((under t key u).at 11) af.body (kn af Q) (fJ af [.ptr 0 2 0 0,.own 1 8 0 xs.length]) ⟨11,[(0,.buf 2 [g.D]),(1,.buf 8 (xs.map (CW.D 10))),(10,.buf kk E)]⟩):kK P ν cz (under t key u) fid [.ptr 0 2 0 0,.own lc 8 0 xs.length] ⟨nx,m⟩ K:=by
 have b1:=ey hn.1;have b2:=ey hn.2.1;have b3:=ey (Ne.symm hn.1);have b4:=ey (Ne.symm hn.2.1);have r10:fh 0 [(0,0),(lc,1),(10,10)] 10=some 10:=by simp only[fh,b2,cond_false];rfl
 have o10:fh 0 [(0,0),(1,lc),(10,10)] 10=some 10:=rfl;have g3:eP 0 11 [(0,0),(lc,1),(10,10)]=true:=by simp[eP,b1,b2,b3,b4,Nat.blt];exact⟨⟨rfl,rfl⟩,rfl⟩
 have g4:∀l i,(l,i)∈[(0,0),(lc,1),(10,10)]->look m l≠none:=by
  intro l i h;simp only[dF,dZ,ec,or_false]at h;rcases h with⟨rfl,_⟩|⟨rfl,_⟩|⟨rfl,_⟩<;>simp[h0,h1,h10]
 have g5:∀i b,look [(0,bT.buf 2 [g.D]),(1,.buf 8 (xs.map (CW.D 10))),(10,.buf kk E)] i=some b->∃l b',(l,i)∈[(0,0),(lc,1),(10,10)]/\look m l=some b'/\mC 0 [(0,0),(lc,1),(10,10)] b' b:=by
  intro i b h;simp only[look]at h;split at h
  .rename_i e;subst e;obtain rfl:=bl h;exact⟨0,_,.head _,h0,rfl,.inl ⟨rfl,rfl⟩⟩
  .split at h
   .rename_i e;subst e;obtain rfl:=bl h;exact⟨lc,_,.tail _ (.head _),h1,rfl,.inr (.inl (dz r10 xs))⟩
   .split at h
    .rename_i e;subst e;obtain rfl:=bl h;exact⟨10,_,.tail _ (.tail _ (.head _)),h10,rfl,.inl ⟨rfl,hE⟩⟩
    .cases h
 refine pB (σi:=[(0,0),(lc,1),(10,10)]) (cs:=[.ptr 0 2 0 0,.own 1 8 0 xs.length]) (fun q=>oJ t key u q) hmix hC rfl ?_ hnp g3 g4 g5 hw ?_
 .intro i hi
  match i,hi with
  |0,_=>exact .inr (.inl (by simp[jm,qh,fh]))
  |1,_=>exact .inr (.inl (by simp[jm,qh,fh,b3]))
 .intro d m1 h;obtain⟨hd,q0,q1,q10⟩:=hQ d m1 h;refine⟨[(0,0),(1,lc),(10,10)],11,⟨nx,cU m 0 (.buf 2 [g'.D])⟩,v,⟨g3, ?_,aB _,g4, ?_,g5, ?_⟩,.inl ⟨hd.symm,by rw[hd];exact hv⟩,hK⟩
  .simp only[eP,List.all_cons,List.all_nil,b1,b2,b3,b4,Bool.not_false,eL,jh,Nat.blt,bR,Nat.ble_eq];repeat' first|exact rfl|exact Nat.zero_le _|omega|refine And.intro ?_ ?_
  .intro i l h;simp only[dF,dZ,ec,or_false]at h;rcases h with⟨rfl,rfl⟩|⟨rfl,rfl⟩|⟨rfl,rfl⟩
   .exact .inl (.head _)
   .exact .inl (.tail _ (.head _))
   .exact .inl (.tail _ (.tail _ (.head _)))
  .intro l bb h;simp only at h;rw[dk]at h;split at h
   .rename_i e;subst e;obtain rfl:=bl h;exact .inl ⟨0,_,.head _,q0,rfl,.inl ⟨rfl,rfl⟩⟩
   .rename_i e0;by_cases e1:l=lc
    .subst e1;rw[h1]at h;obtain rfl:=bl h;exact .inl ⟨1,_,.tail _ (.head _),q1,rfl,.inr (.inl (dz o10 xs))⟩
    .by_cases e2:l=10
     .subst e2;rw[h10]at h;obtain rfl:=bl h;exact .inl ⟨10,_,.tail _ (.tail _ (.head _)),q10,rfl,.inl ⟨rfl,hE⟩⟩
     .refine .inr ⟨by simp only[jy,ai (fun e=>e0 (Eq.symm e)),ai (fun e=>e1 (Eq.symm e)),ai (fun e=>e2 (Eq.symm e))],fun i hi=>?_,h⟩;simp only[dF,dZ,ec,or_false]at hi;rcases hi with⟨h,_⟩|⟨h,_⟩|⟨h,_⟩
      .exact e0 h
      .exact e1 h
      .exact e2 h
end
end
section
def GP:List (Nat×Nat):=[(0,0),(1,1),(2,2),(3,3),(4,4),(5,5),(6,6),(7,7),(8,8),(9,9),(10,10)]
def yB {l i:Nat}(h:(l,i)∈GP):i=l/\l<=10:=by
 simp only[GP,dF,dZ,ec,or_false]at h;omega
def KU:∀l,l<11->(l,l)∈GP:=cg
def uK {l:Nat}(h:l<=10):(l,l)∈GP:=KU l ae
def wo {m:List (Nat×bT)}{g:Gs}{n:Nat}{nm ft:Nat->dG}{cs:Nat->List CW}{kk:Nat}{E:List D}(hn:n<=8)(hE:aV E=true)(h:KA m g n nm ft cs kk E){l:Nat}(h1:1<=l)(h10:l<=10):∃b,(∀m2 g2,KA m2 g2 n nm ft cs kk E->look m2 l=some b)/\mC 0 GP b b:=by
 rcases cV l 2 with h2|h2
 .obtain rfl:l=1:=ae;exact⟨_,fun m2 g2 w=>w.2.1,rfl,.inr (.inl (jq _ fun j hj=>eU ae))⟩
 .rcases cV l 10 with h3|h3
  .obtain⟨j,rfl⟩:∃j,l=2+j:=⟨l-2,ae⟩
   exact⟨_,fun m2 g2 w=>w.2.2.1 j ae,rfl,.inr (.inl (dz rfl _))⟩
  .obtain rfl:l=10:=ae;exact⟨_,fun m2 g2 w=>w.2.2.2,rfl,.inl ⟨rfl,hE⟩⟩
section
variable [du] {P:Program} {ν:List (Nat×Nat)} {cz:List Nat} {t:List (Nat×lE)} {fid key u k:Nat} {af:aJ} {nx:Nat} {m:List (Nat×bT)} {K:D->St->Prop}
def Bi {g g':Gs}{n c:Nat}{nm ft:Nat->dG}{cs:Nat->List CW}{kk:Nat}{E Z6:List D}{v:D}{m0:List (Nat×bT)}{Q:D->List (Nat×bT)->Prop}(hv:v.bm=true)(hE:aV E=true)(has:aV Z6=true)(hn:n<=8)(hmix:P.follows .mixedOrders=true)(hC:zo P ν cz fid af)(hnp:Z6.length+2=af.np)
  (hx:11<=nx) (hw:KA m g n nm ft cs kk E) (h0:KA m0 g n nm ft cs kk E) (hm0:∀i,11<=i->look m0 i=none) (hK:K v ⟨nx,cU m 0 (.buf 2 [g'.D])⟩) (hQ:∀d m1,Q d m1->d=v/\KA m1 g' n nm ft cs kk E)
  (hwp:cq ((under t key u).at 11) af.body (kn af Q) (fJ af (.ptr 0 2 0 0::.own 1 3 0 c::Z6)) ⟨11,m0⟩):kK P ν cz (under t key u) fid (.ptr 0 2 0 0::.own 1 3 0 c::Z6) ⟨nx,m⟩ K:=by
 have g4:∀l i,(l,i)∈GP->look m l≠none:=by
  intro l i h;obtain⟨_,hl⟩:=yB h;rcases Nat.eq_zero_or_pos l with rfl|hp
  .rw[hw.1];simp
  .obtain⟨b,hb,_⟩:=wo hn hE hw hp hl;rw[hb _ _ hw];simp
 have g5:∀i b,look m0 i=some b->∃l b',(l,i)∈GP/\look m l=some b'/\mC 0 GP b' b:=by
  intro i b h;rcases cV i 11 with hi|hi
  .rcases Nat.eq_zero_or_pos i with rfl|hp
   .rw[h0.1]at h;obtain rfl:=bl h;exact⟨0,_,uK ae,hw.1,rfl,.inl ⟨rfl,rfl⟩⟩
   .obtain⟨b2,hb,hr⟩:=wo hn hE hw hp ae;rw[hb _ _ h0]at h;obtain rfl:=bl h;exact⟨i,_,uK ae,hb _ _ hw,hr⟩
  .rw[hm0 i hi]at h;cases h
 refine pB (σi:=GP) (cs:=.ptr 0 2 0 0::.own 1 3 0 c::Z6) (fun q=>oJ t key u q) hmix hC rfl ?_ (by simpa using hnp) rfl g4 g5 hwp ?_
 .intro i hi
  match i with
  |0=>exact .inr (.inl rfl)
  |1=>exact .inr (.inl rfl)
  |i+2=>exact .inl ⟨rfl,cB has i⟩
 .intro d m1 h;obtain⟨hd,q⟩:=hQ d m1 h;refine⟨GP,11,⟨nx,cU m 0 (.buf 2 [g'.D])⟩,v,⟨rfl, ?_,aB _,g4, ?_,g5, ?_⟩,.inl ⟨hd.symm,by rw[hd];exact hv⟩,hK⟩
  .simp only[GP,eP,Nat.blt,bR,Nat.ble_eq];repeat' first|exact rfl|exact Nat.zero_le _|omega|refine And.intro ?_ ?_
  .intro i l h;obtain⟨rfl,hl⟩:=yB h;exact .inl (uK hl)
  .intro l bb h;simp only at h;rw[dk]at h;split at h
   .rename_i e;subst e;obtain rfl:=bl h;exact .inl ⟨0,_,uK ae,q.1,rfl,.inl ⟨rfl,rfl⟩⟩
   .rename_i e0;rcases cV l 11 with hl|hl
    .obtain⟨b2,hb,hr⟩:=wo hn hE hw (show 1<=l by omega) ae;rw[hb _ _ hw]at h;obtain rfl:=bl h;exact .inl ⟨l,_,uK ae,hb _ _ q,hr⟩
    .refine .inr ⟨?_,fun i hi=>by have:=(yB hi).2;omega,h⟩;simp only[GP,jy];repeat(rw[ai ae])
end
end
section
def Jx (nx:Nat):List (Nat×Nat):=[(0,0),(1,nx),(2,nx+1),(3,nx+2),(4,nx+3),(5,nx+4),(6,nx+5),(7,nx+6),(8,nx+7),(9,nx+8)]
def LL {nx l i:Nat}(h:(i,l)∈Jx nx):i=0/\l=0\/nx<=l:=by
 simp only[Jx,dF,dZ,ec,or_false]at h;omega
def OF {nx j:Nat}(h:j<8):fh 0 (Jx nx) (2+j)=some (nx+1+j):=by
 match j,h with
 |0,_|1,_|2,_|3,_|4,_|5,_|6,_|7,_=>rfl
def OE {nx j:Nat}(h:j<8):(2+j,nx+1+j)∈Jx nx:=by
 match j,h with
 |0,_|1,_|2,_|3,_|4,_|5,_|6,_|7,_=>simp[Jx]
def Ky {nx:Nat}{us:List RU}(h:us.length<=8):fu 0 (Jx nx) (xa us)=some (OT (nx+1) us):=by
 unfold xa UB OT;have h2:∀j∈List.range us.length,fh 0 (Jx nx) (2+j)=some (nx+1+j):=fun j hj=>OF (by have:=List.mem_range.1 hj;omega)
 revert h2;generalize List.range us.length=r;intro h2;induction r with
 |nil=>rfl
 |cons a r ih=>
  have:=h2 a (.head _);simp only[List.map_cons,fu,UD,jm,qh,this,ih fun j hj=>h2 j (.tail _ hj)]
def Kz {g:Gs}{us:List RU}{j:Nat}(h:j<8):look (UM g us) (2+j)=some (.buf 8 (us[j]!.cs.map (CW.D 10))):=by
 match j,h with
 |0,_|1,_|2,_|3,_|4,_|5,_|6,_|7,_=>rfl
def Hj {nx l:Nat}{us:List RU}{r:List (Nat×bT)}{b:bT}(h:look (OU nx us++r) l=some b):l=nx/\b=.buf 3 (OT (nx+1) us)\/(∃j,j<8/\l=nx+1+j/\b=.buf 8 (us[j]!.cs.map (CW.D 10)))\/(l<nx\/nx+8<l)/\look r l=some b:=by
 simp only[OU,qq,wF,look]at h;split at h
 .exact .inl ⟨ae,(bl h).symm⟩
 split at h
 .exact .inr (.inl ⟨0,cg,ae,(bl h).symm⟩)
 split at h
 .exact .inr (.inl ⟨1,cg,ae,(bl h).symm⟩)
 split at h
 .exact .inr (.inl ⟨2,cg,ae,(bl h).symm⟩)
 split at h
 .exact .inr (.inl ⟨3,cg,ae,(bl h).symm⟩)
 split at h
 .exact .inr (.inl ⟨4,cg,ae,(bl h).symm⟩)
 split at h
 .exact .inr (.inl ⟨5,cg,ae,(bl h).symm⟩)
 split at h
 .exact .inr (.inl ⟨6,cg,ae,(bl h).symm⟩)
 split at h
 .exact .inr (.inl ⟨7,cg,ae,(bl h).symm⟩)
 exact .inr (.inr ⟨ae,h⟩)
def wg (g:Gs)(few:Int):(ep g few).1.length<=8/\∀u∈(ep g few).1,u.pl:=by
 obtain⟨more,e,hm,hl,_,_⟩:=xZ (g:=g) (few:=few);rw[e];refine⟨by simp only[tq,cI,List.length_singleton];omega,fun u hu=>?_⟩;rcases List.mem_append.1 hu with h|h
 .obtain rfl:=bG.1 h;intro c hc;obtain rfl:=bG.1 hc;rfl
 .obtain⟨vs,e,_⟩:=hm u h;intro c hc;rw[e]at hc;exact fE vs c hc
def Bj {a b c d e f g h i j k:bT}{l:Nat}(hl:11<=l):look [(0,a),(1,b),(2,c),(3,d),(4,e),(5,f),(6,g),(7,h),(8,i),(9,j),(10,k)] l=none:=by
 simp only[look];repeat rw[ai ae]
section
variable [du] {P:Program} {ν:List (Nat×Nat)} {cz:List Nat} {t:List (Nat×lE)} {fid key u k:Nat} {af:aJ} {nx:Nat} {m:List (Nat×bT)} {K:D->St->Prop}
def CY {g g1:Gs}{us:List RU}{Z6:List D}{Q:D->List (Nat×bT)->Prop}(has:aV Z6=true)(hpl:∀u∈us,u.pl)(hl8:us.length<=8)(hmix:P.follows .mixedOrders=true)(hC:zo P ν cz fid af)(hnp:Z6.length+1=af.np)
  (h0:look m 0=some (.buf 2 [g.D])) (hx:0<nx) (hQ:∀d m1,Q d m1->d=.own 1 3 0 us.length/\m1=UM g1 us) (hK:K (.own nx 3 0 us.length) ⟨nx+9,OU nx us++cU m 0 (.buf 2 [g1.D])⟩)
  (hw:cq ((under t key u).at 1) af.body (kn af Q) (fJ af (.ptr 0 2 0 0::Z6)) ⟨1,[(0,.buf 2 [g.D])]⟩):kK P ν cz (under t key u) fid (.ptr 0 2 0 0::Z6) ⟨nx,m⟩ K:=by
 have g3:eP 0 1 [(0,0)]=true:=rfl;have g4:∀l i,(l,i)∈[(0,0)]->look m l≠none:=by
  intro l i h;obtain⟨rfl,rfl⟩:=Prod.mk.inj (bG.1 h);rw[h0];simp
 have g5:∀i b,look [(0,bT.buf 2 [g.D])] i=some b->∃l b',(l,i)∈[(0,0)]/\look m l=some b'/\mC 0 [(0,0)] b' b:=by
  intro i b h;simp only[look]at h;split at h
  .rename_i e;subst e;obtain rfl:=bl h;exact⟨0,_,.head _,h0,rfl,.inl ⟨rfl,rfl⟩⟩
  .cases h
 refine pB (σi:=[(0,0)]) (cs:=.ptr 0 2 0 0::Z6) (fun q=>oJ t key u q) hmix hC bA ?_ (by simpa using hnp) g3 g4 g5 hw ?_
 .intro i hi
  match i with
  |0=>exact .inr (.inl rfl)
  |i+1=>exact .inl ⟨rfl,cB has i⟩
 .intro d m1 h;obtain⟨rfl,rfl⟩:=hQ d m1 h;refine⟨Jx nx,10,⟨nx+9,OU nx us++cU m 0 (.buf 2 [g1.D])⟩,_,⟨g3, ?_,(Nat.le_add_right _ _:nx<=nx+9),g4, ?_,g5, ?_⟩,.inr (.inl rfl),hK⟩
  .have z:∀i,Nat.beq 0 (i+1)=false:=fun i=>rfl
   simp only[Jx,eP,List.all_cons,List.all_nil,bR,ef,Nat.blt,Nat.ble_eq];repeat' first|exact trivial|exact rfl|exact Nat.zero_le _|(exact ey ae)|omega|refine And.intro ?_ ?_
  .intro i l h;rcases LL h with⟨rfl,rfl⟩|h
   .exact .inl (.head _)
   .exact .inr h
  .intro l bb h5;rcases Hj h5 with⟨rfl,rfl⟩|⟨j,hj,rfl,rfl⟩|⟨hl,h6⟩
   .exact .inl ⟨1,.buf 3 (xa us),by simp[Jx],rfl,rfl,.inr (.inl (Ky hl8))⟩
   .exact .inl ⟨2+j,_,OE hj,Kz hj,rfl,.inl ⟨rfl,jg hpl j⟩⟩
   .clear h5;rw[dk]at h6;split at h6
    .rename_i e;subst e;obtain rfl:=bl h6;exact .inl ⟨0,.buf 2 [g1.D],.head _,rfl,rfl,.inl ⟨rfl,rfl⟩⟩
    .rename_i e0;refine .inr ⟨?_,fun i hi=>?_,h6⟩
     .simp only[Jx,jy];repeat(rw[ai ae])
     .obtain⟨e,_⟩:=Prod.mk.inj (bG.1 hi);omega
end
end
end Go.Abs
section
namespace Go.Abs
variable {Y:Ctx}(hm:(Y.at 0).cE)
def ah {p:Prop}(h:p:=by exact rfl):p:=h
def Ll {p:Prop}(h:p:=by repeat(first|exact aQ.nil|refine aQ.un ?_|refine aQ.eq ch ?_)):p:=h
def dp {p:Prop}(h:p:=by first|exact rfl|exact cd (fun _=>rfl) _):p:=h
def jl {p:Prop}(h:p:=by repeat(first|exact aQ.nil|refine aQ.un ?_|refine aQ.eq ch ?_|refine aQ.nl ch ch ?_)):p:=h
def lN {p:Prop}(h:p:=by repeat' first|exact trivial|exact rfl|refine And.intro ?_ ?_):p:=h
def Ay {p:Prop}(h:p:=by repeat' first|exact trivial|exact rfl|exact aB _|refine And.intro ?_ ?_):p:=h
def qqq1 {p:Prop}(h:p:=by repeat(first|exact aK.nil|refine aK.fM ch ch (by first|exact rfl|exact cd (fun _=>rfl) _) ?_|refine aK.ed ch ch ch ?_|refine aK.me ch ch ch ch ?_)):p:=h
def b0 {p:Prop} [Decidable p]:(decide p=true)=p:=cj
def b1 {p:Prop} [Decidable p]:decide p=false↔¬p:=di
def b2 (b:Bool):((!b)=true)=(b=false):=ef b
def b3 (b:Bool):((!b)=false)=(b=true):=oL b
def b4 (b:Bool):(¬(b=false))=(b=true):=Bool.not_eq_false b
def b5 (a b:Bool):((a ||b)=true)=(a=true\/b=true):=er a b
def b6 {a b:Bool}:(a ||b)=false↔a=false/\b=false:=ig
end Go.Abs
namespace Go.Abs
variable {Y:Ctx}(hm:(Y.at 0).cE)
abbrev dI (Y:Ctx)(a:aJ)(d:D)(ds:List D):Prop:=cq (Y.at 0) a.body (OS a d) (fJ a ds) ⟨0,[]⟩
def cP {a:aJ}{d d2:D}{e:Ex}{nx:Nat}{m:List (Nat×bT)}{env:List cb}(h:d2=d)(he:e.home:=by exact trivial)(h1:oC m env a.res:=by exact Ay)(h2:Bo a env m:=by exact lN)(h3:JQ a env m=d2:=by exact rfl):OS a d e env ⟨nx,m⟩:=Jp he h1 h2 (h3.trans h)
def bB {a:aJ}{d d2:Bool}{e:Ex}{nx:Nat}{m:List (Nat×bT)}{env:List cb}(h:d2=d)(he:e.home:=by exact trivial)(h1:oC m env a.res:=by exact Ay)(h2:Bo a env m:=by exact lN)(h3:JQ a env m=.bool d2:=by exact rfl):OS a (.bool d) e env ⟨nx,m⟩:=cP (bV _ h) he h1 h2 h3
def dc {a:aJ}{d d2:Int}{e:Ex}{nx:Nat}{m:List (Nat×bT)}{env:List cb}(h:d2=d)(he:e.home:=by exact trivial)(h1:oC m env a.res:=by exact Ay)(h2:Bo a env m:=by exact lN)(h3:JQ a env m=.int .i64 d2:=by exact rfl):OS a (.int .i64 d) e env ⟨nx,m⟩:=cP (bV _ h) he h1 h2 h3
def fo {lo c nx nx2:Nat}{env env2:List cb}{m m2:List (Nat×bT)}(σ:List (Nat×Nat))(hc:nx2=c:=by exact ah)(h:eP lo c σ=true:=by exact ah)(he:aQ lo σ env env2:=by exact jl)(hm:aK lo c σ m m2:=by exact qqq1):aS lo env ⟨nx,m⟩ env2 ⟨nx2,m2⟩:=aS.to σ hc h he hm
end Go.Abs
namespace Go.Abs
variable {Y:Ctx}(hm:(Y.at 0).cE)
def kd {lo c l:Nat}{σ:List (Nat×Nat)}{m r:List (Nat×bT)}{b:bT}(h:aK lo c σ m r)(hh:aK lo c σ m [(l,b)]:=by(first|refine aK.fM ch ch (by first|exact rfl|exact cd (fun _=>rfl) _) ?_|refine aK.ed ch ch ch ?_|refine aK.me ch ch ch ch ?_)<;>exact aK.nil):aK lo c σ m ((l,b)::r):=⟨hh.1,h⟩
end Go.Abs
namespace Go.Abs
variable {Y:Ctx}(hm:(Y.at 0).cE)
section
variable {Y:Ctx} {Q:Ex->List cb->St->Prop}
def cmN {env rs:List cb}:HF env rs []=env:=rfl
def cmC {s p:Nat}{r:List (Nat×Nat)}{env rs env1 env':List cb}{f:Bool}{d:D}(e:cN [] rs (.l p)=⟨f,d⟩)(hs:env.set s ⟨f,d⟩=env1)(h:HF env1 rs r=env'):HF env rs ((s,p)::r)=env':=by
 simp only[HF,e,hs,h]
def rrrg {draw:Bool}{cm:List (Nat×Nat)}{b:AC}{nx nx':Nat}{m:List (Nat×bT)}{rs env fJ env':List cb}(h:cq Y b Q env' ⟨nx',m⟩)
  (he:HF env rs cm=env':=by repeat(first|apply cmC ch (by simp only[List.set_cons_zero,List.set_cons_succ];exact rfl)|with_reducible exact cmN)) (hn:nx+rs.length=nx':=by simp only[bj,bw,Nat.reduceAdd];exact rfl):aN Y draw [] fJ rs nx m (fun vs st'=>cq Y b Q (fX env vs cm) st'):=
 lz h he hn
def rrrh {draw:Bool}{cm:List (Nat×Nat)}{nx nx':Nat}{m:List (Nat×bT)}{rs env fJ env':List cb}(h:Q .normal env' ⟨nx',m⟩)
  (he:HF env rs cm=env':=by repeat(first|apply cmC ch (by simp only[List.set_cons_zero,List.set_cons_succ];exact rfl)|with_reducible exact cmN)) (hn:nx+rs.length=nx':=by simp only[bj,bw,Nat.reduceAdd];exact rfl):aN Y draw [] fJ rs nx m (fun vs st'=>Q .normal (fX env vs cm) st'):=
 qX h he hn
end
def Fam (_:Prop):Type:=Unit
def wK {q:Prop}:Fam q:=()
structure Hid (q:Prop)(f:Fam q):Prop where
 val:q
section
variable {Y:Ctx} {draw b1:Bool} {r:List GI} {env rs:List cb} {nx n0 n1:Nat} {m:List (Nat×bT)} {K:List cb->St->Prop} {g:Option (Nat×Bool)} {x0 x1 x2:Src}
def tg0 {Y:Ctx}{a:AC}{Q:Ex->List cb->St->Prop}{env:List cb}{st:St}(h:cq Y a Q env st):cq Y a Q env st:=h
def tg1 (h:aN Y draw (⟨.mv x0,g⟩::r) env rs nx m K):aN Y draw (⟨.mv x0,g⟩::r) env rs nx m K:=h
def tg2 (h:aN Y draw [] env rs nx m K):aN Y draw [] env rs nx m K:=h
def tg3 (h:aN Y draw (⟨.fa n0 x1,g⟩::r) env rs nx m K):aN Y draw (⟨.fa n0 x1,g⟩::r) env rs nx m K:=h
def tg4 (h:aN Y draw (⟨.ld n0 b1 x2,g⟩::r) env rs nx m K):aN Y draw (⟨.ld n0 b1 x2,g⟩::r) env rs nx m K:=h
def tg5 (h:aN Y draw (⟨.bin .lss x0 x1,g⟩::r) env rs nx m K):aN Y draw (⟨.bin .lss x0 x1,g⟩::r) env rs nx m K:=h
def tg6 (h:aN Y draw (⟨.bin .eql x0 x1,g⟩::r) env rs nx m K):aN Y draw (⟨.bin .eql x0 x1,g⟩::r) env rs nx m K:=h
def tg7 (h:aN Y draw (⟨.bin .add x0 x1,g⟩::r) env rs nx m K):aN Y draw (⟨.bin .add x0 x1,g⟩::r) env rs nx m K:=h
def tg8 (h:aN Y draw (⟨.bin .gtr x0 x1,g⟩::r) env rs nx m K):aN Y draw (⟨.bin .gtr x0 x1,g⟩::r) env rs nx m K:=h
def tg9 (h:aN Y draw (⟨.bin .neq x0 x1,g⟩::r) env rs nx m K):aN Y draw (⟨.bin .neq x0 x1,g⟩::r) env rs nx m K:=h
def tg10 (h:aN Y draw (⟨.bin .leq x0 x1,g⟩::r) env rs nx m K):aN Y draw (⟨.bin .leq x0 x1,g⟩::r) env rs nx m K:=h
def tg11 (h:aN Y draw (⟨.bin .geq x0 x1,g⟩::r) env rs nx m K):aN Y draw (⟨.bin .geq x0 x1,g⟩::r) env rs nx m K:=h
def tg12 (h:aN Y draw (⟨.bin .sub x0 x1,g⟩::r) env rs nx m K):aN Y draw (⟨.bin .sub x0 x1,g⟩::r) env rs nx m K:=h
def tg13 (h:aN Y draw (⟨.ext x0 n1,g⟩::r) env rs nx m K):aN Y draw (⟨.ext x0 n1,g⟩::r) env rs nx m K:=h
def tg14 (h:aN Y draw (⟨.pick x0 x1 (.c (.bool false)),g⟩::r) env rs nx m K):aN Y draw (⟨.pick x0 x1 (.c (.bool false)),g⟩::r) env rs nx m K:=h
def tg15 (h:aN Y draw (⟨.pick x0 (.c (.bool true)) x1,g⟩::r) env rs nx m K):aN Y draw (⟨.pick x0 (.c (.bool true)) x1,g⟩::r) env rs nx m K:=h
def tg16 (h:aN Y draw (⟨.un .not x0,g⟩::r) env rs nx m K):aN Y draw (⟨.un .not x0,g⟩::r) env rs nx m K:=h
def tg17 (h:aN Y draw (⟨.nilck x0,g⟩::r) env rs nx m K):aN Y draw (⟨.nilck x0,g⟩::r) env rs nx m K:=h
def tg18 (h:aN Y draw (⟨.box n0 x1,g⟩::r) env rs nx m K):aN Y draw (⟨.box n0 x1,g⟩::r) env rs nx m K:=h
def tg19 (h:aN Y draw (⟨.ia n0 x1 x2,g⟩::r) env rs nx m K):aN Y draw (⟨.ia n0 x1 x2,g⟩::r) env rs nx m K:=h
def tg20 (h:aN Y draw (⟨.ixS x0 x1,g⟩::r) env rs nx m K):aN Y draw (⟨.ixS x0 x1,g⟩::r) env rs nx m K:=h
def tg21 (h:aN Y draw (⟨.st n0 x1 x2,g⟩::r) env rs nx m K):aN Y draw (⟨.st n0 x1 x2,g⟩::r) env rs nx m K:=h
def tg22 (h:aN Y draw (⟨.len x0,g⟩::r) env rs nx m K):aN Y draw (⟨.len x0,g⟩::r) env rs nx m K:=h
def tg23 (h:aN Y draw (⟨.lenS x0,g⟩::r) env rs nx m K):aN Y draw (⟨.lenS x0,g⟩::r) env rs nx m K:=h
def tg24 (h:aN Y draw (⟨.rng x0,g⟩::r) env rs nx m K):aN Y draw (⟨.rng x0,g⟩::r) env rs nx m K:=h
def tg25 (h:aN Y draw (⟨.s2b x0,g⟩::r) env rs nx m K):aN Y draw (⟨.s2b x0,g⟩::r) env rs nx m K:=h
def tg26 (h:aN Y draw (⟨.mkB,g⟩::r) env rs nx m K):aN Y draw (⟨.mkB,g⟩::r) env rs nx m K:=h
def tg27 (h:aN Y draw (⟨.app n0 x1 x2,g⟩::r) env rs nx m K):aN Y draw (⟨.app n0 x1 x2,g⟩::r) env rs nx m K:=h
end
def av {p q:Prop}(k:q)(h:Hid q wK->p:=by
 intro h;first
 |((with_reducible refine tg0 ?_);first|with_reducible exact aq h.1|with_reducible exact wv h.1|with_reducible exact wA h.1|with_reducible exact wz h.1|with_reducible exact GO h.1|with_reducible exact wp_ret h.1|with_reducible exact wp_skip h.1|with_reducible exact wx h.1|with_reducible exact wp_exit h.1|with_reducible exact sR h.1 hm|with_reducible exact GN h.1 hm)
 |((with_reducible refine tg1 ?_);(refine mZ ?_;exact h.1))
 |((with_reducible refine tg2 ?_);first|(refine rrrh ?_;exact h.1)|(refine rrrg ?_;exact h.1))
 |((with_reducible refine tg3 ?_);first|(refine IX ?_;exact h.1)|(refine RJ ?_;exact h.1))
 |((with_reducible refine tg4 ?_);first|exact ax (.int _ _) h.1|exact ax (.str _) h.1|(refine aZ (v:=.str _) ?_;exact h.1)|(refine iM (v:=.str _) ?_;exact h.1)|(refine aZ (v:=.int _ _) ?_;exact h.1)|(refine iM (v:=.int _ _) ?_;exact h.1)|exact ax (.sl _ _) h.1|exact ax (.own _ _ _ _) h.1|exact ax (.bool _) h.1|(refine aZ (v:=.sl _ _) ?_;exact h.1)|(refine iM (v:=.sl _ _) ?_;exact h.1)|(refine aZ (v:=.bool _) ?_;exact h.1)|(refine iM (v:=.bool _) ?_;exact h.1)|exact aP h.1|exact ax .aG h.1)
 |((with_reducible refine tg5 ?_);first|(refine yY ?_;exact h.1)|(refine Oy ?_;exact h.1))
 |((with_reducible refine tg6 ?_);first|(refine Oh ?_;exact h.1)|(refine Oi ?_;exact h.1))
 |((with_reducible refine tg7 ?_);(refine aL ?_;exact h.1))
 |((with_reducible refine tg8 ?_);first|(refine Om ?_;exact h.1)|(refine On ?_;exact h.1))
 |((with_reducible refine tg9 ?_);first|(refine Oz ?_;exact h.1)|(refine OA ?_;exact h.1))
 |((with_reducible refine tg10 ?_);first|(refine Ov ?_;exact h.1)|(refine Ox ?_;exact h.1))
 |((with_reducible refine tg11 ?_);first|(refine Oj ?_;exact h.1)|(refine Ol ?_;exact h.1))
 |((with_reducible refine tg12 ?_);(refine eC ?_;exact h.1))
 |((with_reducible refine tg13 ?_);first|exact gR (.int _ _) h.1|exact gR (.str _) h.1|exact gR (.bool _) h.1)
 |((with_reducible refine tg14 ?_);(refine RI ?_;exact h.1))
 |((with_reducible refine tg15 ?_);(refine r_or ?_;exact h.1))
 |((with_reducible refine tg16 ?_);(refine RN ?_;exact h.1))
 |((with_reducible refine tg17 ?_);first|(refine OB ?_;exact h.1)|(refine OC ?_;exact h.1))
 |((with_reducible refine tg18 ?_);(refine Mz ?_;exact h.1))
 |((with_reducible refine tg19 ?_);first|exact a8 _ h.1|exact IZ h.1|exact gH _ h.1|exact Oo h.1)
 |((with_reducible refine tg20 ?_);first|exact I0 _ h.1|exact Ot h.1)
 |((with_reducible refine tg21 ?_);exact dH _ h.1)
 |((with_reducible refine tg22 ?_);first|exact Cl fun a=>(h.1:_->_) (a rfl rfl)|exact I1 fun a=>(h.1:_->_) (a rfl rfl)|(refine Ou ?_;exact h.1))
 |((with_reducible refine tg23 ?_);exact I2 fun a=>(h.1:_->_) (a rfl rfl))
 |((with_reducible refine tg24 ?_);(refine RP ?_;exact h.1))
 |((with_reducible refine tg25 ?_);(refine RQ ?_;exact h.1))
 |((with_reducible refine tg26 ?_);(refine RL ?_;exact h.1))
 |((with_reducible refine tg27 ?_);(refine fD ?_;exact h.1))
 |with_reducible exact BQ.normal h.1|with_reducible exact BQ.ret h.1|with_reducible exact LQ.normal h.1|with_reducible exact LQ.out h.1|with_reducible exact LQ.ret h.1|with_reducible exact BQ.out h.1|with_reducible exact Bx.normal h.1|with_reducible exact Bx.ret h.1|with_reducible exact By.normal h.1|with_reducible exact By.ret h.1|with_reducible exact Bx.out h.1|with_reducible exact By.out h.1|with_reducible exact CQ.normal h.1|with_reducible exact CQ.ret h.1|with_reducible exact CQ.other h.1|((with_reducible refine BQ.other ?_ h.1);exact rfl)|((with_reducible refine LQ.other ?_ h.1);exact rfl)|((with_reducible refine Bx.other ?_ h.1);exact rfl)|((with_reducible refine By.other ?_ h.1);exact rfl)):p:=h ⟨k⟩
def jo {p q:Prop}(k:q)(h:Hid q wK->p:=by intro h;first|exact Cl fun _=>h.1|exact I2 fun _=>h.1|exact I1 fun _=>h.1):p:=h ⟨k⟩
section
variable {Y:Ctx} {Q:Ex->List cb->St->Prop}
end
def uu:(∀{p:Prop} [Decidable p],(decide p=true)=p)/\(∀{p:Prop} [Decidable p],decide p=false↔¬p)/\(∀b:Bool,((!b)=true)=(b=false))/\(∀b:Bool,((!b)=false)=(b=true))/\(∀b:Bool,(¬(b=false))=(b=true))/\(∀a b:Bool,((a ||b)=true)=(a=true\/b=true))/\(∀{a b:Bool},(a ||b)=false↔a=false/\b=false)/\(∀a b:Bool,((a&&b)=true)=(a=true/\b=true))/\(∀{a b:Bool},(a&&b)=false↔a=false\/b=false)/\(∀b:Bool,(¬(b=true))=(b=false))/\(∀b:Bool,(true&&b)=b)/\∀b:Bool,(b&&true)=b:=
 ⟨cj,di,ef,oL,Bool.not_eq_false,er,ig,bR,fF,Bool.not_eq_true,jh,eL⟩
section
variable {Y:Ctx} {Q:Ex->List cb->St->Prop} {env:List cb} {st:St}
def cW {c:Src}{a b r:AC}{t:Bool}{c1 c2:Prop}(h1:c1->cq Y (.seq a r) Q env st)(h2:c2->cq Y (.seq b r) Q env st)(hc:cN env [] c=⟨true,.bool t⟩:=by exact rfl)(e1:t=true->c1:=by intro h;(try simp only[uu]at h);exact h)(e2:t=false->c2:=by intro h;(try simp only[uu]at h);exact h):cq Y (.seq (.cond c a b) r) Q env st:=bC (fun h=>h1 (e1 h)) (fun h=>h2 (e2 h)) hc
def fQ {c:Src}{a b:AC}{t:Bool}{c1 c2:Prop}(h1:c1->cq Y a Q env st)(h2:c2->cq Y b Q env st)(hc:cN env [] c=⟨true,.bool t⟩:=by exact rfl)(e1:t=true->c1:=by intro h;(try simp only[uu]at h);exact h)(e2:t=false->c2:=by intro h;(try simp only[uu]at h);exact h):cq Y (.cond c a b) Q env st:=wp_cond (fun h=>h1 (e1 h)) (fun h=>h2 (e2 h)) hc
end
end Go.Abs
namespace Go.Abs
variable {Y:Ctx}(hm:(Y.at 0).cE)
def aA {p q:Prop}(k:q)(h:Hid q wK->p:=by intro h;(iterate 2 refine av ?_);exact h.1):p:=h ⟨k⟩
def aw {p q:Prop}(k:q)(h:Hid q wK->p:=by intro h;(iterate 3 refine av ?_);exact h.1):p:=h ⟨k⟩
def aO {p q:Prop}(k:q)(h:Hid q wK->p:=by intro h;(iterate 4 refine av ?_);exact h.1):p:=h ⟨k⟩
def aD {p q:Prop}(k:q)(h:Hid q wK->p:=by intro h;(iterate 5 refine av ?_);exact h.1):p:=h ⟨k⟩
def bd {p q:Prop}(k:q)(h:Hid q wK->p:=by intro h;(iterate 6 refine av ?_);exact h.1):p:=h ⟨k⟩
def cQ {p q:Prop}(k:q)(h:Hid q wK->p:=by intro h;(iterate 7 refine av ?_);exact h.1):p:=h ⟨k⟩
def hZ {p q:Prop}(k:q)(h:Hid q wK->p:=by intro h;(iterate 8 refine av ?_);exact h.1):p:=h ⟨k⟩
def ji {p q:Prop}(k:q)(h:Hid q wK->p:=by intro h;(iterate 9 refine av ?_);exact h.1):p:=h ⟨k⟩
def k8 {p q:Prop}(k:q)(h:Hid q wK->p:=by intro h;(iterate 10 refine av ?_);exact h.1):p:=h ⟨k⟩
def wI {p q:Prop}(k:q)(h:Hid q wK->p:=by intro h;(iterate 11 refine av ?_);exact h.1):p:=h ⟨k⟩
def j3 {p q:Prop}(k:q)(h:Hid q wK->p:=by intro h;(iterate 12 refine av ?_);exact h.1):p:=h ⟨k⟩
def Fs {p q:Prop}(k:q)(h:Hid q wK->p:=by intro h;(iterate 13 refine av ?_);exact h.1):p:=h ⟨k⟩
def MI {p q:Prop}(k:q)(h:Hid q wK->p:=by intro h;(iterate 14 refine av ?_);exact h.1):p:=h ⟨k⟩
def JZ {p q:Prop}(k:q)(h:Hid q wK->p:=by intro h;(iterate 15 refine av ?_);exact h.1):p:=h ⟨k⟩
def Sk {p q:Prop}(k:q)(h:Hid q wK->p:=by intro h;(iterate 16 refine av ?_);exact h.1):p:=h ⟨k⟩
def Sl {p q:Prop}(k:q)(h:Hid q wK->p:=by intro h;(iterate 17 refine av ?_);exact h.1):p:=h ⟨k⟩
def Sm {p q:Prop}(k:q)(h:Hid q wK->p:=by intro h;(iterate 18 refine av ?_);exact h.1):p:=h ⟨k⟩
def MJ {p q:Prop}(k:q)(h:Hid q wK->p:=by intro h;(iterate 21 refine av ?_);exact h.1):p:=h ⟨k⟩
def Sn {p q:Prop}(k:q)(h:Hid q wK->p:=by intro h;(iterate 26 refine av ?_);exact h.1):p:=h ⟨k⟩
def So {p q:Prop}(k:q)(h:Hid q wK->p:=by intro h;(iterate 28 refine av ?_);exact h.1):p:=h ⟨k⟩
end Go.Abs
namespace Go.Abs
variable {Y:Ctx}(hm:(Y.at 0).cE)
abbrev s0:Src:=.s 0
abbrev s1:Src:=.s 1
abbrev s2:Src:=.s 2
abbrev s3:Src:=.s 3
abbrev s4:Src:=.s 4
abbrev s5:Src:=.s 5
abbrev s6:Src:=.s 6
abbrev s7:Src:=.s 7
abbrev s8:Src:=.s 8
abbrev s9:Src:=.s 9
abbrev ie:Src:=.s 10
abbrev na:Src:=.s 11
abbrev k9:Src:=.s 12
abbrev za:Src:=.s 13
abbrev w6:Src:=.s 14
abbrev Jt:Src:=.s 15
abbrev LB:Src:=.s 16
abbrev LD:Src:=.s 17
abbrev s18:Src:=.s 18
abbrev l0:Src:=.l 0
abbrev l1:Src:=.l 1
abbrev l2:Src:=.l 2
abbrev l3:Src:=.l 3
abbrev l4:Src:=.l 4
abbrev l5:Src:=.l 5
abbrev l6:Src:=.l 6
abbrev l7:Src:=.l 7
abbrev l8:Src:=.l 8
abbrev l9:Src:=.l 9
abbrev l10:Src:=.l 10
abbrev fT:Src:=.l 11
abbrev gJ:Src:=.l 12
abbrev il:Src:=.l 13
abbrev jj:Src:=.l 14
abbrev kD:Src:=.l 15
abbrev lW:Src:=.l 16
abbrev pn:Src:=.l 17
abbrev qM:Src:=.l 18
abbrev uV:Src:=.l 19
abbrev xr:Src:=.l 20
abbrev zn:Src:=.l 21
abbrev yF:Src:=.l 22
abbrev B0:Src:=.l 23
abbrev GU:Src:=.l 24
abbrev J1:Src:=.l 25
abbrev Ms:Src:=.l 26
abbrev Mt:Src:=.l 27
abbrev Mu:Src:=.l 28
abbrev NW:Src:=.l 29
abbrev l30:Src:=.l 30
abbrev l31:Src:=.l 31
abbrev l32:Src:=.l 32
abbrev l33:Src:=.l 33
abbrev l34:Src:=.l 34
abbrev l35:Src:=.l 35
abbrev l36:Src:=.l 36
abbrev l37:Src:=.l 37
abbrev l38:Src:=.l 38
abbrev l39:Src:=.l 39
abbrev l40:Src:=.l 40
abbrev gm (x:Src):GI:=⟨.mv x,none⟩
abbrev gn (x:aM):GI:=⟨x,none⟩
abbrev i6 (n:Int):Src:=.c (.int .i64 n)
abbrev cs (s:List UInt8):Src:=.c (.str s)
abbrev gd (x:Src):GI:=⟨.ld 1 false x,none⟩
abbrev gk (n:Nat)(b:Bool)(x:Src):GI:=⟨.ld n b x,none⟩
abbrev gf (n:Nat)(x:Src):GI:=⟨.fa n x,none⟩
abbrev gl (x:Src):GI:=⟨.len x,none⟩
abbrev ga (n:Nat)(x y:Src):GI:=⟨.ia n x y,none⟩
abbrev ge (x:Src)(n:Nat):GI:=⟨.ext x n,none⟩
abbrev gb (n:Nat)(x:Src):GI:=⟨.box n x,none⟩
abbrev gc (x:Src):GI:=⟨.nilck x,none⟩
abbrev gt (n:Nat)(x y:Src):GI:=⟨.st n x y,none⟩
abbrev gx (n:Nat)(x:List Src)(y:List (List Sh)):GI:=⟨.call n x y,none⟩
abbrev rg (x:List GI)(y:List (Nat×Nat)):AC:=.reg false x y
abbrev rt (x:List GI)(y:List (Nat×Nat)):AC:=.reg true x y
abbrev iP (x y:Src):aM:=.bin .lss x y
abbrev eA (x y:Src):aM:=.bin .eql x y
abbrev eG (x y:Src):aM:=.bin .gtr x y
abbrev im (x y:Src):aM:=.bin .neq x y
abbrev xd (x y:Src):aM:=.bin .leq x y
abbrev gu (x y:Src):aM:=.bin .geq x y
abbrev nU (x y:Src):aM:=.bin .sub x y
abbrev zF (x y:Src):aM:=.bin .and x y
abbrev b_or (x y:Src):aM:=.bin .or x y
abbrev dd:Src:=.c (.bool false)
abbrev nr:Src:=.c (.bool true)
abbrev cse:Src:=.c (.str [])
abbrev b9:Src:=.c (.int .i64 0)
abbrev cK:Src:=.c (.int .i64 1)
abbrev ta:Src:=.c (.int .i64 2)
abbrev H8:Src:=.c (.int .i64 3)
abbrev KV:Src:=.c (.int .i64 4)
abbrev RB:Src:=.c (.int .i64 5)
abbrev ic6:Src:=.c (.int .i64 6)
abbrev ic7:Src:=.c (.int .i64 7)
abbrev ic8:Src:=.c (.int .i64 8)
abbrev ic9:Src:=.c (.int .i64 9)
abbrev gmt (n:Nat)(x:Src):GI:=⟨.mv x,some (n,true)⟩
abbrev ik (n:Nat)(x:Src):GI:=⟨.ld 1 false x,some (n,true)⟩
abbrev eX (n o:Nat)(x:Src):GI:=⟨.fa o x,some (n,true)⟩
abbrev cv (n:Nat)(x:aM):GI:=⟨x,some (n,true)⟩
abbrev eY (n:Nat)(x:Src):GI:=⟨.mv x,some (n,false)⟩
abbrev ix (n:Nat)(x:Src):GI:=⟨.ld 1 false x,some (n,false)⟩
abbrev ib (n o:Nat)(x:Src):GI:=⟨.fa o x,some (n,false)⟩
abbrev cJ (n:Nat)(x:aM):GI:=⟨x,some (n,false)⟩
abbrev sq (a b:AC):AC:=.seq a b
abbrev H4 (x:Src):AC:=.seq (.reg false [⟨.mv x,none⟩] [(1,0)]) .ret
abbrev zW (c x:Src):AC:=.cond c (.seq (.reg false [⟨.mv x,none⟩] [(1,0)]) .ret) .skip
abbrev dx:List (List Sh):=[[.a]]
abbrev ha2:List (List Sh):=[[.a,.a]]
abbrev oc:List (List Sh):=[[.a,.a,.a,.a,.a]]
abbrev xm:List (List Sh):=[[.a,.a,.a,.a,.a,.a,.a]]
abbrev j7:List (List Sh):=[[.a],[.a]]
abbrev eZ (c x:Src):GI:=⟨.pick c (.c (.bool true)) x,none⟩
abbrev fR (c x:Src):GI:=⟨.pick c x (.c (.bool false)),none⟩
abbrev NP (n:Nat)(c x:Src):GI:=⟨.pick c (.c (.bool true)) x,some (n,true)⟩
abbrev wS (n:Nat)(c x:Src):GI:=⟨.pick c x (.c (.bool false)),some (n,false)⟩
abbrev aR (x y:Src):GI:=⟨.bin .lss x y,none⟩
abbrev bU (x y:Src):GI:=⟨.bin .eql x y,none⟩
abbrev aT (x y:Src):GI:=⟨.bin .add x y,none⟩
abbrev fC (x y:Src):GI:=⟨.bin .gtr x y,none⟩
abbrev dC (x y:Src):GI:=⟨.bin .neq x y,none⟩
abbrev yK (x y:Src):GI:=⟨.bin .leq x y,none⟩
abbrev mX (x y:Src):GI:=⟨.bin .geq x y,none⟩
abbrev e9 (x y:Src):GI:=⟨.bin .sub x y,none⟩
abbrev gD (x y:Src):GI:=⟨.bin .and x y,none⟩
abbrev DF (x y:Src):GI:=⟨.bin .or x y,none⟩
abbrev fL (c:Src)(n:Nat):AC:=.cond c .skip (.exit n)
abbrev i8 (n:Int):Src:=.c (.int .u8 n)
abbrev i3 (n:Int):Src:=.c (.int .i32 n)
abbrev iu (n:Int):Src:=.c (.int .u64 n)
abbrev KT (x:Src):GI:=⟨.lenS x,none⟩
abbrev lh (x:Src):GI:=⟨.un .not x,none⟩
abbrev NO (x y:Src):GI:=⟨.ixS x y,none⟩
abbrev r1 (x:List GI)(a b:Nat):AC:=.reg false x [(a,b)]
abbrev r2 (x:List GI)(a b:Nat):AC:=.reg true x [(a,b)]
abbrev m7:List Bz:=[⟨1,none⟩]
end Go.Abs
end
namespace Go.Abs
variable {Y:Ctx}(hm:(Y.at 0).cE)
def uh (T:List D->D->Prop):Prop:=∀(s:dG),T [.str s] (.tup [.int .i64 (tk s),.bool (j9 s)])
def M6 (Y:Ctx):Prop:=uh (b8 Y 658)
def ue (T:List D->D->Prop):Prop:=∀(s:dG) (b:Int),(s.length<=1048576)->T [.str s,.int .u8 b] (.sl 1 ((bM s b).map D.str))
def Kg (Y:Ctx):Prop:=ue (b8 Y 533)
def ui (T:List D->D->Prop):Prop:=∀(t:dG),T [.str t] (.bool (cL t))
def M7 (Y:Ctx):Prop:=ui (b8 Y 659)
def ua (T:List D->D->Prop):Prop:=∀(n:Int),T [.int .i64 n] (.bool (BR n))
def Pn (Y:Ctx):Prop:=ua (b8 Y 440)
def Ey (T:List D->D->Prop):Prop:=∀(s:dG),(s.length<=1048576)->T [.str s] (.bool (mz s false))
def MY (Y:Ctx):Prop:=Ey (b8 Y 442)
def E2 (T:List D->D->Prop):Prop:=∀(x:Int),T [.int .i64 x] (.bool false)
def PR (Y:Ctx):Prop:=E2 (b8 Y 714)
def E1 (T:List D->D->Prop):Prop:=∀(x:dG),T [.str x] (.bool false)
def PO (Y:Ctx):Prop:=E1 (b8 Y 704)
def ud (T:List D->D->Prop):Prop:=∀(a:Int) (b:Int),T [.int .i64 a,.int .i64 b] (.int .i64 (dq a b))
def Kf (Y:Ctx):Prop:=ud (b8 Y 532)
def ub (T:List D->D->Prop):Prop:=∀(a:dG) (b:dG),T [.str a,.str b] (.int .i64 (lf a b))
def M0 (Y:Ctx):Prop:=ub (b8 Y 516)
def EB (T:List D->D->Prop):Prop:=∀(l:List Int),T [.sl 1 (l.map (D.int .i64))] (.int .i64 (gN (fun i=>l[i]!) 0 l.length))
def M1 (Y:Ctx):Prop:=EB (b8 Y 531)
def uc (T:List D->D->Prop):Prop:=∀(v:bo),T [bo.D v] (bo.D (jN v))
def Ps (Y:Ctx):Prop:=uc (b8 Y 530)
def uf (T:List D->D->Prop):Prop:=∀(a:dG) (b:dG),T [.str a,.str b] (.int .i64 (pw a b))
def Pt (Y:Ctx):Prop:=uf (b8 Y 534)
def MZ (Y:Ctx):Prop:=ue (b8 Y 470)
def Ez (T:List D->D->Prop):Prop:=∀(c:Int),T [.int .u8 c] (.bool (dn c))
def Pp (Y:Ctx):Prop:=Ez (b8 Y 454)
def M8 (Y:Ctx):Prop:=uh (b8 Y 667)
def M9 (Y:Ctx):Prop:=ui (b8 Y 668)
def E0 (T:List D->D->Prop):Prop:=∀(t:dG),T [.str t] (.bool (po t))
def PN (Y:Ctx):Prop:=E0 (b8 Y 666)
def EA (T:List D->D->Prop):Prop:=∀(s:dG) (p:Bool),(s.length<=1048576)->T [.str s,.bool p] (.bool (sQ s p))
def Pr (Y:Ctx):Prop:=EA (b8 Y 456)
def Pq (Y:Ctx):Prop:=ua (b8 Y 455)
def tY (T:List D->D->Prop):Prop:=∀(v:bo),(v.sm)->T [bo.D v] (.bool (jn v))
def wL (Y:Ctx):Prop:=tY (b8 Y 217)
def G3 (Y:Ctx):Prop:=ud (b8 Y 630)
def P9 (Y:Ctx):Prop:=ub (b8 Y 927)
def P0 (Y:Ctx):Prop:=uf (b8 Y 783)
def EP (T:List D->D->Prop):Prop:=∀(a:dG) (b:dG),(a.length<=1048576/\b.length<=1048576)->T [.str a,.str b] (.int .i64 (r5 a b))
def PF (Y:Ctx):Prop:=EP (b8 Y 631)
def tZ (T:List D->D->Prop):Prop:=∀(a:bo) (b:bo),(a.sm/\b.sm)->T [bo.D a,bo.D b] (.int .i64 (kM a b))
def Kd (Y:Ctx):Prop:=tZ (b8 Y 424)
def ri (T:List D->D->Prop):Prop:=∀(c:Cut),(c.v.sm)->T [Cut.D c] (.bool (lg c))
def C3 (Y:Ctx):Prop:=ri (b8 Y 1086)
def rb (T:List D->D->Prop):Prop:=∀(a:Cut) (b:Cut),(a.v.sm/\b.v.sm)->T [Cut.D a,Cut.D b] (.int .i64 (gw a b))
def w8 (Y:Ctx):Prop:=rb (b8 Y 1020)
def rh (T:List D->D->Prop):Prop:=∀(c:Cut) (v:bo),(c.v.sm/\v.sm)->T [Cut.D c,bo.D v] (.bool (gK c v))
def L4 (Y:Ctx):Prop:=rh (b8 Y 1025)
def ra (T:List D->D->Prop):Prop:=∀(s:Span),(s.sm)->T [Span.D s] (.bool (jZ s))
def C2 (Y:Ctx):Prop:=ra (b8 Y 1019)
def uo (T:List D->D->Prop):Prop:=∀(s:Span) (v:bo),(s.sm/\v.sm)->T [Span.D s,bo.D v] (.bool (lK s v))
def P8 (Y:Ctx):Prop:=uo (b8 Y 926)
def um (T:List D->D->Prop):Prop:=∀(l:List Span),(bO l)->T [.sl 14 (l.map Span.D)] (.bool (lP l))
def G6 (Y:Ctx):Prop:=um (b8 Y 916)
def uk (T:List D->D->Prop):Prop:=∀(l:List Span) (v:bo),(bO l/\v.sm)->T [.sl 14 (l.map Span.D),bo.D v] (.bool (m8 l v))
def PZ (Y:Ctx):Prop:=uk (b8 Y 782)
def EF (T:List D->D->Prop):Prop:=∀(v:bo),T [bo.D v] (.bool (p0 v))
def M4 (Y:Ctx):Prop:=EF (b8 Y 600)
def Ff (T:List D->D->Prop):Prop:=∀(c:Cut),T [Cut.D c] (.bool (jF c))
def P6 (Y:Ctx):Prop:=Ff (b8 Y 917)
def uj (T:List D->D->Prop):Prop:=∀(s:bL),(s.sm)->T [bL.D s] (.bool (nb s))
def G5 (Y:Ctx):Prop:=uj (b8 Y 770)
def ug (T:List D->D->Prop):Prop:=∀(s:bL) (v:bo),(s.sm/\v.sm)->T [bL.D s,bo.D v] (.bool (nB s v))
def PE (Y:Ctx):Prop:=ug (b8 Y 627)
def EG (T:List D->D->Prop):Prop:=T [] (Cut.D mS)
def Kh (Y:Ctx):Prop:=EG (b8 Y 601)
def EI (T:List D->D->Prop):Prop:=T [] (Cut.D qN)
def Ki (Y:Ctx):Prop:=EI (b8 Y 603)
def M3 (Y:Ctx):Prop:=uc (b8 Y 599)
def Ef (T:List D->D->Prop):Prop:=∀(v:bo),T [bo.D v] (Cut.D (ll v))
def Ka (Y:Ctx):Prop:=Ef (b8 Y 376)
def Eg (T:List D->D->Prop):Prop:=∀(v:bo),T [bo.D v] (Cut.D (tH v))
def Pb (Y:Ctx):Prop:=Eg (b8 Y 377)
def E5 (T:List D->D->Prop):Prop:=∀(v:bo) (p:Int),(v.sm)->T [bo.D v,.int .i64 p] (.tup [bo.D (fS v p).1,.bool (fS v p).2])
def PU (Y:Ctx):Prop:=E5 (b8 Y 769)
def EH (T:List D->D->Prop):Prop:=∀(v:bo),(v.sm)->T [bo.D v] (.tup [bo.D (iI v).1,.bool (iI v).2])
def Px (Y:Ctx):Prop:=EH (b8 Y 602)
def Ee (T:List D->D->Prop):Prop:=T [] (bL.D vD)
def G1 (Y:Ctx):Prop:=Ee (b8 Y 375)
def EE (T:List D->D->Prop):Prop:=T [] (.sl 14 (qp.map Span.D))
def Pw (Y:Ctx):Prop:=EE (b8 Y 598)
def Ed (T:List D->D->Prop):Prop:=T [] (bL.D wO)
def MU (Y:Ctx):Prop:=Ed (b8 Y 374)
def Eh (T:List D->D->Prop):Prop:=∀(v:bo),T [bo.D v] (Cut.D (nQ v))
def Pc (Y:Ctx):Prop:=Eh (b8 Y 378)
def Ei (T:List D->D->Prop):Prop:=∀(v:bo),T [bo.D v] (Cut.D (zG v))
def Pd (Y:Ctx):Prop:=Ei (b8 Y 379)
def D3 (T:List D->D->Prop):Prop:=∀(v:bo),(v.sm)->T [bo.D v] (bL.D (b7 v))
def MM (Y:Ctx):Prop:=D3 (b8 Y 156)
def Bq (T:List D->D->Prop):Prop:=∀(l:List Cut) (c:Cut),((nL l/\c.sm)/\l.length<=10000)->T [.sl 7 (l.map Cut.D),Cut.D c] (.sl 7 ((sW l c).map Cut.D))
def L3 (Y:Ctx):Prop:=Bq (b8 Y 1021)
def Fg (T:List D->D->Prop):Prop:=∀(l:List Span),(bO l/\l.length<=2000)->T [.sl 14 (l.map Span.D)] (.sl 7 ((cH l).map Cut.D))
def Nd (Y:Ctx):Prop:=Fg (b8 Y 919)
def Fh (T:List D->D->Prop):Prop:=∀(l:List Span) (f:Cut) (t:Cut),(bO l/\f.sm/\t.sm)->T [.sl 14 (l.map Span.D),Cut.D f,Cut.D t] (.bool (pT l f t))
def Nf (Y:Ctx):Prop:=Fh (b8 Y 920)
def Kj (Y:Ctx):Prop:=∀(out:List Span) (f t:Cut),((bO out/\f.sm/\t.sm)/\out.length<=100000)->∀(nx lo:Nat) (m:List (Nat×bT)) (K:D->St->Prop),look m lo=some (.buf 14 (out.map Span.D))->lo<nx->K (.own nx 14 0 (kN out f t).length) ⟨nx+1,(nx,.buf 14 ((kN out f t).map Span.D))::bY m lo⟩->Y.tr 921 [.own lo 14 0 out.length,Cut.D f,Cut.D t] ⟨nx,m⟩ K
def Nc (Y:Ctx):Prop:=∀(l:List Span),(bO l/\l.length<=2000)->∀(nx lo:Nat) (m:List (Nat×bT)) (K:D->St->Prop),look m lo=some (.buf 14 (l.map Span.D))->lo<nx->K (.tup [.sl 14 ((ot l).1.map Span.D),.bool (ot l).2]) ⟨nx,bY m lo⟩->Y.tr 918 [.own lo 14 0 l.length] ⟨nx,m⟩ K
def E7 (T:List D->D->Prop):Prop:=∀(l:List Span),(bO l/\l.length<=2000)->T [.sl 14 (l.map Span.D)] (.sl 14 ((tj l).map Span.D))
def PX (Y:Ctx):Prop:=E7 (b8 Y 772)
section
section
variable {Y:Ctx} {draw:Bool} {r:List GI} {env rs:List cb} {nx:Nat} {m:List (Nat×bT)} {K:List cb->St->Prop} {f:Bool} {g:Option (Nat×Bool)}
def vQ {n:Nat}{x:Src}{fx:Bool}{d:D}(k:Nat)(h:aN Y draw r env (⟨f,.fn k [d]⟩::rs) nx m K)(hk:n+4000000=k:=by exact rfl)(hg:GF rs g f:=by first|exact rfl|exact⟨_,_,rfl,rfl⟩)(hx:cN env rs x=⟨fx,d⟩:=by exact rfl)(kx:f=true->fx=true:=by first|exact fun _=>rfl|exact fun h=>h|(intro h;simp_all)):aN Y draw (⟨.mkI n x,g⟩::r) env rs nx m K:=
 ct rfl hg _ (fun hf=>by simp only[aM.dP,hx];exact kx hf) (fun hf=>by simp only[aM.val,hx,hk]) (fun _=>h)
def AA {x:Src}{fx:Bool}{k:Nat}{cs:List D}(b:Bool)(h:aN Y draw r env (⟨f,.bool b⟩::rs) nx m K)(hx:cN env rs x=⟨fx,.fn k cs⟩:=by exact rfl)(hk:4000000<=k/\k<=4600000:=by decide)(hb:(k==4600000)=b:=by exact rfl)(hg:GF rs g f:=by first|exact rfl|exact⟨_,_,rfl,rfl⟩)(kx:f=true->fx=true:=by first|exact fun _=>rfl|exact fun h=>h|(intro h;simp_all)):aN Y draw (⟨.isI x,g⟩::r) env rs nx m K:=
 ct rfl hg _ (fun hf=>by simp only[aM.dP,hx];exact⟨kx hf,hk⟩) (fun hf=>by simp only[aM.val,hx,hb]) (fun _=>h)
def y0 {n:Nat}{z:D}{x:Src}{fx:Bool}{k:Nat}{d:D}(h:aN Y draw r env (⟨f,.tup [d,.bool true]⟩::rs) nx m K)(hx:cN env rs x=⟨fx,.fn k [d]⟩:=by exact rfl)(hk:4000000<=k/\k<=4600000:=by decide)(hb:(k==n+4000000)=true:=by exact rfl)(hg:GF rs g f:=by first|exact rfl|exact⟨_,_,rfl,rfl⟩)(kx:f=true->fx=true:=by first|exact fun _=>rfl|exact fun h=>h|(intro h;simp_all)):aN Y draw (⟨.tas n z x,g⟩::r) env rs nx m K:=
 ct rfl hg _ (fun hf=>by simp only[aM.dP,hx];exact⟨kx hf,hk⟩) (fun hf=>by simp only[aM.val,hx,hb,cond_true,ij]) (fun _=>h)
def r8 {n:Nat}{z:D}{x:Src}{fx:Bool}{k:Nat}{cs:List D}(h:aN Y draw r env (⟨f,.tup [z,.bool false]⟩::rs) nx m K)(hx:cN env rs x=⟨fx,.fn k cs⟩:=by exact rfl)(hk:4000000<=k/\k<=4600000:=by decide)(hb:(k==n+4000000)=false:=by exact rfl)(hg:GF rs g f:=by first|exact rfl|exact⟨_,_,rfl,rfl⟩)(kx:f=true->fx=true:=by first|exact fun _=>rfl|exact fun h=>h|(intro h;simp_all)):aN Y draw (⟨.tas n z x,g⟩::r) env rs nx m K:=
 ct rfl hg _ (fun hf=>by simp only[aM.dP,hx];exact⟨kx hf,hk⟩) (fun hf=>by simp only[aM.val,hx,hb,cond_false]) (fun _=>h)
def yX {x:Src}{fx:Bool}{k:Nat}{cs Z6:List D}{v:D}(n:Nat)(h:aN Y draw r env (⟨f,v⟩::rs) nx m K)(hc:Y.pre n Z6/\Y.val n Z6=v)(hx:cN env rs x=⟨fx,.fn k cs⟩:=by exact rfl)(hk:(4000000<=k/\k<4600000)/\k-4000000=n:=by decide)(ha:jD m [] cs=Z6:=by exact rfl)(hn:aV cs=true:=by exact rfl)(hg:GF rs g f:=by first|exact rfl|exact⟨_,_,rfl,rfl⟩)(kx:f=true->fx=true:=by first|exact fun _=>rfl|exact fun h=>h|(intro h;simp_all)):aN Y draw (⟨.invk x,g⟩::r) env rs nx m K:=
 fZ rfl hg _ (fun hf=>by simp only[aM.dP,hx,hk.2,(df _ _ _).1,ha];exact⟨kx hf,hk.1,hn,hc.1⟩) (fun hf=>by simp only[aM.val,hx,hk.2,(df _ _ _).1,ha,hc.2]) m rfl (fun _=>h)
def Ln {x:Src}{j:Nat}{w:Bool}(d:D)(h:aN Y draw r env (⟨false,d⟩::rs) nx m K)(hg:GF rs (some (j,w)) false:=by exact⟨_,_,rfl,rfl⟩):aN Y draw (⟨.invk x,some (j,w)⟩::r) env rs nx m K:=
 fZ rfl hg d (fun hf=>by cases hf) (fun hf=>by cases hf) m rfl (fun _=>h)
def xJ (h:aN Y draw r env (⟨f,.fn 4700000 []⟩::rs) nx m K)(hg:GF rs g f:=by first|exact rfl|exact⟨_,_,rfl,rfl⟩):aN Y draw (⟨.zal,g⟩::r) env rs nx m K:=
 fZ rfl hg _ (fun _=>trivial) (fun _=>rfl) m rfl (fun _=>h)
def I8 {p v:Src}{fp fv:Bool}{cs:List D}(h:aN Y draw r env (⟨f,.any⟩::rs) nx m K)(hx:cN env rs p=⟨fp,.fn 4700000 cs⟩:=by exact rfl)(hy:cN env rs v=⟨fv,.agg []⟩:=by exact rfl)(hg:GF rs g f:=by first|exact rfl|exact⟨_,_,rfl,rfl⟩)(kx:f=true->fp=true:=by first|exact fun _=>rfl|exact fun h=>h|(intro h;simp_all))(ky:f=true->fv=true:=by first|exact fun _=>rfl|exact fun h=>h|(intro h;simp_all)):aN Y draw (⟨.zst p v,g⟩::r) env rs nx m K:=
 ct rfl hg _ (fun hf=>by simp only[aM.dP,hx,hy];exact⟨kx hf,ky hf,trivial⟩) (fun _=>rfl) (fun _=>h)
def yW {n:Nat}{args:List Src}{chk:List (Nat×Nat×Bool×Src)}{Z6:List D}{v:D}{nx':Nat}{m':List (Nat×bT)}(h:aN Y draw r env (⟨true,v⟩::rs) nx' m' K)
  (hc:∀K':D->St->Prop,K' v ⟨nx'+rs.length,m'⟩->Y.tr n Z6 ⟨nx+rs.length,m⟩ K') (hn:nx<=nx')
  (hk:∀c∈chk,xu m' c.2.1 (Src.ev env (rs.reverse.take c.1) c.2.2.2).d/\uX m' c.2.1 c.2.2.1 (Src.ev env (rs.reverse.take c.1) c.2.2.2).d=(rs.reverse.getD c.1 .un).d) (ha:gM (cN env rs) args=Z6:=by exact rfl)
  (ho:sM (cN env rs) args:=by repeat' first|exact trivial|exact rfl|refine And.intro ?_ ?_):aN Y draw (⟨.callL n args chk,none⟩::r) env rs nx m K:=by
 unfold aN at h⊢;show none=none/\sM (Src.ev env rs.reverse) args/\Y.tr n (gM (Src.ev env rs.reverse) args) {nx:=nx+rs.reverse.length,m:=m} _;rw[kv,ha,List.length_reverse];refine⟨rfl,ho,hc _ ⟨fun c hcc _=>hk c hcc,by simp only;omega, ?_⟩⟩;simp only[Nat.add_sub_cancel];simpa using h
end
end
def E6 (T:List D->D->Prop):Prop:=∀(a:List Span) (b:List Span),(Fx a/\Fx b)->T [.sl 14 (a.map Span.D),.sl 14 (b.map Span.D)] (.sl 14 ((GW a b).map Span.D))
def PV (Y:Ctx):Prop:=E6 (b8 Y 771)
def EJ (T:List D->D->Prop):Prop:=∀(a:bL) (b:bL),(BG a/\BG b)->T [bL.D a,bL.D b] (bL.D (IG a b))
def Py (Y:Ctx):Prop:=EJ (b8 Y 604)
def EK (T:List D->D->Prop):Prop:=∀(a:bL),(BG a)->T [bL.D a] (bL.D (wX a))
def Pz (Y:Ctx):Prop:=EK (b8 Y 605)
def Ew (T:List D->D->Prop):Prop:=∀(s:dG),(s.length<=1048576)->T [.str s] (.bool (mz s true))
def Po (Y:Ctx):Prop:=Ew (b8 Y 441)
def BA (Y:Ctx):Prop:=tY (b8 Y 209)
def JR (T:List D->D->Prop):Prop:=∀(v:Int) (n:Int),(n<=9223372036854775807)->T [.int .i64 v,.int .i64 n] (.int .i64 (bH v n))
def Pa (Y:Ctx):Prop:=JR (b8 Y 25)
def D5 (T:List D->D->Prop):Prop:=∀(l:List Int) (i:Int),T [.sl 1 (l.map (D.int .i64)),.int .i64 i] (.int .i64 (zm l i))
def MN (Y:Ctx):Prop:=D5 (b8 Y 159)
def Ft (Y:Ctx):Prop:=∀(g:Gs) (n:Int),(n<=9223372036854775807)->(0<=g.i/\g.i<=1000000)->Y.fp 109 (Gs.D g) [.int .i64 n]/\Y.fv 109 (Gs.D g) [.int .i64 n]=.int .i64 (g.val n)/\Y.fs 109 (Gs.D g) [.int .i64 n]=Gs.D g.bQ
def D1 (T:List D->D->Prop):Prop:=T [] (.sl 5 (cM.map bo.D))
def O3 (Y:Ctx):Prop:=D1 (b8 Y 112)
def MV (Y:Ctx):Prop:=∀(g:Gs) (xs:List CW),(((0<=g.i/\g.i<=900000)/\xs.length<=4)/\∀c∈xs,c.v.sm)->∀(kk:Nat) (E:List D),aV E=true->∀(nx lc:Nat) (m:List (Nat×bT)) (K:D->St->Prop),(lc≠0/\lc≠10/\lc<nx/\11<=nx)->look m 0=some (.buf 2 [Gs.D g])->look m lc=some (.buf 8 (xs.map (CW.D 10)))->look m 10=some (.buf kk E)->K (bL.D (tp g (xs.map CW.v))) ⟨nx,cU m 0 (.buf 2 [Gs.D g.bQ.bQ])⟩->Y.tr 380 [.ptr 0 2 0 0,.own lc 8 0 xs.length] ⟨nx,m⟩ K
def J7 (Y:Ctx):Prop:=∀(g:Gs) (n:Nat) (nm ft:Nat->dG) (cs:Nat->List CW) (kk:Nat) (E:List D),aV E=true->((0<=g.i/\g.i<=800000)/\G9 n cs)->∀(nx:Nat) (m:List (Nat×bT)) (K:D->St->Prop),11<=nx->KA m g n nm ft cs kk E->K (Want.D (cD g n (gT cs))) ⟨nx,cU m 0 (.buf 2 [Gs.D g.ez])⟩->Y.tr 157 [.ptr 0 2 0 0,.own 1 3 0 n] ⟨nx,m⟩ K
def ML (Y:Ctx):Prop:=∀(g:Gs) (n:Nat) (nm ft:Nat->dG) (cs:Nat->List CW) (kk:Nat) (E:List D) (most:Int),aV E=true->((0<=g.i/\g.i<=700000)/\G9 n cs/\(0<=most/\most<=3))->∀(nx:Nat) (m:List (Nat×bT)) (K:D->St->Prop),11<=nx->KA m g n nm ft cs kk E->K (.sl 1 ((az g n (gT cs) most).1.map dE)) ⟨nx,cU m 0 (.buf 2 [Gs.D (az g n (gT cs) most).2])⟩->Y.tr 155 [.ptr 0 2 0 0,.own 1 3 0 n,.int .i64 most] ⟨nx,m⟩ K
def MK (Y:Ctx):Prop:=∀(g:Gs) (few:Int),((0<=g.i/\g.i<=600000)/\few<=1000)->∀(nx:Nat) (m:List (Nat×bT)) (K:D->St->Prop),look m 0=some (.buf 2 [Gs.D g])->0<nx->K (.own nx 3 0 (ep g few).1.length) ⟨nx+9,OU nx (ep g few).1++cU m 0 (.buf 2 [Gs.D (ep g few).2])⟩->Y.tr 154 [.ptr 0 2 0 0,.int .i64 few] ⟨nx,m⟩ K
def JS (T:List D->D->Prop):Prop:=∀(ks:List Int) (few:Int),(few<=1000)->T [.sl 1 (ks.map (D.int .i64)),.int .i64 few] (bz.D (cw ks few))
def C36 (Y:Ctx):Prop:=JS (b8 Y 36)
def J9 (Y:Ctx):Prop:=tZ (b8 Y 295)
def C4 (Y:Ctx):Prop:=ri (b8 Y 1087)
def GZ (Y:Ctx):Prop:=rb (b8 Y 1024)
def L7 (Y:Ctx):Prop:=rh (b8 Y 1055)
def GY (Y:Ctx):Prop:=ra (b8 Y 1023)
def Qg (Y:Ctx):Prop:=uo (b8 Y 980)
def Ng (Y:Ctx):Prop:=um (b8 Y 925)
def P3 (Y:Ctx):Prop:=uk (b8 Y 861)
def Fi (T:List D->D->Prop):Prop:=∀(c:Cut),T [Cut.D c] (.bool (mw c))
def P7 (Y:Ctx):Prop:=Fi (b8 Y 924)
def Nb (Y:Ctx):Prop:=uj (b8 Y 780)
def PQ (Y:Ctx):Prop:=ug (b8 Y 712)
def En (T:List D->D->Prop):Prop:=∀(a:Key) (b:Key),T [Key.D a,Key.D b] (.int .i64 (vJ a b))
def Pg (Y:Ctx):Prop:=En (b8 Y 408)
def EO (T:List D->D->Prop):Prop:=∀(l:List Want) (n:Int),(∀x∈l,x.sm)->T [.sl 3 (l.map Want.D),.int .i64 n] (.bool (nk n l))
def PD (Y:Ctx):Prop:=EO (b8 Y 622)
def E9 (T:List D->D->Prop):Prop:=∀(w:Want) (n:Int),(w.sm)->T [Want.D w,.int .i64 n] (.bool (kl n w))
def Na (Y:Ctx):Prop:=E9 (b8 Y 778)
def E8 (T:List D->D->Prop):Prop:=∀(l:List Want) (n:Int),(∀x∈l,x.sm)->T [.sl 3 (l.map Want.D),.int .i64 n] (.bool (kj n l))
def PY (Y:Ctx):Prop:=E8 (b8 Y 777)
def EN (T:List D->D->Prop):Prop:=∀(c:dy) (n:Int),(c.sm)->T [dy.D c,.int .i64 n] (.bool (jn c.v&&jM n c))
def PC (Y:Ctx):Prop:=EN (b8 Y 618)
def Eo (T:List D->D->Prop):Prop:=∀(c:dy) (n:Int),(c.sm)->T [dy.D c,.int .i64 n] (.bool (jM n c))
def Ph (Y:Ctx):Prop:=Eo (b8 Y 409)
def EM (T:List D->D->Prop):Prop:=∀(a:bN) (b:bN),T [bN.D a,bN.D b] (.bool (nR a b))
def PB (Y:Ctx):Prop:=EM (b8 Y 617)
def Ek (T:List D->D->Prop):Prop:=∀(w:bz) (i:Int),(w.sm/\(0<=i/\i<w.us.length)/\w.us.length<=48)->T [bz.D w,.int .i64 i] (.bool (nw w.us i.toNat))
def Pe (Y:Ctx):Prop:=Ek (b8 Y 403)
def tX (T:List D->D->Prop):Prop:=∀(w:bz),(w.sm)->T [bz.D w] (.bool (tv w))
def O5 (Y:Ctx):Prop:=tX (b8 Y 169)
def O6 (Y:Ctx):Prop:=tX (b8 Y 175)
section
section
variable {Y:Ctx} {draw:Bool} {r:List GI} {env rs:List cb} {nx:Nat} {m:List (Nat×bT)} {K:List cb->St->Prop} {g:Option (Nat×Bool)} {f:Bool}
def RM {x y:Src}{fx fy:Bool}{k k2:IntKind}{a b:Int}(v:Int)(h:aN Y draw r env (⟨f,.int k v⟩::rs) nx m K)(hg:GF rs g f:=by first|exact rfl|exact⟨_,_,rfl,rfl⟩)(hx:cN env rs x=⟨fx,.int k a⟩:=by exact rfl)(hy:cN env rs y=⟨fy,.int k2 b⟩:=by exact rfl)(kx:f=true->fx=true:=by first|exact fun _=>rfl|exact fun h=>h|(intro h;simp_all))(ky:f=true->fy=true:=by first|exact fun _=>rfl|exact fun h=>h|(intro h;simp_all))(hv:f=true->(if b<a then b else a)=v):aN Y draw (⟨.mn x y,g⟩::r) env rs nx m K:=
 ct rfl hg _ (fun hf=>by simp[aM.dP,hx,hy,kx hf,ky hf]) (fun hf=>by simp only[aM.val,hx,hy];rw[hv hf]) (fun _=>h)
end
end
def Ej (T:List D->D->Prop):Prop:=∀(n:Int),(0<=n/\n<=40)->T [.int .i64 n] (.int .i64 (2^n.toNat))
def G2 (Y:Ctx):Prop:=Ej (b8 Y 381)
def D4 (T:List D->D->Prop):Prop:=∀(w:bz) (u:Int),(w.sm)->T [bz.D w,.int .i64 u] (.int .i64 (bW w.us u))
def yf (Y:Ctx):Prop:=D4 (b8 Y 158)
def Ep (T:List D->D->Prop):Prop:=∀(w:bz) (x:Want),(w.sm/\x.sm)->T [bz.D w,Want.D x] (.int .i64 (eR w.us x))
def Kb (Y:Ctx):Prop:=Ep (b8 Y 415)
def Em (T:List D->D->Prop):Prop:=∀(w:bz) (l:List bK) (u:Int),(w.sm)->T [bz.D w,.sl 2 (l.map bK.D),.int .i64 u] (.int .i64 (aI w.us l u))
def yg (Y:Ctx):Prop:=Em (b8 Y 406)
def El (T:List D->D->Prop):Prop:=∀(w:bz) (t:bK),(w.sm)->T [bz.D w,bK.D t] (.bool (lT w.us t))
def Pf (Y:Ctx):Prop:=El (b8 Y 405)
def D6 (T:List D->D->Prop):Prop:=∀(w:bz) (l:List bK),(w.sm)->T [bz.D w,.sl 2 (l.map bK.D)] (.bool (dM w.us l))
def MO (Y:Ctx):Prop:=D6 (b8 Y 172)
def D7 (T:List D->D->Prop):Prop:=∀(a:Int) (b:Int),T [.int .i64 a,.int .i64 b] (.int .i64 (nd a b))
def MP (Y:Ctx):Prop:=D7 (b8 Y 182)
def EV (T:List D->D->Prop):Prop:=∀(c:bg) (u:Int),(c.w.sm)->T [bg.D c,.int .i64 u] (.int .i64 (bW c.w.us u))
def Fu (Y:Ctx):Prop:=EV (b8 Y 636)
def ET (T:List D->D->Prop):Prop:=∀(c:bg) (l:List bK) (u:Int),(c.w.sm)->T [bg.D c,.sl 2 (l.map bK.D),.int .i64 u] (.int .i64 (aI c.w.us l u))
def G4 (Y:Ctx):Prop:=ET (b8 Y 634)
def ER (T:List D->D->Prop):Prop:=∀(c:bg) (l:List bK),(c.w.sm/\∀t∈l,qt t.m)->T [bg.D c,.sl 2 (l.map bK.D)] (.bool (dM c.w.us l))
def M5 (Y:Ctx):Prop:=ER (b8 Y 632)
def Bs (T:List D->D->Prop):Prop:=∀(c:bg) (x:Want),(c.w.sm/\x.sm)->T [bg.D c,Want.D x] (.int .i64 (eR c.w.us x))
def G0 (Y:Ctx):Prop:=Bs (b8 Y 1027)
def Fq (T:List D->D->Prop):Prop:=∀(c:bg) (row:aj) (k:Int) (x:Want),((c.w.sm/\x.sm)/\0<=k/\k<=30)->T [bg.D c,aj.D row,.int .i64 k,Want.D x] (.bool (qQ c.w.us row k x))
def Qf (Y:Ctx):Prop:=Fq (b8 Y 934)
def Fl (T:List D->D->Prop):Prop:=∀(c:bg) (row:aj) (k:Int) (x:Want),((c.w.sm/\x.sm)/\0<=k/\k<=30)->T [bg.D c,aj.D row,.int .i64 k,Want.D x] (.bool (q7 c.w.us row k x))
def Qb (Y:Ctx):Prop:=Fl (b8 Y 930)
def Fk (T:List D->D->Prop):Prop:=∀(x:Want) (c:bg) (row:aj) (k:Int),((c.w.sm/\x.sm)/\0<=k/\k<=30)->T [Want.D x,.ref 3 [bg.D c] 0 0,.ref 5 [aj.D row] 0 0,.ref 1 [.int .i64 k] 0 0] (.bool (fB true c.w.us row k x))
def Qa (Y:Ctx):Prop:=Fk (b8 Y 929)
def Fp (T:List D->D->Prop):Prop:=∀(x:Want) (c:bg) (row:aj) (k:Int),((c.w.sm/\x.sm)/\0<=k/\k<=30)->T [Want.D x,.ref 3 [bg.D c] 0 0,.ref 5 [aj.D row] 0 0,.ref 1 [.int .i64 k] 0 0] (.bool (fB false c.w.us row k x))
def Qe (Y:Ctx):Prop:=Fp (b8 Y 933)
def Br (T:List D->D->Prop):Prop:=∀(l:List Want) (b:Bool) (c:bg) (row:aj) (k:Int),((c.w.sm/\∀x∈l,x.sm)/\0<=k/\k<=30)->T [.sl 3 (l.map Want.D),.fn (bif b then 929 else 933) [.ref 3 [bg.D c] 0 0,.ref 5 [aj.D row] 0 0,.ref 1 [.int .i64 k] 0 0]] (.int .i64 (iV (fB b c.w.us row k) l 0))
def L5 (Y:Ctx):Prop:=Br (b8 Y 1026)
def Fj (T:List D->D->Prop):Prop:=∀(l:List Want) (b:Bool) (c:bg) (row:aj) (k:Int),((c.w.sm/\∀x∈l,x.sm)/\0<=k/\k<=30)->T [.sl 3 (l.map Want.D),.fn (bif b then 929 else 933) [.ref 3 [bg.D c] 0 0,.ref 5 [aj.D row] 0 0,.ref 1 [.int .i64 k] 0 0]] (.bool (l.any (fB b c.w.us row k)))
def Nh (Y:Ctx):Prop:=Fj (b8 Y 928)
def Fo (T:List D->D->Prop):Prop:=∀(x:List Want) (c:bg) (row:aj) (k:Int),((c.w.sm/\∀w∈x,w.sm)/\0<=k/\k<=30)->T [.sl 3 (x.map Want.D),.ref 3 [bg.D c] 0 0,.ref 5 [aj.D row] 0 0,.ref 1 [.int .i64 k] 0 0] (.bool (gh c.w.us row k x))
def Qd (Y:Ctx):Prop:=Fo (b8 Y 932)
def Bt (T:List D->D->Prop):Prop:=∀(l:List kL) (c:bg) (row:aj) (k:Int),((c.w.sm/\∀r∈l,∀x∈r,x.sm)/\0<=k/\k<=30)->T [.sl 1 (l.map dE),.fn 932 [.ref 3 [bg.D c] 0 0,.ref 5 [aj.D row] 0 0,.ref 1 [.int .i64 k] 0 0]] (.int .i64 (iV (gh c.w.us row k) l 0))
def L6 (Y:Ctx):Prop:=Bt (b8 Y 1028)
def Fm (T:List D->D->Prop):Prop:=∀(l:List kL) (c:bg) (row:aj) (k:Int),((c.w.sm/\∀r∈l,∀x∈r,x.sm)/\0<=k/\k<=30)->T [.sl 1 (l.map dE),.fn 932 [.ref 3 [bg.D c] 0 0,.ref 5 [aj.D row] 0 0,.ref 1 [.int .i64 k] 0 0]] (.bool (l.any (gh c.w.us row k)))
def Qc (Y:Ctx):Prop:=Fm (b8 Y 931)
def Fb (T:List D->D->Prop):Prop:=∀(c:bg) (row:aj) (k:Int) (mild:Bool),((c.w.sm/\0<=row.unit/\row.unit<c.w.us.length)/\0<=k/\k<c.w.us[row.unit.toNat]!.cands.length)->T [bg.D c,aj.D row,.int .i64 k,.bool mild] (.bool (lA c.w.us row k.toNat mild))
def P2 (Y:Ctx):Prop:=Fb (b8 Y 785)
def Fa (T:List D->D->Prop):Prop:=∀(t:bK) (row:aj),T [bK.D t,.ref 5 [aj.D row] 0 0] (.bool (decide (t.u=row.unit)))
def P1 (Y:Ctx):Prop:=Fa (b8 Y 784)
def EL (T:List D->D->Prop):Prop:=∀(l:List bK) (row:aj),T [.sl 2 (l.map bK.D),.fn 784 [.ref 5 [aj.D row] 0 0]] (.int .i64 (iV (fun t=>decide (t.u=row.unit)) l 0))
def PA (Y:Ctx):Prop:=EL (b8 Y 615)
def EU (T:List D->D->Prop):Prop:=∀(c:bg) (row:aj) (mild:Bool),(c.w.sm/\dM c.w.us row.terms=true)->T [bg.D c,aj.D row,.bool mild] (.bool (gF c.w.us row mild))
def PH (Y:Ctx):Prop:=EU (b8 Y 635)
def rj (T:List D->D->Prop):Prop:=T [.agg []] (.bool true)
def L8 (Y:Ctx):Prop:=rj (b8 Y 1178)
def Bu (T:List D->D->Prop):Prop:=∀(b:Bool),T [.agg [.bool b]] (.bool true)
def L9 (Y:Ctx):Prop:=Bu (b8 Y 1179)
def Ma (Y:Ctx):Prop:=rj (b8 Y 1180)
def Bv (T:List D->D->Prop):Prop:=T [.agg []] (.bool false)
def Mb (Y:Ctx):Prop:=Bv (b8 Y 1181)
def ES (T:List D->D->Prop):Prop:=∀(k:Int),T [.int .i64 k] (xD k)
def PG (Y:Ctx):Prop:=ES (b8 Y 633)
def EW (T:List D->D->Prop):Prop:=∀(c:bg) (row:aj) (i:Int),((c.w.sm/\RowsIn c.rows)/\i<=c.rows.length)->T [bg.D c,aj.D row,.int .i64 i] (.bool (nV c row i))
def PI (Y:Ctx):Prop:=EW (b8 Y 637)
def Er (T:List D->D->Prop):Prop:=∀(c:bg) (i:Int),(c.w.sm/\RowsIn c.rows)->T [bg.D c,.int .i64 i] (.bool (dA c i))
def Pj (Y:Ctx):Prop:=Er (b8 Y 425)
def Ea (T:List D->D->Prop):Prop:=∀(w:bz) (allow:List Int) (rows:List aj) (i:Int),(w.sm/\RowsIn rows)->T [bz.D w,.sl 1 (allow.map (D.int .i64)),.sl 5 (rows.map aj.D),.int .i64 i] (.bool (dA ⟨w,allow,rows⟩ i))
def J8 (Y:Ctx):Prop:=Ea (b8 Y 198)
def JV (T:List D->D->Prop):Prop:=∀(w:bz) (allow:List Int) (rows:List aj),(w.sm/\RowsIn rows)->T [bz.D w,.sl 1 (allow.map (D.int .i64)),.sl 5 (rows.map aj.D)] (.tup [.int .i64 (eD (okW w allow) (fun j=>dA ⟨w,allow,rows⟩ ((j:Nat):Int)) rows).1,.bool (eD (okW w allow) (fun j=>dA ⟨w,allow,rows⟩ ((j:Nat):Int)) rows).2])
def C65 (Y:Ctx):Prop:=JV (b8 Y 65)
def E3 (T:List D->D->Prop):Prop:=∀(m:Int),T [.int .i64 m] (.sl 1 ((jO m).map (D.int .i64)))
def PS (Y:Ctx):Prop:=E3 (b8 Y 762)
def Fc (T:List D->D->Prop):Prop:=∀(w:bz) (l:List Want) (row:aj) (bit:Int),(w.sm/\∀x∈l,x.sm)->T [bz.D w,.sl 3 (l.map Want.D),aj.D row,.int .i64 bit] (.bool (ow w.us row bit l))
def P4 (Y:Ctx):Prop:=Fc (b8 Y 913)
def Fe (T:List D->D->Prop):Prop:=∀(w:bz) (x:Want) (row:aj) (bit:Int),(w.sm/\x.sm)->T [bz.D w,Want.D x,aj.D row,.int .i64 bit] (.bool (ko w.us row bit x))
def P5 (Y:Ctx):Prop:=Fe (b8 Y 914)
def E4 (T:List D->D->Prop):Prop:=∀(w:bz) (row:aj) (k:Int),((w.sm/\0<=row.unit/\row.unit<w.us.length)/\0<=k/\k<w.us[row.unit.toNat]!.cands.length)->T [bz.D w,aj.D row,.int .i64 k] (.bool (iR w.us row k.toNat))
def PT (Y:Ctx):Prop:=E4 (b8 Y 763)
def ED (T:List D->D->Prop):Prop:=∀(w:bz) (row:aj),(w.sm/\dM w.us row.terms=true)->T [bz.D w,aj.D row] (.bool (oH w.us row))
def Pv (Y:Ctx):Prop:=ED (b8 Y 591)
def EC (T:List D->D->Prop):Prop:=∀(w:bz) (rows:List aj) (i:Int),(w.sm/\0<=i/\i<rows.length)->T [bz.D w,.sl 5 (rows.map aj.D),.int .i64 i] (.bool (uw ⟨w,[],rows⟩ rows[i.toNat]! i))
def Pu (Y:Ctx):Prop:=EC (b8 Y 590)
def Ec (T:List D->D->Prop):Prop:=∀(w:bz) (allow:List Int) (rows:List aj) (i:Int),(w.sm)->T [bz.D w,.sl 1 (allow.map (D.int .i64)),.sl 5 (rows.map aj.D),.int .i64 i] (.bool (nD (⟨w,allow,rows⟩:bg) i))
def MT (Y:Ctx):Prop:=Ec (b8 Y 368)
def D2 (T:List D->D->Prop):Prop:=∀(w:bz) (allow:List Int) (rows:List aj),(w.sm)->T [bz.D w,.sl 1 (allow.map (D.int .i64)),.sl 5 (rows.map aj.D)] (.tup [.int .i64 (eD (okW w allow) (fun j=>nD ⟨w,allow,rows⟩ ((j:Nat):Int)) rows).1,.bool (eD (okW w allow) (fun j=>nD ⟨w,allow,rows⟩ ((j:Nat):Int)) rows).2])
def O4 (Y:Ctx):Prop:=D2 (b8 Y 150)
def JT (T:List D->D->Prop):Prop:=∀(w:bz) (ks:List Int),(w.sm/\w.us.length<=1000)->T [bz.D w,.sl 1 (ks.map (D.int .i64))] (.sl 1 ((fV w.us ks).map (D.int .i64)))
def C37 (Y:Ctx):Prop:=JT (b8 Y 37)
def D9 (T:List D->D->Prop):Prop:=T [] (bz.D jG)
def O8 (Y:Ctx):Prop:=D9 (b8 Y 197)
section
def mq:List aj:=[⟨1,0,0,0,[⟨0,1⟩]⟩,⟨2,0,0,0,[⟨0,2⟩]⟩,⟨5,0,0,1,[]⟩]
def Rp (l:List aj):Int×Bool:=eD (okW jG []) (fun j=>dA ⟨jG,[],l⟩ ((j:Nat):Int)) l
set_option maxRecDepth 100000 in
theorem NC:Rp mq=(3,true):=by decide+kernel
set_option maxRecDepth 100000 in
theorem ND:Rp (mq.drop 1)=(1,false):=by decide+kernel
set_option maxRecDepth 100000 in
theorem NG:dA ⟨jG,[],mq⟩ 2=true:=by decide+kernel
def kH:jG.sm:=by
 intro u hu;simp only[jG,dF,ec,or_false]at hu;rcases hu with rfl|rfl
 .refine⟨cg,fun c hc=>?_⟩;obtain rfl:=bG.1 hc;refine⟨sS,fun r hr x hx=>?_,fun x hx=>by cases hx⟩;obtain rfl:=bG.1 hr;obtain rfl:=bG.1 hx;exact C7
 .exact⟨cg,fun c hc=>by cases hc⟩
def oF:RowsIn mq:=by
 intro r hr t ht;simp only[mq,dF,ec,or_false]at hr;rcases hr with rfl|rfl|rfl
 .obtain rfl:=bG.1 ht;exact⟨cg,cg⟩
 .obtain rfl:=bG.1 ht;exact⟨cg,cg⟩
 .cases ht
def xP:RowsIn (mq.drop 1):=fun r hr=>oF r (List.mem_of_mem_drop hr)
end
def JU (T:List D->D->Prop):Prop:=T [] (.bool true)
def C63 (Y:Ctx):Prop:=JU (b8 Y 63)
def Ke (Y:Ctx):Prop:=∀(w:bz),(w.sm/\w.us.length<=1000)->∀(nx:Nat) (m:List (Nat×bT)) (K:D->St->Prop),K (.own nx 1 0 w.us.length) ⟨nx+1,(nx,.buf 1 (((lI w.us)).map (D.int .i64)))::m⟩->Y.tr 436 [bz.D w] ⟨nx,m⟩ K
def Et (T:List D->D->Prop):Prop:=∀(w:bz) (ms:List Int),(w.sm/\ms.length<=1000)->T [bz.D w,.sl 1 (ms.map (D.int .i64))] (.tup [.sl 2 ((iH w.us ms).1.map bK.D),.bool (iH w.us ms).2])
def MX (Y:Ctx):Prop:=Et (b8 Y 437)
def Eb (T:List D->D->Prop):Prop:=∀(w:bz) (l:List bK),(w.sm/\w.us.length<=1000)->T [bz.D w,.sl 2 (l.map bK.D)] (.tup [.sl 2 ((vt w.us l).1.map bK.D),.bool (vt w.us l).2])
def MR (Y:Ctx):Prop:=Eb (b8 Y 204)
def Ev (T:List D->D->Prop):Prop:=∀(w:bz) (a:List bK) (b:List bK) (u:Int),(w.sm/\w.us.length<=1000)->T [bz.D w,.sl 2 (a.map bK.D),.sl 2 (b.map bK.D),.int .i64 u] (.tup [.sl 2 ((gQ w.us a b u).1.map bK.D),.bool (gQ w.us a b u).2])
def Pm (Y:Ctx):Prop:=Ev (b8 Y 439)
def C206 (Y:Ctx):Prop:=∀(o:Option (List aj)),((o.getD []).length<=100000/\∀r∈(o.getD []),r.terms.length<=1000)->∀(nx:Nat) (m:List (Nat×bT)) (K:D->St->Prop),K (.own nx 5 0 (o.getD []).length) ⟨nx+1,(nx,.buf 5 ((o.getD []).map aj.D))::m⟩->Y.tr 206 [pD o] ⟨nx,m⟩ K
def mh (l:Nat)(r:aj):D:=.agg [.int .i64 r.kind,.int .i64 r.unit,.int .i64 r.a,.int .i64 r.b,.own l 2 0 r.terms.length]
def cT (l t:Nat)(r:aj)(xs:List aj):List D:=(xs.map aj.D).set t (mh l r)
def dU (l t:Nat)(r:aj)(xs:List aj):(cT l t r xs).length=xs.length:=by rw[cT,List.length_set,aE]
def Lw (lo:Nat)(σ:List (Nat×Nat))(r:aj):jm lo σ r.D=some r.D:=by simp only[aj.D,jm,fu]
def AU (lo:Nat)(σ:List (Nat×Nat)):∀xs:List aj,fu lo σ (xs.map aj.D)=some (xs.map aj.D)
 |[]=>rfl
 |x::r=>by rw[List.map_cons,fu,Lw,AU lo σ r]
def AT {lo:Nat}{σ:List (Nat×Nat)}{d d':D}(hd:jm lo σ d=some d'):∀(xs ys:List D) (t:Nat),fu lo σ xs=some ys->fu lo σ (xs.set t d)=some (ys.set t d')
 |[],ys,t,h=>by
  simp only[fu,aY]at h;subst h;rfl
 |x::r,ys,0,h=>by
  simp only[fu]at h;split at h
  .rename_i e1 e2;obtain rfl:=bl h;simp only[List.set_cons_zero,fu,hd,e2]
  .cases h
 |x::r,ys,t+1,h=>by
  simp only[fu]at h;split at h
  .rename_i e1 e2;obtain rfl:=bl h;simp only[List.set_cons_succ,fu,e1,AT hd _ _ t e2]
  .cases h
def vW {lo:Nat}{σ:List (Nat×Nat)}{l l':Nat}(h:fh lo σ l=some l')(t:Nat)(r:aj)(xs:List aj):fu lo σ (cT l t r xs)=some (cT l' t r xs):=
 AT (by simp only[mh,jm,fu,qh,h]) _ _ t (AU lo σ xs)
def pd {l t:Nat}{r:aj}{xs:List aj}(h:xs.length<=t):cT l t r xs=xs.map aj.D:=by
 rw[cT,List.set_eq_of_length_le (by rw[aE];exact h)]
def Gy {l t:Nat}{r e:aj}{xs:List aj}(h:t<xs.length):cT l t r xs++[e.D]=cT l t r (xs++[e]):=by
 unfold cT;rw[List.map_append,List.set_append_left _ _ (by rw[aE];exact h)];rfl
def Gx {l:Nat}{e:aj}{xs:List aj}:xs.map aj.D++[mh l e]=cT l xs.length e (xs++[e]):=by
 unfold cT;rw[List.map_append,List.set_append_right _ _ (by rw[aE];exact aB _),aE,Nat.sub_self];rfl
def tN (l k:Nat)(es:List D)(d:D):∀(xs:List D) (t:Nat),dS l k es (xs.set t d)=(dS l k es xs).set t (dQ l k es d)
 |[],_=>rfl
 |x::r,0=>by simp only[List.set_cons_zero,dS]
 |x::r,t+1=>by simp only[List.set_cons_succ,dS,tN l k es d r t]
def iU {l t:Nat}{r:aj}{xs:List aj}:dS l 2 (r.terms.map bK.D) (cT l t r xs)=(xs.set t r).map aj.D:=by
 unfold cT;rw[tN,cY,List.map_set];congr 1;simp only[mh,dQ,dS,bn,ba,aC,aE,aB,aH,aU,aj.D];rw[fg (by rw[aE];exact aB _)]
def sI {l l' k t:Nat}{es:List D}{r:aj}{xs:List aj}(h:l≠l'):dS l' k es (cT l t r xs)=cT l t r xs:=by
 unfold cT;rw[tN,cY];congr 1;simp only[mh,dQ,dS,ai (fun e:l=l'/\2=k/\0+r.terms.length<=es.length=>h e.1)]
def GX (t i:Nat)(r:aj):List D:=if t<i then r.terms.map bK.D else []
def CU (t i:Nat)(r:aj):aV (GX t i r)=true:=by
 unfold GX;split
 .exact cd (fun _=>rfl) _
 .rfl
def HZ (l k t i:Nat)(es:List D)(r:aj):dS l k es (GX t i r)=GX t i r:=iB l k es _ (CU t i r)
def OM {t i:Nat}{r:aj}(h:i≠t):GX t (i+1) r=GX t i r:=by
 unfold GX;by_cases q:t<i
 .rw[ay q,ay ae]
 .rw[ai q,ai ae]
def DW {t i:Nat}{r:aj}(h:t<i):GX t i r=r.terms.map bK.D:=ay h
def CR {l t i:Nat}{r:aj}{rows:List aj}(hi:i<rows.length)(h:i≠t):cT l t r (rows.take i)++[aj.D rows[i]!]=cT l t r (rows.take (i+1)):=by
 have hl:(rows.take i).length=i:=by rw[eg];omega
 rw[<-fP hi];by_cases q:t<i
 .exact Gy ae
 .rw[pd ae,pd (by rw[cI,hl,List.length_singleton];omega),List.map_append];rfl
def CP {l i:Nat}{r:aj}{rows:List aj}{l2:Nat}(hi:i<rows.length):cT l2 i r (rows.take i)++[mh l rows[i]!]=cT l i rows[i]! (rows.take (i+1)):=by
 have hl:(rows.take i).length=i:=by rw[eg];omega
 rw[<-fP hi,pd ae];have:=Gx (l:=l) (e:=rows[i]!) (xs:=rows.take i);rw[hl]at this;exact this
def sZ {l t:Nat}{r:aj}{xs:List aj}(h:t<xs.length):(cT l t r xs).getD t .any=mh l r:=by
 unfold cT;simp[List.getD,h]
def Jv {l l' t:Nat}{r r':aj}{xs:List aj}:(cT l t r xs).set t (mh l' r')=cT l' t r' xs:=by
 unfold cT;rw[List.set_set]
def stO0 {l t:Nat}{r:aj}{xs:List aj}{v:Int}(h:t<xs.length):(cT l t r xs).set t (oI ((cT l t r xs).getD t .any) 5 1 0 (.int .i64 v))=cT l t ⟨v,r.unit,r.a,r.b,r.terms⟩ xs:=by
 rw[sZ h];exact Jv (r':=⟨v,r.unit,r.a,r.b,r.terms⟩)
def stO1 {l t:Nat}{r:aj}{xs:List aj}{v:Int}(h:t<xs.length):(cT l t r xs).set t (oI ((cT l t r xs).getD t .any) 5 1 1 (.int .i64 v))=cT l t ⟨r.kind,v,r.a,r.b,r.terms⟩ xs:=by
 rw[sZ h];exact Jv (r':=⟨r.kind,v,r.a,r.b,r.terms⟩)
def stO2 {l t:Nat}{r:aj}{xs:List aj}{v:Int}(h:t<xs.length):(cT l t r xs).set t (oI ((cT l t r xs).getD t .any) 5 1 2 (.int .i64 v))=cT l t ⟨r.kind,r.unit,v,r.b,r.terms⟩ xs:=by
 rw[sZ h];exact Jv (r':=⟨r.kind,r.unit,v,r.b,r.terms⟩)
def stO3 {l t:Nat}{r:aj}{xs:List aj}{v:Int}(h:t<xs.length):(cT l t r xs).set t (oI ((cT l t r xs).getD t .any) 5 1 3 (.int .i64 v))=cT l t ⟨r.kind,r.unit,r.a,v,r.terms⟩ xs:=by
 rw[sZ h];exact Jv (r':=⟨r.kind,r.unit,r.a,v,r.terms⟩)
def RY {l l' t k:Nat}{r:aj}{xs:List aj}{ts:List bK}(h:t<xs.length)(hk:k=ts.length):(cT l t r xs).set t (oI ((cT l t r xs).getD t .any) 5 1 4 (.own l' 2 0 k))=cT l' t ⟨r.kind,r.unit,r.a,r.b,ts⟩ xs:=by
 subst hk;rw[sZ h];exact Jv (r':=⟨r.kind,r.unit,r.a,r.b,ts⟩)
def AV {l t:Nat}{r:aj}{xs:List aj}{ts:List bK}(h:ts.length=r.terms.length):cT l t r xs=cT l t ⟨r.kind,r.unit,r.a,r.b,ts⟩ xs:=by
 unfold cT mh;rw[h]
def zU {l t:Nat}{r:aj}{ts:List bK}{n:Nat}{xs:List aj}(hn:r.terms=ts.take n):dS l 2 (ts.map bK.D) (cT l t r xs)=(xs.set t r).map aj.D:=by
 unfold cT;rw[tN,cY,List.map_set];congr 1;have hl:r.terms.length<=ts.length:=by rw[hn,eg];omega
 simp only[mh,dQ,dS,bn,ba,aC,aE,hl,aH,aU,aj.D];rw[<-List.map_take];congr 7;rw[hn,eg];rcases Nat.le_total n ts.length with h|h
 .rw[Nat.min_eq_left h]
 .rw[Nat.min_eq_right h,fg (aB _),fg h]
def ma (n:Nat)(r:aj)(w c:Int):aj:=
 if w=0 then⟨bH c 8-1,r.unit,r.a,r.b,r.terms⟩
 else if w=1 then⟨r.kind,bH c 9-1,r.a,r.b,r.terms⟩
 else if w=2 then⟨r.kind,r.unit,bH c ((n:Int)+2) -1,r.b,r.terms⟩
 else if w=3 then⟨r.kind,r.unit,r.a,bH c ((n:Int)+2) -1,r.terms⟩
 else if w=4 then(if 0<r.terms.length then⟨r.kind,r.unit,r.a,r.b,r.terms.set (bH c r.terms.length).toNat ⟨r.terms[(bH c r.terms.length).toNat]!.u,bH c 70⟩⟩else r)
 else if w=5 then⟨r.kind,r.unit,r.a,r.b,r.terms.take (r.terms.length-1)⟩
 else⟨r.kind,r.unit,r.a,r.b,r.terms++[⟨bH c 9-1,bH c 33⟩]⟩
def qw (rows:List aj)(at_ w c:Int):List aj:=
 if rows.length=0 then []else rows.set (bH at_ rows.length).toNat (ma rows.length rows[(bH at_ rows.length).toNat]! (bH w 7) c)
def kq {rows:List aj}{b w c:Int}{T:Nat}{r:aj}(h0:rows.length≠0)(hT:(bH b ((rows.length:Nat):Int)).toNat=T)(h:ma rows.length rows[T]! (bH w 7) c=r):qw rows b w c=rows.set T r:=by
 subst hT;subst h;unfold qw;rw[ai h0]
def FB (rows:List aj)(at_ w c:Int):(qw rows at_ w c).length=rows.length:=by
 unfold qw;split
 .rename_i h;rw[h];rfl
 .rw[List.length_set]
def Hq {n:Nat}{r:aj}{w c:Int}(h:∀t∈r.terms,qt t.m)(h70:qt (bH c 70))(h33:qt (bH c 33)):∀t∈(ma n r w c).terms,qt t.m:=by
 unfold ma;repeat' split
 all_goals (intro t ht;try dsimp only at ht)
 all_goals first
  |exact h t ht
  |exact h t (C1 ht)
  |(rcases List.mem_or_eq_of_mem_set ht with e|e
    .exact h t e
    .subst e;exact h70)
  |(rcases List.mem_append.1 ht with e|e
    .exact h t e
    .rw[bG.1 e];exact h33)
def Hr {rows:List aj}{at_ w c:Int}(h:RowsIn rows)(h70:qt (bH c 70))(h33:qt (bH c 33)):RowsIn (qw rows at_ w c):=by
 unfold qw;split
 .intro r hr;cases hr
 .rename_i h0;intro r hr;rcases List.mem_or_eq_of_mem_set hr with e|e
  .exact h r e
  .subst e;refine Hq (fun t ht=>?_) h70 h33;have hp:=cS at_ rows.length ae;exact h _ (ak ae) t ht
def G7 (Y:Ctx):Prop:=∀(o:Option (List aj)) (t:Nat),((o.getD []).length<=100000/\∀r∈(o.getD []),r.terms.length<=1000)->∀(nx:Nat) (m:List (Nat×bT)) (K:D->St->Prop),K (.own nx 5 0 (o.getD []).length) ⟨nx+2,(nx,.buf 5 (cT (nx+1) t (o.getD [])[t]! (o.getD [])))::(nx+1,.buf 2 (GX t (o.getD []).length (o.getD [])[t]!))::m⟩->Y.tr 206 [pD o] ⟨nx,m⟩ K
def stT1 {ts:List bK}{k:Nat}{v:Int}(h:k<ts.length):(ts.map bK.D).set k (oI ((ts.map bK.D).getD k .any) 2 1 1 (.int .i64 v))=(ts.set k ⟨ts[k]!.u,v⟩).map bK.D:=by
 rw[getD_map h,List.map_set];rfl
def NH {r:aj}(h:¬0<r.terms.length):(⟨r.kind,r.unit,r.a,r.b,r.terms.take (r.terms.length-1)⟩:aj)=r:=by
 obtain⟨_,_,_,_,ts⟩:=r;cases ts with
 |nil=>rfl
 |cons x r=>exact absurd (Nat.succ_pos _) h
def pF {rows:List aj}{T:Nat}{r:aj}:((rows.set T r).map aj.D).take rows.length=(rows.set T r).map aj.D:=fg (by rw[aE,List.length_set];exact aB _)
def JX (T:List D->D->Prop):Prop:=∀(rows:List aj) (b:Int) (n:Int) (c:Int),(rows.length<=100000/\∀r∈rows,r.terms.length<=1000)->T [.sl 5 (rows.map aj.D),.int .i64 b,.int .i64 n,.int .i64 c] (.sl 5 ((qw rows b n c).map aj.D))
def C67 (Y:Ctx):Prop:=JX (b8 Y 67)
def shR (n:Nat)(r:aj):aj:=⟨r.kind,r.unit,r.a+n,r.b+n,r.terms⟩
def mvR (n:Nat)(r:aj):aj:=if r.kind=5 then shR n r else r
def px (n:Nat)(L:List aj)(i:Nat)(R:List aj):Prop:=R.length=L.length/\∀k,k<L.length->R[k]! =if n<=k/\k<i then mvR n L[k]! else L[k]!
def px.start (n:Nat)(L:List aj):px n L n L:=⟨rfl,fun k hk=>by rw[ai ae]⟩
def px.at {n i:Nat}{L R:List aj}(h:px n L i R)(hi:i<L.length):R[i]! =L[i]! :=by rw[h.2 i hi,ai ae]
def px.step {n i:Nat}{L R:List aj}(h:px n L i R)(hn:n<=i)(hi:i<L.length)(hk:R[i]!.kind=5):px n L (i+1) (R.set i (shR n R[i]!)):=by
 refine⟨by rw[List.length_set];exact h.1,fun k hk2=>?_⟩;have e:=h.at hi;rw[A3 (by rw[h.1];exact hk2)];split
 .rename_i e2;subst e2;rw[ay ae,e,mvR,ay (by rw[<-e];exact hk)]
 .rw[h.2 k hk2];by_cases q:n<=k/\k<i
  .rw[ay q,ay ae]
  .rw[ai q,ai ae]
def px.skip {n i:Nat}{L R:List aj}(h:px n L i R)(hi:i<L.length)(hk:R[i]!.kind≠5):px n L (i+1) R:=by
 refine⟨h.1,fun k hk2=>?_⟩;have e:=h.at hi;rw[h.2 k hk2];by_cases q:k=i
 .subst q;rw[ai ae];split
  .rw[mvR,ai (by rw[<-e];exact hk)]
  .rfl
 .by_cases q2:n<=k/\k<i
  .rw[ay q2,ay ae]
  .rw[ai q2,ai ae]
def K8:∀o:Option (List aj),O1 (pD o)
 |none=>trivial
 |some l=>trivial
def Iv {o:Option (List aj)}(h:O0 (pD o) false):∃B,o=some B:=by
 cases o with
 |none=>cases h
 |some B=>exact⟨B,rfl⟩
def D8 (T:List D->D->Prop):Prop:=∀(w:bz) (c:List Int) (u:Int),(w.sm)->T [bz.D w,.sl 1 (c.map (D.int .i64)),.int .i64 u] (.int .i64 (nj w.us c u))
def O7 (Y:Ctx):Prop:=D8 (b8 Y 185)
def EZ (T:List D->D->Prop):Prop:=∀(w:bz) (t:bK) (c:List Int),(w.sm)->T [bz.D w,bK.D t,.sl 1 (c.map (D.int .i64))] (.bool (rJ w.us c t))
def PM (Y:Ctx):Prop:=EZ (b8 Y 657)
def EX (T:List D->D->Prop):Prop:=∀(a:List bK) (b:List bK),T [.sl 2 (a.map bK.D),.sl 2 (b.map bK.D)] (.bool (decide (a=b)))
def PJ (Y:Ctx):Prop:=EX (b8 Y 654)
def EY (T:List D->D->Prop):Prop:=∀(l:List bK) (u:Int),(l.length<=10000)->T [.sl 2 (l.map bK.D),.int .i64 u] (.sl 2 ((lG l u).map bK.D))
def PK (Y:Ctx):Prop:=EY (b8 Y 655)
def zk (T:List D->D->Prop):Prop:=∀(l:List bK),(l.length<=10000)->T [.sl 2 (l.map bK.D)] (.sl 2 ((xS l).map bK.D))
def PL (Y:Ctx):Prop:=zk (b8 Y 656)
def Eu (T:List D->D->Prop):Prop:=∀(p:j4) (c:List Int),(p.w.sm)->T [.ref 3 [j4.D p] 0 0,.sl 1 (c.map (D.int .i64))] (.int .i64 (kr p.w.us p.facts c))
def Pl (Y:Ctx):Prop:=Eu (b8 Y 438)
def MS (Y:Ctx):Prop:=(∀(w:bz) (al:List Int) (facts:List aj) (c:List Int) (rows:List aj),sT w al facts c rows->∀(nx lp ln lc:Nat) (m:List (Nat×bT)) (K:D->St->Prop),look m lp=some (.buf 3 [j4.D ⟨w,facts,.own ln 5 0 rows.length⟩])->look m ln=some (.buf 5 (rows.map aj.D))->look m lc=some (.buf 1 (c.map (D.int .i64)))->(lp<nx/\ln<nx/\lc<nx)->K (.int .i64 (eN w.us facts c rows).1) ⟨nx+1,(nx,.buf 5 ((eN w.us facts c rows).2.map aj.D))::cU (bY (bY m ln) lc) lp (.buf 3 [j4.D ⟨w,facts,.own nx 5 0 (eN w.us facts c rows).2.length⟩])⟩->Y.tr 205 [.ptr lp 3 0 0,.own lc 1 0 c.length] ⟨nx,m⟩ K)/\(∀(w:bz) (al:List Int) (facts:List aj) (rows:List aj),sT w al facts [] rows->∀(nx lp ln:Nat) (m:List (Nat×bT)) (K:D->St->Prop),look m lp=some (.buf 3 [j4.D ⟨w,facts,.own ln 5 0 rows.length⟩])->look m ln=some (.buf 5 (rows.map aj.D))->(lp<nx/\ln<nx)->K (.int .i64 (eN w.us facts [] rows).1) ⟨nx+1,(nx,.buf 5 ((eN w.us facts [] rows).2.map aj.D))::cU (bY m ln) lp (.buf 3 [j4.D ⟨w,facts,.own nx 5 0 (eN w.us facts [] rows).2.length⟩])⟩->Y.tr 205 [.ptr lp 3 0 0,.aG] ⟨nx,m⟩ K)
def Mc (Y:Ctx)(u:Nat):Prop:=(∀(w:bz) (al:List Int) (facts:List aj) (c:List Int) (rows:List aj),sT w al facts c rows->(w.us.length-c.length)<u->∀(nx lp ln lc:Nat) (m:List (Nat×bT)) (K:D->St->Prop),look m lp=some (.buf 3 [j4.D ⟨w,facts,.own ln 5 0 rows.length⟩])->look m ln=some (.buf 5 (rows.map aj.D))->look m lc=some (.buf 1 (c.map (D.int .i64)))->(lp<nx/\ln<nx/\lc<nx)->K (.int .i64 (eN w.us facts c rows).1) ⟨nx+1,(nx,.buf 5 ((eN w.us facts c rows).2.map aj.D))::cU (bY (bY m ln) lc) lp (.buf 3 [j4.D ⟨w,facts,.own nx 5 0 (eN w.us facts c rows).2.length⟩])⟩->Y.tr 205 [.ptr lp 3 0 0,.own lc 1 0 c.length] ⟨nx,m⟩ K)/\(∀(w:bz) (al:List Int) (facts:List aj) (rows:List aj),sT w al facts [] rows->w.us.length<u->∀(nx lp ln:Nat) (m:List (Nat×bT)) (K:D->St->Prop),look m lp=some (.buf 3 [j4.D ⟨w,facts,.own ln 5 0 rows.length⟩])->look m ln=some (.buf 5 (rows.map aj.D))->(lp<nx/\ln<nx)->K (.int .i64 (eN w.us facts [] rows).1) ⟨nx+1,(nx,.buf 5 ((eN w.us facts [] rows).2.map aj.D))::cU (bY m ln) lp (.buf 3 [j4.D ⟨w,facts,.own nx 5 0 (eN w.us facts [] rows).2.length⟩])⟩->Y.tr 205 [.ptr lp 3 0 0,.aG] ⟨nx,m⟩ K)
def MW (Y:Ctx):Prop:=∀(w:bz) (rows:List aj) (r:aj),((w.sm/\w.us.length<=48)/\((∀x∈rows,x.terms.length<=48)/\rows.length<=10000000)/\r.terms.length<=48)->∀(nx lo:Nat) (m:List (Nat×bT)) (K:D->St->Prop),look m lo=some (.buf 5 (rows.map aj.D))->lo<nx->K (.own nx 5 0 (mY w.us rows r).length) ⟨nx+1,(nx,.buf 5 ((mY w.us rows r).map aj.D))::bY m lo⟩->Y.tr 435 [bz.D w,.own lo 5 0 rows.length,aj.D r] ⟨nx,m⟩ K
def Es (T:List D->D->Prop):Prop:=∀(w:bz) (u:Nat) (k:Nat) (l:List Want) (bar:Bool),((w.sm/\w.us.length<=1000)/\(∀x∈l,x.sm)/\l.length<=1000/\k<=30)->T [bz.D w,.int .i64 ((u:Nat):Int),.int .i64 ((k:Nat):Int),.sl 3 (l.map Want.D),.bool bar] (.tup [.sl 2 ((eh w.us u k l bar).1.map bK.D),.bool (eh w.us u k l bar).2])
def Pk (Y:Ctx):Prop:=Es (b8 Y 434)
def MQ (Y:Ctx):Prop:=∀(w:bz),Mh w->∀(nx:Nat) (m:List (Nat×bT)) (K:D->St->Prop),K (.own nx 5 0 (lH w.us).length) ⟨nx+1,(nx,.buf 5 ((lH w.us).map aj.D))::m⟩->Y.tr 203 [bz.D w] ⟨nx,m⟩ K
def JW (T:List D->D->Prop):Prop:=∀(w:bz) (allow:List Int),(Mh w)->T [bz.D w,.sl 1 (allow.map (D.int .i64))] (pD (jc w.us allow))
def C66 (Y:Ctx):Prop:=JW (b8 Y 66)
section
section
variable {Y:Ctx} {draw:Bool} {r:List GI} {env rs:List cb} {nx:Nat} {m:List (Nat×bT)} {K:List cb->St->Prop} {g:Option (Nat×Bool)} {f:Bool}
def Oq {x:Src}{ng:Bool}{d:D}(h:∀b,O0 d b->aN Y draw r env (⟨true,.bool (bif ng then !b else b)⟩::rs) nx m K)(hx:cN env rs x=⟨true,d⟩:=by exact rfl)(hs:O1 d:=by exact trivial):aN Y draw (⟨.isNl x ng,none⟩::r) env rs nx m K:=by
 unfold aN;show none=none/\(Src.ev env rs.reverse x).ok=true/\O1 (Src.ev env rs.reverse x).d/\∀b,O0 (Src.ev env rs.reverse x).d b->_
 rw[kv,hx];refine⟨rfl,rfl,hs,fun b hb=>?_⟩;have:=h b hb;unfold aN at this;simpa using this
end
end
def Bw (T:List D->D->Prop):Prop:=∀(a:List Int) (b:List Int) (at1:Int) (wh:Int) (by1:Int) (pl:Int),T [.sl 1 (a.map (D.int .i64)),.sl 1 (b.map (D.int .i64)),.int .i64 at1,.int .i64 wh,.int .i64 by1,.int .i64 pl] (.bool true)
section
section
variable [du] {P:Program} {ν:List (Nat×Nat)} {cz:List Nat} {t:List (Nat×lE)} {fid n key u k:Nat} {af:aJ} {nx:Nat} {m:List (Nat×bT)} {K:D->St->Prop}
def JI {a:D}{i:Nat}{r:aj}{rows:List aj}{es:List D}(hes:aV es=true)(hmix:P.follows .mixedOrders=true)(hC:zo P ν cz fid af)(hnp:1=af.np)(ha:a.bm=true)
  (hK:K (.own nx 5 0 rows.length) ⟨nx+2,(nx,.buf 5 (cT (nx+1) i r rows))::(nx+1,.buf 2 es)::m⟩)
  (hw:cq ((under t key u).at 0) af.body (kn af (fun d m=>∃j k,j≠k/\d=.own j 5 0 rows.length/\look m j=some (.buf 5 (cT k i r rows))/\look m k=some (.buf 2 es))) (fJ af [a]) ⟨0,[]⟩):kK P ν cz (under t key u) fid [a] ⟨nx,m⟩ K:=by
 refine pB (σi:=[]) (m0:=[]) (cs:=[a]) (fun q=>oJ t key u q) hmix hC rfl ?_ hnp rfl (fun _ _ h=>by cases h) (fun _ _ h=>by cases h) hw ?_
 .intro i hi
  match i,hi with
  |0,_=>exact .inl ⟨rfl,ha⟩
 .intro d m1 h;obtain⟨j,k,hjk,rfl,hj,hk⟩:=h;have b1:=ey hjk;have b2:=ey hjk.symm;have b3:=ey (show nx≠nx+1 by omega);have b4:=ey (show nx+1≠nx by omega);have r1:fh 0 [(j,nx),(k,nx+1)] k=some (nx+1):=by simp only[fh,b1,b2,cond_false,Nat.beq_refl,cond_true]
  have r0:fh 0 [(j,nx),(k,nx+1)] j=some nx:=by simp only[fh,Nat.beq_refl,cond_true]
  refine⟨[(j,nx),(k,nx+1)],j+1,_,_,⟨rfl, ?_,(Nat.le_add_right _ 2:nx<=nx+2),(fun _ _ h=>by cases h), ?_,(fun _ _ h=>by cases h), ?_⟩,.inr (.inl (by simp only[jm,qh,r0])),hK⟩
  .simp only[eP,List.all_cons,List.all_nil,b1,b2,b3,b4,Bool.not_false,eL,jh,Nat.blt,bR,Nat.ble_eq];repeat' first|exact trivial|exact rfl|exact Nat.zero_le _|omega|refine And.intro ?_ ?_
  .intro i l h;simp only[dF,dZ,ec,or_false]at h;rcases h with⟨rfl,rfl⟩|⟨rfl,rfl⟩
   .exact .inr (aB _)
   .exact .inr (Nat.le_succ _)
  .intro l bb h;simp only[look]at h;split at h
   .rename_i e;subst e;obtain rfl:=bl h;exact .inl ⟨j,_,.head _,hj,rfl,.inr (.inl (vW r1 _ _ _))⟩
   .rename_i n1;split at h
    .rename_i e;subst e;obtain rfl:=bl h;exact .inl ⟨k,_,.tail _ (.head _),hk,rfl,.inl ⟨rfl,hes⟩⟩
    .rename_i n2;exact .inr ⟨by simp only[jy,ai n1,ai n2],(fun _ h=>by cases h),h⟩
end
end
def ca {p:Prop}(h:p:=by((repeat intro _);exact okp Rr (.inl (by assumption)) fun T hT=>(by apply hT<;>assumption))):p:=h
def bJ {t:List (Nat×lE)}{key u q:Nat}:((under t key u).at q).cE:=oJ t key u q
section
def O2 (T:FT):Prop:=∀(g:Gs) (n:Int),(n<=9223372036854775807)->(0<=g.i/\g.i<=1000000)->T (Gs.D g) [.int .i64 n] (.int .i64 (g.val n)) (Gs.D g.bQ)
def Qi:BB (uY O2):=Rq
def O9 (Y:Ctx):Prop:=C206 Y/\G7 Y
def NM:OQ (uZ zk):=HI (by intro l _ l2 _ e;simp only[sy,D.sl.injEq,H6,bc,ba]at e;rw[e])
def Qj:OQ (uZ Bw):=Rr
def bE:List (Nat×lE):=[(25,rP 1 JR),(36,rP 15 JS),(37,rP 3 JT),(63,rP 24 JU),(65,rP 23 JV),(66,rP 14 JW),(67,rP 2 JX),(109,rF 2 O2),(112,rP 1 D1),(150,rP 16 D2),(154,rG 3 MK),(155,rG 14 ML),(156,rP 8 D3),(157,rG 13 J7),(158,rP 2 D4),(159,rP 1 D5),(169,rP 14 tX),(172,rP 4 D6),(175,rP 12 tX),(182,rP 1 D7),(185,rP 2 D8),(197,rP 4 D9),(198,rP 22 Ea),(203,rG 13 MQ),(204,rP 4 Eb),(205,rG 5 MS (N1)),(206,rG 1 O9),(209,rP 4 tY),(217,rP 4 tY),(295,rP 5 tZ),(368,rP 15 Ec),(374,rP 3 Ed),(375,rP 1 Ee),(376,rP 2 Ef),(377,rP 2 Eg),(378,rP 3 Eh),(379,rP 7 Ei),(380,rG 12 MV),(381,rP 1 Ej),(403,rP 13 Ek),(405,rP 3 El),(406,rP 3 Em),(408,rP 3 En),(409,rP 11 Eo),(415,rP 11 Ep),(424,rP 5 tZ),(425,rP 21 Er),(434,rP 12 Es),(435,rG 4 MW),(436,rG 3 Ke),(437,rP 3 Et),(438,rP 4 Eu),(439,rP 4 Ev),(440,rP 1 ua),(441,rP 3 Ew),(442,rP 2 Ey),(454,rP 1 Ez),(455,rP 1 ua),(456,rP 3 EA),(470,rP 1 ue),(516,rP 2 ub),(530,rP 1 uc),(531,rP 1 EB),(532,rP 2 ud),(533,rP 1 ue),(534,rP 3 uf),(590,rP 5 EC),(591,rP 14 ED),(598,rP 2 EE),(599,rP 1 uc),(600,rP 1 EF),(601,rP 1 EG),(602,rP 6 EH),(603,rP 1 EI),(604,rP 11 EJ),(605,rP 10 EK),(615,rP 2 EL),(617,rP 1 EM),(618,rP 12 EN),(622,rP 10 EO),(627,rP 10 ug),(630,rP 1 ud),(631,rP 4 EP),(632,rP 2 ER),(633,rP 1 ES),(634,rP 2 ET),(635,rP 20 EU),(636,rP 1 EV),(637,rP 3 EW),(654,rP 1 EX),(655,rP 1 EY),(656,rP 1 zk),(657,rP 3 EZ),(658,rP 1 uh),(659,rP 1 ui),(666,rP 1 E0),(667,rP 2 uh),(668,rP 1 ui),(704,rP 1 E1),(712,rP 10 ug),(714,rP 1 E2),(762,rP 2 E3),(763,rP 13 E4),(769,rP 5 E5),(770,rP 9 uj),(771,rP 10 E6),(772,rP 9 E7),(777,rP 11 E8),(778,rP 10 E9),(780,rP 9 uj),(782,rP 9 uk),(783,rP 3 uf),(784,rP 1 Fa),(785,rP 19 Fb),(861,rP 9 uk),(913,rP 12 Fc),(914,rP 12 Fe),(916,rP 8 um),(917,rP 2 Ff),(918,rG 9 Nc),(919,rP 8 Fg),(920,rP 7 Fh),(921,rG 7 Kj),(924,rP 1 Fi),(925,rP 8 um),(926,rP 8 uo),(927,rP 1 ub),(928,rP 15 Fj),(929,rP 13 Fk),(930,rP 12 Fl),(931,rP 18 Fm),(932,rP 16 Fo),(933,rP 13 Fp),(934,rP 12 Fq),(980,rP 8 uo),(1019,rP 7 ra),(1020,rP 6 rb),(1021,rP 7 Bq),(1023,rP 7 ra),(1024,rP 6 rb),(1025,rP 6 rh),(1026,rP 14 Br),(1027,rP 11 Bs),(1028,rP 17 Bt),(1055,rP 6 rh),(1086,rP 5 ri),(1087,rP 5 ri),(1178,rP 1 rj),(1179,rP 1 Bu),(1180,rP 1 rj),(1181,rP 1 Bv),(1211,rP 25 Bw)]
variable {k u v:Nat}
def G25 (hk:1<k:=by decide):Pa (under bE k u):=ca
def G36 (hk:15<k:=by decide):C36 (under bE k u):=ca
def G37 (hk:3<k:=by decide):C37 (under bE k u):=ca
def G63 (hk:24<k:=by decide):C63 (under bE k u):=ca
def G65 (hk:23<k:=by decide):C65 (under bE k u):=ca
def G66 (hk:14<k:=by decide):C66 (under bE k u):=ca
def G67 (hk:2<k:=by decide):C67 (under bE k u):=ca
def Hd (hk:2<k:=by decide):Ft (under bE k u):=fun g n hp0 hp1=>okf Qi hk fun T h=>h g n hp0 hp1
def G112 (hk:1<k:=by decide):O3 (under bE k u):=ca
def G150 (hk:16<k:=by decide):O4 (under bE k u):=ca
def G154 (hk:3<k:=by decide):MK (under bE k u):=fun g few hp0 nx m K h0 hx hK=>DK (.inl hk) fun T _ h=>h g few hp0 nx m K h0 hx hK
def G155 (hk:14<k:=by decide):ML (under bE k u):=fun g n nm ft cs kk E most hE hp0 nx m K hx hW hK=>DK (.inl hk) fun T _ h=>h g n nm ft cs kk E most hE hp0 nx m K hx hW hK
def Qt (hk:8<k:=by decide):MM (under bE k u):=ca
def Qu (hk:13<k:=by decide):J7 (under bE k u):=fun g n nm ft cs kk E hE hp0 nx m K hx hW hK=>DK (.inl hk) fun T _ h=>h g n nm ft cs kk E hE hp0 nx m K hx hW hK
def yh (hk:2<k:=by decide):yf (under bE k u):=ca
def Qv (hk:1<k:=by decide):MN (under bE k u):=ca
def G169 (hk:14<k:=by decide):O5 (under bE k u):=ca
def Qw (hk:4<k:=by decide):MO (under bE k u):=ca
def G175 (hk:12<k:=by decide):O6 (under bE k u):=ca
def Qx (hk:1<k:=by decide):MP (under bE k u):=ca
def G185 (hk:2<k:=by decide):O7 (under bE k u):=ca
def G197 (hk:4<k:=by decide):O8 (under bE k u):=ca
def Ni (hk:22<k:=by decide):J8 (under bE k u):=ca
def G203 (hk:13<k:=by decide):MQ (under bE k u):=fun w hp0 nx m K hK=>DK (.inl hk) fun T _ h=>h w hp0 nx m K hK
def Qy (hk:4<k:=by decide):MR (under bE k u):=ca
def G205 (hk:5<k:=by decide):MS (under bE k u):=⟨fun w al facts c rows hp nx lp ln lc m K h1 h2 h3 hx hK=>DK (.inl hk) fun T _ h=>h.1 w al facts c rows hp nx lp ln lc m K h1 h2 h3 hx hK,fun w al facts rows hp nx lp ln m K h1 h2 hx hK=>DK (.inl hk) fun T _ h=>h.2 w al facts rows hp nx lp ln m K h1 h2 hx hK⟩
def Mg (hv:v<=u):Mc (under bE 5 u) v:=⟨fun w al facts c rows hp hu nx lp ln lc m K h1 h2 h3 hx hK=>DK (.inr ⟨rfl,by rw[show(lk bE 205 lj).muE=N1 from rfl,DE h1];exact jH hu hv⟩) fun T _ h=>h.1 w al facts c rows hp nx lp ln lc m K h1 h2 h3 hx hK,fun w al facts rows hp hu nx lp ln m K h1 h2 hx hK=>DK (.inr ⟨rfl,by rw[show(lk bE 205 lj).muE=N1 from rfl,DC h1];exact jH hu hv⟩) fun T _ h=>h.2 w al facts rows hp nx lp ln m K h1 h2 hx hK⟩
def QU (hk:1<k:=by decide):G7 (under bE k u):=fun o t hp0 nx m K hK=>DK (.inl hk) fun T _ h=>h.2 o t hp0 nx m K hK
def Fw (hk:4<k:=by decide):BA (under bE k u):=ca
def yi (hk:4<k:=by decide):wL (under bE k u):=ca
def Nj (hk:5<k:=by decide):J9 (under bE k u):=ca
def Qz (hk:15<k:=by decide):MT (under bE k u):=ca
def QA (hk:3<k:=by decide):MU (under bE k u):=ca
def Kl (hk:1<k:=by decide):G1 (under bE k u):=ca
def Nk (hk:2<k:=by decide):Ka (under bE k u):=ca
def G377 (hk:2<k:=by decide):Pb (under bE k u):=ca
def G378 (hk:3<k:=by decide):Pc (under bE k u):=ca
def G379 (hk:7<k:=by decide):Pd (under bE k u):=ca
def G380 (hk:12<k:=by decide):MV (under bE k u):=fun g xs hp0 kk E hE nx lc m K hn h0 h1 h10 hK=>DK (.inl hk) fun T _ h=>h g xs hp0 kk E hE nx lc m K hn h0 h1 h10 hK
def Km (hk:1<k:=by decide):G2 (under bE k u):=ca
def G403 (hk:13<k:=by decide):Pe (under bE k u):=ca
def G405 (hk:3<k:=by decide):Pf (under bE k u):=ca
def yj (hk:3<k:=by decide):yg (under bE k u):=ca
def G408 (hk:3<k:=by decide):Pg (under bE k u):=ca
def G409 (hk:11<k:=by decide):Ph (under bE k u):=ca
def Nl (hk:11<k:=by decide):Kb (under bE k u):=ca
def Nn (hk:5<k:=by decide):Kd (under bE k u):=ca
def G425 (hk:21<k:=by decide):Pj (under bE k u):=ca
def G434 (hk:12<k:=by decide):Pk (under bE k u):=ca
def G435 (hk:4<k:=by decide):MW (under bE k u):=fun w rows r hp0 nx lo m K h1 h2 hK=>DK (.inl hk) fun T _ h=>h w rows r hp0 nx lo m K h1 h2 hK
def QB (hk:3<k:=by decide):Ke (under bE k u):=fun w hp0 nx m K hK=>DK (.inl hk) fun T _ h=>h w hp0 nx m K hK
def QC (hk:3<k:=by decide):MX (under bE k u):=ca
def QD (hk:4<k:=by decide):Pl (under bE k u):=ca
def QE (hk:4<k:=by decide):Pm (under bE k u):=ca
def G440 (hk:1<k:=by decide):Pn (under bE k u):=ca
def G441 (hk:3<k:=by decide):Po (under bE k u):=ca
def QF (hk:2<k:=by decide):MY (under bE k u):=ca
def G454 (hk:1<k:=by decide):Pp (under bE k u):=ca
def G455 (hk:1<k:=by decide):Pq (under bE k u):=ca
def G456 (hk:3<k:=by decide):Pr (under bE k u):=ca
def QG (hk:1<k:=by decide):MZ (under bE k u):=ca
def QH (hk:2<k:=by decide):M0 (under bE k u):=ca
def G530 (hk:1<k:=by decide):Ps (under bE k u):=ca
def QI (hk:1<k:=by decide):M1 (under bE k u):=ca
def No (hk:2<k:=by decide):Kf (under bE k u):=ca
def Np (hk:1<k:=by decide):Kg (under bE k u):=ca
def G534 (hk:3<k:=by decide):Pt (under bE k u):=ca
def G590 (hk:5<k:=by decide):Pu (under bE k u):=ca
def G591 (hk:14<k:=by decide):Pv (under bE k u):=ca
def G598 (hk:2<k:=by decide):Pw (under bE k u):=ca
def QJ (hk:1<k:=by decide):M3 (under bE k u):=ca
def QK (hk:1<k:=by decide):M4 (under bE k u):=ca
def Nq (hk:1<k:=by decide):Kh (under bE k u):=ca
def G602 (hk:6<k:=by decide):Px (under bE k u):=ca
def Nr (hk:1<k:=by decide):Ki (under bE k u):=ca
def G604 (hk:11<k:=by decide):Py (under bE k u):=ca
def G605 (hk:10<k:=by decide):Pz (under bE k u):=ca
def G615 (hk:2<k:=by decide):PA (under bE k u):=ca
def G617 (hk:1<k:=by decide):PB (under bE k u):=ca
def G618 (hk:12<k:=by decide):PC (under bE k u):=ca
def G622 (hk:10<k:=by decide):PD (under bE k u):=ca
def G627 (hk:10<k:=by decide):PE (under bE k u):=ca
def Kn (hk:1<k:=by decide):G3 (under bE k u):=ca
def G631 (hk:4<k:=by decide):PF (under bE k u):=ca
def QL (hk:2<k:=by decide):M5 (under bE k u):=ca
def G633 (hk:1<k:=by decide):PG (under bE k u):=ca
def Ko (hk:2<k:=by decide):G4 (under bE k u):=ca
def G635 (hk:20<k:=by decide):PH (under bE k u):=ca
def He (hk:1<k:=by decide):Fu (under bE k u):=ca
def G637 (hk:3<k:=by decide):PI (under bE k u):=ca
def G654 (hk:1<k:=by decide):PJ (under bE k u):=ca
def G655 (hk:1<k:=by decide):PK (under bE k u):=ca
def G656 (hk:1<k:=by decide):PL (under bE k u):=fun l hp0=>okp NM (.inl hk) fun T hT=>hT l hp0
def G657 (hk:3<k:=by decide):PM (under bE k u):=ca
def QM (hk:1<k:=by decide):M6 (under bE k u):=ca
def QN (hk:1<k:=by decide):M7 (under bE k u):=ca
def G666 (hk:1<k:=by decide):PN (under bE k u):=ca
def QO (hk:2<k:=by decide):M8 (under bE k u):=ca
def QP (hk:1<k:=by decide):M9 (under bE k u):=ca
def G704 (hk:1<k:=by decide):PO (under bE k u):=ca
def G712 (hk:10<k:=by decide):PQ (under bE k u):=ca
def G714 (hk:1<k:=by decide):PR (under bE k u):=ca
def G762 (hk:2<k:=by decide):PS (under bE k u):=ca
def G763 (hk:13<k:=by decide):PT (under bE k u):=ca
def G769 (hk:5<k:=by decide):PU (under bE k u):=ca
def Kq (hk:9<k:=by decide):G5 (under bE k u):=ca
def G771 (hk:10<k:=by decide):PV (under bE k u):=ca
def G772 (hk:9<k:=by decide):PX (under bE k u):=ca
def G777 (hk:11<k:=by decide):PY (under bE k u):=ca
def QQ (hk:10<k:=by decide):Na (under bE k u):=ca
def QR (hk:9<k:=by decide):Nb (under bE k u):=ca
def G782 (hk:9<k:=by decide):PZ (under bE k u):=ca
def G783 (hk:3<k:=by decide):P0 (under bE k u):=ca
def G784 (hk:1<k:=by decide):P1 (under bE k u):=ca
def G785 (hk:19<k:=by decide):P2 (under bE k u):=ca
def G861 (hk:9<k:=by decide):P3 (under bE k u):=ca
def G913 (hk:12<k:=by decide):P4 (under bE k u):=ca
def G914 (hk:12<k:=by decide):P5 (under bE k u):=ca
def Kr (hk:8<k:=by decide):G6 (under bE k u):=ca
def G917 (hk:2<k:=by decide):P6 (under bE k u):=ca
def G918 (hk:9<k:=by decide):Nc (under bE k u):=fun l hp0 nx lo m K h1 h2 hK=>DK (.inl hk) fun T _ h=>h l hp0 nx lo m K h1 h2 hK
def QS (hk:8<k:=by decide):Nd (under bE k u):=ca
def QT (hk:7<k:=by decide):Nf (under bE k u):=ca
def QV (hk:7<k:=by decide):Kj (under bE k u):=fun out f t hp0 nx lo m K h1 h2 hK=>DK (.inl hk) fun T _ h=>h out f t hp0 nx lo m K h1 h2 hK
def G924 (hk:1<k:=by decide):P7 (under bE k u):=ca
def QW (hk:8<k:=by decide):Ng (under bE k u):=ca
def G926 (hk:8<k:=by decide):P8 (under bE k u):=ca
def G927 (hk:1<k:=by decide):P9 (under bE k u):=ca
def QX (hk:15<k:=by decide):Nh (under bE k u):=ca
def G929 (hk:13<k:=by decide):Qa (under bE k u):=ca
def G930 (hk:12<k:=by decide):Qb (under bE k u):=ca
def G931 (hk:18<k:=by decide):Qc (under bE k u):=ca
def G932 (hk:16<k:=by decide):Qd (under bE k u):=ca
def G933 (hk:13<k:=by decide):Qe (under bE k u):=ca
def G934 (hk:12<k:=by decide):Qf (under bE k u):=ca
def G980 (hk:8<k:=by decide):Qg (under bE k u):=ca
def Ha (hk:7<k:=by decide):C2 (under bE k u):=ca
def zt (hk:6<k:=by decide):w8 (under bE k u):=ca
def Qk (hk:7<k:=by decide):L3 (under bE k u):=ca
def Md (hk:7<k:=by decide):GY (under bE k u):=ca
def Me (hk:6<k:=by decide):GZ (under bE k u):=ca
def Ql (hk:6<k:=by decide):L4 (under bE k u):=ca
def Qm (hk:14<k:=by decide):L5 (under bE k u):=ca
def Mf (hk:11<k:=by decide):G0 (under bE k u):=ca
def Qn (hk:17<k:=by decide):L6 (under bE k u):=ca
def Qo (hk:6<k:=by decide):L7 (under bE k u):=ca
def Hb (hk:5<k:=by decide):C3 (under bE k u):=ca
def Hc (hk:5<k:=by decide):C4 (under bE k u):=ca
def Qp (hk:1<k:=by decide):L8 (under bE k u):=ca
def Qq (hk:1<k:=by decide):L9 (under bE k u):=ca
def Qr (hk:1<k:=by decide):Ma (under bE k u):=ca
def Qs (hk:1<k:=by decide):Mb (under bE k u):=ca
end
def N4:List (Nat×Nat):=[(4,1211),(9,63),(10,36),(11,37),(12,206),(13,198),(14,368),(15,65),(16,150),(17,66),(18,67),(19,25),(26,197),(27,154),(28,155),(29,156),(30,109),(31,157),(32,158),(33,159),(34,425),(35,172),(36,590),(37,406),(38,591),(39,175),(40,169),(41,203),(42,204),(43,205),(46,185),(48,374),(49,112),(50,217),(51,375),(52,376),(53,377),(54,378),(55,379),(56,380),(57,381),(58,632),(59,633),(60,634),(61,635),(62,636),(63,637),(64,405),(65,182),(66,762),(67,763),(68,408),(69,209),(70,295),(71,409),(72,403),(73,434),(74,435),(75,436),(76,437),(77,438),(78,439),(79,415),(84,598),(85,455),(86,456),(87,599),(88,600),(89,601),(90,602),(91,603),(92,604),(93,605),(94,615),(95,784),(96,785),(97,913),(98,914),(99,531),(100,516),(101,440),(102,441),(103,442),(104,530),(105,532),(106,533),(107,534),(108,622),(109,617),(110,618),(111,424),(112,654),(113,655),(114,656),(115,657),(116,627),(120,470),(121,666),(122,667),(123,668),(124,769),(125,770),(126,771),(127,772),(128,928),(129,929),(130,930),(131,931),(132,932),(133,933),(134,934),(135,704),(136,658),(137,659),(138,714),(139,780),(140,777),(141,778),(142,630),(143,631),(144,782),(145,454),(146,916),(147,917),(148,918),(149,919),(150,920),(151,921),(152,1026),(153,1027),(154,1028),(155,924),(156,925),(157,783),(158,926),(159,1019),(160,1020),(161,1021),(162,712),(163,1023),(164,1024),(165,927),(166,1025),(167,1086),(168,861),(169,1087),(170,980),(171,1055),(187,1178),(188,1179),(189,1180),(190,1181),(1000000126,501178),(1000000129,501179),(1000000131,501180),(1000000132,501181)]
def FM:List Nat:=[219,1091,1354,1894,1896,1616,1320,1618,1898,2062,2066,2282,2068,2252,2194,2064,1904,900,931,937,935,445,978,1328,904,942,944,946,952,448,522,1008,1724,1726,1728,1430,486,500,1842,760,314,310,308,1836,872,870,406,410,412,103920080,500000000]
def bI:(Go.Proofs.Tryz.prog).follows .mixedOrders=true:=zzbk
abbrev Ow [du](f n:Nat):Prop:=OR Go.Proofs.Tryz.prog N4 FM bE f n
abbrev Cp (f:Nat)(a:aJ):Prop:=zo Go.Proofs.Tryz.prog N4 FM f a
def ck {f:Nat}{a:aJ}(h:((Go.Proofs.Tryz.prog).funcs[f]?).map (fun f=>(compile Go.Proofs.Tryz.prog N4 FM f,f.name== "runtime.NumGoroutine"))=some (some a,false):=by kernel_rfl):Cp f a:=h
end Go.Abs
