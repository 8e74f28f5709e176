/- A part of the proofs. -/
import Derived.KernelRfl
import Derived.Test.YtaeimnechonnmaaGreatDoorProg
import Derived.Test.YtaeimnechonnmaaGreatDoorP06
set_option linter.all false
set_option maxRecDepth 4000
namespace Go.Abs
section
section
variable [dc] {P:Program} {ν:List (Nat×Nat)} {cn:List Nat} {t:List (Nat×k9)} {fid key u k:Nat} {af:aE} {nx:Nat} {m:List (Nat×bz)} {K:D->St->Prop}
def xz {lo kk n n':Nat}{es es':List D}{x y:D}{Q:D->List (Nat×bz)->Prop}(hes:aL es=true)(hes':aL es'=true)(hxn:x.a8=true)(hyn:y.a8=true)(hmix:P.follows .mixedOrders=true)(hC:Ab P ν cn fid af)(hnp:3=af.np)
  (h1:look m lo=some (.buf k es)) (hlo:lo<nx) (hQ:∀d m,Q d m->∃j,d=.own j kk 0 n'/\look m j=some (.buf kk es')) (hK:K (.own nx kk 0 n') ⟨nx+1,(nx,.buf kk es')::cv m lo⟩)
  (hw:bX ((under t key u).at 1) af.body (ko af Q) (fh af [x,.own 0 k 0 n,y]) ⟨1,[(0,.buf k es)]⟩):kv P ν cn (under t key u) fid [x,.own lo k 0 n,y] ⟨nx,m⟩ K:=by
 have g3:ez 0 1 [(lo,0)]=true:=by simp[ez]
 have g4:∀l i,(l,i)∈[(lo,0)]->look m l≠none:=by
  intro l i h;obtain⟨rfl,rfl⟩:=Prod.mk.inj (bl.1 h);rw[h1];simp
 have g5:∀i b,look [(0,bz.buf k es)] i=some b->∃l b',(l,i)∈[(lo,0)]/\look m l=some b'/\lK 0 [(lo,0)] b' b:=by
  intro i b h;simp only[look]at h;split at h
  .rename_i e;subst e;obtain rfl:=ba h;exact⟨lo,_,.head _,h1,rfl,.inl ⟨rfl,hes⟩⟩
  .cases h
 refine pH (σi:=[(lo,0)]) (cs:=[x,.own 0 k 0 n,y]) (fun q=>ox t key u q) hmix hC rfl ?_ hnp g3 g4 g5 hw ?_
 .intro i hi
  match i,hi with
  |0,_=>exact .inl ⟨rfl,hxn⟩
  |1,_=>exact .inr (.inl (by simp[jE,pT,eP]))
  |2,_=>exact .inl ⟨rfl,hyn⟩
 .intro d m1 h;obtain⟨j,rfl,hj⟩:=hQ d m1 h;refine⟨[(j,nx)],j+1,_,_,⟨g3, ?_,Nat.le_succ _,g4, ?_,g5, ?_⟩,.inr (.inl (by simp[jE,pT,eP])),hK⟩
  .simp[ez]
  .intro i l h;obtain⟨rfl,rfl⟩:=Prod.mk.inj (bl.1 h);exact .inr (aJ _)
  .intro l bb h;simp only[look]at h;split at h
   .rename_i e;subst e;obtain rfl:=ba h;exact .inl ⟨j,_,.head _,hj,rfl,.inl ⟨rfl,hes'⟩⟩
   .rename_i hn;rw[gA]at h;split at h
    .cases h
    .rename_i hl;refine .inr ⟨by simp only[ju,ai hn],fun i hi=>?_,h⟩;exact hl (Prod.mk.inj (bl.1 hi)).1
def Fl (w:bI)(facts:List ar)(r:Int×List ar):D->List (Nat×bz)->Prop:=fun d m=>d=.int .i64 r.1/\∃j,1<=j/\look m 0=some (.buf 3 [jD.D ⟨w,facts,.own j 5 0 r.2.length⟩])/\look m j=some (.buf 5 (r.2.map ar.D))
def yV {w:bI}{facts rows:List ar}{r:Int×List ar}{lp ln:Nat}{m':List (Nat×bz)}(h1:look m lp=some (.buf 3 [jD.D ⟨w,facts,.own ln 5 0 rows.length⟩]))(hlp:lp<nx){d:D}{m1:List (Nat×bz)}(h:Fl w facts r d m1)
  (σi:List (Nat×Nat)) (q:Nat) (m0:List (Nat×bz)) (g3:ez 0 q σi=true) (hmem:(lp,0)∈σi) (g4:∀l i,(l,i)∈σi->look m l≠none) (g5:∀i b,look m0 i=some b->∃l b',(l,i)∈σi/\look m l=some b'/\lK 0 σi b' b)
  (hm':∀l b,l≠lp->l≠nx->look m' l=some b->look m l=some b/\∀i,(l,i)∉σi) (hK:K (.int .i64 r.1) ⟨nx+1,(nx,.buf 5 (r.2.map ar.D))::cH m' lp (.buf 3 [jD.D ⟨w,facts,.own nx 5 0 r.2.length⟩])⟩):
  ∃(σo:List (Nat×Nat)) (q1:Nat) (st':St) (vd':D),Fr σi σo q q1 m0 m1 ⟨nx,m⟩ st'/\Ix 0 σo d vd'/\K vd' st':=by
 obtain⟨rfl,j,hj1,e0,ej⟩:=h;have a1:=eo (show j≠0 by omega);have a2:=eo (show 0≠j by omega);have a3:=eo (show lp≠nx by omega);have a4:=eo (show nx≠lp by omega);have r1:eP 0 [(0,lp),(j,nx)] j=some nx:=by simp only[eP,a2,cond_false,Nat.beq_refl,cond_true]
 refine⟨[(0,lp),(j,nx)],j+1,_,_,⟨g3, ?_,(Nat.le_succ _:nx<=nx+1),g4, ?_,g5, ?_⟩,.inl ⟨rfl,rfl⟩,hK⟩
 .simp only[ez,List.all_cons,List.all_nil,a1,a2,a3,a4,Bool.not_false,eL,nJ,Nat.blt,bp,Nat.ble_eq];repeat' first|exact trivial|exact rfl|exact Nat.zero_le _|omega|refine And.intro ?_ ?_
 .intro i l h;simp only[dq,dP,dR,or_false]at h;rcases h with⟨rfl,rfl⟩|⟨rfl,rfl⟩
  .exact .inl hmem
  .exact .inr (aJ _)
 .intro l bb h;simp only[look]at h;split at h
  .rename_i e;subst e;obtain rfl:=ba h;exact .inl ⟨j,_,.tail _ (.head _),ej,rfl,.inl ⟨rfl,bP (fun _=>rfl) _⟩⟩
  .rename_i n1;rw[cT]at h;split at h
   .rename_i e;subst e;obtain rfl:=ba h;exact .inl ⟨0,_,.head _,e0,rfl,.inr (.inl (by simp only[jD.D,gS,jE,pT,r1]))⟩
   .rename_i n2;obtain⟨k1,k2⟩:=hm' l bb (fun e=>n2 (by first|exact e|exact e.symm)) (fun e=>n1 (by first|exact e|exact e.symm)) h;exact .inr ⟨by simp only[ju];rw[ai ae,ai ae],k2,k1⟩
def Gm {w:bI}{facts rows:List ar}{c:List Int}{r:Int×List ar}{lp ln lc:Nat}(hmix:P.follows .mixedOrders=true)(hC:Ab P ν cn fid af)(hnp:2=af.np)
  (h1:look m lp=some (.buf 3 [jD.D ⟨w,facts,.own ln 5 0 rows.length⟩])) (h2:look m ln=some (.buf 5 (rows.map ar.D))) (h3:look m lc=some (.buf 1 (c.map (D.int .i64)))) (hx:lp<nx/\ln<nx/\lc<nx)
  (hK:K (.int .i64 r.1) ⟨nx+1,(nx,.buf 5 (r.2.map ar.D))::cH (cv (cv m ln) lc) lp (.buf 3 [jD.D ⟨w,facts,.own nx 5 0 r.2.length⟩])⟩)
  (hw:bX ((under t key u).at 3) af.body (ko af (Fl w facts r)) (fh af [.ptr 0 3 0 0,.own 2 1 0 c.length]) ⟨3,[(0,.buf 3 [jD.D ⟨w,facts,.own 1 5 0 rows.length⟩]),(1,.buf 5 (rows.map ar.D)),(2,.buf 1 (c.map (D.int .i64)))]⟩):kv P ν cn (under t key u) fid [.ptr lp 3 0 0,.own lc 1 0 c.length] ⟨nx,m⟩ K:=by
 have n1:lp≠ln:=by
  rintro rfl;rw[h1]at h2;exact absurd (bz.buf.inj (ba h2)).1 bJ
 have n2:lp≠lc:=by
  rintro rfl;rw[h1]at h3;exact absurd (bz.buf.inj (ba h3)).1 bJ
 have n3:ln≠lc:=by
  rintro rfl;rw[h2]at h3;exact absurd (bz.buf.inj (ba h3)).1 bJ
 have b1:=eo n1;have b2:=eo n2;have b3:=eo n3;have b4:=eo n1.symm;have b5:=eo n2.symm;have b6:=eo n3.symm;have r1:eP 0 [(lp,0),(ln,1),(lc,2)] ln=some 1:=by simp only[eP,b1,cond_false,Nat.beq_refl,cond_true]
 have g3:ez 0 3 [(lp,0),(ln,1),(lc,2)]=true:=by simp[ez,b1,b2,b3,b4,b5,b6,Nat.blt];exact⟨⟨rfl,rfl⟩,rfl⟩
 have g4:∀l i,(l,i)∈[(lp,0),(ln,1),(lc,2)]->look m l≠none:=by
  intro l i h;simp only[dq,dP,dR,or_false]at h;rcases h with⟨rfl,_⟩|⟨rfl,_⟩|⟨rfl,_⟩<;>simp[h1,h2,h3]
 have g5:∀i b,look [(0,bz.buf 3 [jD.D ⟨w,facts,.own 1 5 0 rows.length⟩]),(1,.buf 5 (rows.map ar.D)),(2,.buf 1 (c.map (D.int .i64)))] i=some b->∃l b',(l,i)∈[(lp,0),(ln,1),(lc,2)]/\look m l=some b'/\lK 0 [(lp,0),(ln,1),(lc,2)] b' b:=by
  intro i b h;simp only[look]at h;split at h
  .rename_i e;subst e;obtain rfl:=ba h;exact⟨lp,_,.head _,h1,rfl,.inr (.inl (by simp only[jD.D,gS,jE,pT,r1]))⟩
  .split at h
   .rename_i e;subst e;obtain rfl:=ba h;exact⟨ln,_,.tail _ (.head _),h2,rfl,.inl ⟨rfl,bP (fun _=>rfl) _⟩⟩
   .split at h
    .rename_i e;subst e;obtain rfl:=ba h;exact⟨lc,_,.tail _ (.tail _ (.head _)),h3,rfl,.inl ⟨rfl,bP (fun _=>rfl) _⟩⟩
    .cases h
 refine pH (σi:=[(lp,0),(ln,1),(lc,2)]) (cs:=[.ptr 0 3 0 0,.own 2 1 0 c.length]) (fun q=>ox t key u q) hmix hC rfl ?_ hnp g3 g4 g5 hw fun d m1 h=>yV h1 hx.1 h _ _ _ g3 (.head _) g4 g5 (fun l b hl hl2 h=>?_) hK
 .intro i hi
  match i,hi with
  |0,_=>exact .inr (.inl (by simp[jE,pT,eP]))
  |1,_=>exact .inr (.inl (by simp[jE,pT,eP,b2,b3]))
 .rw[gA]at h;split at h
  .cases h
  .rename_i e1;rw[gA]at h;split at h
   .cases h
   .rename_i e2;refine⟨h,fun i hi=>?_⟩;simp only[dq,dP,dR,or_false]at hi;rcases hi with⟨e,_⟩|⟨e,_⟩|⟨e,_⟩
    .exact hl e
    .exact e2 e
    .exact e1 e
def Gl {w:bI}{facts rows:List ar}{r:Int×List ar}{lp ln:Nat}(hmix:P.follows .mixedOrders=true)(hC:Ab P ν cn fid af)(hnp:2=af.np)
  (h1:look m lp=some (.buf 3 [jD.D ⟨w,facts,.own ln 5 0 rows.length⟩])) (h2:look m ln=some (.buf 5 (rows.map ar.D))) (hx:lp<nx/\ln<nx)
  (hK:K (.int .i64 r.1) ⟨nx+1,(nx,.buf 5 (r.2.map ar.D))::cH (cv m ln) lp (.buf 3 [jD.D ⟨w,facts,.own nx 5 0 r.2.length⟩])⟩)
  (hw:bX ((under t key u).at 3) af.body (ko af (Fl w facts r)) (fh af [.ptr 0 3 0 0,.aA]) ⟨3,[(0,.buf 3 [jD.D ⟨w,facts,.own 1 5 0 rows.length⟩]),(1,.buf 5 (rows.map ar.D))]⟩):kv P ν cn (under t key u) fid [.ptr lp 3 0 0,.aA] ⟨nx,m⟩ K:=by
 have n1:lp≠ln:=by
  rintro rfl;rw[h1]at h2;exact absurd (bz.buf.inj (ba h2)).1 bJ
 have b1:=eo n1;have b4:=eo n1.symm;have r1:eP 0 [(lp,0),(ln,1)] ln=some 1:=by simp only[eP,b1,cond_false,Nat.beq_refl,cond_true]
 have g3:ez 0 3 [(lp,0),(ln,1)]=true:=by simp[ez,b4,Nat.blt];exact rfl
 have g4:∀l i,(l,i)∈[(lp,0),(ln,1)]->look m l≠none:=by
  intro l i h;simp only[dq,dP,dR,or_false]at h;rcases h with⟨rfl,_⟩|⟨rfl,_⟩<;>simp[h1,h2]
 have g5:∀i b,look [(0,bz.buf 3 [jD.D ⟨w,facts,.own 1 5 0 rows.length⟩]),(1,.buf 5 (rows.map ar.D))] i=some b->∃l b',(l,i)∈[(lp,0),(ln,1)]/\look m l=some b'/\lK 0 [(lp,0),(ln,1)] b' b:=by
  intro i b h;simp only[look]at h;split at h
  .rename_i e;subst e;obtain rfl:=ba h;exact⟨lp,_,.head _,h1,rfl,.inr (.inl (by simp only[jD.D,gS,jE,pT,r1]))⟩
  .split at h
   .rename_i e;subst e;obtain rfl:=ba h;exact⟨ln,_,.tail _ (.head _),h2,rfl,.inl ⟨rfl,bP (fun _=>rfl) _⟩⟩
   .cases h
 refine pH (σi:=[(lp,0),(ln,1)]) (cs:=[.ptr 0 3 0 0,.aA]) (fun q=>ox t key u q) hmix hC rfl ?_ hnp g3 g4 g5 hw fun d m1 h=>yV h1 hx.1 h _ _ _ g3 (.head _) g4 g5 (fun l b hl hl2 h=>?_) hK
 .intro i hi
  match i,hi with
  |0,_=>exact .inr (.inl (by simp[jE,pT,eP]))
  |1,_=>exact .inl ⟨rfl,rfl⟩
 .rw[gA]at h;split at h
  .cases h
  .rename_i e2;refine⟨h,fun i hi=>?_⟩;simp only[dq,dP,dR,or_false]at hi;rcases hi with⟨e,_⟩|⟨e,_⟩
   .exact hl e
   .exact e2 e
end
def LO (ds:List D)(st:St):Nat:=match ds with
 |[.ptr l _ _ _,c]=>(match look st.m l with
  |some (.buf _ [.agg (.sl _ us::_)])=>us.length-(match c with
   | .own _ _ _ n=>n
   |_=>0)
  |_=>0)
 |_=>0
def B9 {w:bI}{facts:List ar}{x:D}{lp lc n nx:Nat}{m:List (Nat×bz)}(h:look m lp=some (.buf 3 [jD.D ⟨w,facts,x⟩])):LO [.ptr lp 3 0 0,.own lc 1 0 n] ⟨nx,m⟩=w.us.length-n:=by
 simp only[LO,h,jD.D,aS]
def B8 {w:bI}{facts:List ar}{x:D}{lp nx:Nat}{m:List (Nat×bz)}(h:look m lp=some (.buf 3 [jD.D ⟨w,facts,x⟩])):LO [.ptr lp 3 0 0,.aA] ⟨nx,m⟩=w.us.length:=by
 simp only[LO,h,jD.D,aS,Nat.sub_zero]
def I8 {w:bI}{facts rows:List ar}{c:List Int}:iT 2 1 (c.map (D.int .i64)) (cv [(0,bz.buf 3 [jD.D ⟨w,facts,.own 1 5 0 rows.length⟩]),(1,.buf 5 (rows.map ar.D)),(2,.buf 1 (c.map (D.int .i64)))] 2)=[(0,bz.buf 3 [jD.D ⟨w,facts,.own 1 5 0 rows.length⟩]),(1,.buf 5 (rows.map ar.D))]:=by
 simp[cv,iT,jM,fA,eO,jD.D,eV]
end
section
section
variable [dc] {P:Program} {ν:List (Nat×Nat)} {cn:List Nat} {t:List (Nat×k9)} {fid n key u k:Nat} {af:aE} {nx:Nat} {m:List (Nat×bz)} {K:D->St->Prop}
def y4 {lo kk n n':Nat}{es es' WW:List D}{Q:D->List (Nat×bz)->Prop}(hes:aL es=true)(hes':aL es'=true)(has:aL WW=true)(hmix:P.follows .mixedOrders=true)(hC:Ab P ν cn fid af)(hnp:WW.length+1=af.np)
  (h1:look m lo=some (.buf k es)) (hlo:lo<nx) (hQ:∀d m,Q d m->∃j,d=.own j kk 0 n'/\look m j=some (.buf kk es')) (hK:K (.own nx kk 0 n') ⟨nx+1,(nx,.buf kk es')::cv m lo⟩)
  (hw:bX ((under t key u).at 1) af.body (ko af Q) (fh af (.own 0 k 0 n::WW)) ⟨1,[(0,.buf k es)]⟩):kv P ν cn (under t key u) fid (.own lo k 0 n::WW) ⟨nx,m⟩ K:=by
 have g3:ez 0 1 [(lo,0)]=true:=by simp[ez]
 have g4:∀l i,(l,i)∈[(lo,0)]->look m l≠none:=by
  intro l i h;obtain⟨rfl,rfl⟩:=Prod.mk.inj (bl.1 h);rw[h1];simp
 have g5:∀i b,look [(0,bz.buf k es)] i=some b->∃l b',(l,i)∈[(lo,0)]/\look m l=some b'/\lK 0 [(lo,0)] b' b:=by
  intro i b h;simp only[look]at h;split at h
  .rename_i e;subst e;obtain rfl:=ba h;exact⟨lo,_,.head _,h1,rfl,.inl ⟨rfl,hes⟩⟩
  .cases h
 refine pH (σi:=[(lo,0)]) (cs:=.own 0 k 0 n::WW) (fun q=>ox t key u q) hmix hC bc ?_ (by simpa using hnp) g3 g4 g5 hw ?_
 .intro i hi
  match i with
  |0=>exact .inr (.inl (by simp[jE,pT,eP]))
  |i+1=>exact .inl ⟨rfl,cq has i⟩
 .intro d m1 h;obtain⟨j,rfl,hj⟩:=hQ d m1 h;refine⟨[(j,nx)],j+1,_,_,⟨g3, ?_,Nat.le_succ _,g4, ?_,g5, ?_⟩,.inr (.inl (by simp[jE,pT,eP])),hK⟩
  .simp[ez]
  .intro i l h;obtain⟨rfl,rfl⟩:=Prod.mk.inj (bl.1 h);exact .inr (aJ _)
  .intro l bb h;simp only[look]at h;split at h
   .rename_i e;subst e;obtain rfl:=ba h;exact .inl ⟨j,_,.head _,hj,rfl,.inl ⟨rfl,hes'⟩⟩
   .rename_i hn;rw[gA]at h;split at h
    .cases h
    .rename_i hl;refine .inr ⟨by simp only[ju,ai hn],fun i hi=>?_,h⟩;exact hl (Prod.mk.inj (bl.1 hi)).1
def xy {lo n:Nat}{es WW:List D}{v:D}{Q:D->List (Nat×bz)->Prop}(hes:aL es=true)(hv:v.a8=true)(has:aL WW=true)(hmix:P.follows .mixedOrders=true)(hC:Ab P ν cn fid af)(hnp:WW.length+1=af.np)
  (h1:look m lo=some (.buf k es)) (hlo:lo<nx) (hQ:∀d m,Q d m->d=v) (hK:K v ⟨nx,cv m lo⟩)
  (hw:bX ((under t key u).at 1) af.body (ko af Q) (fh af (.own 0 k 0 n::WW)) ⟨1,[(0,.buf k es)]⟩):kv P ν cn (under t key u) fid (.own lo k 0 n::WW) ⟨nx,m⟩ K:=by
 have g3:ez 0 1 [(lo,0)]=true:=by simp[ez]
 have g4:∀l i,(l,i)∈[(lo,0)]->look m l≠none:=by
  intro l i h;obtain⟨rfl,rfl⟩:=Prod.mk.inj (bl.1 h);rw[h1];simp
 have g5:∀i b,look [(0,bz.buf k es)] i=some b->∃l b',(l,i)∈[(lo,0)]/\look m l=some b'/\lK 0 [(lo,0)] b' b:=by
  intro i b h;simp only[look]at h;split at h
  .rename_i e;subst e;obtain rfl:=ba h;exact⟨lo,_,.head _,h1,rfl,.inl ⟨rfl,hes⟩⟩
  .cases h
 refine pH (σi:=[(lo,0)]) (cs:=.own 0 k 0 n::WW) (fun q=>ox t key u q) hmix hC bc ?_ (by simpa using hnp) g3 g4 g5 hw ?_
 .intro i hi
  match i with
  |0=>exact .inr (.inl (by simp[jE,pT,eP]))
  |i+1=>exact .inl ⟨rfl,cq has i⟩
 .intro d m1 h;have hd:=hQ d m1 h;refine⟨[],1,⟨nx,cv m lo⟩,v,⟨g3,rfl,aJ _,g4,(fun _ _ h=>by cases h),g5, ?_⟩,.inl ⟨hd.symm,by rw[hd];exact hv⟩,hK⟩;intro l bb h;simp only at h;rw[gA]at h;split at h
  .cases h
  .rename_i hl;refine .inr ⟨rfl,fun i hi=>?_,h⟩;exact hl (Prod.mk.inj (bl.1 hi)).1
def Hv {g g':Gs}{xs:List CW}{kk lc:Nat}{E:List D}{v:D}{Q:D->List (Nat×bz)->Prop}(hv:v.a8=true)(hE:aL E=true)(hmix:P.follows .mixedOrders=true)(hC:Ab P ν cn fid af)(hnp:2=af.np)
  (hn:lc≠0/\lc≠10/\lc<nx/\11<=nx) (h0:look m 0=some (.buf 2 [g.D])) (h1:look m lc=some (.buf 8 (xs.map (CW.D 10)))) (h10:look m 10=some (.buf kk E)) (hK:K v ⟨nx,cH m 0 (.buf 2 [g'.D])⟩)
  (hQ:∀d m1,Q d m1->d=v/\look m1 0=some (.buf 2 [g'.D])/\look m1 1=some (.buf 8 (xs.map (CW.D 10)))/\look m1 10=some (.buf kk E))
  (hw:bX ((under t key u).at 11) af.body (ko af Q) (fh af [.ptr 0 2 0 0,.own 1 8 0 xs.length]) ⟨11,[(0,.buf 2 [g.D]),(1,.buf 8 (xs.map (CW.D 10))),(10,.buf kk E)]⟩):kv P ν cn (under t key u) fid [.ptr 0 2 0 0,.own lc 8 0 xs.length] ⟨nx,m⟩ K:=by
 have b1:=eo hn.1;have b2:=eo hn.2.1;have b3:=eo (Ne.symm hn.1);have b4:=eo (Ne.symm hn.2.1);have r10:eP 0 [(0,0),(lc,1),(10,10)] 10=some 10:=by simp only[eP,b2,cond_false];rfl
 have o10:eP 0 [(0,0),(1,lc),(10,10)] 10=some 10:=rfl;have g3:ez 0 11 [(0,0),(lc,1),(10,10)]=true:=by simp[ez,b1,b2,b3,b4,Nat.blt];exact⟨⟨rfl,rfl⟩,rfl⟩
 have g4:∀l i,(l,i)∈[(0,0),(lc,1),(10,10)]->look m l≠none:=by
  intro l i h;simp only[dq,dP,dR,or_false]at h;rcases h with⟨rfl,_⟩|⟨rfl,_⟩|⟨rfl,_⟩<;>simp[h0,h1,h10]
 have g5:∀i b,look [(0,bz.buf 2 [g.D]),(1,.buf 8 (xs.map (CW.D 10))),(10,.buf kk E)] i=some b->∃l b',(l,i)∈[(0,0),(lc,1),(10,10)]/\look m l=some b'/\lK 0 [(0,0),(lc,1),(10,10)] b' b:=by
  intro i b h;simp only[look]at h;split at h
  .rename_i e;subst e;obtain rfl:=ba h;exact⟨0,_,.head _,h0,rfl,.inl ⟨rfl,rfl⟩⟩
  .split at h
   .rename_i e;subst e;obtain rfl:=ba h;exact⟨lc,_,.tail _ (.head _),h1,rfl,.inr (.inl (di r10 xs))⟩
   .split at h
    .rename_i e;subst e;obtain rfl:=ba h;exact⟨10,_,.tail _ (.tail _ (.head _)),h10,rfl,.inl ⟨rfl,hE⟩⟩
    .cases h
 refine pH (σi:=[(0,0),(lc,1),(10,10)]) (cs:=[.ptr 0 2 0 0,.own 1 8 0 xs.length]) (fun q=>ox t key u q) hmix hC rfl ?_ hnp g3 g4 g5 hw ?_
 .intro i hi
  match i,hi with
  |0,_=>exact .inr (.inl (by simp[jE,pT,eP]))
  |1,_=>exact .inr (.inl (by simp[jE,pT,eP,b3]))
 .intro d m1 h;obtain⟨hd,q0,q1,q10⟩:=hQ d m1 h;refine⟨[(0,0),(1,lc),(10,10)],11,⟨nx,cH m 0 (.buf 2 [g'.D])⟩,v,⟨g3, ?_,aJ _,g4, ?_,g5, ?_⟩,.inl ⟨hd.symm,by rw[hd];exact hv⟩,hK⟩
  .simp only[ez,List.all_cons,List.all_nil,b1,b2,b3,b4,Bool.not_false,eL,nJ,Nat.blt,bp,Nat.ble_eq];repeat' first|exact rfl|exact Nat.zero_le _|omega|refine And.intro ?_ ?_
  .intro i l h;simp only[dq,dP,dR,or_false]at h;rcases h with⟨rfl,rfl⟩|⟨rfl,rfl⟩|⟨rfl,rfl⟩
   .exact .inl (.head _)
   .exact .inl (.tail _ (.head _))
   .exact .inl (.tail _ (.tail _ (.head _)))
  .intro l bb h;simp only at h;rw[cT]at h;split at h
   .rename_i e;subst e;obtain rfl:=ba h;exact .inl ⟨0,_,.head _,q0,rfl,.inl ⟨rfl,rfl⟩⟩
   .rename_i e0;by_cases e1:l=lc
    .subst e1;rw[h1]at h;obtain rfl:=ba h;exact .inl ⟨1,_,.tail _ (.head _),q1,rfl,.inr (.inl (di o10 xs))⟩
    .by_cases e2:l=10
     .subst e2;rw[h10]at h;obtain rfl:=ba h;exact .inl ⟨10,_,.tail _ (.tail _ (.head _)),q10,rfl,.inl ⟨rfl,hE⟩⟩
     .refine .inr ⟨by simp only[ju,ai (fun e=>e0 (Eq.symm e)),ai (fun e=>e1 (Eq.symm e)),ai (fun e=>e2 (Eq.symm e))],fun i hi=>?_,h⟩;simp only[dq,dP,dR,or_false]at hi;rcases hi with⟨h,_⟩|⟨h,_⟩|⟨h,_⟩
      .exact e0 h
      .exact e1 h
      .exact e2 h
end
end
section
def EY:List (Nat×Nat):=[(0,0),(1,1),(2,2),(3,3),(4,4),(5,5),(6,6),(7,7),(8,8),(9,9),(10,10)]
def xd {l i:Nat}(h:(l,i)∈EY):i=l/\l<=10:=by
 simp only[EY,dq,dP,dR,or_false]at h;omega
def IW:∀l,l<11->(l,l)∈EY:=bJ
def tm {l:Nat}(h:l<=10):(l,l)∈EY:=IW l ae
def uI {m:List (Nat×bz)}{g:Gs}{n:Nat}{nm ft:Nat->dk}{cs:Nat->List CW}{kk:Nat}{E:List D}(hn:n<=8)(hE:aL E=true)(h:IB m g n nm ft cs kk E){l:Nat}(h1:1<=l)(h10:l<=10):∃b,(∀m2 g2,IB m2 g2 n nm ft cs kk E->look m2 l=some b)/\lK 0 EY b b:=by
 rcases cJ l 2 with h2|h2
 .obtain rfl:l=1:=ae;exact⟨_,fun m2 g2 w=>w.2.1,rfl,.inr (.inl (iL _ fun j hj=>ew ae))⟩
 .rcases cJ l 10 with h3|h3
  .obtain⟨j,rfl⟩:∃j,l=2+j:=⟨l-2,ae⟩
   exact⟨_,fun m2 g2 w=>w.2.2.1 j ae,rfl,.inr (.inl (di rfl _))⟩
  .obtain rfl:l=10:=ae;exact⟨_,fun m2 g2 w=>w.2.2.2,rfl,.inl ⟨rfl,hE⟩⟩
section
variable [dc] {P:Program} {ν:List (Nat×Nat)} {cn:List Nat} {t:List (Nat×k9)} {fid key u k:Nat} {af:aE} {nx:Nat} {m:List (Nat×bz)} {K:D->St->Prop}
def zL {g g':Gs}{n c:Nat}{nm ft:Nat->dk}{cs:Nat->List CW}{kk:Nat}{E WW:List D}{v:D}{m0:List (Nat×bz)}{Q:D->List (Nat×bz)->Prop}(hv:v.a8=true)(hE:aL E=true)(has:aL WW=true)(hn:n<=8)(hmix:P.follows .mixedOrders=true)(hC:Ab P ν cn fid af)(hnp:WW.length+2=af.np)
  (hx:11<=nx) (hw:IB m g n nm ft cs kk E) (h0:IB m0 g n nm ft cs kk E) (hm0:∀i,11<=i->look m0 i=none) (hK:K v ⟨nx,cH m 0 (.buf 2 [g'.D])⟩) (hQ:∀d m1,Q d m1->d=v/\IB m1 g' n nm ft cs kk E)
  (hwp:bX ((under t key u).at 11) af.body (ko af Q) (fh af (.ptr 0 2 0 0::.own 1 3 0 c::WW)) ⟨11,m0⟩):kv P ν cn (under t key u) fid (.ptr 0 2 0 0::.own 1 3 0 c::WW) ⟨nx,m⟩ K:=by
 have g4:∀l i,(l,i)∈EY->look m l≠none:=by
  intro l i h;obtain⟨_,hl⟩:=xd h;rcases Nat.eq_zero_or_pos l with rfl|hp
  .rw[hw.1];simp
  .obtain⟨b,hb,_⟩:=uI hn hE hw hp hl;rw[hb _ _ hw];simp
 have g5:∀i b,look m0 i=some b->∃l b',(l,i)∈EY/\look m l=some b'/\lK 0 EY b' b:=by
  intro i b h;rcases cJ i 11 with hi|hi
  .rcases Nat.eq_zero_or_pos i with rfl|hp
   .rw[h0.1]at h;obtain rfl:=ba h;exact⟨0,_,tm ae,hw.1,rfl,.inl ⟨rfl,rfl⟩⟩
   .obtain⟨b2,hb,hr⟩:=uI hn hE hw hp ae;rw[hb _ _ h0]at h;obtain rfl:=ba h;exact⟨i,_,tm ae,hb _ _ hw,hr⟩
  .rw[hm0 i hi]at h;cases h
 refine pH (σi:=EY) (cs:=.ptr 0 2 0 0::.own 1 3 0 c::WW) (fun q=>ox t key u q) hmix hC rfl ?_ (by simpa using hnp) rfl g4 g5 hwp ?_
 .intro i hi
  match i with
  |0=>exact .inr (.inl rfl)
  |1=>exact .inr (.inl rfl)
  |i+2=>exact .inl ⟨rfl,cq has i⟩
 .intro d m1 h;obtain⟨hd,q⟩:=hQ d m1 h;refine⟨EY,11,⟨nx,cH m 0 (.buf 2 [g'.D])⟩,v,⟨rfl, ?_,aJ _,g4, ?_,g5, ?_⟩,.inl ⟨hd.symm,by rw[hd];exact hv⟩,hK⟩
  .simp only[EY,ez,Nat.blt,bp,Nat.ble_eq];repeat' first|exact rfl|exact Nat.zero_le _|omega|refine And.intro ?_ ?_
  .intro i l h;obtain⟨rfl,hl⟩:=xd h;exact .inl (tm hl)
  .intro l bb h;simp only at h;rw[cT]at h;split at h
   .rename_i e;subst e;obtain rfl:=ba h;exact .inl ⟨0,_,tm ae,q.1,rfl,.inl ⟨rfl,rfl⟩⟩
   .rename_i e0;rcases cJ l 11 with hl|hl
    .obtain⟨b2,hb,hr⟩:=uI hn hE hw (show 1<=l by omega) ae;rw[hb _ _ hw]at h;obtain rfl:=ba h;exact .inl ⟨l,_,tm ae,hb _ _ q,hr⟩
    .refine .inr ⟨?_,fun i hi=>by have:=(xd hi).2;omega,h⟩;simp only[EY,ju];repeat(rw[ai ae])
end
end
section
def Hw (nx:Nat):List (Nat×Nat):=[(0,0),(1,nx),(2,nx+1),(3,nx+2),(4,nx+3),(5,nx+4),(6,nx+5),(7,nx+6),(8,nx+7),(9,nx+8)]
def JH {nx l i:Nat}(h:(i,l)∈Hw nx):i=0/\l=0\/nx<=l:=by
 simp only[Hw,dq,dP,dR,or_false]at h;omega
def Mr {nx j:Nat}(h:j<8):eP 0 (Hw nx) (2+j)=some (nx+1+j):=by
 match j,h with
 |0,_|1,_|2,_|3,_|4,_|5,_|6,_|7,_=>rfl
def Mq {nx j:Nat}(h:j<8):(2+j,nx+1+j)∈Hw nx:=by
 match j,h with
 |0,_|1,_|2,_|3,_|4,_|5,_|6,_|7,_=>simp[Hw]
def Iz {nx:Nat}{us:List RU}(h:us.length<=8):gS 0 (Hw nx) (vE us)=some (MF (nx+1) us):=by
 unfold vE UB MF;have h2:∀j∈List.range us.length,eP 0 (Hw nx) (2+j)=some (nx+1+j):=fun j hj=>Mr (by have:=List.mem_range.1 hj;omega)
 revert h2;generalize List.range us.length=r;intro h2;induction r with
 |nil=>rfl
 |cons a r ih=>
  have:=h2 a (.head _);simp only[List.map_cons,gS,UD,jE,pT,this,ih fun j hj=>h2 j (.tail _ hj)]
def IA {g:Gs}{us:List RU}{j:Nat}(h:j<8):look (UM g us) (2+j)=some (.buf 8 (us[j]!.cs.map (CW.D 10))):=by
 match j,h with
 |0,_|1,_|2,_|3,_|4,_|5,_|6,_|7,_=>rfl
def Fo {nx l:Nat}{us:List RU}{r:List (Nat×bz)}{b:bz}(h:look (MG nx us++r) l=some b):l=nx/\b=.buf 3 (MF (nx+1) us)\/(∃j,j<8/\l=nx+1+j/\b=.buf 8 (us[j]!.cs.map (CW.D 10)))\/(l<nx\/nx+8<l)/\look r l=some b:=by
 simp only[MG,pj,uO,look]at h;split at h
 .exact .inl ⟨ae,(ba h).symm⟩
 split at h
 .exact .inr (.inl ⟨0,bJ,ae,(ba h).symm⟩)
 split at h
 .exact .inr (.inl ⟨1,bJ,ae,(ba h).symm⟩)
 split at h
 .exact .inr (.inl ⟨2,bJ,ae,(ba h).symm⟩)
 split at h
 .exact .inr (.inl ⟨3,bJ,ae,(ba h).symm⟩)
 split at h
 .exact .inr (.inl ⟨4,bJ,ae,(ba h).symm⟩)
 split at h
 .exact .inr (.inl ⟨5,bJ,ae,(ba h).symm⟩)
 split at h
 .exact .inr (.inl ⟨6,bJ,ae,(ba h).symm⟩)
 split at h
 .exact .inr (.inl ⟨7,bJ,ae,(ba h).symm⟩)
 exact .inr (.inr ⟨ae,h⟩)
def uD (g:Gs)(few:Int):(dZ g few).1.length<=8/\∀u∈(dZ g few).1,u.pl:=by
 obtain⟨more,e,hm,hl,_,_⟩:=wB (g:=g) (few:=few);rw[e];refine⟨by simp only[rY,cD,List.length_singleton];omega,fun u hu=>?_⟩;rcases List.mem_append.1 hu with h|h
 .obtain rfl:=bl.1 h;intro c hc;obtain rfl:=bl.1 hc;rfl
 .obtain⟨vs,e,_⟩:=hm u h;intro c hc;rw[e]at hc;exact eK vs c hc
def zM {a b c d e f g h i j k:bz}{l:Nat}(hl:11<=l):look [(0,a),(1,b),(2,c),(3,d),(4,e),(5,f),(6,g),(7,h),(8,i),(9,j),(10,k)] l=none:=by
 simp only[look];repeat rw[ai ae]
section
variable [dc] {P:Program} {ν:List (Nat×Nat)} {cn:List Nat} {t:List (Nat×k9)} {fid key u k:Nat} {af:aE} {nx:Nat} {m:List (Nat×bz)} {K:D->St->Prop}
def Bs {g g1:Gs}{us:List RU}{WW:List D}{Q:D->List (Nat×bz)->Prop}(has:aL WW=true)(hpl:∀u∈us,u.pl)(hl8:us.length<=8)(hmix:P.follows .mixedOrders=true)(hC:Ab P ν cn fid af)(hnp:WW.length+1=af.np)
  (h0:look m 0=some (.buf 2 [g.D])) (hx:0<nx) (hQ:∀d m1,Q d m1->d=.own 1 3 0 us.length/\m1=UM g1 us) (hK:K (.own nx 3 0 us.length) ⟨nx+9,MG nx us++cH m 0 (.buf 2 [g1.D])⟩)
  (hw:bX ((under t key u).at 1) af.body (ko af Q) (fh af (.ptr 0 2 0 0::WW)) ⟨1,[(0,.buf 2 [g.D])]⟩):kv P ν cn (under t key u) fid (.ptr 0 2 0 0::WW) ⟨nx,m⟩ K:=by
 have g3:ez 0 1 [(0,0)]=true:=rfl;have g4:∀l i,(l,i)∈[(0,0)]->look m l≠none:=by
  intro l i h;obtain⟨rfl,rfl⟩:=Prod.mk.inj (bl.1 h);rw[h0];simp
 have g5:∀i b,look [(0,bz.buf 2 [g.D])] i=some b->∃l b',(l,i)∈[(0,0)]/\look m l=some b'/\lK 0 [(0,0)] b' b:=by
  intro i b h;simp only[look]at h;split at h
  .rename_i e;subst e;obtain rfl:=ba h;exact⟨0,_,.head _,h0,rfl,.inl ⟨rfl,rfl⟩⟩
  .cases h
 refine pH (σi:=[(0,0)]) (cs:=.ptr 0 2 0 0::WW) (fun q=>ox t key u q) hmix hC bc ?_ (by simpa using hnp) g3 g4 g5 hw ?_
 .intro i hi
  match i with
  |0=>exact .inr (.inl rfl)
  |i+1=>exact .inl ⟨rfl,cq has i⟩
 .intro d m1 h;obtain⟨rfl,rfl⟩:=hQ d m1 h;refine⟨Hw nx,10,⟨nx+9,MG nx us++cH m 0 (.buf 2 [g1.D])⟩,_,⟨g3, ?_,(Nat.le_add_right _ _:nx<=nx+9),g4, ?_,g5, ?_⟩,.inr (.inl rfl),hK⟩
  .have z:∀i,Nat.beq 0 (i+1)=false:=fun i=>rfl
   simp only[Hw,ez,List.all_cons,List.all_nil,bp,ey,Nat.blt,Nat.ble_eq];repeat' first|exact trivial|exact rfl|exact Nat.zero_le _|(exact eo ae)|omega|refine And.intro ?_ ?_
  .intro i l h;rcases JH h with⟨rfl,rfl⟩|h
   .exact .inl (.head _)
   .exact .inr h
  .intro l bb h5;rcases Fo h5 with⟨rfl,rfl⟩|⟨j,hj,rfl,rfl⟩|⟨hl,h6⟩
   .exact .inl ⟨1,.buf 3 (vE us),by simp[Hw],rfl,rfl,.inr (.inl (Iz hl8))⟩
   .exact .inl ⟨2+j,_,Mq hj,IA hj,rfl,.inl ⟨rfl,iF hpl j⟩⟩
   .clear h5;rw[cT]at h6;split at h6
    .rename_i e;subst e;obtain rfl:=ba h6;exact .inl ⟨0,.buf 2 [g1.D],.head _,rfl,rfl,.inl ⟨rfl,rfl⟩⟩
    .rename_i e0;refine .inr ⟨?_,fun i hi=>?_,h6⟩
     .simp only[Hw,ju];repeat(rw[ai ae])
     .obtain⟨e,_⟩:=Prod.mk.inj (bl.1 hi);omega
end
end
end Go.Abs
section
namespace Go.Abs
def ah {p:Prop}(h:p:=by exact rfl):p:=h
def Jl {p:Prop}(h:p:=by repeat(first|exact aI.nil|refine aI.un ?_|refine aI.eq ct ?_)):p:=h
def dx {p:Prop}(h:p:=by first|exact rfl|exact bP (fun _=>rfl) _):p:=h
def oZ {p:Prop}(h:p:=by repeat(first|exact aI.nil|refine aI.un ?_|refine aI.eq ct ?_|refine aI.nl ct ct ?_)):p:=h
def kS {p:Prop}(h:p:=by repeat' first|exact trivial|exact rfl|refine And.intro ?_ ?_):p:=h
def y8 {p:Prop}(h:p:=by repeat' first|exact trivial|exact rfl|exact aJ _|refine And.intro ?_ ?_):p:=h
def qqq1 {p:Prop}(h:p:=by repeat(first|exact aH.nil|refine aH.gF ct ct (by first|exact rfl|exact bP (fun _=>rfl) _) ?_|refine aH.ei ct ct ct ?_|refine aH.rr ct ct ct ct ?_)):p:=h
def b0 {p:Prop} [Decidable p]:(decide p=true)=p:=b9
def b1 {p:Prop} [Decidable p]:decide p=false↔¬p:=dG
def b2 (b:Bool):((!b)=true)=(b=false):=ey b
def b3 (b:Bool):((!b)=false)=(b=true):=qd b
def b4 (b:Bool):(¬(b=false))=(b=true):=Bool.not_eq_false b
def b5 (a b:Bool):((a ||b)=true)=(a=true\/b=true):=ek a b
def b6 {a b:Bool}:(a ||b)=false↔a=false/\b=false:=iG
end Go.Abs
namespace Go.Abs
abbrev dK (Y:Ctx)(a:aE)(d:D)(ds:List D):Prop:=bX (Y.at 0) a.body (ME a d) (fh a ds) ⟨0,[]⟩
def c9 {a:aE}{d d2:D}{e:Ex}{nx:Nat}{m:List (Nat×bz)}{env:List bH}(h:d2=d)(he:e.home:=by exact trivial)(h1:nB m env a.res:=by exact y8)(h2:zT a env m:=by exact kS)(h3:HQ a env m=d2:=by exact rfl):ME a d e env ⟨nx,m⟩:=Hq he h1 h2 (h3.trans h)
def bZ {a:aE}{d d2:Bool}{e:Ex}{nx:Nat}{m:List (Nat×bz)}{env:List bH}(h:d2=d)(he:e.home:=by exact trivial)(h1:nB m env a.res:=by exact y8)(h2:zT a env m:=by exact kS)(h3:HQ a env m=.bool d2:=by exact rfl):ME a (.bool d) e env ⟨nx,m⟩:=c9 (bM _ h) he h1 h2 h3
def cP {a:aE}{d d2:Int}{e:Ex}{nx:Nat}{m:List (Nat×bz)}{env:List bH}(h:d2=d)(he:e.home:=by exact trivial)(h1:nB m env a.res:=by exact y8)(h2:zT a env m:=by exact kS)(h3:HQ a env m=.int .i64 d2:=by exact rfl):ME a (.int .i64 d) e env ⟨nx,m⟩:=c9 (bM _ h) he h1 h2 h3
def fC {lo c nx nx2:Nat}{env env2:List bH}{m m2:List (Nat×bz)}(σ:List (Nat×Nat))(hc:nx2=c:=by exact ah)(h:ez lo c σ=true:=by exact ah)(he:aI lo σ env env2:=by exact oZ)(hm:aH lo c σ m m2:=by exact qqq1):aP lo env ⟨nx,m⟩ env2 ⟨nx2,m2⟩:=aP.to σ hc h he hm
end Go.Abs
namespace Go.Abs
def jh {lo c l:Nat}{σ:List (Nat×Nat)}{m r:List (Nat×bz)}{b:bz}(h:aH lo c σ m r)(hh:aH lo c σ m [(l,b)]:=by(first|refine aH.gF ct ct (by first|exact rfl|exact bP (fun _=>rfl) _) ?_|refine aH.ei ct ct ct ?_|refine aH.rr ct ct ct ct ?_)<;>exact aH.nil):aH lo c σ m ((l,b)::r):=⟨hh.1,h⟩
end Go.Abs
namespace Go.Abs
section
variable {Y:Ctx} {Q:Ex->List bH->St->Prop}
def cmN {env rs:List bH}:FH env rs []=env:=rfl
def cmC {s p:Nat}{r:List (Nat×Nat)}{env rs env1 env':List bH}{f:Bool}{d:D}(e:cE [] rs (.l p)=⟨f,d⟩)(hs:env.set s ⟨f,d⟩=env1)(h:FH env1 rs r=env'):FH env rs ((s,p)::r)=env':=by
 simp only[FH,e,hs,h]
def rrrg {draw:Bool}{cm:List (Nat×Nat)}{b:AC}{nx nx':Nat}{m:List (Nat×bz)}{rs env fh env':List bH}(h:bX Y b Q env' ⟨nx',m⟩)
  (he:FH env rs cm=env':=by repeat(first|apply cmC ct (by simp only[List.set_cons_zero,List.set_cons_succ];exact rfl)|with_reducible exact cmN)) (hn:nx+rs.length=nx':=by simp only[bR,cd,Nat.reduceAdd];exact rfl):aC Y draw [] fh rs nx m (fun vs st'=>bX Y b Q (fg env vs cm) st'):=
 Jr h he hn
def rrrh {draw:Bool}{cm:List (Nat×Nat)}{nx nx':Nat}{m:List (Nat×bz)}{rs env fh env':List bH}(h:Q .normal env' ⟨nx',m⟩)
  (he:FH env rs cm=env':=by repeat(first|apply cmC ct (by simp only[List.set_cons_zero,List.set_cons_succ];exact rfl)|with_reducible exact cmN)) (hn:nx+rs.length=nx':=by simp only[bR,cd,Nat.reduceAdd];exact rfl):aC Y draw [] fh rs nx m (fun vs st'=>Q .normal (fg env vs cm) st'):=
 Js h he hn
end
def Fam (_:Prop):Type:=Unit
def vi {q:Prop}:Fam q:=()
structure Hid (q:Prop)(f:Fam q):Prop where
 val:q
section
variable {Y:Ctx} {draw b1:Bool} {r:List GI} {env rs:List bH} {nx n0 n1:Nat} {m:List (Nat×bz)} {K:List bH->St->Prop} {g:Option (Nat×Bool)} {x0 x1 x2:Src}
def tg0 {Y:Ctx}{a:AC}{Q:Ex->List bH->St->Prop}{env:List bH}{st:St}(h:bX Y a Q env st):bX Y a Q env st:=h
def tg1 (h:aC Y draw (⟨.mv x0,g⟩::r) env rs nx m K):aC Y draw (⟨.mv x0,g⟩::r) env rs nx m K:=h
def tg2 (h:aC Y draw [] env rs nx m K):aC Y draw [] env rs nx m K:=h
def tg3 (h:aC Y draw (⟨.fa n0 x1,g⟩::r) env rs nx m K):aC Y draw (⟨.fa n0 x1,g⟩::r) env rs nx m K:=h
def tg4 (h:aC Y draw (⟨.ld n0 b1 x2,g⟩::r) env rs nx m K):aC Y draw (⟨.ld n0 b1 x2,g⟩::r) env rs nx m K:=h
def tg5 (h:aC Y draw (⟨.bin .lss x0 x1,g⟩::r) env rs nx m K):aC Y draw (⟨.bin .lss x0 x1,g⟩::r) env rs nx m K:=h
def tg6 (h:aC Y draw (⟨.bin .eql x0 x1,g⟩::r) env rs nx m K):aC Y draw (⟨.bin .eql x0 x1,g⟩::r) env rs nx m K:=h
def tg7 (h:aC Y draw (⟨.bin .add x0 x1,g⟩::r) env rs nx m K):aC Y draw (⟨.bin .add x0 x1,g⟩::r) env rs nx m K:=h
def tg8 (h:aC Y draw (⟨.bin .gtr x0 x1,g⟩::r) env rs nx m K):aC Y draw (⟨.bin .gtr x0 x1,g⟩::r) env rs nx m K:=h
def tg9 (h:aC Y draw (⟨.bin .neq x0 x1,g⟩::r) env rs nx m K):aC Y draw (⟨.bin .neq x0 x1,g⟩::r) env rs nx m K:=h
def tg10 (h:aC Y draw (⟨.bin .leq x0 x1,g⟩::r) env rs nx m K):aC Y draw (⟨.bin .leq x0 x1,g⟩::r) env rs nx m K:=h
def tg11 (h:aC Y draw (⟨.bin .geq x0 x1,g⟩::r) env rs nx m K):aC Y draw (⟨.bin .geq x0 x1,g⟩::r) env rs nx m K:=h
def tg12 (h:aC Y draw (⟨.bin .sub x0 x1,g⟩::r) env rs nx m K):aC Y draw (⟨.bin .sub x0 x1,g⟩::r) env rs nx m K:=h
def tg13 (h:aC Y draw (⟨.ext x0 n1,g⟩::r) env rs nx m K):aC Y draw (⟨.ext x0 n1,g⟩::r) env rs nx m K:=h
def tg14 (h:aC Y draw (⟨.pick x0 x1 (.c (.bool false)),g⟩::r) env rs nx m K):aC Y draw (⟨.pick x0 x1 (.c (.bool false)),g⟩::r) env rs nx m K:=h
def tg15 (h:aC Y draw (⟨.pick x0 (.c (.bool true)) x1,g⟩::r) env rs nx m K):aC Y draw (⟨.pick x0 (.c (.bool true)) x1,g⟩::r) env rs nx m K:=h
def tg16 (h:aC Y draw (⟨.un .not x0,g⟩::r) env rs nx m K):aC Y draw (⟨.un .not x0,g⟩::r) env rs nx m K:=h
def tg17 (h:aC Y draw (⟨.nilck x0,g⟩::r) env rs nx m K):aC Y draw (⟨.nilck x0,g⟩::r) env rs nx m K:=h
def tg18 (h:aC Y draw (⟨.box n0 x1,g⟩::r) env rs nx m K):aC Y draw (⟨.box n0 x1,g⟩::r) env rs nx m K:=h
def tg19 (h:aC Y draw (⟨.ia n0 x1 x2,g⟩::r) env rs nx m K):aC Y draw (⟨.ia n0 x1 x2,g⟩::r) env rs nx m K:=h
def tg20 (h:aC Y draw (⟨.ixS x0 x1,g⟩::r) env rs nx m K):aC Y draw (⟨.ixS x0 x1,g⟩::r) env rs nx m K:=h
def tg21 (h:aC Y draw (⟨.st n0 x1 x2,g⟩::r) env rs nx m K):aC Y draw (⟨.st n0 x1 x2,g⟩::r) env rs nx m K:=h
def tg22 (h:aC Y draw (⟨.len x0,g⟩::r) env rs nx m K):aC Y draw (⟨.len x0,g⟩::r) env rs nx m K:=h
def tg23 (h:aC Y draw (⟨.lenS x0,g⟩::r) env rs nx m K):aC Y draw (⟨.lenS x0,g⟩::r) env rs nx m K:=h
def tg24 (h:aC Y draw (⟨.rng x0,g⟩::r) env rs nx m K):aC Y draw (⟨.rng x0,g⟩::r) env rs nx m K:=h
def tg25 (h:aC Y draw (⟨.s2b x0,g⟩::r) env rs nx m K):aC Y draw (⟨.s2b x0,g⟩::r) env rs nx m K:=h
def tg26 (h:aC Y draw (⟨.mkB,g⟩::r) env rs nx m K):aC Y draw (⟨.mkB,g⟩::r) env rs nx m K:=h
def tg27 (h:aC Y draw (⟨.app n0 x1 x2,g⟩::r) env rs nx m K):aC Y draw (⟨.app n0 x1 x2,g⟩::r) env rs nx m K:=h
end
def av {p q:Prop}(k:q)(h:Hid q vi->p:=by
 intro h;first
 |((with_reducible refine tg0 ?_);first|with_reducible exact ak h.1|with_reducible exact HO h.1|with_reducible exact Bv h.1|with_reducible exact MB h.1|with_reducible exact EW h.1|with_reducible exact wp_ret h.1|with_reducible exact wp_skip h.1|with_reducible exact Bu h.1|with_reducible exact wp_exit h.1|with_reducible exact zQ h.1 hm|with_reducible exact EV h.1 hm)
 |((with_reducible refine tg1 ?_);(refine Po ?_;exact h.1))
 |((with_reducible refine tg2 ?_);first|(refine rrrh ?_;exact h.1)|(refine rrrg ?_;exact h.1))
 |((with_reducible refine tg3 ?_);first|(refine Pk ?_;exact h.1)|(refine Pl ?_;exact h.1))
 |((with_reducible refine tg4 ?_);first|exact ay (.int _ _) h.1|exact ay (.str _) h.1|(refine bd (v:=.str _) ?_;exact h.1)|(refine ib (v:=.str _) ?_;exact h.1)|(refine bd (v:=.int _ _) ?_;exact h.1)|(refine ib (v:=.int _ _) ?_;exact h.1)|exact ay (.sl _ _) h.1|exact ay (.own _ _ _ _) h.1|exact ay (.bool _) h.1|(refine bd (v:=.sl _ _) ?_;exact h.1)|(refine ib (v:=.sl _ _) ?_;exact h.1)|(refine bd (v:=.bool _) ?_;exact h.1)|(refine ib (v:=.bool _) ?_;exact h.1)|exact aV h.1|exact ay .aA h.1)
 |((with_reducible refine tg5 ?_);first|(refine A2 ?_;exact h.1)|(refine Mi ?_;exact h.1))
 |((with_reducible refine tg6 ?_);first|(refine L7 ?_;exact h.1)|(refine L8 ?_;exact h.1))
 |((with_reducible refine tg7 ?_);(refine aG ?_;exact h.1))
 |((with_reducible refine tg8 ?_);first|(refine Mb ?_;exact h.1)|(refine Mc ?_;exact h.1))
 |((with_reducible refine tg9 ?_);first|(refine Mj ?_;exact h.1)|(refine Mk ?_;exact h.1))
 |((with_reducible refine tg10 ?_);first|(refine Mg ?_;exact h.1)|(refine Mh ?_;exact h.1))
 |((with_reducible refine tg11 ?_);first|(refine L9 ?_;exact h.1)|(refine Ma ?_;exact h.1))
 |((with_reducible refine tg12 ?_);(refine eS ?_;exact h.1))
 |((with_reducible refine tg13 ?_);first|exact fV (.int _ _) h.1|exact fV (.str _) h.1|exact fV (.bool _) h.1)
 |((with_reducible refine tg14 ?_);(refine Ph ?_;exact h.1))
 |((with_reducible refine tg15 ?_);(refine r_or ?_;exact h.1))
 |((with_reducible refine tg16 ?_);(refine Pp ?_;exact h.1))
 |((with_reducible refine tg17 ?_);first|(refine Ml ?_;exact h.1)|(refine Mm ?_;exact h.1))
 |((with_reducible refine tg18 ?_);(refine Pj ?_;exact h.1))
 |((with_reducible refine tg19 ?_);first|exact bh _ h.1|exact GW h.1|exact eZ _ h.1|exact Md h.1)
 |((with_reducible refine tg20 ?_);first|exact GX _ h.1|exact Me h.1)
 |((with_reducible refine tg21 ?_);exact dA _ h.1)
 |((with_reducible refine tg22 ?_);first|exact GY fun a=>(h.1:_->_) (a rfl rfl)|exact GZ fun a=>(h.1:_->_) (a rfl rfl)|(refine Mf ?_;exact h.1))
 |((with_reducible refine tg23 ?_);exact G0 fun a=>(h.1:_->_) (a rfl rfl))
 |((with_reducible refine tg24 ?_);(refine Pr ?_;exact h.1))
 |((with_reducible refine tg25 ?_);(refine Ps ?_;exact h.1))
 |((with_reducible refine tg26 ?_);(refine Pm ?_;exact h.1))
 |((with_reducible refine tg27 ?_);(refine fm ?_;exact h.1))
 |with_reducible exact BQ.normal h.1|with_reducible exact BQ.ret h.1|with_reducible exact LQ.normal h.1|with_reducible exact LQ.out h.1|with_reducible exact LQ.ret h.1|with_reducible exact BQ.out h.1|with_reducible exact Aa.normal h.1|with_reducible exact Aa.ret h.1|with_reducible exact Ac.normal h.1|with_reducible exact Ac.ret h.1|with_reducible exact Aa.out h.1|with_reducible exact Ac.out h.1|with_reducible exact CQ.normal h.1|with_reducible exact CQ.ret h.1|with_reducible exact CQ.other h.1|((with_reducible refine BQ.other ?_ h.1);exact rfl)|((with_reducible refine LQ.other ?_ h.1);exact rfl)|((with_reducible refine Aa.other ?_ h.1);exact rfl)|((with_reducible refine Ac.other ?_ h.1);exact rfl)):p:=h ⟨k⟩
def mE {p q:Prop}(k:q)(h:Hid q vi->p:=by intro h;first|exact GY fun _=>h.1|exact G0 fun _=>h.1|exact GZ fun _=>h.1):p:=h ⟨k⟩
section
variable {Y:Ctx} {Q:Ex->List bH->St->Prop}
end
def u9:(∀{p:Prop} [Decidable p],(decide p=true)=p)/\(∀{p:Prop} [Decidable p],decide p=false↔¬p)/\(∀b:Bool,((!b)=true)=(b=false))/\(∀b:Bool,((!b)=false)=(b=true))/\(∀b:Bool,(¬(b=false))=(b=true))/\(∀a b:Bool,((a ||b)=true)=(a=true\/b=true))/\(∀{a b:Bool},(a ||b)=false↔a=false/\b=false)/\(∀a b:Bool,((a&&b)=true)=(a=true/\b=true))/\(∀{a b:Bool},(a&&b)=false↔a=false\/b=false)/\(∀b:Bool,(¬(b=true))=(b=false))/\(∀b:Bool,(true&&b)=b)/\∀b:Bool,(b&&true)=b:=
 ⟨b9,dG,ey,qd,Bool.not_eq_false,ek,iG,bp,fI,Bool.not_eq_true,nJ,eL⟩
section
variable {Y:Ctx} {Q:Ex->List bH->St->Prop} {env:List bH} {st:St}
def de {c:Src}{a b r:AC}{t:Bool}{c1 c2:Prop}(h1:c1->bX Y (.seq a r) Q env st)(h2:c2->bX Y (.seq b r) Q env st)(hc:cE env [] c=⟨true,.bool t⟩:=by exact rfl)(e1:t=true->c1:=by intro h;(try simp only[u9]at h);exact h)(e2:t=false->c2:=by intro h;(try simp only[u9]at h);exact h):bX Y (.seq (.cond c a b) r) Q env st:=br (fun h=>h1 (e1 h)) (fun h=>h2 (e2 h)) hc
def gZ {c:Src}{a b:AC}{t:Bool}{c1 c2:Prop}(h1:c1->bX Y a Q env st)(h2:c2->bX Y b Q env st)(hc:cE env [] c=⟨true,.bool t⟩:=by exact rfl)(e1:t=true->c1:=by intro h;(try simp only[u9]at h);exact h)(e2:t=false->c2:=by intro h;(try simp only[u9]at h);exact h):bX Y (.cond c a b) Q env st:=wp_cond (fun h=>h1 (e1 h)) (fun h=>h2 (e2 h)) hc
end
end Go.Abs
namespace Go.Abs
def az {p q:Prop}(k:q)(h:Hid q vi->p:=by intro h;(iterate 2 refine av ?_);exact h.1):p:=h ⟨k⟩
def au {p q:Prop}(k:q)(h:Hid q vi->p:=by intro h;(iterate 3 refine av ?_);exact h.1):p:=h ⟨k⟩
def aR {p q:Prop}(k:q)(h:Hid q vi->p:=by intro h;(iterate 4 refine av ?_);exact h.1):p:=h ⟨k⟩
def aF {p q:Prop}(k:q)(h:Hid q vi->p:=by intro h;(iterate 5 refine av ?_);exact h.1):p:=h ⟨k⟩
def bj {p q:Prop}(k:q)(h:Hid q vi->p:=by intro h;(iterate 6 refine av ?_);exact h.1):p:=h ⟨k⟩
def cN {p q:Prop}(k:q)(h:Hid q vi->p:=by intro h;(iterate 7 refine av ?_);exact h.1):p:=h ⟨k⟩
def iI {p q:Prop}(k:q)(h:Hid q vi->p:=by intro h;(iterate 8 refine av ?_);exact h.1):p:=h ⟨k⟩
def iK {p q:Prop}(k:q)(h:Hid q vi->p:=by intro h;(iterate 9 refine av ?_);exact h.1):p:=h ⟨k⟩
def kn {p q:Prop}(k:q)(h:Hid q vi->p:=by intro h;(iterate 10 refine av ?_);exact h.1):p:=h ⟨k⟩
def uR {p q:Prop}(k:q)(h:Hid q vi->p:=by intro h;(iterate 11 refine av ?_);exact h.1):p:=h ⟨k⟩
def lJ {p q:Prop}(k:q)(h:Hid q vi->p:=by intro h;(iterate 12 refine av ?_);exact h.1):p:=h ⟨k⟩
def DK {p q:Prop}(k:q)(h:Hid q vi->p:=by intro h;(iterate 13 refine av ?_);exact h.1):p:=h ⟨k⟩
def Kz {p q:Prop}(k:q)(h:Hid q vi->p:=by intro h;(iterate 14 refine av ?_);exact h.1):p:=h ⟨k⟩
def KA {p q:Prop}(k:q)(h:Hid q vi->p:=by intro h;(iterate 15 refine av ?_);exact h.1):p:=h ⟨k⟩
def PS {p q:Prop}(k:q)(h:Hid q vi->p:=by intro h;(iterate 16 refine av ?_);exact h.1):p:=h ⟨k⟩
def PT {p q:Prop}(k:q)(h:Hid q vi->p:=by intro h;(iterate 18 refine av ?_);exact h.1):p:=h ⟨k⟩
def PU {p q:Prop}(k:q)(h:Hid q vi->p:=by intro h;(iterate 21 refine av ?_);exact h.1):p:=h ⟨k⟩
def PV {p q:Prop}(k:q)(h:Hid q vi->p:=by intro h;(iterate 26 refine av ?_);exact h.1):p:=h ⟨k⟩
def PX {p q:Prop}(k:q)(h:Hid q vi->p:=by intro h;(iterate 28 refine av ?_);exact h.1):p:=h ⟨k⟩
end Go.Abs
namespace Go.Abs
abbrev s0:Src:=.s 0
abbrev s1:Src:=.s 1
abbrev s2:Src:=.s 2
abbrev s3:Src:=.s 3
abbrev s4:Src:=.s 4
abbrev s5:Src:=.s 5
abbrev s6:Src:=.s 6
abbrev s7:Src:=.s 7
abbrev s8:Src:=.s 8
abbrev s9:Src:=.s 9
abbrev jk:Src:=.s 10
abbrev pV:Src:=.s 11
abbrev nG:Src:=.s 12
abbrev Cm:Src:=.s 13
abbrev Ae:Src:=.s 14
abbrev Ks:Src:=.s 15
abbrev Mn:Src:=.s 16
abbrev Mo:Src:=.s 17
abbrev s18:Src:=.s 18
abbrev l0:Src:=.l 0
abbrev l1:Src:=.l 1
abbrev l2:Src:=.l 2
abbrev l3:Src:=.l 3
abbrev l4:Src:=.l 4
abbrev l5:Src:=.l 5
abbrev l6:Src:=.l 6
abbrev l7:Src:=.l 7
abbrev l8:Src:=.l 8
abbrev l9:Src:=.l 9
abbrev l10:Src:=.l 10
abbrev gV:Src:=.l 11
abbrev iU:Src:=.l 12
abbrev jV:Src:=.l 13
abbrev k8:Src:=.l 14
abbrev mz:Src:=.l 15
abbrev oQ:Src:=.l 16
abbrev rR:Src:=.l 17
abbrev uT:Src:=.l 18
abbrev Ad:Src:=.l 19
abbrev Ed:Src:=.l 20
abbrev E2:Src:=.l 21
abbrev Ee:Src:=.l 22
abbrev H2:Src:=.l 23
abbrev Km:Src:=.l 24
abbrev LJ:Src:=.l 25
abbrev Pb:Src:=.l 26
abbrev Pc:Src:=.l 27
abbrev Pd:Src:=.l 28
abbrev l29:Src:=.l 29
abbrev l30:Src:=.l 30
abbrev l31:Src:=.l 31
abbrev l32:Src:=.l 32
abbrev l33:Src:=.l 33
abbrev l34:Src:=.l 34
abbrev l35:Src:=.l 35
abbrev l36:Src:=.l 36
abbrev l37:Src:=.l 37
abbrev l38:Src:=.l 38
abbrev l39:Src:=.l 39
abbrev gm (x:Src):GI:=⟨.mv x,none⟩
abbrev gn (x:aB):GI:=⟨x,none⟩
abbrev i6 (n:Int):Src:=.c (.int .i64 n)
abbrev cs (s:List UInt8):Src:=.c (.str s)
abbrev gd (x:Src):GI:=⟨.ld 1 false x,none⟩
abbrev gk (n:Nat)(b:Bool)(x:Src):GI:=⟨.ld n b x,none⟩
abbrev gf (n:Nat)(x:Src):GI:=⟨.fa n x,none⟩
abbrev gl (x:Src):GI:=⟨.len x,none⟩
abbrev ga (n:Nat)(x y:Src):GI:=⟨.ia n x y,none⟩
abbrev ge (x:Src)(n:Nat):GI:=⟨.ext x n,none⟩
abbrev gb (n:Nat)(x:Src):GI:=⟨.box n x,none⟩
abbrev gc (x:Src):GI:=⟨.nilck x,none⟩
abbrev gt (n:Nat)(x y:Src):GI:=⟨.st n x y,none⟩
abbrev gx (n:Nat)(x:List Src)(y:List (List Sh)):GI:=⟨.call n x y,none⟩
abbrev rg (x:List GI)(y:List (Nat×Nat)):AC:=.reg false x y
abbrev rt (x:List GI)(y:List (Nat×Nat)):AC:=.reg true x y
abbrev jK (x y:Src):aB:=.bin .lss x y
abbrev eU (x y:Src):aB:=.bin .eql x y
abbrev e9 (x y:Src):aB:=.bin .gtr x y
abbrev mw (x y:Src):aB:=.bin .neq x y
abbrev yp (x y:Src):aB:=.bin .leq x y
abbrev iM (x y:Src):aB:=.bin .geq x y
abbrev sT (x y:Src):aB:=.bin .sub x y
abbrev Fu (x y:Src):aB:=.bin .and x y
abbrev dE:Src:=.c (.bool false)
abbrev px:Src:=.c (.bool true)
abbrev cse:Src:=.c (.str [])
abbrev bY:Src:=.c (.int .i64 0)
abbrev cQ:Src:=.c (.int .i64 1)
abbrev B3:Src:=.c (.int .i64 2)
abbrev IX:Src:=.c (.int .i64 3)
abbrev LG:Src:=.c (.int .i64 4)
abbrev ic5:Src:=.c (.int .i64 5)
abbrev ic6:Src:=.c (.int .i64 6)
abbrev ic8:Src:=.c (.int .i64 8)
abbrev ic9:Src:=.c (.int .i64 9)
abbrev gmt (n:Nat)(x:Src):GI:=⟨.mv x,some (n,true)⟩
abbrev jS (n:Nat)(x:Src):GI:=⟨.ld 1 false x,some (n,true)⟩
abbrev fK (n o:Nat)(x:Src):GI:=⟨.fa o x,some (n,true)⟩
abbrev cG (n:Nat)(x:aB):GI:=⟨x,some (n,true)⟩
abbrev fL (n:Nat)(x:Src):GI:=⟨.mv x,some (n,false)⟩
abbrev kE (n:Nat)(x:Src):GI:=⟨.ld 1 false x,some (n,false)⟩
abbrev j6 (n o:Nat)(x:Src):GI:=⟨.fa o x,some (n,false)⟩
abbrev cX (n:Nat)(x:aB):GI:=⟨x,some (n,false)⟩
abbrev sq (a b:AC):AC:=.seq a b
abbrev H0 (x:Src):AC:=.seq (.reg false [⟨.mv x,none⟩] [(1,0)]) .ret
abbrev AA (c x:Src):AC:=.cond c (.seq (.reg false [⟨.mv x,none⟩] [(1,0)]) .ret) .skip
abbrev dD:List (List Sh):=[[.a]]
abbrev ha2:List (List Sh):=[[.a,.a]]
abbrev nS:List (List Sh):=[[.a,.a,.a,.a,.a]]
abbrev vO:List (List Sh):=[[.a,.a,.a,.a,.a,.a,.a]]
abbrev mP:List (List Sh):=[[.a],[.a]]
abbrev fM (c x:Src):GI:=⟨.pick c (.c (.bool true)) x,none⟩
abbrev gI (c x:Src):GI:=⟨.pick c x (.c (.bool false)),none⟩
abbrev O3 (n:Nat)(c x:Src):GI:=⟨.pick c (.c (.bool true)) x,some (n,true)⟩
abbrev Az (n:Nat)(c x:Src):GI:=⟨.pick c x (.c (.bool false)),some (n,false)⟩
abbrev aQ (x y:Src):GI:=⟨.bin .lss x y,none⟩
abbrev cr (x y:Src):GI:=⟨.bin .eql x y,none⟩
abbrev aU (x y:Src):GI:=⟨.bin .add x y,none⟩
abbrev iy (x y:Src):GI:=⟨.bin .gtr x y,none⟩
abbrev dH (x y:Src):GI:=⟨.bin .neq x y,none⟩
abbrev AV (x y:Src):GI:=⟨.bin .leq x y,none⟩
abbrev mg (x y:Src):GI:=⟨.bin .geq x y,none⟩
abbrev iz (x y:Src):GI:=⟨.bin .sub x y,none⟩
abbrev iW (x y:Src):GI:=⟨.bin .and x y,none⟩
abbrev Ca (x y:Src):GI:=⟨.bin .or x y,none⟩
abbrev fS (c:Src)(n:Nat):AC:=.cond c .skip (.exit n)
abbrev i8 (n:Int):Src:=.c (.int .u8 n)
abbrev i3 (n:Int):Src:=.c (.int .i32 n)
abbrev iu (n:Int):Src:=.c (.int .u64 n)
abbrev IV (x:Src):GI:=⟨.lenS x,none⟩
abbrev nd (x:Src):GI:=⟨.un .not x,none⟩
abbrev LA (x y:Src):GI:=⟨.ixS x y,none⟩
abbrev r1 (x:List GI)(a b:Nat):AC:=.reg false x [(a,b)]
abbrev r2 (x:List GI)(a b:Nat):AC:=.reg true x [(a,b)]
abbrev mI:List Af:=[⟨1,none⟩]
end Go.Abs
end
namespace Go.Abs
def sL (T:List D->D->Prop):Prop:=∀(s:dk),T [.str s] (.tup [.int .i64 (rU s),.bool (jI s)])
def KW (Y:Ctx):Prop:=sL (bV Y 658)
def sI (T:List D->D->Prop):Prop:=∀(s:dk) (b:Int),(s.length<=1048576)->T [.str s,.int .u8 b] (.sl 1 ((bm s b).map D.str))
def Ig (Y:Ctx):Prop:=sI (bV Y 533)
def sM (T:List D->D->Prop):Prop:=∀(t:dk),T [.str t] (.bool (cB t))
def KX (Y:Ctx):Prop:=sM (bV Y 659)
def sE (T:List D->D->Prop):Prop:=∀(n:Int),T [.int .i64 n] (.bool (Aw n))
def M1 (Y:Ctx):Prop:=sE (bV Y 440)
def C2 (T:List D->D->Prop):Prop:=∀(s:dk),(s.length<=1048576)->T [.str s] (.bool (lG s false))
def KP (Y:Ctx):Prop:=C2 (bV Y 442)
def Ds (T:List D->D->Prop):Prop:=∀(x:Int),T [.int .i64 x] (.bool false)
def Nt (Y:Ctx):Prop:=Ds (bV Y 714)
def Dr (T:List D->D->Prop):Prop:=∀(x:dk),T [.str x] (.bool false)
def Nr (Y:Ctx):Prop:=Dr (bV Y 704)
def sH (T:List D->D->Prop):Prop:=∀(a:Int) (b:Int),T [.int .i64 a,.int .i64 b] (.int .i64 (cW a b))
def Ie (Y:Ctx):Prop:=sH (bV Y 532)
def sF (T:List D->D->Prop):Prop:=∀(a:dk) (b:dk),T [.str a,.str b] (.int .i64 (kq a b))
def KR (Y:Ctx):Prop:=sF (bV Y 516)
def C5 (T:List D->D->Prop):Prop:=∀(l:List Int),T [.sl 1 (l.map (D.int .i64))] (.int .i64 (fQ (fun i=>l[i]!) 0 l.length))
def KS (Y:Ctx):Prop:=C5 (bV Y 531)
def sG (T:List D->D->Prop):Prop:=∀(v:a7),T [a7.D v] (a7.D (jm v))
def M7 (Y:Ctx):Prop:=sG (bV Y 530)
def sJ (T:List D->D->Prop):Prop:=∀(a:dk) (b:dk),T [.str a,.str b] (.int .i64 (oe a b))
def M8 (Y:Ctx):Prop:=sJ (bV Y 534)
def KQ (Y:Ctx):Prop:=sI (bV Y 470)
def C3 (T:List D->D->Prop):Prop:=∀(c:Int),T [.int .u8 c] (.bool (cV c))
def M4 (Y:Ctx):Prop:=C3 (bV Y 454)
def KY (Y:Ctx):Prop:=sL (bV Y 667)
def KZ (Y:Ctx):Prop:=sM (bV Y 668)
def Dq (T:List D->D->Prop):Prop:=∀(t:dk),T [.str t] (.bool (od t))
def Nq (Y:Ctx):Prop:=Dq (bV Y 666)
def C4 (T:List D->D->Prop):Prop:=∀(s:dk) (p:Bool),(s.length<=1048576)->T [.str s,.bool p] (.bool (rB s p))
def M6 (Y:Ctx):Prop:=C4 (bV Y 456)
def M5 (Y:Ctx):Prop:=sE (bV Y 455)
def sC (T:List D->D->Prop):Prop:=∀(v:a7),(v.sm)->T [a7.D v] (.bool (jC v))
def wK (Y:Ctx):Prop:=sC (bV Y 217)
def E9 (Y:Ctx):Prop:=sH (bV Y 630)
def NH (Y:Ctx):Prop:=sF (bV Y 927)
def Ny (Y:Ctx):Prop:=sJ (bV Y 783)
def Df (T:List D->D->Prop):Prop:=∀(a:dk) (b:dk),(a.length<=1048576/\b.length<=1048576)->T [.str a,.str b] (.int .i64 (qM a b))
def Nh (Y:Ctx):Prop:=Df (bV Y 631)
def sD (T:List D->D->Prop):Prop:=∀(a:a7) (b:a7),(a.sm/\b.sm)->T [a7.D a,a7.D b] (.int .i64 (j4 a b))
def KM (Y:Ctx):Prop:=sD (bV Y 424)
def qb (T:List D->D->Prop):Prop:=∀(c:Cut),(c.v.sm)->T [Cut.D c] (.bool (kr c))
def By (Y:Ctx):Prop:=qb (bV Y 1086)
def p9 (T:List D->D->Prop):Prop:=∀(a:Cut) (b:Cut),(a.v.sm/\b.v.sm)->T [Cut.D a,Cut.D b] (.int .i64 (fw a b))
def vB (Y:Ctx):Prop:=p9 (bV Y 1020)
def qa (T:List D->D->Prop):Prop:=∀(c:Cut) (v:a7),(c.v.sm/\v.sm)->T [Cut.D c,a7.D v] (.bool (fN c v))
def JX (Y:Ctx):Prop:=qa (bV Y 1025)
def p8 (T:List D->D->Prop):Prop:=∀(s:Span),(s.sm)->T [Span.D s] (.bool (jA s))
def Bx (Y:Ctx):Prop:=p8 (bV Y 1019)
def sQ (T:List D->D->Prop):Prop:=∀(s:Span) (v:a7),(s.sm/\v.sm)->T [Span.D s,a7.D v] (.bool (kN s v))
def NG (Y:Ctx):Prop:=sQ (bV Y 926)
def sP (T:List D->D->Prop):Prop:=∀(l:List Span),(bA l)->T [.sl 14 (l.map Span.D)] (.bool (kU l))
def Fb (Y:Ctx):Prop:=sP (bV Y 916)
def sO (T:List D->D->Prop):Prop:=∀(l:List Span) (v:a7),(bA l/\v.sm)->T [.sl 14 (l.map Span.D),a7.D v] (.bool (mi l v))
def Nx (Y:Ctx):Prop:=sO (bV Y 782)
def C7 (T:List D->D->Prop):Prop:=∀(v:a7),T [a7.D v] (.bool (oR v))
def KU (Y:Ctx):Prop:=C7 (bV Y 600)
def Dy (T:List D->D->Prop):Prop:=∀(c:Cut),T [Cut.D c] (.bool (je c))
def NC (Y:Ctx):Prop:=Dy (bV Y 917)
def sN (T:List D->D->Prop):Prop:=∀(s:bn),(s.sm)->T [bn.D s] (.bool (ml s))
def Ij (Y:Ctx):Prop:=sN (bV Y 770)
def sK (T:List D->D->Prop):Prop:=∀(s:bn) (v:a7),(s.sm/\v.sm)->T [bn.D s,a7.D v] (.bool (mG s v))
def Ng (Y:Ctx):Prop:=sK (bV Y 627)
def C8 (T:List D->D->Prop):Prop:=T [] (Cut.D lZ)
def Ih (Y:Ctx):Prop:=C8 (bV Y 601)
def Da (T:List D->D->Prop):Prop:=T [] (Cut.D pM)
def Ii (Y:Ctx):Prop:=Da (bV Y 603)
def KT (Y:Ctx):Prop:=sG (bV Y 599)
def CL (T:List D->D->Prop):Prop:=∀(v:a7),T [a7.D v] (Cut.D (kA v))
def H9 (Y:Ctx):Prop:=CL (bV Y 376)
def CM (T:List D->D->Prop):Prop:=∀(v:a7),T [a7.D v] (Cut.D (sg v))
def MR (Y:Ctx):Prop:=CM (bV Y 377)
def Dt (T:List D->D->Prop):Prop:=∀(v:a7) (p:Int),(v.sm)->T [a7.D v,.int .i64 p] (.tup [a7.D (fe v p).1,.bool (fe v p).2])
def Nu (Y:Ctx):Prop:=Dt (bV Y 769)
def C9 (T:List D->D->Prop):Prop:=∀(v:a7),(v.sm)->T [a7.D v] (.tup [a7.D (hJ v).1,.bool (hJ v).2])
def Na (Y:Ctx):Prop:=C9 (bV Y 602)
def CJ (T:List D->D->Prop):Prop:=T [] (bn.D tW)
def E8 (Y:Ctx):Prop:=CJ (bV Y 375)
def C6 (T:List D->D->Prop):Prop:=T [] (.sl 14 (ph.map Span.D))
def M9 (Y:Ctx):Prop:=C6 (bV Y 598)
def CI (T:List D->D->Prop):Prop:=T [] (bn.D uX)
def KK (Y:Ctx):Prop:=CI (bV Y 374)
def CN (T:List D->D->Prop):Prop:=∀(v:a7),T [a7.D v] (Cut.D (mW v))
def MS (Y:Ctx):Prop:=CN (bV Y 378)
def CO (T:List D->D->Prop):Prop:=∀(v:a7),T [a7.D v] (Cut.D (yq v))
def MT (Y:Ctx):Prop:=CO (bV Y 379)
def Cz (T:List D->D->Prop):Prop:=∀(v:a7),(v.sm)->T [a7.D v] (bn.D (bE v))
def KD (Y:Ctx):Prop:=Cz (bV Y 156)
def zW (T:List D->D->Prop):Prop:=∀(l:List Cut) (c:Cut),((mR l/\c.sm)/\l.length<=10000)->T [.sl 7 (l.map Cut.D),Cut.D c] (.sl 7 ((rI l c).map Cut.D))
def JW (Y:Ctx):Prop:=zW (bV Y 1021)
def Dz (T:List D->D->Prop):Prop:=∀(l:List Span),(bA l/\l.length<=2000)->T [.sl 14 (l.map Span.D)] (.sl 7 ((cA l).map Cut.D))
def K2 (Y:Ctx):Prop:=Dz (bV Y 919)
def DA (T:List D->D->Prop):Prop:=∀(l:List Span) (f:Cut) (t:Cut),(bA l/\f.sm/\t.sm)->T [.sl 14 (l.map Span.D),Cut.D f,Cut.D t] (.bool (oJ l f t))
def K3 (Y:Ctx):Prop:=DA (bV Y 920)
def Ik (Y:Ctx):Prop:=∀(out:List Span) (f t:Cut),((bA out/\f.sm/\t.sm)/\out.length<=100000)->∀(nx lo:Nat) (m:List (Nat×bz)) (K:D->St->Prop),look m lo=some (.buf 14 (out.map Span.D))->lo<nx->K (.own nx 14 0 (j7 out f t).length) ⟨nx+1,(nx,.buf 14 ((j7 out f t).map Span.D))::cv m lo⟩->Y.tr 921 [.own lo 14 0 out.length,Cut.D f,Cut.D t] ⟨nx,m⟩ K
def K1 (Y:Ctx):Prop:=∀(l:List Span),(bA l/\l.length<=2000)->∀(nx lo:Nat) (m:List (Nat×bz)) (K:D->St->Prop),look m lo=some (.buf 14 (l.map Span.D))->lo<nx->K (.tup [.sl 14 ((nr l).1.map Span.D),.bool (nr l).2]) ⟨nx,cv m lo⟩->Y.tr 918 [.own lo 14 0 l.length] ⟨nx,m⟩ K
def Dv (T:List D->D->Prop):Prop:=∀(l:List Span),(bA l/\l.length<=2000)->T [.sl 14 (l.map Span.D)] (.sl 14 ((rT l).map Span.D))
def Nw (Y:Ctx):Prop:=Dv (bV Y 772)
section
section
variable {Y:Ctx} {draw:Bool} {r:List GI} {env rs:List bH} {nx:Nat} {m:List (Nat×bz)} {K:List bH->St->Prop} {f:Bool} {g:Option (Nat×Bool)}
def uj {n:Nat}{x:Src}{fx:Bool}{d:D}(k:Nat)(h:aC Y draw r env (⟨f,.fn k [d]⟩::rs) nx m K)(hk:n+4000000=k:=by exact rfl)(hg:GF rs g f:=by first|exact rfl|exact⟨_,_,rfl,rfl⟩)(hx:cE env rs x=⟨fx,d⟩:=by exact rfl)(kx:f=true->fx=true:=by first|exact fun _=>rfl|exact fun h=>h|(intro h;simp_all)):aC Y draw (⟨.mkI n x,g⟩::r) env rs nx m K:=
 bT rfl hg _ (fun hf=>by simp only[aB.dz,hx];exact kx hf) (fun hf=>by simp only[aB.val,hx,hk]) (fun _=>h)
def y9 {x:Src}{fx:Bool}{k:Nat}{cs:List D}(b:Bool)(h:aC Y draw r env (⟨f,.bool b⟩::rs) nx m K)(hx:cE env rs x=⟨fx,.fn k cs⟩:=by exact rfl)(hk:4000000<=k/\k<=4600000:=by decide)(hb:(k==4600000)=b:=by exact rfl)(hg:GF rs g f:=by first|exact rfl|exact⟨_,_,rfl,rfl⟩)(kx:f=true->fx=true:=by first|exact fun _=>rfl|exact fun h=>h|(intro h;simp_all)):aC Y draw (⟨.isI x,g⟩::r) env rs nx m K:=
 bT rfl hg _ (fun hf=>by simp only[aB.dz,hx];exact⟨kx hf,hk⟩) (fun hf=>by simp only[aB.val,hx,hb]) (fun _=>h)
def xG {n:Nat}{z:D}{x:Src}{fx:Bool}{k:Nat}{d:D}(h:aC Y draw r env (⟨f,.tup [d,.bool true]⟩::rs) nx m K)(hx:cE env rs x=⟨fx,.fn k [d]⟩:=by exact rfl)(hk:4000000<=k/\k<=4600000:=by decide)(hb:(k==n+4000000)=true:=by exact rfl)(hg:GF rs g f:=by first|exact rfl|exact⟨_,_,rfl,rfl⟩)(kx:f=true->fx=true:=by first|exact fun _=>rfl|exact fun h=>h|(intro h;simp_all)):aC Y draw (⟨.tas n z x,g⟩::r) env rs nx m K:=
 bT rfl hg _ (fun hf=>by simp only[aB.dz,hx];exact⟨kx hf,hk⟩) (fun hf=>by simp only[aB.val,hx,hb,cond_true,gM]) (fun _=>h)
def qP {n:Nat}{z:D}{x:Src}{fx:Bool}{k:Nat}{cs:List D}(h:aC Y draw r env (⟨f,.tup [z,.bool false]⟩::rs) nx m K)(hx:cE env rs x=⟨fx,.fn k cs⟩:=by exact rfl)(hk:4000000<=k/\k<=4600000:=by decide)(hb:(k==n+4000000)=false:=by exact rfl)(hg:GF rs g f:=by first|exact rfl|exact⟨_,_,rfl,rfl⟩)(kx:f=true->fx=true:=by first|exact fun _=>rfl|exact fun h=>h|(intro h;simp_all)):aC Y draw (⟨.tas n z x,g⟩::r) env rs nx m K:=
 bT rfl hg _ (fun hf=>by simp only[aB.dz,hx];exact⟨kx hf,hk⟩) (fun hf=>by simp only[aB.val,hx,hb,cond_false]) (fun _=>h)
def xE {x:Src}{fx:Bool}{k:Nat}{cs WW:List D}{v:D}(n:Nat)(h:aC Y draw r env (⟨f,v⟩::rs) nx m K)(hc:Y.pre n WW/\Y.val n WW=v)(hx:cE env rs x=⟨fx,.fn k cs⟩:=by exact rfl)(hk:(4000000<=k/\k<4600000)/\k-4000000=n:=by decide)(ha:jc m [] cs=WW:=by exact rfl)(hn:aL cs=true:=by exact rfl)(hg:GF rs g f:=by first|exact rfl|exact⟨_,_,rfl,rfl⟩)(kx:f=true->fx=true:=by first|exact fun _=>rfl|exact fun h=>h|(intro h;simp_all)):aC Y draw (⟨.invk x,g⟩::r) env rs nx m K:=
 fH rfl hg _ (fun hf=>by simp only[aB.dz,hx,hk.2,(cL _ _ _).1,ha];exact⟨kx hf,hk.1,hn,hc.1⟩) (fun hf=>by simp only[aB.val,hx,hk.2,(cL _ _ _).1,ha,hc.2]) m rfl (fun _=>h)
def Jn {x:Src}{j:Nat}{w:Bool}(d:D)(h:aC Y draw r env (⟨false,d⟩::rs) nx m K)(hg:GF rs (some (j,w)) false:=by exact⟨_,_,rfl,rfl⟩):aC Y draw (⟨.invk x,some (j,w)⟩::r) env rs nx m K:=
 fH rfl hg d (fun hf=>by cases hf) (fun hf=>by cases hf) m rfl (fun _=>h)
def wg (h:aC Y draw r env (⟨f,.fn 4700000 []⟩::rs) nx m K)(hg:GF rs g f:=by first|exact rfl|exact⟨_,_,rfl,rfl⟩):aC Y draw (⟨.zal,g⟩::r) env rs nx m K:=
 fH rfl hg _ (fun _=>trivial) (fun _=>rfl) m rfl (fun _=>h)
def G9 {p v:Src}{fp fv:Bool}{cs:List D}(h:aC Y draw r env (⟨f,.any⟩::rs) nx m K)(hx:cE env rs p=⟨fp,.fn 4700000 cs⟩:=by exact rfl)(hy:cE env rs v=⟨fv,.agg []⟩:=by exact rfl)(hg:GF rs g f:=by first|exact rfl|exact⟨_,_,rfl,rfl⟩)(kx:f=true->fp=true:=by first|exact fun _=>rfl|exact fun h=>h|(intro h;simp_all))(ky:f=true->fv=true:=by first|exact fun _=>rfl|exact fun h=>h|(intro h;simp_all)):aC Y draw (⟨.zst p v,g⟩::r) env rs nx m K:=
 bT rfl hg _ (fun hf=>by simp only[aB.dz,hx,hy];exact⟨kx hf,ky hf,trivial⟩) (fun _=>rfl) (fun _=>h)
def xD {n:Nat}{args:List Src}{chk:List (Nat×Nat×Bool×Src)}{WW:List D}{v:D}{nx':Nat}{m':List (Nat×bz)}(h:aC Y draw r env (⟨true,v⟩::rs) nx' m' K)
  (hc:∀K':D->St->Prop,K' v ⟨nx'+rs.length,m'⟩->Y.tr n WW ⟨nx+rs.length,m⟩ K') (hn:nx<=nx')
  (hk:∀c∈chk,xh m' c.2.1 (Src.ev env (rs.reverse.take c.1) c.2.2.2).d/\uU m' c.2.1 c.2.2.1 (Src.ev env (rs.reverse.take c.1) c.2.2.2).d=(rs.reverse.getD c.1 .un).d) (ha:fP (cE env rs) args=WW:=by exact rfl)
  (ho:ry (cE env rs) args:=by repeat' first|exact trivial|exact rfl|refine And.intro ?_ ?_):aC Y draw (⟨.callL n args chk,none⟩::r) env rs nx m K:=by
 unfold aC at h⊢;show none=none/\ry (Src.ev env rs.reverse) args/\Y.tr n (fP (Src.ev env rs.reverse) args) {nx:=nx+rs.reverse.length,m:=m} _;rw[kD,ha,List.length_reverse];refine⟨rfl,ho,hc _ ⟨fun c hcc _=>hk c hcc,by simp only;omega, ?_⟩⟩;simp only[Nat.add_sub_cancel];simpa using h
end
end
def Du (T:List D->D->Prop):Prop:=∀(a:List Span) (b:List Span),(DP a/\DP b)->T [.sl 14 (a.map Span.D),.sl 14 (b.map Span.D)] (.sl 14 ((E4 a b).map Span.D))
def Nv (Y:Ctx):Prop:=Du (bV Y 771)
def Db (T:List D->D->Prop):Prop:=∀(a:bn) (b:bn),(Al a/\Al b)->T [bn.D a,bn.D b] (bn.D (GC a b))
def Nb (Y:Ctx):Prop:=Db (bV Y 604)
def Dc (T:List D->D->Prop):Prop:=∀(a:bn),(Al a)->T [bn.D a] (bn.D (vw a))
def Nc (Y:Ctx):Prop:=Dc (bV Y 605)
def C1 (T:List D->D->Prop):Prop:=∀(s:dk),(s.length<=1048576)->T [.str s] (.bool (lG s true))
def M3 (Y:Ctx):Prop:=C1 (bV Y 441)
def Ag (Y:Ctx):Prop:=sC (bV Y 209)
def HR (T:List D->D->Prop):Prop:=∀(v:Int) (n:Int),(n<=9223372036854775807)->T [.int .i64 v,.int .i64 n] (.int .i64 (fG v n))
def C25 (Y:Ctx):Prop:=HR (bV Y 25)
def CB (T:List D->D->Prop):Prop:=∀(l:List Int) (i:Int),T [.sl 1 (l.map (D.int .i64)),.int .i64 i] (.int .i64 (x8 l i))
def KE (Y:Ctx):Prop:=CB (bV Y 159)
def DL (Y:Ctx):Prop:=∀(g:Gs) (n:Int),(n<=9223372036854775807)->(0<=g.i/\g.i<=1000000)->Y.fp 109 (Gs.D g) [.int .i64 n]/\Y.fv 109 (Gs.D g) [.int .i64 n]=.int .i64 (g.val n)/\Y.fs 109 (Gs.D g) [.int .i64 n]=Gs.D g.bo
def Cy (T:List D->D->Prop):Prop:=T [] (.sl 5 (cC.map a7.D))
def MN (Y:Ctx):Prop:=Cy (bV Y 112)
def KL (Y:Ctx):Prop:=∀(g:Gs) (xs:List CW),(((0<=g.i/\g.i<=900000)/\xs.length<=4)/\∀c∈xs,c.v.sm)->∀(kk:Nat) (E:List D),aL E=true->∀(nx lc:Nat) (m:List (Nat×bz)) (K:D->St->Prop),(lc≠0/\lc≠10/\lc<nx/\11<=nx)->look m 0=some (.buf 2 [Gs.D g])->look m lc=some (.buf 8 (xs.map (CW.D 10)))->look m 10=some (.buf kk E)->K (bn.D (rX g (xs.map CW.v))) ⟨nx,cH m 0 (.buf 2 [Gs.D g.bo.bo])⟩->Y.tr 380 [.ptr 0 2 0 0,.own lc 8 0 xs.length] ⟨nx,m⟩ K
def H7 (Y:Ctx):Prop:=∀(g:Gs) (n:Nat) (nm ft:Nat->dk) (cs:Nat->List CW) (kk:Nat) (E:List D),aL E=true->((0<=g.i/\g.i<=800000)/\Fe n cs)->∀(nx:Nat) (m:List (Nat×bz)) (K:D->St->Prop),11<=nx->IB m g n nm ft cs kk E->K (Want.D (cu g n (fX cs))) ⟨nx,cH m 0 (.buf 2 [Gs.D g.ed])⟩->Y.tr 157 [.ptr 0 2 0 0,.own 1 3 0 n] ⟨nx,m⟩ K
def KC (Y:Ctx):Prop:=∀(g:Gs) (n:Nat) (nm ft:Nat->dk) (cs:Nat->List CW) (kk:Nat) (E:List D) (most:Int),aL E=true->((0<=g.i/\g.i<=700000)/\Fe n cs/\(0<=most/\most<=3))->∀(nx:Nat) (m:List (Nat×bz)) (K:D->St->Prop),11<=nx->IB m g n nm ft cs kk E->K (.sl 1 ((ax g n (fX cs) most).1.map dF)) ⟨nx,cH m 0 (.buf 2 [Gs.D (ax g n (fX cs) most).2])⟩->Y.tr 155 [.ptr 0 2 0 0,.own 1 3 0 n,.int .i64 most] ⟨nx,m⟩ K
def KB (Y:Ctx):Prop:=∀(g:Gs) (few:Int),((0<=g.i/\g.i<=600000)/\few<=1000)->∀(nx:Nat) (m:List (Nat×bz)) (K:D->St->Prop),look m 0=some (.buf 2 [Gs.D g])->0<nx->K (.own nx 3 0 (dZ g few).1.length) ⟨nx+9,MG nx (dZ g few).1++cH m 0 (.buf 2 [Gs.D (dZ g few).2])⟩->Y.tr 154 [.ptr 0 2 0 0,.int .i64 few] ⟨nx,m⟩ K
def HS (T:List D->D->Prop):Prop:=∀(ks:List Int) (few:Int),(few<=1000)->T [.sl 1 (ks.map (D.int .i64)),.int .i64 few] (bI.D (cM ks few))
def C36 (Y:Ctx):Prop:=HS (bV Y 36)
def H8 (Y:Ctx):Prop:=sD (bV Y 295)
def Bz (Y:Ctx):Prop:=qb (bV Y 1087)
def E6 (Y:Ctx):Prop:=p9 (bV Y 1024)
def J0 (Y:Ctx):Prop:=qa (bV Y 1055)
def E5 (Y:Ctx):Prop:=p8 (bV Y 1023)
def NO (Y:Ctx):Prop:=sQ (bV Y 980)
def K4 (Y:Ctx):Prop:=sP (bV Y 925)
def NB (Y:Ctx):Prop:=sO (bV Y 861)
def DB (T:List D->D->Prop):Prop:=∀(c:Cut),T [Cut.D c] (.bool (lE c))
def ND (Y:Ctx):Prop:=DB (bV Y 924)
def K0 (Y:Ctx):Prop:=sN (bV Y 780)
def Ns (Y:Ctx):Prop:=sK (bV Y 712)
def CS (T:List D->D->Prop):Prop:=∀(a:Key) (b:Key),T [Key.D a,Key.D b] (.int .i64 (uc a b))
def MU (Y:Ctx):Prop:=CS (bV Y 408)
def De (T:List D->D->Prop):Prop:=∀(l:List Want) (n:Int),(∀x∈l,x.sm)->T [.sl 3 (l.map Want.D),.int .i64 n] (.bool (pg n l))
def Nf (Y:Ctx):Prop:=De (bV Y 622)
def CT (T:List D->D->Prop):Prop:=∀(c:dI) (n:Int),(c.sm)->T [dI.D c,.int .i64 n] (.bool (m5 n c))
def MV (Y:Ctx):Prop:=CT (bV Y 409)
def CD (T:List D->D->Prop):Prop:=∀(w:bI),(w.sm)->T [bI.D w] (.bool (xX w))
def MO (Y:Ctx):Prop:=CD (bV Y 175)
section
section
variable {Y:Ctx} {draw:Bool} {r:List GI} {env rs:List bH} {nx:Nat} {m:List (Nat×bz)} {K:List bH->St->Prop} {g:Option (Nat×Bool)} {f:Bool}
def Pn {x y:Src}{fx fy:Bool}{k k2:IntKind}{a b:Int}(v:Int)(h:aC Y draw r env (⟨f,.int k v⟩::rs) nx m K)(hg:GF rs g f:=by first|exact rfl|exact⟨_,_,rfl,rfl⟩)(hx:cE env rs x=⟨fx,.int k a⟩:=by exact rfl)(hy:cE env rs y=⟨fy,.int k2 b⟩:=by exact rfl)(kx:f=true->fx=true:=by first|exact fun _=>rfl|exact fun h=>h|(intro h;simp_all))(ky:f=true->fy=true:=by first|exact fun _=>rfl|exact fun h=>h|(intro h;simp_all))(hv:f=true->(if b<a then b else a)=v):aC Y draw (⟨.mn x y,g⟩::r) env rs nx m K:=
 bT rfl hg _ (fun hf=>by simp[aB.dz,hx,hy,kx hf,ky hf]) (fun hf=>by simp only[aB.val,hx,hy];rw[hv hf]) (fun _=>h)
end
end
def CP (T:List D->D->Prop):Prop:=∀(n:Int),(0<=n/\n<=40)->T [.int .i64 n] (.int .i64 (2^n.toNat))
def Ia (Y:Ctx):Prop:=CP (bV Y 381)
def CA (T:List D->D->Prop):Prop:=∀(w:bI) (u:Int),(w.sm)->T [bI.D w,.int .i64 u] (.int .i64 (bC w.us u))
def x9 (Y:Ctx):Prop:=CA (bV Y 158)
def CU (T:List D->D->Prop):Prop:=∀(w:bI) (x:Want),(w.sm/\x.sm)->T [bI.D w,Want.D x] (.int .i64 (e8 w.us x))
def MW (Y:Ctx):Prop:=CU (bV Y 415)
def CR (T:List D->D->Prop):Prop:=∀(w:bI) (l:List bK) (u:Int),(w.sm)->T [bI.D w,.sl 2 (l.map bK.D),.int .i64 u] (.int .i64 (aK w.us l u))
def Ib (Y:Ctx):Prop:=CR (bV Y 406)
def Dk (T:List D->D->Prop):Prop:=∀(c:aY) (u:Int),(c.w.sm)->T [aY.D c,.int .i64 u] (.int .i64 (bC c.w.us u))
def DM (Y:Ctx):Prop:=Dk (bV Y 636)
def Di (T:List D->D->Prop):Prop:=∀(c:aY) (l:List bK) (u:Int),(c.w.sm)->T [aY.D c,.sl 2 (l.map bK.D),.int .i64 u] (.int .i64 (aK c.w.us l u))
def Fa (Y:Ctx):Prop:=Di (bV Y 634)
def Dg (T:List D->D->Prop):Prop:=∀(c:aY) (l:List bK),(c.w.sm/\∀t∈l,sR t.m)->T [aY.D c,.sl 2 (l.map bK.D)] (.bool (eN c.w.us l))
def KV (Y:Ctx):Prop:=Dg (bV Y 632)
def zY (T:List D->D->Prop):Prop:=∀(c:aY) (x:Want),(c.w.sm/\x.sm)->T [aY.D c,Want.D x] (.int .i64 (e8 c.w.us x))
def E7 (Y:Ctx):Prop:=zY (bV Y 1027)
def DJ (T:List D->D->Prop):Prop:=∀(c:aY) (row:ar) (k:Int) (x:Want),((c.w.sm/\x.sm)/\0<=k/\k<=30)->T [aY.D c,ar.D row,.int .i64 k,Want.D x] (.bool (tD c.w.us row k x))
def NN (Y:Ctx):Prop:=DJ (bV Y 934)
def DF (T:List D->D->Prop):Prop:=∀(c:aY) (row:ar) (k:Int) (x:Want),((c.w.sm/\x.sm)/\0<=k/\k<=30)->T [aY.D c,ar.D row,.int .i64 k,Want.D x] (.bool (uz c.w.us row k x))
def NJ (Y:Ctx):Prop:=DF (bV Y 930)
def DE (T:List D->D->Prop):Prop:=∀(x:Want) (c:aY) (row:ar) (k:Int),((c.w.sm/\x.sm)/\0<=k/\k<=30)->T [Want.D x,.ref 3 [aY.D c] 0 0,.ref 5 [ar.D row] 0 0,.ref 1 [.int .i64 k] 0 0] (.bool (fB true c.w.us row k x))
def NI (Y:Ctx):Prop:=DE (bV Y 929)
def DI (T:List D->D->Prop):Prop:=∀(x:Want) (c:aY) (row:ar) (k:Int),((c.w.sm/\x.sm)/\0<=k/\k<=30)->T [Want.D x,.ref 3 [aY.D c] 0 0,.ref 5 [ar.D row] 0 0,.ref 1 [.int .i64 k] 0 0] (.bool (fB false c.w.us row k x))
def NM (Y:Ctx):Prop:=DI (bV Y 933)
def zX (T:List D->D->Prop):Prop:=∀(l:List Want) (b:Bool) (c:aY) (row:ar) (k:Int),((c.w.sm/\∀x∈l,x.sm)/\0<=k/\k<=30)->T [.sl 3 (l.map Want.D),.fn (bif b then 929 else 933) [.ref 3 [aY.D c] 0 0,.ref 5 [ar.D row] 0 0,.ref 1 [.int .i64 k] 0 0]] (.int .i64 (iw (fB b c.w.us row k) l 0))
def JY (Y:Ctx):Prop:=zX (bV Y 1026)
def DC (T:List D->D->Prop):Prop:=∀(l:List Want) (b:Bool) (c:aY) (row:ar) (k:Int),((c.w.sm/\∀x∈l,x.sm)/\0<=k/\k<=30)->T [.sl 3 (l.map Want.D),.fn (bif b then 929 else 933) [.ref 3 [aY.D c] 0 0,.ref 5 [ar.D row] 0 0,.ref 1 [.int .i64 k] 0 0]] (.bool (l.any (fB b c.w.us row k)))
def K5 (Y:Ctx):Prop:=DC (bV Y 928)
def DH (T:List D->D->Prop):Prop:=∀(x:List Want) (c:aY) (row:ar) (k:Int),((c.w.sm/\∀w∈x,w.sm)/\0<=k/\k<=30)->T [.sl 3 (x.map Want.D),.ref 3 [aY.D c] 0 0,.ref 5 [ar.D row] 0 0,.ref 1 [.int .i64 k] 0 0] (.bool (gC c.w.us row k x))
def NL (Y:Ctx):Prop:=DH (bV Y 932)
def zZ (T:List D->D->Prop):Prop:=∀(l:List kp) (c:aY) (row:ar) (k:Int),((c.w.sm/\∀r∈l,∀x∈r,x.sm)/\0<=k/\k<=30)->T [.sl 1 (l.map dF),.fn 932 [.ref 3 [aY.D c] 0 0,.ref 5 [ar.D row] 0 0,.ref 1 [.int .i64 k] 0 0]] (.int .i64 (iw (gC c.w.us row k) l 0))
def JZ (Y:Ctx):Prop:=zZ (bV Y 1028)
def DG (T:List D->D->Prop):Prop:=∀(l:List kp) (c:aY) (row:ar) (k:Int),((c.w.sm/\∀r∈l,∀x∈r,x.sm)/\0<=k/\k<=30)->T [.sl 1 (l.map dF),.fn 932 [.ref 3 [aY.D c] 0 0,.ref 5 [ar.D row] 0 0,.ref 1 [.int .i64 k] 0 0]] (.bool (l.any (gC c.w.us row k)))
def NK (Y:Ctx):Prop:=DG (bV Y 931)
def Dx (T:List D->D->Prop):Prop:=∀(c:aY) (row:ar) (k:Int) (mild:Bool),((c.w.sm/\0<=row.unit/\row.unit<c.w.us.length)/\0<=k/\k<c.w.us[row.unit.toNat]!.cands.length)->T [aY.D c,ar.D row,.int .i64 k,.bool mild] (.bool (mB c.w.us row k.toNat mild))
def NA (Y:Ctx):Prop:=Dx (bV Y 785)
def Dw (T:List D->D->Prop):Prop:=∀(t:bK) (row:ar),T [bK.D t,.ref 5 [ar.D row] 0 0] (.bool (decide (t.u=row.unit)))
def Nz (Y:Ctx):Prop:=Dw (bV Y 784)
def Dd (T:List D->D->Prop):Prop:=∀(l:List bK) (row:ar),T [.sl 2 (l.map bK.D),.fn 784 [.ref 5 [ar.D row] 0 0]] (.int .i64 (iw (fun t=>decide (t.u=row.unit)) l 0))
def Nd (Y:Ctx):Prop:=Dd (bV Y 615)
def Dj (T:List D->D->Prop):Prop:=∀(c:aY) (row:ar) (mild:Bool),(c.w.sm/\eN c.w.us row.terms=true)->T [aY.D c,ar.D row,.bool mild] (.bool (iq c.w.us row mild))
def Nj (Y:Ctx):Prop:=Dj (bV Y 635)
def qc (T:List D->D->Prop):Prop:=T [.agg []] (.bool true)
def J1 (Y:Ctx):Prop:=qc (bV Y 1178)
def z6 (T:List D->D->Prop):Prop:=∀(b:Bool),T [.agg [.bool b]] (.bool true)
def J2 (Y:Ctx):Prop:=z6 (bV Y 1179)
def J3 (Y:Ctx):Prop:=qc (bV Y 1180)
def z7 (T:List D->D->Prop):Prop:=T [.agg []] (.bool false)
def J4 (Y:Ctx):Prop:=z7 (bV Y 1181)
def Dh (T:List D->D->Prop):Prop:=∀(k:Int),T [.int .i64 k] (vZ k)
def Ni (Y:Ctx):Prop:=Dh (bV Y 633)
def Dl (T:List D->D->Prop):Prop:=∀(c:aY) (row:ar) (i:Int),((c.w.sm/\RowsIn c.rows)/\i<=c.rows.length)->T [aY.D c,ar.D row,.int .i64 i] (.bool (jL c row i))
def Nk (Y:Ctx):Prop:=Dl (bV Y 637)
def CV (T:List D->D->Prop):Prop:=∀(c:aY) (i:Int),(c.w.sm/\RowsIn c.rows)->T [aY.D c,.int .i64 i] (.bool (dn c i))
def MX (Y:Ctx):Prop:=CV (bV Y 425)
def CG (T:List D->D->Prop):Prop:=∀(w:bI) (allow:List Int) (rows:List ar) (i:Int),(w.sm/\RowsIn rows)->T [bI.D w,.sl 1 (allow.map (D.int .i64)),.sl 5 (rows.map ar.D),.int .i64 i] (.bool (dn ⟨w,allow,rows⟩ i))
def KF (Y:Ctx):Prop:=CG (bV Y 198)
def HV (T:List D->D->Prop):Prop:=∀(w:bI) (allow:List Int) (rows:List ar),(w.sm/\RowsIn rows)->T [bI.D w,.sl 1 (allow.map (D.int .i64)),.sl 5 (rows.map ar.D)] (.tup [.int .i64 (gG (okW w allow) (fun j=>dn ⟨w,allow,rows⟩ ((j:Nat):Int)) rows).1,.bool (gG (okW w allow) (fun j=>dn ⟨w,allow,rows⟩ ((j:Nat):Int)) rows).2])
def C65 (Y:Ctx):Prop:=HV (bV Y 65)
def HT (T:List D->D->Prop):Prop:=∀(w:bI) (ks:List Int),(w.sm/\w.us.length<=1000)->T [bI.D w,.sl 1 (ks.map (D.int .i64))] (.sl 1 ((iQ w.us ks).map (D.int .i64)))
def C37 (Y:Ctx):Prop:=HT (bV Y 37)
def CF (T:List D->D->Prop):Prop:=T [] (bI.D jf)
def MQ (Y:Ctx):Prop:=CF (bV Y 197)
section
def lC:List ar:=[⟨1,0,0,0,[⟨0,1⟩]⟩,⟨2,0,0,0,[⟨0,2⟩]⟩,⟨5,0,0,1,[]⟩]
def OX (l:List ar):Int×Bool:=gG (okW jf []) (fun j=>dn ⟨jf,[],l⟩ ((j:Nat):Int)) l
set_option maxRecDepth 100000 in
theorem Lq:OX lC=(3,true):=by decide+kernel
set_option maxRecDepth 100000 in
theorem Lr:OX (lC.drop 1)=(1,false):=by decide+kernel
set_option maxRecDepth 100000 in
theorem Ls:dn ⟨jf,[],lC⟩ 2=true:=by decide+kernel
def jZ:jf.sm:=by
 intro u hu;simp only[jf,dq,dR,or_false]at hu;rcases hu with rfl|rfl
 .refine⟨bJ,fun c hc=>?_⟩;obtain rfl:=bl.1 hc;refine⟨rC,fun r hr x hx=>?_,fun x hx=>by cases hx⟩;obtain rfl:=bl.1 hr;obtain rfl:=bl.1 hx;exact BC
 .exact⟨bJ,fun c hc=>by cases hc⟩
def nE:RowsIn lC:=by
 intro r hr t ht;simp only[lC,dq,dR,or_false]at hr;rcases hr with rfl|rfl|rfl
 .obtain rfl:=bl.1 ht;exact⟨bJ,bJ⟩
 .obtain rfl:=bl.1 ht;exact⟨bJ,bJ⟩
 .cases ht
def wo:RowsIn (lC.drop 1):=fun r hr=>nE r (List.mem_of_mem_drop hr)
end
def HU (T:List D->D->Prop):Prop:=T [] (.bool true)
def C63 (Y:Ctx):Prop:=HU (bV Y 63)
def Ic (Y:Ctx):Prop:=∀(w:bI),(w.sm/\w.us.length<=1000)->∀(nx:Nat) (m:List (Nat×bz)) (K:D->St->Prop),K (.own nx 1 0 w.us.length) ⟨nx+1,(nx,.buf 1 (((kL w.us)).map (D.int .i64)))::m⟩->Y.tr 436 [bI.D w] ⟨nx,m⟩ K
def CY (T:List D->D->Prop):Prop:=∀(w:bI) (ms:List Int),(w.sm/\ms.length<=1000)->T [bI.D w,.sl 1 (ms.map (D.int .i64))] (.tup [.sl 2 ((hH w.us ms).1.map bK.D),.bool (hH w.us ms).2])
def KO (Y:Ctx):Prop:=CY (bV Y 437)
def CH (T:List D->D->Prop):Prop:=∀(w:bI) (l:List bK),(w.sm/\w.us.length<=1000)->T [bI.D w,.sl 2 (l.map bK.D)] (.tup [.sl 2 ((tM w.us l).1.map bK.D),.bool (tM w.us l).2])
def KH (Y:Ctx):Prop:=CH (bV Y 204)
def C0 (T:List D->D->Prop):Prop:=∀(w:bI) (a:List bK) (b:List bK) (u:Int),(w.sm/\w.us.length<=1000)->T [bI.D w,.sl 2 (a.map bK.D),.sl 2 (b.map bK.D),.int .i64 u] (.tup [.sl 2 ((fT w.us a b u).1.map bK.D),.bool (fT w.us a b u).2])
def M0 (Y:Ctx):Prop:=C0 (bV Y 439)
def CE (T:List D->D->Prop):Prop:=∀(w:bI) (c:List Int) (u:Int),(w.sm)->T [bI.D w,.sl 1 (c.map (D.int .i64)),.int .i64 u] (.int .i64 (mq w.us c u))
def MP (Y:Ctx):Prop:=CE (bV Y 185)
def Dp (T:List D->D->Prop):Prop:=∀(w:bI) (t:bK) (c:List Int),(w.sm)->T [bI.D w,bK.D t,.sl 1 (c.map (D.int .i64))] (.bool (qu w.us c t))
def Np (Y:Ctx):Prop:=Dp (bV Y 657)
def Dm (T:List D->D->Prop):Prop:=∀(a:List bK) (b:List bK),T [.sl 2 (a.map bK.D),.sl 2 (b.map bK.D)] (.bool (decide (a=b)))
def Nl (Y:Ctx):Prop:=Dm (bV Y 654)
def Dn (T:List D->D->Prop):Prop:=∀(l:List bK) (u:Int),(l.length<=10000)->T [.sl 2 (l.map bK.D),.int .i64 u] (.sl 2 ((kJ l u).map bK.D))
def Nn (Y:Ctx):Prop:=Dn (bV Y 655)
def xZ (T:List D->D->Prop):Prop:=∀(l:List bK),(l.length<=10000)->T [.sl 2 (l.map bK.D)] (.sl 2 ((wv l).map bK.D))
def No (Y:Ctx):Prop:=xZ (bV Y 656)
def CZ (T:List D->D->Prop):Prop:=∀(p:jD) (c:List Int),(p.w.sm)->T [.ref 3 [jD.D p] 0 0,.sl 1 (c.map (D.int .i64))] (.int .i64 (jQ p.w.us p.facts c))
def MZ (Y:Ctx):Prop:=CZ (bV Y 438)
def KI (Y:Ctx):Prop:=(∀(w:bI) (al:List Int) (facts:List ar) (c:List Int) (rows:List ar),rD w al facts c rows->∀(nx lp ln lc:Nat) (m:List (Nat×bz)) (K:D->St->Prop),look m lp=some (.buf 3 [jD.D ⟨w,facts,.own ln 5 0 rows.length⟩])->look m ln=some (.buf 5 (rows.map ar.D))->look m lc=some (.buf 1 (c.map (D.int .i64)))->(lp<nx/\ln<nx/\lc<nx)->K (.int .i64 (en w.us facts c rows).1) ⟨nx+1,(nx,.buf 5 ((en w.us facts c rows).2.map ar.D))::cH (cv (cv m ln) lc) lp (.buf 3 [jD.D ⟨w,facts,.own nx 5 0 (en w.us facts c rows).2.length⟩])⟩->Y.tr 205 [.ptr lp 3 0 0,.own lc 1 0 c.length] ⟨nx,m⟩ K)/\(∀(w:bI) (al:List Int) (facts:List ar) (rows:List ar),rD w al facts [] rows->∀(nx lp ln:Nat) (m:List (Nat×bz)) (K:D->St->Prop),look m lp=some (.buf 3 [jD.D ⟨w,facts,.own ln 5 0 rows.length⟩])->look m ln=some (.buf 5 (rows.map ar.D))->(lp<nx/\ln<nx)->K (.int .i64 (en w.us facts [] rows).1) ⟨nx+1,(nx,.buf 5 ((en w.us facts [] rows).2.map ar.D))::cH (cv m ln) lp (.buf 3 [jD.D ⟨w,facts,.own nx 5 0 (en w.us facts [] rows).2.length⟩])⟩->Y.tr 205 [.ptr lp 3 0 0,.aA] ⟨nx,m⟩ K)
def J5 (Y:Ctx)(u:Nat):Prop:=(∀(w:bI) (al:List Int) (facts:List ar) (c:List Int) (rows:List ar),rD w al facts c rows->(w.us.length-c.length)<u->∀(nx lp ln lc:Nat) (m:List (Nat×bz)) (K:D->St->Prop),look m lp=some (.buf 3 [jD.D ⟨w,facts,.own ln 5 0 rows.length⟩])->look m ln=some (.buf 5 (rows.map ar.D))->look m lc=some (.buf 1 (c.map (D.int .i64)))->(lp<nx/\ln<nx/\lc<nx)->K (.int .i64 (en w.us facts c rows).1) ⟨nx+1,(nx,.buf 5 ((en w.us facts c rows).2.map ar.D))::cH (cv (cv m ln) lc) lp (.buf 3 [jD.D ⟨w,facts,.own nx 5 0 (en w.us facts c rows).2.length⟩])⟩->Y.tr 205 [.ptr lp 3 0 0,.own lc 1 0 c.length] ⟨nx,m⟩ K)/\(∀(w:bI) (al:List Int) (facts:List ar) (rows:List ar),rD w al facts [] rows->w.us.length<u->∀(nx lp ln:Nat) (m:List (Nat×bz)) (K:D->St->Prop),look m lp=some (.buf 3 [jD.D ⟨w,facts,.own ln 5 0 rows.length⟩])->look m ln=some (.buf 5 (rows.map ar.D))->(lp<nx/\ln<nx)->K (.int .i64 (en w.us facts [] rows).1) ⟨nx+1,(nx,.buf 5 ((en w.us facts [] rows).2.map ar.D))::cH (cv m ln) lp (.buf 3 [jD.D ⟨w,facts,.own nx 5 0 (en w.us facts [] rows).2.length⟩])⟩->Y.tr 205 [.ptr lp 3 0 0,.aA] ⟨nx,m⟩ K)
def KN (Y:Ctx):Prop:=∀(w:bI) (rows:List ar) (r:ar),((w.sm/\w.us.length<=48)/\((∀x∈rows,x.terms.length<=48)/\rows.length<=10000000)/\r.terms.length<=48)->∀(nx lo:Nat) (m:List (Nat×bz)) (K:D->St->Prop),look m lo=some (.buf 5 (rows.map ar.D))->lo<nx->K (.own nx 5 0 (mh w.us rows r).length) ⟨nx+1,(nx,.buf 5 ((mh w.us rows r).map ar.D))::cv m lo⟩->Y.tr 435 [bI.D w,.own lo 5 0 rows.length,ar.D r] ⟨nx,m⟩ K
def CX (T:List D->D->Prop):Prop:=∀(w:bI) (u:Nat) (k:Nat) (l:List Want) (bar:Bool),((w.sm/\w.us.length<=1000)/\(∀x∈l,x.sm)/\l.length<=1000/\k<=30)->T [bI.D w,.int .i64 ((u:Nat):Int),.int .i64 ((k:Nat):Int),.sl 3 (l.map Want.D),.bool bar] (.tup [.sl 2 ((dS w.us u k l bar).1.map bK.D),.bool (dS w.us u k l bar).2])
def MY (Y:Ctx):Prop:=CX (bV Y 434)
def KG (Y:Ctx):Prop:=∀(w:bI),Iw w->∀(nx:Nat) (m:List (Nat×bz)) (K:D->St->Prop),K (.own nx 5 0 (kK w.us).length) ⟨nx+1,(nx,.buf 5 ((kK w.us).map ar.D))::m⟩->Y.tr 203 [bI.D w] ⟨nx,m⟩ K
def HW (T:List D->D->Prop):Prop:=∀(w:bI) (allow:List Int),(Iw w)->T [bI.D w,.sl 1 (allow.map (D.int .i64))] (.sl 5 (((fj w.us allow).getD []).map ar.D))
def C66 (Y:Ctx):Prop:=HW (bV Y 66)
def KJ (Y:Ctx):Prop:=∀(o:Option (List ar)),((o.getD []).length<=100000/\∀r∈(o.getD []),r.terms.length<=1000)->∀(nx:Nat) (m:List (Nat×bz)) (K:D->St->Prop),K (.own nx 5 0 (o.getD []).length) ⟨nx+1,(nx,.buf 5 ((o.getD []).map ar.D))::m⟩->Y.tr 206 [Gq o] ⟨nx,m⟩ K
def z8 (T:List D->D->Prop):Prop:=∀(a:List Int) (b:List Int) (n:Int),T [.sl 1 (a.map (D.int .i64)),.sl 1 (b.map (D.int .i64)),.int .i64 n] (.bool true)
def bW {p:Prop}(h:p:=by((repeat intro _);exact okp OZ (.inl (by assumption)) fun T hT=>(by apply hT<;>assumption))):p:=h
def bG {t:List (Nat×k9)}{key u q:Nat}:((under t key u).at q).cF:=ox t key u q
section
def MM (T:FT):Prop:=∀(g:Gs) (n:Int),(n<=9223372036854775807)->(0<=g.i/\g.i<=1000000)->T (Gs.D g) [.int .i64 n] (.int .i64 (g.val n)) (Gs.D g.bo)
def NQ:Ah (tx MM):=OY
def Ly:MC (tz xZ):=FK (by intro l _ l2 _ e;simp only[q8,D.sl.injEq,F4,b7,ca]at e;rw[e])
def NR:MC (tz z8):=OZ
def bD:List (Nat×k9):=[(25,rP 1 HR),(36,rP 15 HS),(37,rP 3 HT),(63,rP 24 HU),(65,rP 23 HV),(66,rP 14 HW),(109,rF 2 MM),(112,rP 1 Cy),(154,rG 3 KB),(155,rG 14 KC),(156,rP 8 Cz),(157,rG 13 H7),(158,rP 2 CA),(159,rP 1 CB),(175,rP 12 CD),(185,rP 2 CE),(197,rP 4 CF),(198,rP 22 CG),(203,rG 13 KG),(204,rP 4 CH),(205,rG 5 KI (LO)),(206,rG 1 KJ),(209,rP 4 sC),(217,rP 4 sC),(295,rP 5 sD),(374,rP 3 CI),(375,rP 1 CJ),(376,rP 2 CL),(377,rP 2 CM),(378,rP 3 CN),(379,rP 7 CO),(380,rG 12 KL),(381,rP 1 CP),(406,rP 3 CR),(408,rP 3 CS),(409,rP 11 CT),(415,rP 11 CU),(424,rP 5 sD),(425,rP 21 CV),(434,rP 12 CX),(435,rG 4 KN),(436,rG 3 Ic),(437,rP 3 CY),(438,rP 4 CZ),(439,rP 4 C0),(440,rP 1 sE),(441,rP 3 C1),(442,rP 2 C2),(454,rP 1 C3),(455,rP 1 sE),(456,rP 3 C4),(470,rP 1 sI),(516,rP 2 sF),(530,rP 1 sG),(531,rP 1 C5),(532,rP 2 sH),(533,rP 1 sI),(534,rP 3 sJ),(598,rP 2 C6),(599,rP 1 sG),(600,rP 1 C7),(601,rP 1 C8),(602,rP 6 C9),(603,rP 1 Da),(604,rP 11 Db),(605,rP 10 Dc),(615,rP 2 Dd),(622,rP 10 De),(627,rP 10 sK),(630,rP 1 sH),(631,rP 4 Df),(632,rP 2 Dg),(633,rP 1 Dh),(634,rP 2 Di),(635,rP 20 Dj),(636,rP 1 Dk),(637,rP 3 Dl),(654,rP 1 Dm),(655,rP 1 Dn),(656,rP 1 xZ),(657,rP 3 Dp),(658,rP 1 sL),(659,rP 1 sM),(666,rP 1 Dq),(667,rP 2 sL),(668,rP 1 sM),(704,rP 1 Dr),(712,rP 10 sK),(714,rP 1 Ds),(769,rP 5 Dt),(770,rP 9 sN),(771,rP 10 Du),(772,rP 9 Dv),(780,rP 9 sN),(782,rP 9 sO),(783,rP 3 sJ),(784,rP 1 Dw),(785,rP 19 Dx),(861,rP 9 sO),(916,rP 8 sP),(917,rP 2 Dy),(918,rG 9 K1),(919,rP 8 Dz),(920,rP 7 DA),(921,rG 7 Ik),(924,rP 1 DB),(925,rP 8 sP),(926,rP 8 sQ),(927,rP 1 sF),(928,rP 15 DC),(929,rP 13 DE),(930,rP 12 DF),(931,rP 18 DG),(932,rP 16 DH),(933,rP 13 DI),(934,rP 12 DJ),(980,rP 8 sQ),(1019,rP 7 p8),(1020,rP 6 p9),(1021,rP 7 zW),(1023,rP 7 p8),(1024,rP 6 p9),(1025,rP 6 qa),(1026,rP 14 zX),(1027,rP 11 zY),(1028,rP 17 zZ),(1055,rP 6 qa),(1086,rP 5 qb),(1087,rP 5 qb),(1178,rP 1 qc),(1179,rP 1 z6),(1180,rP 1 qc),(1181,rP 1 z7),(1213,rP 25 z8)]
variable {k u v:Nat}
def G25 (hk:1<k:=by decide):C25 (under bD k u):=bW
def G36 (hk:15<k:=by decide):C36 (under bD k u):=bW
def G37 (hk:3<k:=by decide):C37 (under bD k u):=bW
def G63 (hk:24<k:=by decide):C63 (under bD k u):=bW
def G65 (hk:23<k:=by decide):C65 (under bD k u):=bW
def G66 (hk:14<k:=by decide):C66 (under bD k u):=bW
def Fi (hk:2<k:=by decide):DL (under bD k u):=fun g n hp0 hp1=>okf NQ hk fun T h=>h g n hp0 hp1
def G112 (hk:1<k:=by decide):MN (under bD k u):=bW
def G154 (hk:3<k:=by decide):KB (under bD k u):=fun g few hp0 nx m K h0 hx hK=>Ce (.inl hk) fun T _ h=>h g few hp0 nx m K h0 hx hK
def G155 (hk:14<k:=by decide):KC (under bD k u):=fun g n nm ft cs kk E most hE hp0 nx m K hx hW hK=>Ce (.inl hk) fun T _ h=>h g n nm ft cs kk E most hE hp0 nx m K hx hW hK
def N1 (hk:8<k:=by decide):KD (under bD k u):=bW
def N2 (hk:13<k:=by decide):H7 (under bD k u):=fun g n nm ft cs kk E hE hp0 nx m K hx hW hK=>Ce (.inl hk) fun T _ h=>h g n nm ft cs kk E hE hp0 nx m K hx hW hK
def yd (hk:2<k:=by decide):x9 (under bD k u):=bW
def N3 (hk:1<k:=by decide):KE (under bD k u):=bW
def G175 (hk:12<k:=by decide):MO (under bD k u):=bW
def G185 (hk:2<k:=by decide):MP (under bD k u):=bW
def G197 (hk:4<k:=by decide):MQ (under bD k u):=bW
def N4 (hk:22<k:=by decide):KF (under bD k u):=bW
def G203 (hk:13<k:=by decide):KG (under bD k u):=fun w hp0 nx m K hK=>Ce (.inl hk) fun T _ h=>h w hp0 nx m K hK
def N5 (hk:4<k:=by decide):KH (under bD k u):=bW
def G205 (hk:5<k:=by decide):KI (under bD k u):=⟨fun w al facts c rows hp nx lp ln lc m K h1 h2 h3 hx hK=>Ce (.inl hk) fun T _ h=>h.1 w al facts c rows hp nx lp ln lc m K h1 h2 h3 hx hK,fun w al facts rows hp nx lp ln m K h1 h2 hx hK=>Ce (.inl hk) fun T _ h=>h.2 w al facts rows hp nx lp ln m K h1 h2 hx hK⟩
def J9 (hv:v<=u):J5 (under bD 5 u) v:=⟨fun w al facts c rows hp hu nx lp ln lc m K h1 h2 h3 hx hK=>Ce (.inr ⟨rfl,by rw[show(lk bD 205 ku).muE=LO from rfl,B9 h1];exact jg hu hv⟩) fun T _ h=>h.1 w al facts c rows hp nx lp ln lc m K h1 h2 h3 hx hK,fun w al facts rows hp hu nx lp ln m K h1 h2 hx hK=>Ce (.inr ⟨rfl,by rw[show(lk bD 205 ku).muE=LO from rfl,B8 h1];exact jg hu hv⟩) fun T _ h=>h.2 w al facts rows hp nx lp ln m K h1 h2 hx hK⟩
def G206 (hk:1<k:=by decide):KJ (under bD k u):=fun o hp0 nx m K hK=>Ce (.inl hk) fun T _ h=>h o hp0 nx m K hK
def DO (hk:4<k:=by decide):Ag (under bD k u):=bW
def ye (hk:4<k:=by decide):wK (under bD k u):=bW
def K6 (hk:5<k:=by decide):H8 (under bD k u):=bW
def N6 (hk:3<k:=by decide):KK (under bD k u):=bW
def Im (hk:1<k:=by decide):E8 (under bD k u):=bW
def K7 (hk:2<k:=by decide):H9 (under bD k u):=bW
def G377 (hk:2<k:=by decide):MR (under bD k u):=bW
def G378 (hk:3<k:=by decide):MS (under bD k u):=bW
def G379 (hk:7<k:=by decide):MT (under bD k u):=bW
def G380 (hk:12<k:=by decide):KL (under bD k u):=fun g xs hp0 kk E hE nx lc m K hn h0 h1 h10 hK=>Ce (.inl hk) fun T _ h=>h g xs hp0 kk E hE nx lc m K hn h0 h1 h10 hK
def K8 (hk:1<k:=by decide):Ia (under bD k u):=bW
def Io (hk:3<k:=by decide):Ib (under bD k u):=bW
def G408 (hk:3<k:=by decide):MU (under bD k u):=bW
def G409 (hk:11<k:=by decide):MV (under bD k u):=bW
def G415 (hk:11<k:=by decide):MW (under bD k u):=bW
def N7 (hk:5<k:=by decide):KM (under bD k u):=bW
def G425 (hk:21<k:=by decide):MX (under bD k u):=bW
def G434 (hk:12<k:=by decide):MY (under bD k u):=bW
def G435 (hk:4<k:=by decide):KN (under bD k u):=fun w rows r hp0 nx lo m K h1 h2 hK=>Ce (.inl hk) fun T _ h=>h w rows r hp0 nx lo m K h1 h2 hK
def N8 (hk:3<k:=by decide):Ic (under bD k u):=fun w hp0 nx m K hK=>Ce (.inl hk) fun T _ h=>h w hp0 nx m K hK
def N9 (hk:3<k:=by decide):KO (under bD k u):=bW
def Oa (hk:4<k:=by decide):MZ (under bD k u):=bW
def Ob (hk:4<k:=by decide):M0 (under bD k u):=bW
def G440 (hk:1<k:=by decide):M1 (under bD k u):=bW
def G441 (hk:3<k:=by decide):M3 (under bD k u):=bW
def Oc (hk:2<k:=by decide):KP (under bD k u):=bW
def G454 (hk:1<k:=by decide):M4 (under bD k u):=bW
def G455 (hk:1<k:=by decide):M5 (under bD k u):=bW
def G456 (hk:3<k:=by decide):M6 (under bD k u):=bW
def Od (hk:1<k:=by decide):KQ (under bD k u):=bW
def Oe (hk:2<k:=by decide):KR (under bD k u):=bW
def G530 (hk:1<k:=by decide):M7 (under bD k u):=bW
def Of (hk:1<k:=by decide):KS (under bD k u):=bW
def K9 (hk:2<k:=by decide):Ie (under bD k u):=bW
def La (hk:1<k:=by decide):Ig (under bD k u):=bW
def G534 (hk:3<k:=by decide):M8 (under bD k u):=bW
def G598 (hk:2<k:=by decide):M9 (under bD k u):=bW
def Og (hk:1<k:=by decide):KT (under bD k u):=bW
def Oh (hk:1<k:=by decide):KU (under bD k u):=bW
def Lb (hk:1<k:=by decide):Ih (under bD k u):=bW
def G602 (hk:6<k:=by decide):Na (under bD k u):=bW
def Lc (hk:1<k:=by decide):Ii (under bD k u):=bW
def G604 (hk:11<k:=by decide):Nb (under bD k u):=bW
def G605 (hk:10<k:=by decide):Nc (under bD k u):=bW
def G615 (hk:2<k:=by decide):Nd (under bD k u):=bW
def G622 (hk:10<k:=by decide):Nf (under bD k u):=bW
def G627 (hk:10<k:=by decide):Ng (under bD k u):=bW
def Ip (hk:1<k:=by decide):E9 (under bD k u):=bW
def G631 (hk:4<k:=by decide):Nh (under bD k u):=bW
def Oi (hk:2<k:=by decide):KV (under bD k u):=bW
def G633 (hk:1<k:=by decide):Ni (under bD k u):=bW
def Iq (hk:2<k:=by decide):Fa (under bD k u):=bW
def G635 (hk:20<k:=by decide):Nj (under bD k u):=bW
def Fj (hk:1<k:=by decide):DM (under bD k u):=bW
def G637 (hk:3<k:=by decide):Nk (under bD k u):=bW
def G654 (hk:1<k:=by decide):Nl (under bD k u):=bW
def G655 (hk:1<k:=by decide):Nn (under bD k u):=bW
def G656 (hk:1<k:=by decide):No (under bD k u):=fun l hp0=>okp Ly (.inl hk) fun T hT=>hT l hp0
def G657 (hk:3<k:=by decide):Np (under bD k u):=bW
def Oj (hk:1<k:=by decide):KW (under bD k u):=bW
def Ol (hk:1<k:=by decide):KX (under bD k u):=bW
def G666 (hk:1<k:=by decide):Nq (under bD k u):=bW
def Om (hk:2<k:=by decide):KY (under bD k u):=bW
def On (hk:1<k:=by decide):KZ (under bD k u):=bW
def G704 (hk:1<k:=by decide):Nr (under bD k u):=bW
def G712 (hk:10<k:=by decide):Ns (under bD k u):=bW
def G714 (hk:1<k:=by decide):Nt (under bD k u):=bW
def G769 (hk:5<k:=by decide):Nu (under bD k u):=bW
def Ld (hk:9<k:=by decide):Ij (under bD k u):=bW
def G771 (hk:10<k:=by decide):Nv (under bD k u):=bW
def G772 (hk:9<k:=by decide):Nw (under bD k u):=bW
def Oo (hk:9<k:=by decide):K0 (under bD k u):=bW
def G782 (hk:9<k:=by decide):Nx (under bD k u):=bW
def G783 (hk:3<k:=by decide):Ny (under bD k u):=bW
def G784 (hk:1<k:=by decide):Nz (under bD k u):=bW
def G785 (hk:19<k:=by decide):NA (under bD k u):=bW
def G861 (hk:9<k:=by decide):NB (under bD k u):=bW
def Ir (hk:8<k:=by decide):Fb (under bD k u):=bW
def G917 (hk:2<k:=by decide):NC (under bD k u):=bW
def G918 (hk:9<k:=by decide):K1 (under bD k u):=fun l hp0 nx lo m K h1 h2 hK=>Ce (.inl hk) fun T _ h=>h l hp0 nx lo m K h1 h2 hK
def Oq (hk:8<k:=by decide):K2 (under bD k u):=bW
def Ot (hk:7<k:=by decide):K3 (under bD k u):=bW
def Ou (hk:7<k:=by decide):Ik (under bD k u):=fun out f t hp0 nx lo m K h1 h2 hK=>Ce (.inl hk) fun T _ h=>h out f t hp0 nx lo m K h1 h2 hK
def G924 (hk:1<k:=by decide):ND (under bD k u):=bW
def Ov (hk:8<k:=by decide):K4 (under bD k u):=bW
def G926 (hk:8<k:=by decide):NG (under bD k u):=bW
def G927 (hk:1<k:=by decide):NH (under bD k u):=bW
def Ox (hk:15<k:=by decide):K5 (under bD k u):=bW
def G929 (hk:13<k:=by decide):NI (under bD k u):=bW
def G930 (hk:12<k:=by decide):NJ (under bD k u):=bW
def G931 (hk:18<k:=by decide):NK (under bD k u):=bW
def G932 (hk:16<k:=by decide):NL (under bD k u):=bW
def G933 (hk:13<k:=by decide):NM (under bD k u):=bW
def G934 (hk:12<k:=by decide):NN (under bD k u):=bW
def G980 (hk:8<k:=by decide):NO (under bD k u):=bW
def Ff (hk:7<k:=by decide):Bx (under bD k u):=bW
def yc (hk:6<k:=by decide):vB (under bD k u):=bW
def NS (hk:7<k:=by decide):JW (under bD k u):=bW
def J6 (hk:7<k:=by decide):E5 (under bD k u):=bW
def J7 (hk:6<k:=by decide):E6 (under bD k u):=bW
def NT (hk:6<k:=by decide):JX (under bD k u):=bW
def NU (hk:14<k:=by decide):JY (under bD k u):=bW
def J8 (hk:11<k:=by decide):E7 (under bD k u):=bW
def NV (hk:17<k:=by decide):JZ (under bD k u):=bW
def NW (hk:6<k:=by decide):J0 (under bD k u):=bW
def Fg (hk:5<k:=by decide):By (under bD k u):=bW
def Fh (hk:5<k:=by decide):Bz (under bD k u):=bW
def NX (hk:1<k:=by decide):J1 (under bD k u):=bW
def NY (hk:1<k:=by decide):J2 (under bD k u):=bW
def NZ (hk:1<k:=by decide):J3 (under bD k u):=bW
def N0 (hk:1<k:=by decide):J4 (under bD k u):=bW
end
def LS:List (Nat×Nat):=[(7,1213),(9,63),(10,36),(11,37),(12,206),(13,198),(15,65),(17,66),(19,25),(26,197),(27,154),(28,155),(29,156),(30,109),(31,157),(32,158),(33,159),(34,425),(37,406),(39,175),(41,203),(42,204),(43,205),(46,185),(48,374),(49,112),(50,217),(51,375),(52,376),(53,377),(54,378),(55,379),(56,380),(57,381),(58,632),(59,633),(60,634),(61,635),(62,636),(63,637),(68,408),(69,209),(70,295),(71,409),(73,434),(74,435),(75,436),(76,437),(77,438),(78,439),(79,415),(84,598),(85,455),(86,456),(87,599),(88,600),(89,601),(90,602),(91,603),(92,604),(93,605),(94,615),(95,784),(96,785),(99,531),(100,516),(101,440),(102,441),(103,442),(104,530),(105,532),(106,533),(107,534),(108,622),(111,424),(112,654),(113,655),(114,656),(115,657),(116,627),(120,470),(121,666),(122,667),(123,668),(124,769),(125,770),(126,771),(127,772),(128,928),(129,929),(130,930),(131,931),(132,932),(133,933),(134,934),(135,704),(136,658),(137,659),(138,714),(139,780),(142,630),(143,631),(144,782),(145,454),(146,916),(147,917),(148,918),(149,919),(150,920),(151,921),(152,1026),(153,1027),(154,1028),(155,924),(156,925),(157,783),(158,926),(159,1019),(160,1020),(161,1021),(162,712),(163,1023),(164,1024),(165,927),(166,1025),(167,1086),(168,861),(169,1087),(170,980),(171,1055),(187,1178),(188,1179),(189,1180),(190,1181),(1000000126,501178),(1000000129,501179),(1000000131,501180),(1000000132,501181)]
def D3:List Nat:=[219,1091,1354,1894,1896,1616,1320,1618,1898,2062,2066,2282,2068,2252,2194,2064,1904,900,931,937,935,445,978,1328,904,942,944,946,952,448,522,1008,1724,1726,1728,1430,486,500,1842,760,314,310,308,1836,872,870,406,410,412,500000000]
def bF:(Go.Proofs.Tryz.prog).follows .mixedOrders=true:=zzbk
abbrev Ow [dc](f n:Nat):Prop:=MD Go.Proofs.Tryz.prog LS D3 bD f n
abbrev Cp (f:Nat)(a:aE):Prop:=Ab Go.Proofs.Tryz.prog LS D3 f a
def ck {f:Nat}{a:aE}(h:((Go.Proofs.Tryz.prog).funcs[f]?).map (fun f=>(compile Go.Proofs.Tryz.prog LS D3 f,f.name== "runtime.NumGoroutine"))=some (some a,false):=by kernel_rfl):Cp f a:=h
end Go.Abs
