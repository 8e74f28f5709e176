/- A part of the proofs. -/
import Derived.Test.YtgnjlompgjhaaaaGreatDoorP08
set_option linter.all false
set_option maxRecDepth 60000
namespace Go.Abs
variable {Y:Ctx}(hm:(Y.at 0).b7)
noncomputable def kd:aC:=cP 116
def FA {Y:Ctx}(h:T8 Y){r:Ld}(hr:r.sm){p:List au}(hp:p<:+r.ls):Y.fp 468 (Ld.D (r.to p)) []/\Y.fv 468 (Ld.D (r.to p)) []=.str (cy p).1/\Y.fs 468 (Ld.D (r.to p)) []=Ld.D (r.to (cy p).2):=by
 have:=h (r.to p) (hr.to p);rw[Ld.yX hp]at this;exact this
def w467 {Y:Ctx}(hm:(Y.at 1).b7)(h124:NC (Y.at 1))(h465:T7 (Y.at 1))(h468:T8 (Y.at 1))(r:Ld)  (hp0:r.sm):bJ (Y.at 1) kd.body (NQ kd 2 (bp.D (eQ r.rest).1) (Ld.D (r.to (eQ r.rest).2)):Ex->List cg->St->Prop) (fD kd (.ptr 0 2 0 0::[])) ⟨1,[(0,.buf 2 [(Ld.D r)])]⟩:=by
 show bJ _ _ _ [⟨true,.ptr 0 2 0 0⟩,.un,.un,.un,.un,.un,.un,.un,.un,.un,.un,.un] ⟨1,[(0,.buf 2 [(Ld.D r)])]⟩;have hself:=Ld.Fp hp0;have hq0:=r.Bu;refine ar ?_;refine aE ?_;refine ba hm (ι:=(List bS×List au)) (fun p=>[⟨true,.ptr 0 2 0 0⟩,⟨true,.ptr 1 3 0 0⟩,.un,.un,.un,.un,.un,.un,⟨true,.ptr 2 3 0 0⟩,.un,.un,.un]) (fun p=>[(0,.buf 2 [Ld.D (r.to p.2)]),(1,.buf 3 [.agg [.bq,.str [],.str []]]),(2,.buf 3 [.agg [.own 3 4 0 (p.1).length,.str [],.str []]]),(3,.buf 4 (p.1.map bS.N))]) 10 (fun p=>p.2<:+r.ls/\p.1.length+p.2.length<=r.ls.length/\cE r.rest=(p.1++(cE p.2).1,(cE p.2).2)) (fun p=>p.2.length) ([],r.rest) ⟨hq0,by simpa using hq0.length_le,aJ⟩ (a7.to [(1,1),(2,2)] ah ah eh (by refine bo.nl 0 ah ah (by rw[hself]) ah ?_;refine bo.fW ah ah ah ?_;refine bo.ni 2 ah ah (by exact⟨_,_,rfl,⟨_,rfl,⟨_,_,rfl,Or.inr ⟨_,_,_,rfl⟩,⟨_,_,rfl,⟨rfl,rfl⟩,⟨_,_,rfl,⟨rfl,rfl⟩,rfl⟩⟩⟩⟩,rfl⟩) ?_;refine bo.mt ah ah ah ah ?_;exact bo.nil)) ?_;rintro⟨A,p⟩ ⟨hq1,hlen,hw⟩;dsimp only at hq1 hlen hw⊢;have hll:=hp0.1.2;refine ay ?_;refine nF (hc:=yO h465 hp0 (p:=p) hq1 (w:=gn) (n:=5) (op:=true) aF aF) ?_;refine aA ?_;refine eX _ ?_;refine cZ ?_;refine av (fun hc0=>?_) (fun hc0=>?_)
 .simp only[bd]at hc0;have hq:=jS hc0;have hnr:eR gn 5 true p=p:=by simp only[eR,hq]
  rw[hnr];have hw2:cE r.rest=(A,p):=by rw[hw,vI hq,gN]
  refine aB ?_;have hq3:=(kE p).trans hq1;refine aA ?_;refine nF (hc:=FA h468 hp0 hq1) ?_;refine aA ?_;refine aI (.agg [.own 3 4 0 A.length,.str (cy p).1,.str []]) (he:=aQ) ?_;refine aB ?_;refine nF (hc:=yO h465 hp0 (p:=(cy p).2) hq3 (w:=cT) (n:=2) (op:=false) aF aF) ?_;refine aA ?_;refine eX _ ?_;refine bL ?_;refine cF (fun hc3=>?_) fun hc3=>?_
  .refine aA ?_;obtain⟨⟨l,q2⟩,hq⟩:=jT hc3;have hnr:eR cT 2 false (cy p).2=q2:=by simp only[eR,hq]
   obtain⟨hl,hlm,hq2,hqp⟩:=oS hp0 hq3 hq;rw[hnr,hq];obtain hl:l.length=2:=by rcases hl with h|h;cases h;exact h
   refine aA ?_;refine bH 1 (hb:=fun _=>ae) ?_;refine bD (v:=.str l[1]!) (hi:=fun _=>ae) ?_;refine aA ?_;refine aI (.agg [.own 3 4 0 A.length,.str (cy p).1,.str l[1]!]) (he:=aQ) ?_;refine aA ?_;have hnp:eQ r.rest=(⟨A,(cy p).1,l[1]!⟩,q2):=by simp only[eQ,hw2,oo,hq]
   rw[hnp];refine eH 3 (hn:=br bS.oM _) (he:=by simp only[kS,iD,iN,lG,mU,cH,Nat.reduceEqDiff,aW,aX,cN,cr,ct,cS,cW,bQ,bN,aL,bY,aN,reduceCtorEq,aP,a8,Nat.reduceAdd,Nat.reduceLeDiff,Ld.D];exact rfl) (hm:=by simp only[kS,iD,iN,lG,mU,cH,Nat.reduceEqDiff,aW,aX,cN,cr,ct,cS,cW,bQ,bN,aL,bY,aN,reduceCtorEq,aP,a8,Nat.reduceAdd,Nat.reduceLeDiff,Ld.D];exact rfl) ?_;refine kF [(0,.buf 2 [Ld.D (r.to q2)]),(1,.buf 3 [.agg [.bq,.str [],.str []]]),(2,.buf 3 [bp.D ⟨A,(cy p).1,l[1]!⟩])] (.id ah (.id ah (.bf ah (.cons (.ag (.cons (.ss (.map fun x _=>x.wk)) (.rf _))) .nil) .nil))) ?_;refine aA ?_;refine cz (d:=bp.D ⟨A,(cy p).1,l[1]!⟩) ?_;refine aI (bp.D ⟨A,(cy p).1,l[1]!⟩) (he:=aQ) ?_;refine ax ?_;refine iA trivial rW (bR ah (?_)) ah ah ah;rfl
  refine aA ?_;have hq:=jS hc3;have hnr:eR cT 2 false (cy p).2=(cy p).2:=by simp only[eR,hq]
  rw[hnr];have hnp:eQ r.rest=(⟨A,(cy p).1,[]⟩,(cy p).2):=by simp only[eQ,hw2,oo,hq]
  rw[hnp];refine eH 3 (hn:=br bS.oM _) (he:=by simp only[kS,iD,iN,lG,mU,cH,Nat.reduceEqDiff,aW,aX,cN,cr,ct,cS,cW,bQ,bN,aL,bY,aN,reduceCtorEq,aP,a8,Nat.reduceAdd,Nat.reduceLeDiff,Ld.D];exact rfl) (hm:=by simp only[kS,iD,iN,lG,mU,cH,Nat.reduceEqDiff,aW,aX,cN,cr,ct,cS,cW,bQ,bN,aL,bY,aN,reduceCtorEq,aP,a8,Nat.reduceAdd,Nat.reduceLeDiff,Ld.D];exact rfl) ?_;refine kF [(0,.buf 2 [Ld.D (r.to (cy p).2)]),(1,.buf 3 [.agg [.bq,.str [],.str []]]),(2,.buf 3 [bp.D ⟨A,(cy p).1,[]⟩])] (.id ah (.id ah (.bf ah (.cons (.ag (.cons (.ss (.map fun x _=>x.wk)) (.rf _))) .nil) .nil))) ?_;refine aA ?_;refine cz (d:=bp.D ⟨A,(cy p).1,[]⟩) ?_;refine aI (bp.D ⟨A,(cy p).1,[]⟩) (he:=aQ) ?_;refine ax ?_;refine iA trivial rW (bR ah (?_)) ah ah ah;rfl
 simp only[bK]at hc0;obtain⟨⟨l,q2⟩,hq⟩:=jT hc0;have hnr:eR gn 5 true p=q2:=by simp only[eR,hq]
 obtain⟨hl,hlm,hq2,hqp⟩:=oS hp0 hq1 hq;rw[hnr,hq];obtain hl:l.length=5:=by rcases hl with h|h;cases h;exact h
 refine aB ?_;refine bH 3 (hb:=fun _=>ae) ?_;refine bD (v:=.str l[3]!) (hi:=fun _=>ae) ?_;refine ay ?_;refine bH 3 (hb:=fun _=>ae) ?_;refine bD (v:=.str l[3]!) (hi:=fun _=>ae) ?_;refine ay ?_;refine av (fun hc1=>?_) (fun hc1=>?_)
 .simp only[bB,bd,bc]at hc1;have hho:kT l=false:=by unfold kT;rw[cG (show ¬l[3]! =dF from hc1.1),cG (show ¬l[3]! =jb from hc1.2)];rfl
  have hw2:cE r.rest=(A,p):=by rw[hw,Kw hq hho,gN]
  obtain⟨t,hpt,_⟩:=dX hq;refine ax ?_;obtain⟨hab1,hab2⟩:=(hp0.to q2).1;refine ay ?_;refine aT (v:=.int .i64 ((r.to q2).at':Nat)) ?_;refine ay ?_;refine aI (Ld.D (r.to p)) (he:=by rw[hpt];exact Ld.back (hpt▸hq1)) ?_;refine aE ?_;have hq3:=(kE p).trans hq1;refine aA ?_;refine nF (hc:=FA h468 hp0 hq1) ?_;refine aA ?_;refine aI (.agg [.own 3 4 0 A.length,.str (cy p).1,.str []]) (he:=aQ) ?_;refine aB ?_;refine nF (hc:=yO h465 hp0 (p:=(cy p).2) hq3 (w:=cT) (n:=2) (op:=false) aF aF) ?_;refine aA ?_;refine eX _ ?_;refine bL ?_;refine cF (fun hc3=>?_) fun hc3=>?_
  .refine aA ?_;obtain⟨⟨l,q2⟩,hq⟩:=jT hc3;have hnr:eR cT 2 false (cy p).2=q2:=by simp only[eR,hq]
   obtain⟨hl,hlm,hq2,hqp⟩:=oS hp0 hq3 hq;rw[hnr,hq];obtain hl:l.length=2:=by rcases hl with h|h;cases h;exact h
   refine aA ?_;refine bH 1 (hb:=fun _=>ae) ?_;refine bD (v:=.str l[1]!) (hi:=fun _=>ae) ?_;refine aA ?_;refine aI (.agg [.own 3 4 0 A.length,.str (cy p).1,.str l[1]!]) (he:=aQ) ?_;refine aA ?_;have hnp:eQ r.rest=(⟨A,(cy p).1,l[1]!⟩,q2):=by simp only[eQ,hw2,oo,hq]
   rw[hnp];refine eH 3 (hn:=br bS.oM _) (he:=by simp only[kS,iD,iN,lG,mU,cH,Nat.reduceEqDiff,aW,aX,cN,cr,ct,cS,cW,bQ,bN,aL,bY,aN,reduceCtorEq,aP,a8,Nat.reduceAdd,Nat.reduceLeDiff,Ld.D];exact rfl) (hm:=by simp only[kS,iD,iN,lG,mU,cH,Nat.reduceEqDiff,aW,aX,cN,cr,ct,cS,cW,bQ,bN,aL,bY,aN,reduceCtorEq,aP,a8,Nat.reduceAdd,Nat.reduceLeDiff,Ld.D];exact rfl) ?_;refine kF [(0,.buf 2 [Ld.D (r.to q2)]),(1,.buf 3 [.agg [.bq,.str [],.str []]]),(2,.buf 3 [bp.D ⟨A,(cy p).1,l[1]!⟩])] (.id ah (.id ah (.bf ah (.cons (.ag (.cons (.ss (.map fun x _=>x.wk)) (.rf _))) .nil) .nil))) ?_;refine aA ?_;refine cz (d:=bp.D ⟨A,(cy p).1,l[1]!⟩) ?_;refine aI (bp.D ⟨A,(cy p).1,l[1]!⟩) (he:=aQ) ?_;refine ax ?_;refine iA trivial rW (bR ah (?_)) ah ah ah;rfl
  refine aA ?_;have hq:=jS hc3;have hnr:eR cT 2 false (cy p).2=(cy p).2:=by simp only[eR,hq]
  rw[hnr];have hnp:eQ r.rest=(⟨A,(cy p).1,[]⟩,(cy p).2):=by simp only[eQ,hw2,oo,hq]
  rw[hnp];refine eH 3 (hn:=br bS.oM _) (he:=by simp only[kS,iD,iN,lG,mU,cH,Nat.reduceEqDiff,aW,aX,cN,cr,ct,cS,cW,bQ,bN,aL,bY,aN,reduceCtorEq,aP,a8,Nat.reduceAdd,Nat.reduceLeDiff,Ld.D];exact rfl) (hm:=by simp only[kS,iD,iN,lG,mU,cH,Nat.reduceEqDiff,aW,aX,cN,cr,ct,cS,cW,bQ,bN,aL,bY,aN,reduceCtorEq,aP,a8,Nat.reduceAdd,Nat.reduceLeDiff,Ld.D];exact rfl) ?_;refine kF [(0,.buf 2 [Ld.D (r.to (cy p).2)]),(1,.buf 3 [.agg [.bq,.str [],.str []]]),(2,.buf 3 [bp.D ⟨A,(cy p).1,[]⟩])] (.id ah (.id ah (.bf ah (.cons (.ag (.cons (.ss (.map fun x _=>x.wk)) (.rf _))) .nil) .nil))) ?_;refine aA ?_;refine cz (d:=bp.D ⟨A,(cy p).1,[]⟩) ?_;refine aI (bp.D ⟨A,(cy p).1,[]⟩) (he:=aQ) ?_;refine ax ?_;refine iA trivial rW (bR ah (?_)) ah ah ah;rfl
 simp only[dy,bK,aK]at hc1;have hho:kT l=true:=by
  unfold kT;rcases hc1 with h|h
  .rw[b9 (show l[3]! =dF from h)];rfl
  .rw[b9 (show l[3]! =jb from h),Bool.or_true]
 have hwy:=yd hq hho;refine ay ?_;refine bH 1 (hb:=fun _=>ae) ?_;refine bD (v:=.str l[1]!) (hi:=fun _=>ae) ?_;refine aA ?_;refine bH 4 (hb:=fun _=>ae) ?_;refine bD (v:=.str l[4]!) (hi:=fun _=>ae) ?_;refine aA ?_;refine bH 3 (hb:=fun _=>ae) ?_;refine bD (v:=.str l[3]!) (hi:=fun _=>ae) ?_;refine aA ?_;refine bg (.agg [.str l[1]!,.str l[4]!,.bq,.bool (decide (l[3]! =dF))]) ?_;refine aA ?_;refine aI (.agg [.str l[1]!,.str l[4]!,.bq,.bool (decide (l[3]! =dF))]) (he:=aQ) ?_;refine aB ?_;refine bH 2 (hb:=fun _=>ae) ?_;refine bD (v:=.str l[2]!) (hi:=fun _=>ae) ?_;refine ax ?_;refine cF (fun hc2=>?_) fun hc2=>?_
 .refine ax ?_;refine bH 2 (hb:=fun _=>ae) ?_;refine bD (v:=.str l[2]!) (hi:=fun _=>ae) ?_;refine aq (hc:=h124 l[2]! 44 (hlm _ (bE ae))) ?_;refine aA ?_;refine aI (bS.N (gM l)) (he:=by show _=D.agg [.str l[1]!,.str l[4]!,Vp (if l[2]! =[45]then []else ai l[2]! 44),.bool (decide (l[3]! =dF))];rw[ak hc2,R3 (nS _ _)];exact rfl) ?_;refine ay ?_;refine aT (v:=.own 3 4 0 A.length) ?_;refine cz (d:=bS.N (gM l)) ?_;refine df [bS.N (gM l)] ?_;refine gL (q:=bS.N) (xs:=A) (e:=gM l) ?_;refine aA ?_;refine aI (.agg [.own 56 4 0 (A++[gM l]).length,.str [],.str []]) (he:=aQ) ?_;refine ay ?_;exact⟨(A++[gM l],q2),⟨hq2,by simp only[bP,aP,a8];omega,by rw[hw,hwy];simp⟩,dE,(a7.to [(1,1),(2,2),(56,3)] ah ah eh (by refine bo.fW ah ah ah ?_;refine bo.fW ah ah ah ?_;refine bo.eq 2 ah ah ah ?_;refine bo.nl 56 ah ah rfl (by exact br bS.oM _) ?_;exact bo.nil))⟩
 refine ax ?_;rw[show(D.agg [.str l[1]!,.str l[4]!,.bq,.bool (decide (l[3]! =dF))])=bS.N (gM l)by show _=D.agg [.str l[1]!,.str l[4]!,Vp (if l[2]! =[45]then []else ai l[2]! 44),.bool (decide (l[3]! =dF))];rw[aw hc2];rfl];refine aA ?_;refine aT (v:=.own 3 4 0 A.length) ?_;refine cz (d:=bS.N (gM l)) ?_;refine df [bS.N (gM l)] ?_;refine gL (q:=bS.N) (xs:=A) (e:=gM l) ?_;refine aA ?_;refine aI (.agg [.own 50 4 0 (A++[gM l]).length,.str [],.str []]) (he:=aQ) ?_;refine ay ?_;exact⟨(A++[gM l],q2),⟨hq2,by simp only[bP,aP,a8];omega,by rw[hw,hwy];simp⟩,dE,(a7.to [(1,1),(2,2),(50,3)] ah ah eh (by refine bo.fW ah ah ah ?_;refine bo.fW ah ah ah ?_;refine bo.eq 2 ah ah ah ?_;refine bo.nl 50 ah ah rfl (by exact br bS.oM _) ?_;exact bo.nil))⟩
def Xi (Y:Ctx):Prop:=∀(r:Ld),(r.sm)->Y.fp 467 (Ld.D r) []/\Y.fv 467 (Ld.D r) []=bp.D (eQ r.rest).1/\Y.fs 467 (Ld.D r) []=Ld.D (r.to (eQ r.rest).2)
def KA (Y:Ctx):Prop:=∀(r:Ld) (w:au) (n:Nat) (op:Bool) (l nx:Nat) (m:List (Nat×bW)) (K:D->St->Prop),r.sm->n<=1000->(op=true->1<=n)->look m l=some (.buf 2 [Ld.D r])->
 K (.tup [Cj (ch w n op r.rest),.bool (ch w n op r.rest).isSome]) ⟨nx,dG m l (.buf 2 [Ld.D (r.after (ch w n op r.rest))])⟩->Y.tr 465 [.ptr l 2 0 0,.str w,.int .i64 (n:Nat),.bool op] ⟨nx,m⟩ K
def yP {Y:Ctx}(h:KA Y){r:Ld}(hr:r.sm){p:List au}(hp:p<:+r.ls){w:au}{n:Nat}{op:Bool}(hn:n<=1000)(ho:op=true->1<=n){nx:Nat}{m:List (Nat×bW)}{K:D->St->Prop}(hl:look m 0=some (.buf 2 [Ld.D (r.to p)]))
  (hK:K (.tup [Cj (ch w n op p),.bool (ch w n op p).isSome]) ⟨nx,dG m 0 (.buf 2 [Ld.D (r.to (eR w n op p))])⟩):Y.tr 465 [.ptr 0 2 0 0,.str w,.int .i64 (n:Nat),.bool op] ⟨nx,m⟩ K:=by
 refine h (r.to p) w n op 0 nx m K (hr.to p) hn ho hl ?_;rw[Ld.yX hp,Ld.F1 hp];exact hK
def Vl {Y:Ctx}(h:Xi Y){r:Ld}(hr:r.sm){p:List au}(hp:p<:+r.ls):Y.fp 467 (Ld.D (r.to p)) []/\Y.fv 467 (Ld.D (r.to p)) []=bp.D (eQ p).1/\Y.fs 467 (Ld.D (r.to p)) []=Ld.D (r.to (eQ p).2):=by
 have:=h (r.to p) (hr.to p);rw[Ld.yX hp]at this;exact this
def oY:∀p:List au,(cE p).2<:+p
 |[]=>mi _
 |t::r=>by
  simp only[cE];split
  .split
   .exact(oY r).trans (List.suffix_cons _ _)
   .exact mi _
  .exact mi _
def sQ (p:List au):(eQ p).2<:+p:=(Sk _).trans ((kE _).trans (oY p))
def Gf {p:List au}(h:ch b8 0 false p=none):dA p=([],p):=by
 match p,h with
 |[],_=>rfl
 |t::r,h=>
  grind [ch,dA]
def Og {p l q:List au}(h:ch b8 0 false p=some (l,q))(ho:¬2<=l.length):dA p=([],p):=by
 grind [dX,dA]
def I5 {p l q:List au}(h:ch b8 0 false p=some (l,q))(ho:2<=l.length):dA p=(⟨l[1]!,l.drop 2⟩::(dA q).1,(dA q).2):=by
 grind [dX,dA]
def gk (ls:List au):Rec×List au:=match oH ls with
 |some p=>p
 |none=>(gR,ls)
def dx:D:=.agg [.str [],.int .i64 0,.int .i64 0,.int .i64 0,.str [],.str [],.bq,.bq,.bq]
def mw:yz dx gR.D:=.ag (.cons (.refl _) (.cons (.refl _) (.cons (.refl _) (.cons (.refl _) (.cons (.refl _) (.cons (.refl _) (.cons (.nil 3) (.cons (.nil 3) (.cons (.nil 2) .nil)))))))))
def pQ (nm:au)(v:cn)(n b f:D):D:=.agg [.str nm,.int .i64 v.major,.int .i64 v.minor,.int .i64 v.patch,.str v.pre,.str v.build,n,b,f]
def Zr {s:au}(h:oK s=0):∃v,gf s=some v:=by
 unfold oK at h;split at h
 .rename_i hs;exact jT hs
 .cases h
def Zq {s:au}(h:¬oK s=0):gf s=none:=by
 grind [oK,jS]
theorem D1 (n:Nat)(op:Bool)(t:au):(ec n op t).length<=t.length+1:=by
 grind [dk,ep,ec,qQ,ai]
def R2 {r:Ld}(hr:r.sm){p:List au}(hp:p<:+r.ls){w:au}{n:Nat}{op:Bool}{l q:List au}(h:ch w n op p=some (l,q)):l.length<=1048577:=by
 obtain⟨t,rfl,ht⟩:=dX h;obtain⟨_,_,h3⟩:=wM ht;have:=D1 n op t;have:=hr.2 t (hp.subset (.head _));rw[h3];omega
noncomputable def jq:aC:=cP 70
def w222 {Y:Ctx}(hm:(Y.at 1).b7)(h466:C466 (Y.at 1))(h467:Xi (Y.at 1))(h468:T8 (Y.at 1))(h469:C469 (Y.at 1))(h9465:KA (Y.at 1))(r:Ld)  (hp0:r.sm):bJ (Y.at 1) jq.body (NQ jq 2 (.tup [Rec.D (gk r.rest).1,.bool (oH r.rest).isSome]) (Ld.D (r.to (gk r.rest).2)):Ex->List cg->St->Prop) (fD jq (.ptr 0 2 0 0::[])) ⟨1,[(0,.buf 2 [(Ld.D r)])]⟩:=by
 show bJ _ _ _ [⟨true,.ptr 0 2 0 0⟩,.un,.un,.un,.un,.un,.un,.un,.un,.un,.un,.un,.un,.un,.un,.un,.un,.un,.un,.un] ⟨1,[(0,.buf 2 [(Ld.D r)])]⟩;have hself:=Ld.Fp hp0;have hq1:=r.Bu;have hll:=hp0.1.2;refine ar ?_;refine aE ?_;refine WO _ ?_;refine ay ?_;rw[show Ld.D r=Ld.D (r.to r.rest)by rw[hself]];refine aA ?_;refine nP (n:=1000465) (aoF:=[.ptr 0 2 0 0,.str dM,.int .i64 ((3:Nat):Int),.bool false]) (ι:=Unit) (fun _=>True) (fun _=>.tup [Cj (ch dM 3 false r.rest),.bool (ch dM 3 false r.rest).isSome]) 6 (fun _=>[(0,.buf 2 [Ld.D (r.to (eR dM 3 false r.rest))]),(1,.buf 9 [dx])]) (fun _ _=>?_) (hc:=fun K' hK=>yP h9465 hp0 hq1 (w:=dM) (n:=3) (op:=false) aF aF ah (hK () trivial)) (hn:=aF);refine aA ?_;refine eX _ ?_;refine cZ ?_;refine av (fun hc0=>?_) (fun hc0=>?_)
 .simp only[bd]at hc0;have hq:=jS hc0;have hnr:eR dM 3 false r.rest=r.rest:=by simp only[eR,hq]
  rw[hnr];have hrp:oH r.rest=none:=by simp only[oH,hq]
  have hrv:gk r.rest=(gR,r.rest):=by simp only[gk,hrp]
  rw[hrv,hrp];refine ax ?_;refine bg dx ?_;refine aI dx (he:=aQ) ?_;refine ax ?_;refine kF [(0,.buf 2 [Ld.D (r.to r.rest)]),(1,.buf 9 [Rec.D gR])] (.id ah (.bf ah (.cons mw .nil) .nil)) ?_;refine aA ?_;refine iA trivial rW (bR ah (aH ?_ ?_)) ah ah ah;all_goals rfl
 simp only[bK]at hc0;obtain⟨⟨l,q0⟩,hq⟩:=jT hc0;have hnr:eR dM 3 false r.rest=q0:=by simp only[eR,hq]
 obtain⟨hl,hlm,hq0,hqp⟩:=oS hp0 hq1 hq;rw[hnr,hq];obtain hl:l.length=3:=by rcases hl with h|h;cases h;exact h
 refine ay ?_;refine bH 2 (hb:=fun _=>ae) ?_;refine bD (v:=.str l[2]!) (hi:=fun _=>ae) ?_;refine aq (hc:=h466 l[2]! (hlm _ (bE ae))) ?_;refine aA ?_;refine eX (cn.D _) ?_;refine ax ?_;refine aI (cn.D ((gf l[2]!).getD gm)) (he:=aQ) ?_;refine aZ ?_;refine av (fun hc1=>?_) (fun hc1=>?_)
 .simp only[bd,bc]at hc1;have hv:=Zq hc1;have hrp:oH r.rest=none:=by simp only[oH,hq,hv]
  have hrv:gk r.rest=(gR,r.rest):=by simp only[gk,hrp]
  rw[hrv,hrp];obtain⟨t,hpt,_⟩:=dX hq;refine ax ?_;obtain⟨hab1,hab2⟩:=(hp0.to q0).1;refine ay ?_;refine aT (v:=.int .i64 ((r.to q0).at':Nat)) ?_;refine ay ?_;refine aI (Ld.D (r.to r.rest)) (he:=by rw[hpt];exact Ld.back (hpt▸hq1)) ?_;refine ay ?_;refine bg dx ?_;refine aI dx (he:=aQ) ?_;refine ax ?_;refine kF [(0,.buf 2 [Ld.D (r.to r.rest)]),(1,.buf 9 [Rec.D gR]),(22,.buf 5 [cn.D ((gf l[2]!).getD gm)])] (.id ah (.bf ah (.cons mw .nil) (.id ah .nil))) ?_;refine aA ?_;refine iA trivial rW (bR ah (aH ?_ ?_)) ah ah ah;all_goals rfl
 simp only[bK,aK]at hc1;obtain⟨v,hv⟩:=Zr hc1;rw[hv];have hrp:oH r.rest=some (pz l[1]! v q0):=by simp only[oH,hq,hv]
 have hrv:gk r.rest=pz l[1]! v q0:=by simp only[gk,hrp]
 rw[hrv,hrp];generalize hnm:l[1]! =nm;have hq01:=hq0.length_le;refine ax ?_;rw[<-hnm];refine aA ?_;refine bH 1 (hb:=fun _=>ae) ?_;refine bD (v:=.str l[1]!) (hi:=fun _=>ae) ?_;refine cz (d:=cn.D v) ?_;refine bg (pQ l[1]! v .bq .bq .bq) ?_;refine aA ?_;refine aI (pQ l[1]! v .bq .bq .bq) (he:=aQ) ?_;refine aA ?_;rw[hnm];refine ba hm (ι:=(List bp×List au)) (fun z=>[⟨true,.ptr 0 2 0 0⟩,⟨true,.ptr 1 9 0 0⟩,⟨true,.bool false⟩,⟨true,.fn 1000465 [.ptr 0 2 0 0]⟩,.un,.un,.un,.un,.un,.un,.un,.un,⟨true,.ptr 2 9 0 0⟩,.un,.un,.un,.un,.un,.un,.un]) (fun z=>[(0,.buf 2 [Ld.D (r.to z.2)]),(1,.buf 9 [dx]),(2,.buf 9 [pQ nm v (.own 3 3 0 (z.1).length) (.bq) (.bq)]),(3,.buf 3 (z.1.map bp.D))]) 10 (fun z=>z.2<:+r.ls/\z.1.length+z.2.length<=r.ls.length/\eD q0=(z.1++(eD z.2).1,(eD z.2).2)) (fun z=>z.2.length) ([],q0) ⟨hq0,by simpa using hq01,aJ⟩ (a7.to [(1,1),(32,2)] ah ah eh (by refine bo.fW ah ah ah ?_;refine bo.fW ah ah ah ?_;refine bo.ni 32 ah ah (by exact⟨_,_,rfl,⟨_,rfl,⟨_,_,rfl,⟨rfl,rfl⟩,⟨_,_,rfl,⟨rfl,rfl⟩,⟨_,_,rfl,⟨rfl,rfl⟩,⟨_,_,rfl,⟨rfl,rfl⟩,⟨_,_,rfl,⟨rfl,rfl⟩,⟨_,_,rfl,⟨rfl,rfl⟩,⟨_,_,rfl,Or.inr ⟨_,_,_,rfl⟩,⟨_,_,rfl,Or.inl rfl,⟨_,_,rfl,Or.inl rfl,rfl⟩⟩⟩⟩⟩⟩⟩⟩⟩⟩,rfl⟩) ?_;refine bo.mt ah ah ah ah ?_;exact bo.nil)) ?_;rintro⟨N,p⟩ ⟨hq1,hlen,hw⟩;dsimp only at hq1 hlen hw⊢;refine aB ?_;refine nP (n:=1000465) (aoF:=[.ptr 0 2 0 0,.str ei,.int .i64 ((1:Nat):Int),.bool false]) (ι:=Unit) (fun _=>True) (fun _=>.tup [Cj (ch ei 1 false p),.bool (ch ei 1 false p).isSome]) 10 (fun _=>[(0,.buf 2 [Ld.D (r.to (eR ei 1 false p))]),(1,.buf 9 [dx]),(2,.buf 9 [pQ nm v (.own 3 3 0 (N).length) (.bq) (.bq)]),(3,.buf 3 (N.map bp.D))]) (fun _ _=>?_) (hc:=fun K' hK=>yP h9465 hp0 hq1 (w:=ei) (n:=1) (op:=false) aF aF ah (hK () trivial)) (hn:=aF);refine aA ?_;refine eX _ ?_;refine cZ ?_;refine av (fun hc2=>?_) (fun hc2=>?_)
 .simp only[bd]at hc2;have hq:=jS hc2;have hnr:eR ei 1 false p=p:=by simp only[eR,hq]
  rw[hnr];have hn2:eD q0=(N,p):=by rw[hw,oQ hq,gN]
  have hpl:=hq1.length_le;refine ay ?_;refine eH 3 (hn:=br (fun _=>rfl) _) (he:=by simp only[kS,iD,iN,lG,mU,cH,Nat.reduceEqDiff,aW,aX,cN,cr,ct,cS,cW,bQ,bN,aL,bY,aN,reduceCtorEq,aP,a8,Nat.reduceAdd,Nat.reduceLeDiff,Ld.D,dx,pQ];exact rfl) (hm:=by simp only[kS,iD,iN,lG,mU,cH,Nat.reduceEqDiff,aW,aX,cN,cr,ct,cS,cW,bQ,bN,aL,bY,aN,reduceCtorEq,aP,a8,Nat.reduceAdd,Nat.reduceLeDiff,Ld.D,dx,pQ];exact rfl) ?_;refine ba hm (ι:=(List fq×List au)) (fun z=>[⟨true,.ptr 0 2 0 0⟩,⟨true,.ptr 1 9 0 0⟩,⟨true,.bool false⟩,⟨true,.fn 1000465 [.ptr 0 2 0 0]⟩,.un,.un,.un,.un,.un,.un,.un,.un,⟨true,.ptr 2 9 0 0⟩,.un,.un,.un,.un,.un,.un,.un]) (fun z=>[(0,.buf 2 [Ld.D (r.to z.2)]),(1,.buf 9 [dx]),(2,.buf 9 [pQ nm v ((.sl 3 (N.map bp.D))) (.own 3 3 0 (z.1).length) (.bq)]),(3,.buf 3 (z.1.map fq.D))]) 10 (fun z=>z.2<:+r.ls/\z.1.length+z.2.length<=r.ls.length/\iE p=(z.1++(iE z.2).1,(iE z.2).2)) (fun z=>z.2.length) ([],p) ⟨hq1,by simpa using hpl,aJ⟩ (a7.to [(1,1),(2,2)] ah ah eh (by refine bo.fW ah ah ah ?_;refine bo.fW ah ah ah ?_;refine bo.ni 2 ah ah (by exact⟨_,_,rfl,⟨_,rfl,⟨_,_,rfl,⟨rfl,rfl⟩,⟨_,_,rfl,⟨rfl,rfl⟩,⟨_,_,rfl,⟨rfl,rfl⟩,⟨_,_,rfl,⟨rfl,rfl⟩,⟨_,_,rfl,⟨rfl,rfl⟩,⟨_,_,rfl,⟨rfl,rfl⟩,⟨_,_,rfl,⟨rfl,rfl⟩,⟨_,_,rfl,Or.inr ⟨_,_,_,rfl⟩,⟨_,_,rfl,Or.inl rfl,rfl⟩⟩⟩⟩⟩⟩⟩⟩⟩⟩,rfl⟩) ?_;refine bo.mt ah ah ah ah ?_;exact bo.nil)) ?_;rintro⟨B,pb⟩ ⟨hq1,hlen,hw⟩;dsimp only at hq1 hlen hw⊢;refine ay ?_;refine nP (n:=1000465) (aoF:=[.ptr 0 2 0 0,.str fE,.int .i64 ((3:Nat):Int),.bool true]) (ι:=Unit) (fun _=>True) (fun _=>.tup [Cj (ch fE 3 true pb),.bool (ch fE 3 true pb).isSome]) 10 (fun _=>[(0,.buf 2 [Ld.D (r.to (eR fE 3 true pb))]),(1,.buf 9 [dx]),(2,.buf 9 [pQ nm v ((.sl 3 (N.map bp.D))) (.own 3 3 0 (B).length) (.bq)]),(3,.buf 3 (B.map fq.D))]) (fun _ _=>?_) (hc:=fun K' hK=>yP h9465 hp0 hq1 (w:=fE) (n:=3) (op:=true) aF aF ah (hK () trivial)) (hn:=aF);refine aA ?_;refine eX _ ?_;refine cZ ?_;refine av (fun hc3=>?_) (fun hc3=>?_)
  .simp only[bd]at hc3;have hq:=jS hc3;have hnr:eR fE 3 true pb=pb:=by simp only[eR,hq]
   rw[hnr];have B3:iE p=(B,pb):=by rw[hw,qb hq,gN]
   have hpl2:=hq1.length_le;refine ay ?_;refine eH 3 (hn:=br (fun _=>rfl) _) (he:=by simp only[kS,iD,iN,lG,mU,cH,Nat.reduceEqDiff,aW,aX,cN,cr,ct,cS,cW,bQ,bN,aL,bY,aN,reduceCtorEq,aP,a8,Nat.reduceAdd,Nat.reduceLeDiff,Ld.D,dx,pQ];exact rfl) (hm:=by simp only[kS,iD,iN,lG,mU,cH,Nat.reduceEqDiff,aW,aX,cN,cr,ct,cS,cW,bQ,bN,aL,bY,aN,reduceCtorEq,aP,a8,Nat.reduceAdd,Nat.reduceLeDiff,Ld.D,dx,pQ];exact rfl) ?_;refine ba hm (ι:=(List bZ×List au)) (fun z=>[⟨true,.ptr 0 2 0 0⟩,⟨true,.ptr 1 9 0 0⟩,⟨true,.bool false⟩,⟨true,.fn 1000465 [.ptr 0 2 0 0]⟩,.un,.un,.un,.un,.un,.un,.un,.un,⟨true,.ptr 2 9 0 0⟩,.un,.un,.un,.un,.un,.un,.un]) (fun z=>[(0,.buf 2 [Ld.D (r.to z.2)]),(1,.buf 9 [dx]),(2,.buf 9 [pQ nm v ((.sl 3 (N.map bp.D))) ((.sl 3 (B.map fq.D))) (.own 3 2 0 (z.1).length)]),(3,.buf 2 (z.1.map bZ.D))]) 10 (fun z=>z.2<:+r.ls/\z.1.length+z.2.length<=r.ls.length/\dA pb=(z.1++(dA z.2).1,(dA z.2).2)) (fun z=>z.2.length) ([],pb) ⟨hq1,by simpa using hpl2,aJ⟩ (a7.to [(1,1),(2,2)] ah ah eh (by refine bo.fW ah ah ah ?_;refine bo.fW ah ah ah ?_;refine bo.ni 2 ah ah (by exact⟨_,_,rfl,⟨_,rfl,⟨_,_,rfl,⟨rfl,rfl⟩,⟨_,_,rfl,⟨rfl,rfl⟩,⟨_,_,rfl,⟨rfl,rfl⟩,⟨_,_,rfl,⟨rfl,rfl⟩,⟨_,_,rfl,⟨rfl,rfl⟩,⟨_,_,rfl,⟨rfl,rfl⟩,⟨_,_,rfl,⟨rfl,rfl⟩,⟨_,_,rfl,⟨rfl,rfl⟩,⟨_,_,rfl,Or.inr ⟨_,_,_,rfl⟩,rfl⟩⟩⟩⟩⟩⟩⟩⟩⟩⟩,rfl⟩) ?_;refine bo.mt ah ah ah ah ?_;exact bo.nil)) ?_;rintro⟨Z,pf⟩ ⟨hq1,hlen,hw⟩;dsimp only at hq1 hlen hw⊢;refine ay ?_;refine nP (n:=1000465) (aoF:=[.ptr 0 2 0 0,.str b8,.int .i64 ((0:Nat):Int),.bool false]) (ι:=Unit) (fun _=>True) (fun _=>.tup [Cj (ch b8 0 false pf),.bool (ch b8 0 false pf).isSome]) 10 (fun _=>[(0,.buf 2 [Ld.D (r.to (eR b8 0 false pf))]),(1,.buf 9 [dx]),(2,.buf 9 [pQ nm v ((.sl 3 (N.map bp.D))) ((.sl 3 (B.map fq.D))) (.own 3 2 0 (Z).length)]),(3,.buf 2 (Z.map bZ.D))]) (fun _ _=>?_) (hc:=fun K' hK=>yP h9465 hp0 hq1 (w:=b8) (n:=0) (op:=false) aF aF ah (hK () trivial)) (hn:=aF);refine aA ?_;refine eX _ ?_;refine cZ ?_;refine av (fun hc4=>?_) (fun hc4=>?_)
   .simp only[bd]at hc4;have hq:=jS hc4;have hnr:eR b8 0 false pf=pf:=by simp only[eR,hq]
    rw[hnr];have hf2:dA pb=(Z,pf):=by rw[hw,Gf hq,gN]
    refine ay ?_;have hbd:pz nm v q0=(⟨nm,v,N,B,Z⟩,pf):=by simp only[pz,hn2,B3,hf2]
    rw[hbd];refine eH 3 (hn:=br (fun _=>rfl) _) (he:=by simp only[kS,iD,iN,lG,mU,cH,Nat.reduceEqDiff,aW,aX,cN,cr,ct,cS,cW,bQ,bN,aL,bY,aN,reduceCtorEq,aP,a8,Nat.reduceAdd,Nat.reduceLeDiff,Ld.D,dx,pQ];exact rfl) (hm:=by simp only[kS,iD,iN,lG,mU,cH,Nat.reduceEqDiff,aW,aX,cN,cr,ct,cS,cW,bQ,bN,aL,bY,aN,reduceCtorEq,aP,a8,Nat.reduceAdd,Nat.reduceLeDiff,Ld.D,dx,pQ];exact rfl) ?_;refine aA ?_;refine cz (d:=Rec.D ⟨nm,v,N,B,Z⟩) ?_;refine aI (Rec.D ⟨nm,v,N,B,Z⟩) (he:=aQ) ?_;refine ay ?_;refine iA trivial rW (bR ah (aH ?_ ?_)) ah ah ah;all_goals rfl
   simp only[bK]at hc4;obtain⟨⟨l,q2⟩,hq⟩:=jT hc4;have hnr:eR b8 0 false pf=q2:=by simp only[eR,hq]
   obtain⟨hl,hlm,hq2,hqp⟩:=oS hp0 hq1 hq;rw[hnr,hq];have hll2:=R2 hp0 hq1 hq;refine aE ?_;intro u0;refine ax ?_;refine cF (fun hc5=>?_) fun hc5=>?_
   .refine ax ?_;have hf2:dA pb=(Z,pf):=by rw[hw,Og hq ae,gN]
    obtain⟨t,hpt,_⟩:=dX hq;obtain⟨hab1,hab2⟩:=(hp0.to q2).1;refine ay ?_;refine aT (v:=.int .i64 ((r.to q2).at':Nat)) ?_;refine ay ?_;refine aI (Ld.D (r.to pf)) (he:=by rw[hpt];exact Ld.back (hpt▸hq1)) ?_;refine aB ?_;have hbd:pz nm v q0=(⟨nm,v,N,B,Z⟩,pf):=by simp only[pz,hn2,B3,hf2]
    rw[hbd];refine eH 3 (hn:=br (fun _=>rfl) _) (he:=by simp only[kS,iD,iN,lG,mU,cH,Nat.reduceEqDiff,aW,aX,cN,cr,ct,cS,cW,bQ,bN,aL,bY,aN,reduceCtorEq,aP,a8,Nat.reduceAdd,Nat.reduceLeDiff,Ld.D,dx,pQ];exact rfl) (hm:=by simp only[kS,iD,iN,lG,mU,cH,Nat.reduceEqDiff,aW,aX,cN,cr,ct,cS,cW,bQ,bN,aL,bY,aN,reduceCtorEq,aP,a8,Nat.reduceAdd,Nat.reduceLeDiff,Ld.D,dx,pQ];exact rfl) ?_;refine aA ?_;refine cz (d:=Rec.D ⟨nm,v,N,B,Z⟩) ?_;refine aI (Rec.D ⟨nm,v,N,B,Z⟩) (he:=aQ) ?_;refine ay ?_;refine iA trivial rW (bR ah (aH ?_ ?_)) ah ah ah;all_goals rfl
   refine ax ?_;have h2l:2<=l.length:=ae;refine aA ?_;refine aT (v:=.own 3 2 0 Z.length) ?_;refine aA ?_;refine bH 1 (hb:=fun _=>ae) ?_;refine bD (v:=.str l[1]!) (hi:=fun _=>ae) ?_;refine aA ?_;refine rZ 2 (hb:=fun _=>ae) ?_;refine aq (hc:=h469 (l.drop 2) (by rw[jO];omega)) ?_;refine bg (bZ.D ⟨l[1]!,l.drop 2⟩) ?_;refine df [bZ.D ⟨l[1]!,l.drop 2⟩] ?_;refine gL (q:=bZ.D) (xs:=Z) (e:=⟨l[1]!,l.drop 2⟩) ?_;refine aA ?_;refine aI (pQ nm v (.sl 3 (N.map bp.D)) (.sl 3 (B.map fq.D)) (.own 32 2 0 (Z++[(⟨l[1]!,l.drop 2⟩:bZ)]).length)) (he:=aQ) ?_;refine ay ?_;have hsl:=aL 0;exact⟨(Z++[⟨l[1]!,l.drop 2⟩],q2),⟨hq2,by simp only[bP,aP,a8];omega,by rw[hw,I5 hq h2l];simp⟩,dE,(a7.to [(1,1),(2,2),(32,3)] ah ah eh (by refine bo.fW ah ah ah ?_;refine bo.fW ah ah ah ?_;refine bo.eq 2 ah ah ah ?_;refine bo.nl 32 ah ah rfl (by exact br (fun _=>rfl) _) ?_;exact bo.nil))⟩
  simp only[bK]at hc3;obtain⟨⟨l,q2⟩,hq⟩:=jT hc3;have hnr:eR fE 3 true pb=q2:=by simp only[eR,hq]
  obtain⟨hl,hlm,hq2,hqp⟩:=oS hp0 hq1 hq;rw[hnr,hq];obtain hl:l.length=3:=by rcases hl with h|h;cases h;exact h
  refine ay ?_;refine SU (v:=.own 3 3 0 B.length) ?_;refine aA ?_;refine bH 1 (hb:=fun _=>ae) ?_;refine SV (v:=.str l[1]!) (hi:=fun _=>ae) ?_;refine aA ?_;refine bH 2 (hb:=fun _=>ae) ?_;refine SV (v:=.str l[2]!) (hi:=fun _=>ae) ?_;refine aA ?_;refine nF (hc:=FA h468 hp0 hq2) ?_;refine bg (fq.D ⟨l[1]!,l[2]!,(cy q2).1⟩) ?_;refine df [fq.D ⟨l[1]!,l[2]!,(cy q2).1⟩] ?_;refine gL (q:=fq.D) (xs:=B) (e:=⟨l[1]!,l[2]!,(cy q2).1⟩) ?_;refine aA ?_;refine aI (pQ nm v (.sl 3 (N.map bp.D)) (.own 31 3 0 (B++[(⟨l[1]!,l[2]!,(cy q2).1⟩:fq)]).length) .bq) (he:=aQ) ?_;refine ay ?_;have hsl:=(kE q2).length_le;exact⟨(B++[⟨l[1]!,l[2]!,(cy q2).1⟩],(cy q2).2),⟨(kE q2).trans hq2,by simp only[bP,aP,a8];omega,by rw[hw,tA hq];simp⟩,dE,(a7.to [(1,1),(2,2),(31,3)] ah ah eh (by refine bo.fW ah ah ah ?_;refine bo.fW ah ah ah ?_;refine bo.eq 2 ah ah ah ?_;refine bo.nl 31 ah ah rfl (by exact br (fun _=>rfl) _) ?_;exact bo.nil))⟩
 simp only[bK]at hc2;obtain⟨⟨l,q2⟩,hq⟩:=jT hc2;have hnr:eR ei 1 false p=q2:=by simp only[eR,hq]
 obtain⟨hl,hlm,hq2,hqp⟩:=oS hp0 hq1 hq;rw[hnr,hq];refine ay ?_;refine SU (v:=.own 3 3 0 N.length) ?_;refine aA ?_;refine nF (hc:=Vl h467 hp0 hq2) ?_;refine df [bp.D (eQ q2).1] ?_;refine gL (q:=bp.D) (xs:=N) (e:=(eQ q2).1) ?_;refine aA ?_;refine aI (pQ nm v (.own 24 3 0 (N++[(eQ q2).1]).length) .bq .bq) (he:=aQ) ?_;refine ay ?_;have hsl:=(sQ q2).length_le;exact⟨(N++[(eQ q2).1],(eQ q2).2),⟨(sQ q2).trans hq2,by simp only[bP,aP,a8];omega,by rw[hw,rL hq];simp⟩,dE,(a7.to [(1,1),(2,2),(24,3)] ah ah eh (by refine bo.fW ah ah ah ?_;refine bo.fW ah ah ah ?_;refine bo.eq 2 ah ah ah ?_;refine bo.nl 24 ah ah rfl (by exact br (fun _=>rfl) _) ?_;exact bo.nil))⟩
def ZS (Y:Ctx):Prop:=∀(r:Ld),(r.sm)->Y.fp 222 (Ld.D r) []/\Y.fv 222 (Ld.D r) []=.tup [Rec.D (gk r.rest).1,.bool (oH r.rest).isSome]/\Y.fs 222 (Ld.D r) []=Ld.D (r.to (gk r.rest).2)
def B0 (p:List au):Prop:=∀t∈p,t.length<=1048576
def B0.get {l:List au}(h:B0 l)(i:Nat):l[i]!.length<=1048576:=by
 rcases hY i l.length with hi|hi
 .exact h _ (bE hi)
 .simp[hi];exact Nat.zero_le _
def B0.next {p:List au}(hp:B0 p){w:au}{n:Nat}{op:Bool}{l q:List au}(h:ch w n op p=some (l,q)):B0 l/\B0 q/\l.length<=1048577:=by
 obtain⟨t,rfl,ht⟩:=dX h;obtain⟨_,_,h3⟩:=wM ht;have h0:=hp t (.head _);refine⟨fun u hu=>?_,fun u hu=>hp u (.tail _ hu), ?_⟩
 .rw[h3]at hu;have:=Ig hu;omega
 grind [D1]
def B0.vM {p q:List au}(hp:B0 p)(h:q<:+p):B0 q:=fun t ht=>hp t (h.subset ht)
def P6 {l:List au}(h:B0 l):(gM l).sm:=by
 refine⟨⟨h.get 1,h.get 4⟩,fun t ht=>?_⟩;unfold gM at ht;simp only at ht;split at ht
 .cases ht
 .have:=dS _ _ ht;have:=h.get 2;omega
def Ls {w:au}{n:Nat}{op:Bool}{t:au}{r l:List au}(h:dU w n op t=some l):ch w n op (t::r)=some (l,r):=by simp only[ch,h]
def BS:∀p:List au,B0 p->∀x∈(cE p).1,x.sm
 |[],_,x,hx=>by simp[cE]at hx
 |t::r,hp,x,hx=>by
  have ih:=BS r (fun u hu=>hp u (.tail _ hu));simp only[cE]at hx;split at hx
  .rename_i l hl;split at hx
   .simp only[ca]at hx;rcases hx with rfl|hx
    .exact P6 (hp.next (Ls (r:=r) hl)).1
    .exact ih x hx
   .simp at hx
  .simp at hx
def Ic {p:List au}(hp:B0 p):(cy p).1.length<=1048576:=by
 unfold cy;split
 .rename_i h;exact(hp.next h).1.get 1
 .simp
def Vv {p:List au}(hp:B0 p):(oo p).1.length<=1048576:=by
 unfold oo;split
 .rename_i h;exact(hp.next h).1.get 1
 .simp
theorem RZ {p:List au}(hp:B0 p):(eQ p).1.sm:=⟨BS p hp,Ic (hp.vM (oY p)),Vv ((hp.vM (oY p)).vM (kE _))⟩
def Dd:∀(f:Nat) (p:List au),B0 p->(∀x∈(m7 f p).1,x.sm)/\(m7 f p).2<:+p
 |0,p,_=>⟨fun x hx=>by simp[m7]at hx,mi _⟩
 |f+1,p,hp=>by
  simp only[m7];split
  .rename_i l r h;have hr:=(hp.next h).2.1;obtain⟨i1,i2⟩:=Dd f (eQ r).2 (hr.vM (sQ r));refine⟨fun x hx=>?_,i2.trans ((sQ r).trans (pO h))⟩
   grind [RZ]
  grind
def F5:∀(f:Nat) (p:List au),B0 p->(∀x∈(qI f p).1,x.sm)/\(qI f p).2<:+p
 |0,p,_=>⟨fun x hx=>by simp[qI]at hx,mi _⟩
 |f+1,p,hp=>by
  simp only[qI];split
  .rename_i l r h;obtain⟨hl,hr,_⟩:=hp.next h;obtain⟨i1,i2⟩:=F5 f (cy r).2 (hr.vM (kE r));refine⟨fun x hx=>?_,i2.trans ((kE r).trans (pO h))⟩;simp only[ca]at hx;rcases hx with rfl|hx
   .exact⟨hl.get 1,hl.get 2,Ic hr⟩
   .exact i1 x hx
  grind
def CS:∀(p:List au),B0 p->(∀x∈(dA p).1,x.sm)/\(dA p).2<:+p
 |[],_=>⟨fun x hx=>by simp[dA]at hx,mi _⟩
 |t::r,hp=>by
  obtain⟨i1,i2⟩:=CS r (fun u hu=>hp u (.tail _ hu));simp only[dA];split
  .rename_i l hl;obtain⟨hlm,_,hll⟩:=hp.next (Ls (r:=r) hl);split
   .refine⟨fun x hx=>?_,i2.trans (List.suffix_cons _ _)⟩;simp only[ca]at hx;rcases hx with rfl|hx
    .refine⟨hlm.get 1, ?_,fun u hu=>hlm u (List.mem_of_mem_drop hu)⟩;simp only[jO];omega
    .exact i1 x hx
   .exact⟨fun x hx=>by simp at hx,mi _⟩
  .exact⟨fun x hx=>by simp at hx,mi _⟩
theorem yT:fA gR:=⟨⟨aF,aF,aF⟩,fun n hn=>(by cases hn),fun n hn=>(by cases hn),fun n hn=>(by cases hn)⟩
theorem E2 {p:List au}(hp:B0 p):fA (gk p).1/\(gk p).2<:+p:=by
 unfold gk oH;cases h:ch dM 3 false p with
 |none=>exact⟨yT,mi _⟩
 |some lq=>
  obtain⟨l,r⟩:=lq;obtain⟨hl,hr,_⟩:=hp.next h;simp only;cases hv:gf l[2]! with
  |none=>exact⟨yT,mi _⟩
  |some v=>
   have hvs:=VX (hl.get 2);rw[hv]at hvs;obtain⟨n1,n2⟩:=Dd r.length r hr;obtain⟨b1,b2⟩:=F5 (eD r).2.length (eD r).2 (hr.vM n2);obtain⟨f1,f2⟩:=CS (iE (eD r).2).2 ((hr.vM n2).vM b2);exact⟨⟨⟨hl.get 1,hvs⟩,n1,b1,f1⟩,f2.trans (b2.trans (n2.trans (pO h)))⟩
def cA (s:au):Rec×Int×Int:=
 if 4096<s.length then(gR,3,0)
 else
  let ls:=(ai s 10).take ((ai s 10).length-1)
  if(oH ls).isSome=false\/(gk ls).2≠[]\/(ai s 10)[(ai s 10).length-1]! ≠[]then(gR,2,((ls.length-(gk ls).2.length:Nat):Int)+1)
  else if(cK (gk ls).1).1≠0 then(gR,(cK (gk ls).1).1,0)
  else((gk ls).1,0,0)
noncomputable def Hl:aC:=cP 96
def w211 {Y:Ctx}(hm:(Y.at 0).b7)(h208:ND Y)(h444:C444 Y)(r:Rec)(name:au)(xU:au)  (hp0:xU.length<=1048576):dh Y Hl (.int .i64 (fR r name xU)) [Rec.D r,.str name,.str xU]:=by
 show bJ _ _ _ [⟨_,_⟩,⟨_,_⟩,⟨_,_⟩,_,_,_,_,_] _;refine ar ?_;refine aD ?_;refine aq (hc:=h208 _) ?_;refine ay ?_;refine fM (fun hc0=>?_) fun hc0=>?_
 .refine aE ?_;refine cX ?_;rw[fR,aw hc0]
 refine aZ ?_;refine fM (fun hc1=>?_) fun hc1=>?_
 .refine aE ?_;refine cX ?_;rw[fR,ak (by simp[hc0]),aw hc1]
 refine ax ?_;refine aq (hc:=h444 xU hp0) ?_;refine ay ?_;refine fM (fun hc2=>?_) fun hc2=>?_
 .refine aE ?_;refine cX ?_;rw[fR,ak (by simp[hc0]),ak hc1,aw hc2]
 refine aD ?_;refine cX ?_;rw[fR,ak (by simp[hc0]),ak hc1,ak (by simp[hc2])]
def Mb (T:List D->D->Prop):Prop:=∀(r:Rec) (name:au) (xU:au),(xU.length<=1048576)->T [Rec.D r,.str name,.str xU] (.int .i64 (fR r name xU))
def WZ (Y:Ctx):Prop:=Mb (bx Y 211)
noncomputable def Hm:aC:=cP 136
def w443 (h211:WZ Y)(h349:II Y)(r:Rec)(w:bS)(al:Bool)  (hp0:w.sm):dh Y Hm (.int .i64 (jF r w al)) [Rec.D r,bS.D w,.bool al]:=by
 show bJ _ _ _ [⟨_,_⟩,⟨_,_⟩,⟨_,_⟩,_,_,_,_,_,_,_,_,_,_,_,_,_] _;refine ar ?_;refine fH ?_;refine aq (hc:=h211 r w.name w.range hp0.1.2) ?_;refine aZ ?_;refine cF (fun hc0=>?_) fun hc0=>?_
 .refine aD ?_;refine cX ?_;rw[jF,aw hc0]
 refine aD ?_;intro u0;refine aB ?_;refine ik ?_;refine aZ ?_;refine av (fun hc1=>?_) (fun hc1=>?_)
 .have hq:(decide (w.feats.length<=6)&&(al ||decide (w.feats.length=0)))=false:=by rw[<-bd,<-TK];exact hc1
  refine aE ?_;refine cX ?_;rw[jF,ak (by simp[hc0]),aw (by unfold jD;rw[hq];rfl)]
 have hq:(decide (w.feats.length<=6)&&(al ||decide (w.feats.length=0)))=true:=by rw[<-bK,<-TK];exact hc1
 refine aD ?_;intro u1;refine ax ?_;refine ba hm (ι:=Nat) (fun i=>[.un,.un,⟨true,.bool al⟩,.un,⟨true,.ptr 0 9 0 0⟩,⟨true,.ptr 1 4 0 0⟩,.un,.un,.un,⟨true,.int .i64 (i:Nat)⟩,⟨true,.int .i64 (w.feats.length:Nat)⟩,.un,⟨true,.sl 1 (w.feats.map D.str)⟩,.un,.un,.un]) (fun i=>[(0,.buf 9 [Rec.D r]),(1,.buf 4 [bS.D w])]) 30 (fun i=>i<=w.feats.length/\jD w.feats al=cQ (WS w.feats) i w.feats.length) (fun i=>w.feats.length-i) 0 ⟨ae,by unfold jD;rw[hq,gz]⟩ (dr [(0,0),(1,1)]) ?_;rintro i ⟨hi,hr⟩;refine ay ?_;refine cF (fun hc2=>?_) fun hc2=>?_
 .refine fH ?_;refine aq (hc:=h349 _) ?_;refine cZ ?_;refine bH (i-1) ?_;refine aD ?_;refine wp_cond (fun hc3=>?_) (fun hc3=>?_)
  .have hz:WS w.feats i=false:=by rw[<-bd,<-wf_c];exact hc3
   refine aD ?_;refine cX ?_;rw[jF,ak (by simp[hc0]),aw (by rw[hr,aU ae,hz];rfl)]
  have hz:WS w.feats i=true:=by rw[<-bK,<-wf_c];exact hc3
  refine aZ ?_;exact⟨i+1,⟨ae,by rw[hr,aU ae,hz];rfl⟩,ae,(dr [(0,0),(1,1)])⟩
 refine aD ?_;refine cX ?_;rw[jF,ak (by simp[hc0]),ak (by rw[hr,cj ae];simp)]
def zl (T:List D->D->Prop):Prop:=∀(r:Rec) (w:bS) (al:Bool),(w.sm)->T [Rec.D r,bS.D w,.bool al] (.int .i64 (jF r w al))
def C443 (Y:Ctx):Prop:=zl (bx Y 443)
noncomputable def Hj:aC:=cP 95
def w210 (h212:W0 Y)(h349:II Y)(h443:C443 Y)(r:Rec)(n:bp)  (hp0:n.sm):dh Y Hj (.int .i64 (iZ r n)) [Rec.D r,bp.D n]:=by
 show bJ _ _ _ [⟨_,_⟩,⟨_,_⟩,_,_,_,_,_,_,_,_,_,_,_,_,_,_] _;refine ar ?_;refine cZ ?_;intro u0;refine ax ?_;refine cF (fun hc0=>?_) fun hc0=>?_
 .refine aE ?_;refine cX ?_;rw[iZ,aw ae]
 refine aD ?_;intro u1;refine ax ?_;refine cF (fun hc1=>?_) fun hc1=>?_
 .refine aE ?_;refine cX ?_;rw[iZ,ak ae,aw ae]
 refine aD ?_;intro u2;refine ax ?_;refine ba hm (ι:=Nat) (fun i=>[.un,.un,.un,⟨true,.ptr 1 3 0 0⟩,.un,.un,⟨true,.int .i64 (i:Nat)⟩,⟨true,.int .i64 (n.any.length:Nat)⟩,.un,⟨true,.sl 4 (n.any.map bS.D)⟩,⟨true,.ptr 0 9 0 0⟩,.un,.un,.un,.un,.un]) (fun i=>[(0,.buf 9 [Rec.D r]),(1,.buf 3 [bp.D n])]) 15 (fun i=>i<=n.any.length/\mz r n.any=fJ (fun i=>jF r n.any[i]! (decide ((n.any.length:Int)=1))) i n.any.length) (fun i=>n.any.length-i) 0 ⟨ae,rfl⟩ (dr [(0,0),(1,1)]) ?_;rintro i ⟨hi,hr⟩;refine ay ?_;refine cF (fun hc2=>?_) fun hc2=>?_
 .refine aB ?_;first|refine bD (v:=(bS.D _)) ?_|refine e7 (v:=(bS.D _)) ?_
  refine aA ?_;refine aI (bS.D n.any[i]!) (he:=aQ) ?_;refine aZ ?_;intro u3;refine aA ?_;refine aq (hc:=h443 r n.any[i]! _ (hp0.1 _ (bE ae))) ?_;refine aD ?_;refine fM (fun hc3=>?_) fun hc3=>?_
  .refine aZ ?_;refine cX ?_;have hw:mz r n.any=jF r n.any[i]! (decide ((n.any.length:Int)=1)):=by rw[hr,lS ae hc3]
   rw[iZ,ak ae,ak ae,aw (by rw[hw];exact hc3),hw]
  refine aZ ?_;exact⟨i+1,⟨ae,by rw[hr,nK ae hc3]⟩,ae,(dr [(0,0),(1,1)])⟩
 refine aB ?_;have hw0:mz r n.any=0:=by rw[hr,nJ ae]
 refine ax ?_;refine aq (hc:=h212 _) ?_;refine ax ?_;refine av (fun hc4=>?_) (fun hc4=>?_)
 .try simp only[dn]at hc4
  refine aE ?_;refine cX ?_;rw[iZ,ak ae,ak ae,ak (by simp[hw0]),aw hc4]
 simp only[bK]at hc4;refine cZ ?_;refine aq (hc:=h349 _) ?_;refine ay ?_;refine av (fun hc5=>?_) (fun hc5=>?_)
 .try simp only[dn]at hc5
  refine aE ?_;refine cX ?_;rw[iZ,ak ae,ak ae,ak (by simp[hw0]),ak (by simp[hc4]),aw hc5]
 simp only[dy,bK,aK]at hc5;refine aE ?_;refine cX ?_;rw[iZ,ak ae,ak ae,ak (by simp[hw0]),ak (by simp[hc4]),ak (by rintro⟨g1,g2⟩;rcases hc5 with h|h;exact g1 h;rw[g2]at h;cases h)]
def zc (T:List D->D->Prop):Prop:=∀(r:Rec) (n:bp),(n.sm)->T [Rec.D r,bp.D n] (.int .i64 (iZ r n))
def ZM (Y:Ctx):Prop:=zc (bx Y 210)
noncomputable def Hi:aC:=cP 99
def w214 (h448:Xe Y)(r:Rec)(s:au)  (hp0:s.length<=1048576):dh Y Hi (.int .i64 (jU r s)) [Rec.D r,.str s]:=by
 show bJ _ _ _ [⟨_,_⟩,⟨_,_⟩,_,_,_,_,_,_,_,_,_,_,_,_,_] _;refine ar ?_;refine aE ?_;refine aq (hc:=h448 s hp0) ?_;refine lN ?_;intro u0;refine ax ?_;refine ba hm (ι:=Nat) (fun i=>[.un,.un,.un,⟨true,.ptr 0 9 0 0⟩,⟨true,.int .i64 (i:Nat)⟩,⟨true,.int .i64 (r.needs.length:Nat)⟩,.un,⟨true,.sl 3 (r.needs.map bp.D)⟩,⟨true,.int .i64 (dJ s).1⟩,.un,⟨true,.str (dJ s).2.1⟩,.un,.un,.un,.un]) (fun i=>[(0,.buf 9 [Rec.D r])]) 15 (fun i=>i<=r.needs.length/\jU r s=(if(r.needs.drop i).any (itC (dJ s).1 (dJ s).2.1)=true then 0 else YE (dJ s).1)) (fun i=>r.needs.length-i) 0 ⟨ae,RF r s⟩ (dr [(0,0)]) ?_;rintro i ⟨hi,hr⟩;refine ay ?_;refine cF (fun hc0=>?_) fun hc0=>?_
 .refine aB ?_;first|refine bD (v:=(bp.D _)) ?_|refine e7 (v:=(bp.D _)) ?_
  refine aA ?_;refine aI (bp.D r.needs[i]!) (he:=aQ) ?_;refine BX ?_;refine ik ?_;refine aE ?_;refine bH 0 (hb:=fun h=>by simp only[gz,beq_iff_eq,bB,aK]at h;omega) ?_;refine aA ?_;refine bD (q:=bS.D) (xs:=r.needs[i]!.any) (i:=0) (hi:=fun h=>by simp only[gz,beq_iff_eq,bB,aK]at h;omega) (v:=(.str r.needs[i]!.any[0]!.name)) ?_;refine aE ?_;refine wp_cond (fun hc1=>?_) (fun hc1=>?_)
  .have hz:itC (dJ s).1 (dJ s).2.1 r.needs[i]! =true:=hc1;refine aD ?_;refine cX ?_;rw[hr,uP ae hz];rfl
  have hz:itC (dJ s).1 (dJ s).2.1 r.needs[i]! =false:=hc1;refine aZ ?_;exact⟨i+1,⟨ae,by rw[hr,zV ae hz]⟩,ae,(dr [(0,0)])⟩
 refine aB ?_;have he:jU r s=YE (dJ s).1:=by rw[hr,uO ae];rfl
 refine aZ ?_;refine fM (fun hc2=>?_) fun hc2=>?_
 .refine aE ?_;refine cX ?_;rw[he,YE,aw hc2]
 refine aB ?_;refine fM (fun hc3=>?_) fun hc3=>?_
 .refine aE ?_;refine cX ?_;rw[he,YE,ak hc2,aw hc3]
 refine aD ?_;refine cX ?_;rw[he,YE,ak hc2,ak hc3]
def Mc (T:List D->D->Prop):Prop:=∀(r:Rec) (s:au),(s.length<=1048576)->T [Rec.D r,.str s] (.int .i64 (jU r s))
def ZO (Y:Ctx):Prop:=Mc (bx Y 214)
noncomputable def E3:aC:=cP 56
def w70 (h208:ND Y)(h209:IE Y)(h210:ZM Y)(h211:WZ Y)(h212:W0 Y)(h213:ZN Y)(h214:ZO Y)(h215:W1 Y)(r:Rec)  (hp0:fA r):dh Y E3 (.tup [.int .i64 (cK r).1,.int .i64 (cK r).2]) [Rec.D r]:=by
 show bJ _ _ _ (⟨true,Rec.D r⟩::.un::.un::.un::.un::.un::.un::.un::.un::.un::.un::.un::.un::.un::.un::.un::.un::.un::.un::.un::.un::.un::.un::.un::.un::.un::.un::.un::.un::.un::.un::.un::.un::.un::.un::.un::.un::.un::.un::[]) ⟨0,[]⟩;refine ar ?_;refine bL ?_;refine aq (hc:=h208 _) ?_;refine ay ?_;refine wp_cond (fun hc0=>?_) (fun hc0=>?_)
 .try simp only[dn]at hc0
  refine aD ?_;refine bF (aH (aj (D.int .i64) ?_) (aj (D.int .i64) ?_));all_goals (have hq:cK r=(4,0):=(by rw[cK,aw hc0]);rw[hq];first|done|rfl)
 simp only[bK]at hc0;refine ax ?_;refine aT (v:=cn.D r.v) ?_;refine aq (hc:=h209 r.v hp0.1.2) ?_;refine ay ?_;refine wp_cond (fun hc1=>?_) (fun hc1=>?_)
 .try simp only[dn]at hc1
  refine aD ?_;refine bF (aH (aj (D.int .i64) ?_) (aj (D.int .i64) ?_));all_goals (have hq:cK r=(5,0):=(by rw[cK,ak (by simp[hc0]),aw hc1]);rw[hq];first|done|rfl)
 simp only[bK]at hc1;refine aB ?_;intro u0;refine aB ?_;refine ik ?_;refine aB ?_;refine fM (fun hc2=>?_) fun hc2=>?_
 .refine aD ?_;refine bF (aH (aj (D.int .i64) ?_) (aj (D.int .i64) ?_));all_goals (have hq:cK r=(3,0):=(by rw[cK,ak (by simp[hc0]),ak (by simp[hc1]),aw ae]);rw[hq];first|done|rfl)
 refine aZ ?_;intro u1;refine ax ?_;refine ba hm (ι:=Nat) (fun i=>(.un::.un::.un::⟨true,.ptr 0 9 0 0⟩::.un::.un::.un::⟨true,.int .i64 (i:Nat)⟩::⟨true,.int .i64 (r.needs.length:Nat)⟩::.un::⟨true,.sl 3 (r.needs.map bp.D)⟩::.un::.un::.un::.un::.un::.un::.un::.un::.un::.un::.un::.un::.un::.un::.un::.un::.un::.un::.un::.un::.un::.un::.un::.un::.un::.un::.un::.un::[])) (fun i=>[(0,.buf 9 [Rec.D r])]) 28 (fun i=>i<=r.needs.length/\lZ r=iw (fun i=>iZ r r.needs[i]!) i r.needs.length) (fun i=>r.needs.length-i) 0 ⟨ae,rfl⟩ (dr [(0,0)]) ?_;rintro i ⟨hi,hr⟩;refine ay ?_;refine cF (fun hc3=>?_) fun hc3=>?_
 .refine aE ?_;first|refine bD (v:=(bp.D _)) ?_|refine e7 (v:=(bp.D _)) ?_
  refine ax ?_;refine aI (bp.D r.needs[i]!) (he:=aQ) ?_;refine aB ?_;refine aq (hc:=h210 r r.needs[i]! (hp0.2.1 _ (bE ae))) ?_;refine aD ?_;refine fM (fun hc4=>?_) fun hc4=>?_
  .refine cZ ?_;refine bF (aH (aj (D.int .i64) ?_) (aj (D.int .i64) ?_));all_goals
    have hq:cK r=(iZ r r.needs[i]!,((i:Nat):Int)):=by
     exact pB hc0 hc1 ae ae (G8 (by rw[hr,j7 ae hc4]) hc4) hc4
    rw[hq];first|done|rfl
  refine aZ ?_;exact⟨i+1,⟨ae,by rw[hr,lR ae hc4]⟩,ae,(dr [(0,0)])⟩
 refine aB ?_;have hn0:lZ r=(0,0):=by rw[hr,lQ ae]
 refine ay ?_;intro u2;refine ax ?_;refine ba hm (ι:=Nat) (fun i=>(.un::.un::.un::⟨true,.ptr 0 9 0 0⟩::.un::.un::.un::.un::.un::.un::.un::.un::.un::.un::.un::⟨true,.int .i64 (i:Nat)⟩::⟨true,.int .i64 (r.bars.length:Nat)⟩::.un::⟨true,.sl 3 (r.bars.map fq.D)⟩::.un::.un::.un::.un::.un::.un::.un::.un::.un::.un::.un::.un::.un::.un::.un::.un::.un::.un::.un::.un::[])) (fun i=>[(0,.buf 9 [Rec.D r])]) 33 (fun i=>i<=r.bars.length/\tn r=iw (fun i=>pw r r.bars[i]!) i r.bars.length) (fun i=>r.bars.length-i) 0 ⟨ae,rfl⟩ (dr [(0,0)]) ?_;rintro i ⟨hi,hr⟩;refine ay ?_;refine cF (fun hc5=>?_) fun hc5=>?_
 .refine aE ?_;first|refine bD (v:=(fq.D _)) ?_|refine e7 (v:=(fq.D _)) ?_
  refine ax ?_;refine aI (fq.D r.bars[i]!) (he:=aQ) ?_;refine bL ?_;refine aq (hc:=h211 r r.bars[i]!.name r.bars[i]!.range (hp0.2.2.1 _ (bE ae)).2.1) ?_;refine aZ ?_;refine av (fun hc6=>?_) (fun hc6=>?_)
  .simp only[bd,bc]at hc6;have hbe:pw r r.bars[i]! =fR r r.bars[i]!.name r.bars[i]!.range:=by rw[pw,aw hc6]
   refine fS ?_;refine bF (aH (aj (D.int .i64) ?_) (aj (D.int .i64) ?_));all_goals
    have hq:cK r=(fR r r.bars[i]!.name r.bars[i]!.range,((i:Nat):Int)):=by
     exact pB hc0 hc1 ae ae (A4 hn0 (by rw[hr,j7 ae (by rw[hbe];exact hc6),hbe]) hc6) hc6
    rw[hq];first|done|rfl
  try simp only[dn]at hc6
  refine aB ?_;refine aq (hc:=h212 _) ?_;refine ax ?_;refine wp_cond (fun hc7=>?_) (fun hc7=>?_)
  .simp only[bd]at hc7;have hbe:pw r r.bars[i]! =7:=by rw[pw,ak (fun h=>h hc6),aw hc7]
   refine bL ?_;refine bF (aH (aj (D.int .i64) ?_) (aj (D.int .i64) ?_));all_goals
    have hq:cK r=((7:Int),((i:Nat):Int)):=by
     exact pB hc0 hc1 ae ae (A4 hn0 (by rw[hr,j7 ae (by rw[hbe];decide),hbe]) (show(7:Int)≠0 by decide)) (show(7:Int)≠0 by decide)
    rw[hq];first|done|rfl
  simp only[bK]at hc7;have hbz:pw r r.bars[i]! =0:=by rw[pw,ak (fun h=>h hc6),ak (by rw[hc7];simp)]
  refine aZ ?_;exact⟨i+1,⟨ae,by rw[hr,lR ae hbz]⟩,ae,(dr [(0,0)])⟩
 refine aB ?_;have hb0:tn r=(0,0):=by rw[hr,lQ ae]
 refine ax ?_;refine aq (hc:=h213 r.feats hp0.2.2.2) ?_;refine ax ?_;refine av (fun hc8=>?_) (fun hc8=>?_)
 .try simp only[dn]at hc8
  refine aD ?_;refine bF (aH (aj (D.int .i64) ?_) (aj (D.int .i64) ?_));all_goals
   have hq:cK r=(11,0):=by
    exact pB hc0 hc1 ae ae (G9 hn0 hb0 hc8) aF
   rw[hq];first|done|rfl
 simp only[bK]at hc8;refine aD ?_;intro u3;refine ax ?_;refine ba hm (ι:=Nat) (fun i=>(.un::.un::.un::⟨true,.ptr 0 9 0 0⟩::.un::.un::.un::.un::.un::.un::.un::.un::.un::.un::.un::.un::.un::.un::.un::.un::.un::.un::.un::.un::.un::⟨true,.int .i64 (i:Nat)⟩::⟨true,.int .i64 (r.feats.length:Nat)⟩::.un::⟨true,.sl 2 (r.feats.map bZ.D)⟩::.un::.un::.un::.un::.un::.un::.un::.un::.un::.un::[])) (fun i=>[(0,.buf 9 [Rec.D r])]) 42 (fun i=>i<=r.feats.length/\tM r=iw (fun i=>kU r r.feats[i]!.of) i r.feats.length) (fun i=>r.feats.length-i) 0 ⟨ae,rfl⟩ (dr [(0,0)]) ?_;rintro i ⟨hi,hr⟩;refine ay ?_;refine cF (fun hc9=>?_) fun hc9=>?_
 .refine aE ?_;first|refine bD (v:=(bZ.D _)) ?_|refine e7 (v:=(bZ.D _)) ?_
  refine ax ?_;refine aI (bZ.D r.feats[i]!) (he:=aQ) ?_;refine aE ?_;intro u4;refine ax ?_;refine qG hm (ι:=Nat) (fun j=>(.un::.un::.un::⟨true,.ptr 0 9 0 0⟩::.un::.un::.un::.un::.un::.un::.un::.un::.un::.un::.un::.un::.un::.un::.un::.un::.un::.un::.un::.un::.un::⟨true,.int .i64 (i:Nat)⟩::⟨true,.int .i64 (r.feats.length:Nat)⟩::.un::⟨true,.sl 2 (r.feats.map bZ.D)⟩::.un::⟨true,.int .i64 (j:Nat)⟩::⟨true,.int .i64 (r.feats[i]!.of.length:Nat)⟩::.un::⟨true,.sl 1 (r.feats[i]!.of.map D.str)⟩::.un::.un::.un::⟨true,.int .i64 (i:Nat)⟩::.un::[])) (fun j=>[(0,.buf 9 [Rec.D r])]) 53 (fun j=>j<=r.feats[i]!.of.length/\kU r r.feats[i]!.of=fJ (fun j=>jU r r.feats[i]!.of[j]!) j r.feats[i]!.of.length) (fun j=>r.feats[i]!.of.length-j) 0 ⟨ae,rfl⟩ (dr [(0,0)]) ?_;rintro j ⟨hj,hjr⟩;refine ay ?_;refine cF (fun hc10=>?_) fun hc10=>?_
  .refine fS ?_;refine aq (hc:=h214 r r.feats[i]!.of[j]! ((hp0.2.2.2 _ (bE ae)).2.2 _ (bE ae))) ?_;refine aD ?_;refine fM (fun hc11=>?_) fun hc11=>?_
   .refine fH ?_;refine bF (aH (aj (D.int .i64) ?_) (aj (D.int .i64) ?_));all_goals
     have hq:cK r=(jU r r.feats[i]!.of[j]!,((i:Nat):Int)):=by
      have hie:kU r r.feats[i]!.of=jU r r.feats[i]!.of[j]! :=by rw[hjr,lS ae hc11]
      exact pB hc0 hc1 ae ae (rR hn0 hb0 hc8 (by rw[hr,j7 (f:=(fun i=>kU r r.feats[i]!.of)) ae (by rw[hie];exact hc11),hie])) hc11
     rw[hq];first|done|rfl
   refine aZ ?_;exact⟨j+1,⟨ae,by rw[hjr,nK ae hc11]⟩,ae,(dr [(0,0)])⟩
  refine bL ?_;exact⟨i+1,⟨ae,by rw[hr,lR (f:=(fun i=>kU r r.feats[i]!.of)) ae (by rw[hjr,nJ ae])]⟩,ae,(dr [(0,0)])⟩
 refine aB ?_;have hpz:eW r=(0,0):=rR hn0 hb0 hc8 (by rw[hr,lQ ae]);have hgd:xG r:=⟨⟨hc0,hc1⟩,⟨ae,ae⟩,hpz⟩;refine aA ?_;refine aq (hc:=h215 r ⟨hgd,hp0⟩) ?_;refine aA ?_;intro u5;refine ax ?_;refine cF (fun hc12=>?_) fun hc12=>?_
 .refine aD ?_;refine bF (aH (aj (D.int .i64) ?_) (aj (D.int .i64) ?_));all_goals
   have hq:cK r=(3,0):=by
    rw[rk hc0 hc1 ae ae hpz,aw ae]
   rw[hq];first|done|rfl
 refine aD ?_;refine bF (aH (aj (D.int .i64) ?_) (aj (D.int .i64) ?_));all_goals
  have hq:cK r=(0,0):=by
   rw[rk hc0 hc1 ae ae hpz,ak ae]
  rw[hq];first|done|rfl
def FB (T:List D->D->Prop):Prop:=∀(r:Rec),(fA r)->T [Rec.D r] (.tup [.int .i64 (cK r).1,.int .i64 (cK r).2])
def C70 (Y:Ctx):Prop:=FB (bx Y 70)
noncomputable def E4:aC:=cP 34
def w76 {Y:Ctx}(hm:(Y.at 0).b7)(h70:C70 Y)(h124:NC Y)(h222:ZS Y)(s:au)   :dh Y E4 (.tup [Rec.D (cA s).1,.int .i64 (cA s).2.1,.int .i64 (cA s).2.2]) [.str s]:=by
 show bJ _ _ _ [⟨_,_⟩,_,_,_,_,_,_,_,_,_,_,_] _;refine ar ?_;refine bL ?_;intro u0;refine ax ?_;refine av (fun hc0=>?_) (fun hc0=>?_)
 .simp only[aK]at hc0;have hrr:cA s=(gR,3,0):=by unfold cA;rw[aw ae]
  rw[hrr];refine ax ?_;refine bg dx ?_;refine aI dx (he:=aQ) ?_;refine ay ?_;refine kF [(0,.buf 9 [Rec.D gR])] (.bf ah (.cons mw .nil) .nil) ?_;refine aA ?_;refine bF (di ?_ (aj (D.int .i64) ?_) (aj (D.int .i64) ?_));all_goals rfl
 simp only[bc]at hc0;have hsp:=ep 10 s [];have hsp:1<=(ai s 10).length:=hsp;have hsl:=dk s 10;refine ay ?_;refine aq (v:=.sl 1 ((ai s 10).map D.str)) (hc:=h124 s 10 ae) ?_;refine aD ?_;intro u1;refine aA ?_;refine oq ((ai s 10).length-1) (hj:=fun _=>ae) (hb:=fun _=>ae) ?_;refine bg (Ld.D ⟨((ai s 10).take ((ai s 10).length-1)),0⟩) ?_;refine aB ?_;generalize hLS:((ai s 10).take ((ai s 10).length-1))=LS;have hLl:LS.length=(ai s 10).length-1:=by rw[<-hLS,er];omega
 have hLm:B0 LS:=fun t ht=>by
  rw[<-hLS]at ht;have:=dS s 10 (kl ht);omega
 have hsm0:(⟨LS,0⟩:Ld).sm:=⟨⟨Nat.zero_le _,by simp only;omega⟩,hLm⟩;obtain⟨hrs,hsf⟩:=E2 hLm;have hsfl:=hsf.length_le;refine aA ?_;refine nF (v:=.tup [Rec.D (gk LS).1,.bool (oH LS).isSome]) (e:=Ld.D ((⟨LS,0⟩:Ld).to (gk LS).2)) (hc:=h222 ⟨LS,0⟩ hsm0) ?_;refine aA ?_;refine eX (Rec.D _) ?_;refine ax ?_;refine aI (Rec.D (gk LS).1) (he:=aQ) ?_;refine fS ?_;refine aT (v:=.int .i64 ((LS.length-(gk LS).2.length:Nat):Int)) ?_;refine ay ?_;refine aT (v:=.sl 1 (LS.map D.str)) ?_;refine ik ?_;refine aE ?_;refine ik ?_;refine aA ?_;refine bH ((ai s 10).length-1) (hj:=fun _=>ae) (hb:=fun _=>ae) ?_;refine bD (v:=.str (ai s 10)[(ai s 10).length-1]!) (hi:=fun _=>ae) ?_;refine ay ?_;refine av (fun hc1=>?_) (fun hc1=>?_)
 .simp only[cM,bd,aK,bc]at hc1;have hrr:cA s=(gR,2,((LS.length-(gk LS).2.length:Nat):Int)+1):=by
   unfold cA;rw[ak ae];simp only[hLS];rw[aw];rcases hc1 with(h|h)|h
   .exact .inl h
   .refine .inr (.inl fun e=>?_);rw[e]at h;simp only[a8]at h;omega
   .exact .inr (.inr h)
  rw[hrr];refine aA ?_;refine eH 15 (he:=by simp only[kS,iD,iN,lG,mU,cH,Nat.reduceEqDiff,aW,aX,cN,cr,ct,cS,cW,bQ,bN,aL,bY,aN,reduceCtorEq,aP,a8,Nat.reduceAdd,Nat.reduceLeDiff,Ld.D,dx,pQ];exact rfl) (hm:=by simp only[kS,iD,iN,lG,mU,cH,Nat.reduceEqDiff,aW,aX,cN,cr,ct,cS,cW,bQ,bN,aL,bY,aN,reduceCtorEq,aP,a8,Nat.reduceAdd,Nat.reduceLeDiff,Ld.D,dx,Rec.D];exact rfl) ?_;refine aA ?_;refine bg dx ?_;refine ay ?_;refine Bf (v:=.int .i64 ((LS.length-(gk LS).2.length:Nat):Int)) ?_;refine aA ?_;refine aI dx (he:=aQ) ?_;refine ay ?_;refine kF [(0,.buf 9 [Rec.D gR]),(22,.buf 9 [Rec.D (gk LS).1])] (.bf ah (.cons mw .nil) (.id ah .nil)) ?_;refine aA ?_;refine bF (di ?_ (aj (D.int .i64) ?_) (aj (D.int .i64) ?_));all_goals rfl
 simp only[dd,bK,aK,bc]at hc1;have hrr:cA s=if(cK (gk LS).1).1≠0 then(gR,(cK (gk LS).1).1,0)else((gk LS).1,0,0):=by
  unfold cA;rw[ak ae];simp only[hLS];rw[ak];rintro(h|h|h)
  .rw[hc1.1.1]at h;cases h
  .exact h (mh (by have:=hc1.1.2;omega))
  .exact h hc1.2
 rw[hrr];refine ay ?_;refine cz (d:=Rec.D (gk LS).1) ?_;refine aq (hc:=h70 (gk LS).1 hrs) ?_;refine fH ?_;refine av (fun hc2=>?_) (fun hc2=>?_)
 .simp only[bd,bc]at hc2;rw[aw hc2];refine ax ?_;refine bg dx ?_;refine aA ?_;refine aI dx (he:=aQ) ?_;refine ay ?_;refine kF [(0,.buf 9 [Rec.D gR]),(15,.buf 2 [Ld.D ((⟨LS,0⟩:Ld).to (gk LS).2)]),(22,.buf 9 [Rec.D (gk LS).1])] (.bf ah (.cons mw .nil) (.id ah (.id ah .nil))) ?_;refine aA ?_;refine bF (di ?_ (aj (D.int .i64) ?_) (aj (D.int .i64) ?_));all_goals rfl
 simp only[bK,aK]at hc2;rw[ak (by rw[hc2];simp)];refine ax ?_;refine cz (d:=Rec.D (gk LS).1) ?_;refine aI (Rec.D (gk LS).1) (he:=aQ) ?_;refine aB ?_;refine bF (di ?_ (aj (D.int .i64) ?_) (aj (D.int .i64) ?_));all_goals rfl
def FE (T:List D->D->Prop):Prop:=∀(s:au),T [.str s] (.tup [Rec.D (cA s).1,.int .i64 (cA s).2.1,.int .i64 (cA s).2.2])
def C76 (Y:Ctx):Prop:=FE (bx Y 76)
def uu (t:au)(n:Nat):Bool:=decide (n<(ai t 32).length)&&cQ (fun i=>!decide ((ai t 32)[i]! =[])) 0 n
def gQ (t:au)(n:Nat):List au×au×Bool:=if uu t n=true then((ai t 32).take n,aS [32] ((ai t 32).drop n),!decide (aS [32] ((ai t 32).drop n)=[]))else([],[],false)
theorem EL {l:List au}{n:Nat}{x:au}(hn:n<=l.length):x∈l.take n↔∃i,i<n/\l[i]! =x:=by
 constructor
 .intro h;obtain⟨i,hi,e⟩:=List.mem_iff_getElem.1 h;rw[er]at hi;refine⟨i,ae, ?_⟩
  grind
 .rintro⟨i,hi,rfl⟩;have:l[i]! =(l.take n)[i]! :=by simp[hi,show i<l.length by omega]
  grind
theorem Fe (t:au)(n:Nat):ov t n=if(gQ t n).2.2=true then some ((gQ t n).1,(gQ t n).2.1)else none:=by
 grind [ov,gQ,uu,ai,cQ,eC,EL,aS]
def G4 (l:List au)(n:Nat):wS l n=(decide (l.length=n)&&cQ (fun i=>!decide (l[i]! =[])) 0 l.length):=by
 grind [rQ,eC,bE,vx]
def az (s:au):List au×Bool:=if(ai s 10)[(ai s 10).length-1]! =[]then((ai s 10).take ((ai s 10).length-1),true)else(ai s 10,false)
noncomputable def JQ:aC:=cP 171
def w475 (h249:NF Y)(h470:tz Y)(s:au)(n:Nat)  (hp0:s.length<=1048576)(hp1:n<=100):dh Y JQ (.tup [.sl 1 ((gQ s n).1.map D.str),.str (gQ s n).2.1,.bool (gQ s n).2.2]) [.str s,.int .i64 (n:Nat)]:=by
 show bJ _ _ _ [⟨_,_⟩,⟨_,_⟩,_,_,_,_,_,_,_,_,_] _;have hsl:=dk s 32;refine ar ?_;refine aD ?_;refine aq (v:=.sl 1 ((ai s 32).map D.str)) (hc:=h470 s 32 hp0) ?_;refine aD ?_;intro u0;refine ay ?_;refine av (fun hc0=>?_) (fun hc0=>?_)
 .simp only[aK]at hc0;have hrd:gQ s n=([],[],false):=by unfold gQ uu;rw[cG ae];rfl
  rw[hrd];refine aZ ?_;refine bF (di ?_ ?_ ?_);all_goals rfl
 simp only[bc]at hc0;have hlt:n<(ai s 32).length:=ae;refine aE ?_;refine ba hm (ι:=Nat) (fun i=>[⟨true,.str s⟩,⟨true,.int .i64 (n:Nat)⟩,⟨true,.bq⟩,⟨true,.str []⟩,⟨true,.bool false⟩,⟨true,.sl 1 ((ai s 32).map D.str)⟩,.un,⟨true,.int .i64 (i:Nat)⟩,.un,.un,.un]) (fun i=>[]) 11 (fun i=>i<=n/\uu s n=cQ (fun i=>!decide ((ai s 32)[i]! =[])) i n) (fun i=>n-i) 0 ⟨ae,by unfold uu;rw[b9 hlt];rfl⟩ (dr []) ?_;rintro i ⟨hi,hr⟩;refine aD ?_;refine cF (fun hc1=>?_) fun hc1=>?_
 .refine aE ?_;refine bH i (hb:=fun _=>ae) ?_;refine bD (v:=.str (ai s 32)[i]!) (hi:=fun _=>ae) ?_;refine ax ?_;refine fM (fun hc2=>?_) fun hc2=>?_
  .refine aA ?_;have hrd:gQ s n=([],[],false):=by unfold gQ;rw[hr,aU ae,b9 hc2];rfl
   rw[hrd];refine aZ ?_;refine bF (di ?_ ?_ ?_);all_goals rfl
  refine bL ?_;exact⟨i+1,⟨ae,by rw[hr,aU ae,cG hc2];rfl⟩,ae,(dr [])⟩
 refine ay ?_;have hro:uu s n=true:=by rw[hr,cj ae]
 have hrd:gQ s n=((ai s 32).take n,aS [32] ((ai s 32).drop n),!decide (aS [32] ((ai s 32).drop n)=[])):=by unfold gQ;rw[aw hro]
 rw[hrd];refine ax ?_;refine rZ n (hb:=fun _=>ae) ?_;refine aq (v:=.str (aS [32] ((ai s 32).drop n))) (hc:=h249 ((ai s 32).drop n) 32 (by have:=n9 32 (ai s 32) n;rw[jl (b:=32) (x:=32) rfl s]at this;omega)) ?_;refine aE ?_;refine oq n (hb:=fun _=>ae) ?_;refine bL ?_;refine bF (di ?_ ?_ ?_);all_goals rfl
def MS (T:List D->D->Prop):Prop:=∀(s:au) (n:Nat),(s.length<=1048576)->(n<=100)->T [.str s,.int .i64 (n:Nat)] (.tup [.sl 1 ((gQ s n).1.map D.str),.str (gQ s n).2.1,.bool (gQ s n).2.2])
def T9 (Y:Ctx):Prop:=MS (bx Y 475)
noncomputable def Pn:aC:=cP 170
def w474  (l:List au)(n:Nat)   :dh Y Pn (.bool (wS l n)) [.sl 1 (l.map D.str),.int .i64 (n:Nat)]:=by
 show bJ _ _ _ [⟨_,_⟩,⟨_,_⟩,_,_,_,_,_] _;refine ar ?_;refine aD ?_;intro u0;refine ay ?_;refine cF (fun hc0=>?_) fun hc0=>?_
 .refine aE ?_;refine bU ?_;rw[G4,cG ae];rfl
 refine aE ?_;refine ba hm (ι:=Nat) (fun i=>[⟨true,.sl 1 (l.map D.str)⟩,⟨true,.int .i64 (n:Nat)⟩,⟨true,.bool false⟩,.un,⟨true,.int .i64 (i:Nat)⟩,.un,.un]) (fun i=>[]) 6 (fun i=>i<=l.length/\wS l n=cQ (fun i=>!decide (l[i]! =[])) i l.length) (fun i=>l.length-i) 0 ⟨ae,by rw[G4,b9 ae];rfl⟩ (dr []) ?_;rintro i ⟨hi,hr⟩;refine aE ?_;intro u1;refine ax ?_;refine cF (fun hc1=>?_) fun hc1=>?_
 .refine aE ?_;refine bH i (hb:=fun _=>ae) ?_;refine bD (v:=.str l[i]!) (hi:=fun _=>ae) ?_;refine ax ?_;refine fM (fun hc2=>?_) fun hc2=>?_
  .refine aD ?_;refine bU ?_;rw[hr,aU ae,b9 hc2];rfl
  refine bL ?_;exact⟨i+1,⟨ae,by rw[hr,aU ae,cG hc2];rfl⟩,ae,(dr [])⟩
 refine aD ?_;refine bU ?_;rw[hr,cj ae]
def MR (T:List D->D->Prop):Prop:=∀(l:List au) (n:Nat),T [.sl 1 (l.map D.str),.int .i64 (n:Nat)] (.bool (wS l n))
def Xm (Y:Ctx):Prop:=MR (bx Y 474)
noncomputable def Ht:aC:=cP 37
def w223 {Y:Ctx}(hm:(Y.at 0).b7)(h470:tz Y)(s:au)  (hp0:s.length<=1048576):dh Y Ht (.tup [.sl 1 ((az s).1.map D.str),.bool (az s).2]) [.str s]:=by
 show bJ _ _ _ [⟨_,_⟩,_,_,_,_,_] _;have hsp:1<=(ai s 10).length:=ep 10 s [];have hsl:=dk s 10;refine ar ?_;refine aE ?_;refine aq (v:=.sl 1 ((ai s 10).map D.str)) (hc:=h470 s 10 hp0) ?_;refine aE ?_;intro u0;refine aZ ?_;refine bH ((ai s 10).length-1) (hj:=fun _=>ae) (hb:=fun _=>ae) ?_;refine bD (v:=.str (ai s 10)[(ai s 10).length-1]!) (hi:=fun _=>ae) ?_;refine ax ?_;refine cF (fun hc0=>?_) fun hc0=>?_
 .refine ax ?_;have hlx:az s=(((ai s 10).take ((ai s 10).length-1)),true):=by unfold az;rw[aw hc0]
  rw[hlx];refine ax ?_;refine oq ((ai s 10).length-1) (hj:=fun _=>ae) (hb:=fun _=>ae) ?_;refine aB ?_;refine bF (aH ?_ ?_);all_goals rfl
 refine ax ?_;have hlx:az s=((ai s 10),false):=by unfold az;rw[ak hc0]
 rw[hlx];refine aE ?_;refine bF (aH ?_ ?_);all_goals rfl
def Me (T:List D->D->Prop):Prop:=∀(s:au),(s.length<=1048576)->T [.str s] (.tup [.sl 1 ((az s).1.map D.str),.bool (az s).2])
def W3 (Y:Ctx):Prop:=Me (bx Y 223)
end Go.Abs
section
namespace Go.Abs
variable {Y:Ctx}(hm:(Y.at 0).b7)
def xb (t:au)(n:Nat)(h:(gQ t n).2.2=true):(gQ t n).1.length=n:=by
 grind [gQ,uu]
def Bs (t:au)(n:Nat):∀w∈(gQ t n).1,w.length<=t.length:=by
 unfold gQ;split
 .intro w hw;exact dS t 32 (kl hw)
 .intro w hw;cases hw
def lH (j:Nat)(n:bp):D:=.agg [.own j 4 0 n.any.length,.str n.when',.str n.option]
def eL (j:Nat):List bp->List D
 |[]=>[]
 |[n]=>[lH j n]
 |a::b::r=>bp.D a::eL j (b::r)
def mW:List bp->List D
 |[]=>[]
 |[n]=>n.any.map bS.N
 |_::b::r=>mW (b::r)
def gF (j:Nat)(n:bp):∀N:List bp,eL j (N++[n])=N.map bp.D++[lH j n]
 |[]=>rfl
 |[a]=>rfl
 |a::b::r=>by
  have:=gF j n (b::r)
  grind [eL]
def ju (n:bp):∀N:List bp,mW (N++[n])=n.any.map bS.N
 |[]=>rfl
 |[a]=>rfl
 |a::b::r=>by
  have:=ju n (b::r)
  grind [mW]
def sZ {α:Type}{l:List α}(h:l≠[]):∃a x,l=a++[x]:=⟨l.dropLast,l.getLast h,(List.dropLast_concat_getLast h).symm⟩
def mI {α:Type}(l:List α)(a d:α)(n:Nat)(h:n=l.length):(l++[a]).getD n d=a:=by subst h;simp[List.getD]
def pY {α:Type}(l:List α)(a b:α)(n:Nat)(h:n=l.length):(l++[a]).set n b=l++[b]:=by subst h;simp
def nR (nm:au)(v:cn)(a b c:Nat)(st:Int)(j1 j3 j4:Nat):D:=.agg [.str nm,.int .i64 v.major,.int .i64 v.minor,.int .i64 v.patch,.str v.pre,.str v.build,.own j1 3 0 a,.own j3 3 0 b,.own j4 2 0 c,.int .i64 st]
def X5 (x:jg)(j0 j1 j2 j3 j4:Nat):List (Nat×bW):=[(j0,.buf 10 [nR x.r.name x.r.v x.r.needs.length x.r.bars.length x.r.feats.length (x.st:Nat) j1 j3 j4]),(j1,.buf 3 (eL j2 x.r.needs)),(j2,.buf 4 (mW x.r.needs)),(j3,.buf 3 (x.r.bars.map fq.D)),(j4,.buf 2 (x.r.feats.map bZ.D))]
structure Un (m:List (Nat×bW))(x:jg)(j0 j1 j2 j3 j4:Nat):Prop where
 a0:look m j0=some (.buf 10 [nR x.r.name x.r.v x.r.needs.length x.r.bars.length x.r.feats.length (x.st:Nat) j1 j3 j4])
 a1:look m j1=some (.buf 3 (eL j2 x.r.needs))
 a2:look m j2=some (.buf 4 (mW x.r.needs))
 a3:look m j3=some (.buf 3 (x.r.bars.map fq.D))
 a4:look m j4=some (.buf 2 (x.r.feats.map bZ.D))
def tQ (a b c d e:Nat):Bool:=!(Nat.beq a b ||Nat.beq a c ||Nat.beq a d ||Nat.beq a e ||Nat.beq b c ||Nat.beq b d ||Nat.beq b e ||Nat.beq c d ||Nat.beq c e ||Nat.beq d e)
def vP (o:Option jg)(j0 L:Nat):List (Nat×bW):=match o with
 |some y=>X5 y j0 L (L+1) (L+2) (L+3)
 |none=>[]
def FQ (m:List (Nat×bW))(j0 j1 j2 j3 j4:Nat):List (Nat×bW):=cH (cH (cH (cH (cH m j0) j1) j2) j3) j4
def X6 (out:Option jg):D->List (Nat×bW)->Prop:=fun d m=>d=.bool out.isSome/\∀y,out=some y->∃j1 j2 j3 j4,tQ 0 j1 j2 j3 j4=true/\Un m y 0 j1 j2 j3 j4
def RdC (Y:Ctx)(n:Nat)(aoF:List D)(x:jg)(out:Option jg):Prop:=∀(nx j0 j1 j2 j3 j4:Nat) (m:List (Nat×bW)) (K:D->St->Prop),Un m x j0 j1 j2 j3 j4->tQ j0 j1 j2 j3 j4=true->(j0<nx/\j1<nx/\j2<nx/\j3<nx/\j4<nx)->
 K (.bool out.isSome) ⟨nx+4,vP out j0 nx++FQ m j0 j1 j2 j3 j4⟩->Y.tr n (.ptr j0 10 0 0::aoF) ⟨nx,m⟩ K
def jg.ok (x:jg):Prop:=(x.st=0->x.r.needs=[]/\x.r.bars=[]/\x.r.feats=[])/\((x.st=2\/x.st=3)->x.r.needs≠[])/\(x.st=5->x.r.bars≠[])
def tt (l:List bp):Nat:=(l.getLast?.map fun n=>n.any.length).getD 0
def jg.sz (x:jg):Nat:=x.r.needs.length+x.r.bars.length+x.r.feats.length+tt x.r.needs
def qp (N:List bp)(n:bp):tt (N++[n])=n.any.length:=by simp[tt]
def rH (x:jg)(l:List au):Option jg:=if(l.length=3/\l[0]! =dM)/\l[1]! ≠[]then(match gf l[2]! with
 |some v=>some ⟨⟨l[1]!,v,x.r.needs,x.r.bars,x.r.feats⟩,1⟩
 |none=>none)else none
def K0 {x:jg}(h:x.ok)(h0:x.st=0)(l:List au):rH x l=Ay l:=by
 obtain⟨h1,h2,h3⟩:=h.1 h0;unfold rH Ay
 grind
def lO:∀N:List bp,bG (mW N)=true
 |[]=>rfl
 |[a]=>br bS.oM _
 |a::b::r=>lO (b::r)
end Go.Abs
namespace Go.Abs
variable {Y:Ctx}(hm:(Y.at 0).b7)
def wK (l k:Nat)(es:List D)(hl:l≠2):∀N:List bp,iN l k es (eL 2 N)=eL 2 N
 |[]=>rfl
 |[n]=>by simp only[eL,lH,iN,iD,show ¬2=l from fun e=>hl e.symm,cS,aX]
 |a::b::r=>by
  have:=wK l k es hl (b::r);have ha:iD l k es (bp.D a)=bp.D a:=rfl;simp only[eL,iN,this,ha]
def wm (l k:Nat)(es:List D)(N:List bp):iN l k es (mW N)=mW N:=qj l k es _ (lO N)
def tS (l k:Nat)(es:List D)(B:List fq):iN l k es (B.map fq.D)=B.map fq.D:=qj l k es _ (br (fun _=>rfl) _)
def tT (l k:Nat)(es:List D)(Z:List bZ):iN l k es (Z.map bZ.D)=Z.map bZ.D:=qj l k es _ (br (fun _=>rfl) _)
end Go.Abs
end
namespace Go.Abs
variable {Y:Ctx}(hm:(Y.at 0).b7)
section
def QA (ob:FP):Prop:=∀(σ:List (Nat×Nat)) (l l':Nat) (w:List au) (n:Nat) (b:Bool),lK 0 σ l=some l'->qY 0 σ (ob w (.own l 5 0 n) b)=some (ob w (.own l' 5 0 n) b)
def rT:QA iO:=fun σ l l' w n b h=>by simp only[iO,qY,ox,Co,h]
def uo (W:List au):QA (jf W):=fun σ l l' w n b h=>by simp only[jf,qY,ox,Co,h]
def Ti:D->Nat
 | .agg [.sl _ ws,_,_]=>ws.length
 | .agg [.sl _ ws,.int _ i,_,_]=>ws.length-i.toNat
 |_=>0
def EM (c:List D->Nat)(ds:List D)(st:St):Nat:=match ds with
 | .ptr l _ _ _::aoF=>(match look st.m l with
  |some (.buf _ [o])=>6*Ti o+c aoF
  |_=>0)
 |_=>0
def VL (w:List au)(X:D)(b:Bool):Ti (iO w X b)=w.length:=by simp[Ti,iO]
def VM {W w:List au}(h:w<:+W)(X:D)(b:Bool):Ti (jf W w X b)=w.length:=by
 grind [Ti,jf]
def oe {c:List D->Nat}{l k nx:Nat}{aoF:List D}{m:List (Nat×bW)}{w:List au}{X:D}{b:Bool}(h:look m l=some (.buf k [iO w X b])):EM c (.ptr l k 0 0::aoF) ⟨nx,m⟩=6*w.length+c aoF:=by
 simp only[EM,h,VL]
def uf {c:List D->Nat}{l k nx:Nat}{aoF:List D}{m:List (Nat×bW)}{W w:List au}{X:D}{b:Bool}(hw:w<:+W)(h:look m l=some (.buf k [jf W w X b])):EM c (.ptr l k 0 0::aoF) ⟨nx,m⟩=6*w.length+c aoF:=by
 simp only[EM,h,VM hw]
def Jw (nd:List Nd):bG (nd.map Nd.D)=true:=br (fun _=>rfl) _
section
variable [dR] {P:Program} {ν:List (Nat×Nat)} {c7:List Nat} {t:List (Nat×qO)} {fid n key u k:Nat} {af:aC} {ob:FP} {aoF:List D} {w:List au} {nd:List Nd} {b:Bool} {lp ln nx:Nat} {m:List (Nat×bW)} {K:D->St->Prop} {Pp:PO->Prop} {V:PO->D}
def SE (hob:QA ob)(hk5:k≠5)(has:bG aoF=true)(h1:look m lp=some (.buf k [ob w (.own ln 5 0 nd.length) b]))(h2:look m ln=some (.buf 5 (nd.map Nd.D))):
  lp≠ln/\(∀i,i<(D.ptr lp k 0 0::aoF).length->T1 0 [(lp,0),(ln,1)] ((D.ptr lp k 0 0::aoF).getD i .any) ((D.ptr 0 k 0 0::aoF).getD i .any))/\gI 0 2 [(lp,0),(ln,1)]=true/\(∀l i,(l,i)∈[(lp,0),(ln,1)]->look m l≠none)/\
   ∀i bb,look [(0,.buf k [ob w (.own 1 5 0 nd.length) b]),(1,.buf 5 (nd.map Nd.D))] i=some bb->∃l b',(l,i)∈[(lp,0),(ln,1)]/\look m l=some b'/\sB 0 [(lp,0),(ln,1)] b' bb:=by
 have hne:lp≠ln:=by
  rintro rfl;rw[h1]at h2;exact hk5 (bW.buf.inj (bM h2)).1
 have hb:Nat.beq lp ln=false:=by cases h:Nat.beq lp ln with
  |false=>rfl
  |true=>exact absurd (Nat.eq_of_beq_eq_true h) hne
 have hb':Nat.beq ln lp=false:=by cases h:Nat.beq ln lp with
  |false=>rfl
  |true=>exact absurd (Nat.eq_of_beq_eq_true h).symm hne
 refine⟨hne,fun i hi=>?_, ?_,fun l i h=>?_,fun i bb h=>?_⟩
 .match i with
  |0=>exact .inr (.inl (by simp[qY,Co,lK]))
  |i+1=>exact .inl ⟨rfl,dq has i⟩
 .simp[gI,hb,hb'];rfl
 .grind
 .simp only[look]at h;split at h
  .rename_i e;subst e;obtain rfl:=bM h;exact⟨lp,_,.head _,h1,rfl,.inr (.inl (by simp only[ox,hob _ ln 1 w nd.length b (show lK 0 [(lp,0),(ln,1)] ln=some 1 by simp[lK,hb])]))⟩
  .split at h
   .rename_i e;subst e;obtain rfl:=bM h;exact⟨ln,_,.tail _ (.head _),h2,rfl,.inl ⟨rfl,Jw nd⟩⟩
   .cases h
def gA (hob:QA ob)(hk5:k≠5)(has:bG aoF=true)(hV:∀o,(V o).bI=true)(hmix:P.follows .mixedOrders=true)(hC:KB P ν c7 fid af)(hnp:aoF.length+1=af.np)
  (h1:look m lp=some (.buf k [ob w (.own ln 5 0 nd.length) b])) (h2:look m ln=some (.buf 5 (nd.map Nd.D))) (h3:lp<nx) (h4:ln<nx)
  (hK:∀o,Pp o->K (V o) ⟨nx+1,(nx,.buf 5 (o.nd.map Nd.D))::dG (cH m ln) lp (.buf k [ob o.w (.own nx 5 0 o.nd.length) o.bad])⟩)
  (hw:bJ ((under t key u).at 2) af.body (jQ af (yf k ob Pp V)) (fD af (.ptr 0 k 0 0::aoF)) ⟨2,[(0,.buf k [ob w (.own 1 5 0 nd.length) b]),(1,.buf 5 (nd.map Nd.D))]⟩):oL P ν c7 (under t key u) fid (.ptr lp k 0 0::aoF) ⟨nx,m⟩ K:=by
 obtain⟨hne,g2,g3,g4,g5⟩:=SE hob hk5 has h1 h2;refine xF (σi:=[(lp,0),(ln,1)]) (cs:=.ptr 0 k 0 0::aoF) (fun q=>vH t key u q) hmix hC aJ g2 (by simpa using hnp) g3 g4 g5 hw ?_;rintro d m1 ⟨o,j,hj,hP,rfl,e0,ej⟩;have hb0:Nat.beq 0 j=false:=by cases j<;>first|omega|rfl
 have hbj:Nat.beq j 0=false:=by cases j<;>first|omega|rfl
 have hbl:Nat.beq lp nx=false:=by cases h:Nat.beq lp nx with
  |false=>rfl
  |true=>have:=Nat.eq_of_beq_eq_true h;omega
 have hbl':Nat.beq nx lp=false:=by cases h:Nat.beq nx lp with
  |false=>rfl
  |true=>have:=Nat.eq_of_beq_eq_true h;omega
 refine⟨[(0,lp),(j,nx)],j+1,_,V o,⟨g3, ?_,Nat.le_succ _,g4, ?_,g5, ?_⟩,.inl ⟨rfl,hV o⟩,hK o hP⟩
 .simp[gI,hbj,hb0,hbl,hbl'];omega
 .intro i l h;rcases ca.1 h with h|h
  .obtain⟨rfl,rfl⟩:=Prod.mk.inj h;exact .inl (.head _)
  .obtain⟨rfl,rfl⟩:=Prod.mk.inj (cI.1 h);exact .inr (aL _)
 .intro l bb h;simp only[look]at h;split at h
  .rename_i e;subst e;obtain rfl:=bM h;exact .inl ⟨j,_,.tail _ (.head _),ej,rfl,.inl ⟨rfl,Jw _⟩⟩
  .rename_i hln;rw[cJ]at h;split at h
   .rename_i e;subst e;obtain rfl:=bM h;exact .inl ⟨0,_,.head _,e0,rfl,.inr (.inl (by simp only[ox,hob _ j nx o.w o.nd.length o.bad (show lK 0 [(0,l),(j,nx)] j=some nx by simp[lK,hb0])]))⟩
   .rename_i hlp;rw[fT]at h;split at h
    .cases h
    .rename_i hl2;refine .inr ⟨by simp only[lT,ak (fun e=>hlp (Eq.symm e)),ak hln],fun i hi=>?_,h⟩;rcases ca.1 hi with hi|hi
     .exact hlp (Prod.mk.inj hi).1
     .exact hl2 (Prod.mk.inj (cI.1 hi)).1
def wV (hob:QA ob)(hk5:k≠5)(has:bG aoF=true)(hV:∀o,(V o).bI=true)(hmix:P.follows .mixedOrders=true)(hC:KB P ν c7 fid af)(hnp:aoF.length+1=af.np)
  (h1:look m lp=some (.buf k [ob w (.own ln 5 0 nd.length) b])) (h2:look m ln=some (.buf 5 (nd.map Nd.D))) (h3:lp<nx) (h4:ln<nx)
  (hK:∀o,Pp o->K (V o) ⟨nx,dG m lp (.buf k [ob o.w (.own ln 5 0 nd.length) o.bad])⟩)
  (hw:bJ ((under t key u).at 2) af.body (jQ af (KE k ob nd Pp V)) (fD af (.ptr 0 k 0 0::aoF)) ⟨2,[(0,.buf k [ob w (.own 1 5 0 nd.length) b]),(1,.buf 5 (nd.map Nd.D))]⟩):oL P ν c7 (under t key u) fid (.ptr lp k 0 0::aoF) ⟨nx,m⟩ K:=by
 obtain⟨hne,g2,g3,g4,g5⟩:=SE hob hk5 has h1 h2;refine xF (σi:=[(lp,0),(ln,1)]) (cs:=.ptr 0 k 0 0::aoF) (fun q=>vH t key u q) hmix hC aJ g2 (by simpa using hnp) g3 g4 g5 hw ?_;rintro d m1 ⟨o,hP,rfl,e0,ej⟩;have hbl:Nat.beq lp ln=false:=by cases h:Nat.beq lp ln with
  |false=>rfl
  |true=>exact absurd (Nat.eq_of_beq_eq_true h) hne
 have hbl':Nat.beq ln lp=false:=by cases h:Nat.beq ln lp with
  |false=>rfl
  |true=>exact absurd (Nat.eq_of_beq_eq_true h).symm hne
 refine⟨[(0,lp),(1,ln)],2,⟨nx,dG m lp (.buf k [ob o.w (.own ln 5 0 nd.length) o.bad])⟩,V o,⟨g3, ?_,aL _,g4, ?_,g5, ?_⟩,.inl ⟨rfl,hV o⟩,hK o hP⟩
 .simp[gI,hbl,hbl'];exact⟨h3,rfl,h4⟩
 .intro i l h;rcases ca.1 h with h|h
  .obtain⟨rfl,rfl⟩:=Prod.mk.inj h;exact .inl (.head _)
  .obtain⟨rfl,rfl⟩:=Prod.mk.inj (cI.1 h);exact .inl (.tail _ (.head _))
 .intro l bb h;simp only at h;rw[cJ]at h;split at h
  .rename_i e;subst e;obtain rfl:=bM h;exact .inl ⟨0,_,.head _,e0,rfl,.inr (.inl (by simp only[ox,hob _ 1 ln o.w nd.length o.bad (show lK 0 [(0,l),(1,ln)] 1=some ln from rfl)]))⟩
  .rename_i hlp;by_cases hl2:l=ln
   .subst hl2;rw[h2]at h;obtain rfl:=bM h;exact .inl ⟨1,_,.tail _ (.head _),ej,rfl,.inl ⟨rfl,Jw _⟩⟩
   .refine .inr ⟨by simp only[lT,ak (fun e=>hlp (Eq.symm e)),ak (fun e=>hl2 (Eq.symm e))],fun i hi=>?_,h⟩;rcases ca.1 hi with hi|hi
    .exact hlp (Prod.mk.inj hi).1
    .exact hl2 (Prod.mk.inj (cI.1 hi)).1
def rh {a b:Nat}(h:a≠b):Nat.beq a b=false:=by
 cases h2:Nat.beq a b with
 |false=>rfl
 |true=>exact absurd (Nat.eq_of_beq_eq_true h2) h
def Bw {m:List (Nat×bW)}{l lw:Nat}(h:l≠lw):gw (cH m lw) l=match look m l with
 |some (.bld (some l2) _ _)=>cH (cH m lw) l2
 |_=>cH m lw:=by
 grind [gw,fT,look]
def OM {ws:List au}{s:au}{l lw:Nat}(hmix:P.follows .mixedOrders=true)(hC:KB P ν c7 fid af)(hnp:2=af.np)
  (h1:tl m l s) (h2:look m lw=some (.buf 1 (ws.map D.str))) (h3:l<nx) (h4:lw<nx) (hK:K (.tup []) ⟨nx+1,ri (cH m lw) l nx (s++cv ws)⟩)
  (hw:∀m0,tl m0 0 s->look m0 1=some (.buf 1 (ws.map D.str))->bJ ((under t key u).at 3) af.body (jQ af (fun d m=>d=.tup []/\look m 0=some (.bld (some 9) (s++cv ws).length true)/\look m 9=some (.row (s++cv ws)))) (fD af [.ptr 0 2 0 0,.own 1 1 0 ws.length]) ⟨3,m0⟩):
  oL P ν c7 (under t key u) fid [.ptr l 2 0 0,.own lw 1 0 ws.length] ⟨nx,m⟩ K:=by
 have hlw:l≠lw:=by
  rintro rfl;rcases h1 with⟨u,h,_⟩|⟨l2,u,h,_⟩<;>rw[h2]at h<;>cases h
 have hnl:bG (ws.map D.str)=true:=br (fun _=>rfl) _;have b1:=rh hlw;have b2:=rh (Ne.symm hlw);have b3:=rh (show l≠nx by omega);have b4:=rh (show nx≠l by omega)

 have fin:∀(σi:List (Nat×Nat)) (m0:List (Nat×bW)),gI 0 3 σi=true->(l,0)∈σi->(∀l i,(l,i)∈σi->look m l≠none)->(∀i b,look m0 i=some b->∃l b',(l,i)∈σi/\look m l=some b'/\sB 0 σi b' b)->
   (∀l' b,look (gw (cH m lw) l) l'=some b->l'≠l->look m l'=some b/\∀i,(l',i)∉σi)->∀d m1,(d=.tup []/\look m1 0=some (.bld (some 9) (s++cv ws).length true)/\look m1 9=some (.row (s++cv ws)))->
   ∃(σo:List (Nat×Nat)) (q1:Nat) (st':St) (vd':D),Fr σi σo 3 q1 m0 m1 ⟨nx,m⟩ st'/\T1 0 σo d vd'/\K vd' st':=by
  rintro σi m0 oki hm hlt hm0 hoff d m1 ⟨rfl,e0,e9⟩;refine⟨[(0,l),(9,nx)],10,⟨nx+1,ri (cH m lw) l nx (s++cv ws)⟩,.tup [],⟨oki, ?_,Nat.le_succ _,hlt, ?_,hm0, ?_⟩,.inl ⟨rfl,rfl⟩,hK⟩
  .simp[gI,b3,b4];exact⟨ae,rfl⟩
  .intro i l' h;rcases ca.1 h with h|h
   .obtain⟨rfl,rfl⟩:=Prod.mk.inj h;exact .inl hm
   .obtain⟨rfl,rfl⟩:=Prod.mk.inj (cI.1 h);exact .inr (aL _)
  .intro l' bb h;simp only[ri,look]at h;split at h
   .rename_i e;subst e;obtain rfl:=bM h;exact .inl ⟨9,_,.tail _ (.head _),e9,rfl⟩
   .rename_i hln;rw[cJ]at h;split at h
    .rename_i e;subst e;obtain rfl:=bM h;exact .inl ⟨0,_,.head _,e0,⟨nx,rfl,rfl⟩,rfl,rfl⟩
    .rename_i hl;obtain⟨g1,g2⟩:=hoff l' bb h hl;exact .inr ⟨by simp only[lT,ak (fun e=>hl (Eq.symm e)),ak hln],g2,g1⟩
 rcases h1 with⟨u,h1,rfl⟩|⟨l2,u,h1,h5⟩
 .have g4:∀l' i,(l',i)∈[(l,0),(lw,1)]->look m l'≠none:=by
   intro l' i h;rcases ca.1 h with h|h
   .obtain⟨rfl,rfl⟩:=Prod.mk.inj h;rw[h1];simp
   .obtain⟨rfl,rfl⟩:=Prod.mk.inj (cI.1 h);rw[h2];simp
  have g3:gI 0 3 [(l,0),(lw,1)]=true:=by simp[gI,b1,b2];rfl
  have g5:∀i b,look [(0,bW.bld none 0 u),(1,.buf 1 (ws.map D.str))] i=some b->∃l' b',(l',i)∈[(l,0),(lw,1)]/\look m l'=some b'/\sB 0 [(l,0),(lw,1)] b' b:=by
   intro i b h;simp only[look]at h;split at h
   .rename_i e;subst e;obtain rfl:=bM h;exact⟨l,_,.head _,h1,rfl,rfl,rfl⟩
   .split at h
    .rename_i e;subst e;obtain rfl:=bM h;exact⟨lw,_,.tail _ (.head _),h2,rfl,.inl ⟨rfl,hnl⟩⟩
    .cases h
  refine xF (σi:=[(l,0),(lw,1)]) (cs:=[.ptr 0 2 0 0,.own 1 1 0 ws.length]) (fun q=>vH t key _ q) hmix hC rfl ?_ hnp g3 g4 g5 (hw _ (.inl ⟨u,rfl,rfl⟩) rfl) (fin _ _ g3 (.head _) g4 g5 ?_)
  .intro i hi
   match i,hi with
   |0,_=>exact .inr (.inl (by simp[qY,Co,lK]))
   |1,_=>exact .inr (.inl (by simp[qY,Co,lK,b1]))
  .intro l' b h hl;rw[Bw hlw]at h;simp only[h1]at h;rw[fT]at h;split at h
   .cases h
   .rename_i hw';refine⟨h,fun i hi=>?_⟩;rcases ca.1 hi with hi|hi
    .exact hl (Prod.mk.inj hi).1
    .exact hw' (Prod.mk.inj (cI.1 hi)).1
 .have c1:l2≠l:=by rintro rfl;rw[h1]at h5;cases h5
  have c2:l2≠lw:=by rintro rfl;rw[h2]at h5;cases h5
  have d1:=rh c1;have d2:=rh c2;have d3:=rh (Ne.symm c1);have d4:=rh (Ne.symm c2);have g4:∀l' i,(l',i)∈[(l,0),(lw,1),(l2,2)]->look m l'≠none:=by
   intro l' i h;rcases ca.1 h with h|h
   .obtain⟨rfl,rfl⟩:=Prod.mk.inj h;rw[h1];simp
   .rcases ca.1 h with h|h
    .obtain⟨rfl,rfl⟩:=Prod.mk.inj h;rw[h2];simp
    .obtain⟨rfl,rfl⟩:=Prod.mk.inj (cI.1 h);rw[h5];simp
  have g3:gI 0 3 [(l,0),(lw,1),(l2,2)]=true:=by simp[gI,b1,b2,d1,d2,d3,d4];exact⟨⟨rfl,rfl⟩,rfl⟩
  have g5:∀i b,look [(0,bW.bld (some 2) s.length u),(1,.buf 1 (ws.map D.str)),(2,.row s)] i=some b->∃l' b',(l',i)∈[(l,0),(lw,1),(l2,2)]/\look m l'=some b'/\sB 0 [(l,0),(lw,1),(l2,2)] b' b:=by
   intro i b h;simp only[look]at h;split at h
   .rename_i e;subst e;obtain rfl:=bM h;exact⟨l,_,.head _,h1,⟨2,by simp[lK,d3,d4],rfl⟩,rfl,rfl⟩
   .split at h
    .rename_i e;subst e;obtain rfl:=bM h;exact⟨lw,_,.tail _ (.head _),h2,rfl,.inl ⟨rfl,hnl⟩⟩
    .split at h
     .rename_i e;subst e;obtain rfl:=bM h;exact⟨l2,_,.tail _ (.tail _ (.head _)),h5,rfl⟩
     .cases h
  refine xF (σi:=[(l,0),(lw,1),(l2,2)]) (cs:=[.ptr 0 2 0 0,.own 1 1 0 ws.length]) (fun q=>vH t key _ q) hmix hC rfl ?_ hnp g3 g4 g5 (hw _ (.inr ⟨2,u,rfl,rfl⟩) rfl) (fin _ _ g3 (.head _) g4 g5 ?_)
  .intro i hi
   match i,hi with
   |0,_=>exact .inr (.inl (by simp[qY,Co,lK]))
   |1,_=>exact .inr (.inl (by simp[qY,Co,lK,b1]))
  .intro l' b h hl;rw[Bw hlw]at h;simp only[h1]at h;rw[fT]at h;split at h
   .cases h
   .rename_i hw2;rw[fT]at h;split at h
    .cases h
    .rename_i hw';refine⟨h,fun i hi=>?_⟩;rcases ca.1 hi with hi|hi
     .exact hl (Prod.mk.inj hi).1
     .rcases ca.1 hi with hi|hi
      .exact hw' (Prod.mk.inj hi).1
      .exact hw2 (Prod.mk.inj (cI.1 hi)).1
end
end
theorem wG {α:Type}{f:α->D}(hf:∀x y,f x=f y↔x=y):∀a b:List α,a.map f=b.map f↔a=b
 |[],[]=>aJ
 |[],_::_=>aJ
 |_::_,[]=>aJ
 |x::a,y::b=>by simp only[List.map_cons,oD,hf,wG hf a b]
def U4 (a b:Nat):((a:Nat):Int)=(b:Nat)↔a=b:=ae
theorem iU8 (x y:UInt8):((x.toNat:Nat):Int)=(y.toNat:Nat)↔x=y:=(U4 _ _).trans hX
def OB (a b:List au):a.map D.str=b.map D.str↔a=b:=wG (fun _ _=>aJ) a b
def iInt (a b:List Int):a.map (D.int .i64)=b.map (D.int .i64)↔a=b:=wG (fun _ _=>aJ) a b
def iByt (a b:au):(a.map fun c=>D.int .u8 c.toNat)=(b.map fun c=>D.int .u8 c.toNat)↔a=b:=by grind [wG,iU8]
def iVer (a b:cn):cn.D a=cn.D b↔a=b:=by cases a;cases b;simp[cn.D]
def WG (a b:bS):bS.D a=bS.D b↔a=b:=by cases a;cases b;simp[bS.D,OB]
def Rx (a b:List bS):a.map bS.D=b.map bS.D↔a=b:=wG WG a b
def WE (a b:bp):bp.D a=bp.D b↔a=b:=by cases a;cases b;simp[bp.D,Rx]
def Je (a b:List bp):a.map bp.D=b.map bp.D↔a=b:=wG WE a b
def iBar (a b:fq):fq.D a=fq.D b↔a=b:=by cases a;cases b;simp[fq.D]
def Rw (a b:List fq):a.map fq.D=b.map fq.D↔a=b:=wG iBar a b
def WD (a b:bZ):bZ.D a=bZ.D b↔a=b:=by cases a;cases b;simp[bZ.D,OB]
def Jd (a b:List bZ):a.map bZ.D=b.map bZ.D↔a=b:=wG WD a b
def iRec (a b:Rec):Rec.D a=Rec.D b↔a=b:=by
 obtain⟨n,⟨v1,v2,v3,v4,v5⟩,x,y,z⟩:=a;obtain⟨n',⟨w1,w2,w3,w4,w5⟩,x',y',z'⟩:=b;simp[Rec.D,Je,Rw,Jd,and_assoc]
def iCmp (a b:dH):dH.D a=dH.D b↔a=b:=by
 obtain⟨n,p,v1,v2,v3,v4,v5⟩:=a;obtain⟨n',p',w1,w2,w3,w4,w5⟩:=b;simp[dH.D]
def WB (a b:List dH):a.map dH.D=b.map dH.D↔a=b:=wG iCmp a b
def iNd (a b:Nd):Nd.D a=Nd.D b↔a=b:=by cases a;cases b;simp[Nd.D]
def iNds (a b:List Nd):a.map Nd.D=b.map Nd.D↔a=b:=wG iNd a b
def YA (a b:Alt):ra a=ra b↔a=b:=by simp[ra,WB]
def iRng (a b:zT):iB a=iB b↔a=b:=by simp[iB,wG YA]
def iAlts (a b:List Alt):a.map ra=b.map ra↔a=b:=wG YA a b
def iMrk (a b:Wq):lE a=lE b↔a=b:=by simp[lE,iNds]
def iLd (a b:Ld):Ld.D a=Ld.D b↔a=b:=by cases a;cases b;simp[Ld.D,OB,U4]
def iPr (w w':List au)(x x':D)(b b':Bool):iO w x b=iO w' x' b'↔w=w'/\x=x'/\b=b':=by simp[iO,OB]
def Uy {A:FT->Prop}(h:A (fun d ds v s=>A fun d' ds' v' s'=>d'=d->ds'=ds->v=v'/\s=s'):=by
 (repeat' first|apply And.intro|intro _)
 all_goals rename_i e' e
 all_goals (try simp only[oD,D.str.injEq,D.int.injEq,D.bool.injEq,D.sl.injEq,iLd,OB,iU8,hX,U4,ct,cr]at e e')
 all_goals first|rfl|(simp only[e,e'];done)|simp_all):zR (po A):=Uz h
def kI (l:List Int)(i:Int):Int:=if i<0\/(l.length:Int)<=i then 0 else l[i.toNat]!
def VC {v n:Int}(h:0<n)(h2:¬v.tmod n<0):v.tmod n=v%n:=by
 rw[Int.tmod_eq_emod];rw[Int.tmod_eq_emod]at h2;have h3:=Int.emod_nonneg v (show n≠0 by omega);have h4:=Int.emod_lt_of_pos v h
 grind
def VB {v n:Int}(h:0<n)(h2:v.tmod n<0):v.tmod n+n=v%n:=by
 rw[Int.tmod_eq_emod]at h2⊢;have h3:=Int.emod_nonneg v (show n≠0 by omega)
 grind
def fV (l:List Int)(i n:Int):Int:=kI l i%n
def dN (l:List Int)(i n:Int)(h:0<n):0<=fV l i n/\fV l i n<n:=⟨Int.emod_nonneg _ ae,Int.emod_lt_of_pos _ h⟩
def kq (v n:Int)(h:0<n):0<=v%n/\v%n<n:=⟨Int.emod_nonneg _ ae,Int.emod_lt_of_pos _ h⟩
theorem uW {α:Type} [Inhabited α]{q:α->D}(xs:List α){j:Nat}(h:j<xs.length):cut (xs.map q) (j*1) 1 false=q xs[j]! :=by
 show(xs.map q).getD (j*1) .any=_;rw[Nat.mul_one];exact getD_map h
def Jn {α:Type} [Inhabited α]{q:α->D}(xs:List α){j n:Nat}(h:j<xs.length)(hn:(1==n)=false):oF (.agg (xs.map q)) n 1 (0+j*1) false=q xs[j]! :=by
 have hc:(D.agg (xs.map q)).cells=xs.map q:=by
  rfl
 grind [oF,uW]
def R4:List au:=[[97,112,112],[98],[99],[100],[101,45,50]]
def ff (n:Int):au:=R4[(n%5).toNat]!
def VZ:List au:=[[120],[121],[122],[119,95,49]]
def mH (n:Int):au:=VZ[(n%4).toNat]!
def JB:List Int:=[9,7,6,3,1,2]
def yj (l:List Int)(i:Int):dH:=⟨JB[(fV l i 6).toNat]!,3,⟨fV l (i+1) 3,fV l (i+2) 2,0,[],[]⟩⟩
def tW (l:List Int)(i:Int):au:=if(yj l i).op=9 then [42]else ek (yj l i)
def C6:List au:=[[111,115],[97,114,99,104],[97,98,105]]
def Oc:List au:=[[32,61,32],[32,33,61,32]]
def mF (l:List Int)(i:Int):au:=if 2<fV l i 6 then []else C6[(fV l i 6).toNat]! ++Oc[(fV l (i+1) 2).toNat]! ++mH (1+fV l (i+1) 3)
def BV:List au:=[[120],[121]]
def pg (l:List Int)(i:Int)(alone:Bool):List au:=if alone=true/\2<fV l (i+5) 5 then BV.take (fV l (i+5) 5-2).toNat else []
def mG (l:List Int)(i own:Int)(alone:Bool):bS:=⟨ff (own+1+fV l i 4),tW l (i+1),pg l i alone,decide (fV l (i+4) 3=0)⟩
def fZ (l:List Int)(i:Int):Nat:=if fV l i 5=1 then 2 else 1
def tV (l:List Int)(i own:Int)(k:Nat):List bS:=(List.range k).map fun(k:Nat)=>mG l (i+1+6*(k:Nat)) own (decide ((fZ l i:Int)=1))
def ic (l:List Int)(i own:Int):bp:=⟨tV l i own (fZ l i),mF l (i+14),if fV l (i+16) 4=1 then mH (kI l (i+17))else []⟩
def Oo (l:List Int)(i own:Int)(k:Nat):tV l i own (k+1)=tV l i own k++[mG l (i+1+6*(k:Nat)) own (decide ((fZ l i:Int)=1))]:=by
 unfold tV;rw[List.range_succ,List.map_append];rfl
def Av (l:List Int)(i:Int):fZ l i<=2:=by
 unfold fZ;split<;>omega
def l9 (s:au):List au->Nat
 |[]=>0
 |a::r=>if Op.bytesLess a s=true then l9 s r+1 else 0
def gW (l:List au)(s:au):List au:=if l9 s l<l.length/\l[l9 s l]! =s then l else l.take (l9 s l)++[s]++l.drop (l9 s l)
def EW (s:au):∀l:List au,l9 s l<=l.length
 |[]=>aL _
 |a::r=>by
  have:=EW s r
  grind [l9]
def EX (s:au):∀(l:List au) (i:Nat),i<l9 s l->Op.bytesLess l[i]! s=true
 |[],i,h=>by simp[l9]at h
 |a::r,i,h=>by
  simp only[l9]at h;split at h
  .rename_i ha;cases i with
   |zero=>simpa using ha
   |succ i=>simpa using EX s r i ae
  .omega
def wX (s:au):∀l:List au,l9 s l<l.length->Op.bytesLess l[l9 s l]! s=false
 |[],h=>by simp at h
 |a::r,h=>by
  simp only[l9]at h⊢;split
  .rename_i ha;rw[aw ha]at h;simpa using wX s r (by simpa using h)
  .rename_i ha;simpa using ha
def IV (n b:Int):Int:=IntKind.wrap .i64 (((BitVec.ofInt 64 (n.fdiv (2^(min b.toNat 64))))&&&(BitVec.ofInt 64 1)).toNat)
def nE:List au:=[Ww,[120],[121],[122]]
def Rj (r:Rec)(n:Int)(of:List au)(j:Nat):List au:=if ¬r.needs[j]!.option=[]/\IV n (3+(j:Nat))=1 then gW of ([63]++r.needs[j]!.option)else of
def Wy (r:Rec)(n:Int)(of:List au)(j:Nat):List au:=if r.needs[j]!.any.length=1/\IV n (5+(j:Nat))=1 then gW of (r.needs[j]!.any[0]!.name++[47]++[120])else of
def Wz (r:Rec)(n:Int)(of:List au)(j:Nat):List au:=Wy r n (Rj r n of j) j
def qT (r:Rec)(n:Int)(j:Nat):List au:=(List.range j).foldl (Wz r n) []
def UN (l:List Int)(i:Int)(n:Int)(k:Nat)(of:List au):List au:=if(k<3/\IV n 7=1)/\¬kI l (i+(k:Nat)+1)%3=0 then gW of nE[k+1]! else of
def ZA (l:List Int)(i:Int)(r:Rec)(k:Nat):Option bZ:=if kI l (i+(k:Nat))%3=0 then none else some ⟨nE[k]!,UN l i (kI l (i+(k:Nat))) k (qT r (kI l (i+(k:Nat))) (min r.needs.length 2))⟩
def Rk (l:List Int)(i:Int)(r:Rec)(k:Nat):List bZ:=(List.range k).filterMap (ZA l i r)
def j8 (l:List Int)(i:Int)(r:Rec):List bZ:=Rk l i r 4
theorem pG (r:Rec)(n:Int)(j:Nat):qT r n (j+1)=Wz r n (qT r n j) j:=by
 unfold qT;rw[List.range_succ,List.foldl_append];rfl
def Yu {l:List Int}{i:Int}{r:Rec}{k:Nat}(h:kI l (i+(k:Nat))%3=0):Rk l i r (k+1)=Rk l i r k:=by
 unfold Rk;rw[List.range_succ,List.filterMap_append];simp[ZA,h]
def KU {l:List Int}{i:Int}{r:Rec}{k:Nat}{of:List au}(h:¬kI l (i+(k:Nat))%3=0)(ho:UN l i (kI l (i+(k:Nat))) k (qT r (kI l (i+(k:Nat))) (min r.needs.length 2))=of):Rk l i r (k+1)=Rk l i r k++[⟨nE[k]!,of⟩]:=by
 unfold Rk;rw[List.range_succ,List.filterMap_append];simp[ZA,h,ho]
theorem rU (l:List au)(s:au):(gW l s).length<=l.length+1:=by
 grind [gW]
theorem UL (r:Rec)(n:Int)(of:List au)(j:Nat):(Rj r n of j).length<=of.length+1:=by
 grind [Rj,rU]
theorem UM (r:Rec)(n:Int)(of:List au)(j:Nat):(Wy r n of j).length<=of.length+1:=by
 grind [Wy,rU]
def Et (r:Rec)(n:Int):∀j,(qT r n j).length<=2*j
 |0=>by simp[qT]
 |j+1=>by
  have h1:=Et r n j
  grind [UL,qT,UM,Rj,pG,Wz]
def nL (n:Int):(ff n).length<=3:=by
 obtain⟨h1,h2⟩:=kq n 5 aF;unfold ff;have:(n%5).toNat<5:=ae;revert this;generalize (n%5).toNat=k;revert k;decide
def wv (n:Int):(mH n).length<=3:=by
 obtain⟨h1,h2⟩:=kq n 4 aF;unfold mH;have:(n%4).toNat<4:=ae;revert this;generalize (n%4).toNat=k;revert k;decide
def OE (k:Nat)(h:k<3):(C6[k]!).length<=4:=by
 revert k;decide
def Q9 (k:Nat)(h:k<2):(Oc[k]!).length<=4:=by
 revert k;decide
def UE (l:List Int)(i:Int):(yj l i).v.sm:=⟨by simp[yj],by simp[yj]⟩
def S3:au:=[114,99,46,49]
def tX (l:List Int)(i:Int):au:=if fV l (i+2) 9=1 then S3 else []
def At (l:List Int)(i:Int):au:=if fV l (i+2) 9=2 then [55]else []
def Ox (l:List Int)(i:Int):cn:=⟨fV l i 3,fV l (i+1) 2,0,tX l i,At l i⟩
def gK (l:List Int)(i:Int):Nat:=(fV l (i+3) 4%3).toNat
def gK_eq (l:List Int)(i:Int):(fV l (i+3) 4).tmod 3=(gK l i:Int):=by
 have h:=dN l (i+3) 4 aF;rw[Int.tmod_eq_emod_of_nonneg h.1];unfold gK;omega
def WA (l:List Int)(i:Int):gK l i<=2:=by unfold gK;omega
def Gt (l:List Int)(i own:Int)(n:Nat):List bp:=(List.range n).map fun(q:Nat)=>ic l (i+4+20*((gK l i-q:Nat):Int) -20) own
def Ro {l:List Int}{i own:Int}{k:Nat}(hk:k<=gK l i)(h0:0<k):Gt l i own (gK l i-(k-1))=Gt l i own (gK l i-k)++[ic l (i+4+20*(k:Int) -20) own]:=by
 rw[show gK l i-(k-1)=(gK l i-k)+1 by omega];unfold Gt;rw[List.range_succ,List.map_append,List.map_singleton,show gK l i-(gK l i-k)=k by omega]
def rC (l:List Int)(i own:Int):List bp:=Gt l i own (gK l i)
def As (l:List Int)(i own:Int):fq:=⟨ff (own+1+fV l (i+46) 4),tW l (i+47),mF l (i+50)⟩
def rz (l:List Int)(i own:Int):List fq:=if fV l (i+45) 5=1 then [As l i own]else []
def pK (l:List Int)(i own:Int):Rec:=⟨ff own,Ox l i,rC l i own,rz l i own,[]⟩
def Cd (l:List Int)(i own:Int):Rec:={pK l i own with feats:=j8 l (i+52) (pK l i own)}
def On {l:List Int}{i own:Int}{k:Nat}{w:bS}(h:w∈tV l i own k):w.name.length<=3:=by
 obtain⟨q,_,rfl⟩:=ey.1 h;exact nL _
def wo (l:List Int)(i own:Int):(ic l i own).option.length<=3:=by
 show(if _ then _ else _:au).length<=3;split
 .exact wv _
 .simp
def Ov (l:List Int)(i own:Int):∀j:Nat,j<(pK l i own).needs.length->(pK l i own).needs[j]!.option.length<=100/\((pK l i own).needs[j]!.any.length=1->(pK l i own).needs[j]!.any[0]!.name.length<=100):=by
 intro j hj;have hm:=bE hj;obtain⟨q,_,hq⟩:=ey.1 hm;rw[<-hq];generalize i+4+20*((gK l i-q:Nat):Int) -20=x;refine⟨dm (wo _ _ _) aF,fun h=>?_⟩;have h2:=bE (l:=(ic l x own).any) (i:=0) ae;exact dm (On (k:=fZ l x) h2) aF
def GR:∀a b:au,Op.bytesLess a b=false->a≠b->Op.bytesLess b a=true
 |[],[],_,h=>absurd rfl h
 |[],_::_,h,_=>by simp[Op.bytesLess]at h
 |_::_,[],_,_=>by simp[Op.bytesLess]
 |x::a,y::b,h,hn=>by
  simp only[Op.bytesLess,dd,bc,dy,beq_eq_false_iff_ne]at h;simp only[Op.bytesLess,cM,aK,bB,beq_iff_eq];obtain⟨h1,h2⟩:=h;by_cases e:x=y
  .subst e;refine .inr ⟨rfl,GR a b (h2.resolve_left fun h=>h rfl) fun e=>hn (by rw[e])⟩
  grind
def Bd {l:List au}{s t:au}(h:t∈gW l s):t∈l\/t=s:=by
 grind [gW]
def Kd (l:List au):rising l=true↔∀i,1<=i->i<l.length->Op.bytesLess l[i-1]! l[i]! =true:=by
 unfold rising;rw[eC]
def rV {l:List au}{s:au}(h:rising l=true):rising (gW l s)=true:=by
 unfold gW;split
 .exact h
 .rename_i hn;rw[Kd]at h⊢;have hl:=EW s l;have hlt:=EX s l;have hst:=wX s l;generalize l9 s l=k at hn hl hlt hst⊢;have hlen:(l.take k++[s]++l.drop k).length=l.length+1:=by
   simp only[bP,er,jO,aP,a8];omega
  have g1:∀j,j<k->(l.take k++[s]++l.drop k)[j]! =l[j]! :=fun j hj=>by
   have a:j<(l.take k).length:=by rw[er];omega
   have b:j<l.length:=ae;rw[eu,getElem!_pos _ _ (by rw[bP];omega),List.getElem_append_left a,List.getElem_take,getElem!_pos l j b]
  have g2:(l.take k++[s]++l.drop k)[k]! =s:=by
   have a:(l.take k).length=k:=by rw[er];omega
   rw[eu,getElem!_pos _ _ (by simp only[bP,a,aP];omega),List.getElem_append_right ae];simp[a]
  have g3:∀j,k<j->j<l.length+1->(l.take k++[s]++l.drop k)[j]! =l[j-1]! :=fun j hj hj2=>by
   have a:(l.take k).length=k:=by rw[er];omega
   have b:(l.take k++[s]).length=k+1:=by rw[bP,a];rfl
   rw[getElem!_pos _ _ (by rw[hlen];omega),List.getElem_append_right ae,List.getElem_drop,getElem!_pos l (j-1) ae];congr 1;omega
  intro i h1 h2;rw[hlen]at h2;rcases Nat.lt_trichotomy i k with hik|hik|hik
  .rw[g1 i hik,g1 (i-1) ae];exact h i h1 ae
  .subst hik;rw[g2,g1 (i-1) ae];exact hlt _ ae
  .rw[g3 i hik h2];by_cases he:i=k+1
   .subst he;rw[show k+1-1=k from rfl,g2];exact GR _ _ (hst ae) fun e=>hn ⟨ae,e⟩
   .rw[g3 (i-1) ae ae];exact h (i-1) ae ae
def Jy:∀k,k<5->dK R4[k]! =true/\R4[k]!.length<=3/\dJ (R4[k]! ++[47]++[120])=((3:Int),R4[k]!,([120]:au)):=by decide+kernel
theorem YN:∀a,a<5->∀b,b<5->a≠b->R4[a]! ≠R4[b]! :=by decide+kernel
def Zt:∀k,k<4->cV VZ[k]! =true/\dJ (([63]:au)++VZ[k]!)=((2:Int),VZ[k]!,([]:au)):=by decide+kernel
def fewT (k a b:Nat):au:=if JB[k]! =9 then [42]else ek ⟨JB[k]!,3,⟨(a:Nat),(b:Nat),0,[],[]⟩⟩
def VO (s:au):Prop:=sV s=true/\s.length<=8/\s≠[]/\(∀c∈s,c≠10)
instance (s:au):Decidable (VO s):=by unfold VO;infer_instance
def GW (s:au):Prop:=qt s=true/\s.length<=16/\(∀c∈s,c≠10)
instance (s:au):Decidable (GW s):=by unfold GW;infer_instance
def UF:∀k,k<6->∀a,a<3->∀b,b<2->VO (fewT k a b):=by decide+kernel
theorem TL:∀k,k<3->∀a,a<2->∀b,b<4->GW (C6[k]! ++Oc[a]! ++VZ[b]!):=by decide+kernel
def pJ (n:Int):(n%5).toNat<5/\ff n=R4[(n%5).toNat]! :=by
 have:=kq n 5 aF;exact⟨ae,rfl⟩
def rA (n:Int):dK (ff n)=true/\(ff n).length<=3:=⟨(Jy _ (pJ n).1).1,(Jy _ (pJ n).1).2.1⟩
def Gr (own d:Int)(h0:0<=d)(h1:d<4):ff (own+1+d)≠ff own:=by
 have a:=pJ (own+1+d);have b:=pJ own
 grind [YN]
def Gu (n:Int):(n%4).toNat<4/\mH n=VZ[(n%4).toNat]! :=by
 have:=kq n 4 aF;exact⟨ae,rfl⟩
theorem rD (n:Int):cV (mH n)=true/\dJ (([63]:au)++mH n)=((2:Int),mH n,([]:au)):=Zt _ (Gu n).1
def qm (l:List Int)(i:Int):VO (tW l i):=by
 have a:=dN l i 6 aF;have b:=dN l (i+1) 3 aF;have c:=dN l (i+2) 2 aF;have:=UF (fV l i 6).toNat ae (fV l (i+1) 3).toNat ae (fV l (i+2) 2).toNat ae
 grind [fewT,fV,tW,yj]
def OU:GW []:=by decide+kernel
def n7 (l:List Int)(i:Int):GW (mF l i):=by
 unfold mF;split
 .exact OU
 .rename_i h;have a:=dN l i 6 aF;have b:=dN l (i+1) 2 aF;have c:=Gu (1+fV l (i+1) 3)
  grind [TL]
def xD {f:Nat->Int}{n:Nat}(h:∀j,j<n->f j=0):fJ f 0 n=0:=by
 have:∀k i,i+k=n->fJ f i n=0:=by
  intro k;induction k with
  |zero=>intro i e;exact nJ ae
  |succ k ih=>intro i e;rw[nK ae (h i ae)];exact ih (i+1) ae
 exact this n 0 ae
def rv {f:Nat->Int}{n:Nat}(h:∀j,j<n->f j=0):iw f 0 n=(0,0):=by
 have:∀k i,i+k=n->iw f i n=(0,0):=by
  intro k;induction k with
  |zero=>intro i e;exact lQ ae
  |succ k ih=>intro i e;rw[lR ae (h i ae)];exact ih (i+1) ae
 exact this n 0 ae
def DY {r:Rec}{nm rg:au}(h1:dK nm=true)(h2:nm≠r.name)(h3:sV rg=true):fR r nm rg=0:=by
 grind [fR]
def TS:∀n,jD (BV.take n) true=true
 |0=>aF
 |1=>aF
 |n+2=>by
  have:BV.take (n+2)=BV:=ed (by simp[BV]);rw[this];decide
theorem Oy (l:List Int)(i:Int)(al:Bool):jD (pg l i al) al=true:=by
 unfold pg;split
 .rename_i h;rw[h.1];exact TS _
 .cases al<;>decide
def P4 {r:Rec}{own:Int}(hr:r.name=ff own)(l:List Int)(i:Int)(al:Bool):jF r (mG l i own al) al=0:=by
 have h:=dN l i 4 aF;have h1:=DY (r:=r) (rA (own+1+fV l i 4)).1 (by rw[hr];exact Gr own _ h.1 h.2) (qm l (i+1)).1;unfold jF;show(if fR r (ff (own+1+fV l i 4)) (tW l (i+1))≠0 then _ else if jD (pg l i al) al=false then _ else _)=_
 grind [Oy]
def Gq (l:List Int)(i own:Int)(k:Nat):(tV l i own k).length=k:=by simp[tV]
def Gp {l:List Int}{i own:Int}{k j:Nat}(h:j<k):(tV l i own k)[j]! =mG l (i+1+6*(j:Nat)) own (decide ((fZ l i:Int)=1)):=by
 grind [tV]
def CX (l:List Int)(i:Int):1<=fZ l i:=by unfold fZ;split<;>omega
def Ey (l:List Int)(i own:Int):(ic l i own).option=[]\/∃n,(ic l i own).option=mH n:=by
 show(if _ then _ else _:au)=[]\/_;split
 .rename_i h;exact .inr ⟨kI l (i+17),aw h⟩
 .exact .inl rfl
def OW {r:Rec}{own:Int}(hr:r.name=ff own)(l:List Int)(i:Int):iZ r (ic l i own)=0:=by
 have hl:(ic l i own).any.length=fZ l i:=Gq _ _ _ _;have h1:=CX l i;have h2:=Av l i;unfold iZ;rw[ak (by rw[hl];omega),ak (by rw[hl];omega)];have hw:mz r (ic l i own).any=0:=by
  unfold mz;refine xD fun j hj=>?_
  rw[hl]at hj⊢;show jF r (tV l i own (fZ l i))[j]! _=0;rw[Gp hj];exact P4 hr l _ _
 rw[hw,ak aJ,ak (by rw[show(ic l i own).when'=mF l (i+14)from rfl,(n7 l (i+14)).1];simp)];rcases Ey l i own with h|⟨n,h⟩
 .rw[ak (by rw[h];simp)]
 grind [rD]
def UP (l:List Int)(i own:Int)(n:Nat):(Gt l i own n).length=n:=by simp[Gt]
def vn {l:List Int}{i own:Int}{n:Nat}{x:bp}(h:x∈Gt l i own n):∃k:Int,x=ic l k own:=by
 obtain⟨q,_,rfl⟩:=ey.1 h;exact⟨_,rfl⟩
def Jx {r:Rec}{l:List Int}{i own:Int}(hr:r.name=ff own)(hn:r.needs=rC l i own):lZ r=(0,0):=by
 unfold lZ;refine rv fun j hj=>?_
 obtain⟨k,hk⟩:=vn (show r.needs[j]! ∈Gt l i own (gK l i)by rw[show Gt l i own (gK l i)=r.needs from hn.symm];exact bE hj);rw[hk];exact OW hr l k
def QK {r:Rec}{own:Int}(hr:r.name=ff own)(l:List Int)(i:Int):pw r (As l i own)=0:=by
 have h:=dN l (i+46) 4 aF;have h1:=DY (r:=r) (rA (own+1+fV l (i+46) 4)).1 (by rw[hr];exact Gr own _ h.1 h.2) (qm l (i+47)).1;unfold pw;show(if fR r (ff (own+1+fV l (i+46) 4)) (tW l (i+47))≠0 then _ else if qt (mF l (i+50))=false then _ else _)=_;rw[h1,ak aJ,(n7 l (i+50)).1,ak aJ]
def CW {l:List Int}{i own:Int}{b:fq}(h:b∈rz l i own):b=As l i own:=by
 grind [rz]
def Zw (l:List Int)(i:Int)(r:Rec)(t:au):Prop:=(∃m∈r.needs,m.option≠[]/\t=[63]++m.option)\/(∃m∈r.needs,m.any.length=1/\t=m.any[0]!.name++[47]++[120])\/∃k,k<3/\¬kI l (i+(k:Nat)+1)%3=0/\t=nE[k+1]!
def Rl (l:List Int)(i:Int)(r:Rec)(n:Int):∀j,j<=r.needs.length->rising (qT r n j)=true/\∀t∈qT r n j,Zw l i r t
 |0,_=>⟨rfl,fun t ht=>by simp[qT]at ht⟩
 |j+1,hj=>by
  obtain⟨h1,h2⟩:=Rl l i r n j ae;have hm:r.needs[j]! ∈r.needs:=bE ae;have hA:rising (Rj r n (qT r n j) j)=true/\∀t∈Rj r n (qT r n j) j,Zw l i r t:=by
   unfold Rj;split
   .rename_i h;refine⟨rV h1,fun t ht=>?_⟩;rcases Bd ht with ht|rfl
    .exact h2 t ht
    .exact .inl ⟨_,hm,h.1,rfl⟩
   .exact⟨h1,h2⟩
  obtain⟨h3,h4⟩:=hA;rw[pG,Wz];unfold Wy;split
  .rename_i h;refine⟨rV h3,fun t ht=>?_⟩;rcases Bd ht with ht|rfl
   .exact h4 t ht
   .exact .inr (.inl ⟨_,hm,h.1,rfl⟩)
  .exact⟨h3,h4⟩
theorem Yt (l:List Int)(i:Int)(r:Rec)(n:Int)(k j:Nat)(hj:j<=r.needs.length):rising (UN l i n k (qT r n j))=true/\(∀t∈UN l i n k (qT r n j),Zw l i r t)/\(UN l i n k (qT r n j)).length<=2*j+1:=by
 obtain⟨h1,h2⟩:=Rl l i r n j hj;have h3:=Et r n j;unfold UN;split
 .rename_i h;refine⟨rV h1,fun t ht=>?_,dm (rU _ _) ae⟩;rcases Bd ht with ht|rfl
  .exact h2 t ht
  .exact .inr (.inr ⟨k,h.1.1,h.2,rfl⟩)
 .exact⟨h1,h2,ae⟩
def qk {l:List Int}{i:Int}{r:Rec}{f:bZ}(h:f∈j8 l i r):∃k,k<4/\f.name=nE[k]! /\¬kI l (i+(k:Nat))%3=0/\rising f.of=true/\(∀t∈f.of,Zw l i r t)/\f.of.length<=5:=by
 obtain⟨k,hk,he⟩:=List.mem_filterMap.1 h
 grind [ZA,Yt,kI]
def Ja {l:List Int}{i:Int}{r:Rec}{k:Nat}(hk:k<4)(h:¬kI l (i+(k:Nat))%3=0):∃f∈j8 l i r,f.name=nE[k]! :=by
 have e:ZA l i r k=some ⟨nE[k]!,UN l i (kI l (i+(k:Nat))) k (qT r (kI l (i+(k:Nat))) (min r.needs.length 2))⟩:=ak h;exact⟨_,List.mem_filterMap.2 ⟨k,List.mem_range.2 hk,e⟩,rfl⟩
def Oi {fs:List bZ}{nm:au}(h:∃f∈fs,f.name=nm):0<=findF fs nm 0:=by
 grind [findF]
theorem G0:∀k,k<4->dJ nE[k]! =((1:Int),nE[k]!,([]:au))/\cV nE[k]! =true:=by decide+kernel
theorem R5:∀a,a<4->∀b,b<4->a<b->Op.bytesLess nE[a]! nE[b]! =true:=by decide+kernel
theorem Ot (l:List Int)(i:Int)(r:Rec):(j8 l i r).Pairwise fun a b=>Op.bytesLess a.name b.name=true:=by
 unfold j8 Rk;refine List.Pairwise.filterMap _ (R:=fun a b=>a<b/\b<4) ?_ aF
 grind [ZA,nE,R5]
def Au (l:List Int)(i:Int)(r:Rec):(j8 l i r).length<=4:=by
 grind [j8,Rk]
def NdG (r:Rec):Prop:=∀m∈r.needs,(m.option=[]\/∃n,m.option=mH n)/\(m.any.length=1->∃n,m.any[0]!.name=ff n)
def GK {l:List Int}{i:Int}{r r2:Rec}{t:au}(h:Zw l i r t)(hr:NdG r)(hn:r2.needs=r.needs)(hf:r2.feats=j8 l i r):iT r2.feats t=true/\jU r2 t=0/\t.length<=7:=by
 rcases h with⟨m,hm,h1,rfl⟩|⟨m,hm,h1,rfl⟩|⟨k,hk,h1,rfl⟩
 .obtain⟨n,e⟩:=(hr m hm).1.resolve_left h1;have hx:=(rD n).2;have hl:=wv n;rw[e];refine⟨by unfold iT;rw[hx];rfl, ?_,by simp only[bP,aP,a8];omega⟩;unfold jU;rw[hx];have:G6 r2.needs (mH n)=true:=by
   unfold G6;rw[List.any_eq_true];exact⟨m,by rw[hn];exact hm,by simp[e]⟩
  simp[this]
 .obtain⟨n,e⟩:=(hr m hm).2 h1;have hx:=(Jy _ (pJ n).1).2.2;have hl:=nL n;rw[<-(pJ n).2]at hx;rw[e];generalize ff n=w at e hx hl;refine⟨by unfold iT;rw[hx];rfl, ?_,by simp only[bP,aP,a8];omega⟩;have:xR r2.needs w=true:=by
   unfold xR;rw[List.any_eq_true];exact⟨m,by rw[hn];exact hm,by rw[e,h1];simp⟩
  unfold jU;rw[hx,ak aJ,ak (by rw[this];simp)]
 .have hx:=(G0 (k+1) ae).1;have hl:∀k,k<4->nE[k]!.length<=7:=aF
  refine⟨?_,by unfold jU;rw[hx];simp,hl _ ae⟩;have:RC r2.feats nE[k+1]! =true:=by
   unfold RC;rw[hf,cM];right;rw[aK];exact Oi (Ja (k:=k+1) ae (by rw[show i+((k+1:Nat):Int)=i+(k:Nat)+1 by omega];exact h1))
  unfold iT;rw[hx];dsimp only;rw[this];rfl
theorem YY {α:Type} [Inhabited α]{R:α->α->Prop}{l:List α}(h:l.Pairwise R){i:Nat}(h0:0<i)(hi:i<l.length):R l[i-1]! l[i]! :=by
 rw[getElem!_pos l _ ae,getElem!_pos l _ hi];exact List.pairwise_iff_getElem.1 h _ _ ae hi ae
def Oh {l:List Int}{i:Int}{r r2:Rec}(hr:NdG r)(hn:r2.needs=r.needs)(hf:r2.feats=j8 l i r):iv r2.feats=true/\tM r2=(0,0):=by
 have hit:∀f∈r2.feats,∀t∈f.of,iT r2.feats t=true/\jU r2 t=0/\t.length<=7:=fun f hf' t ht=>by
  obtain⟨k,_,_,_,_,h,_⟩:=qk (show f∈j8 l i r by rw[<-hf];exact hf');exact GK (h t ht) hr hn hf
 constructor
 .have hlen:=Au l i r;unfold iv;rw[bB,aK,eC];refine⟨by rw[hf];omega,fun j _ hj=>?_⟩;have hm:r2.feats[j]! ∈r2.feats:=bE hj;obtain⟨k,hk,e1,e2,e3,e4,e5⟩:=qk (show r2.feats[j]! ∈j8 l i r by rw[<-hf];exact hm)
  grind [jJ,G0,YY,Ot,lV,eC,bE]
 .unfold tM;refine rv fun j hj=>?_
  unfold kU;exact xD fun q hq=>(hit _ (bE hj) _ (bE hq)).2.1
def pF {α:Type}{f:α->au}{B:Nat}:∀{l:List α},(∀x∈l,(f x).length<=B)->((l.map f).flatten).length<=l.length*B
 |[],_=>aJ
 |a::r,h=>by
  have h1:=h a (.head _);have h2:=pF (l:=r) fun x hx=>h x (.tail _ hx)
  simp only[List.map_cons,List.flatten_cons,bP,aP,Nat.succ_mul];omega
def nN {l:List au}{B n:Nat}(h:∀t∈l,t.length<=B)(hn:l.length<=n):(cv l).length<=n*(B+1)+1:=by
 have h1:=lW 32 B l h;have h2:=fk (B+1) hn
 grind [cv]
def L5 (w:bS):Prop:=w.name.length<=3/\w.range.length<=8/\(w.feats=[]\/w.feats=BV.take 1\/w.feats=BV)
theorem Qc (n:Nat):BV.take n=[]\/BV.take n=BV.take 1\/BV.take n=BV:=by
 match n with
 |0=>exact .inl rfl
 |1=>exact .inr (.inl rfl)
 |n+2=>exact .inr (.inr (ed (by simp[BV])))
def wu (l:List Int)(i own:Int)(al:Bool):L5 (mG l i own al):=by
 refine⟨nL _,(qm l (i+1)).2.1, ?_⟩;show pg l i al=[]\/pg l i al=BV.take 1\/pg l i al=BV
 grind [pg,Qc]
def P5 {w:bS}(h:L5 w):(cv (jc w)).length<=46:=by
 refine nN (B:=8) (n:=5) (fun t ht=>?_) (by simp[jc]);simp only[jc,ca,eI,or_false]at ht;rcases ht with rfl|rfl|rfl|rfl|rfl
 .decide
 .have:=h.1;omega
 .rcases h.2.2 with e|e|e<;>rw[e]<;>decide
 .split<;>decide
 .exact h.2.1
theorem DV {s:au}(h:s.length<=16):(ij s).length<=35:=by
 unfold ij;split
 .simp
 .exact nN (B:=16) (n:=2) (fun t ht=>by
   simp only[ca,eI,or_false]at ht;rcases ht with rfl|rfl
   .decide
   .exact h) aJ
def Sl {s:au}(h:s.length<=6):(qV s).length<=15:=by
 unfold qV;split
 .simp
 .exact nN (B:=6) (n:=2) (fun t ht=>by
   simp only[ca,eI,or_false]at ht;rcases ht with rfl|rfl
   .decide
   .exact h) aJ
def Ou (l:List Int)(i own:Int):(pN (ic l i own)).length<=160:=by
 have h1:=pF (f:=fun w=>cv (jc w)) (B:=46) (l:=(ic l i own).any) fun w hw=>by
  obtain⟨q,_,rfl⟩:=ey.1 (show w∈tV l i own (fZ l i)from hw);exact P5 (wu _ _ _ _)
 have h2:(ic l i own).any.length<=2:=by rw[show(ic l i own).any.length=fZ l i from Gq _ _ _ _];exact Av l i
 have h3:=DV (n7 l (i+14)).2.1;have h4:=Sl (s:=(ic l i own).option) (dm (wo l i own) aF);have h5:(cv [ei]).length<=6:=aF;unfold pN;simp only[bP];show _+(((ic l i own).any.map fun w=>cv (jc w)).flatten).length+(ij (mF l (i+14))).length+_<=_;omega
def QL {b:fq}(h:b.name.length<=3/\b.range.length<=8/\b.when'.length<=16):(uR b).length<=63:=by
 have h1:=nN (B:=8) (n:=3) (l:=[fE,b.name,b.range]) (fun t ht=>by
  simp only[ca,eI,or_false]at ht;rcases ht with rfl|rfl|rfl
  .decide
  .omega
  .exact h.2.1) aJ
 grind [DV,uR]
def Rm (l:List Int)(i own:Int):(As l i own).name.length<=3/\(As l i own).range.length<=8/\(As l i own).when'.length<=16:=⟨nL _,(qm l (i+47)).2.1,(n7 l (i+50)).2.1⟩
def Of {f:bZ}(h:f.name.length<=7/\f.of.length<=5/\∀t∈f.of,t.length<=7):(qK f).length<=57:=by
 refine nN (B:=7) (n:=7) (fun t ht=>?_) cY;simp only[List.mem_append,ca,eI,or_false]at ht;rcases ht with(rfl|rfl)|ht
 .decide
 .exact h.1
 .exact h.2.2 t ht
structure zS (l:List Int)(i own:Int)(r:Rec):Prop where
 nm:r.name=ff own
 ns:r.needs=rC l i own
 v:eZ r.v=true/\r.v.pre.length<=4/\r.v.build.length<=1
 bl:r.bars.length<=2
 b:∀b∈r.bars,pw r b=0/\b.name.length<=3/\b.range.length<=8/\b.when'.length<=16
 fs:iv r.feats=true/\tM r=(0,0)
 fl:r.feats.length<=4
 f:∀f∈r.feats,f.name.length<=7/\f.of.length<=5/\∀t∈f.of,t.length<=7
def Aw (l:List Int)(i own:Int):(rC l i own).length<=2:=by rw[rC,UP];exact WA l i
def zS.good {l:List Int}{i own:Int}{r:Rec}(h:zS l i own r):xG r:=by
 have h1:=Aw l i own;have h2:=h.bl;refine⟨⟨by rw[h.nm];exact(rA own).1,h.v.1⟩,⟨by rw[h.ns];omega,ae⟩,rR (Jx h.nm h.ns) ?_ h.fs.1 h.fs.2⟩;unfold tn;exact rv fun j hj=>(h.b _ (bE hj)).1
def zS.sm {l:List Int}{i own:Int}{r:Rec}(h:zS l i own r):fA r:=by
 refine⟨⟨by rw[h.nm];exact dm (nL own) aF,dm h.v.2.1 aF,dm h.v.2.2 aF⟩,fun n hn=>?_,fun b hb=>?_,fun f hf=>?_⟩
 .obtain⟨k,rfl⟩:=vn (show n∈Gt l i own (gK l i)by rw[show Gt l i own (gK l i)=r.needs from h.ns.symm];exact hn);refine⟨fun w hw=>?_,dm (n7 l (k+14)).2.1 aF,dm (wo l k own) aF⟩;obtain⟨q,_,rfl⟩:=ey.1 (show w∈tV l k own (fZ l k)from hw);obtain⟨a,b,c⟩:=wu l (k+1+6*(q:Nat)) own (decide ((fZ l k:Int)=1));refine⟨⟨dm a aF,dm b aF⟩,fun t ht=>?_⟩
  grind [BV]
 .obtain⟨_,a,b,c⟩:=h.b b hb;exact⟨dm a aF,dm b aF,dm c aF⟩
 .obtain⟨a,b,c⟩:=h.f f hf;exact⟨dm a aF,dm b aF,fun t ht=>dm (c t ht) aF⟩
def TG {v:cn}(h:eZ v=true/\v.pre.length<=4/\v.build.length<=1):(jW v).length<=30:=by
 obtain⟨h1,h2,h3⟩:=h;have hv:=h1;simp only[eZ,qi,bB,aK]at h1;have a:=eJ 4 v.major.toNat ae ae;have b:=eJ 4 v.minor.toNat ae ae;have c:=eJ 4 v.patch.toNat ae ae
 grind [jW,xk,coreS]
def zS.len {l:List Int}{i own:Int}{r:Rec}(h:zS l i own r):(gr r).length<=800:=by
 have h1:(qL r).length<=94:=nN (B:=30) (n:=3) (fun t ht=>by
  simp only[ca,eI,or_false]at ht;rcases ht with rfl|rfl|rfl
  .decide
  .rw[h.nm];exact dm (nL own) aF
  .exact TG h.v) aJ
 have h2:=pF (f:=pN) (B:=160) (l:=r.needs) fun n hn=>by
  obtain⟨k,rfl⟩:=vn (show n∈Gt l i own (gK l i)by rw[show Gt l i own (gK l i)=r.needs from h.ns.symm];exact hn);exact Ou l k own
 have h3:=pF (f:=uR) (B:=63) (l:=r.bars) fun b hb=>QL (h.b b hb).2
 have h4:=pF (f:=qK) (B:=57) (l:=r.feats) fun f hf=>Of (h.f f hf)
 have h5:=Aw l i own;have h6:=h.bl;have h7:=h.fl;rw[h.ns]at h2;unfold gr;rw[h.ns];simp only[bP];omega
def zS.check {l:List Int}{i own:Int}{r:Rec}(h:zS l i own r):cK r=(0,0):=by
 obtain⟨⟨a,b⟩,⟨c,d⟩,e⟩:=h.good;rw[rk a b ae ae e,ak (by have:=h.len;omega)]
def zS.print {l:List Int}{i own:Int}{r:Rec}(h:zS l i own r):dt r=(gr r,0):=by
 unfold dt;rw[h.check,ak aJ]
def KX (l:List Int)(i:Int):eZ (Ox l i)=true/\(Ox l i).pre.length<=4/\(Ox l i).build.length<=1:=by
 have a:=dN l i 3 aF;have b:=dN l (i+1) 2 aF;have key:∀x,x<3->∀y,y<2->∀p∈[([]:au),S3],∀q∈[([]:au),[55]],eZ ⟨(x:Nat),(y:Nat),0,p,q⟩=true:=by decide+kernel
 have hp:tX l i∈[([]:au),S3]:=by unfold tX;split<;>simp
 have hq:At l i∈[([]:au),[55]]:=by unfold At;split<;>simp
 have h:=key (fV l i 3).toNat ae (fV l (i+1) 2).toNat ae _ hp _ hq;have e:(⟨((fV l i 3).toNat:Int),((fV l (i+1) 2).toNat:Int),0,tX l i,At l i⟩:cn)=Ox l i:=by
  grind [Ox,fV]
 rw[e]at h;refine⟨h, ?_, ?_⟩
 .show(tX l i).length<=4;unfold tX;split<;>decide
 grind
def wq (l:List Int)(i own:Int):NdG (pK l i own):=by
 intro m hm;obtain⟨k,rfl⟩:=vn (show m∈Gt l i own (gK l i)from hm);refine⟨Ey l k own,fun h=>?_⟩;have h1:0<fZ l k:=by have:=CX l k;omega
 have:=Gp (l:=l) (i:=k) (own:=own) h1;exact⟨_,aj bS.name this⟩
def Oq (l:List Int)(i own:Int):(rz l i own).length<=1:=by unfold rz;split<;>simp
def Vq:∀k,k<4->nE[k]!.length<=7:=aF
def Rp (l:List Int)(i own:Int):zS l i own (Cd l i own):=by
 have hf:=Oh (r:=pK l i own) (r2:=Cd l i own) (l:=l) (i:=i+52) (wq l i own) rfl rfl;refine⟨rfl,rfl,KX l i,dm (Oq l i own) aF,fun b hb=>?_,hf,Au _ _ _,fun f hf2=>?_⟩
 .obtain rfl:=CW (show b∈rz l i own from hb);exact⟨QK rfl l i,Rm l i own⟩
 .obtain⟨k,hk,e,_,_,hi,hl⟩:=qk (show f∈j8 l (i+52) (pK l i own)from hf2);refine⟨by rw[e];exact Vq k hk,hl,fun t ht=>?_⟩;exact(GK (r2:=Cd l i own) (hi t ht) (wq l i own) rfl rfl).2.2
end Go.Abs
section
namespace Go.Abs
variable {Y:Ctx}(hm:(Y.at 0).b7)
def cq (w:au):Prop:=w≠[]/\∀c∈w,c≠32/\c≠10
def j5 (w:au):Prop:=∀c∈w,c≠10
def fg (l:List au):au:=aS [32] l
def n32 {w:au}(h:cq w):∀c∈w,(c.toNat:Int)≠32:=fun c hc e=>(h.2 c hc).1 (hX.1 (by have:(32:UInt8).toNat=32:=rfl;omega))
theorem kA {l:List au}(hl:l≠[])(h:∀w∈l,cq w):ai (fg l) 32=l:=
 kv (x:=32) rfl hl fun w hw=>n32 (h w hw)
theorem DK {p:List au}{t:au}(h:∀w∈p,cq w):ai (fg (p++[t])) 32=p++ai t 32:=by
 induction p with
 |nil=>rfl
 |cons a r ih=>
  have ha:=n32 (h a (.head _));have hr:=ih fun w hw=>h w (.tail _ hw)
  have e:fg (a::(r++[t]))=a++32::fg (r++[t]):=by
   unfold fg;rw[ga [32] a (r++[t]) aJ];simp
  grind [uz,fg,ai]
def fw (t:au):au:=(ai t 32)[0]!
theorem pH {w:au}{l:List au}(hw:cq w)(hl:∀x∈l,cq x):fw (fg (w::l))=w:=by
 unfold fw
 grind [kA]
def tR {w:au}{p:List au}{t:au}(hw:cq w)(hp:∀x∈p,cq x):fw (fg (w::(p++[t])))=w:=by
 unfold fw
 grind [DK]
def V2 {n:Nat}{op:Bool}{t:au}(h:2<=n\/op=false):(ec n op t)[0]! =fw t:=by
 unfold ec fw
 grind [qQ,ai]
def hd (R:List au):Option au:=R.head?.map fw
theorem rM {w:au}{n:Nat}{op:Bool}{R:List au}(h:2<=n\/op=false)(hn:hd R≠some w):ch w n op R=none:=by
 match R,hn with
 |[],_=>rfl
 |t::r,hn=>
  have:dU w n op t=none:=by
   unfold dU;rw[ak];rintro⟨h1,_⟩;rw[V2 h]at h1;exact hn (by simp[hd,h1])
  simp only[ch,this]
theorem qv {w:au}{l:List au}{n:Nat}{R:List au}(hw:cq w)(hl:∀x∈l,cq x)(hn:n=0\/l.length+1=n):ch w n false (fg (w::l)::R)=some (w::l,R):=by
 grind [cq,ec,fg,kA,dU,ch]
def wN {w:au}{p:List au}{t:au}{n:Nat}{R:List au}(hw:cq w)(hp:∀x∈p,cq x)(ht:t≠[])(hn:p.length+2=n):ch w n true (fg (w::(p++[t]))::R)=some (w::(p++[t]),R):=by
 have hc:∀x∈w::p,cq x:=fun x hx=>by rcases ca.1 hx with rfl|hx;exact hw;exact hp x hx
 have hs:=DK (t:=t) hc;have hj:=jl (b:=32) (x:=32) rfl t;have h1:1<=(ai t 32).length:=ep 32 t [];have e:ec n true (fg (w::(p++[t])))=w::(p++[t]):=by
  unfold ec;rw[aw rfl,<-fB,hs];unfold qQ;have hl:(w::p++ai t 32).length=p.length+1+(ai t 32).length:=cY;split
  .have:(ai t 32).length=1:=ae;obtain⟨x,hx⟩:=List.length_eq_one_iff.1 this;rw[hx]at hj⊢;simp only[aS]at hj;rw[hj]
  .have a:n-1=(w::p).length:=cY;rw[a,List.take_left,List.drop_left,hj]
 have:dU w n true (fg (w::(p++[t])))=some (w::(p++[t])):=by
  unfold dU;rw[e,aw ⟨rfl,.inr cY,fun h=>by
   rw[<-fB,List.mem_append,cI]at h;rcases h with h|h
   .exact(hc _ h).1 rfl
   .exact ht h.symm⟩]
 simp only[ch,this]
def kD (s:au):List au:=if s=[]then []else [fg [eF,s]]
def nt (s:au):List au:=if s=[]then []else [fg [cT,s]]
def lA (l:List bS):List au:=l.map fun w=>fg (jc w)
def wI (n:bp):List au:=fg [ei]::(lA n.any++(kD n.when'++nt n.option))
def CA (b:fq):List au:=fg [fE,b.name,b.range]::kD b.when'
def kQ (f:bZ):au:=fg ([b8,f.name]++f.of)
structure FX (w:bS):Prop where
 nm:cq w.name
 rg:w.range≠[]/\j5 w.range
 fs:∀t∈w.feats,cq t/\∀c∈t,c≠44
 ne:aS [44] w.feats≠[45]
def nZ:cq eF:=by unfold cq;decide
theorem sG:cq cT:=by unfold cq;decide
theorem qf:cq ei:=by unfold cq;decide
def sF:cq fE:=by unfold cq;decide
def qe:cq b8:=by unfold cq;decide
def vW:cq gn:=by unfold cq;decide
def tH:cq dM:=by unfold cq;decide
def Sn {s:au}{R:List au}(hs:s=[]\/cq s)(hR:s=[]->hd R≠some cT):oo (nt s++R)=(s,R):=by
 grind [nt,oo,rM,qv,sG]
def DW {s:au}{R:List au}(hR:s=[]->hd R≠some eF):cy (kD s++R)=(s,R):=by
 unfold kD cy;by_cases h:s=[]
 .grind [rM]
 .rw[ak h,List.singleton_append];have:=wN (n:=2) (w:=eF) (p:=[]) (t:=s) (R:=R) nZ (fun x hx=>by cases hx) h rfl
  grind
def RG {l:List au}(h:∀t∈l,cq t/\∀c∈t,c≠44)(hl:l≠[]):cq (aS [44] l)/\ai (aS [44] l) 44=l:=by
 refine⟨⟨?_,fun c hc=>?_⟩,kv (x:=44) rfl hl fun w hw c hc e=>(h w hw).2 c hc (hX.1 (by have:(44:UInt8).toNat=44:=rfl;omega))⟩
 .match l,hl with
  |[a],_=>exact(h a (.head _)).1.1
  |a::b::r,_=>simp[aS]
 .rcases nM 44 l c hc with rfl|⟨w,hw,hc⟩
  .decide
  .exact(h w hw).1.2 c hc
def uF {w:bS}(h:FX w):∀x∈[w.name,if w.feats.length=0 then [45]else aS [44] w.feats,if w.bare=true then dF else jb],cq x:=by
 intro x hx;simp only[ca,eI,or_false]at hx;rcases hx with rfl|rfl|rfl
 .exact h.nm
 .split
  .unfold cq;decide
  .rename_i hn;exact(RG h.fs (fun e=>hn (by rw[e];rfl))).1
 .split<;>(unfold cq;decide)
def BR (w:bS):jc w=gn::([w.name,if w.feats.length=0 then [45]else aS [44] w.feats,if w.bare=true then dF else jb]++[w.range]):=rfl
theorem V0 {w:bS}(h:FX w):gM (jc w)=w/\kT (jc w)=true:=by
 obtain⟨nm,rg,fs,b⟩:=w;have hb:dF≠jb:=aF;constructor
 .show(⟨nm,rg,(if(if fs.length=0 then [45]else aS [44] fs)=[45]then []else ai (if fs.length=0 then [45]else aS [44] fs) 44),decide ((if b=true then dF else jb)=dF)⟩:bS)=_;have h1:(if(if fs.length=0 then [45]else aS [44] fs)=[45]then []else ai (if fs.length=0 then [45]else aS [44] fs) 44)=fs:=by
   by_cases hn:fs.length=0
   .grind
   .rw[ak hn,ak h.ne];exact(RG h.fs (fun e=>hn (by rw[show fs=[]from e];rfl))).2
  rw[h1];cases b<;>simp[hb,Ne.symm hb]
 .show(decide ((if b=true then dF else jb)=dF) ||decide ((if b=true then dF else jb)=jb))=true;cases b<;>simp
def ye {R:List au}(hR:hd R≠some gn):∀{l:List bS},(∀w∈l,FX w)->cE (lA l++R)=(l,R)
 |[],_=>vI (rM (.inl ae) hR)
 |w::r,h=>by
  have ih:=ye hR (l:=r) fun x hx=>h x (.tail _ hx)
  have hw:=h w (.head _);have hn:ch gn 5 true (fg (jc w)::(lA r++R))=some (jc w,lA r++R):=by
   have:=wN (n:=5) (w:=gn) (t:=w.range) (R:=lA r++R) vW (uF hw) hw.rg.1 rfl;rw[BR];exact this
  grind [V0,yd,cE,fg,jc,lA]
structure FO (n:bp):Prop where
 a:∀w∈n.any,FX w
 w:j5 n.when'
 o:n.option=[]\/cq n.option
def UY {s:au}{R:List au}:hd (kD s++R)=if s=[]then hd R else some eF:=by
 unfold kD;split
 .rfl
 .show some (fw (fg (eF::([]++[s]))))=_;rw[tR nZ (fun x hx=>by cases hx)]
def Yz {s:au}{R:List au}(hs:s=[]\/cq s):hd (nt s++R)=if s=[]then hd R else some cT:=by
 unfold nt;split
 .rfl
 .rename_i h;show some (fw (fg (cT::[s])))=_
  grind [pH,sG]
def Sa (R:List au):Prop:=hd R≠some gn/\hd R≠some eF/\hd R≠some cT
def OY {n:bp}{R:List au}(h:FO n)(hR:Sa R):eQ ((lA n.any++(kD n.when'++nt n.option))++R)=(n,R):=by
 have e1:(lA n.any++(kD n.when'++nt n.option))++R=lA n.any++(kD n.when'++(nt n.option++R)):=by simp only[eu]
 have ho:=Sn (s:=n.option) (R:=R) h.o fun _=>hR.2.2
 have hh:=Yz (R:=R) h.o;have hw:=DW (s:=n.when') (R:=nt n.option++R) fun _=>by
  rw[hh];split
  .exact hR.2.1
  .decide
 have ha:=ye (R:=kD n.when'++(nt n.option++R)) (l:=n.any) (by
  rw[UY];split
  .rw[hh];split
   .exact hR.1
   .decide
  .decide) h.a
 unfold eQ;rw[e1,ha,hw,ho]
def om (l:List bp):List au:=(l.map wI).flatten
def AO {R:List au}(hR:Sa R)(hN:hd R≠some ei):∀{l:List bp},(∀n∈l,FO n)->eD (om l++R)=(l,R)
 |[],_=>oQ (rM (.inr rfl) hN)
 |n::r,h=>by
  have ih:=AO hR hN (l:=r) fun x hx=>h x (.tail _ hx)
  have hok:Sa (om r++R):=by
   match r with
   |[]=>exact hR
   |m::q=>
    have:hd (om (m::q)++R)=some ei:=by
     show some (fw (fg (ei::[])))=_;rw[pH qf (fun x hx=>by cases hx)]
    unfold Sa;rw[this];decide
  have hr:=OY (h n (.head _)) hok;have hn:ch ei 1 false (om (n::r)++R)=some ([ei],(lA n.any++(kD n.when'++nt n.option))++(om r++R)):=by
   grind [qv,ei,lA,kD,nt,om,qf,wI]
  rw[rL hn,hr,ih]
structure Qe (b:fq):Prop where
 nm:cq b.name
 rg:b.range≠[]/\j5 b.range
 w:j5 b.when'
def nj (l:List fq):List au:=(l.map CA).flatten
def KJ {R:List au}{l:List fq}(h:∀b∈l,Qe b):hd (nj l++R)=if l=[]then hd R else some fE:=by
 match l with
 |[]=>rfl
 |b::r=>
  rw[ak aJ];show some (fw (fg (fE::([b.name]++[b.range]))))=_;rw[tR sF (fun x hx=>by rw[cI.1 hx];exact(h b (.head _)).nm)]
def CD {R:List au}(hR:hd R≠some eF/\hd R≠some fE):∀{l:List fq},(∀b∈l,Qe b)->iE (nj l++R)=(l,R)
 |[],_=>qb (rM (.inl ae) hR.2)
 |b::r,h=>by
  have ih:=CD hR (l:=r) fun x hx=>h x (.tail _ hx)
  have hb:=h b (.head _);have hw:=DW (s:=b.when') (R:=nj r++R) fun _=>by
   rw[KJ fun x hx=>h x (.tail _ hx)];split
   .exact hR.1
   .decide
  have hn:ch fE 3 true (nj (b::r)++R)=some ([fE,b.name,b.range],kD b.when'++(nj r++R)):=by
   have:=wN (n:=3) (w:=fE) (p:=[b.name]) (t:=b.range) (R:=kD b.when'++(nj r++R)) sF (fun x hx=>by rw[cI.1 hx];exact hb.nm) hb.rg.1 rfl
   grind [fE,nj,CA]
  rw[tA hn,hw,ih];rfl
structure Qr (f:bZ):Prop where
 nm:cq f.name
 o:∀t∈f.of,cq t
def Ak:∀{l:List bZ},(∀f∈l,Qr f)->dA (l.map kQ)=(l,[])
 |[],_=>rfl
 |f::r,h=>by
  have ih:=Ak (l:=r) fun x hx=>h x (.tail _ hx)
  have hf:=h f (.head _);have hn:=qv (n:=0) (w:=b8) (l:=f.name::f.of) (R:=r.map kQ) qe (fun x hx=>by
   rcases ca.1 hx with rfl|hx
   .exact hf.nm
   .exact hf.o x hx) (.inl rfl)
  have hl:dU b8 0 false (kQ f)=some (b8::f.name::f.of):=by
   simp only[ch]at hn;show dU b8 0 false (fg (b8::f.name::f.of))=_
   grind
  simp only[List.map_cons,dA,hl];rw[aw aJ,ih];rfl
end Go.Abs
namespace Go.Abs
variable {Y:Ctx}(hm:(Y.at 0).b7)
structure FR (r:Rec):Prop where
 nm:cq r.name
 v:eZ r.v=true
 n:∀n∈r.needs,FO n
 b:∀b∈r.bars,Qe b
 f:∀f∈r.feats,Qr f
def r9 (r:Rec):List au:=om r.needs++(nj r.bars++r.feats.map kQ)
def jm (r:Rec):List au:=fg [dM,r.name,jW r.v]::r9 r
def jx (l:List au):au:=(l.map fun t=>t++[10]).flatten
theorem rq (a b:List au):jx (a++b)=jx a++jx b:=by simp[jx]
def wh {α:Type}(f:α->List au):∀l:List α,jx ((l.map f).flatten)=(l.map fun x=>jx (f x)).flatten
 |[]=>rfl
 |a::r=>by simp only[List.map_cons,List.flatten_cons,rq,wh f r]
theorem sP (l:List au):cv l=fg l++[10]:=rfl
def Q3 (t:au):jx [t]=t++[10]:=by simp[jx]
theorem DX (s:au):jx (kD s)=ij s:=by
 unfold kD ij;split
 .rfl
 .rw[Q3,sP]
theorem So (s:au):jx (nt s)=qV s:=by
 unfold nt qV;split
 .rfl
 .rw[Q3,sP]
theorem Ie (l:List bS):jx (lA l)=(l.map fun w=>cv (jc w)).flatten:=by
 unfold lA jx;rw[List.map_map];rfl
theorem nI (t:au)(l:List au):jx (t::l)=t++[10]++jx l:=by simp[jx]
def OZ (n:bp):jx (wI n)=pN n:=by
 grind [wI,pN,nI,rq,Ie,DX,So,sP]
def QN (b:fq):jx (CA b)=uR b:=by
 unfold CA uR;rw[nI,DX,sP]
def I6 (l:List bZ):jx (l.map kQ)=(l.map qK).flatten:=by
 unfold jx;rw[List.map_map];rfl
theorem uC (r:Rec):gr r=jx (jm r):=by
 unfold jm r9 gr qL;rw[nI,rq,rq,I6];unfold om nj;rw[wh,wh,sP];simp only[OZ,QN,eu]
def AB:∀ls:List au,aS [10] (ls++[[]])=jx ls
 |[]=>rfl
 |a::r=>by
  rw[fB,ga _ _ _ aJ,AB r,nI]
def gD {l:List au}(h:∀w∈l,j5 w):j5 (fg l):=by
 intro c hc;rcases nM 32 l c hc with rfl|⟨w,hw,hc⟩
 .decide
 .exact h w hw c hc
def IA {w:au}(h:cq w):j5 w:=fun c hc=>(h.2 c hc).2
def xl {v:cn}(h:eZ v=true):cq (jW v):=by
 have e:jW v=sv v:=by unfold jW;rw[aw h]
 rw[e];refine⟨?_,fun c hc=>?_⟩
 .unfold sv;have:=yC v.major.toNat;cases hd:dI v.major.toNat with
  |nil=>exact absurd hd this
  |cons a b=>simp
 .have:=VY h hc;exact⟨fun e=>this.1 (by rw[e];rfl),fun e=>this.2 (by rw[e];rfl)⟩
def xJ {r:Rec}(h:FR r):∀t∈jm r,j5 t:=by
 have hwhen:∀s,j5 s->∀t∈kD s,j5 t:=fun s hs t ht=>by
  unfold kD at ht;split at ht
  .cases ht
  .obtain rfl:=cI.1 ht;refine gD fun w hw=>?_
   simp only[ca,eI,or_false]at hw;rcases hw with rfl|rfl
   .exact IA nZ
   .exact hs
 intro t ht;unfold jm r9 om nj at ht;simp only[ca,List.mem_append,List.mem_flatten,ey]at ht;rcases ht with rfl|⟨_,⟨n,hn,rfl⟩,ht⟩|⟨_,⟨b,hb,rfl⟩,ht⟩|⟨f,hf,rfl⟩
 .refine gD fun w hw=>?_
  simp only[ca,eI,or_false]at hw;rcases hw with rfl|rfl|rfl
  .exact IA tH
  .exact IA h.nm
  .exact IA (xl h.v)
 .have hw:=h.n n hn;unfold wI at ht;simp only[ca,List.mem_append]at ht;rcases ht with rfl|ht|ht|ht
  .exact gD fun w hw=>by rw[cI.1 hw];exact IA qf
  .obtain⟨w,hw2,rfl⟩:=ey.1 ht;have hww:=hw.a w hw2;rw[BR];refine gD fun x hx=>?_
   rcases ca.1 hx with rfl|hx
   .exact IA vW
   .rcases List.mem_append.1 hx with hx|hx
    .exact IA (uF hww x hx)
    .rw[cI.1 hx];exact hww.rg.2
  .exact hwhen _ hw.w t ht
  .unfold nt at ht;split at ht
   .cases ht
   .rename_i hne;obtain rfl:=cI.1 ht;refine gD fun x hx=>?_
    simp only[ca,eI,or_false]at hx;rcases hx with rfl|rfl
    .exact IA sG
    .exact IA (hw.o.resolve_left hne)
 .have hw:=h.b b hb;unfold CA at ht;rcases ca.1 ht with rfl|ht
  .refine gD fun x hx=>?_
   simp only[ca,eI,or_false]at hx;rcases hx with rfl|rfl|rfl
   .exact IA sF
   .exact IA hw.nm
   .exact hw.rg.2
  .exact hwhen _ hw.w t ht
 .have hw:=h.f f hf;refine gD fun x hx=>?_
  simp only[List.mem_append,ca,eI,or_false]at hx;rcases hx with(rfl|rfl)|hx
  .exact IA qe
  .exact IA hw.nm
  .exact IA (hw.o x hx)
theorem yb {ls:List au}(h:∀t∈ls,j5 t):ai (jx ls) 10=ls++[[]]:=by
 rw[<-AB];refine kv (x:=10) rfl aJ fun w hw c hc e=>?_
 rcases List.mem_append.1 hw with hw|hw
 .exact h w hw c hc (hX.1 (by have:(10:UInt8).toNat=10:=rfl;omega))
 grind
def Rc {l:List bZ}(h:∀f∈l,Qr f):hd (l.map kQ)=none\/hd (l.map kQ)=some b8:=by
 match l with
 |[]=>exact .inl rfl
 |f::r=>
  right;have hf:=h f (.head _);show some (fw (fg (b8::(f.name::f.of))))=_;rw[pH qe (fun x hx=>by
   rcases ca.1 hx with rfl|hx
   .exact hf.nm
   .exact hf.o x hx)]
theorem S5 {r:Rec}(h:FR r):oH (jm r)=some (r,[]):=by
 have hf:=Ak h.f;have hfh:=Rc h.f;have hb:=CD (R:=r.feats.map kQ) (by rcases hfh with e|e<;>rw[e]<;>decide) h.b;have hbh:=KJ (R:=r.feats.map kQ) h.b;have h1:hd (nj r.bars++r.feats.map kQ)=none\/hd (nj r.bars++r.feats.map kQ)=some b8\/hd (nj r.bars++r.feats.map kQ)=some fE:=by
  grind
 have hn:=AO (R:=nj r.bars++r.feats.map kQ) (by unfold Sa;rcases h1 with e|e|e<;>rw[e]<;>decide) (by rcases h1 with e|e|e<;>rw[e]<;>decide) h.n;have hp:=qv (n:=3) (w:=dM) (l:=[r.name,jW r.v]) (R:=r9 r) tH (fun x hx=>by
  simp only[ca,eI,or_false]at hx;rcases hx with rfl|rfl
  .exact h.nm
  .exact xl h.v) (.inr rfl)
 unfold oH jm;rw[hp];show(match gf (jW r.v)with|some v=>some (pz r.name v (r9 r))|none=>none)=_;rw[Zs h.v];show some (pz r.name r.v (r9 r))=_;unfold pz r9;rw[hn,hb,hf]
def Pf {r:Rec}(h:FR r)(hc:cK r=(0,0)):cA (gr r)=(r,0,0):=by
 have hl:¬4096<(gr r).length:=by
  grind [cK]
 have hs:ai (gr r) 10=jm r++[[]]:=by rw[uC];exact yb (xJ h)
 have ht:(ai (gr r) 10).take ((ai (gr r) 10).length-1)=jm r:=by
  rw[hs];simp
 have hz:(ai (gr r) 10)[(ai (gr r) 10).length-1]! =[]:=by
  rw[hs];simp
 grind [gk,jm,S5,cA]
end Go.Abs
end
namespace Go.Abs
variable {Y:Ctx}(hm:(Y.at 0).b7)
def Jv {w:au}(h:∀c∈w,c.toNat≠32/\c.toNat≠10):∀c∈w,c≠32/\c≠10:=fun c hc=>⟨fun e=>(h c hc).1 (by rw[e];rfl),fun e=>(h c hc).2 (by rw[e];rfl)⟩
theorem yI (n:Int):cq (ff n):=⟨(yN (rA n).1).1,Jv (yN (rA n).1).2.2⟩
theorem KY (n:Int):cq (mH n):=⟨V1 (rD n).1,Jv fun c hc=>⟨(L7 (rD n).1 hc).1,(L7 (rD n).1 hc).2.1⟩⟩
def L9:(∀t∈BV,cq t/\∀c∈t,c≠44)/\aS [44] BV≠[45]/\aS [44] (BV.take 1)≠[45]:=by unfold cq;decide
def US (l:List Int)(i own:Int)(al:Bool):FX (mG l i own al):=by
 have hf:=qm l (i+1);obtain⟨_,_,c⟩:=wu l i own al;refine⟨yI _,⟨hf.2.2.1,hf.2.2.2⟩,fun t ht=>?_, ?_⟩
 .rcases c with e|e|e<;>rw[e]at ht
  .cases ht
  .exact L9.1 t (kl ht)
  .exact L9.1 t ht
 .rcases c with e|e|e<;>rw[e]
  .decide
  .exact L9.2.2
  .exact L9.2.1
def UQ (l:List Int)(i own:Int):FO (ic l i own):=by
 refine⟨fun w hw=>?_,(n7 l (i+14)).2.2, ?_⟩
 .obtain⟨q,_,rfl⟩:=ey.1 (show w∈tV l i own (fZ l i)from hw);exact US _ _ _ _
 .rcases Ey l i own with e|⟨n,e⟩
  .exact .inl e
  .exact .inr (by rw[e];exact KY n)
def Yw (l:List Int)(i own:Int):Qe (As l i own):=⟨yI _,⟨(qm l (i+47)).2.2.1,(qm l (i+47)).2.2.2⟩,(n7 l (i+50)).2.2⟩
def WK:∀k,k<4->cq nE[k]! :=by unfold cq;decide
theorem CI {a b:au}(ha:cq a)(hb:∀c∈b,c≠32/\c≠10):cq (a++b):=⟨fun e=>ha.1 (List.append_eq_nil_iff.1 e).1,fun c hc=>(List.mem_append.1 hc).elim (ha.2 c) (hb c)⟩
def itG_W {l:List Int}{i:Int}{r:Rec}{t:au}(h:Zw l i r t)(hr:NdG r):cq t:=by
 rcases h with⟨m,hm,h1,rfl⟩|⟨m,hm,h1,rfl⟩|⟨k,hk,_,rfl⟩
 .obtain⟨n,e⟩:=(hr m hm).1.resolve_left h1
  grind [CI,cq,KY]
 .obtain⟨n,e⟩:=(hr m hm).2 h1
  grind [CI,yI]
 .exact WK _ ae
def Yy (l:List Int)(i own:Int):FR (Cd l i own):=by
 refine⟨yI own,(KX l i).1,fun n hn=>?_,fun b hb=>?_,fun f hf=>?_⟩
 .obtain⟨k,rfl⟩:=vn (show n∈Gt l i own (gK l i)from hn);exact UQ l k own
 .obtain rfl:=CW (show b∈rz l i own from hb);exact Yw l i own
 .obtain⟨k,hk,e,_,_,hi,_⟩:=qk (show f∈j8 l (i+52) (pK l i own)from hf);exact⟨by rw[e];exact WK k hk,fun t ht=>itG_W (hi t ht) (wq l i own)⟩
noncomputable def mc:aC:=cP 168
def w472 {Y:Ctx}(hm:(Y.at 5).b7)(t:au)(nm:au)(v:cn)(N:List bp)(B:List fq)(Z:List bZ)(st:Nat)(h470:tz (Y.at 5))(h475:T9 (Y.at 5))(hp0:t.length<=1048576)(hp1:st=2->N≠[])(hp2:tt N<=1000000)(hp3:N.length<=1000000):bJ (Y.at 5) mc.body (jQ mc (X6 (vR ⟨⟨nm,v,N,B,Z⟩,st⟩ t)):Ex->List cg->St->Prop) (fD mc [.ptr 0 10 0 0,.str t]) ⟨5,[(0,.buf 10 [nR nm v N.length B.length Z.length ((st:Nat):Int) 1 3 4]),(1,.buf 3 (eL 2 N)),(2,.buf 4 (mW N)),(3,.buf 3 (B.map fq.D)),(4,.buf 2 (Z.map bZ.D))]⟩:=by
 show bJ _ _ _ [⟨true,.ptr 0 10 0 0⟩,⟨true,.str t⟩,.un,.un,.un,.un,.un,.un,.un,.un] ⟨5,[(0,.buf 10 [nR nm v N.length B.length Z.length ((st:Nat):Int) 1 3 4]),(1,.buf 3 (eL 2 N)),(2,.buf 4 (mW N)),(3,.buf 3 (B.map fq.D)),(4,.buf 2 (Z.map bZ.D))]⟩;have hrl:=Fe t 4;have hrn:=xb t 4;have hre:=Bs t 4;obtain⟨⟨l,u,ok⟩,hq⟩:∃q,gQ t 4=q:=⟨_,rfl⟩
 rw[hq]at hrl hrn hre;dsimp only at hrl hrn hre;refine ar ?_;refine aB ?_;refine aq (v:=.tup [.sl 1 (l.map D.str),.str u,.bool ok]) (hc:=by have:=h475 t 4 hp0 aF;rw[hq]at this;exact this) ?_;refine aA ?_;refine eX (.sl _ _) ?_;refine sy ?_;refine aT (v:=.int .i64 ((st:Nat):Int)) ?_;refine aB ?_;refine bH 3 (hb:=fun hf=>by simp at hf;have hln:=hrn (by first|exact hf|exact hf.1|exact hf.1.1|exact hf.1.1.1);omega) ?_;refine bD (v:=.str l[3]!) (hi:=fun hf=>by simp at hf;have hln:=hrn (by first|exact hf|exact hf.1|exact hf.1.1|exact hf.1.1.1);omega) ?_;refine ay ?_;refine bH 3 (hb:=fun hf=>by simp at hf;have hln:=hrn (by first|exact hf|exact hf.1|exact hf.1.1|exact hf.1.1.1);omega) ?_;refine bD (v:=.str l[3]!) (hi:=fun hf=>by simp at hf;have hln:=hrn (by first|exact hf|exact hf.1|exact hf.1.1|exact hf.1.1.1);omega) ?_;refine aB ?_;refine av (fun hc0=>?_) (fun hc0=>?_)
 .simp only[cM,bB,bd,aK,bc]at hc0;have ho:vR ⟨⟨nm,v,N,B,Z⟩,st⟩ t=none:=by
   unfold vR;rw[hrl];rcases hc0 with(h|h)|⟨h1,h2⟩
   .rw[h];rfl
   .by_cases hk:ok=true
    .rw[aw hk];simp only;rw[ak (fun hh=>h ae)]
    .rw[ak hk]
   .by_cases hk:ok=true
    .rw[aw hk];simp only;rw[ak];rintro⟨_,hh⟩;unfold kT at hh;rw[cG (show ¬l[3]! =dF from h1),cG (show ¬l[3]! =jb from h2)]at hh;cases hh
    .rw[ak hk]
  rw[ho];refine aE ?_;refine bO trivial eg (bR ah (aj D.bool ?_)) ah ⟨rfl,fun y hy=>by cases hy⟩;rfl
 simp only[dd,dy,bK,aK,bc]at hc0;obtain⟨⟨hk,hst⟩,hho⟩:=hc0;obtain rfl:st=2:=ae;obtain⟨N,n,rfl⟩:=sZ (hp1 rfl);rw[gF,ju];rw[qp]at hp2;have hnl:(N++[n]).length=N.length+1:=aJ;have hln:=hrn hk;have hlm:∀w∈l,w.length<=1048576:=fun w hw=>dm (hre w hw) hp0
 have hhow:kT l=true:=by
  unfold kT;rcases hho with h|h
  .rw[b9 (show l[3]! =dF from h)];rfl
  .rw[b9 (show l[3]! =jb from h),Bool.or_true]
 have ho:vR ⟨⟨nm,v,N++[n],B,Z⟩,2⟩ t=some ⟨⟨nm,v,N++[⟨n.any++[(⟨l[1]!,u,if l[2]! =[45]then []else ai l[2]! 44,decide (l[3]! =dF)⟩:bS)],n.when',n.option⟩],B,Z⟩,2⟩:=by
  unfold vR;rw[hrl,aw hk];simp only;rw[aw ⟨trivial,hhow⟩,eY]
 rw[ho];refine ay ?_;refine bH 1 (hb:=fun _=>ae) ?_;refine bD (v:=.str l[1]!) (hi:=fun _=>ae) ?_;refine ax ?_;refine bH 3 (hb:=fun _=>ae) ?_;refine bD (v:=.str l[3]!) (hi:=fun _=>ae) ?_;refine aA ?_;refine bg (.agg [.str l[1]!,.str u,.bq,.bool (decide (l[3]! =dF))]) ?_;refine aA ?_;refine aI (.agg [.str l[1]!,.str u,.bq,.bool (decide (l[3]! =dF))]) (he:=aQ) ?_;refine aB ?_;refine bH 2 (hb:=fun _=>ae) ?_;refine bD (v:=.str l[2]!) (hi:=fun _=>ae) ?_;refine ax ?_;refine cF (fun hc1=>?_) fun hc1=>?_
 .refine ax ?_;refine bH 2 (hb:=fun _=>ae) ?_;refine bD (v:=.str l[2]!) (hi:=fun _=>ae) ?_;refine aq (v:=.sl 1 ((ai l[2]! 44).map D.str)) (hc:=h470 l[2]! 44 (hlm _ (bE ae))) ?_;refine aA ?_;refine aI (bS.N (⟨l[1]!,u,if l[2]! =[45]then []else ai l[2]! 44,decide (l[3]! =dF)⟩:bS)) (he:=by show _=D.agg [.str l[1]!,.str u,Vp (if l[2]! =[45]then []else ai l[2]! 44),.bool (decide (l[3]! =dF))];rw[ak hc1,R3 (nS _ _)];exact rfl) ?_;refine aD ?_;refine aT (v:=.own 1 3 0 (N++[n]).length) ?_;refine aB ?_;refine aT (v:=.own 1 3 0 (N++[n]).length) ?_;refine ik ?_;refine aA ?_;refine ie N.length (hj:=fun _=>aJ) (hb:=fun _=>aJ) ?_;refine aZ ?_;refine SS (es:=N.map bp.D++[lH 2 n]) (.own 2 4 0 n.any.length) (hi:=fun _=>aJ) (hv:=fun _=>by rw[mI _ _ _ _ aJ];exact rfl) ?_;refine cz (d:=bS.N (⟨l[1]!,u,if l[2]! =[45]then []else ai l[2]! 44,decide (l[3]! =dF)⟩:bS)) ?_;refine df [bS.N (⟨l[1]!,u,if l[2]! =[45]then []else ai l[2]! 44,decide (l[3]! =dF)⟩:bS)] ?_;refine gL (q:=bS.N) (xs:=n.any) (e:=(⟨l[1]!,u,if l[2]! =[45]then []else ai l[2]! 44,decide (l[3]! =dF)⟩:bS)) ?_;refine ax ?_;refine r5 (es:=N.map bp.D++[lH 2 n]) (N.map bp.D++[lH 78 ⟨n.any++[(⟨l[1]!,u,if l[2]! =[45]then []else ai l[2]! 44,decide (l[3]! =dF)⟩:bS)],n.when',n.option⟩]) (hi:=aJ) (he:=by rw[mI _ _ _ _ aJ,pY _ _ _ _ aJ];exact rfl) ?_;refine aE ?_;refine bO trivial eg (bR ah (aj D.bool ?_)) ah ⟨rfl,fun y hy=>by cases hy;exact⟨1,78,3,4,aF,⟨(by have e:(N++[(⟨n.any++[(⟨l[1]!,u,if l[2]! =[45]then []else ai l[2]! 44,decide (l[3]! =dF)⟩:bS)],n.when',n.option⟩:bp)]).length=(N++[n]).length:=aJ;show _=some (bW.buf 10 [nR nm v (N++[(⟨n.any++[(⟨l[1]!,u,if l[2]! =[45]then []else ai l[2]! 44,decide (l[3]! =dF)⟩:bS)],n.when',n.option⟩:bp)]).length B.length Z.length ((2:Nat):Int) 1 3 4]);rw[e];exact rfl),(by rw[gF];exact rfl),(by rw[ju];exact rfl),ah,ah⟩⟩⟩;rfl
 refine ax ?_;rw[show(D.agg [.str l[1]!,.str u,.bq,.bool (decide (l[3]! =dF))])=bS.N (⟨l[1]!,u,if l[2]! =[45]then []else ai l[2]! 44,decide (l[3]! =dF)⟩:bS)by show _=D.agg [.str l[1]!,.str u,Vp (if l[2]! =[45]then []else ai l[2]! 44),.bool (decide (l[3]! =dF))];rw[aw hc1];rfl];refine aB ?_;refine aT (v:=.own 1 3 0 (N++[n]).length) ?_;refine aB ?_;refine aT (v:=.own 1 3 0 (N++[n]).length) ?_;refine ik ?_;refine aA ?_;refine ie N.length (hj:=fun _=>aJ) (hb:=fun _=>aJ) ?_;refine aZ ?_;refine SS (es:=N.map bp.D++[lH 2 n]) (.own 2 4 0 n.any.length) (hi:=fun _=>aJ) (hv:=fun _=>by rw[mI _ _ _ _ aJ];exact rfl) ?_;refine cz (d:=bS.N (⟨l[1]!,u,if l[2]! =[45]then []else ai l[2]! 44,decide (l[3]! =dF)⟩:bS)) ?_;refine df [bS.N (⟨l[1]!,u,if l[2]! =[45]then []else ai l[2]! 44,decide (l[3]! =dF)⟩:bS)] ?_;refine gL (q:=bS.N) (xs:=n.any) (e:=(⟨l[1]!,u,if l[2]! =[45]then []else ai l[2]! 44,decide (l[3]! =dF)⟩:bS)) ?_;refine ax ?_;refine r5 (es:=N.map bp.D++[lH 2 n]) (N.map bp.D++[lH 72 ⟨n.any++[(⟨l[1]!,u,if l[2]! =[45]then []else ai l[2]! 44,decide (l[3]! =dF)⟩:bS)],n.when',n.option⟩]) (hi:=aJ) (he:=by rw[mI _ _ _ _ aJ,pY _ _ _ _ aJ];exact rfl) ?_;refine aE ?_;refine bO trivial eg (bR ah (aj D.bool ?_)) ah ⟨rfl,fun y hy=>by cases hy;exact⟨1,72,3,4,aF,⟨(by have e:(N++[(⟨n.any++[(⟨l[1]!,u,if l[2]! =[45]then []else ai l[2]! 44,decide (l[3]! =dF)⟩:bS)],n.when',n.option⟩:bp)]).length=(N++[n]).length:=aJ;show _=some (bW.buf 10 [nR nm v (N++[(⟨n.any++[(⟨l[1]!,u,if l[2]! =[45]then []else ai l[2]! 44,decide (l[3]! =dF)⟩:bS)],n.when',n.option⟩:bp)]).length B.length Z.length ((2:Nat):Int) 1 3 4]);rw[e];exact rfl),(by rw[gF];exact rfl),(by rw[ju];exact rfl),ah,ah⟩⟩⟩;rfl
end Go.Abs
