/- A part of the proofs. -/
import Derived.Ground.Names2Prog
import Derived.KernelRfl
import Derived.Shelf.LaysM
import Derived.Shelf.Slices.Clone
import Derived.Shelf.Small.Strs
import Derived.Shelf.Small.Utf8
import Derived.Shelf.Small.Wraps
import Derived.Shelf.Strconv.Itoa0
import Derived.Shelf.Strconv.Itoa1
import Derived.Shelf.Strconv.Itoa2
import Derived.Shelf.Strconv.Itoa3
import Derived.Shelf.Strings.AsciiSet
import Derived.Shelf.Strings.Builder1
import Derived.Shelf.Strings.Builder2
import Derived.Shelf.Strings.Count
import Derived.Shelf.Strings.Cut
import Derived.Shelf.Strings.OnBuilder
import Derived.Shelf.Strings.Prefix
import Derived.Shelf.Strings.Runes
import Derived.Shelf.Strings.Search1
import Derived.Shelf.Strings.Search2
import Derived.Shelf.Strings.Search3
import Derived.Shelf.Strings.Shaped
import Derived.Shelf.Strings.Split
import Derived.Shelf.Strings.SplitShaped
import Derived.Shelf.Strings.Trim
import Derived.Shelf.Unicode.DecodeSlow
import Derived.Test.YtgnjlompgjhaaaaGreatDoorProg
import Derived.Test.YtgnjlompgjhaaaaGreatDoorP10
set_option linter.all false
set_option maxRecDepth 4000
namespace Go.Abs
def Iz:aF:=⟨1,13,gV,bQ,(sq (rg [gb 9 s0,gm cse] [(2,0),(1,1)]) (sq (r2 [gf 0 s2,gd l0,aw (cs [112,97,99,107,97,103,101,32]) l1,aw l2 (cs [32]),gf 1 s2,gk 5 true l4,gx 316 [l5] zF,aw l3 l6,aw l7 (cs [10]),gm l8] 5 9) (sq (sq (r1 [gm bq] 3 0) (.block 0 (.loop (sq (sq (r1 [gm s3,gf 6 s2,gd l1,gl l2,aS l0 l3] 4 4) (fB s4 0)) (sq (.block 1 (sq (r1 [gm s5,aw l0 (cs [110,101,101,100,10]),gm l1] 5 2) (sq (sq (r1 [gm bq] 6 0) (.block 2 (.loop (sq (sq (r1 [gm s6,gf 6 s2,gd l1,gm s3,ga 3 l2 l3,gf 0 l4,gd l5,gl l6,aS l0 l7] 7 8) (fB s7 2)) (sq (.block 3 (r1 [gm s5,gf 6 s2,gd l1,gm s3,ga 3 l2 l3,gf 0 l4,gd l5,gm s6,ga 4 l6 l7,gk 4 true l8,gx 461 [l9] [[.a,.a,.sl 1 [.a],.a]],aw l0 l10,gm gH] 5 12)) (r1 [gm s6,aw l0 bX,gm l1] 6 2)))))) (sq (r1 [gm s5,gf 6 s2,gd l1,gm s3,ga 3 l2 l3,gf 1 l4,gd l5,gx 462 [l6] bQ,aw l0 l7,gm l8] 5 9) (sq (r1 [gf 6 s2,gd l0,gm s3,ga 3 l1 l2,gf 2 l3,gd l4,b7 l5 cse] 8 6) (.cond s8 (r1 [gm s5,aw l0 (cs [111,112,116,105,111,110,32]),gf 6 s2,gd l2,gm s3,ga 3 l3 l4,gf 2 l5,gd l6,aw l1 l7,aw l8 (cs [10]),gm l9] 5 10) .skip)))))) (r1 [gm s3,aw l0 bX,gm l1] 3 2)))))) (sq (sq (r1 [gm bq] 9 0) (.block 4 (.loop (sq (sq (r1 [gm s9,gf 7 s2,gd l1,gl l2,aS l0 l3] 10 4) (fB jf 4)) (sq (.block 5 (r2 [gm s5,aw l0 (cs [98,97,114,32]),gf 7 s2,gd l2,gm s9,ga 3 l3 l4,gf 0 l5,gd l6,aw l1 l7,aw l8 (cs [32]),gf 7 s2,gd l10,gm s9,ga 3 gH jm,gf 1 jV,gd lg,aw l9 mM,aw og (cs [10]),gf 7 s2,gd sX,gm s9,ga 3 uh zJ,gf 2 Bf,gd Ey,gx 462 [JF] bQ,aw rl MT,gm Ou] 5 26)) (r1 [gm s9,aw l0 bX,gm l1] 9 2)))))) (sq (sq (r1 [gm bq] 11 0) (.block 6 (.loop (sq (sq (r1 [gm k9,gf 8 s2,gd l1,gl l2,aS l0 l3] 12 4) (fB lv 6)) (sq (.block 7 (r2 [gm s5,gf 8 s2,gd l1,gm k9,ga 2 l2 l3,gf 0 l4,gd l5,gn (.bsl 1 (.str []) 2 [(0,(cs [102,101,97,116,117,114,101])),(1,l6)]),gf 8 s2,gd l8,gm k9,ga 2 l9 l10,gf 1 gH,gd jm,gn (.app 1 l7 jV),gx 249 [lg,(i8 32)] [[.sl 1 [.a]],[.a]],aw l0 mM,aw og (cs [10]),gm rl] 5 18)) (r1 [gm k9,aw l0 bX,gm l1] 11 2)))))) (sq (r1 [gm s5,gm l0] 1 1) .ret))))))⟩
def w219 {Y:Ctx}(hm:(Y.at 0).bd)(h249:R8 Y)(h316:XW Y)(h461:Yg Y)(h462:Yh Y)(r:Rec)  (hp0:wU r/\fo r):dj Y Iz (.str (fP r)) [Rec.D r]:=by
 show bH _ _ _ [⟨_,_⟩,_,_,_,_,_,_,_,_,_,_,_,_] _;have hft:=BZ hp0;have q0:=hft.nm;have q00:=AQ r.v hft.v;refine aq ?_;refine aH ?_;refine fR ?_;refine fR ?_;refine aD ?_;refine bI (v:=cY.D r.v) ?_;refine ai (hc:=h316 r.v hft.v) ?_;refine fR ?_;refine fR ?_;refine aH ?_;refine bh hm (ι:=Nat) (fun i=>[.un,.un,⟨true,.ptr 0 9 0 0⟩,⟨true,.int .i64 (i:Nat)⟩,.un,⟨true,.str (kq r i)⟩,.un,.un,.un,.un,.un,.un,.un]) (fun i=>[(0,.buf 9 [Rec.D r])]) 13 (fun i=>i<=r.needs.length) (fun i=>r.needs.length-i) 0 ae (aZ.to [(0,0)] ah ah (by repeat(first|exact dA.nil|refine dA.un ?_|refine dA.eq ah ?_|refine dA.nl (ar D.str (by rw[RH];simp[qq,bZ,aP,eO])) ah ?_)) rC) ?_;intro i hi;have q1:=Ef hft i hi;refine aH ?_;intro u0;refine az ?_;refine cI (fun hc0=>?_) fun hc0=>?_
 ·refine aA ?_;have hnf:=hft.n _ (bA (show i<r.needs.length by omega));have hn3:=hnf.1.1;refine aD ?_;refine fR ?_;refine aH ?_;refine bh hm (ι:=Nat) (fun j=>[.un,.un,⟨true,.ptr 0 9 0 0⟩,⟨true,.int .i64 (i:Nat)⟩,.un,⟨true,.str (kq r i++dU r.needs[i]! j)⟩,⟨true,.int .i64 (j:Nat)⟩,.un,.un,.un,.un,.un,.un]) (fun j=>[(0,.buf 9 [Rec.D r])]) 22 (fun j=>j<=r.needs[i]!.any.length) (fun j=>r.needs[i]!.any.length-j) 0 ae (aZ.to [(0,0)] ah ah (by repeat(first|exact dA.nil|refine dA.un ?_|refine dA.eq ah ?_|refine dA.nl (ar D.str (by rw[Tp])) ah ?_)) rC) ?_;intro j hj;have q2:=Cb hnf j ae;refine hX ?_;intro u1;refine az ?_;refine cI (fun hc1=>?_) fun hc1=>?_
  ·refine aA ?_;have hwf:=hnf.1.2 _ (bA (show j<r.needs[i]!.any.length by omega));have q3:=wG hwf;refine cW ?_;first|refine b8 (v:=(cq.D _)) ?_|refine fF (v:=(cq.D _)) ?_
   refine ai (hc:=h461 r.needs[i]!.any[j]! hwf) ?_;refine fR ?_;refine cW ?_;exact⟨j+1,ae,ae,(aZ.to [(0,0)] ah ah (by repeat(first|exact dA.nil|refine dA.un ?_|refine dA.eq ah ?_|refine dA.nl (ar D.str (by rw[nY ae,dS])) ah ?_)) rC)⟩
  refine aA ?_;have q4:=nK hnf.2.1;have q5:=hnf.2.2;refine aY ?_;refine ai (hc:=h462 r.needs[i]!.when' hnf.2.1) ?_;refine fR ?_;refine fS ?_;refine fA (fun hc2=>?_) fun hc2=>?_
  ·refine az ?_;refine fR ?_;refine aH ?_;refine fR ?_;refine fR ?_;refine cW ?_;have hq:kq r (i+1)=kq r i++(dU r.needs[i]! j++hH r.needs[i]!.when'++qC r.needs[i]!.option):=by rw[mE ae,vU (j:=j) ae]
   have ho:qC r.needs[i]!.option=[111,112,116,105,111,110,32]++r.needs[i]!.option++[10]:=by rw[qC,aj hc2];simp[bZ,aP,eh]
   exact⟨i+1,ae,ae,(aZ.to [(0,0)] ah ah (by repeat(first|exact dA.nil|refine dA.un ?_|refine dA.eq ah ?_|refine dA.nl (ar D.str (by rw[hq,ho];simp only[dS])) ah ?_)) rC)⟩
  refine bM ?_;have hq:kq r (i+1)=kq r i++(dU r.needs[i]! j++hH r.needs[i]!.when'++qC r.needs[i]!.option):=by rw[mE ae,vU (j:=j) ae]
  have ho:qC r.needs[i]!.option=[]:=by rw[qC,ax hc2]
  exact⟨i+1,ae,ae,(aZ.to [(0,0)] ah ah (by repeat(first|exact dA.nil|refine dA.un ?_|refine dA.eq ah ?_|refine dA.nl (ar D.str (by rw[hq,ho];simp only[dS,gh])) ah ?_)) rC)⟩
 refine aE ?_;have h33:i=r.needs.length:=ae;subst h33;refine az ?_;refine bh hm (ι:=Nat) (fun i=>[.un,.un,⟨true,.ptr 0 9 0 0⟩,.un,.un,⟨true,.str (AM r i)⟩,.un,.un,.un,⟨true,.int .i64 (i:Nat)⟩,.un,.un,.un]) (fun i=>[(0,.buf 9 [Rec.D r])]) 19 (fun i=>i<=r.bars.length) (fun i=>r.bars.length-i) 0 ae (aZ.to [(0,0)] ah ah (by repeat(first|exact dA.nil|refine dA.un ?_|refine dA.eq ah ?_|refine dA.nl (ar D.str (by rw[RI])) ah ?_)) rC) ?_;intro i hi;have q1:=Eg hft i hi;refine aH ?_;intro u2;refine az ?_;refine cI (fun hc3=>?_) fun hc3=>?_
 ·refine aA ?_;have q4:=hft.b _ (bA (show i<r.bars.length by omega));have q5:=q4.1;have q6:=q4.2.1;have q7:=nK q4.2.2;refine aD ?_;refine fR ?_;refine aH ?_;refine fR ?_;refine fR ?_;refine aH ?_;refine fR ?_;refine fR ?_;refine aH ?_;refine ai (hc:=h462 r.bars[i]!.when' q4.2.2) ?_;refine fR ?_;refine cW ?_;have hq:=GL (r:=r) (i:=i) ae;exact⟨i+1,ae,ae,(aZ.to [(0,0)] ah ah (by repeat(first|exact dA.nil|refine dA.un ?_|refine dA.eq ah ?_|refine dA.nl (ar D.str (by rw[hq];simp[uq,bZ,aP,iK])) ah ?_)) rC)⟩
 refine aE ?_;have h33:i=r.bars.length:=ae;subst h33;refine az ?_;refine bh hm (ι:=Nat) (fun i=>[.un,.un,⟨true,.ptr 0 9 0 0⟩,.un,.un,⟨true,.str (CN r i)⟩,.un,.un,.un,.un,.un,⟨true,.int .i64 (i:Nat)⟩,.un]) (fun i=>[(0,.buf 9 [Rec.D r])]) 25 (fun i=>i<=r.feats.length) (fun i=>r.feats.length-i) 0 ae (aZ.to [(0,0)] ah ah (by repeat(first|exact dA.nil|refine dA.un ?_|refine dA.eq ah ?_|refine dA.nl (ar D.str (by rw[RJ])) ah ?_)) rC) ?_;intro i hi;have q1:=Ku hft i hi;refine aH ?_;intro u3;refine az ?_;refine cI (fun hc4=>?_) fun hc4=>?_
 ·refine aA ?_;have q4:=hft.f _ (bA (show i<r.feats.length by omega));have q5:=BP q4;have q6:=q4.2;simp only[qp,bZ,bG,ay,aB]at q5;refine aY ?_;refine de [(.str _),(.str _)] ?_;refine aH ?_;refine QW (xs:=[cF,r.feats[i]!.name]) (ys:=r.feats[i]!.of) (he:=sQ.sl) (hb:=by simp only[ay,aB];omega) ?_;refine ai (hc:=h249 ([cF,r.feats[i]!.name]++r.feats[i]!.of) 32 ae) (ha:=fun _=>ar (fun d=>[d,D.int .u8 32]) (oI (q:=D.str) (fun _=>rfl) ah)) (hp:=fun _=>⟨mH (q:=D.str) (fun _=>rfl) ah,rfl,trivial⟩) ?_;refine c8 (hb:=fun _=>by first|omega|(simp only[bG,ay,aB];omega)) ?_;refine c8 (hb:=fun _=>by first|omega|(simp only[bG,ay,aB];omega)) ?_;refine cW ?_;have hq:=GN (r:=r) (i:=i) ae;exact⟨i+1,ae,ae,(aZ.to [(0,0)] ah ah (by repeat(first|exact dA.nil|refine dA.un ?_|refine dA.eq ah ?_|refine dA.nl (ar D.str (by rw[hq];simp[qp,bZ])) ah ?_)) rC)⟩
 refine aA ?_;have h33:i=r.feats.length:=ae;subst h33;refine aE ?_;refine cT ?_;exact Ei r
def Ga:aF:=⟨1,6,[⟨1,none⟩,⟨2,none⟩],fH,(sq (rg [gb 9 s0,gm cse,gm bq] [(3,0),(1,1),(2,2)]) (sq (sq (r1 [gk 9 true s3,gx 71 [l0] [[.a,.a,.a,.a,.a,.a,.sl 3 [.sl 4 [.a,.a,.sl 1 [.a],.a],.a,.a],.sl 3 [.a,.a,.a],.sl 2 [.a,.sl 1 [.a]]]],gm l1,ge l2 0,ge l2 1,gm l3,gm l4] 4 5) (sq (r1 [gm s4,b7 l0 bq] 5 1) (.cond s5 (sq (rg [gm s4,gm cse,gm l0] [(1,1),(2,2)]) .ret) .skip))) (sq (rg [gk 9 true s3,gx 219 [l0] [[.a,.a,.a,.a,.a,.a,.sl 3 [.sl 4 [.a,.a,.sl 1 [.a],.a],.a,.a],.sl 3 [.a,.a,.a],.sl 2 [.a,.sl 1 [.a]]]],gm l1,gm bq] [(1,2),(2,3)]) .ret)))⟩
def w73 {Y:Ctx}(hm:(Y.at 0).bd)(h71:C71 Y)(h219:U1 Y)(r:Rec)  (hp0:fo r):dj Y Ga (.tup [.str (c7 r).1,.int .i64 (c7 r).2]) [Rec.D r]:=by
 show bH _ _ _ [⟨_,_⟩,_,_,_,_,_] _;refine aq ?_;refine aY ?_;refine ai (hc:=h71 r hp0) ?_;refine fS ?_;refine cI (fun hc0=>?_) fun hc0=>?_
 ·refine aY ?_;refine bL (aM (ar D.str ?_) (ar (D.int .i64) ?_));all_goals
   simp[c7,hc0]
 refine az ?_;have hgd:=qN hc0;refine aD ?_;refine ai (hc:=h219 r ⟨hgd,hp0⟩) ?_;refine aE ?_;refine bL (aM (ar D.str ?_) (ar (D.int .i64) ?_));all_goals
  simp[c7,hc0]
def C73 (Y:Ctx):Prop:=Er (bt Y 73)
def Nz:aF:=⟨1,7,[⟨1,none⟩,⟨2,none⟩],fH,(sq (rg [gb 9 s0,gm (iu 0),gm bq] [(3,0),(1,1),(2,2)]) (sq (rg [gk 9 true s3,gx 73 [l0] [[.a,.a,.a,.a,.a,.a,.sl 3 [.sl 4 [.a,.a,.sl 1 [.a],.a],.a,.a],.sl 3 [.a,.a,.a],.sl 2 [.a,.sl 1 [.a]]]],gm l1,ge l2 0,ge l2 1,gm l3,gm l4] [(6,5),(4,6)]) (sq (sq (r1 [gm s4,b7 l0 bq] 5 1) (.cond s5 (sq (rg [gm s4,gm (iu 0),gm l0] [(1,1),(2,2)]) .ret) .skip)) (sq (rg [gm s6,gn (.s2b l0),gx 221 [l1] [[.sl 1 [.a]]],gm l2,gm bq] [(1,3),(2,4)]) .ret))))⟩
def w75 {Y:Ctx}(hm:(Y.at 0).bd)(h73:C73 Y)(h221:XK Y)(r:Rec)  (hp0:fo r):dj Y Nz (.tup [.int .u64 (lV r),.int .i64 (c7 r).2]) [Rec.D r]:=by
 show bH _ _ _ [⟨_,_⟩,_,_,_,_,_,_] _;refine aq ?_;refine aH ?_;refine ai (hc:=h73 r hp0) ?_;refine fS ?_;refine cI (fun hc0=>?_) fun hc0=>?_
 ·refine aY ?_;refine bL (aM (ar (D.int .u64) ?_) (ar (D.int .i64) ?_));all_goals
   simp[lV,hc0]
 refine aE ?_;refine ai (hc:=h221 (c7 r).1) (ha:=fun _=>ar (fun d=>[d]) (oI (q:=fun b:UInt8=>D.int .u8 b.toNat) (fun _=>rfl) ah)) (hp:=fun _=>⟨mH (q:=fun b:UInt8=>D.int .u8 b.toNat) (fun _=>rfl) ah,trivial⟩) ?_;refine aE ?_;refine bL (aM (ar (D.int .u64) ?_) (ar (D.int .i64) ?_));all_goals
  simp[lV,hc0]
def C75 (Y:Ctx):Prop:=Es (bt Y 75)
def NC:aF:=⟨2,5,[⟨2,none⟩],bQ,(sq (rg [gb 5 s0,gb 5 s1,gm dM] [(3,0),(4,1),(2,2)]) (sq (r1 [gk 5 true s3,gx 217 [l0] zF,gm l1,bY 2 (.ld 5 true s4),bY 2 (.call 217 [l3] zF),eL l2 l4,gm l5,bY 6 (.ld 5 true s3),bY 6 (.ld 5 true s4),bY 6 (.call 424 [l7,l8] [[.a,.a,.a,.a,.a],[.a,.a,.a,.a,.a]]),bY 6 (cQ l9 bq),eL l6 l10,gm gH] 2 12) .ret))⟩
def w501 {Y:Ctx}(hm:(Y.at 0).bd)(h217:LY Y)(h424:X1 Y)(a:cY)(b:cY)  (hp0:a.sm/\b.sm):dj Y NC (.bool (DK a b)) [cY.D a,cY.D b]:=by
 show bH _ _ _ [⟨_,_⟩,⟨_,_⟩,_,_,_] _;refine aq ?_;refine aH ?_;refine ai (hc:=h217 a hp0.1) ?_;refine az ?_;refine dc (hc:=fun hf=>h217 b hp0.2) ?_;refine aE ?_;refine dc (hc:=fun hf=>h424 a b hp0) ?_;refine aJ ?_;exact bS rfl
def Yt (Y:Ctx):Prop:=yS (bt Y 501)
def Gd:aF:=⟨3,8,[⟨3,none⟩],bQ,(sq (rg [gb 5 s2,gm bq] [(6,0),(3,1)]) (sq (sq (r1 [gm bq] 4 0) (.block 0 (.loop (sq (sq (r1 [gm s4,gm s0,gl l1,aS l0 l2] 5 3) (fB s5 0)) (sq (.block 1 (sq (r2 [gm s0,gm s4,ga 11 l0 l1,gf 0 l2,gf 0 l3,gd l4,gm s1,aL l5 l6,gm l7,gmt 8 s0,gmt 8 s4,bY 8 (.ia 11 l9 l10),mL 8 0 gH,mL 8 1 jm,bY 8 (.ld 5 true jV),bY 8 (.ld 5 true s6),bY 8 (.call 501 [lg,mM] [[.a,.a,.a,.a,.a],[.a,.a,.a,.a,.a]]),eL l8 og] 7 17) (.cond s7 (sq (r1 [gm s4,gm l0] 3 1) .ret) .skip))) (r1 [gm s4,aw l0 bX,gm l1] 4 2)))))) (sq (r1 [gn (.mv (.c (.int .i64 (-1))))] 3 0) .ret)))⟩
def w580 {Y:Ctx}(hm:(Y.at 0).bd)(h501:Yt Y)(l:List dd)(nm:au)(v:cY)  (hp0:(∀x∈l,x.r.v.sm)/\v.sm):dj Y Gd (.int .i64 (sJ l nm v 0)) [.sl 11 (l.map dd.D),.str nm,cY.D v]:=by
 show bH _ _ _ [⟨_,_⟩,⟨_,_⟩,⟨_,_⟩,_,_,_,_,_] _;refine aq ?_;refine aY ?_;refine bh hm (ι:=Nat) (fun i=>[⟨true,.sl 11 (l.map dd.D)⟩,⟨true,.str nm⟩,.un,.un,⟨true,.int .i64 (i:Nat)⟩,.un,⟨true,.ptr 0 5 0 0⟩,.un]) (fun i=>[(0,.buf 5 [cY.D v])]) 3 (fun i=>i<=l.length/\sJ l nm v 0=sJ l nm v i) (fun i=>l.length-i) 0 ⟨ae,rfl⟩ (dL [(0,0)]) ?_;rintro i ⟨hi,hr⟩;refine aJ ?_;intro u0;refine az ?_;refine cI (fun hc0=>?_) fun hc0=>?_
 ·refine aJ ?_;refine ca i ?_;refine az ?_;refine b8 (v:=.str l[i]!.r.name) ?_;refine aJ ?_;refine ca i ?_;refine az ?_;refine b8 (v:=cY.D l[i]!.r.v) ?_;refine aD ?_;refine dc (hc:=fun hf=>h501 l[i]!.r.v v ⟨hp0.1 _ (bA ae),hp0.2⟩) ?_;refine az ?_;refine fA (fun hc1=>?_) fun hc1=>?_
  ·refine aY ?_;refine cS ?_;rw[hr,QJ ae (Te hc1)]
  refine bM ?_;exact⟨i+1,⟨ae,by rw[hr,QL ae (Wo hc1)]⟩,ae,(dL [(0,0)])⟩
 refine aH ?_;refine cS ?_;rw[hr,J0 ae]
def Vk (Y:Ctx):Prop:=yF (bt Y 580)
def NB:aF:=⟨1,10,gV,bQ,(sq (rg [gb 2 s0,gm dM] [(2,0),(1,1)]) (sq (sq (r1 [gf 0 s2,gd l0,gx 216 [l1] bQ,jU l2,gm l3,j5 4 1 s2,lF 4 l5,cD 4 (.len l6),cD 4 (et l7 (i6 64)),fE l4 l8] 3 9) (mI s3 dM)) (sq (sq (r1 [gm bq] 4 0) (.block 0 (.loop (sq (sq (r1 [gm s4,gf 1 s2,gd l1,gl l2,aS l0 l3] 5 4) (fB s5 0)) (sq (.block 1 (sq (r1 [gf 1 s2,gd l0,gm s4,ga 11 l1 l2,gk 11 true l3,gb 11 (.c (.agg [.str [],.int .i64 0,.int .i64 0,.int .i64 0,.str [],.str [],.aC,.aC,.aC,.int .u64 0,.bool false])),gt 11 l5 l4] 6 5) (sq (rg [gf 0 s6,gk 9 true l0,gx 75 [l1] [[.a,.a,.a,.a,.a,.a,.sl 3 [.sl 4 [.a,.a,.sl 1 [.a],.a],.a,.a],.sl 3 [.a,.a,.a],.sl 2 [.a,.sl 1 [.a]]]],gm l2,ge l3 0,ge l3 1,gm l4,gm l5] [(8,6),(7,7)]) (sq (r1 [gm s7,b7 l0 bq,gm l1,eP 2 s8,j5 2 9 s6,lF 2 l4,cD 2 (eX l3 l5),fE l2 l6,gm l7,j5 8 1 s2,lF 8 l9,j5 8 0 s6,j5 8 0 gH,lF 8 jm,j5 8 0 s6,j5 8 1 lg,cD 8 (.ld 5 true mM),cD 8 (.call 580 [l10,jV,og] [[.sl 11 [.a,.a,.a,.a,.a,.a,.sl 3 [.sl 4 [.a,.a,.sl 1 [.a],.a],.a,.a],.sl 3 [.a,.a,.a],.sl 2 [.a,.sl 1 [.a]],.a,.a]],[.a],[.a,.a,.a,.a,.a]]),eP 8 s4,cD 8 (eX rl sX),fE l8 uh] 9 20) (mI s9 dM))))) (r1 [gm s4,aw l0 bX,gm l1] 4 2)))))) (xx qx))))⟩
def w358 {Y:Ctx}(hm:(Y.at 0).bd)(h75:C75 Y)(h216:LX Y)(h580:Vk Y)(s:fV)  (hp0:∀x∈s.es,fo x.r):dj Y NB (.bool (iT s)) [fV.D s]:=by
 show bH _ _ _ [⟨_,_⟩,_,_,_,_,_,_,_,_,_] _;refine aq ?_;refine aH ?_;refine bI (v:=.str s.name) ?_;refine ai (hc:=h216 _) ?_;refine aA ?_;refine bI (v:=.sl 11 (s.es.map dd.D)) ?_;refine ll ?_;refine aA ?_;refine av (fun hc0=>?_) (fun hc0=>?_)
 ·simp only[dh,bE,aW]at hc0;have hf:iT s=false:=by
   unfold iT;rcases hc0 with h|h
   ·rw[h];rfl
   ·rw[show decide (s.es.length<=64)=false from dk ae];simp
  refine aJ ?_;refine bS ?_;exact hf.symm
 simp only[dW,b6,bD]at hc0;have hq:iT s=cV (om s.es) 0 s.es.length:=by unfold iT;rw[hc0.1,cz (show s.es.length<=64 by omega)];simp
 refine aJ ?_;refine bh hm (ι:=Nat) (fun i=>[.un,.un,⟨true,.ptr 0 2 0 0⟩,.un,⟨true,.int .i64 (i:Nat)⟩,.un,.un,.un,.un,.un]) (fun i=>[(0,.buf 2 [fV.D s])]) 13 (fun i=>i<=s.es.length/\iT s=cV (om s.es) i s.es.length) (fun i=>s.es.length-i) 0 ⟨ae,hq⟩ (dL [(0,0)]) ?_;rintro i ⟨hi,hr⟩;refine aE ?_;refine bI (v:=.sl 11 (s.es.map dd.D)) ?_;refine aD ?_;intro u0;refine az ?_;refine cI (fun hc1=>?_) fun hc1=>?_
 ·refine aA ?_;have hsm:=hp0 _ (bA (show i<s.es.length by omega));refine aD ?_;refine bI (v:=.sl 11 (s.es.map dd.D)) ?_;refine aD ?_;refine ca i ?_;refine b8 (v:=dd.D s.es[i]!) ?_;refine aD ?_;refine aU (dd.D s.es[i]!) (he:=bj) ?_;refine aA ?_;refine bI (v:=Rec.D s.es[i]!.r) ?_;refine ai (hc:=h75 s.es[i]!.r hsm) ?_;refine gG ?_;refine bI (v:=.int .u64 s.es[i]!.sum) ?_;refine aE ?_;refine bI (v:=.sl 11 (s.es.map dd.D)) ?_;refine az ?_;refine bI (v:=.str s.es[i]!.r.name) ?_;refine az ?_;refine bI (v:=cY.D s.es[i]!.r.v) ?_;refine dc (hc:=fun hf=>h580 s.es s.es[i]!.r.name s.es[i]!.r.v ⟨fun x hx=>(hp0 x hx).1.2,hsm.1.2⟩) ?_;refine aE ?_;refine wp_cond (fun hc2=>?_) (fun hc2=>?_)
  ·have hen:om s.es i=false:=by
    simp only[dh,bE,aW,bD]at hc2;exact SH ae hc2
   refine aH ?_;refine bS ?_;rw[hr,aV ae,hen];rfl
  have hen:om s.es i=true:=by
   simp only[dW,b6,aW,bD]at hc2;exact Po ae hc2.1.1 hc2.1.2 hc2.2
  refine bM ?_;exact⟨i+1,⟨ae,by rw[hr,aV ae,hen];rfl⟩,ae,(dL [(0,0)])⟩
 refine aH ?_;refine bS ?_;rw[hr,cr ae]
def X0 (Y:Ctx):Prop:=yy (bt Y 358)
def wj:aF:=⟨2,12,[⟨2,some (2,true)⟩,⟨3,none⟩],[[.a,.sl 11 [.a,.a,.a,.a,.a,.a,.sl 3 [.sl 4 [.a,.a,.a,.a],.a,.a],.sl 3 [.a,.a,.a],.sl 2 [.a,.sl 1 [.a]],.a,.a]],[.a]],(sq (rg [gb 2 s0,gb 9 s1,gb 2 (.c (.agg [.str [],.aC])),gm bq] [(4,0),(6,1),(2,2),(3,3)]) (sq (sq (r1 [gk 2 true s4,gx 358 [l0] [[.a,.sl 11 [.a,.a,.a,.a,.a,.a,.sl 3 [.sl 4 [.a,.a,.a,.a],.a,.a],.sl 3 [.a,.a,.a],.sl 2 [.a,.sl 1 [.a]],.a,.a]]],jU l1] 5 2) (.cond s5 (sq (r1 [gn (.build [.str [],.aC] []),gt 2 s2 l0,gm bX] 3 2) .ret) .skip)) (sq (rg [gk 9 true s6,gx 75 [l0] [[.a,.a,.a,.a,.a,.a,.sl 3 [.sl 4 [.a,.a,.sl 1 [.a],.a],.a,.a],.sl 3 [.a,.a,.a],.sl 2 [.a,.sl 1 [.a]]]],gm l1,ge l2 0,ge l2 1,gm l3,gm l4] [(11,5),(7,6)]) (sq (.block 0 (sq (r1 [gm s7,b7 l0 bq,gm l1] 8 2) (.cond s8 (sq (r1 [gn (.build [.str [],.aC] []),gm s7,gt 2 s2 l0,gm l1] 3 3) .ret) (sq (r1 [gf 1 s4,gd l0,gf 0 s6,gd l2,gf 1 s6,gk 5 true l4,gx 580 [l1,l3,l5] [[.sl 11 [.a,.a,.a,.a,.a,.a,.sl 3 [.sl 4 [.a,.a,.sl 1 [.a],.a],.a,.a],.sl 3 [.a,.a,.a],.sl 2 [.a,.sl 1 [.a]],.a,.a]],[.a],[.a,.a,.a,.a,.a]],fY l6 bq,gm l7] 9 8) (.cond s9 (sq (r1 [gn (.build [.str [],.aC] []),gt 2 s2 l0,gm Fj] 3 2) .ret) (sq (r1 [gf 1 s4,gd l0,gl l1,fY l2 (i6 64),gm l3] 10 4) (.cond jf (sq (r1 [gn (.build [.str [],.aC] []),gt 2 s2 l0,gm (i6 10)] 3 2) .ret) .skip))))))) (sq (r2 [gf 0 s4,gn (.ldI 1 false l0),gf 1 s4,gd l2,gn (.appN 11 l3),gk 9 true s6,gm k9,gn (.build [.str [],.int .i64 0,.int .i64 0,.int .i64 0,.str [],.str [],.aC,.aC,.aC,.int .u64 0,.bool false] [(0,9,l5),(9,1,l6)]),gn (.bsl 11 (.agg [.str [],.int .i64 0,.int .i64 0,.int .i64 0,.str [],.str [],.aC,.aC,.aC,.int .u64 0,.bool false]) 1 [(0,l7)]),gn (.app 11 l4 l8),gn (.build [.str [],.aC] [(0,1,l1),(1,1,l9)]),gt 2 s2 l10,gm bq] 3 12) .ret)))))⟩
def w504 {Y:Ctx}(hm:(Y.at 0).bd)(s:fV)(r:Rec)(h75:C75 Y)(h358:X0 Y)(h580:Vk Y)(hp0:(∀x∈s.es,fo x.r)/\fo r):bH (Y.at 0) wj.body (nb wj (PutQ s r):Ex->List bR->St->Prop) (gw wj [fV.D s,Rec.D r]) ⟨0,[]⟩:=by
 show bH _ _ _ [⟨_,_⟩,⟨_,_⟩,_,_,_,_,_,_,_,_,_,_] _;refine aq ?_;refine aY ?_;refine cJ (d:=fV.D s) ?_;refine ai (hc:=h358 s hp0.1) ?_;refine az ?_;refine av (fun hc0=>?_) (fun hc0=>?_)
 ·simp only[bE]at hc0;have hz:mT s r=(pF,1):=by unfold mT;rw[ax hc0]
  refine az ?_;refine dr _ ?_;refine aE ?_;refine cU trivial rD (cC ah (aM ?_ (ar (D.int .i64) ?_))) ah (.inl ⟨by rw[hz];decide,rfl⟩);all_goals first|rfl|(rw[hz];done)|(rw[hz];rfl)
 simp only[b6]at hc0;have hq0:¬iT s=false:=by simp[hc0]
 refine az ?_;refine cJ (d:=Rec.D r) ?_;refine ai (hc:=h75 r hp0.2) ?_;refine gG ?_;refine wp_cond (fun hc1=>?_) (fun hc1=>?_)
 ·simp only[bE,bD]at hc1;have hz:mT s r=(pF,(c7 r).2):=by unfold mT;rw[aj hq0,ax hc1]
  refine aD ?_;refine dr _ ?_;refine aH ?_;refine cU trivial rD (cC ah (aM ?_ (ar (D.int .i64) ?_))) ah (.inl ⟨by rw[hz];exact hc1,rfl⟩);all_goals first|rfl|(rw[hz];done)|(rw[hz];rfl)
 simp only[b6,aW]at hc1;have hq1:¬¬(c7 r).2=0:=fun h=>h hc1
 refine az ?_;refine bI (v:=.sl 11 (s.es.map dd.D)) ?_;refine aD ?_;refine bI (v:=.str r.name) ?_;refine aD ?_;refine bI (v:=cY.D r.v) ?_;refine ai (hc:=h580 s.es r.name r.v ⟨fun x hx=>(hp0.1 x hx).1.2,hp0.2.1.2⟩) ?_;refine aA ?_;refine wp_cond (fun hc2=>?_) (fun hc2=>?_)
 ·simp only[aW]at hc2;have hz:mT s r=(pF,8):=by unfold mT;rw[aj hq0,aj hq1,ax hc2]
  refine aD ?_;refine dr _ ?_;refine aJ ?_;refine cU trivial rD (cC ah (aM ?_ (ar (D.int .i64) ?_))) ah (.inl ⟨by rw[hz];decide,rfl⟩);all_goals first|rfl|(rw[hz];done)|(rw[hz];rfl)
 simp only[bD]at hc2;refine az ?_;refine bI (v:=.sl 11 (s.es.map dd.D)) ?_;refine aD ?_;intro u0;refine aA ?_;refine wp_cond (fun hc3=>?_) (fun hc3=>?_)
 ·simp only[aW]at hc3;have hz:mT s r=(pF,10):=by unfold mT;rw[aj hq0,aj hq1,aj hc2,ax ae]
  refine aD ?_;refine dr _ ?_;refine aJ ?_;refine cU trivial rD (cC ah (aM ?_ (ar (D.int .i64) ?_))) ah (.inl ⟨by rw[hz];decide,rfl⟩);all_goals first|rfl|(rw[hz];done)|(rw[hz];rfl)
 simp only[bD]at hc3;have hz:mT s r=(⟨s.name,oq s r⟩,0):=by unfold mT;rw[aj hq0,aj hq1,aj hc2,aj ae];rfl
 refine az ?_;refine ff 0 ?_;refine az ?_;refine DT (v:=.str s.name) ?_;refine aD ?_;refine fF (v:=.sl 11 (s.es.map dd.D)) ?_;refine J3 (he:=sQ.sl) (n:=s.es.length) (hn:=aT) (hb:=ae) ?_;refine cJ (d:=Rec.D r) ?_;refine aD ?_;refine bz (dd.D (⟨r,lV r,false⟩:dd)) ?_;refine de [dd.D (⟨r,lV r,false⟩:dd)] ?_;refine jX (q:=dd.D) (xs:=s.es) (e:=(⟨r,lV r,false⟩:dd)) (hb:=ae) ?_;refine bz (.agg [.str s.name,.own 40 11 0 (oq s r).length]) ?_;refine aU (.agg [.str s.name,.own 40 11 0 (oq s r).length]) (he:=bj) ?_;refine aA ?_;refine cU trivial rD (cC ah (aM ?_ (ar (D.int .i64) ?_))) ah (.inr ⟨by rw[hz],40,rfl,bj⟩);all_goals rfl
def Vh (Y:Ctx):Prop:=∀(s:fV) (r:Rec),((∀x∈s.es,fo x.r)/\fo r)->∀(nx:Nat) (m:List (Nat×bO)) (K:D->St->Prop),(¬(mT s r).2=0->K (.tup [.agg [.str [],.aC],.int .i64 (mT s r).2]) ⟨nx,m⟩)->((mT s r).2=0->K (.tup [.agg [.str s.name,.own nx 11 0 (oq s r).length],.int .i64 0]) ⟨nx+1,(nx,.buf 11 ((oq s r).map dd.D))::m⟩)->Y.tr 504 [fV.D s,Rec.D r] ⟨nx,m⟩ K
def HZ:aF:=⟨4,12,[⟨4,some (2,true)⟩],[[.a,.sl 11 [.a,.a,.a,.a,.a,.a,.sl 3 [.sl 4 [.a,.a,.a,.a],.a,.a],.sl 3 [.a,.a,.a],.sl 2 [.a,.sl 1 [.a]],.a,.a]]],(sq (r1 [gb 2 (.c (.agg [.str [],.aC]))] 4 0) (sq (r1 [gm s2,gn (.build [.str [],.aC] [(0,1,l0)]),gb 2 (.c (.agg [.str [],.aC])),gt 2 l2 l1] 7 2) (sq (sq (r1 [gm bq] 5 0) (.block 0 (.loop (sq (sq (r1 [gm s5,gm s3,aS l0 l1,gm l2,gmt 3 s5,gmt 3 s0,gmt 3 s1,gmt 3 s3,bY 3 (zb l7 bX),bY 3 (.call 228 [l5,l6,l8] [[.sl 1 [.a]],[.a],[.a]]),bY 3 (nO l4 l9),eL l3 l10] 6 11) (fB s6 0)) (sq (.block 1 (sq (r1 [gm s0,gm s1,aw l1 bX,gm s5,gn (.bin .mul (i6 82) l3),aw l2 l4,gm s0,gm s1,aw l7 bX,gm s5,gn (.bin .mul (i6 82) l9),aw l8 l10,aw gH (i6 80),gx 228 [l6,jm,sg] [[.sl 1 [.a]],[.a],[.a]],aw bX jV,gx 79 [l0,l5,lg] [[.sl 1 [.a]],[.a],[.a]],gb 9 (.c (.agg [.str [],.int .i64 0,.int .i64 0,.int .i64 0,.str [],.str [],.aC,.aC,.aC])),gt 9 og mM] 8 16) (sq (rg [gk 2 true s7,gk 9 true s8,gn (.callM 504 [l0,l1]),gm l2,ge l3 0,ge l3 1,gb 2 (.c (.agg [.str [],.aC])),gt 2 l6 l4,gm l5] [(11,6),(9,8)]) (sq (r1 [gm s9,aL l0 bq] 10 1) (.cond jf (sq (rg [gk 2 true k9,gt 2 s7 l0] []) (rt [gf 1 s7,gd l0,gf 1 s7,gd l2,gl l3,ed l4 bX,gm s0,gm s1,aw l7 bX,gm s5,gn (.bin .mul (i6 82) l9),aw l8 l10,aw gH (i6 81),gx 228 [l6,jm,Ew] [[.sl 1 [.a]],[.a],[.a]],aL jV bX,ga 11 l1 l5,gf 10 mM,gt 1 og lg] [])) .skip))))) (r1 [gm s5,aw l0 bX,gm l1] 5 2)))))) (sq (rg [gk 2 true s7,gt 2 s4 l0] []) .ret))))⟩
def w1203 {Y:Ctx}(hm:(Y.at 0).bd)(h79:C79 Y)(h228:Hk Y)(h504:Vh Y)(l:List Int)(i:Int)(nm:au)(most:Nat)  (hp0:(0<=i/\i<=100000)/\most<=60/\dJ nm=true):dj Y HZ (fV.D (kG l i nm most)) [.sl 1 (l.map (D.int .i64)),.int .i64 i,.str nm,.int .i64 (most:Nat)]:=by
 show bH _ _ _ [⟨_,_⟩,⟨_,_⟩,⟨_,_⟩,⟨_,_⟩,_,_,_,_,_,_,_,_] _;refine aq ?_;refine aE ?_;refine bz (.agg [.str nm,.aC]) ?_;refine aD ?_;refine aU (.agg [.str nm,.aC]) (he:=bj) ?_;refine aD ?_;refine pK [(0,.buf 2 [.agg [.str [],.aC]]),(3,.buf 2 [.agg [.str nm,.sl 11 []]])] (.id ah (.bf ah (.cons (.ag (.cons (.refl _) (.cons (.nil 11) .nil))) .nil) .nil)) ?_;refine aE ?_;refine bh hm (ι:=(Nat×List dd)) (fun p=>[⟨true,.sl 1 (l.map (D.int .i64))⟩,⟨true,.int .i64 i⟩,⟨true,.str nm⟩,⟨true,.int .i64 (most:Nat)⟩,⟨true,.ptr 0 2 0 0⟩,⟨true,.int .i64 (p.1:Nat)⟩,.un,⟨true,.ptr 1 2 0 0⟩,.un,.un,.un,.un]) (fun p=>[(0,.buf 2 [.agg [.str [],.aC]]),(1,.buf 2 [fV.D ⟨nm,p.2⟩])]) 20 (fun p=>p.1<=(fI l i ((most:Int)+1)).toNat/\p.2=xw l i p.1) (fun p=>(fI l i ((most:Int)+1)).toNat-p.1) (0,[]) ⟨Nat.zero_le _,rfl⟩ (aZ.to [(0,0),(3,1)] ah ah eg (by refine aO.dY ah ah ah ?_;refine aO.nl 3 ah ah rfl ah ?_;exact aO.nil)) ?_;rintro⟨k,es⟩ ⟨hk,he⟩;dsimp only at hk he⊢;have hfr:=dt l i ((most:Int)+1) ae;have hk60:k<=60:=ae;have hel:es.length<=k:=by rw[he];exact uK l i k
 have heg:∀x∈es,xn x:=by rw[he];exact x6 l i k
 refine fS ?_;refine dc (hc:=fun hf=>h228 l i ((most:Nat)+1) ae) ?_;refine aA ?_;refine av (fun hc0=>?_) (fun hc0=>?_)
 ·simp only[bw,aW]at hc0;refine aA ?_;have ho:=dt l (i+1+82*(k:Nat)+80) 4 aG;have hgr:=Dl l i k;refine aE ?_;refine oC ?_;refine aJ ?_;refine oC ?_;refine az ?_;refine ai (hc:=h228 l (i+1+82*(k:Nat)+80) 4 aG) ?_;refine aD ?_;refine ai (hc:=h79 l (i+1+82*(k:Nat)) (1+fI l (i+1+82*(k:Nat)+80) 4) ae ae) ?_;refine aD ?_;refine aU (Rec.D (pe l i k)) (he:=bj) ?_;refine az ?_;by_cases hput:(mT ⟨nm,es⟩ (pe l i k)).2=0
  ·refine cJ (d:=fV.D ⟨nm,es⟩) ?_;refine cJ (d:=Rec.D (pe l i k)) ?_;refine cy (nx':=51) (v:=.tup [.agg [.str nm,.own 52 11 0 (oq ⟨nm,es⟩ (pe l i k)).length],.int .i64 0]) (m':=[(52,.buf 11 ((oq ⟨nm,es⟩ (pe l i k)).map dd.D)),(0,.buf 2 [.agg [.str [],.aC]]),(1,.buf 2 [fV.D ⟨nm,es⟩]),(48,.buf 9 [Rec.D (pe l i k)])]) (hc:=fun K' hK=>h504 ⟨nm,es⟩ (pe l i k) ⟨fun x hx=>(heg x hx).m,hgr.2.2.2.2⟩ _ _ K' (fun h=>absurd hput h) (fun _=>hK)) (hn:=aG) ?_;refine aD ?_;refine gB _ ?_;refine az ?_;refine aU (.agg [.str nm,.own 52 11 0 (oq ⟨nm,es⟩ (pe l i k)).length]) (he:=bj) ?_;refine aH ?_;refine wp_cond (fun hc1=>?_) (fun hc1=>?_)
   ·try simp only[eE]at hc1
    refine aD ?_;refine cJ (d:=.agg [.str nm,.own 52 11 0 (oq ⟨nm,es⟩ (pe l i k)).length]) ?_;refine aU (.agg [.str nm,.own 52 11 0 (oq ⟨nm,es⟩ (pe l i k)).length]) (he:=bj) ?_;refine aA ?_;refine bI (v:=.own 52 11 0 (oq ⟨nm,es⟩ (pe l i k)).length) ?_;refine aD ?_;refine bI (v:=.own 52 11 0 (oq ⟨nm,es⟩ (pe l i k)).length) ?_;refine ll ?_;refine J9 (hb:=fun _=>by simp only[oq,bG,ay,aB];omega) ?_;refine aE ?_;refine oC ?_;refine az ?_;refine ai (hc:=h228 l (i+1+82*(k:Nat)+81) 9 aG) ?_;refine aD ?_;refine jJ es.length (hj:=fun _=>by simp[oq]) (hb:=fun _=>by simp[oq]) ?_;refine aD ?_;refine Ar ((es++[(⟨(pe l i k),lV (pe l i k),gEY l i k⟩:dd)]).map dd.D) (hi:=by simp[oq]) (he:=by rw[bU];exact stY es _ _) ?_;refine bM ?_;rw[show(oq ⟨nm,es⟩ (pe l i k)).length=(es++[(⟨(pe l i k),lV (pe l i k),gEY l i k⟩:dd)]).length by simp[oq]];exact⟨(k+1,es++[⟨(pe l i k),lV (pe l i k),gEY l i k⟩]),⟨dN,by dsimp only;rw[he]at hput⊢;exact(SV hp0.2.2 ae hput).symm⟩,dN,(aZ.fz 52 ah ch (by simp only[oe,kj,m5,oM,pX,cX,Nat.reduceEqDiff,ba,bc,dH,cO,cL,dF,dG,bU,bP,aQ,cn,a7,reduceCtorEq,ay,aB,Nat.reduceAdd,Nat.reduceLeDiff];exact rfl) (by simp only[oe,kj,m5,oM,pX,cX,Nat.reduceEqDiff,ba,bc,dH,cO,cL,dF,dG,bU,bP,aQ,cn,a7,reduceCtorEq,ay,aB,Nat.reduceAdd,Nat.reduceLeDiff];exact rfl) (aZ.to [(0,0),(1,1)] ah ah eg (by refine aO.dY ah ah ah ?_;refine aO.dY ah ah ah ?_;exact aO.nil)))⟩
   exact absurd hc1 aG
  ·refine cJ (d:=fV.D ⟨nm,es⟩) ?_;refine cJ (d:=Rec.D (pe l i k)) ?_;refine cy (nx':=50) (v:=.tup [.agg [.str [],.aC],.int .i64 (mT ⟨nm,es⟩ (pe l i k)).2]) (m':=[(0,.buf 2 [.agg [.str [],.aC]]),(1,.buf 2 [fV.D ⟨nm,es⟩]),(48,.buf 9 [Rec.D (pe l i k)])]) (hc:=fun K' hK=>h504 ⟨nm,es⟩ (pe l i k) ⟨fun x hx=>(heg x hx).m,hgr.2.2.2.2⟩ _ _ K' (fun _=>hK) (fun h=>absurd h hput)) (hn:=aG) ?_;refine aD ?_;refine gB _ ?_;refine az ?_;refine aU (.agg [.str [],.aC]) (he:=bj) ?_;refine aH ?_;refine wp_cond (fun hc1=>?_) (fun hc1=>?_)
   ·exact absurd (of_decide_eq_true hc1) hput
   try simp only[eE]at hc1
   refine bM ?_;exact⟨(k+1,es),⟨dN,by dsimp only;rw[he]at hput⊢;exact(Wj hp0.2.2 ae hput).symm⟩,dN,(aZ.to [(0,0),(1,1)] ah ah eg (by refine aO.dY ah ah ah ?_;refine aO.dY ah ah ah ?_;exact aO.nil))⟩
 simp only[dT,bD]at hc0;have hkf:k=(fI l i ((most:Int)+1)).toNat:=ae;refine aA ?_;refine cJ (d:=fV.D ⟨nm,es⟩) ?_;refine aU (fV.D ⟨nm,es⟩) (he:=bj) ?_;refine az ?_;refine bL (?_);rw[he,hkf];rfl
def G9 (T:List D->D->Prop):Prop:=∀(l:List Int) (i:Int) (nm:au) (most:Nat),((0<=i/\i<=100000)/\most<=60/\dJ nm=true)->T [.sl 1 (l.map (D.int .i64)),.int .i64 i,.str nm,.int .i64 (most:Nat)] (fV.D (kG l i nm most))
def Uc (Y:Ctx):Prop:=G9 (bt Y 1203)
def Fm:aF:=⟨1,25,[⟨1,some (2,true)⟩,⟨2,none⟩,⟨3,none⟩],[[.a,.sl 11 [.a,.a,.a,.a,.a,.a,.sl 3 [.sl 4 [.a,.a,.a,.a],.a,.a],.sl 3 [.a,.a,.a],.sl 2 [.a,.sl 1 [.a]],.a,.a]],[.a],[.a]],(sq (rg [gb 2 (.c (.agg [.str [],.aC])),gm bq,gm bq] [(1,0),(2,1),(3,2)]) (sq (sq (r1 [gm s0,pM l0,cZ l1 (i6 524288)] 4 2) (.cond s4 (sq (rg [gn (.build [.str [],.aC] []),gt 2 s1 l0,gm kn,gm bq] [(2,2),(3,3)]) .ret) .skip)) (sq (r1 [gm s0,gx 252 [l0] bQ,gm l1] 5 2) (sq (sq (r1 [gm s5,gl l0,aL l1 bq] 6 2) (.cond s6 (sq (rg [gn (.build [.str [],.aC] []),gt 2 s1 l0,gm kl,gm bX] [(2,2),(3,3)]) .ret) .skip)) (sq (rg [gm s5,ga 1 l0 bq,gd l1,gx 253 [l2] bQ,gm l3,ge l4 0,ge l4 1,gm l5,gm l6] [(7,7),(8,8)]) (sq (rg [gm s7,gx 254 [l0,(cs [115,104,101,108,102,32])] fH,gm l1,ge l2 0,ge l2 1,gm l3,gm l4] [(10,5),(9,6)]) (sq (sq (r1 [gm s8,jU l0,gm l1,eP 2 s9,cD 2 (.un .not l3),fE l2 l4,gm l5,eP 6 jf,cD 6 (.call 208 [l7] bQ),cD 6 (.un .not l8),fE l6 l9] 11 10) (.cond k9 (sq (rg [gn (.build [.str [],.aC] []),gt 2 s1 l0,gm kl,gm bX] [(2,2),(3,3)]) .ret) .skip)) (sq (r1 [gm jf,gn (.build [.str [],.aC] [(0,1,l0)]),gb 2 (.c (.agg [.str [],.aC])),gt 2 l2 l1] 20 2) (sq (r1 [gm bX] 12 0) (sq .skip (sq (.block 0 (.loop (sq (sq (r1 [gm lv,gm s5,gl l1,aS l0 l2] 13 3) (fB qG 0)) (.block 1 (sq (rg [gm s5,gm lv,ga 1 l0 l1,gd l2,gx 255 [l3] bQ,gm l4,ge l5 0,ge l5 1,ge l5 2,gm l6,gm l7,gm l8] [(22,9),(24,10),(14,11)]) (sq (sq (r1 [gm rN,jU l0] 15 1) (.cond xI (sq (rg [gn (.build [.str [],.aC] []),gm lv,aw l1 bX,gt 2 s1 l0,gm kl,gm l2] [(2,4),(3,5)]) .ret) .skip)) (sq (r1 [gm lv,aw l0 bX,gm l1] 16 2) (sq (.block 2 (.loop (sq (sq (r1 [gm Bo,gm s5,gl l1,aS l0 l2,gm l3,gmt 4 s5,gmt 4 Bo,bY 4 (.ia 1 l5 l6),lr 4 l7,bY 4 (.call 256 [l8] bQ),bY 4 (.un .not l9),eL l4 l10] 17 11) (fB D9 2)) (.block 3 (r1 [gm Bo,aw l0 bX,gm l1] 16 2))))) (sq (rg [gm s5,gm lv,aw l1 bX,gm Bo,gn (.slA 1 l0 (some l2) (some l3)),gx 242 [l4,cse] [[.sl 1 [.a]],[.a]],gx 76 [l5] bQ,gm l6,ge l7 0,ge l7 1,ge l7 2,gb 9 (.c (.agg [.str [],.int .i64 0,.int .i64 0,.int .i64 0,.str [],.str [],.aC,.aC,.aC])),gt 9 gH l8,gm l9,gm l10] [(21,11),(18,13)]) (sq (sq (r1 [gm Hg,aL l0 bq] 19 1) (.cond UN (r1 [gk 2 true Ki,gk 9 true Xw,gm Xx,gx 257 [l0,l1,l2] [[.a,.sl 11 [.a,.a,.a,.a,.a,.a,.sl 3 [.sl 4 [.a,.a,.a,.a],.a,.a],.sl 3 [.a,.a,.a],.sl 2 [.a,.sl 1 [.a]],.a,.a]],[.a,.a,.a,.a,.a,.a,.sl 3 [.sl 4 [.a,.a,.sl 1 [.a],.a],.a,.a],.sl 3 [.a,.a,.a],.sl 2 [.a,.sl 1 [.a]]],[.a]],gm l3] 18 4) .skip)) (sq (sq (r1 [gm Hg,b7 l0 bq] 23 1) (.cond s23 (sq (rg [gn (.build [.str [],.aC] []),gm Hg,gm lv,aw l2 bX,gt 2 s1 l0,gm l1,gm l3] [(2,5),(3,6)]) .ret) .skip)) (sq (rg [gf 1 Ki,gd l0,gk 9 true Xw,gm Xx,gm Xa,gn (.build [.str [],.int .i64 0,.int .i64 0,.int .i64 0,.str [],.str [],.aC,.aC,.aC,.int .u64 0,.bool false] [(0,9,l2),(9,1,l3),(10,1,l4)]),gn (.bsl 11 (.agg [.str [],.int .i64 0,.int .i64 0,.int .i64 0,.str [],.str [],.aC,.aC,.aC,.int .u64 0,.bool false]) 1 [(0,l5)]),gn (.app 11 l1 l6),gf 1 Ki,gt 1 l8 l7] []) (sq (r1 [gm Bo,gm l0] 12 1) (.exit 1)))))))))))))) (sq (rg [gk 2 true Ki,gt 2 s1 l0,gm bq,gm bq] [(2,2),(3,3)]) .ret))))))))))))⟩
def w86 {Y:Ctx}(hm:(Y.at 0).bd)(h76:C76 Y)(h208:LW Y)(h242:OD Y)(h252:XS Y)(h253:R9 Y)(h254:U6 Y)(h255:XT Y)(h256:XU Y)(h257:XV Y)(s:au)  (hp0:s.length<=1048576):dj Y Fm (.tup [fV.D (kV s).1,.int .i64 (kV s).2.1,.int .i64 (kV s).2.2]) [.str s]:=by
 show bH _ _ _ [⟨_,_⟩,_,_,_,_,_,_,_,_,_,_,_,_,_,_,_,_,_,_,_,_,_,_,_,_] _;refine aq ?_;refine bM ?_;intro u0;refine az ?_;refine av (fun hc0=>?_) (fun hc0=>?_)
 ·simp only[eE]at hc0;have hz:=N0 (s:=s) ae;refine az ?_;refine dr _ ?_;refine aJ ?_;refine bL (eW ?_ (ar (D.int .i64) ?_) (ar (D.int .i64) ?_));all_goals
   rw[hz];first|done|rfl
 simp only[eE]at hc0;have g0:¬524288<s.length:=ae;refine aA ?_;refine ai (hc:=h252 s hp0) ?_;refine aH ?_;intro u1;refine az ?_;refine av (fun hc1=>?_) (fun hc1=>?_)
 ·simp only[eE]at hc1;have hz:=N1 g0 ae;refine az ?_;refine dr _ ?_;refine aJ ?_;refine bL (eW ?_ (ar (D.int .i64) ?_) (ar (D.int .i64) ?_));all_goals
   rw[hz];first|done|rfl
 simp only[eE]at hc1;have g1:¬(cw s).length=0:=ae;have g2:=DP (s:=s) (i:=0) ae;have g3:=qj (cw s)[0]!;refine aA ?_;refine ca 0 (hb:=fun _=>ae) ?_;refine b8 (v:=.str (cw s)[0]!) (hi:=fun _=>ae) ?_;refine ai (hc:=h253 (cw s)[0]! ae) ?_;refine bM ?_;refine ai (hc:=h254 (bF (cw s)[0]!).1 [115,104,101,108,102,32] ae aG) ?_;refine A1 ?_;refine dc (hc:=fun hf=>h208 (cE (bF (cw s)[0]!).1 [115,104,101,108,102,32]).1) ?_;refine aA ?_;refine av (fun hc2=>?_) (fun hc2=>?_)
 ·simp only[eE]at hc2;have hz:=NZ g0 g1 (by rintro⟨⟨h1,h2⟩,h3⟩;rcases hc2 with(h|h)|h<;>simp_all);refine az ?_;refine dr _ ?_;refine aJ ?_;refine bL (eW ?_ (ar (D.int .i64) ?_) (ar (D.int .i64) ?_));all_goals
   rw[hz];first|done|rfl
 simp only[eE]at hc2;have hz:=NY g0 g1 hc2;rw[NR]at hz;refine aA ?_;refine bz (.agg [.str (cE (bF (cw s)[0]!).1 [115,104,101,108,102,32]).1,.aC]) ?_;refine aD ?_;refine aU (.agg [.str (cE (bF (cw s)[0]!).1 [115,104,101,108,102,32]).1,.aC]) (he:=bj) ?_;refine aJ ?_;refine bh hm (ι:=(List dd×Nat)) (fun p=>[⟨true,.str s⟩,⟨true,.ptr 0 2 0 0⟩,.un,.un,.un,⟨true,.sl 1 ((cw s).map D.str)⟩,.un,.un,.un,.un,.un,.un,⟨true,.int .i64 (p.2:Nat)⟩,.un,.un,.un,.un,.un,.un,.un,⟨true,.ptr 1 2 0 0⟩,.un,.un,.un,.un]) (fun p=>[(0,.buf 2 [.agg [.str [],.aC]]),(1,.buf 2 [.agg [.str (cE (bF (cw s)[0]!).1 [115,104,101,108,102,32]).1,.own 2 11 0 (p.1).length]]),(2,.buf 11 ((p.1).map dd.D))]) 60 (fun p=>(1<=p.2/\p.2<=(cw s).length)/\(∀x∈p.1,x.r.v.sm)/\p.1.length<=64/\kV s=E2 (cE (bF (cw s)[0]!).1 [115,104,101,108,102,32]).1 (uW (cw s) p.1 p.2)) (fun p=>(cw s).length-p.2) ([],1) ⟨dN,aT,aT,hz⟩ (aZ.to [(0,0),(41,1)] ah ah n4 (by refine aO.dY ah ah ah ?_;refine aO.ni 41 ah ah (by exact⟨_,_,rfl,⟨_,rfl,⟨_,_,rfl,⟨rfl,rfl⟩,⟨_,_,rfl,Or.inr ⟨_,_,_,rfl⟩,rfl⟩⟩⟩,rfl⟩) ?_;refine aO.mt ah ah ah ah ?_;exact aO.nil)) ?_;rintro⟨es,k⟩ ⟨hk,hes,he64,hr⟩;dsimp only at hk hes he64 hr⊢;refine aJ ?_;intro u2;refine az ?_;refine cI (fun hc3=>?_) fun hc3=>?_
 ·refine aA ?_;have g4:=DP (s:=s) (i:=k) ae;refine az ?_;refine ca k (hb:=fun _=>ae) ?_;refine b8 (v:=.str (cw s)[k]!) (hi:=fun _=>ae) ?_;refine ai (hc:=h255 (cw s)[k]! ae) ?_;refine na ?_;refine av (fun hc4=>?_) (fun hc4=>?_)
  ·simp only[eE]at hc4;have hz2:=IP (es:=es) (show k<(cw s).length by omega) hc4;refine az ?_;refine dr _ ?_;refine cW ?_;refine bL (eW ?_ (ar (D.int .i64) ?_) (ar (D.int .i64) ?_));all_goals
    rw[hr,hz2,uG aG];first|done|rfl
  simp only[eE]at hc4;have hz2:=NQ (es:=es) (show k<(cw s).length by omega) hc4;refine aH ?_;refine bh hm (ι:=Nat) (fun j=>[⟨true,.str s⟩,⟨true,.ptr 0 2 0 0⟩,.un,.un,.un,⟨true,.sl 1 ((cw s).map D.str)⟩,.un,.un,.un,.un,.un,.un,⟨true,.int .i64 (k:Nat)⟩,.un,.un,.un,⟨true,.int .i64 (j:Nat)⟩,.un,.un,.un,⟨true,.ptr 1 2 0 0⟩,.un,⟨true,.int .u64 (iF (cw s)[k]!).1⟩,.un,⟨true,.bool (iF (cw s)[k]!).2.1⟩]) (fun _=>[(0,.buf 2 [.agg [.str [],.aC]]),(1,.buf 2 [.agg [.str (cE (bF (cw s)[0]!).1 [115,104,101,108,102,32]).1,.own 2 11 0 (es).length]]),(2,.buf 11 ((es).map dd.D))]) 100 (fun j=>(k+1<=j/\j<=(cw s).length)/\vZ (cw s) (k+1)=sM (fun j=>vG (cw s)[j]!) j (cw s).length) (fun j=>(cw s).length-j) (k+1) ⟨ae,rfl⟩ (aZ.to [(0,0),(1,1),(2,2)] ah ah n4 (by(first|refine aO.dY ah ah ch ?_|refine aO.jG ah ah ah ?_|refine aO.lG ah ah ah ah ?_);(first|refine aO.dY ah ah ch ?_|refine aO.jG ah ah ah ?_|refine aO.lG ah ah ah ah ?_);(first|refine aO.dY ah ah ch ?_|refine aO.jG ah ah ah ?_|refine aO.lG ah ah ah ah ?_);exact aO.nil)) ?_;rintro j ⟨hj,hn⟩;refine aJ ?_;intro u3;refine aE ?_;refine ca j (hb:=fun hf=>by simp at hf;omega) ?_;refine b8 (v:=.str (cw s)[j]!) (hi:=fun hf=>by simp at hf;omega) ?_;refine dc (hc:=fun hf=>h256 (cw s)[j]! (by have:=DP (s:=s) (i:=j) (by simp at hf;omega);omega)) ?_;refine aA ?_;refine av (fun hc5=>?_) (fun hc5=>?_)
  ·simp only[eE]at hc5;refine cW ?_;exact⟨(j+1),⟨ae,by rw[hn,Kj ae hc5.2]⟩,ae,(aZ.to [(0,0),(1,1),(2,2)] ah ah n4 (by(first|refine aO.dY ah ah ch ?_|refine aO.jG ah ah ah ?_|refine aO.lG ah ah ah ah ?_);(first|refine aO.dY ah ah ch ?_|refine aO.jG ah ah ah ?_|refine aO.lG ah ah ah ah ?_);(first|refine aO.dY ah ah ch ?_|refine aO.jG ah ah ah ?_|refine aO.lG ah ah ah ah ?_);exact aO.nil))⟩
  simp only[eE]at hc5;have hnj:vZ (cw s) (k+1)=j:=by
   rw[hn];rcases hc5 with h|h
   ·exact AE ae
   ·by_cases hjl:j<(cw s).length
    ·exact Gt hjl h
    ·exact AE ae
  rw[hnj]at hz2;have hsm:=Rc (aP [] (slice (cw s) (k+1) j));refine aY ?_;refine Q9 (k+1) j ?_;refine ai (v:=.str (aP [] (slice (cw s) (k+1) j))) (hc:=h242 (slice (cw s) (k+1) j) [] (by simp only[slice,mV,fj];have:=QH s;omega) aG (fun t ht=>by have:=JZ (N4 ht);omega)) ?_;refine ai (hc:=h76 (aP [] (slice (cw s) (k+1) j))) ?_;refine aD ?_;refine gB (Rec.D _) ?_;refine aA ?_;refine aU (Rec.D (eG (aP [] (slice (cw s) (k+1) j))).1) (he:=bj) ?_;refine bM ?_;refine av (fun hc6=>?_) (fun hc6=>?_)
  ·simp only[eE]at hc6;refine aD ?_;refine cJ (d:=.agg [.str (cE (bF (cw s)[0]!).1 [115,104,101,108,102,32]).1,.own 2 11 0 es.length]) ?_;refine cJ (d:=Rec.D (eG (aP [] (slice (cw s) (k+1) j))).1) ?_;refine aD ?_;refine ai (hc:=h257 ⟨(cE (bF (cw s)[0]!).1 [115,104,101,108,102,32]).1,es⟩ (eG (aP [] (slice (cw s) (k+1) j))).1 (iF (cw s)[k]!).1 ⟨hsm,hes⟩) (ha:=fun _=>ar (fun d=>[d,Rec.D (eG (aP [] (slice (cw s) (k+1) j))).1,D.int .u64 (iF (cw s)[k]!).1]) (Xm (nm:=(cE (bF (cw s)[0]!).1 [115,104,101,108,102,32]).1) (es:=es) (fun _=>rfl) ah)) (hp:=fun _=>⟨T2 (nm:=(cE (bF (cw s)[0]!).1 [115,104,101,108,102,32]).1) (es:=es) (fun _=>⟨rfl,rfl,rfl,rfl,rfl,rfl,rfl,rfl,rfl,rfl,rfl,rfl⟩) ah,⟨rfl,rfl,rfl,rfl,rfl,rfl,rfl,rfl,rfl,rfl⟩,rfl,trivial⟩) ?_;refine aY ?_;refine av (fun hc7=>?_) (fun hc7=>?_)
   ·simp only[eE]at hc7;rw[OV hc6 hc7]at hz2;refine az ?_;refine dr _ ?_;refine hX ?_;refine bL (eW ?_ (ar (D.int .i64) ?_) (ar (D.int .i64) ?_));all_goals
     rw[hr,hz2,ax (by assumption),uG (by assumption)];first|done|rfl
   simp only[eE]at hc7;rw[Ss hc6 hc7]at hz2;have hlt:=MB hc7;refine aA ?_;refine bI (v:=.own 2 11 0 es.length) ?_;refine cJ (d:=Rec.D (eG (aP [] (slice (cw s) (k+1) j))).1) ?_;refine az ?_;refine bz (dd.D (⟨(eG (aP [] (slice (cw s) (k+1) j))).1,(iF (cw s)[k]!).1,(iF (cw s)[k]!).2.1⟩:dd)) ?_;refine de [dd.D (⟨(eG (aP [] (slice (cw s) (k+1) j))).1,(iF (cw s)[k]!).1,(iF (cw s)[k]!).2.1⟩:dd)] ?_;refine jX (q:=dd.D) (xs:=es) (e:=(⟨(eG (aP [] (slice (cw s) (k+1) j))).1,(iF (cw s)[k]!).1,(iF (cw s)[k]!).2.1⟩:dd)) (hb:=ae) ?_;refine aD ?_;refine aU (.agg [.str (cE (bF (cw s)[0]!).1 [115,104,101,108,102,32]).1,.own 143 11 0 (es++[(⟨(eG (aP [] (slice (cw s) (k+1) j))).1,(iF (cw s)[k]!).1,(iF (cw s)[k]!).2.1⟩:dd)]).length]) (he:=bj) ?_;refine bM ?_;exact⟨(es++[(⟨(eG (aP [] (slice (cw s) (k+1) j))).1,(iF (cw s)[k]!).1,(iF (cw s)[k]!).2.1⟩:dd)],j),⟨dN,(fun x hx=>(List.mem_append.1 hx).elim (hes x) (fun hx=>by rw[cN.1 hx];exact hsm.1.2)),by simp only[bG,ay,aB];omega,by rw[hr,hz2,aj (fun h=>h rfl)]⟩,dN,(aZ.to [(0,0),(1,1),(143,2)] ah ah n4 (by(first|refine aO.dY ah ah ch ?_|refine aO.jG ah ah ah ?_|refine aO.lG ah ah ah ah ?_);refine aO.jG ah ah ah ?_;refine aO.nl 143 ah ah rfl (cg (fun _=>rfl) _) ?_;exact aO.nil))⟩
  simp only[eE]at hc6;rw[OU hc6]at hz2;refine aH ?_;refine av (fun hc7=>?_) (fun hc7=>?_)
  ·simp only[eE]at hc7;refine az ?_;refine dr _ ?_;refine hX ?_;refine bL (eW ?_ (ar (D.int .i64) ?_) (ar (D.int .i64) ?_));all_goals
    rw[hr,hz2,ax (by assumption),uG (by assumption)];first|done|rfl
  simp only[eE]at hc7;exact absurd (by simpa using hc7) hc6
 refine az ?_;refine ff 2 ?_;refine aD ?_;refine cJ (d:=fV.D ⟨(cE (bF (cw s)[0]!).1 [115,104,101,108,102,32]).1,es⟩) ?_;refine aU (fV.D ⟨(cE (bF (cw s)[0]!).1 [115,104,101,108,102,32]).1,es⟩) (he:=bj) ?_;refine aE ?_;refine bL (eW ?_ (ar (D.int .i64) ?_) (ar (D.int .i64) ?_));all_goals
  rw[hr,NS ae];first|done|rfl
def RZ (T:List D->D->Prop):Prop:=∀(s:au),(s.length<=1048576)->T [.str s] (.tup [fV.D (kV s).1,.int .i64 (kV s).2.1,.int .i64 (kV s).2.2])
def C86 (Y:Ctx):Prop:=RZ (bt Y 86)
section
section
variable {Y:Ctx} {draw:Bool} {r:List GI} {env rs:List bR} {nx:Nat} {m:List (Nat×bO)} {K:List bR->St->Prop} {g:Option (Nat×Bool)} {f:Bool}
def r_mn {x y:Src}{fx fy:Bool}{k k2:IntKind}{a b:Int}(v:Int)(h:aI Y draw r env (⟨f,.int k v⟩::rs) nx m K)(hg:GF rs g f:=by first|exact rfl|exact⟨_,_,rfl,rfl⟩)(hx:cB env rs x=⟨fx,.int k a⟩:=by exact rfl)(hy:cB env rs y=⟨fy,.int k2 b⟩:=by exact rfl)(kx:f=true->fx=true:=by first|exact fun _=>rfl|exact fun h=>h|(intro h;simp_all))(ky:f=true->fy=true:=by first|exact fun _=>rfl|exact fun h=>h|(intro h;simp_all))(hv:f=true->(if b<a then b else a)=v):aI Y draw (⟨.mn x y,g⟩::r) env rs nx m K:=
 bN rfl hg _ (fun hf=>by simp[aN.dZ,hx,hy,kx hf,ky hf]) (fun hf=>by simp only[aN.val,hx,hy];rw[hv hf]) (fun _=>h)
end
end
end Go.Abs
section
namespace Go.Abs
def S8:∀p,p<16->nU (iG p).toNat=true:=aG
def TQ {n:Int}{j p:Nat}(hp:p<16):kN ((ei n).set j (iG p))=true:=by
 refine(sx _).2 ⟨by simp[gu],fun c hc=>?_⟩;rcases List.mem_or_eq_of_mem_set hc with h|h
 ·exact wz n c h
 ·rw[h];exact S8 p hp
def vo:au:=[115,104,101,108,102,32,111,110,101,10,101,110,116,114,121,32]
def r0 (x:dd):au:=(if x.off=true then [32]++xN++[10]else [32]++TW++[10])++(c7 x.r).1
def rU (x:dd):eI ⟨cM,[x]⟩=vo++(ei x.sum++r0 x):=by
 unfold eI r0;rw[List.map_cons,List.map_nil,List.flatten_cons,List.flatten_nil,gh,Dh];simp only[dS];rfl
def Ry {x:dd}(hx:xn x)(hs:iT ⟨cM,[x]⟩=true){j p:Nat}(hj:j<16)(hp:p<16):
  kV ((eI ⟨cM,[x]⟩).set (16+j) (iG p))=if(eI ⟨cM,[x]⟩)[16+j]! =iG p then(⟨cM,[x]⟩,0,0)else(pF,13,2):=by
 have hl:=sC hs;have h16:vo.length=16:=rfl;have ht:=gu x.sum;have e1:(eI ⟨cM,[x]⟩).set (16+j) (iG p)=vo++((ei x.sum).set j (iG p)++r0 x):=by
  rw[rU,List.set_append_right _ _ ae,h16,Nat.add_sub_cancel_left,List.set_append_left _ _ ae]
 have e2:(eI ⟨cM,[x]⟩)[16+j]! =(ei x.sum)[j]! :=by
  rw[rU];have:=Dq vo (ei x.sum) (r0 x) j ae;rw[h16]at this;exact this
 rw[e2];have hr:=TQ (n:=x.sum) (j:=j) hp;have hrt:=I5 hr;obtain⟨hr1,hr2⟩:=FX hr;generalize n6 ((ei x.sum).set j (iG p))=n' at hrt hr1 hr2;have e3:vo++((ei x.sum).set j (iG p)++r0 x)=eI ⟨cM,[{x with sum:=n'}]⟩:=by rw[rU,<-hrt];rfl
 rw[e1];split
 ·rename_i hd;have:(ei x.sum).set j (iG p)=ei x.sum:=by
   apply List.ext_getElem aT;intro i h1 h2;rw[List.getElem_set];split
   ·rename_i he;subst he;rw[<-hd];exact getElem!_pos (ei x.sum) _ h2
   ·rfl
  rw[this,<-rU,DW];exact AF (by simpa using hx) hs hl
 ·rename_i hd;have hne:¬lV x.r=n':=by
   rw[hx.s];intro he;apply hd;rw[<-he]at hrt
   conv=>lhs;rw[hrt]
   rw[getElem!_pos ((ei x.sum).set j (iG p)) j (by simp[ht,hj]),List.getElem_set_self]
  have hlen:(eI ⟨cM,[{x with sum:=n'}]⟩).length<=524288:=by
   rw[<-e3,<-e1,List.length_set];exact hl
  rw[e3,DW];have hcx:∀t∈fX {x with sum:=n'},jy t:=by
   intro t ht;rcases bV.1 ht with rfl|ht
   ·exact fD fun w hw=>EI (Df _ w hw)
   ·exact rm hx.w t ht
  have e4:eI ⟨cM,[{x with sum:=n'}]⟩=iY (mq cM::fX {x with sum:=n'}):=by
   unfold eI mq;rw[lA,List.map_cons,List.map_nil,List.flatten_cons,List.flatten_nil,gh,EZ (x:={x with sum:=n'}) hx.c];rfl
  rw[e4]at hlen⊢;rw[Cq tK hcx hlen];have:=Fl (L:=mq cM::fX {x with sum:=n'}) (pre:=[mq cM]) (R:=[]) (x:={x with sum:=n'}) aT (.inl rfl) hx.w ⟨hr1,hr2⟩ (fX {x with sum:=n'}).length [];have hpl:([mq cM]:List au).length=1:=rfl;rw[hpl]at this;rw[this];have ha:pO [] (fP x.r) n' x.off=(13,[]):=by
   unfold pO;rw[Co hx.w hx.c];have hf:kE [] x.r n'=13:=by unfold kE;rw[ax hne]
   simp[hf]
  simp only;rw[ha,ax (show ¬(13:Int)=0 by decide),uG (show ¬(13:Int)=0 by decide)];rfl
end Go.Abs
namespace Go.Abs
def MK (l:List Int)(i:Int){n:Nat}(h:n<=64):lP ⟨cM,(kG l i cM n).es.take (min (kG l i cM n).es.length 1)⟩=(eI ⟨cM,(kG l i cM n).es.take (min (kG l i cM n).es.length 1)⟩,0)/\(¬(kG l i cM n).es.length=0->
  33<=(eI ⟨cM,(kG l i cM n).es.take (min (kG l i cM n).es.length 1)⟩).length/\(eI ⟨cM,(kG l i cM n).es.take (min (kG l i cM n).es.length 1)⟩).length<=524288/\
  ∀j,j<16->∀p,p<16->(kV ((eI ⟨cM,(kG l i cM n).es.take (min (kG l i cM n).es.length 1)⟩).set (16+j) (iG p))).2=if(eI ⟨cM,(kG l i cM n).es.take (min (kG l i cM n).es.length 1)⟩)[16+j]! =iG p then(0,0)else(13,2)):=by
 have hb:iT ⟨cM,(kG l i cM n).es.take (min (kG l i cM n).es.length 1)⟩=true:=NX (nm:=cM) (sf (l:=l) (i:=i) (n:=n) tK h) _;have hall:∀x∈(kG l i cM n).es,xn x:=Dp (nm:=cM)
 refine⟨Cl hb,fun hne=>?_⟩;generalize (kG l i cM n).es=es at*
 match es,hne with
 |x::r,_=>
  have e:(x::r).take (min (x::r).length 1)=[x]:=by
   rw[show min (x::r).length 1=1 by simp];rfl
  rw[e]at hb⊢;refine⟨?_,sC hb,fun j hj p hp=>?_⟩
  ·rw[rU];simp only[bG,gu,r0,show vo.length=16 from rfl];split<;>simp only[bG,ay,aB]<;>omega
  ·rw[Ry (hall x (.head _)) hb hj hp];split<;>rfl
def st8 (s:au)(i:Nat)(c:UInt8)(d:D)(h:d=.int .u8 c.toNat):(s.map fun c=>D.int .u8 c.toNat).set i (tZ ((s.map fun c=>D.int .u8 c.toNat).getD i .any) 1 1 0 d)=(s.set i c).map fun c=>D.int .u8 c.toNat:=by
 subst h;rw[List.map_set];by_cases hi:i<s.length
 ·have:(s.map fun c=>D.int .u8 c.toNat).getD i .any=.int .u8 (s[i]'hi).toNat:=by simp[List.getD,hi]
  rw[this];rfl
 ·rw[List.set_eq_of_length_le cH,List.set_eq_of_length_le cH]
end Go.Abs
end
namespace Go.Abs
def xB:aF:=⟨3,14,[⟨3,none⟩],bQ,(sq (r1 [gm dM] 3 0) (sq (r1 [gm s0,gx 1203 [l0,bq,(cs [111,110,101]),sg] [[.sl 1 [.a]],[.a],[.a],[.a]],gb 2 (.c (.agg [.str [],.aC])),gt 2 l2 l1] 4 2) (sq (rg [gf 1 s4,gd l0,gf 1 s4,gd l2,gl l3,gn (.mn l4 bX),gn (.slA 11 l1 none (some l5)),gn (.build [.str [],.aC] [(0,1,(cs [111,110,101])),(1,1,l6)]),gx 251 [l7] [[.a,.sl 11 [.a,.a,.a,.a,.a,.a,.sl 3 [.sl 4 [.a,.a,.a,.a],.a,.a],.sl 3 [.a,.a,.a],.sl 2 [.a,.sl 1 [.a]],.a,.a]]],gm l8,ge l9 0,ge l9 1,gm l10,gm gH] [(6,12),(5,13)]) (sq (sq (r1 [gf 1 s4,gd l0,gl l1,aL l2 bq,gm l3,eP 4 s5,cD 4 (eX l5 bq),fE l4 l6,gm l7,eP 8 s6,cD 8 (.lenS l9),cD 8 (nO l10 (i6 33)),fE l8 gH] 7 12) (.cond s7 (sq (r1 [gx 85 [] [],gm l0,gmt 1 s5,bY 1 (cQ l2 bq),eL l1 l3,gm l4,mL 5 1 s4,lr 5 l6,bY 5 (.len l7),bY 5 (cQ l8 bq),eL l5 l9,gm l10] 3 11) .ret) .skip)) (sq (r1 [gm s6,gn (.s2b l0),gm l1] 8 2) (sq (r1 [gm s1,gx 478 [l0,(i6 16)] fH,aw (i6 16) l1,gm l2] 9 3) (sq (r1 [gm s2,gx 478 [l0,(i6 16)] fH,HN (cs [48,49,50,51,52,53,54,55,56,57,97,98,99,100,101,102]) l1,gm l2] 10 3) (sq (r1 [gm s8,gm s9,ga 1 l0 l1,gd l2,gm jf,aL l3 l4,gm l5] 11 6) (sq (rg [gm s8,gm s9,gm jf,ga 1 l0 l1,gt 1 l3 l2] []) (sq (rg [gm s8,gn (.b2s l0),gx 86 [l1] bQ,gm l2,ge l3 0,ge l3 1,ge l3 2,gb 2 (.c (.agg [.str [],.aC])),gt 2 l7 l4,gm l5,gm l6] [(12,9),(13,10)]) (sq (r1 [gx 85 [] [],gm l0,gmt 1 k9,gmt 1 l2,gmt 3 lv,bY 3 (cQ l4 bq),gat 1 l3 l5,gmt 1 l6,eP 7 k9,cD 7 (.un .not l8),eP 7 l9,gmt 10 lv,bY 10 (cQ gH (i6 13)),BW 7 l10 jm,eP 7 jV,gmt 14 qG,bY 14 (cQ mM kl),BW 7 lg og,Uy 1 l7 rl,eL l1 sX,gm uh] 3 20) .ret)))))))))))⟩
def w1199 {Y:Ctx}(hm:(Y.at 0).bd)(h85:C85 Y)(h86:C86 Y)(h251:U5 Y)(h478:LZ Y)(h1203:Uc Y)(l:List Int)(a:Int)(b:Int)   :dj Y xB (.bool true) [.sl 1 (l.map (D.int .i64)),.int .i64 a,.int .i64 b]:=by
 show bH _ _ _ [⟨_,_⟩,⟨_,_⟩,⟨_,_⟩,_,_,_,_,_,_,_,_,_,_,_] _;refine aq ?_;refine aE ?_;refine ai (hc:=h1203 l 0 cM 4 (by refine⟨ae,ae,tK⟩)) ?_;refine aD ?_;refine aU (fV.D (kG l 0 cM 4)) (he:=bj) ?_;refine aD ?_;have hg:=gSh_G l 0 (n:=4) aG;have hg1:=MK l 0 (n:=4) aG;refine az ?_;refine bI (v:=.sl 11 ((kG l 0 cM 4).es.map dd.D)) ?_;refine aD ?_;refine bI (v:=.sl 11 ((kG l 0 cM 4).es.map dd.D)) ?_;refine aD ?_;intro u0;refine r_mn ((min (kG l 0 cM 4).es.length 1:Nat):Int) (hv:=fun _=>by split<;>omega) ?_;refine pB (q:=dd.D) (min (kG l 0 cM 4).es.length 1) (hb:=fun _=>ae) ?_;refine bz (fV.D (⟨cM,(kG l 0 cM 4).es.take (min (kG l 0 cM 4).es.length 1)⟩:fV)) ?_;refine ai (v:=.tup [.str (eI (⟨cM,(kG l 0 cM 4).es.take (min (kG l 0 cM 4).es.length 1)⟩:fV)),.int .i64 0]) (hc:=by have:=h251 (⟨cM,(kG l 0 cM 4).es.take (min (kG l 0 cM 4).es.length 1)⟩:fV) (fun x hx=>hg.m x (lY hx));rw[hg1.1]at this;exact this) ?_;refine cW ?_;refine bI (v:=.sl 11 ((kG l 0 cM 4).es.map dd.D)) ?_;refine aD ?_;intro u1;refine aY ?_;refine ll ?_;refine aA ?_;refine av (fun hc0=>?_) (fun hc0=>?_)
 ·simp only[eE]at hc0;have hz:(kG l 0 cM 4).es.length=0:=by
   refine Classical.byContradiction fun h=>?_
   have h33:=(hg1.2 h).1;rcases hc0 with(h1|h1)|h1
   ·omega
   ·exact absurd trivial h1
   ·omega
  refine az ?_;refine ai (hc:=h85) ?_;refine aH ?_;refine bI (v:=.sl 11 ((kG l 0 cM 4).es.map dd.D)) ?_;refine ll ?_;refine aJ ?_;refine bS ?_;simp[hz]
 have hz:¬(kG l 0 cM 4).es.length=0:=fun h=>by simp[h]at hc0
 obtain⟨h33,hln,hlw⟩:=hg1.2 hz;refine aY ?_;have hj:=j7 a 16 aG;refine aD ?_;refine ai (hc:=h478 a 16 aG) ?_;refine aE ?_;have hp:=j7 b 16 aG;refine aD ?_;refine ai (hc:=h478 b 16 aG) ?_;refine oB (b%16).toNat (hj:=fun _=>ae) (hb:=fun _=>by show _<16;omega) ?_;refine aJ ?_;refine jJ (16+(a%16).toNat) (hj:=fun _=>ae) (hb:=fun _=>ae) ?_;refine qt (q:=fun c:UInt8=>D.int .u8 c.toNat) (xs:=(eI (⟨cM,(kG l 0 cM 4).es.take (min (kG l 0 cM 4).es.length 1)⟩:fV))) (v:=.int .u8 ((eI (⟨cM,(kG l 0 cM 4).es.take (min (kG l 0 cM 4).es.length 1)⟩:fV))[16+(a%16).toNat]!).toNat) (hi:=fun _=>ae) (hv:=fun _=>by rw[bU];rfl) ?_;refine bM ?_;refine jJ (16+(a%16).toNat) (hj:=fun _=>ae) (hb:=fun _=>ae) ?_;refine Ar (((eI (⟨cM,(kG l 0 cM 4).es.take (min (kG l 0 cM 4).es.length 1)⟩:fV)).set (16+(a%16).toNat) (iG (b%16).toNat)).map fun c=>D.int .u8 c.toNat) (hi:=cH) (he:=by rw[bU];exact st8 _ _ _ _ rfl) ?_;refine aA ?_;refine FW ((eI (⟨cM,(kG l 0 cM 4).es.take (min (kG l 0 cM 4).es.length 1)⟩:fV)).set (16+(a%16).toNat) (iG (b%16).toNat)) (he:=fun _=>sQ.all ah aT) (hs:=fun _=>rfl) ?_;refine ai (hc:=h86 ((eI (⟨cM,(kG l 0 cM 4).es.take (min (kG l 0 cM 4).es.length 1)⟩:fV)).set (16+(a%16).toNat) (iG (b%16).toNat)) (by rw[List.length_set];omega)) ?_;refine aD ?_;refine gB _ ?_;refine aA ?_;refine aU (fV.D (kV ((eI (⟨cM,(kG l 0 cM 4).es.take (min (kG l 0 cM 4).es.length 1)⟩:fV)).set (16+(a%16).toNat) (iG (b%16).toNat))).1) (he:=bj) ?_;refine aE ?_;refine ai (hc:=h85) ?_;refine R1 ?_;refine bS ?_;have hw:=hlw (a%16).toNat ae (b%16).toNat ae;have hq:decide (((eI (⟨cM,(kG l 0 cM 4).es.take (min (kG l 0 cM 4).es.length 1)⟩:fV))[16+(a%16).toNat]!.toNat:Int)=at8 ([48,49,50,51,52,53,54,55,56,57,97,98,99,100,101,102]:au) (b%16).toNat)=decide ((eI (⟨cM,(kG l 0 cM 4).es.take (min (kG l 0 cM 4).es.length 1)⟩:fV))[16+(a%16).toNat]! =(iG (b%16).toNat)):=gT.2 ⟨fun h=>iL.1 (Int.ofNat.inj h),fun h=>by rw[h];rfl⟩;by_cases he:(eI (⟨cM,(kG l 0 cM 4).es.take (min (kG l 0 cM 4).es.length 1)⟩:fV))[16+(a%16).toNat]! =(iG (b%16).toNat)
 ·rw[ax he]at hw;rw[hq,hw,cz he];rfl
 ·rw[aj he]at hw;rw[hq,hw,dk he];rfl
def G8 (T:List D->D->Prop):Prop:=∀(l:List Int) (a:Int) (b:Int),T [.sl 1 (l.map (D.int .i64)),.int .i64 a,.int .i64 b] (.bool true)
def bx {p:Prop}(h:p:=by((repeat intro _);exact Xv HE (.inl (by assumption)) fun T hT=>(by apply hT<;>assumption))):p:=h
def bo {t:List (Nat×qw)}{key u q:Nat}:((under t key u).at q).bd:=AO t key u q
section
def V6:List D->Nat
 |_::.int _ (.ofNat 4)::_=>3
 |_=>1
def A124 (T:RT):Prop:=KC T/\Ha T
def Xz (T:FT):Prop:=∀(r:Ld),(r.sm)->T (Ld.D r) [] (.tup [Rec.D (iJ r.rest).1,.bool (tS r.rest).isSome]) (Ld.D (r.to (iJ r.rest).2))
def Zb:y5 (oP Xz):=SE
def XA (T:FT):Prop:=∀(r:Ld) (w:au) (n:Nat) (op:Bool),(r.sm)->(n<=1000)->(op=true->1<=n)->T (Ld.D r) [.str w,.int .i64 (n:Nat),.bool op] (.tup [Bj (cl w n op r.rest),.bool (cl w n op r.rest).isSome]) (Ld.D (r.after (cl w n op r.rest)))
def Zc:y5 (oP XA):=SE
def XB (T:FT):Prop:=∀(r:Ld),(r.sm)->T (Ld.D r) [] (cb.D (e8 r.rest).1) (Ld.D (r.to (e8 r.rest).2))
def Zd:y5 (oP XB):=SE
def XC (T:FT):Prop:=∀(r:Ld),(r.sm)->T (Ld.D r) [] (.str (cx r.rest).1) (Ld.D (r.to (cx r.rest).2))
def Ze:y5 (oP XC):=SE
def u811:List D->Nat:=fun ds=>2*(match ds.getD 1 .any with| .int _ i=>i.toNat|_=>0)
def u951:List D->Nat:=fun ds=>2*(match ds.getD 1 .any with| .int _ i=>i.toNat|_=>0)+1
def u1036:List D->Nat:=fun ds=>2*(match ds.getD 1 .any with| .int _ i=>i.toNat|_=>0)
def Za:Zf (DB G8):=HE
def aX:List (Nat×qw):=[(70,rP 14 Ep),(71,rP 14 Ep),(72,rP 15 Er),(73,rP 15 Er),(74,rP 16 Es),(75,rP 16 Es),(76,rP 15 RW),(79,rP 10 RX),(85,rP 19 RY),(86,rP 18 RZ),(124,rP 1 A124),(208,rP 1 yp),(209,rP 4 yq),(210,rP 13 yr),(211,rP 11 KD),(212,rP 6 yt),(213,rP 3 yE),(214,rP 3 KE),(215,rP 6 yu),(216,rP 2 yp),(217,rP 4 yq),(218,rP 13 KF),(219,rP 6 yu),(220,rP 2 yv),(221,rP 2 yv),(222,rF 7 Xz),(227,rP 2 KG),(228,rP 2 KH),(229,rP 9 KI),(230,rP 7 KJ),(231,rP 3 KK),(232,rP 2 KL),(239,rP 2 KM),(242,rP 1 KN),(244,rP 1 KO),(245,rP 1 KP),(246,rP 2 KQ),(249,rP 1 KR),(251,rP 18 KS),(252,rP 3 KT),(253,rP 2 KU),(254,rP 1 KV),(255,rP 3 KW),(256,rP 3 KX),(257,rP 17 KY),(295,rP 5 yw),(316,rP 5 yD),(331,rP 1 KZ),(336,rP 1 sE),(349,rP 1 yx),(353,rP 17 yy),(357,rP 2 yx),(358,rP 17 yy),(424,rP 5 yw),(440,rP 1 yz),(441,rP 3 K0),(442,rP 2 K1),(443,rP 12 yA),(444,rP 10 yK),(445,rP 5 yB),(446,rP 5 yC),(447,rP 1 yW),(448,rP 2 yP),(449,rP 2 yX),(450,rG 2 Vb),(451,rP 5 yD),(452,rG 1 Sa),(453,rP 1 K2),(454,rP 1 K3),(455,rP 1 yz),(456,rP 3 K4),(457,rP 12 yr),(458,rP 11 K5),(459,rP 5 yE),(460,rP 4 K6),(461,rP 2 K7),(462,rP 1 K8),(463,rP 1 K9),(464,rP 1 La),(465,rFG 3 XA Jb),(466,rP 6 Lb),(467,rF 5 XB),(468,rF 4 XC),(469,rP 1 Lc),(470,rP 1 yI),(478,rP 1 Lg),(479,rP 1 Lh),(480,rP 8 Li),(481,rP 2 Lj),(482,rP 6 yY),(483,rP 1 Lk),(487,rP 1 Ll),(489,rG 1 Sg),(494,rP 1 Lm),(495,rP 9 yT),(496,rP 8 yU),(497,rP 2 Ln),(499,rP 1 Lo),(501,rP 6 yS),(504,rG 18 Vh),(511,rP 9 yF),(516,rP 2 yG),(530,rP 1 Lp),(531,rP 1 Lq),(532,rP 2 yH),(533,rP 1 yI),(534,rP 3 yJ),(554,rP 3 Lr),(572,rP 10 yK),(580,rP 7 yF),(630,rP 1 yH),(631,rP 4 Ls),(658,rP 1 yL),(659,rP 1 yM),(660,rG 4 Vm (DE fun _=>4)),(661,rP 4 yN),(662,rP 3 yO),(663,rP 1 y0),(664,rG 1 Vp),(665,rP 2 sE),(666,rP 1 Lt),(667,rP 2 yL),(668,rP 1 yM),(669,rP 11 yA),(670,rP 7 yt),(671,rP 4 Lu),(672,rP 3 yP),(673,rP 1 Lv),(674,rP 1 Lw),(675,rP 1 Lx),(676,rP 5 yQ),(677,rG 3 Vv),(678,rP 1 yR),(682,rP 8 Ly),(683,rP 1 Lz),(684,rP 7 LA),(685,rP 8 yZ),(686,rP 1 LB),(699,rP 8 LC),(700,rP 7 LD),(701,rP 6 yS),(704,rP 1 LF),(714,rP 1 LG),(734,rP 2 sE),(744,rP 8 yT),(745,rP 9 yU),(783,rP 3 yJ),(808,rG 4 C808 (DE V6)),(809,rG 4 C809 (DE fun _=>2)),(810,rP 2 LH),(811,rP 2 yV u811),(812,rP 3 LI),(813,rP 6 yB),(814,rP 6 yC),(815,rP 1 yW),(816,rP 2 yX),(819,rP 7 LJ),(827,rP 5 yQ),(828,rP 6 yY),(882,rP 1 LK),(896,rP 1 LL),(897,rP 7 LM),(898,rP 1 LN),(899,rP 6 LO),(900,rP 7 LP),(901,rP 8 yZ),(927,rP 1 yG),(946,rP 1 LR),(947,rG 2 L1),(948,rG 1 OI),(949,rG 4 C949 (DE fun _=>0)),(950,rP 1 LU),(951,rP 2 T3 u951),(952,rG 4 VD (DE fun _=>2)),(953,rP 5 yN),(954,rP 3 yO),(955,rP 1 y0),(956,rP 1 ve),(957,rP 1 yR),(1006,rP 2 G1),(1007,rP 1 G2),(1008,rP 3 G3),(1031,rG 3 Ox),(1032,rG 4 XD (DE fun _=>1)),(1033,rG 1 EA),(1034,rG 1 Bu),(1035,rP 4 G4),(1036,rP 2 yV u1036),(1079,rP 1 ve),(1097,rG 4 XE (DE fun _=>0)),(1098,rP 3 G5),(1099,rP 1 G6),(1100,rP 1 G7),(1126,rG 3 OB),(1141,rG 1 OC),(1199,rP 20 G8),(1203,rP 19 G9)]
variable {k u v:Nat}
def G70 (hk:14<k:=by decide):C70 (under aX k u):=bx
def G71 (hk:14<k:=by decide):C71 (under aX k u):=bx
def G72 (hk:15<k:=by decide):C72 (under aX k u):=bx
def G73 (hk:15<k:=by decide):C73 (under aX k u):=bx
def G74 (hk:16<k:=by decide):C74 (under aX k u):=bx
def G75 (hk:16<k:=by decide):C75 (under aX k u):=bx
def G76 (hk:15<k:=by decide):C76 (under aX k u):=bx
def G79 (hk:10<k:=by decide):C79 (under aX k u):=bx
def G85 (hk:19<k:=by decide):C85 (under aX k u):=bx
def G86 (hk:18<k:=by decide):C86 (under aX k u):=bx
def Z6 (hk:18<k:=by decide):Ue (under aX k u):=fun s h1 _=>G86 hk s h1
def OM (hk:1<k:=by decide):LV (under aX k u):=fun s b hp=>Xv HE (.inl hk) fun T h=>h.1 s b hp
def Z7 (hk:1<k:=by decide):Uf (under aX k u):=fun s hp=>Xv HE (.inl hk) fun T h=>h.2 s hp
def ON (hk:1<k:=by decide):LW (under aX k u):=bx
def L3 (hk:4<k:=by decide):Hj (under aX k u):=bx
def G210 (hk:13<k:=by decide):XF (under aX k u):=bx
def Zs (hk:11<k:=by decide):UY (under aX k u):=bx
def Zt (hk:6<k:=by decide):UZ (under aX k u):=bx
def G213 (hk:3<k:=by decide):XG (under aX k u):=bx
def G214 (hk:3<k:=by decide):XH (under aX k u):=bx
def Zu (hk:6<k:=by decide):U0 (under aX k u):=bx
def OO (hk:2<k:=by decide):LX (under aX k u):=bx
def OP (hk:4<k:=by decide):LY (under aX k u):=bx
def G218 (hk:13<k:=by decide):XI (under aX k u):=bx
def Zv (hk:6<k:=by decide):U1 (under aX k u):=bx
def G220 (hk:2<k:=by decide):XJ (under aX k u):=bx
def G221 (hk:2<k:=by decide):XK (under aX k u):=bx
def G222 (hk:7<k:=by decide):XL (under aX k u):=fun r hp0=>okf Zb hk fun T h=>h r hp0
def Zw (hk:2<k:=by decide):U2 (under aX k u):=bx
def L4 (hk:2<k:=by decide):Hk (under aX k u):=bx
def G229 (hk:9<k:=by decide):XM (under aX k u):=bx
def Zx (hk:7<k:=by decide):U3 (under aX k u):=bx
def Zy (hk:3<k:=by decide):U4 (under aX k u):=bx
def G232 (hk:2<k:=by decide):XN (under aX k u):=bx
def G239 (hk:2<k:=by decide):XO (under aX k u):=bx
def Sn (hk:1<k:=by decide):OD (under aX k u):=bx
def G244 (hk:1<k:=by decide):XP (under aX k u):=bx
def Zz (hk:1<k:=by decide):XQ (under aX k u):=bx
def ZA (hk:2<k:=by decide):XR (under aX k u):=bx
def VJ (hk:1<k:=by decide):R8 (under aX k u):=bx
def ZB (hk:18<k:=by decide):U5 (under aX k u):=bx
def G252 (hk:3<k:=by decide):XS (under aX k u):=bx
def VK (hk:2<k:=by decide):R9 (under aX k u):=bx
def ZC (hk:1<k:=by decide):U6 (under aX k u):=bx
def G255 (hk:3<k:=by decide):XT (under aX k u):=bx
def G256 (hk:3<k:=by decide):XU (under aX k u):=bx
def G257 (hk:17<k:=by decide):XV (under aX k u):=bx
def ZD (hk:5<k:=by decide):U7 (under aX k u):=bx
def G316 (hk:5<k:=by decide):XW (under aX k u):=bx
def G331 (hk:1<k:=by decide):XX (under aX k u):=bx
def G336 (hk:1<k:=by decide):XY (under aX k u):=bx
def L5 (hk:1<k:=by decide):Hl (under aX k u):=bx
def G353 (hk:17<k:=by decide):XZ (under aX k u):=bx
def L6 (hk:2<k:=by decide):Hm (under aX k u):=bx
def G358 (hk:17<k:=by decide):X0 (under aX k u):=bx
def G424 (hk:5<k:=by decide):X1 (under aX k u):=bx
def G440 (hk:1<k:=by decide):X2 (under aX k u):=bx
def G441 (hk:3<k:=by decide):X3 (under aX k u):=bx
def ZE (hk:2<k:=by decide):U8 (under aX k u):=bx
def G443 (hk:12<k:=by decide):X4 (under aX k u):=bx
def G444 (hk:10<k:=by decide):X5 (under aX k u):=bx
def G445 (hk:5<k:=by decide):X6 (under aX k u):=bx
def G446 (hk:5<k:=by decide):X7 (under aX k u):=bx
def G447 (hk:1<k:=by decide):X8 (under aX k u):=bx
def ZF (hk:2<k:=by decide):U9 (under aX k u):=bx
def G449 (hk:2<k:=by decide):X9 (under aX k u):=bx
def G450 (hk:2<k:=by decide):Vb (under aX k u):=fun ws t l lw nx m K h1 h2 h3 h4 h5 hK=>yh (.inl hk) fun T _ h=>h ws t l lw nx m K h1 h2 h3 h4 h5 hK
def ZG (hk:5<k:=by decide):Vc (under aX k u):=bx
def ZH (hk:1<k:=by decide):Sa (under aX k u):=fun ds st K h1=>yh (.inl hk) fun T _ h=>h ds st K h1
def ZI (hk:1<k:=by decide):Vd (under aX k u):=bx
def VL (hk:1<k:=by decide):Sb (under aX k u):=bx
def G455 (hk:1<k:=by decide):Ya (under aX k u):=bx
def G456 (hk:3<k:=by decide):Yb (under aX k u):=bx
def G457 (hk:12<k:=by decide):Yc (under aX k u):=bx
def G458 (hk:11<k:=by decide):Yd (under aX k u):=bx
def G459 (hk:5<k:=by decide):Ye (under aX k u):=bx
def G460 (hk:4<k:=by decide):Yf (under aX k u):=bx
def G461 (hk:2<k:=by decide):Yg (under aX k u):=bx
def G462 (hk:1<k:=by decide):Yh (under aX k u):=bx
def G463 (hk:1<k:=by decide):Yi (under aX k u):=bx
def G464 (hk:1<k:=by decide):Yj (under aX k u):=bx
def ZJ (hk:3<k:=by decide):Sc (under aX k u):=fun r w n op hp0 hp1 hp2=>okf Zc hk fun T h=>h r w n op hp0 hp1 hp2
def Z8 (hk:3<k:=by decide):Jb (under aX k u):=fun r w n op l nx m K h1 h2 h3 h4 hK=>yh (.inl hk) fun T _ h=>h r w n op l nx m K h1 h2 h3 h4 hK
def G466 (hk:6<k:=by decide):Yk (under aX k u):=bx
def G467 (hk:5<k:=by decide):Ve (under aX k u):=fun r hp0=>okf Zd hk fun T h=>h r hp0
def ZK (hk:4<k:=by decide):Sd (under aX k u):=fun r hp0=>okf Ze hk fun T h=>h r hp0
def G469 (hk:1<k:=by decide):Yl (under aX k u):=bx
def L7 (hk:1<k:=by decide):Hn (under aX k u):=bx
def OQ (hk:1<k:=by decide):LZ (under aX k u):=bx
def VM (hk:1<k:=by decide):Se (under aX k u):=bx
def G480 (hk:8<k:=by decide):Ym (under aX k u):=bx
def ZL (hk:2<k:=by decide):Vf (under aX k u):=bx
def VN (hk:6<k:=by decide):Sf (under aX k u):=bx
def G483 (hk:1<k:=by decide):Yn (under aX k u):=bx
def ZM (hk:1<k:=by decide):Vg (under aX k u):=bx
def ZN (hk:1<k:=by decide):Sg (under aX k u):=fun ds st K h1=>yh (.inl hk) fun T _ h=>h ds st K h1
def G494 (hk:1<k:=by decide):Yo (under aX k u):=bx
def G495 (hk:9<k:=by decide):Yp (under aX k u):=bx
def G496 (hk:8<k:=by decide):Yq (under aX k u):=bx
def G497 (hk:2<k:=by decide):Yr (under aX k u):=bx
def G499 (hk:1<k:=by decide):Ys (under aX k u):=bx
def G501 (hk:6<k:=by decide):Yt (under aX k u):=bx
def G504 (hk:18<k:=by decide):Vh (under aX k u):=fun s r hp0 nx m K hK1 hK2=>yh (.inl hk) fun T _ h=>h s r hp0 nx m K hK1 hK2
def G511 (hk:9<k:=by decide):Yu (under aX k u):=bx
def G516 (hk:2<k:=by decide):Yv (under aX k u):=bx
def G530 (hk:1<k:=by decide):Yw (under aX k u):=bx
def G531 (hk:1<k:=by decide):Yx (under aX k u):=bx
def ZO (hk:2<k:=by decide):Vi (under aX k u):=bx
def OR (hk:1<k:=by decide):L0 (under aX k u):=bx
def G534 (hk:3<k:=by decide):Yy (under aX k u):=bx
def G554 (hk:3<k:=by decide):Yz (under aX k u):=bx
def ZP (hk:10<k:=by decide):Vj (under aX k u):=bx
def ZQ (hk:7<k:=by decide):Vk (under aX k u):=bx
def VO (hk:1<k:=by decide):Si (under aX k u):=bx
def G631 (hk:4<k:=by decide):YA (under aX k u):=bx
def So (hk:1<k:=by decide):OE (under aX k u):=bx
def ZR (hk:1<k:=by decide):Vl (under aX k u):=bx
def G660 (hk:4<k:=by decide):Vm (under aX k u):=fun w nd hp0 nx lp ln m K h1 h2 h3 h4 hK=>yh (.inl hk) fun T _ h=>h w nd hp0 nx lp ln m K h1 h2 h3 h4 hK
def ZS (hv:v<=u):Ud (under aX 4 u) v:=fun w nd hp0 hu nx lp ln m K h1 h2 h3 h4 hK=>yh (.inr ⟨rfl,by rw[show(lk aX 660 m9).muE=DE fun _=>4 from rfl,nX h1];exact eS hu hv⟩) fun T _ h=>h w nd hp0 nx lp ln m K h1 h2 h3 h4 hK
def ZT (hk:4<k:=by decide):Vn (under aX k u):=bx
def ZU (hk:3<k:=by decide):Vo (under aX k u):=bx
def G663 (hk:1<k:=by decide):YB (under aX k u):=bx
def G664 (hk:1<k:=by decide):Vp (under aX k u):=fun ds st K h1=>yh (.inl hk) fun T _ h=>h ds st K h1
def ZV (hk:2<k:=by decide):Vq (under aX k u):=bx
def G666 (hk:1<k:=by decide):YC (under aX k u):=bx
def VP (hk:2<k:=by decide):Sj (under aX k u):=bx
def ZW (hk:1<k:=by decide):Vr (under aX k u):=bx
def G669 (hk:11<k:=by decide):YD (under aX k u):=bx
def ZX (hk:7<k:=by decide):Vs (under aX k u):=bx
def G671 (hk:4<k:=by decide):YE (under aX k u):=bx
def ZY (hk:3<k:=by decide):Vt (under aX k u):=bx
def G673 (hk:1<k:=by decide):YF (under aX k u):=bx
def G674 (hk:1<k:=by decide):YG (under aX k u):=bx
def G675 (hk:1<k:=by decide):YH (under aX k u):=bx
def ZZ (hk:5<k:=by decide):Vu (under aX k u):=bx
def G677 (hk:3<k:=by decide):Vv (under aX k u):=fun c hp0 nx m K hK=>yh (.inl hk) fun T _ h=>h c hp0 nx m K hK
def Z0 (hk:1<k:=by decide):Vw (under aX k u):=bx
def G682 (hk:8<k:=by decide):YI (under aX k u):=bx
def G683 (hk:1<k:=by decide):YJ (under aX k u):=bx
def VQ (hk:7<k:=by decide):Sk (under aX k u):=bx
def G685 (hk:8<k:=by decide):YK (under aX k u):=bx
def G686 (hk:1<k:=by decide):YL (under aX k u):=bx
def G699 (hk:8<k:=by decide):YM (under aX k u):=bx
def G700 (hk:7<k:=by decide):YN (under aX k u):=bx
def G701 (hk:6<k:=by decide):YO (under aX k u):=bx
def G704 (hk:1<k:=by decide):YP (under aX k u):=bx
def G714 (hk:1<k:=by decide):YQ (under aX k u):=bx
def Z1 (hk:2<k:=by decide):Vx (under aX k u):=bx
def G744 (hk:8<k:=by decide):YR (under aX k u):=bx
def G745 (hk:9<k:=by decide):YS (under aX k u):=bx
def G783 (hk:3<k:=by decide):YT (under aX k u):=bx
def Uk (hv:v<=u):OG (under aX 4 u) v:=⟨fun w nd hp0 hu nx lp ln m K h1 h2 h3 h4 hK=>yh (.inr ⟨rfl,by rw[show(lk aX 808 m9).muE=DE V6 from rfl,nX h1];exact eS hu hv⟩) fun T _ h=>h.1 w nd hp0 nx lp ln m K h1 h2 h3 h4 hK,fun w nd hp0 hu nx lp ln m K h1 h2 h3 h4 hK=>yh (.inr ⟨rfl,by rw[show(lk aX 808 m9).muE=DE V6 from rfl,nX h1];exact eS hu hv⟩) fun T _ h=>h.2 w nd hp0 nx lp ln m K h1 h2 h3 h4 hK⟩
def Z2 (hv:v<=u):YU (under aX 4 u) v:=fun w nd hp0 hu nx lp ln m K h1 h2 h3 h4 hK=>yh (.inr ⟨rfl,by rw[show(lk aX 809 m9).muE=DE fun _=>2 from rfl,nX h1];exact eS hu hv⟩) fun T _ h=>h w nd hp0 nx lp ln m K h1 h2 h3 h4 hK
def G810 (hk:2<k:=by decide):YV (under aX k u):=bx
def G811 (hk:2<k:=by decide):YW (under aX k u):=bx
def Ul (hv:v<=u):OH (under aX 2 u) v:=fun l i hp0 hu=>Xv HE (.inr ⟨rfl,eS hu hv⟩) fun T hT=>hT l i hp0
def G812 (hk:3<k:=by decide):YX (under aX k u):=bx
def G813 (hk:6<k:=by decide):YY (under aX k u):=bx
def G814 (hk:6<k:=by decide):YZ (under aX k u):=bx
def Z3 (hk:1<k:=by decide):Vy (under aX k u):=bx
def G816 (hk:2<k:=by decide):Y0 (under aX k u):=bx
def G819 (hk:7<k:=by decide):Y1 (under aX k u):=bx
def VR (hk:5<k:=by decide):Sl (under aX k u):=bx
def Z4 (hk:6<k:=by decide):Vz (under aX k u):=bx
def G882 (hk:1<k:=by decide):Y2 (under aX k u):=bx
def G896 (hk:1<k:=by decide):Y3 (under aX k u):=bx
def G897 (hk:7<k:=by decide):Y4 (under aX k u):=bx
def G898 (hk:1<k:=by decide):Y5 (under aX k u):=bx
def Z5 (hk:6<k:=by decide):VA (under aX k u):=bx
def VT (hk:7<k:=by decide):Sm (under aX k u):=bx
def G901 (hk:8<k:=by decide):Y6 (under aX k u):=bx
def G927 (hk:1<k:=by decide):Y7 (under aX k u):=bx
def VU (hk:1<k:=by decide):VB (under aX k u):=bx
def Sp (hk:2<k:=by decide):L1 (under aX k u):=fun w nd b nx lp ln m K h1 h2 h3 h4 hK=>yh (.inl hk) fun T _ h=>h w nd b nx lp ln m K h1 h2 h3 h4 hK
def Sq (hk:1<k:=by decide):OI (under aX k u):=fun x w nd b hp0 nx lp ln m K h1 h2 h3 h4 hK=>yh (.inl hk) fun T _ h=>h x w nd b hp0 nx lp ln m K h1 h2 h3 h4 hK
def Um (hv:v<=u):Ug (under aX 4 u) v:=fun w nd hp0 hu nx lp ln m K h1 h2 h3 h4 hK=>yh (.inr ⟨rfl,by rw[show(lk aX 949 m9).muE=DE fun _=>0 from rfl,nX h1];exact eS hu hv⟩) fun T _ h=>h w nd hp0 nx lp ln m K h1 h2 h3 h4 hK
def Z9 (hk:1<k:=by decide):VC (under aX k u):=bx
def G951u (hv:v<=u):Uh (under aX 2 u) v:=fun l i b hp0 hu=>Xv HE (.inr ⟨rfl,eS hu hv⟩) fun T hT=>hT l i b hp0
def G952 (hk:4<k:=by decide):VD (under aX k u):=fun W w nd hp0 hp1 nx lp ln m K h1 h2 h3 h4 hK=>yh (.inl hk) fun T _ h=>h W w nd hp0 hp1 nx lp ln m K h1 h2 h3 h4 hK
def G952u (hv:v<=u):Ui (under aX 4 u) v:=fun W w nd hp0 hp1 hu nx lp ln m K h1 h2 h3 h4 hK=>yh (.inr ⟨rfl,by rw[show(lk aX 952 m9).muE=DE fun _=>2 from rfl,tI hp0.1 h1];exact eS hu hv⟩) fun T _ h=>h W w nd hp0 hp1 nx lp ln m K h1 h2 h3 h4 hK
def G953 (hk:5<k:=by decide):VE (under aX k u):=bx
def G954 (hk:3<k:=by decide):VF (under aX k u):=bx
def G955 (hk:1<k:=by decide):Y8 (under aX k u):=bx
def G956 (hk:1<k:=by decide):Y9 (under aX k u):=bx
def G957 (hk:1<k:=by decide):VG (under aX k u):=bx
def Zg (hk:2<k:=by decide):T4 (under aX k u):=bx
def Zh (hk:1<k:=by decide):T5 (under aX k u):=bx
def Zi (hk:3<k:=by decide):T6 (under aX k u):=bx
def Zj (hk:3<k:=by decide):Ox (under aX k u):=fun k w nd b hp0 nx lp ln m K h1 h2 h3 h4 hK=>yh (.inl hk) fun T _ h=>h k w nd b hp0 nx lp ln m K h1 h2 h3 h4 hK
def VH (hv:v<=u):Oy (under aX 4 u) v:=fun W w nd hp0 hp1 hu nx lp ln m K h1 h2 h3 h4 hK=>yh (.inr ⟨rfl,by rw[show(lk aX 1032 m9).muE=DE fun _=>1 from rfl,tI hp0.1 h1];exact eS hu hv⟩) fun T _ h=>h W w nd hp0 hp1 nx lp ln m K h1 h2 h3 h4 hK
def OK (hk:1<k:=by decide):EA (under aX k u):=fun s W w nd b hp0 nx lp ln m K h1 h2 h3 h4 hK=>yh (.inl hk) fun T _ h=>h s W w nd b hp0 nx lp ln m K h1 h2 h3 h4 hK
def Jc (hk:1<k:=by decide):Bu (under aX k u):=fun x W w nd b hp0 nx lp ln m K h1 h2 h3 h4 hK=>yh (.inl hk) fun T _ h=>h x W w nd b hp0 nx lp ln m K h1 h2 h3 h4 hK
def Zk (hk:4<k:=by decide):T7 (under aX k u):=bx
def Zl (hk:2<k:=by decide):T8 (under aX k u):=bx
def VI (hv:v<=u):Oz (under aX 2 u) v:=fun l i hp0 hu=>Xv HE (.inr ⟨rfl,eS hu hv⟩) fun T hT=>hT l i hp0
def Zm (hk:1<k:=by decide):T9 (under aX k u):=bx
def OL (hv:v<=u):Hi (under aX 4 u) v:=fun W w nd hp0 hp1 hu nx lp ln m K h1 h2 h3 h4 hK=>yh (.inr ⟨rfl,by rw[show(lk aX 1097 m9).muE=DE fun _=>0 from rfl,tI hp0.1 h1];exact eS hu hv⟩) fun T _ h=>h W w nd hp0 hp1 nx lp ln m K h1 h2 h3 h4 hK
def Zn (hk:3<k:=by decide):Ua (under aX k u):=bx
def Uj (hk:1<k:=by decide):OA (under aX k u):=bx
def Zo (hk:1<k:=by decide):Ub (under aX k u):=bx
def Zp (hk:3<k:=by decide):OB (under aX k u):=fun W w nd hp0 hp1 nx lp ln m K h1 h2 h3 h4 hK=>yh (.inl hk) fun T _ h=>h W w nd hp0 hp1 nx lp ln m K h1 h2 h3 h4 hK
def Zq (hk:1<k:=by decide):OC (under aX k u):=fun W w nd b hp0 nx lp ln m K h1 h2 h3 h4 hK=>yh (.inl hk) fun T _ h=>h W w nd b hp0 nx lp ln m K h1 h2 h3 h4 hK
def Zr (hk:19<k:=by decide):Uc (under aX k u):=bx
end
def xE:List (Nat×Nat):=[(7,1199),(10,85),(11,251),(13,86),(16,1203),(17,478),(19,79),(20,353),(21,489),(22,72),(23,497),(24,452),(25,358),(26,73),(28,252),(29,253),(30,254),(31,208),(32,255),(33,256),(34,76),(35,242),(36,257),(44,228),(45,504),(46,74),(47,511),(50,227),(51,229),(52,230),(53,231),(54,232),(56,70),(57,215),(58,686),(59,216),(60,75),(61,580),(62,71),(63,219),(64,239),(65,244),(67,124),(68,499),(69,487),(70,222),(72,295),(73,470),(76,501),(77,249),(79,479),(80,220),(81,699),(82,700),(83,701),(86,469),(89,480),(90,481),(91,482),(92,483),(94,209),(95,210),(96,211),(97,212),(98,213),(99,214),(100,450),(101,451),(102,453),(103,454),(104,221),(105,217),(106,218),(107,316),(108,461),(109,462),(110,331),(114,465),(115,466),(116,467),(117,468),(119,530),(120,531),(121,532),(122,533),(123,534),(126,424),(129,463),(130,676),(131,677),(132,678),(133,440),(134,441),(135,442),(136,443),(137,349),(138,444),(139,445),(140,446),(141,447),(142,448),(143,449),(144,664),(145,665),(146,464),(147,455),(148,456),(149,457),(150,458),(151,459),(152,460),(153,554),(159,245),(160,246),(161,675),(162,658),(164,714),(165,659),(166,516),(173,630),(174,631),(176,734),(177,495),(178,496),(179,660),(180,661),(181,662),(182,663),(183,336),(184,666),(185,667),(186,668),(187,669),(188,670),(189,357),(190,572),(191,671),(192,672),(193,673),(194,674),(202,494),(203,704),(205,783),(206,882),(207,682),(208,683),(209,684),(210,685),(211,808),(212,809),(213,810),(214,811),(216,812),(217,813),(218,814),(219,744),(220,745),(221,815),(222,816),(228,927),(229,819),(237,827),(238,828),(239,946),(240,947),(241,948),(242,949),(243,950),(244,951),(246,952),(247,953),(248,954),(249,896),(250,897),(251,898),(252,899),(253,900),(254,901),(255,955),(256,956),(257,957),(261,1031),(266,1032),(267,1033),(268,1034),(269,1035),(270,1036),(271,1006),(272,1007),(273,1008),(281,1097),(282,1098),(283,1099),(284,1100),(285,1079),(290,1126),(291,1141)]
def Pm:List Nat:=[219,1091,1354,1894,1896,1616,1320,1618,1898,2062,2066,2282,2068,2252,2194,2064,1904,900,931,937,935,445,978,1328,904,942,944,946,952,448,522,1008,1000000060]
def bn:(Go.Proofs.Tryz.prog).follows .mixedOrders=true:=od
abbrev Ow [dz](f n:Nat):Prop:=Xo Go.Proofs.Tryz.prog xE Pm aX f n
abbrev Cp (f:Nat)(a:aF):Prop:=Oo Go.Proofs.Tryz.prog xE Pm f a
def ck {f:Nat}{a:aF}(h:((Go.Proofs.Tryz.prog).funcs[f]?).map (fun f=>(compile Go.Proofs.Tryz.prog xE Pm f,f.name== "runtime.NumGoroutine"))=some (some a,false):=by kernel_rfl):Cp f a:=h
end Go.Abs
section
namespace Go.Proofs
open Go.Shelf
def Tryz.Sy:Go.Shelf.Ren:=⟨fun|166=>21|167=>144|169=>24|240=>55|276=>93|n=>n,fun|70=>58|9=>9|0=>0|72=>60|37=>39|3=>3|5=>5|4=>4|20=>20|75=>62|80=>67|164=>146|127=>104|n=>n,fun|n=>n⟩
def Tryz.Jk:Go.Proofs.Lays.n166 Tryz.prog Tryz.Sy:={
 mixed:=by kernel_rfl
 f166:=Tryz.func21.trans (congrArg some (by kernel_rfl))
 f240:=Tryz.func55.trans (congrArg some (by kernel_rfl))
 f276:=Tryz.func93.trans (congrArg some (by kernel_rfl))
 t0:=Tryz.underlying0
 a0:=Tryz.isAgg0
 z0:=Tryz.sizeOf0
 v0:=Tryz.zeroValue0
 t3:=Tryz.underlying3
 a3:=Tryz.isAgg3
 z3:=Tryz.sizeOf3
 v3:=Tryz.zeroValue3
 t4:=Tryz.underlying4
 a4:=Tryz.isAgg4
 z4:=Tryz.sizeOf4
 v4:=Tryz.zeroValue4
 t9:=Tryz.underlying9
 a9:=Tryz.isAgg9
 z9:=Tryz.sizeOf9
 v9:=Tryz.zeroValue9
 t20:=Tryz.underlying20
 a20:=Tryz.isAgg20
 z20:=Tryz.sizeOf20
 v20:=Tryz.zeroValue20
 t37:=Tryz.underlying39
 a37:=Tryz.isAgg39
 z37:=Tryz.sizeOf39
 v37:=Tryz.zeroValue39
 t70:=Tryz.underlying58
 a70:=Tryz.isAgg58
 z70:=Tryz.sizeOf58
 v70:=Tryz.zeroValue58
 t72:=Tryz.underlying60
 a72:=Tryz.isAgg60
 z72:=Tryz.sizeOf60
 v72:=Tryz.zeroValue60
 t75:=Tryz.underlying62
 a75:=Tryz.isAgg62
 z75:=Tryz.sizeOf62
 v75:=Tryz.zeroValue62
 t164:=Tryz.underlying146
 a164:=Tryz.isAgg146
 z164:=Tryz.sizeOf146
 v164:=Tryz.zeroValue146}
def Tryz.Jl:Go.Proofs.Lays.n167 Tryz.prog Tryz.Sy:={
 mixed:=by kernel_rfl
 f167:=Tryz.func144.trans (congrArg some (by kernel_rfl))
 f240:=Tryz.func55.trans (congrArg some (by kernel_rfl))
 f276:=Tryz.func93.trans (congrArg some (by kernel_rfl))
 t0:=Tryz.underlying0
 a0:=Tryz.isAgg0
 z0:=Tryz.sizeOf0
 v0:=Tryz.zeroValue0
 t4:=Tryz.underlying4
 a4:=Tryz.isAgg4
 z4:=Tryz.sizeOf4
 v4:=Tryz.zeroValue4
 t5:=Tryz.underlying5
 a5:=Tryz.isAgg5
 z5:=Tryz.sizeOf5
 v5:=Tryz.zeroValue5
 t9:=Tryz.underlying9
 a9:=Tryz.isAgg9
 z9:=Tryz.sizeOf9
 v9:=Tryz.zeroValue9
 t20:=Tryz.underlying20
 a20:=Tryz.isAgg20
 z20:=Tryz.sizeOf20
 v20:=Tryz.zeroValue20
 t37:=Tryz.underlying39
 a37:=Tryz.isAgg39
 z37:=Tryz.sizeOf39
 v37:=Tryz.zeroValue39
 t70:=Tryz.underlying58
 a70:=Tryz.isAgg58
 z70:=Tryz.sizeOf58
 v70:=Tryz.zeroValue58
 t72:=Tryz.underlying60
 a72:=Tryz.isAgg60
 z72:=Tryz.sizeOf60
 v72:=Tryz.zeroValue60
 t75:=Tryz.underlying62
 a75:=Tryz.isAgg62
 z75:=Tryz.sizeOf62
 v75:=Tryz.zeroValue62
 t164:=Tryz.underlying146
 a164:=Tryz.isAgg146
 z164:=Tryz.sizeOf146
 v164:=Tryz.zeroValue146}
def Tryz.Jm:Go.Proofs.Lays.n169 Tryz.prog Tryz.Sy:={
 mixed:=by kernel_rfl
 f169:=Tryz.func24.trans (congrArg some (by kernel_rfl))
 t0:=Tryz.underlying0
 a0:=Tryz.isAgg0
 z0:=Tryz.sizeOf0
 v0:=Tryz.zeroValue0
 t3:=Tryz.underlying3
 a3:=Tryz.isAgg3
 z3:=Tryz.sizeOf3
 v3:=Tryz.zeroValue3
 t9:=Tryz.underlying9
 a9:=Tryz.isAgg9
 z9:=Tryz.sizeOf9
 v9:=Tryz.zeroValue9
 t37:=Tryz.underlying39
 a37:=Tryz.isAgg39
 z37:=Tryz.sizeOf39
 v37:=Tryz.zeroValue39
 t70:=Tryz.underlying58
 a70:=Tryz.isAgg58
 z70:=Tryz.sizeOf58
 v70:=Tryz.zeroValue58
 t72:=Tryz.underlying60
 a72:=Tryz.isAgg60
 z72:=Tryz.sizeOf60
 v72:=Tryz.zeroValue60
 t127:=Tryz.underlying104
 a127:=Tryz.isAgg104
 z127:=Tryz.sizeOf104
 v127:=Tryz.zeroValue104}
def Tryz.V5:Builder.Extra Tryz.prog Tryz.Sy:={
 sizeBuilder:=by kernel_rfl
 liesBuilder:=by kernel_rfl
 t5:=Tryz.underlying5
 a5:=Tryz.isAgg5
 z5:=Tryz.sizeOf5
 v5:=Tryz.zeroValue5
 infoByte:=by kernel_rfl
 cellsByte:=by kernel_rfl
 sizeByte:=by kernel_rfl
 neB5:=by decide}
end Go.Proofs
end
section
namespace Go.Proofs
open Go.Shelf
def Tryz.lays156_ren:Go.Shelf.Ren:=⟨fun|156=>35|165=>71|166=>21|169=>24|240=>55|241=>118|276=>93|277=>163|n=>n,fun|31=>68|9=>9|3=>3|4=>4|0=>0|20=>20|72=>60|76=>63|70=>58|37=>39|75=>62|127=>104|164=>146|5=>5|80=>67|n=>n,fun|n=>n⟩
def Tryz.lays156:Go.Proofs.Lays.n156 Tryz.prog Tryz.lays156_ren:={
 mixed:=by kernel_rfl
 f156:=Tryz.func35.trans (congrArg some (by kernel_rfl))
 f165:=Tryz.func71.trans (congrArg some (by kernel_rfl))
 f166:=Tryz.func21.trans (congrArg some (by kernel_rfl))
 f169:=Tryz.func24.trans (congrArg some (by kernel_rfl))
 f240:=Tryz.func55.trans (congrArg some (by kernel_rfl))
 f241:=Tryz.func118.trans (congrArg some (by kernel_rfl))
 f276:=Tryz.func93.trans (congrArg some (by kernel_rfl))
 f277:=Tryz.func163.trans (congrArg some (by kernel_rfl))
 t0:=Tryz.underlying0
 a0:=Tryz.isAgg0
 z0:=Tryz.sizeOf0
 v0:=Tryz.zeroValue0
 t3:=Tryz.underlying3
 a3:=Tryz.isAgg3
 z3:=Tryz.sizeOf3
 v3:=Tryz.zeroValue3
 t4:=Tryz.underlying4
 a4:=Tryz.isAgg4
 z4:=Tryz.sizeOf4
 v4:=Tryz.zeroValue4
 t9:=Tryz.underlying9
 a9:=Tryz.isAgg9
 z9:=Tryz.sizeOf9
 v9:=Tryz.zeroValue9
 t20:=Tryz.underlying20
 a20:=Tryz.isAgg20
 z20:=Tryz.sizeOf20
 v20:=Tryz.zeroValue20
 t31:=Tryz.underlying68
 a31:=Tryz.isAgg68
 z31:=Tryz.sizeOf68
 v31:=Tryz.zeroValue68
 t37:=Tryz.underlying39
 a37:=Tryz.isAgg39
 z37:=Tryz.sizeOf39
 v37:=Tryz.zeroValue39
 t70:=Tryz.underlying58
 a70:=Tryz.isAgg58
 z70:=Tryz.sizeOf58
 v70:=Tryz.zeroValue58
 t72:=Tryz.underlying60
 a72:=Tryz.isAgg60
 z72:=Tryz.sizeOf60
 v72:=Tryz.zeroValue60
 t75:=Tryz.underlying62
 a75:=Tryz.isAgg62
 z75:=Tryz.sizeOf62
 v75:=Tryz.zeroValue62
 t76:=Tryz.underlying63
 a76:=Tryz.isAgg63
 z76:=Tryz.sizeOf63
 v76:=Tryz.zeroValue63
 t127:=Tryz.underlying104
 a127:=Tryz.isAgg104
 z127:=Tryz.sizeOf104
 v127:=Tryz.zeroValue104
 t164:=Tryz.underlying146
 a164:=Tryz.isAgg146
 z164:=Tryz.sizeOf146
 v164:=Tryz.zeroValue146}
def Tryz.Builder_Extra_156:Builder.Extra Tryz.prog Tryz.lays156_ren:={
 sizeBuilder:=by kernel_rfl
 liesBuilder:=by kernel_rfl
 t5:=Tryz.underlying5
 a5:=Tryz.isAgg5
 z5:=Tryz.sizeOf5
 v5:=Tryz.zeroValue5
 infoByte:=by kernel_rfl
 cellsByte:=by kernel_rfl
 sizeByte:=by kernel_rfl
 neB5:=by decide}
open Go.RowKit in
theorem Tryz.strings_Join_none (a:Option Addr)(c:Nat)(sep:ByteArray)(w:World):
  Calls Tryz.prog 35 #[.slice a 0 c,.string sep] w fun e w'=>e=.returned (.string ⟨#[]⟩)∧w'=w:=Any.strings_Join_none Tryz.lays156 Tryz.Builder_Extra_156 a c sep w
open Go.RowKit in
theorem Tryz.strings_Join (bk o c:Nat)(xs:List ByteArray)(sep:ByteArray)(w:World)(hcells:∀(j:Nat) x,xs[j]? =some x→w.cell? ⟨bk,o+j,none⟩=some (.string x))(hbk:bk<w.heap.size)(hN:xs.length≤140737488355328)(hcap:xs.length≤c)(hlen:(Lib.join (xs.map (·.data.toList)) sep.data.toList).length≤140737488355328):
  Calls Tryz.prog 35 #[.slice (some ⟨bk,o,none⟩) xs.length c,.string sep] w fun e w'=>e=.returned (.string ⟨(Lib.join (xs.map (·.data.toList)) sep.data.toList).toArray⟩)∧Below w.heap.size w w':=Any.strings_Join Tryz.lays156 Tryz.Builder_Extra_156 bk o c xs sep w hcells hbk hN hcap hlen
def Tryz.lays160_ren:Go.Shelf.Ren:=⟨fun|160=>208|232=>231|231=>230|227=>232|234=>234|233=>233|236=>236|235=>235|228=>258|271=>260|151=>259|197=>196|120=>275|152=>274|260=>223|137=>286|119=>287|224=>200|225=>199|217=>198|266=>224|n=>n,fun|9=>9|4=>4|3=>3|5=>5|117=>247|116=>246|0=>0|124=>250|21=>21|105=>221|46=>105|119=>260|139=>263|138=>262|n=>n,fun|3=>1|4=>2|n=>n⟩
def Tryz.lays160:Go.Proofs.Lays.n160 Tryz.prog Tryz.lays160_ren:={
 mixed:=by kernel_rfl
 f119:=Tryz.func287.trans (congrArg some (by kernel_rfl))
 f120:=Tryz.func275.trans (congrArg some (by kernel_rfl))
 f137:=Tryz.func286.trans (congrArg some (by kernel_rfl))
 f151:=Tryz.func259.trans (congrArg some (by kernel_rfl))
 f152:=Tryz.func274.trans (congrArg some (by kernel_rfl))
 f160:=Tryz.func208.trans (congrArg some (by kernel_rfl))
 f197:=Tryz.func196.trans (congrArg some (by kernel_rfl))
 f217:=Tryz.func198.trans (congrArg some (by kernel_rfl))
 f224:=Tryz.func200.trans (congrArg some (by kernel_rfl))
 f225:=Tryz.func199.trans (congrArg some (by kernel_rfl))
 f227:=Tryz.func232.trans (congrArg some (by kernel_rfl))
 f228:=Tryz.func258.trans (congrArg some (by kernel_rfl))
 f231:=Tryz.func230.trans (congrArg some (by kernel_rfl))
 f232:=Tryz.func231.trans (congrArg some (by kernel_rfl))
 f233:=Tryz.func233.trans (congrArg some (by kernel_rfl))
 f234:=Tryz.func234.trans (congrArg some (by kernel_rfl))
 f235:=Tryz.func235.trans (congrArg some (by kernel_rfl))
 f236:=Tryz.func236.trans (congrArg some (by kernel_rfl))
 f260:=Tryz.func223.trans (congrArg some (by kernel_rfl))
 f266:=Tryz.func224.trans (congrArg some (by kernel_rfl))
 f271:=Tryz.func260.trans (congrArg some (by kernel_rfl))
 t0:=Tryz.underlying0
 a0:=Tryz.isAgg0
 z0:=Tryz.sizeOf0
 v0:=Tryz.zeroValue0
 t3:=Tryz.underlying3
 a3:=Tryz.isAgg3
 z3:=Tryz.sizeOf3
 v3:=Tryz.zeroValue3
 t4:=Tryz.underlying4
 a4:=Tryz.isAgg4
 z4:=Tryz.sizeOf4
 v4:=Tryz.zeroValue4
 t5:=Tryz.underlying5
 a5:=Tryz.isAgg5
 z5:=Tryz.sizeOf5
 v5:=Tryz.zeroValue5
 t9:=Tryz.underlying9
 a9:=Tryz.isAgg9
 z9:=Tryz.sizeOf9
 v9:=Tryz.zeroValue9
 t21:=Tryz.underlying21
 a21:=Tryz.isAgg21
 z21:=Tryz.sizeOf21
 v21:=Tryz.zeroValue21
 t46:=Tryz.underlying105
 a46:=Tryz.isAgg105
 z46:=Tryz.sizeOf105
 v46:=Tryz.zeroValue105
 t105:=Tryz.underlying221
 a105:=Tryz.isAgg221
 z105:=Tryz.sizeOf221
 v105:=Tryz.zeroValue221
 t116:=Tryz.underlying246
 a116:=Tryz.isAgg246
 z116:=Tryz.sizeOf246
 t117:=Tryz.underlying247
 a117:=Tryz.isAgg247
 z117:=Tryz.sizeOf247
 v117:=Tryz.zeroValue247
 t119:=Tryz.underlying260
 a119:=Tryz.isAgg260
 z119:=Tryz.sizeOf260
 t124:=Tryz.underlying250
 a124:=Tryz.isAgg250
 z124:=Tryz.sizeOf250
 v124:=Tryz.zeroValue250
 t138:=Tryz.underlying262
 a138:=Tryz.isAgg262
 z138:=Tryz.sizeOf262
 v138:=Tryz.zeroValue262
 t139:=Tryz.underlying263
 a139:=Tryz.isAgg263
 z139:=Tryz.sizeOf263
 v139:=Tryz.zeroValue263
 g3:=by kernel_rfl
 g4:=by kernel_rfl}
open Go.RowKit in
theorem Tryz.strings_Trim_one (s:ByteArray)(c:UInt8)(hc:c.toNat<128)(w:World)(hs:s.size≤9223372036854775807):
  Calls Tryz.prog 208 #[.string s,.string ⟨#[c]⟩] w fun e w'=>e=.returned (.string ⟨(Lib.trimB s.data.toList c).toArray⟩)∧(w'=w∨w'=w.drew):=Any.strings_Trim_one Tryz.lays160 s c hc w hs
def Tryz.lays103_ren:Go.Shelf.Ren:=⟨fun|103=>30|210=>66|206=>112|n=>n,fun|9=>9|4=>4|24=>70|3=>3|n=>n,fun|n=>n⟩
def Tryz.lays103:Go.Proofs.Lays.n103 Tryz.prog Tryz.lays103_ren:={
 mixed:=by kernel_rfl
 f103:=Tryz.func30.trans (congrArg some (by kernel_rfl))
 f206:=Tryz.func112.trans (congrArg some (by kernel_rfl))
 f210:=Tryz.func66.trans (congrArg some (by kernel_rfl))
 t3:=Tryz.underlying3
 a3:=Tryz.isAgg3
 z3:=Tryz.sizeOf3
 v3:=Tryz.zeroValue3
 t4:=Tryz.underlying4
 a4:=Tryz.isAgg4
 z4:=Tryz.sizeOf4
 v4:=Tryz.zeroValue4
 t9:=Tryz.underlying9
 a9:=Tryz.isAgg9
 z9:=Tryz.sizeOf9
 v9:=Tryz.zeroValue9
 t24:=Tryz.underlying70
 a24:=Tryz.isAgg70
 z24:=Tryz.sizeOf70
 v24:=Tryz.zeroValue70}
open Go.RowKit in
theorem Tryz.strings_CutPrefix (s p:ByteArray)(w:World):
  Calls Tryz.prog 30 #[.string s,.string p] w fun e w'=>e=.returned (.tuple #[.string ⟨(Lib.trimPrefix s.data.toList p.data.toList).toArray⟩,.bool (Lib.hasPrefix s.data.toList p.data.toList)])∧w'=w:=Any.strings_CutPrefix Tryz.lays103 s p w
def Tryz.lays104_ren:Go.Shelf.Ren:=⟨fun|104=>65|211=>111|207=>157|n=>n,fun|9=>9|4=>4|24=>70|3=>3|n=>n,fun|n=>n⟩
def Tryz.lays104:Go.Proofs.Lays.n104 Tryz.prog Tryz.lays104_ren:={
 mixed:=by kernel_rfl
 f104:=Tryz.func65.trans (congrArg some (by kernel_rfl))
 f207:=Tryz.func157.trans (congrArg some (by kernel_rfl))
 f211:=Tryz.func111.trans (congrArg some (by kernel_rfl))
 t3:=Tryz.underlying3
 a3:=Tryz.isAgg3
 z3:=Tryz.sizeOf3
 v3:=Tryz.zeroValue3
 t4:=Tryz.underlying4
 a4:=Tryz.isAgg4
 z4:=Tryz.sizeOf4
 v4:=Tryz.zeroValue4
 t9:=Tryz.underlying9
 a9:=Tryz.isAgg9
 z9:=Tryz.sizeOf9
 v9:=Tryz.zeroValue9
 t24:=Tryz.underlying70
 a24:=Tryz.isAgg70
 z24:=Tryz.sizeOf70
 v24:=Tryz.zeroValue70}
open Go.RowKit in
theorem Tryz.strings_CutSuffix (s p:ByteArray)(w:World)(hs:s.size≤9223372036854775807):
  Calls Tryz.prog 65 #[.string s,.string p] w fun e w'=>e=.returned (.tuple #[.string ⟨(Lib.trimSuffix s.data.toList p.data.toList).toArray⟩,.bool (Lib.hasSuffix s.data.toList p.data.toList)])∧w'=w:=Any.strings_CutSuffix Tryz.lays104 s p w hs
def Tryz.laysM171_ren:Go.Shelf.Ren:=⟨fun|171=>183|243=>215|246=>245|283=>262|284=>263|285=>264|286=>265|129=>277|317=>276|318=>278|319=>279|320=>280|337=>288|338=>289|n=>n,fun|3=>3|9=>9|2=>2|4=>4|171=>265|0=>0|53=>52|37=>39|5=>5|173=>268|212=>275|51=>237|20=>20|213=>276|46=>105|232=>282|233=>283|n=>n,fun|17=>3|18=>4|19=>5|n=>n⟩
def Tryz.laysM171:Go.Proofs.LaysM.n171 Tryz.prog Tryz.laysM171_ren:={
 mixed:=by kernel_rfl
 f129:=Tryz.func277.trans (congrArg some (by kernel_rfl))
 f171:=Tryz.func183.trans (congrArg some (by kernel_rfl))
 f243:=Tryz.func215.trans (congrArg some (by kernel_rfl))
 f246:=Tryz.func245.trans (congrArg some (by kernel_rfl))
 f283:=Tryz.func262.trans (congrArg some (by kernel_rfl))
 f284:=Tryz.func263.trans (congrArg some (by kernel_rfl))
 f285:=Tryz.func264.trans (congrArg some (by kernel_rfl))
 f286:=Tryz.func265.trans (congrArg some (by kernel_rfl))
 f317:=Tryz.func276.trans (congrArg some (by kernel_rfl))
 f318:=Tryz.func278.trans (congrArg some (by kernel_rfl))
 f319:=Tryz.func279.trans (congrArg some (by kernel_rfl))
 f320:=Tryz.func280.trans (congrArg some (by kernel_rfl))
 f337:=Tryz.func288.trans (congrArg some (by kernel_rfl))
 f338:=Tryz.func289.trans (congrArg some (by kernel_rfl))
 t0:=Tryz.underlying0
 a0:=Tryz.isAgg0
 z0:=Tryz.sizeOf0
 v0:=Tryz.zeroValue0
 t2:=Tryz.underlying2
 a2:=Tryz.isAgg2
 z2:=Tryz.sizeOf2
 v2:=Tryz.zeroValue2
 t3:=Tryz.underlying3
 a3:=Tryz.isAgg3
 z3:=Tryz.sizeOf3
 v3:=Tryz.zeroValue3
 t4:=Tryz.underlying4
 a4:=Tryz.isAgg4
 z4:=Tryz.sizeOf4
 v4:=Tryz.zeroValue4
 t5:=Tryz.underlying5
 a5:=Tryz.isAgg5
 z5:=Tryz.sizeOf5
 v5:=Tryz.zeroValue5
 t9:=Tryz.underlying9
 a9:=Tryz.isAgg9
 z9:=Tryz.sizeOf9
 v9:=Tryz.zeroValue9
 t20:=Tryz.underlying20
 a20:=Tryz.isAgg20
 z20:=Tryz.sizeOf20
 v20:=Tryz.zeroValue20
 t37:=Tryz.underlying39
 a37:=Tryz.isAgg39
 z37:=Tryz.sizeOf39
 v37:=Tryz.zeroValue39
 t46:=Tryz.underlying105
 a46:=Tryz.isAgg105
 z46:=Tryz.sizeOf105
 v46:=Tryz.zeroValue105
 t51:=Tryz.underlying237
 a51:=Tryz.isAgg237
 z51:=Tryz.sizeOf237
 v51:=Tryz.zeroValue237
 t53:=Tryz.underlying52
 a53:=Tryz.isAgg52
 z53:=Tryz.sizeOf52
 v53:=Tryz.zeroValue52
 t171:=Tryz.underlying265
 a171:=Tryz.isAgg265
 z171:=Tryz.sizeOf265
 v171:=Tryz.zeroValue265
 t173:=Tryz.underlying268
 a173:=Tryz.isAgg268
 z173:=Tryz.sizeOf268
 v173:=Tryz.zeroValue268
 t212:=Tryz.underlying275
 a212:=Tryz.isAgg275
 z212:=Tryz.sizeOf275
 v212:=Tryz.zeroValue275
 t213:=Tryz.underlying276
 a213:=Tryz.isAgg276
 z213:=Tryz.sizeOf276
 t232:=Tryz.underlying282
 a232:=Tryz.isAgg282
 z232:=Tryz.sizeOf282
 v232:=Tryz.zeroValue282
 t233:=Tryz.underlying283
 a233:=Tryz.isAgg283
 z233:=Tryz.sizeOf283
 v233:=Tryz.zeroValue283
 g17:=by kernel_rfl
 g18:=by kernel_rfl
 g19:=by kernel_rfl
 i0:=by kernel_rfl
 i2:=by kernel_rfl
 i3:=by kernel_rfl
 i4:=by kernel_rfl
 i5:=by kernel_rfl
 i9:=by kernel_rfl
 i20:=by kernel_rfl
 i37:=by kernel_rfl
 i46:=by kernel_rfl
 i51:=by kernel_rfl
 i53:=by kernel_rfl
 i171:=by kernel_rfl
 i173:=by kernel_rfl
 i212:=by kernel_rfl
 i232:=by kernel_rfl
 i233:=by kernel_rfl
 m17:=by kernel_rfl
 m18:=by kernel_rfl
 m19:=by kernel_rfl}
open Go.RowKit Go.Sort Go.Lib in
theorem Tryz.strconv_Itoa (n:Int)(h0:-9223372036854775808≤n)(h1:n≤9223372036854775807)(w:World)(htab:Lib.TabIs Tryz.prog w "internal/strconv.uint64pow10" .u64 Lib.pow10Tab):
  Calls Tryz.prog 183 #[.int .i64 n] w fun e w'=>e=.returned (.string ⟨(Lib.itoa n).toArray⟩)∧∃k os,w'=grow (w.drewN k) os:=Any.strconv_Itoa Tryz.laysM171 n h0 h1 w htab
def Tryz.lays145_ren:Go.Shelf.Ren:=⟨fun|145=>69|220=>113|219=>158|217=>198|225=>199|224=>200|267=>201|266=>224|314=>225|n=>n,fun|9=>9|4=>4|59=>109|3=>3|5=>5|46=>105|146=>238|51=>237|n=>n,fun|1=>0|n=>n⟩
def Tryz.lays145:Go.Proofs.Lays.n145 Tryz.prog Tryz.lays145_ren:={
 mixed:=by kernel_rfl
 f145:=Tryz.func69.trans (congrArg some (by kernel_rfl))
 f217:=Tryz.func198.trans (congrArg some (by kernel_rfl))
 f219:=Tryz.func158.trans (congrArg some (by kernel_rfl))
 f220:=Tryz.func113.trans (congrArg some (by kernel_rfl))
 f224:=Tryz.func200.trans (congrArg some (by kernel_rfl))
 f225:=Tryz.func199.trans (congrArg some (by kernel_rfl))
 f266:=Tryz.func224.trans (congrArg some (by kernel_rfl))
 f267:=Tryz.func201.trans (congrArg some (by kernel_rfl))
 f314:=Tryz.func225.trans (congrArg some (by kernel_rfl))
 t3:=Tryz.underlying3
 a3:=Tryz.isAgg3
 z3:=Tryz.sizeOf3
 v3:=Tryz.zeroValue3
 t4:=Tryz.underlying4
 a4:=Tryz.isAgg4
 z4:=Tryz.sizeOf4
 v4:=Tryz.zeroValue4
 t5:=Tryz.underlying5
 a5:=Tryz.isAgg5
 z5:=Tryz.sizeOf5
 v5:=Tryz.zeroValue5
 t9:=Tryz.underlying9
 a9:=Tryz.isAgg9
 z9:=Tryz.sizeOf9
 v9:=Tryz.zeroValue9
 t46:=Tryz.underlying105
 a46:=Tryz.isAgg105
 z46:=Tryz.sizeOf105
 v46:=Tryz.zeroValue105
 t51:=Tryz.underlying237
 a51:=Tryz.isAgg237
 z51:=Tryz.sizeOf237
 v51:=Tryz.zeroValue237
 t59:=Tryz.underlying109
 a59:=Tryz.isAgg109
 z59:=Tryz.sizeOf109
 v59:=Tryz.zeroValue109
 t146:=Tryz.underlying238
 a146:=Tryz.isAgg238
 z146:=Tryz.sizeOf238
 v146:=Tryz.zeroValue238
 g1:=by kernel_rfl}
open Go.RowKit Go.Lib in
theorem Tryz.strings_Cut (s sep:ByteArray)(m:Int)(w:World)(hs:s.size<4294967281)(hm:w.cell? ⟨0,0,none⟩=some (.int .i64 m)):
  Calls Tryz.prog 69 #[.string s,.string sep] w fun e w'=>e=.returned (.tuple #[.string ⟨(Lib.cut s.data.toList sep.data.toList).1.toArray⟩,.string ⟨(Lib.cut s.data.toList sep.data.toList).2.1.toArray⟩,.bool (Lib.cut s.data.toList sep.data.toList).2.2])∧∃n,w'=w.drewN n:=Any.strings_Cut Tryz.lays145 s sep m w hs hm
def Tryz.lays221_ren:Go.Shelf.Ren:=⟨fun|221=>110|268=>154|138=>155|143=>156|195=>195|197=>196|218=>197|219=>158|260=>223|217=>198|225=>199|224=>200|267=>201|266=>224|314=>225|n=>n,fun|9=>9|3=>3|31=>68|4=>4|0=>0|105=>221|21=>21|5=>5|46=>105|119=>260|139=>263|138=>262|146=>238|51=>237|n=>n,fun|1=>0|3=>1|4=>2|n=>n⟩
def Tryz.lays221:Go.Proofs.Lays.n221 Tryz.prog Tryz.lays221_ren:={
 mixed:=by kernel_rfl
 f138:=Tryz.func155.trans (congrArg some (by kernel_rfl))
 f143:=Tryz.func156.trans (congrArg some (by kernel_rfl))
 f195:=Tryz.func195.trans (congrArg some (by kernel_rfl))
 f197:=Tryz.func196.trans (congrArg some (by kernel_rfl))
 f217:=Tryz.func198.trans (congrArg some (by kernel_rfl))
 f218:=Tryz.func197.trans (congrArg some (by kernel_rfl))
 f219:=Tryz.func158.trans (congrArg some (by kernel_rfl))
 f221:=Tryz.func110.trans (congrArg some (by kernel_rfl))
 f224:=Tryz.func200.trans (congrArg some (by kernel_rfl))
 f225:=Tryz.func199.trans (congrArg some (by kernel_rfl))
 f260:=Tryz.func223.trans (congrArg some (by kernel_rfl))
 f266:=Tryz.func224.trans (congrArg some (by kernel_rfl))
 f267:=Tryz.func201.trans (congrArg some (by kernel_rfl))
 f268:=Tryz.func154.trans (congrArg some (by kernel_rfl))
 f314:=Tryz.func225.trans (congrArg some (by kernel_rfl))
 t0:=Tryz.underlying0
 a0:=Tryz.isAgg0
 z0:=Tryz.sizeOf0
 v0:=Tryz.zeroValue0
 t3:=Tryz.underlying3
 a3:=Tryz.isAgg3
 z3:=Tryz.sizeOf3
 v3:=Tryz.zeroValue3
 t4:=Tryz.underlying4
 a4:=Tryz.isAgg4
 z4:=Tryz.sizeOf4
 v4:=Tryz.zeroValue4
 t5:=Tryz.underlying5
 a5:=Tryz.isAgg5
 z5:=Tryz.sizeOf5
 v5:=Tryz.zeroValue5
 t9:=Tryz.underlying9
 a9:=Tryz.isAgg9
 z9:=Tryz.sizeOf9
 v9:=Tryz.zeroValue9
 t21:=Tryz.underlying21
 a21:=Tryz.isAgg21
 z21:=Tryz.sizeOf21
 v21:=Tryz.zeroValue21
 t31:=Tryz.underlying68
 a31:=Tryz.isAgg68
 z31:=Tryz.sizeOf68
 v31:=Tryz.zeroValue68
 t46:=Tryz.underlying105
 a46:=Tryz.isAgg105
 z46:=Tryz.sizeOf105
 v46:=Tryz.zeroValue105
 t51:=Tryz.underlying237
 a51:=Tryz.isAgg237
 z51:=Tryz.sizeOf237
 v51:=Tryz.zeroValue237
 t105:=Tryz.underlying221
 a105:=Tryz.isAgg221
 z105:=Tryz.sizeOf221
 v105:=Tryz.zeroValue221
 t119:=Tryz.underlying260
 a119:=Tryz.isAgg260
 z119:=Tryz.sizeOf260
 t138:=Tryz.underlying262
 a138:=Tryz.isAgg262
 z138:=Tryz.sizeOf262
 v138:=Tryz.zeroValue262
 t139:=Tryz.underlying263
 a139:=Tryz.isAgg263
 z139:=Tryz.sizeOf263
 v139:=Tryz.zeroValue263
 t146:=Tryz.underlying238
 a146:=Tryz.isAgg238
 z146:=Tryz.sizeOf238
 v146:=Tryz.zeroValue238
 g1:=by kernel_rfl
 g3:=by kernel_rfl
 g4:=by kernel_rfl}
def Tryz.lays146_ren:Go.Shelf.Ren:=⟨fun|146=>67|221=>110|268=>154|138=>155|143=>156|195=>195|197=>196|218=>197|219=>158|260=>223|217=>198|225=>199|224=>200|267=>201|266=>224|314=>225|n=>n,fun|9=>9|31=>68|3=>3|4=>4|0=>0|105=>221|21=>21|5=>5|46=>105|119=>260|139=>263|138=>262|146=>238|51=>237|n=>n,fun|1=>0|3=>1|4=>2|n=>n⟩
def Tryz.lays146:Go.Proofs.Lays.n146 Tryz.prog Tryz.lays146_ren:={
 mixed:=by kernel_rfl
 f138:=Tryz.func155.trans (congrArg some (by kernel_rfl))
 f143:=Tryz.func156.trans (congrArg some (by kernel_rfl))
 f146:=Tryz.func67.trans (congrArg some (by kernel_rfl))
 f195:=Tryz.func195.trans (congrArg some (by kernel_rfl))
 f197:=Tryz.func196.trans (congrArg some (by kernel_rfl))
 f217:=Tryz.func198.trans (congrArg some (by kernel_rfl))
 f218:=Tryz.func197.trans (congrArg some (by kernel_rfl))
 f219:=Tryz.func158.trans (congrArg some (by kernel_rfl))
 f221:=Tryz.func110.trans (congrArg some (by kernel_rfl))
 f224:=Tryz.func200.trans (congrArg some (by kernel_rfl))
 f225:=Tryz.func199.trans (congrArg some (by kernel_rfl))
 f260:=Tryz.func223.trans (congrArg some (by kernel_rfl))
 f266:=Tryz.func224.trans (congrArg some (by kernel_rfl))
 f267:=Tryz.func201.trans (congrArg some (by kernel_rfl))
 f268:=Tryz.func154.trans (congrArg some (by kernel_rfl))
 f314:=Tryz.func225.trans (congrArg some (by kernel_rfl))
 t0:=Tryz.underlying0
 a0:=Tryz.isAgg0
 z0:=Tryz.sizeOf0
 v0:=Tryz.zeroValue0
 t3:=Tryz.underlying3
 a3:=Tryz.isAgg3
 z3:=Tryz.sizeOf3
 v3:=Tryz.zeroValue3
 t4:=Tryz.underlying4
 a4:=Tryz.isAgg4
 z4:=Tryz.sizeOf4
 v4:=Tryz.zeroValue4
 t5:=Tryz.underlying5
 a5:=Tryz.isAgg5
 z5:=Tryz.sizeOf5
 v5:=Tryz.zeroValue5
 t9:=Tryz.underlying9
 a9:=Tryz.isAgg9
 z9:=Tryz.sizeOf9
 v9:=Tryz.zeroValue9
 t21:=Tryz.underlying21
 a21:=Tryz.isAgg21
 z21:=Tryz.sizeOf21
 v21:=Tryz.zeroValue21
 t31:=Tryz.underlying68
 a31:=Tryz.isAgg68
 z31:=Tryz.sizeOf68
 v31:=Tryz.zeroValue68
 t46:=Tryz.underlying105
 a46:=Tryz.isAgg105
 z46:=Tryz.sizeOf105
 v46:=Tryz.zeroValue105
 t51:=Tryz.underlying237
 a51:=Tryz.isAgg237
 z51:=Tryz.sizeOf237
 v51:=Tryz.zeroValue237
 t105:=Tryz.underlying221
 a105:=Tryz.isAgg221
 z105:=Tryz.sizeOf221
 v105:=Tryz.zeroValue221
 t119:=Tryz.underlying260
 a119:=Tryz.isAgg260
 z119:=Tryz.sizeOf260
 t138:=Tryz.underlying262
 a138:=Tryz.isAgg262
 z138:=Tryz.sizeOf262
 v138:=Tryz.zeroValue262
 t139:=Tryz.underlying263
 a139:=Tryz.isAgg263
 z139:=Tryz.sizeOf263
 v139:=Tryz.zeroValue263
 t146:=Tryz.underlying238
 a146:=Tryz.isAgg238
 z146:=Tryz.sizeOf238
 v146:=Tryz.zeroValue238
 g1:=by kernel_rfl
 g3:=by kernel_rfl
 g4:=by kernel_rfl}
open Go.RowKit Go.Lib in
theorem Tryz.strings_Split (s sep:ByteArray)(m:Int)(w:World)(hs:s.size<4294967281)(hm:w.cell? ⟨0,0,none⟩=some (.int .i64 m))(h1:1≤sep.size):
  Calls Tryz.prog 67 #[.string s,.string sep] w fun e w'=>
   e=.returned (.slice (some ⟨w.heap.size,0,none⟩) (Lib.countB s sep+1) (Lib.countB s sep+1))∧w'=w.alloc (.cells ((Lib.splitB sep 0 (Lib.countB s sep) s).map Value.string).toArray 9):=Any.strings_Split Tryz.lays146 (by kernel_rfl) s sep m w hs hm h1
def Tryz.lays147_ren:Go.Shelf.Ren:=⟨fun|147=>159|221=>110|268=>154|138=>155|143=>156|195=>195|197=>196|218=>197|219=>158|260=>223|217=>198|225=>199|224=>200|267=>201|266=>224|314=>225|n=>n,fun|9=>9|3=>3|31=>68|4=>4|0=>0|105=>221|21=>21|5=>5|46=>105|119=>260|139=>263|138=>262|146=>238|51=>237|n=>n,fun|1=>0|3=>1|4=>2|n=>n⟩
def Tryz.lays147:Go.Proofs.Lays.n147 Tryz.prog Tryz.lays147_ren:={
 mixed:=by kernel_rfl
 f138:=Tryz.func155.trans (congrArg some (by kernel_rfl))
 f143:=Tryz.func156.trans (congrArg some (by kernel_rfl))
 f147:=Tryz.func159.trans (congrArg some (by kernel_rfl))
 f195:=Tryz.func195.trans (congrArg some (by kernel_rfl))
 f197:=Tryz.func196.trans (congrArg some (by kernel_rfl))
 f217:=Tryz.func198.trans (congrArg some (by kernel_rfl))
 f218:=Tryz.func197.trans (congrArg some (by kernel_rfl))
 f219:=Tryz.func158.trans (congrArg some (by kernel_rfl))
 f221:=Tryz.func110.trans (congrArg some (by kernel_rfl))
 f224:=Tryz.func200.trans (congrArg some (by kernel_rfl))
 f225:=Tryz.func199.trans (congrArg some (by kernel_rfl))
 f260:=Tryz.func223.trans (congrArg some (by kernel_rfl))
 f266:=Tryz.func224.trans (congrArg some (by kernel_rfl))
 f267:=Tryz.func201.trans (congrArg some (by kernel_rfl))
 f268:=Tryz.func154.trans (congrArg some (by kernel_rfl))
 f314:=Tryz.func225.trans (congrArg some (by kernel_rfl))
 t0:=Tryz.underlying0
 a0:=Tryz.isAgg0
 z0:=Tryz.sizeOf0
 v0:=Tryz.zeroValue0
 t3:=Tryz.underlying3
 a3:=Tryz.isAgg3
 z3:=Tryz.sizeOf3
 v3:=Tryz.zeroValue3
 t4:=Tryz.underlying4
 a4:=Tryz.isAgg4
 z4:=Tryz.sizeOf4
 v4:=Tryz.zeroValue4
 t5:=Tryz.underlying5
 a5:=Tryz.isAgg5
 z5:=Tryz.sizeOf5
 v5:=Tryz.zeroValue5
 t9:=Tryz.underlying9
 a9:=Tryz.isAgg9
 z9:=Tryz.sizeOf9
 v9:=Tryz.zeroValue9
 t21:=Tryz.underlying21
 a21:=Tryz.isAgg21
 z21:=Tryz.sizeOf21
 v21:=Tryz.zeroValue21
 t31:=Tryz.underlying68
 a31:=Tryz.isAgg68
 z31:=Tryz.sizeOf68
 v31:=Tryz.zeroValue68
 t46:=Tryz.underlying105
 a46:=Tryz.isAgg105
 z46:=Tryz.sizeOf105
 v46:=Tryz.zeroValue105
 t51:=Tryz.underlying237
 a51:=Tryz.isAgg237
 z51:=Tryz.sizeOf237
 v51:=Tryz.zeroValue237
 t105:=Tryz.underlying221
 a105:=Tryz.isAgg221
 z105:=Tryz.sizeOf221
 v105:=Tryz.zeroValue221
 t119:=Tryz.underlying260
 a119:=Tryz.isAgg260
 z119:=Tryz.sizeOf260
 t138:=Tryz.underlying262
 a138:=Tryz.isAgg262
 z138:=Tryz.sizeOf262
 v138:=Tryz.zeroValue262
 t139:=Tryz.underlying263
 a139:=Tryz.isAgg263
 z139:=Tryz.sizeOf263
 v139:=Tryz.zeroValue263
 t146:=Tryz.underlying238
 a146:=Tryz.isAgg238
 z146:=Tryz.sizeOf238
 v146:=Tryz.zeroValue238
 g1:=by kernel_rfl
 g3:=by kernel_rfl
 g4:=by kernel_rfl}
open Go.RowKit Go.Lib in
theorem Tryz.strings_SplitN (s sep:ByteArray)(n:Nat)(m:Int)(w:World)(hs:s.size<4294967281)(hm:w.cell? ⟨0,0,none⟩=some (.int .i64 m))(h1:1≤sep.size)(hn:1≤n)(hn63:n≤9223372036854775807):
  Calls Tryz.prog 159 #[.string s,.string sep,.int .i64 n] w fun e w'=>
   e=.returned (.slice (some ⟨w.heap.size,0,none⟩) (Lib.splitB sep 0 (min n (s.size+1) -1) s).length (min n (s.size+1)))∧w'=w.alloc (.cells (Lib.cellsOf (Lib.splitB sep 0 (min n (s.size+1) -1) s) (min n (s.size+1))) 9):=Any.strings_SplitN Tryz.lays147 (by kernel_rfl) s sep n m w hs hm h1 hn hn63
def Tryz.laysNm216_ren:Go.Shelf.Ren:=⟨fun|16=>86|n=>n,fun|24=>68|9=>9|4=>4|n=>n,fun|n=>n⟩
def Tryz.laysNm216:Go.Proofs.Lays2.n16 Tryz.prog Tryz.laysNm216_ren:={
 mixed:=by kernel_rfl
 f16:=Tryz.func86.trans (congrArg some (by kernel_rfl))
 t4:=Tryz.underlying4
 a4:=Tryz.isAgg4
 z4:=Tryz.sizeOf4
 v4:=Tryz.zeroValue4
 t9:=Tryz.underlying9
 a9:=Tryz.isAgg9
 z9:=Tryz.sizeOf9
 v9:=Tryz.zeroValue9
 t24:=Tryz.underlying68
 a24:=Tryz.isAgg68
 z24:=Tryz.sizeOf68
 v24:=Tryz.zeroValue68
 i9:=by kernel_rfl}
open Go.RowKit Go.Lib in
theorem Tryz.slices_Clone_string (b off n c:Nat)(zs:List ByteArray)(w:World)(hz:n≤zs.length)(hbig:n*16≤140737488355328)(hc:∀j,j<zs.length→w.cell? ⟨b,off+j,none⟩=some (.string (zs.getD j ByteArray.empty))):
  Calls Tryz.prog 86 #[.slice (some ⟨b,off,none⟩) n c] w fun e w'=>∃v',e=.returned v'∧w'.ownsRow w.heap.size 9 1 v' n ((zs.take n).map (Value.string))∧v'≠.slice none 0 0∧Below w.heap.size w w':=Any.slices_Clone_string Tryz.laysNm216 b off n c zs w hz hbig hc
open Go.RowKit Go.Lib in
theorem Tryz.slices_Clone_string_nil (n c:Nat)(w:World):
  Calls Tryz.prog 86 #[.slice none n c] w fun e w'=>e=.returned (.slice none 0 0)∧w'=w:=Any.slices_Clone_string_nil Tryz.laysNm216 n c w
open Go.RowKit Go.Lib in
theorem Tryz.slices_Clone_string_zero (a:Addr)(c:Nat)(w:World):
  Calls Tryz.prog 86 #[.slice (some a) 0 c] w fun e w'=>∃v',e=.returned v'∧w'.ownsRow w.heap.size 9 1 v' 0 []∧v'≠.slice none 0 0∧Below w.heap.size w w':=Any.slices_Clone_string_zero Tryz.laysNm216 a c w
end Go.Proofs
end
namespace Go.Abs
def Ns {s:au}(h:s.findIdx? (fun c=>c==10)=none):jo s=[s]:=by
 have hs:ak s 10=[s]:=by have:=pH 10 s [] h;simpa[ak]using this
 unfold jo UH zQ;rw[hs];rfl
def QE {s:au}{j:Nat}(h:s.findIdx? (fun c=>c==10)=some j):jo s=s.take (j+1)::jo (s.drop (j+1)):=by
 have hs:ak s 10=s.take j::ak (s.drop (j+1)) 10:=by have:=oa 10 s [] j h;simpa[ak]using this
 obtain⟨h1,h2,_⟩:=List.findIdx?_eq_some_iff_getElem.1 h;have ht:s.take (j+1)=s.take j++[10]:=by
  rw[List.take_add_one,List.getElem?_eq_getElem h1]
  grind
 obtain⟨A,b,hb⟩:∃A b,ak (s.drop (j+1)) 10=A++[b]:=⟨_,_,(List.dropLast_concat_getLast (pG _ _)).symm⟩
 grind [jo]
def OX:∀(k:Nat) (s:ByteArray),Lib.countB s ⟨⟨[10]⟩⟩=k->(Lib.splitB ⟨⟨[10]⟩⟩ 1 k s).map (fun t=>t.data.toList)=jo s.data.toList:=by
 intro k;induction k with
 |zero=>
  intro s h;rw[Lib.splitB_zero];have hi:Lib.indexB s ⟨⟨[10]⟩⟩=UE (s.data.toList.findIdx? (fun c=>c==10)):=tC _ 10;cases hq:s.data.toList.findIdx? (fun c=>c==10)with
  |none=>rw[Ns hq];rfl
  |some j=>
   rw[hq]at hi;have:=Lib.countB_hit s ⟨⟨[10]⟩⟩ j (aQ 1) hi;omega
 |succ k ih=>
  intro s h;have hi:Lib.indexB s ⟨⟨[10]⟩⟩=UE (s.data.toList.findIdx? (fun c=>c==10)):=tC _ 10;cases hq:s.data.toList.findIdx? (fun c=>c==10)with
  |none=>
   rw[hq]at hi;have:=Lib.countB_miss s ⟨⟨[10]⟩⟩ hi;omega
  |some j=>
   rw[hq]at hi;have hc:=Lib.countB_hit s ⟨⟨[10]⟩⟩ j (aQ 1) hi;have hl:(⟨⟨[10]⟩⟩:ByteArray).size=1:=rfl;rw[Lib.splitB_hit _ _ _ _ j hi,List.map_cons,ih _ ae,QE hq,Lib.extract_from_zero,Lib.extract_to_end];rfl
def TA (s:au):(jo s).length<=s.length+1/\∀t∈jo s,t.length<=s.length+1:=by
 have hl:=dD s 10;have hp:=eR 10 s [];refine⟨?_,fun t h1=>?_⟩
 ·unfold jo
  grind
 ·unfold jo at h1;rcases List.mem_append.1 h1 with h2|h2
  ·obtain⟨u,hu,rfl⟩:=dX.1 h2;have:=eH s 10 (lY hu);simp;omega
  grind [qf,ak]
def N8 (s:au):(Lib.trimSuffix s [10],Lib.hasSuffix s [10])=bF s:=by
 unfold Lib.trimSuffix Lib.hasSuffix bF;cases hq:s.getLast? with
 |none=>
  grind
 |some c=>
  obtain⟨r,rfl⟩:∃r,s=r++[c]:=by
   have hne:s≠[]:=by rintro rfl;cases hq
   refine⟨s.dropLast, ?_⟩;have:=List.dropLast_concat_getLast hne
   grind
  have e:([10]:au).isSuffixOf (r++[c])=decide (c=10):=by
   rw[Bool.eq_iff_iff,List.isSuffixOf_iff_suffix,aW];constructor
   ·rintro⟨q,hq⟩
    grind
   ·rintro rfl;exact⟨r,rfl⟩
  rw[e];by_cases h:c=10
  ·subst h;simp
  ·simp[h]
section
open Go.Proofs Go.Shelf Go.RowKit
section
variable [dz] {P:Program}
def mW (U:TypeId)(w:World)(v:Value)(s:List UInt8):Prop:=
 (v=.slice none 0 0/\s=[])\/∃g t c,v=.slice (some ⟨g,0,none⟩) s.length t/\w.heap[g]? =some (.cells c U (0,0))/\c.size=t/\t<=maxLen/\s.length<=t/\∀i,i<s.length->c.getD i undef=.int .u8 (s.getD i 0).toNat
def hZ (s:List UInt8):List Value:=s.map fun b=>Value.int .u8 b.toNat
def iV (s:List UInt8):(hZ s).length=s.length:=by simp[hZ]
theorem tg (s:List UInt8)(i:Nat)(h:i<s.length):(hZ s).getD i undef=.int .u8 (s.getD i 0).toNat:=by simp[hZ,List.getD,h]
def zk (s:List UInt8):∀u∈hZ s,u.oneCell'=true:=by
 intro u hu;obtain⟨b,_,rfl⟩:=dX.1 hu;rfl
def JP {x y:List UInt8}{zs:Array Value}(i:Nat)(hi:i<(x++y).length):(((hZ x++hZ y).toArray++zs).getD i undef)=.int .u8 ((x++y).getD i 0).toNat:=by
 rw[<-cd]
 grind [dm,hZ,tg]
def Su {U t u ty:TypeId}{i:TypeInfo}{w:World}(ht:P.underlying t=some (.slice U))(hi:P.info? U=some i)(hz:i.zero=some (.int .u8 0))(hs:i.size=1)(hby:i.bytes=1){v xv:Value}{s s2:List UInt8}
  (hv:mW U w v s) (h0:s2≠[]) (hsrc:Go.Src P 1 u xv s2.length (hZ s2) w) (hle:s.length+s2.length<=1099511627776):
  ∃g' t' w',(Builtin.append_ #[t,u] ty #[v,xv]).run P w=.ok (.slice (some ⟨g',0,none⟩) (s++s2).length t') w'/\mW U w' (.slice (some ⟨g',0,none⟩) (s++s2).length t') (s++s2)/\w.grownBy w' v.ownBlock/\(v.ownBlock=some g'\/w.heap.size<=g')/\g'<w'.heap.size:=by
 have hp:0<s2.length:=List.length_pos_iff.2 h0;have hm:maxLen=9223372036854775807:=rfl;rw[<-hs]at hsrc;rcases hv with⟨rfl,rfl⟩|⟨g,cap,c,rfl,hg,hcs,hcm,hle2,hc⟩
 ·have hr:=run_append_grow_src (P:=P) w t u ty U i _ ht hi hz none 0 0 [] (by simp[Builtin.firstCells,loadCells,loadCellsFrom]) xv s2.length (hZ s2) hsrc ae (by simp only[aB]at hle;omega) (by rw[hby];exact growslice_fits ae (by simp only[aB]at hle;omega));have hge:=grownCap_ge w (0+s2.length) 0 U;have hcm2:grownCap w (0+s2.length) 0 U<=maxLen:=grownCap_le_maxLen w (0+s2.length) 0 U (by simp only[aB]at hle;omega);simp only[bU,fC]at hr hge hcm2;refine⟨w.heap.size,_,_,hr,.inr ⟨w.heap.size,_,_,rfl,eC w.drew _, ?_,hcm2,hge,fun j hj=>?_⟩,⟨rfl,rfl,rfl, ?_,fun k hk _=>mb w.drew _ k hk⟩,.inr (aQ _), ?_⟩
  ·have hz1:(Value.int IntKind.u8 0).cells.size=1:=rfl;simp only[fC,Array.size_append,List.size_toArray,iV,size_zeroCells,hz1];omega
  ·exact JP (x:=[]) j hj
  ·show w.heap.size<=(w.drew.heap.push _).size;rw[Array.size_push];exact Nat.le_succ _
  ·show w.heap.size<(w.drew.heap.push _).size;rw[Array.size_push];exact Nat.lt_succ_self _
 ·by_cases hroom:s.length+s2.length<=cap
  ·have hr:=run_append_room_src (P:=P) w t u ty U i ht hi g 0 s.length cap xv s2.length (hZ s2) hsrc hroom (fun j hj=>by
    rw[hs,cell_of_heap hg (by rw[iV]at hj;omega)];rfl) (fun j hj=>by simp[World.frozen?,hg])
   obtain⟨c',s1,s3,s4⟩:=mc g (hZ s2) (0+s.length*i.size) w c U (0,0) hg (by rw[iV,hs];omega);obtain⟨f1,f2,f3,f4⟩:=kT g (hZ s2) (0+s.length*i.size) w;have hlt:g<w.heap.size:=by
    rcases gU g w.heap.size with h|h
    ·exact h
    ·simp[Array.getElem?_eq_none h]at hg
   refine⟨g,cap,_,by simpa using hr,.inr ⟨g,cap,c',aT,s1,ae,hcm,by rw[bG];exact hroom,fun j hj=>?_⟩,⟨f1,f2,f3,ae,fun k _ hk=>kU g _ _ _ k (fun e=>hk (by simp[Value.ownBlock,e]))⟩,.inl rfl,ae⟩;rw[s4,iV,hs];rw[bG]at hj;by_cases hj2:j<s.length
   ·rw[aj ae,hc j hj2,dm,ax hj2]
   ·rw[ax ae,tg _ _ ae,dm,aj hj2];congr 4;omega
  ·have hold:(Builtin.firstCells i.size s.length (.slice (some ⟨g,0,none⟩) s.length cap)).run P w.drew=.ok (hZ s).toArray w.drew:=by
    refine run_firstCells_some w.drew i.size s.length _ s.length cap _ (by simp[iV,hs]) (fun j u' hj=>?_);have hj2:j<s.length:=by
     have:=(List.getElem?_eq_some_iff.1 hj).1;rwa [iV]at this
    have hg':w.drew.heap[g]? =some (.cells c U (0,0)):=hg;rw[Addr.xq,cell_of_heap hg' ae,bU,hc j hj2,<-tg s j hj2];simp[List.getD,hj]
   have hr:=run_append_grow_src (P:=P) w t u ty U i _ ht hi hz (some ⟨g,0,none⟩) s.length cap (hZ s) hold xv s2.length (hZ s2) hsrc ae ae (by rw[hby];exact growslice_fits ae ae);have hge:=grownCap_ge w (s.length+s2.length) cap U;have hcm2:grownCap w (s.length+s2.length) cap U<=maxLen:=grownCap_le_maxLen w (s.length+s2.length) cap U ae;refine⟨w.heap.size,_,_,by simpa using hr,.inr ⟨w.heap.size,_,_,aT,eC w.drew _, ?_,hcm2,by simpa using hge,fun j hj=>?_⟩,⟨rfl,rfl,rfl, ?_,fun k hk _=>mb w.drew _ k hk⟩,.inr (aQ _), ?_⟩
   ·have hz1:(Value.int IntKind.u8 0).cells.size=1:=rfl;simp only[Array.size_append,List.size_toArray,bG,iV,size_zeroCells,hz1];omega
   ·exact JP j hj
   ·show w.heap.size<=(w.drew.heap.push _).size;rw[Array.size_push];exact Nat.le_succ _
   ·show w.heap.size<(w.drew.heap.push _).size;rw[Array.size_push];exact Nat.lt_succ_self _
def AW {ops:Array Oper}{rest:List Oper}{o:Oper}{a:Act}{Q:Exit->Act->World->Prop}(hgd:o.guard=none)(sl x:Operand)(t u:TypeId)
  (ho:o.op=.call {callee:=.builtin .append,args:=#[sl,x],argTypes:=#[t,u]}) {U:TypeId} {i:TypeInfo} {w:World}
  (ht:P.underlying t=some (.slice U)) (hi:P.info? U=some i) (hz:i.zero=some (.int .u8 0)) (hsz:i.size=1) (hby:i.bytes=1) {v xv:Value} {s s2:List UInt8} (hs:a.eval sl=v) (hx:a.eval x=xv)
  (hv:mW U w v s) (h0:s2≠[]) (hsrc:Go.Src P 1 u xv s2.length (hZ s2) w) (hle:s.length+s2.length<=1099511627776)
  (h:∀g' t' w',mW U w' (.slice (some ⟨g',0,none⟩) (s++s2).length t') (s++s2)->w.grownBy w' v.ownBlock->(v.ownBlock=some g'\/w.heap.size<=g')->g'<w'.heap.size->wpList P ops Q rest (a.put o.dst (.slice (some ⟨g',0,none⟩) (s++s2).length t')) w'):wpList P ops Q (o::rest) a w:=by
 refine wpList_plain hgd fun K hK=>?_
 obtain⟨g',t',w',hr,h2,h3,h4,h5⟩:=Su (P:=P) (ty:=o.type) ht hi hz hsz hby hv h0 hsrc hle;unfold Oper.wp execOp;simp only[ho,resolve,invoke,builtin,Sem.run_bind,Sem.run_pure,Result.andThen_ok,List.map_toArray,List.map_cons,List.map_nil,hs,hx,hr];exact hK _ _ (h g' t' w' h2 h3 h4 h5)
def HL (w:World)(g n:Nat):(w.drew.freeze ⟨g,0,none⟩ n).os=w.os/\(w.drew.freeze ⟨g,0,none⟩ n).tape=w.tape/\(w.drew.freeze ⟨g,0,none⟩ n).output=w.output/\(w.drew.freeze ⟨g,0,none⟩ n).heap.size=w.heap.size/\∀k,k≠g->(w.drew.freeze ⟨g,0,none⟩ n).heap[k]? =w.heap[k]? :=by
 unfold World.freeze;split
 ·exact⟨rfl,rfl,rfl,rfl,fun _ _=>rfl⟩
 ·refine⟨rfl,rfl,rfl,aT,fun k hk=>?_⟩;simp only[Array.getElem?_modify];rw[aj (fun e=>hk e.symm)];rfl
def sF (b:Nat)(u:Bool)(v:Value)(T:TypeId):Obj:=.cells #[.pointer (if u=true then some ⟨b,0,none⟩else none),v] T (0,0)
variable {J:Ren}
def BF (L:Lays.n240 P J)(X:Builder.X72 P J){b:Nat}{u:Bool}{v:Value}{w:World}(h:w.heap[b]? =some (sF b u v (J.t 72))):
  Calls P (J.f 240) #[.pointer (some ⟨b,0,none⟩)] w fun e w'=>e=.returned (.tuple #[])/\w'.heap[b]? =some (sF b true v (J.t 72))/\w.grownBy w' (some b):=by
 unfold sF at h;cases u with
 |true=>
  refine(Any.Builder_copyCheck_used L X b w (by rw[Lib.cell_of_heap h];rfl)).mono ?_;rintro e w' ⟨rfl,rfl⟩;exact⟨rfl,h,⟨rfl,rfl,rfl,aQ _,fun _ _ _=>rfl⟩⟩
 |false=>
  refine(Any.Builder_copyCheck_fresh L X b w (by rw[Lib.cell_of_heap h];rfl) (by simp[World.shape?,h]) (Lib.frozen_of_heap h 0)).mono ?_;rintro e w' ⟨rfl,rfl⟩;exact⟨rfl,by simp[World.setCell,Array.getElem?_modify,h,sF],⟨rfl,rfl,rfl,by simp[World.setCell],fun k _ hk=>Below.heap_setCell _ _ _ _ (fun e=>hk (by simp[e]))⟩⟩
def EK (T U:TypeId)(b:Nat)(g:Option Nat)(s:List UInt8)(w w':World):Prop:=
 ∃g' t',w'.heap[b]? =some (sF b true (.slice (some ⟨g',0,none⟩) s.length t') T)/\mW U w' (.slice (some ⟨g',0,none⟩) s.length t') s/\(g=some g'\/w.heap.size<=g')/\g'<w'.heap.size/\g'≠b/\
  w'.os=w.os/\w'.tape=w.tape/\w'.output=w.output/\w.heap.size<=w'.heap.size/\∀k,k<w.heap.size->k≠b->some k≠g->w'.heap[k]? =w.heap[k]?
def mW.p8 {U:TypeId}{w w':World}{v:Value}{s:List UInt8}(h:mW U w v s)(hk:∀g,v.ownBlock=some g->w'.heap[g]? =w.heap[g]?):mW U w' v s:=by
 rcases h with h|⟨g,t,c,rfl,hg,r⟩
 ·exact .inl h
 ·exact .inr ⟨g,t,c,rfl,(hk g rfl).trans hg,r⟩
def mW.lt {U:TypeId}{w:World}{v:Value}{s:List UInt8}(h:mW U w v s){g:Nat}(hg:v.ownBlock=some g):g<w.heap.size/\∃c,w.heap[g]? =some (.cells c U (0,0)):=by
 rcases h with⟨rfl,_⟩|⟨g',t,c,rfl,hg',r⟩
 ·cases hg
 ·simp only[Value.ownBlock,a8]at hg
  grind
set_option maxHeartbeats 2000000 in
set_option maxRecDepth 100000 in
theorem xr (L:Lays.n166 P J)(X:Builder.Extra P J){b:Nat}{u:Bool}{v:Value}{s s2:List UInt8}{w:World}(h:w.heap[b]? =some (sF b u v (J.t 72)))(hv:mW (J.t 5) w v s)(h0:s2≠[])(hm2:s2.length<=maxLen)(hle:s.length+s2.length<=1099511627776):
  Calls P (J.f 166) #[.pointer (some ⟨b,0,none⟩),.string ⟨⟨s2⟩⟩] w fun e w'=>(∃r,e=.returned r)/\EK (J.t 72) (J.t 5) b v.ownBlock (s++s2) w w':=by
 obtain⟨i0,hi,hz0,hz1,hz2⟩:=info_parts X.infoByte;have mixed:=L.mixed;have t72:=L.t72;have a72:=L.a72;have z72:=L.z72;have v72:=L.v72;have u72:=run_underlying L.t72;have t70:=L.t70;have a70:=L.a70;have z70:=L.z70;have v70:=L.v70;have u70:=run_underlying L.t70;have t37:=L.t37;have a37:=L.a37;have z37:=L.z37;have v37:=L.v37;have u37:=run_underlying L.t37;have t3:=L.t3;have a3:=L.a3;have z3:=L.z3;have v3:=L.v3;have u3:=run_underlying L.t3;have t9:=L.t9;have a9:=L.a9;have z9:=L.z9;have v9:=L.v9;have u9:=run_underlying L.t9;have t4:=L.t4;have a4:=L.a4;have z4:=L.z4;have v4:=L.v4;have u4:=run_underlying L.t4;have t164:=L.t164;have a164:=L.a164;have z164:=L.z164;have v164:=L.v164;have u164:=run_underlying L.t164;have t5:=X.t5;have a5:=X.a5;have z5:=X.z5;have v5:=X.v5;have u5:=run_underlying X.t5;have e240:∀args w,(callFunc (J.f 240) args).run P w=.ok (.enter (J.f 240) args) w:=enters_of L.f240 od rfl
 have hne:∀g,v.ownBlock=some g->g≠b:=by
  rintro g hg rfl;obtain⟨_,c,hc⟩:=hv.lt hg;rw[h]at hc;simp only[sF,a8,Obj.cells.injEq]at hc;exact X.neB5 hc.2.1
 go_enter L.f166,Body.n166_ntmps J
 go_wp2_with (go_at_fn (J.f 240);refine(BF {L with} X.toX72 h).mono ?_)
 rintro e w1 ⟨rfl,h1,hb1⟩;have hv1:mW (J.t 5) w1 v s:=hv.p8 fun g hg=>hb1.block g (hv.lt hg).1 (fun e=>hne g hg (b9 e))
 have c0:w1.cell? ⟨b,0,none⟩=some (.pointer (some ⟨b,0,none⟩)):=by rw[Lib.cell_of_heap h1];rfl
 have c1:w1.cell? ⟨b,1,none⟩=some v:=by rw[Lib.cell_of_heap h1];rfl
 have hsrc:Go.Src P 1 (J.t 9) (.string ⟨⟨s2⟩⟩) s2.length (hZ s2) w1:=⟨.inr L.t9,fun _=>rfl,firstCells_string _ _,firstCells_string _ _,by rw[iV,Nat.mul_one],zk s2⟩;have key:=fun ops rest o a Q hgd ho hs hx h=>AW (P:=P) (ops:=ops) (rest:=rest) (o:=o) (a:=a) (Q:=Q) hgd (.tmp 12) (.tmp 13) (J.t 37) (J.t 9) ho L.t37 hi hz0 hz1 hz2 (v:=v) (xv:=.string ⟨⟨s2⟩⟩) hs hx hv1 h0 hsrc hle h
 go_wp2_with (at_builtin;refine key _ _ _ _ _ rfl rfl rfl rfl ?_)
 clear key;intro g' t' w2 hown' hgrow hg' hlt';have hlt:b<w1.heap.size:=by
  rcases gU b w1.heap.size with h'|h'
  ·exact h'
  ·simp[Array.getElem?_eq_none h']at h1
 have fH:w2.heap[b]? =some (sF b true v (J.t 72)):=by
  rw[hgrow.block b hlt (fun e=>hne b e.symm rfl)];exact h1
 have hgb:g'≠b:=by
  rcases hg' with h'|h'
  ·exact hne g' h'
  ·omega
 have d0:w2.cell? ⟨b,0,none⟩=some (.pointer (some ⟨b,0,none⟩)):=by rw[Lib.cell_of_heap fH];rfl
 have d1:w2.cell? ⟨b,1,none⟩=some v:=by rw[Lib.cell_of_heap fH];rfl
 have f1:w2.frozen? ⟨b,1,none⟩=false:=Lib.frozen_of_heap fH 1
 go_wp2
 go_ret2
 have hsz:=hb1.size;refine⟨⟨_,rfl⟩, ?_⟩;unfold EK;simp only[bG]at hown'⊢;refine⟨g',t',by simp[World.setCell,Array.getElem?_modify,fH,sF],hown'.p8 fun g hg=>Below.heap_setCell w2 ⟨b,1,none⟩ _ g (fun e=>hgb ((b9 hg).trans e)),hg'.imp id (fun h=>ae),by simpa[World.setCell]using hlt',hgb,hgrow.os.trans hb1.os,hgrow.tape.trans hb1.tape,hgrow.output.trans hb1.output,by have:=hgrow.size;simp[World.setCell];omega,fun k hk h1' h2'=>?_⟩;rw[Below.heap_setCell w2 ⟨b,1,none⟩ _ k h1',hgrow.block k ae h2',hb1.block k hk (fun e=>h1' (b9 e))]
set_option maxHeartbeats 2000000 in
set_option maxRecDepth 100000 in
theorem A6 (L:Lays.n167 P J)(X:Builder.Extra P J){b:Nat}{u:Bool}{v:Value}{s:List UInt8}{c:UInt8}{w:World}(h:w.heap[b]? =some (sF b u v (J.t 72)))(hv:mW (J.t 5) w v s)(hle:s.length+1<=1099511627776):
  Calls P (J.f 167) #[.pointer (some ⟨b,0,none⟩),.int .u8 c.toNat] w fun e w'=>(∃r,e=.returned r)/\EK (J.t 72) (J.t 5) b v.ownBlock (s++[c]) w w':=by
 obtain⟨i0,hi,hz0,hz1,hz2⟩:=info_parts X.infoByte;have mixed:=L.mixed;have t72:=L.t72;have a72:=L.a72;have z72:=L.z72;have v72:=L.v72;have u72:=run_underlying L.t72;have t70:=L.t70;have a70:=L.a70;have z70:=L.z70;have v70:=L.v70;have u70:=run_underlying L.t70;have t37:=L.t37;have a37:=L.a37;have z37:=L.z37;have v37:=L.v37;have u37:=run_underlying L.t37;have t9:=L.t9;have a9:=L.a9;have z9:=L.z9;have v9:=L.v9;have u9:=run_underlying L.t9;have t4:=L.t4;have a4:=L.a4;have z4:=L.z4;have v4:=L.v4;have u4:=run_underlying L.t4;have t164:=L.t164;have a164:=L.a164;have z164:=L.z164;have v164:=L.v164;have u164:=run_underlying L.t164;have t5:=L.t5;have a5:=L.a5;have z5:=L.z5;have v5:=L.v5;have u5:=run_underlying L.t5;have e240:∀args w,(callFunc (J.f 240) args).run P w=.ok (.enter (J.f 240) args) w:=enters_of L.f240 od rfl
 have hne:∀g,v.ownBlock=some g->g≠b:=by
  rintro g hg rfl;obtain⟨_,c,hc⟩:=hv.lt hg;rw[h]at hc;simp only[sF,a8,Obj.cells.injEq]at hc;exact X.neB5 hc.2.1
 go_enter L.f167,Body.n167_ntmps J
 go_wp2_with (go_at_fn (J.f 240);refine(BF {L with} X.toX72 h).mono ?_)
 rintro e w1 ⟨rfl,h1,hb1⟩;have hv1:mW (J.t 5) w1 v s:=hv.p8 fun g hg=>hb1.block g (hv.lt hg).1 (fun e=>hne g hg (b9 e))
 have c0:w1.cell? ⟨b,0,none⟩=some (.pointer (some ⟨b,0,none⟩)):=by rw[Lib.cell_of_heap h1];rfl
 have c1:w1.cell? ⟨b,1,none⟩=some v:=by rw[Lib.cell_of_heap h1];rfl
 have key:=fun ob ops rest o a Q sl x hgd ho hs hx hv2 hsrc h=>AW (P:=P) (w:=w1.alloc ob) (ops:=ops) (rest:=rest) (o:=o) (a:=a) (Q:=Q) hgd sl x (J.t 37) (J.t 37) ho L.t37 hi hz0 hz1 hz2 (v:=v) (xv:=.slice (some ⟨w1.heap.size,0,none⟩) 1 1) (s:=s) (s2:=[c]) hs hx hv2 (List.cons_ne_nil _ _) hsrc hle h
 go_wp2_with (at_builtin;refine key _ _ _ _ _ _ _ _ rfl rfl rfl rfl (hv1.p8 fun g hg=>Lib.alloc_old w1 _ g (hv1.lt hg).1) ?hs ?_)
 case hs=>
  refine Go.Src.ofSlice _ L.t37 ⟨w1.heap.size,0,none⟩ 1 1 _ rfl (fun j u hj=>?_) (zk [c])
  match j,hj with
  |0,hj=>simp[hZ]at hj;subst hj;simp[Addr.add]
 clear key;intro g' t' w2 hown' hgrow hg' hlt';have hlt:b<w1.heap.size:=by
  rcases gU b w1.heap.size with h'|h'
  ·exact h'
  ·simp[Array.getElem?_eq_none h']at h1
 have fH:w2.heap[b]? =some (sF b true v (J.t 72)):=by
  rw[hgrow.block b cH (fun e=>hne b e.symm rfl),Lib.alloc_old w1 _ b hlt];exact h1
 have hgb:g'≠b:=by
  rcases hg' with h'|h'
  ·exact hne g' h'
  ·omega
 have d0:w2.cell? ⟨b,0,none⟩=some (.pointer (some ⟨b,0,none⟩)):=by rw[Lib.cell_of_heap fH];rfl
 have d1:w2.cell? ⟨b,1,none⟩=some v:=by rw[Lib.cell_of_heap fH];rfl
 have f1:w2.frozen? ⟨b,1,none⟩=false:=Lib.frozen_of_heap fH 1
 go_wp2
 go_ret
 have hsz:=hb1.size;refine⟨⟨_,rfl⟩, ?_⟩;unfold EK;simp only[bG]at hown'⊢;refine⟨g',t',by simp[World.setCell,Array.getElem?_modify,fH,sF],hown'.p8 fun g hg=>Below.heap_setCell w2 ⟨b,1,none⟩ _ g (fun e=>hgb ((b9 hg).trans e)),hg'.imp id (fun h=>ae),by simpa[World.setCell]using hlt',hgb,hgrow.os.trans hb1.os,hgrow.tape.trans hb1.tape,hgrow.output.trans hb1.output,by have:=hgrow.size;simp at this;simp[World.setCell];omega,fun k hk h1' h2'=>?_⟩;rw[Below.heap_setCell w2 ⟨b,1,none⟩ _ k h1',hgrow.block k cH h2',Lib.alloc_old w1 _ k ae,hb1.block k hk (fun e=>h1' (b9 e))]
set_option maxHeartbeats 1000000 in
set_option maxRecDepth 100000 in
theorem Hz (L:Lays.n169 P J)(X:Builder.Extra P J){b g t:Nat}{u:Bool}{s:List UInt8}{w:World}(h:w.heap[b]? =some (sF b u (.slice (some ⟨g,0,none⟩) s.length t) (J.t 72)))(hv:mW (J.t 5) w (.slice (some ⟨g,0,none⟩) s.length t) s)(h0:s≠[]):
  Calls P (J.f 169) #[.pointer (some ⟨b,0,none⟩)] w fun e w'=>e=.returned (.string ⟨⟨s⟩⟩)/\w'.os=w.os/\w'.tape=w.tape/\w'.output=w.output/\w'.heap.size=w.heap.size/\∀k,k≠g->w'.heap[k]? =w.heap[k]? :=by
 have hl0:s.length≠0:=by simpa using h0
 obtain⟨c,hg,hcs,hcm,hle,hc⟩:∃c,w.heap[g]? =some (.cells c (J.t 5) (0,0))/\c.size=t/\t<=maxLen/\s.length<=t/\∀i,i<s.length->c.getD i undef=.int .u8 (s.getD i 0).toNat:=by
  rcases hv with⟨h1,_⟩|⟨g',t',c,h1,r⟩
  ·cases h1
  ·simp only[Value.slice.injEq,a8,Addr.mk.injEq]at h1;obtain⟨⟨rfl,_⟩,_,rfl⟩:=h1;exact⟨c,r⟩
 have c1:w.drew.cell? ⟨b,1,none⟩=some (.slice (some ⟨g,0,none⟩) s.length t):=by
  have:w.drew.heap[b]? =some (sF b u (.slice (some ⟨g,0,none⟩) s.length t) (J.t 72)):=h;rw[Lib.cell_of_heap this];rfl
 have hSD:(Builtin.unsafeSliceData_ #[(J.t 37)] (J.t 127) #[.slice (some ⟨g,0,none⟩) s.length t]).run P w.drew=.ok (.pointer (some ⟨g,0,none⟩)) w.drew:=
  Lib.run_unsafeSliceData_row _ _ _ _ _ _ ae
 have hUS:(Builtin.unsafeString_ #[(J.t 127),(J.t 3)] (J.t 9) #[.pointer (some ⟨g,0,none⟩),.int .i64 s.length]).run P w.drew=.ok (.string ⟨s.toArray⟩) (w.drew.freeze ⟨g,0,none⟩ s.length):=by
  refine Lib.run_unsafeString_row w.drew (J.t 127) (J.t 3) (J.t 9) (J.t 5) L.t127 X.cellsByte g c.size (by have hg':w.drew.heap[g]? =some (.cells c (J.t 5) (0,0)):=hg;simp[World.shape?,hg']) s h0 ae (by unfold maxLen at hcm;omega) ?_;intro j x hx;have hj:=(List.getElem?_eq_some_iff.1 hx).1;have hg':w.drew.heap[g]? =some (.cells c (J.t 5) (0,0)):=hg;rw[Addr.xq,cell_of_heap hg' ae,bU,hc j hj];simp[List.getD,hx]
 have mixed:=L.mixed;have t72:=L.t72;have a72:=L.a72;have z72:=L.z72;have v72:=L.v72;have u72:=run_underlying L.t72;have t70:=L.t70;have a70:=L.a70;have z70:=L.z70;have v70:=L.v70;have u70:=run_underlying L.t70;have t37:=L.t37;have a37:=L.a37;have z37:=L.z37;have v37:=L.v37;have u37:=run_underlying L.t37;have t127:=L.t127;have a127:=L.a127;have z127:=L.z127;have v127:=L.v127;have u127:=run_underlying L.t127;have t3:=L.t3;have a3:=L.a3;have z3:=L.z3;have v3:=L.v3;have u3:=run_underlying L.t3;have t9:=L.t9;have a9:=L.a9;have z9:=L.z9;have v9:=L.v9;have u9:=run_underlying L.t9;have t5:=X.t5;have a5:=X.a5;have z5:=X.z5;have v5:=X.v5;have u5:=run_underlying X.t5
 go_enter L.f169,Body.n169_ntmps J
 go_wp2
 go_region_o
 all_goals (go_wp2;go_ret;exact⟨rfl,HL _ _ _⟩)
end
end
end Go.Abs
