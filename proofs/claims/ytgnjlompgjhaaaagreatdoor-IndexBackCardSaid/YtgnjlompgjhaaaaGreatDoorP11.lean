/- A part of the proofs. -/
import Derived.Ground.Names2Prog
import Derived.Ground.SlgnProg
import Derived.KernelRfl
import Derived.Shelf.LaysM
import Derived.Shelf.Slices.Clone
import Derived.Shelf.Slices.SearchI
import Derived.Shelf.SlicesE.Clone
import Derived.Shelf.Small.Strs
import Derived.Shelf.Small.Utf8
import Derived.Shelf.Small.Wraps
import Derived.Shelf.Strconv.Itoa0
import Derived.Shelf.Strconv.Itoa1
import Derived.Shelf.Strconv.Itoa2
import Derived.Shelf.Strconv.Itoa3
import Derived.Shelf.Strings.AsciiSet
import Derived.Shelf.Strings.Builder1
import Derived.Shelf.Strings.Builder2
import Derived.Shelf.Strings.Count
import Derived.Shelf.Strings.Cut
import Derived.Shelf.Strings.Explode
import Derived.Shelf.Strings.OnBuilder
import Derived.Shelf.Strings.Prefix
import Derived.Shelf.Strings.RuneCount
import Derived.Shelf.Strings.Runes
import Derived.Shelf.Strings.Search1
import Derived.Shelf.Strings.Search2
import Derived.Shelf.Strings.Search3
import Derived.Shelf.Strings.Shaped
import Derived.Shelf.Strings.Split
import Derived.Shelf.Strings.SplitShaped
import Derived.Shelf.Strings.Trim
import Derived.Shelf.Unicode.Decode
import Derived.Shelf.Unicode.DecodeAny
import Derived.Shelf.Unicode.DecodeLast
import Derived.Shelf.Unicode.DecodeSlow
import Derived.Shelf.Utf8.RuneCount
import Derived.Test.YtgnjlompgjhaaaaGreatDoorProg
import Derived.Test.YtgnjlompgjhaaaaGreatDoorP10
set_option linter.all false
set_option maxRecDepth 4000
namespace Go.Abs
variable {Y:Ctx}(hm:(Y.at 0).cd)
def ID:aF:=⟨1,13,gQ,bQ,(sq (rg [gb 9 s0,gm cse] [(2,0),(1,1)]) (sq (r2 [gf 0 s2,gd l0,aw (cs [112,97,99,107,97,103,101,32]) l1,aw l2 (cs [32]),gf 1 s2,gk 5 true l4,gx 316 [l5] zH,aw l3 l6,aw l7 (cs [10]),gm l8] 5 9) (sq (sq (r1 [gm bp] 3 0) (.block 0 (.loop (sq (sq (r1 [gm s3,gf 6 s2,gd l1,gl l2,aO l0 l3] 4 4) (fh s4 0)) (sq (.block 1 (sq (r1 [gm s5,aw l0 (cs [110,101,101,100,10]),gm l1] 5 2) (sq (sq (r1 [gm bp] 6 0) (.block 2 (.loop (sq (sq (r1 [gm s6,gf 6 s2,gd l1,gm s3,ga 3 l2 l3,gf 0 l4,gd l5,gl l6,aO l0 l7] 7 8) (fh s7 2)) (sq (.block 3 (r1 [gm s5,gf 6 s2,gd l1,gm s3,ga 3 l2 l3,gf 0 l4,gd l5,gm s6,ga 4 l6 l7,gk 4 true l8,gx 461 [l9] [[.a,.a,.sl 1 [.a],.a]],aw l0 l10,gm gh] 5 12)) (r1 [gm s6,aw l0 bV,gm l1] 6 2)))))) (sq (r1 [gm s5,gf 6 s2,gd l1,gm s3,ga 3 l2 l3,gf 1 l4,gd l5,gx 462 [l6] bQ,aw l0 l7,gm l8] 5 9) (sq (r1 [gf 6 s2,gd l0,gm s3,ga 3 l1 l2,gf 2 l3,gd l4,bO l5 cse] 8 6) (.cond s8 (r1 [gm s5,aw l0 (cs [111,112,116,105,111,110,32]),gf 6 s2,gd l2,gm s3,ga 3 l3 l4,gf 2 l5,gd l6,aw l1 l7,aw l8 (cs [10]),gm l9] 5 10) .skip)))))) (r1 [gm s3,aw l0 bV,gm l1] 3 2)))))) (sq (sq (r1 [gm bp] 9 0) (.block 4 (.loop (sq (sq (r1 [gm s9,gf 7 s2,gd l1,gl l2,aO l0 l3] 10 4) (fh jh 4)) (sq (.block 5 (r2 [gm s5,aw l0 (cs [98,97,114,32]),gf 7 s2,gd l2,gm s9,ga 3 l3 l4,gf 0 l5,gd l6,aw l1 l7,aw l8 (cs [32]),gf 7 s2,gd l10,gm s9,ga 3 gh iE,gf 1 jr,gd j5,aw l9 lr,aw mK (cs [10]),gf 7 s2,gd qC,gm s9,ga 3 rm va,gf 2 xB,gd A5,gx 462 [Ew] bQ,aw pM Fz,gm Hg] 5 26)) (r1 [gm s9,aw l0 bV,gm l1] 9 2)))))) (sq (sq (r1 [gm bp] 11 0) (.block 6 (.loop (sq (sq (r1 [gm lf,gf 8 s2,gd l1,gl l2,aO l0 l3] 12 4) (fh j8 6)) (sq (.block 7 (r2 [gm s5,gf 8 s2,gd l1,gm lf,ga 2 l2 l3,gf 0 l4,gd l5,gn (.bsl 1 (.str []) 2 [(0,(cs [102,101,97,116,117,114,101])),(1,l6)]),gf 8 s2,gd l8,gm lf,ga 2 l9 l10,gf 1 gh,gd iE,gn (.app 1 l7 jr),gx 249 [j5,(i8 32)] [[.sl 1 [.a]],[.a]],aw l0 lr,aw mK (cs [10]),gm pM] 5 18)) (r1 [gm lf,aw l0 bV,gm l1] 11 2)))))) (sq (r1 [gm s5,gm l0] 1 1) .ret))))))⟩
def w219 (h249:Si Y)(h316:Yc Y)(h461:Yw Y)(h462:Yx Y)(r:Rec)  (hp0:wP r/\fF r):de Y ID (.str (fY r)) [Rec.D r]:=by
 show bG _ _ _ [⟨_,_⟩,_,_,_,_,_,_,_,_,_,_,_,_] _;have hft:=B0 hp0;have q0:=hft.nm;have q00:=AR r.v hft.v;refine aq ?_;refine aG ?_;refine fS ?_;refine fS ?_;refine aC ?_;refine bD (v:=cZ.D r.v) ?_;refine ai (hc:=h316 r.v hft.v) ?_;refine fS ?_;refine fS ?_;refine aG ?_;refine a7 hm (ι:=Nat) (fun i=>[.un,.un,⟨true,.ptr 0 9 0 0⟩,⟨true,.int .i64 (i:Nat)⟩,.un,⟨true,.str (kt r i)⟩,.un,.un,.un,.un,.un,.un,.un]) (fun i=>[(0,.buf 9 [Rec.D r])]) 13 (fun i=>i<=r.needs.length) (fun i=>r.needs.length-i) 0 ae (aX.to [(0,0)] ah ah (by repeat(first|exact dE.nil|refine dE.un ?_|refine dE.eq ah ?_|refine dE.nl (ar D.str (by rw[RP];simp[qt,b7,aS,eR])) ah ?_)) rC) ?_;intro i hi;have q1:=Ec hft i hi;refine aG ?_;intro u0;refine ay ?_;refine cC (fun hc0=>?_) fun hc0=>?_
 .refine aA ?_;have hnf:=hft.n _ (bB (show i<r.needs.length by omega));have hn3:=hnf.1.1;refine aC ?_;refine fS ?_;refine aG ?_;refine a7 hm (ι:=Nat) (fun j=>[.un,.un,⟨true,.ptr 0 9 0 0⟩,⟨true,.int .i64 (i:Nat)⟩,.un,⟨true,.str (kt r i++dU r.needs[i]! j)⟩,⟨true,.int .i64 (j:Nat)⟩,.un,.un,.un,.un,.un,.un]) (fun j=>[(0,.buf 9 [Rec.D r])]) 22 (fun j=>j<=r.needs[i]!.any.length) (fun j=>r.needs[i]!.any.length-j) 0 ae (aX.to [(0,0)] ah ah (by repeat(first|exact dE.nil|refine dE.un ?_|refine dE.eq ah ?_|refine dE.nl (ar D.str (by rw[Tw])) ah ?_)) rC) ?_;intro j hj;have q2:=Cc hnf j ae;refine hY ?_;intro u1;refine ay ?_;refine cC (fun hc1=>?_) fun hc1=>?_
  .refine aA ?_;have hwf:=hnf.1.2 _ (bB (show j<r.needs[i]!.any.length by omega));have q3:=wC hwf;refine c7 ?_;first|refine bS (v:=(b6.D _)) ?_|refine eK (v:=(b6.D _)) ?_
   refine ai (hc:=h461 r.needs[i]!.any[j]! hwf) ?_;refine fS ?_;refine c7 ?_;exact⟨j+1,ae,ae,(aX.to [(0,0)] ah ah (by repeat(first|exact dE.nil|refine dE.un ?_|refine dE.eq ah ?_|refine dE.nl (ar D.str (by rw[nU ae,dY])) ah ?_)) rC)⟩
  refine aA ?_;have q4:=nH hnf.2.1;have q5:=hnf.2.2;refine aY ?_;refine ai (hc:=h462 r.needs[i]!.when' hnf.2.1) ?_;refine fS ?_;refine fT ?_;refine fH (fun hc2=>?_) fun hc2=>?_
  .refine ay ?_;refine fS ?_;refine aG ?_;refine fS ?_;refine fS ?_;refine c7 ?_;have hq:kt r (i+1)=kt r i++(dU r.needs[i]! j++hX r.needs[i]!.when'++qD r.needs[i]!.option):=by rw[mE ae,vS (j:=j) ae]
   have ho:qD r.needs[i]!.option=[111,112,116,105,111,110,32]++r.needs[i]!.option++[10]:=by rw[qD,aj hc2];simp[b7,aS,eh]
   exact⟨i+1,ae,ae,(aX.to [(0,0)] ah ah (by repeat(first|exact dE.nil|refine dE.un ?_|refine dE.eq ah ?_|refine dE.nl (ar D.str (by rw[hq,ho];simp only[dY])) ah ?_)) rC)⟩
  refine bJ ?_;have hq:kt r (i+1)=kt r i++(dU r.needs[i]! j++hX r.needs[i]!.when'++qD r.needs[i]!.option):=by rw[mE ae,vS (j:=j) ae]
  have ho:qD r.needs[i]!.option=[]:=by rw[qD,ax hc2]
  exact⟨i+1,ae,ae,(aX.to [(0,0)] ah ah (by repeat(first|exact dE.nil|refine dE.un ?_|refine dE.eq ah ?_|refine dE.nl (ar D.str (by rw[hq,ho];simp only[dY,gG])) ah ?_)) rC)⟩
 refine aE ?_;have h33:i=r.needs.length:=ae;subst h33;refine ay ?_;refine a7 hm (ι:=Nat) (fun i=>[.un,.un,⟨true,.ptr 0 9 0 0⟩,.un,.un,⟨true,.str (AN r i)⟩,.un,.un,.un,⟨true,.int .i64 (i:Nat)⟩,.un,.un,.un]) (fun i=>[(0,.buf 9 [Rec.D r])]) 19 (fun i=>i<=r.bars.length) (fun i=>r.bars.length-i) 0 ae (aX.to [(0,0)] ah ah (by repeat(first|exact dE.nil|refine dE.un ?_|refine dE.eq ah ?_|refine dE.nl (ar D.str (by rw[RQ])) ah ?_)) rC) ?_;intro i hi;have q1:=Ed hft i hi;refine aG ?_;intro u2;refine ay ?_;refine cC (fun hc3=>?_) fun hc3=>?_
 .refine aA ?_;have q4:=hft.b _ (bB (show i<r.bars.length by omega));have q5:=q4.1;have q6:=q4.2.1;have q7:=nH q4.2.2;refine aC ?_;refine fS ?_;refine aG ?_;refine fS ?_;refine fS ?_;refine aG ?_;refine fS ?_;refine fS ?_;refine aG ?_;refine ai (hc:=h462 r.bars[i]!.when' q4.2.2) ?_;refine fS ?_;refine c7 ?_;have hq:=GL (r:=r) (i:=i) ae;exact⟨i+1,ae,ae,(aX.to [(0,0)] ah ah (by repeat(first|exact dE.nil|refine dE.un ?_|refine dE.eq ah ?_|refine dE.nl (ar D.str (by rw[hq];simp[ug,b7,aS,iQ])) ah ?_)) rC)⟩
 refine aE ?_;have h33:i=r.bars.length:=ae;subst h33;refine ay ?_;refine a7 hm (ι:=Nat) (fun i=>[.un,.un,⟨true,.ptr 0 9 0 0⟩,.un,.un,⟨true,.str (CR r i)⟩,.un,.un,.un,.un,.un,⟨true,.int .i64 (i:Nat)⟩,.un]) (fun i=>[(0,.buf 9 [Rec.D r])]) 25 (fun i=>i<=r.feats.length) (fun i=>r.feats.length-i) 0 ae (aX.to [(0,0)] ah ah (by repeat(first|exact dE.nil|refine dE.un ?_|refine dE.eq ah ?_|refine dE.nl (ar D.str (by rw[RR])) ah ?_)) rC) ?_;intro i hi;have q1:=KA hft i hi;refine aG ?_;intro u3;refine ay ?_;refine cC (fun hc4=>?_) fun hc4=>?_
 .refine aA ?_;have q4:=hft.f _ (bB (show i<r.feats.length by omega));have q5:=BS q4;have q6:=q4.2;simp only[qq,b7,bF,az,aB]at q5;refine aY ?_;refine dh [(.str _),(.str _)] ?_;refine aG ?_;refine Q6 (xs:=[cH,r.feats[i]!.name]) (ys:=r.feats[i]!.of) (he:=sX.sl) (hb:=by simp only[az,aB];omega) ?_;refine ai (hc:=h249 ([cH,r.feats[i]!.name]++r.feats[i]!.of) 32 ae) (ha:=fun _=>ar (fun d=>[d,D.int .u8 32]) (oD (q:=D.str) (fun _=>rfl) ah)) (hp:=fun _=>⟨mH (q:=D.str) (fun _=>rfl) ah,rfl,trivial⟩) ?_;refine c9 (hb:=fun _=>by first|omega|(simp only[bF,az,aB];omega)) ?_;refine c9 (hb:=fun _=>by first|omega|(simp only[bF,az,aB];omega)) ?_;refine c7 ?_;have hq:=GN (r:=r) (i:=i) ae;exact⟨i+1,ae,ae,(aX.to [(0,0)] ah ah (by repeat(first|exact dE.nil|refine dE.un ?_|refine dE.eq ah ?_|refine dE.nl (ar D.str (by rw[hq];simp[qq,b7])) ah ?_)) rC)⟩
 refine aA ?_;have h33:i=r.feats.length:=ae;subst h33;refine aE ?_;refine cU ?_;exact Ef r
def Ga:aF:=⟨1,6,[⟨1,none⟩,⟨2,none⟩],fQ,(sq (rg [gb 9 s0,gm cse,gm bp] [(3,0),(1,1),(2,2)]) (sq (sq (r1 [gk 9 true s3,gx 71 [l0] [[.a,.a,.a,.a,.a,.a,.sl 3 [.sl 4 [.a,.a,.sl 1 [.a],.a],.a,.a],.sl 3 [.a,.a,.a],.sl 2 [.a,.sl 1 [.a]]]],gm l1,ge l2 0,ge l2 1,gm l3,gm l4] 4 5) (sq (r1 [gm s4,bO l0 bp] 5 1) (.cond s5 (sq (rg [gm s4,gm cse,gm l0] [(1,1),(2,2)]) .ret) .skip))) (sq (rg [gk 9 true s3,gx 219 [l0] [[.a,.a,.a,.a,.a,.a,.sl 3 [.sl 4 [.a,.a,.sl 1 [.a],.a],.a,.a],.sl 3 [.a,.a,.a],.sl 2 [.a,.sl 1 [.a]]]],gm l1,gm bp] [(1,2),(2,3)]) .ret)))⟩
def w73 {Y:Ctx}(hm:(Y.at 0).cd)(h71:C71 Y)(h219:Vc Y)(r:Rec)  (hp0:fF r):de Y Ga (.tup [.str (df r).1,.int .i64 (df r).2]) [Rec.D r]:=by
 show bG _ _ _ [⟨_,_⟩,_,_,_,_,_] _;refine aq ?_;refine aY ?_;refine ai (hc:=h71 r hp0) ?_;refine fT ?_;refine cC (fun hc0=>?_) fun hc0=>?_
 .refine aY ?_;refine bM (aM (ar D.str ?_) (ar (D.int .i64) ?_));all_goals
   simp[df,hc0]
 refine ay ?_;have hgd:=qP hc0;refine aC ?_;refine ai (hc:=h219 r ⟨hgd,hp0⟩) ?_;refine aE ?_;refine bM (aM (ar D.str ?_) (ar (D.int .i64) ?_));all_goals
  simp[df,hc0]
def C73 (Y:Ctx):Prop:=En (br Y 73)
def NK:aF:=⟨1,7,[⟨1,none⟩,⟨2,none⟩],fQ,(sq (rg [gb 9 s0,gm (iu 0),gm bp] [(3,0),(1,1),(2,2)]) (sq (rg [gk 9 true s3,gx 73 [l0] [[.a,.a,.a,.a,.a,.a,.sl 3 [.sl 4 [.a,.a,.sl 1 [.a],.a],.a,.a],.sl 3 [.a,.a,.a],.sl 2 [.a,.sl 1 [.a]]]],gm l1,ge l2 0,ge l2 1,gm l3,gm l4] [(6,5),(4,6)]) (sq (sq (r1 [gm s4,bO l0 bp] 5 1) (.cond s5 (sq (rg [gm s4,gm (iu 0),gm l0] [(1,1),(2,2)]) .ret) .skip)) (sq (rg [gm s6,gn (.s2b l0),gx 221 [l1] [[.sl 1 [.a]]],gm l2,gm bp] [(1,3),(2,4)]) .ret))))⟩
def w75 {Y:Ctx}(hm:(Y.at 0).cd)(h73:C73 Y)(h221:XY Y)(r:Rec)  (hp0:fF r):de Y NK (.tup [.int .u64 (mC r),.int .i64 (df r).2]) [Rec.D r]:=by
 show bG _ _ _ [⟨_,_⟩,_,_,_,_,_,_] _;refine aq ?_;refine aG ?_;refine ai (hc:=h73 r hp0) ?_;refine fT ?_;refine cC (fun hc0=>?_) fun hc0=>?_
 .refine aY ?_;refine bM (aM (ar (D.int .u64) ?_) (ar (D.int .i64) ?_));all_goals
   simp[mC,hc0]
 refine aE ?_;refine ai (hc:=h221 (df r).1) (ha:=fun _=>ar (fun d=>[d]) (oD (q:=fun b:UInt8=>D.int .u8 b.toNat) (fun _=>rfl) ah)) (hp:=fun _=>⟨mH (q:=fun b:UInt8=>D.int .u8 b.toNat) (fun _=>rfl) ah,trivial⟩) ?_;refine aE ?_;refine bM (aM (ar (D.int .u64) ?_) (ar (D.int .i64) ?_));all_goals
  simp[mC,hc0]
def C75 (Y:Ctx):Prop:=Eo (br Y 75)
def NN:aF:=⟨2,5,[⟨2,none⟩],bQ,(sq (rg [gb 5 s0,gb 5 s1,gm dk] [(3,0),(4,1),(2,2)]) (sq (r1 [gk 5 true s3,gx 217 [l0] zH,gm l1,bZ 2 (.ld 5 true s4),bZ 2 (.call 217 [l3] zH),eG l2 l4,gm l5,bZ 6 (.ld 5 true s3),bZ 6 (.ld 5 true s4),bZ 6 (.call 424 [l7,l8] [[.a,.a,.a,.a,.a],[.a,.a,.a,.a,.a]]),bZ 6 (cO l9 bp),eG l6 l10,gm gh] 2 12) .ret))⟩
def w501 {Y:Ctx}(hm:(Y.at 0).cd)(h217:L8 Y)(h424:Yh Y)(a:cZ)(b:cZ)  (hp0:a.sm/\b.sm):de Y NN (.bool (DK a b)) [cZ.D a,cZ.D b]:=by
 show bG _ _ _ [⟨_,_⟩,⟨_,_⟩,_,_,_] _;refine aq ?_;refine aG ?_;refine ai (hc:=h217 a hp0.1) ?_;refine ay ?_;refine cV (hc:=fun hf=>h217 b hp0.2) ?_;refine aE ?_;refine cV (hc:=fun hf=>h424 a b hp0) ?_;refine aI ?_;exact bI rfl
def YK (Y:Ctx):Prop:=yS (br Y 501)
def Gd:aF:=⟨3,8,[⟨3,none⟩],bQ,(sq (rg [gb 5 s2,gm bp] [(6,0),(3,1)]) (sq (sq (r1 [gm bp] 4 0) (.block 0 (.loop (sq (sq (r1 [gm s4,gm s0,gl l1,aO l0 l2] 5 3) (fh s5 0)) (sq (.block 1 (sq (r2 [gm s0,gm s4,ga 11 l0 l1,gf 0 l2,gf 0 l3,gd l4,gm s1,aL l5 l6,gm l7,gmt 8 s0,gmt 8 s4,bZ 8 (.ia 11 l9 l10),k9 8 0 gh,k9 8 1 iE,bZ 8 (.ld 5 true jr),bZ 8 (.ld 5 true s6),bZ 8 (.call 501 [j5,lr] [[.a,.a,.a,.a,.a],[.a,.a,.a,.a,.a]]),eG l8 mK] 7 17) (.cond s7 (sq (r1 [gm s4,gm l0] 3 1) .ret) .skip))) (r1 [gm s4,aw l0 bV,gm l1] 4 2)))))) (sq (r1 [gn (.mv (.c (.int .i64 (-1))))] 3 0) .ret)))⟩
def w580 (h501:YK Y)(l:List cY)(nm:au)(v:cZ)  (hp0:(∀x∈l,x.r.v.sm)/\v.sm):de Y Gd (.int .i64 (sG l nm v 0)) [.sl 11 (l.map cY.D),.str nm,cZ.D v]:=by
 show bG _ _ _ [⟨_,_⟩,⟨_,_⟩,⟨_,_⟩,_,_,_,_,_] _;refine aq ?_;refine aY ?_;refine a7 hm (ι:=Nat) (fun i=>[⟨true,.sl 11 (l.map cY.D)⟩,⟨true,.str nm⟩,.un,.un,⟨true,.int .i64 (i:Nat)⟩,.un,⟨true,.ptr 0 5 0 0⟩,.un]) (fun i=>[(0,.buf 5 [cZ.D v])]) 3 (fun i=>i<=l.length/\sG l nm v 0=sG l nm v i) (fun i=>l.length-i) 0 ⟨ae,rfl⟩ (dp [(0,0)]) ?_;rintro i ⟨hi,hr⟩;refine aI ?_;intro u0;refine ay ?_;refine cC (fun hc0=>?_) fun hc0=>?_
 .refine aI ?_;refine cb i ?_;refine ay ?_;refine bS (v:=.str l[i]!.r.name) ?_;refine aI ?_;refine cb i ?_;refine ay ?_;refine bS (v:=cZ.D l[i]!.r.v) ?_;refine aC ?_;refine cV (hc:=fun hf=>h501 l[i]!.r.v v ⟨hp0.1 _ (bB ae),hp0.2⟩) ?_;refine ay ?_;refine fH (fun hc1=>?_) fun hc1=>?_
  .refine aY ?_;refine cS ?_;rw[hr,QR ae (Tm hc1)]
  refine bJ ?_;exact⟨i+1,⟨ae,by rw[hr,QT ae (WC hc1)]⟩,ae,(dp [(0,0)])⟩
 refine aG ?_;refine cS ?_;rw[hr,J4 ae]
def Vv (Y:Ctx):Prop:=yF (br Y 580)
def NM:aF:=⟨1,10,gQ,bQ,(sq (rg [gb 2 s0,gm dk] [(2,0),(1,1)]) (sq (sq (r1 [gf 0 s2,gd l0,gx 216 [l1] bQ,jJ l2,gm l3,gJ 4 1 s2,iD 4 l5,cl 4 (.len l6),cl 4 (ew l7 (i6 64)),eW l4 l8] 3 9) (mj s3 dk)) (sq (sq (r1 [gm bp] 4 0) (.block 0 (.loop (sq (sq (r1 [gm s4,gf 1 s2,gd l1,gl l2,aO l0 l3] 5 4) (fh s5 0)) (sq (.block 1 (sq (r1 [gf 1 s2,gd l0,gm s4,ga 11 l1 l2,gk 11 true l3,gb 11 (.c (.agg [.str [],.int .i64 0,.int .i64 0,.int .i64 0,.str [],.str [],.aD,.aD,.aD,.int .u64 0,.bool false])),gt 11 l5 l4] 6 5) (sq (rg [gf 0 s6,gk 9 true l0,gx 75 [l1] [[.a,.a,.a,.a,.a,.a,.sl 3 [.sl 4 [.a,.a,.sl 1 [.a],.a],.a,.a],.sl 3 [.a,.a,.a],.sl 2 [.a,.sl 1 [.a]]]],gm l2,ge l3 0,ge l3 1,gm l4,gm l5] [(8,6),(7,7)]) (sq (r1 [gm s7,bO l0 bp,gm l1,eO 2 s8,gJ 2 9 s6,iD 2 l4,cl 2 (ei l3 l5),eW l2 l6,gm l7,gJ 8 1 s2,iD 8 l9,gJ 8 0 s6,gJ 8 0 gh,iD 8 iE,gJ 8 0 s6,gJ 8 1 j5,cl 8 (.ld 5 true lr),cl 8 (.call 580 [l10,jr,mK] [[.sl 11 [.a,.a,.a,.a,.a,.a,.sl 3 [.sl 4 [.a,.a,.sl 1 [.a],.a],.a,.a],.sl 3 [.a,.a,.a],.sl 2 [.a,.sl 1 [.a]],.a,.a]],[.a],[.a,.a,.a,.a,.a]]),eO 8 s4,cl 8 (ei pM qC),eW l8 rm] 9 20) (mj s9 dk))))) (r1 [gm s4,aw l0 bV,gm l1] 4 2)))))) (xx oS))))⟩
def w358 (h75:C75 Y)(h216:L7 Y)(h580:Vv Y)(s:fk)  (hp0:∀x∈s.es,fF x.r):de Y NM (.bool (ji s)) [fk.D s]:=by
 show bG _ _ _ [⟨_,_⟩,_,_,_,_,_,_,_,_,_] _;refine aq ?_;refine aG ?_;refine bD (v:=.str s.name) ?_;refine ai (hc:=h216 _) ?_;refine aA ?_;refine bD (v:=.sl 11 (s.es.map cY.D)) ?_;refine jI ?_;refine aA ?_;refine av (fun hc0=>?_) (fun hc0=>?_)
 .simp only[cX,bz,aV]at hc0;have hf:ji s=false:=by
   unfold ji;rcases hc0 with h|h
   .rw[h];rfl
   .rw[show decide (s.es.length<=64)=false from cT ae];simp
  refine aI ?_;refine bI ?_;exact hf.symm
 simp only[dH,bP,bt]at hc0;have hq:ji s=cP (oa s.es) 0 s.es.length:=by unfold ji;rw[hc0.1,cj (show s.es.length<=64 by omega)];simp
 refine aI ?_;refine a7 hm (ι:=Nat) (fun i=>[.un,.un,⟨true,.ptr 0 2 0 0⟩,.un,⟨true,.int .i64 (i:Nat)⟩,.un,.un,.un,.un,.un]) (fun i=>[(0,.buf 2 [fk.D s])]) 13 (fun i=>i<=s.es.length/\ji s=cP (oa s.es) i s.es.length) (fun i=>s.es.length-i) 0 ⟨ae,hq⟩ (dp [(0,0)]) ?_;rintro i ⟨hi,hr⟩;refine aE ?_;refine bD (v:=.sl 11 (s.es.map cY.D)) ?_;refine aC ?_;intro u0;refine ay ?_;refine cC (fun hc1=>?_) fun hc1=>?_
 .refine aA ?_;have hsm:=hp0 _ (bB (show i<s.es.length by omega));refine aC ?_;refine bD (v:=.sl 11 (s.es.map cY.D)) ?_;refine aC ?_;refine cb i ?_;refine bS (v:=cY.D s.es[i]!) ?_;refine aC ?_;refine aU (cY.D s.es[i]!) (he:=bd) ?_;refine aA ?_;refine bD (v:=Rec.D s.es[i]!.r) ?_;refine ai (hc:=h75 s.es[i]!.r hsm) ?_;refine fU ?_;refine bD (v:=.int .u64 s.es[i]!.sum) ?_;refine aE ?_;refine bD (v:=.sl 11 (s.es.map cY.D)) ?_;refine ay ?_;refine bD (v:=.str s.es[i]!.r.name) ?_;refine ay ?_;refine bD (v:=cZ.D s.es[i]!.r.v) ?_;refine cV (hc:=fun hf=>h580 s.es s.es[i]!.r.name s.es[i]!.r.v ⟨fun x hx=>(hp0 x hx).1.2,hsm.1.2⟩) ?_;refine aE ?_;refine wp_cond (fun hc2=>?_) (fun hc2=>?_)
  .have hen:oa s.es i=false:=by
    simp only[cX,bz,aV,bt]at hc2;exact SR ae hc2
   refine aG ?_;refine bI ?_;rw[hr,aR ae,hen];rfl
  have hen:oa s.es i=true:=by
   simp only[dH,bP,aV,bt]at hc2;exact PA ae hc2.1.1 hc2.1.2 hc2.2
  refine bJ ?_;exact⟨i+1,⟨ae,by rw[hr,aR ae,hen];rfl⟩,ae,(dp [(0,0)])⟩
 refine aG ?_;refine bI ?_;rw[hr,ca ae]
def Yg (Y:Ctx):Prop:=yy (br Y 358)
def Ax:aF:=⟨2,5,[⟨2,none⟩],bQ,(sq (rg [gb 4 s0,gb 4 s1,gm dk] [(3,0),(4,1),(2,2)]) (sq (r1 [gf 0 s3,gd l0,gf 0 s4,gd l2,aL l1 l3,gm l4,k9 5 1 s3,kn 5 l6,k9 5 1 s4,kn 5 l8,bZ 5 (cO l7 l9),eG l5 l10,gm gh,k9 12 3 s3,kn 12 jr,k9 12 3 s4,kn 12 lr,bZ 12 (.eqA false false [.b] j5 mK),eG iE pM,gm qC,k9 19 2 s3,kn 19 va,k9 19 2 s4,kn 19 A5,bZ 19 (.call 226 [xB,Ew] [[.sl 1 [.a]],[.sl 1 [.a]]]),eG rm Fz,gm Hg] 2 26) .ret))⟩
def w477 {Y:Ctx}(hm:(Y.at 0).cd)(h226:Vd Y)(a:b6)(b:b6)   :de Y Ax (.bool (decide (a=b))) [b6.D a,b6.D b]:=by
 show bG _ _ _ [⟨_,_⟩,⟨_,_⟩,_,_,_] _;refine aq ?_;refine Sa ?_;refine UT (hb:=Wo _ _) ?_;refine aG ?_;refine ai (hc:=h226 _ _) ?_;refine aE ?_;refine bI ?_;rw[b6.xd a b]
def Lp (T:List D->D->Prop):Prop:=∀(a:b6) (b:b6),T [b6.D a,b6.D b] (.bool (decide (a=b)))
def YC (Y:Ctx):Prop:=Lp (br Y 477)
def Aw:aF:=⟨2,9,[⟨2,none⟩],bQ,(sq (rg [gb 3 s0,gb 3 s1,gm dk] [(3,0),(4,1),(2,2)]) (sq (sq (r1 [gf 1 s3,gd l0,gf 1 s4,gd l2,bO l1 l3,gm l4,gJ 5 2 s3,iD 5 l6,gJ 5 2 s4,iD 5 l8,cl 5 (ei l7 l9),eW l5 l10,gm gh,gJ 12 0 s3,iD 12 jr,cl 12 (.len j5),gJ 12 0 s4,iD 12 mK,cl 12 (.len pM),cl 12 (ei lr qC),eW iE rm] 5 20) (.cond s5 (sq (r1 [gm dk] 2 0) .ret) .skip)) (sq (sq (r1 [gm bp] 6 0) (.block 0 (.loop (sq (sq (r1 [gm s6,gf 0 s3,gd l1,gl l2,aO l0 l3] 7 4) (fh s7 0)) (sq (.block 1 (sq (r2 [gf 0 s3,gd l0,gm s6,ga 4 l1 l2,gk 4 true l3,gf 0 s4,gd l5,gm s6,ga 4 l6 l7,gk 4 true l8,gx 477 [l4,l9] [[.a,.a,.sl 1 [.a],.a],[.a,.a,.sl 1 [.a],.a]],jJ l10] 8 11) (.cond s8 (sq (r1 [gm dk] 2 0) .ret) .skip))) (r1 [gm s6,aw l0 bV,gm l1] 6 2)))))) (sq (r1 [gm oS] 2 0) .ret))))⟩
def w225 (h477:YC Y)(a:bN)(b:bN)   :de Y Aw (.bool (decide (a=b))) [bN.D a,bN.D b]:=by
 show bG _ _ _ [⟨_,_⟩,⟨_,_⟩,_,_,_,_,_,_,_] _;refine aq ?_;refine zzz21 ?_;refine jI ?_;refine ay ?_;refine jI ?_;refine aA ?_;refine av (fun hc0=>?_) (fun hc0=>?_)
 .simp only[cX,bz,bt]at hc0;refine aI ?_;refine bI ?_;symm;rw[bt];rintro rfl;simp at hc0
 simp only[dH,bP,aV]at hc0;refine aI ?_;have hb:=bN.same3 hc0.1.1 hc0.1.2 ae;refine a7 hm (ι:=Nat) (fun i=>[.un,.un,.un,⟨true,.ptr 0 3 0 0⟩,⟨true,.ptr 1 3 0 0⟩,.un,⟨true,.int .i64 (i:Nat)⟩,.un,.un]) (fun i=>[(0,.buf 3 [bN.D a]),(1,.buf 3 [bN.D b])]) 25 (fun i=>i<=a.any.length/\decide (a=b)=cP (fun i=>decide (a.any[i]! =b.any[i]!)) i a.any.length) (fun i=>a.any.length-i) 0 ⟨ae,hb⟩ (dp [(0,0),(1,1)]) ?_;rintro i ⟨hi,hr⟩;refine aG ?_;intro u0;refine ay ?_;refine cC (fun hc1=>?_) fun hc1=>?_
 .refine aY ?_;first|refine bS (v:=(b6.D _)) ?_|refine eK (v:=(b6.D _)) ?_
  refine aE ?_;first|refine bS (v:=(b6.D _)) ?_|refine eK (v:=(b6.D _)) ?_
  refine ai (hc:=h477 _ _) ?_;refine ay ?_;refine wp_cond (fun hc2=>?_) (fun hc2=>?_)
  .simp only[bz,bt]at hc2;refine aG ?_;refine bI ?_;rw[hr,aR ae,cT hc2];rfl
  simp only[bP,aV]at hc2;refine bJ ?_;exact⟨i+1,⟨ae,by rw[hr,aR ae,cj hc2];rfl⟩,ae,(dp [(0,0),(1,1)])⟩
 refine aG ?_;refine bI ?_;rw[hr,ca ae]
def KM (T:List D->D->Prop):Prop:=∀(a:bN) (b:bN),T [bN.D a,bN.D b] (.bool (decide (a=b)))
def X0 (Y:Ctx):Prop:=KM (br Y 225)
def IB:aF:=⟨2,15,[⟨2,none⟩],bQ,(sq (rg [gb 9 s0,gb 9 s1,gm dk] [(3,0),(4,1),(2,2)]) (sq (sq (r1 [gf 0 s3,gd l0,gf 0 s4,gd l2,bO l1 l3,gm l4,gJ 5 1 s3,cl 5 (.ld 5 true l6),gJ 5 1 s4,cl 5 (.ld 5 true l8),cl 5 (.eqA true true [.i .i64,.i .i64,.i .i64,.s,.s] l7 l9),eW l5 l10,gm gh,gJ 12 6 s3,iD 12 jr,cl 12 (.len j5),gJ 12 6 s4,iD 12 mK,cl 12 (.len pM),cl 12 (ei lr qC),eW iE rm,gm va,gJ 21 7 s3,iD 21 A5,cl 21 (.len Ew),gJ 21 7 s4,iD 21 Hg,cl 21 (.len OI),cl 21 (ei Fz Sf),eW xB UM,gm UN,gJ 30 8 s3,iD 30 l31,cl 30 (.len l32),gJ 30 8 s4,iD 30 l34,cl 30 (.len l35),cl 30 (ei l33 l36),eW XH l37] 5 38) (.cond s5 (sq (r1 [gm dk] 2 0) .ret) .skip)) (sq (sq (r1 [gm bp] 6 0) (.block 0 (.loop (sq (sq (r1 [gm s6,gf 6 s3,gd l1,gl l2,aO l0 l3] 7 4) (fh s7 0)) (sq (.block 1 (sq (r2 [gf 6 s3,gd l0,gm s6,ga 3 l1 l2,gk 3 true l3,gf 6 s4,gd l5,gm s6,ga 3 l6 l7,gk 3 true l8,gx 225 [l4,l9] [[.sl 4 [.a,.a,.sl 1 [.a],.a],.a,.a],[.sl 4 [.a,.a,.sl 1 [.a],.a],.a,.a]],jJ l10] 8 11) (.cond s8 (sq (r1 [gm dk] 2 0) .ret) .skip))) (r1 [gm s6,aw l0 bV,gm l1] 6 2)))))) (sq (sq (r1 [gm bp] 9 0) (.block 2 (.loop (sq (sq (r1 [gm s9,gf 7 s3,gd l1,gl l2,aO l0 l3] 10 4) (fh jh 2)) (sq (.block 3 (sq (r2 [gf 7 s3,gd l0,gm s9,ga 3 l1 l2,gk 3 true l3,gf 7 s4,gd l5,gm s9,ga 3 l6 l7,gk 3 true l8,gn (.eqA true true [.s,.s,.s] l4 l9)] 11 10) (.cond lf (sq (r1 [gm dk] 2 0) .ret) .skip))) (r1 [gm s9,aw l0 bV,gm l1] 9 2)))))) (sq (sq (r1 [gm bp] 12 0) (.block 4 (.loop (sq (sq (r1 [gm j8,gf 8 s3,gd l1,gl l2,aO l0 l3] 13 4) (fh qG 4)) (sq (.block 5 (sq (r2 [gf 8 s3,gd l0,gm j8,ga 2 l1 l2,gf 0 l3,gd l4,gf 8 s4,gd l6,gm j8,ga 2 l7 l8,gf 0 l9,gd l10,bO l5 gh,gm iE,gJ 13 8 s3,iD 13 j5,eO 13 j8,cl 13 (.ia 2 lr mK),gJ 13 1 pM,iD 13 qC,gJ 13 8 s4,iD 13 va,eO 13 j8,cl 13 (.ia 2 xB A5),gJ 13 1 Ew,iD 13 Fz,cl 13 (.call 226 [rm,Hg] [[.sl 1 [.a]],[.sl 1 [.a]]]),cl 13 (.un .not OI),eW jr Sf] 14 28) (.cond qv (sq (r1 [gm dk] 2 0) .ret) .skip))) (r1 [gm j8,aw l0 bV,gm l1] 12 2)))))) (sq (r1 [gm oS] 2 0) .ret))))))⟩
def w78 (h225:X0 Y)(h226:Vd Y)(a:Rec)(b:Rec)   :de Y IB (.bool (decide (a=b))) [Rec.D a,Rec.D b]:=by
 show bG _ _ _ [⟨_,_⟩,⟨_,_⟩,_,_,_,_,_,_,_,_,_,_,_,_,_] _;refine aq ?_;refine lz ?_;refine bD (v:=(cZ.D _)) ?_;refine aC ?_;refine bD (v:=(cZ.D _)) ?_;refine Kb (hb:=cZ.eq _ _) ?_;refine aE ?_;refine jI ?_;refine ay ?_;refine jI ?_;refine aI ?_;refine jI ?_;refine ay ?_;refine jI ?_;refine aI ?_;refine jI ?_;refine ay ?_;refine jI ?_;refine aA ?_;refine av (fun hc0=>?_) (fun hc0=>?_)
 .simp only[cX,bz,bt]at hc0;refine aI ?_;refine bI ?_;symm;rw[bt];rintro rfl;simp at hc0
 simp only[dH,bP,aV]at hc0;refine aI ?_;have hb:=pE (show a.needs.length=b.needs.length by omega);refine a7 hm (ι:=Nat) (fun i=>[.un,.un,.un,⟨true,.ptr 0 9 0 0⟩,⟨true,.ptr 1 9 0 0⟩,.un,⟨true,.int .i64 (i:Nat)⟩,.un,.un,.un,.un,.un,.un,.un,.un]) (fun i=>[(0,.buf 9 [Rec.D a]),(1,.buf 9 [Rec.D b])]) 43 (fun i=>i<=a.needs.length/\decide (a.needs=b.needs)=cP (fun i=>decide (a.needs[i]! =b.needs[i]!)) i a.needs.length) (fun i=>a.needs.length-i) 0 ⟨ae,hb⟩ (dp [(0,0),(1,1)]) ?_;rintro i ⟨hi,hr⟩;refine aG ?_;intro u0;refine ay ?_;refine cC (fun hc1=>?_) fun hc1=>?_
 .refine aY ?_;first|refine bS (v:=(bN.D _)) ?_|refine eK (v:=(bN.D _)) ?_
  refine aE ?_;first|refine bS (v:=(bN.D _)) ?_|refine eK (v:=(bN.D _)) ?_
  refine ai (hc:=h225 _ _) ?_;refine ay ?_;refine wp_cond (fun hc2=>?_) (fun hc2=>?_)
  .simp only[bz,bt]at hc2;refine aG ?_;refine bI ?_;have hd:decide (a.needs=b.needs)=false:=by rw[hr,aR ae,cT hc2];rfl
   rw[Rec.xd a b,hd];simp
  simp only[bP,aV]at hc2;refine bJ ?_;exact⟨i+1,⟨ae,by rw[hr,aR ae,cj hc2];rfl⟩,ae,(dp [(0,0),(1,1)])⟩
 refine aE ?_;have hn:decide (a.needs=b.needs)=true:=by rw[hr,ca ae]
 refine ay ?_;have hb:=pE (show a.bars.length=b.bars.length by omega);refine a7 hm (ι:=Nat) (fun i=>[.un,.un,.un,⟨true,.ptr 0 9 0 0⟩,⟨true,.ptr 1 9 0 0⟩,.un,.un,.un,.un,⟨true,.int .i64 (i:Nat)⟩,.un,.un,.un,.un,.un]) (fun i=>[(0,.buf 9 [Rec.D a]),(1,.buf 9 [Rec.D b])]) 49 (fun i=>i<=a.bars.length/\decide (a.bars=b.bars)=cP (fun i=>decide (a.bars[i]! =b.bars[i]!)) i a.bars.length) (fun i=>a.bars.length-i) 0 ⟨ae,hb⟩ (dp [(0,0),(1,1)]) ?_;rintro i ⟨hi,hr⟩;refine aG ?_;intro u1;refine ay ?_;refine cC (fun hc3=>?_) fun hc3=>?_
 .refine aY ?_;first|refine bS (v:=(jm.D _)) ?_|refine eK (v:=(jm.D _)) ?_
  refine aE ?_;first|refine bS (v:=(jm.D _)) ?_|refine eK (v:=(jm.D _)) ?_
  refine Kb (hb:=jm.eq _ _) ?_;refine aC ?_;refine wp_cond (fun hc4=>?_) (fun hc4=>?_)
  .simp only[bz,bt]at hc4;refine aG ?_;refine bI ?_;have hd:decide (a.bars=b.bars)=false:=by rw[hr,aR ae,cT hc4];rfl
   rw[Rec.xd a b,hd];simp
  simp only[bP,aV]at hc4;refine bJ ?_;exact⟨i+1,⟨ae,by rw[hr,aR ae,cj hc4];rfl⟩,ae,(dp [(0,0),(1,1)])⟩
 refine aE ?_;have hbr:decide (a.bars=b.bars)=true:=by rw[hr,ca ae]
 refine ay ?_;have hb:=pE (show a.feats.length=b.feats.length by omega);refine a7 hm (ι:=Nat) (fun i=>[.un,.un,.un,⟨true,.ptr 0 9 0 0⟩,⟨true,.ptr 1 9 0 0⟩,.un,.un,.un,.un,.un,.un,.un,⟨true,.int .i64 (i:Nat)⟩,.un,.un]) (fun i=>[(0,.buf 9 [Rec.D a]),(1,.buf 9 [Rec.D b])]) 55 (fun i=>i<=a.feats.length/\decide (a.feats=b.feats)=cP (fun i=>decide (a.feats[i]! =b.feats[i]!)) i a.feats.length) (fun i=>a.feats.length-i) 0 ⟨ae,hb⟩ (dp [(0,0),(1,1)]) ?_;rintro i ⟨hi,hr⟩;refine aG ?_;intro u2;refine ay ?_;refine cC (fun hc5=>?_) fun hc5=>?_
 .refine zzz29 ?_;refine ai (hc:=h226 _ _) ?_;refine aA ?_;refine wp_cond (fun hc6=>?_) (fun hc6=>?_)
  .simp only[cX,bz,bt]at hc6;replace hc6:¬a.feats[i]! =b.feats[i]! :=fun e=>by rw[e]at hc6;simp at hc6
   refine aG ?_;refine bI ?_;have hd:decide (a.feats=b.feats)=false:=by rw[hr,aR ae,cT hc6];rfl
   rw[Rec.xd a b,hd];simp
  simp only[dH,bP,aV]at hc6;replace hc6:a.feats[i]! =b.feats[i]! :=cu.eq2 hc6.1 hc6.2;refine bJ ?_;exact⟨i+1,⟨ae,by rw[hr,aR ae,cj hc6];rfl⟩,ae,(dp [(0,0),(1,1)])⟩
 refine aG ?_;refine bI ?_;have hf:decide (a.feats=b.feats)=true:=by rw[hr,ca ae]
 rw[Rec.xd a b,hn,hbr,hf,cj hc0.1.1.1.1,cj hc0.1.1.1.2];rfl
def R4 (T:List D->D->Prop):Prop:=∀(a:Rec) (b:Rec),T [Rec.D a,Rec.D b] (.bool (decide (a=b)))
def C78 (Y:Ctx):Prop:=R4 (br Y 78)
def xJ:aF:=⟨2,5,[⟨2,none⟩],bQ,(sq (rg [gb 11 s0,gb 11 s1,gm dk] [(3,0),(4,1),(2,2)]) (sq (r1 [gf 9 s3,gd l0,gf 9 s4,gd l2,aL l1 l3,gm l4,k9 5 0 s3,bZ 5 (.ld 9 true l6),k9 5 0 s4,bZ 5 (.ld 9 true l8),bZ 5 (.call 78 [l7,l9] [[.a,.a,.a,.a,.a,.a,.sl 3 [.sl 4 [.a,.a,.sl 1 [.a],.a],.a,.a],.sl 3 [.a,.a,.a],.sl 2 [.a,.sl 1 [.a]]],[.a,.a,.a,.a,.a,.a,.sl 3 [.sl 4 [.a,.a,.sl 1 [.a],.a],.a,.a],.sl 3 [.a,.a,.a],.sl 2 [.a,.sl 1 [.a]]]]),eG l5 l10,gm gh] 2 12) .ret))⟩
def w263 {Y:Ctx}(hm:(Y.at 0).cd)(h78:C78 Y)(a:cY)(b:cY)   :de Y xJ (.bool (decide (a.sum=b.sum)&&decide (a.r=b.r))) [cY.D a,cY.D b]:=by
 show bG _ _ _ [⟨_,_⟩,⟨_,_⟩,_,_,_] _;refine aq ?_;refine aG ?_;refine bD (v:=.int .u64 a.sum) ?_;refine aC ?_;refine bD (v:=.int .u64 b.sum) ?_;refine aA ?_;refine bD (v:=Rec.D a.r) ?_;refine aC ?_;refine bD (v:=Rec.D b.r) ?_;refine cV (hc:=fun hf=>h78 a.r b.r) ?_;refine aE ?_;exact bI rfl
def K7 (T:List D->D->Prop):Prop:=∀(a:cY) (b:cY),T [cY.D a,cY.D b] (.bool (decide (a.sum=b.sum)&&decide (a.r=b.r)))
def Yb (Y:Ctx):Prop:=K7 (br Y 263)
def IG:aF:=⟨2,9,[⟨2,none⟩],bQ,(sq (rg [gb 2 s0,gb 2 s1,gm dk] [(3,0),(4,1),(2,2)]) (sq (sq (r1 [gf 0 s3,gd l0,gf 0 s4,gd l2,bO l1 l3,gm l4,gJ 5 1 s3,iD 5 l6,cl 5 (.len l7),gJ 5 1 s4,iD 5 l9,cl 5 (.len l10),cl 5 (ei l8 gh),eW l5 iE] 5 13) (.cond s5 (sq (r1 [gm dk] 2 0) .ret) .skip)) (sq (sq (r1 [gm bp] 6 0) (.block 0 (.loop (sq (sq (r1 [gm s6,gf 1 s3,gd l1,gl l2,aO l0 l3] 7 4) (fh s7 0)) (sq (.block 1 (sq (r2 [gf 1 s3,gd l0,gm s6,ga 11 l1 l2,gk 11 true l3,gf 1 s4,gd l5,gm s6,ga 11 l6 l7,gk 11 true l8,gx 263 [l4,l9] [[.a,.a,.a,.a,.a,.a,.sl 3 [.sl 4 [.a,.a,.sl 1 [.a],.a],.a,.a],.sl 3 [.a,.a,.a],.sl 2 [.a,.sl 1 [.a]],.a,.a],[.a,.a,.a,.a,.a,.a,.sl 3 [.sl 4 [.a,.a,.sl 1 [.a],.a],.a,.a],.sl 3 [.a,.a,.a],.sl 2 [.a,.sl 1 [.a]],.a,.a]],jJ l10,gm gh,gJ 12 1 s3,iD 12 jr,eO 12 s6,cl 12 (.ia 11 j5 lr),gJ 12 10 mK,iD 12 pM,gJ 12 1 s4,iD 12 rm,eO 12 s6,cl 12 (.ia 11 va xB),gJ 12 10 A5,iD 12 Ew,cl 12 (.eqA true false [.b] qC Fz),eW iE Hg] 8 26) (.cond s8 (sq (r1 [gm dk] 2 0) .ret) .skip))) (r1 [gm s6,aw l0 bV,gm l1] 6 2)))))) (sq (r1 [gm oS] 2 0) .ret))))⟩
def w88 (h263:Yb Y)(a:fk)(b:fk)   :de Y IG (.bool (decide (a=b))) [fk.D a,fk.D b]:=by
 show bG _ _ _ [⟨_,_⟩,⟨_,_⟩,_,_,_,_,_,_,_] _;refine aq ?_;refine aY ?_;refine bD (v:=.str a.name) ?_;refine aC ?_;refine bD (v:=.str b.name) ?_;refine aA ?_;refine bD (v:=.sl 11 (a.es.map cY.D)) ?_;refine jI ?_;refine aC ?_;refine bD (v:=.sl 11 (b.es.map cY.D)) ?_;refine jI ?_;refine aA ?_;refine av (fun hc0=>?_) (fun hc0=>?_)
 .simp only[cX,bz,aV,bt]at hc0;refine aI ?_;refine bI ?_;symm;apply cT;rintro rfl;rcases hc0 with h|h
  .exact h rfl
  .exact h rfl
 simp only[dH,bP,aV,bt,Classical.not_not]at hc0;obtain⟨hnm,hln⟩:=hc0;replace hln:a.es.length=b.es.length:=ae;refine aI ?_;refine a7 hm (ι:=Nat) (fun i=>[.un,.un,.un,⟨true,.ptr 0 2 0 0⟩,⟨true,.ptr 1 2 0 0⟩,.un,⟨true,.int .i64 (i:Nat)⟩,.un,.un]) (fun i=>[(0,.buf 2 [fk.D a]),(1,.buf 2 [fk.D b])]) 18 (fun i=>i<=a.es.length/\∀j,j<i->a.es[j]! =b.es[j]!) (fun i=>a.es.length-i) 0 ⟨ae,fun j h=>ae⟩ (dp [(0,0),(1,1)]) ?_;rintro i ⟨hi,hr⟩;refine aE ?_;refine bD (v:=.sl 11 (a.es.map cY.D)) ?_;refine aC ?_;intro u0;refine ay ?_;refine cC (fun hc1=>?_) fun hc1=>?_
 .refine aE ?_;refine bD (v:=.sl 11 (a.es.map cY.D)) ?_;refine aC ?_;refine cb i (hb:=fun _=>ae) ?_;refine bS (v:=cY.D a.es[i]!) (hi:=fun _=>ae) ?_;refine aC ?_;refine bD (v:=.sl 11 (b.es.map cY.D)) ?_;refine aC ?_;refine cb i (hb:=fun _=>ae) ?_;refine bS (v:=cY.D b.es[i]!) (hi:=fun _=>ae) ?_;refine ai (hc:=h263 a.es[i]! b.es[i]!) ?_;refine xl ?_;refine Kb (hb:=Wo _ _) ?_;refine ay ?_;refine wp_cond (fun hc2=>?_) (fun hc2=>?_)
  .simp only[er]at hc2;refine aG ?_;refine bI ?_;symm;apply cT;rintro rfl;simp at hc2
  simp only[er]at hc2;refine bJ ?_;exact⟨i+1,⟨ae,fun j h=>(Nat.lt_or_eq_of_le (Nat.le_of_lt_succ h)).elim (hr j) fun e=>e▸Wq hc2⟩,ae,(dp [(0,0),(1,1)])⟩
 refine aG ?_;refine bI ?_;symm;exact cj (Xn hnm hln fun j h=>hr j ae)
def R8 (T:List D->D->Prop):Prop:=∀(a:fk) (b:fk),T [fk.D a,fk.D b] (.bool (decide (a=b)))
def C88 (Y:Ctx):Prop:=R8 (br Y 88)
def wg:aF:=⟨2,12,[⟨2,some (2,true)⟩,⟨3,none⟩],[[.a,.sl 11 [.a,.a,.a,.a,.a,.a,.sl 3 [.sl 4 [.a,.a,.a,.a],.a,.a],.sl 3 [.a,.a,.a],.sl 2 [.a,.sl 1 [.a]],.a,.a]],[.a]],(sq (rg [gb 2 s0,gb 9 s1,gb 2 (.c (.agg [.str [],.aD])),gm bp] [(4,0),(6,1),(2,2),(3,3)]) (sq (sq (r1 [gk 2 true s4,gx 358 [l0] [[.a,.sl 11 [.a,.a,.a,.a,.a,.a,.sl 3 [.sl 4 [.a,.a,.a,.a],.a,.a],.sl 3 [.a,.a,.a],.sl 2 [.a,.sl 1 [.a]],.a,.a]]],jJ l1] 5 2) (.cond s5 (sq (r1 [gn (.build [.str [],.aD] []),gt 2 s2 l0,gm bV] 3 2) .ret) .skip)) (sq (rg [gk 9 true s6,gx 75 [l0] [[.a,.a,.a,.a,.a,.a,.sl 3 [.sl 4 [.a,.a,.sl 1 [.a],.a],.a,.a],.sl 3 [.a,.a,.a],.sl 2 [.a,.sl 1 [.a]]]],gm l1,ge l2 0,ge l2 1,gm l3,gm l4] [(11,5),(7,6)]) (sq (.block 0 (sq (r1 [gm s7,bO l0 bp,gm l1] 8 2) (.cond s8 (sq (r1 [gn (.build [.str [],.aD] []),gm s7,gt 2 s2 l0,gm l1] 3 3) .ret) (sq (r1 [gf 1 s4,gd l0,gf 0 s6,gd l2,gf 1 s6,gk 5 true l4,gx 580 [l1,l3,l5] [[.sl 11 [.a,.a,.a,.a,.a,.a,.sl 3 [.sl 4 [.a,.a,.sl 1 [.a],.a],.a,.a],.sl 3 [.a,.a,.a],.sl 2 [.a,.sl 1 [.a]],.a,.a]],[.a],[.a,.a,.a,.a,.a]],gp l6 bp,gm l7] 9 8) (.cond s9 (sq (r1 [gn (.build [.str [],.aD] []),gt 2 s2 l0,gm Eu] 3 2) .ret) (sq (r1 [gf 1 s4,gd l0,gl l1,gp l2 (i6 64),gm l3] 10 4) (.cond jh (sq (r1 [gn (.build [.str [],.aD] []),gt 2 s2 l0,gm (i6 10)] 3 2) .ret) .skip))))))) (sq (r2 [gf 0 s4,gn (.ldI 1 false l0),gf 1 s4,gd l2,gn (.appN 11 l3),gk 9 true s6,gm lf,gn (.build [.str [],.int .i64 0,.int .i64 0,.int .i64 0,.str [],.str [],.aD,.aD,.aD,.int .u64 0,.bool false] [(0,9,l5),(9,1,l6)]),gn (.bsl 11 (.agg [.str [],.int .i64 0,.int .i64 0,.int .i64 0,.str [],.str [],.aD,.aD,.aD,.int .u64 0,.bool false]) 1 [(0,l7)]),gn (.app 11 l4 l8),gn (.build [.str [],.aD] [(0,1,l1),(1,1,l9)]),gt 2 s2 l10,gm bp] 3 12) .ret)))))⟩
def w504 {Y:Ctx}(hm:(Y.at 0).cd)(s:fk)(r:Rec)(h75:C75 Y)(h358:Yg Y)(h580:Vv Y)(hp0:(∀x∈s.es,fF x.r)/\fF r):bG (Y.at 0) wg.body (m8 wg (PutQ s r):Ex->List bW->St->Prop) (gy wg [fk.D s,Rec.D r]) ⟨0,[]⟩:=by
 show bG _ _ _ [⟨_,_⟩,⟨_,_⟩,_,_,_,_,_,_,_,_,_,_] _;refine aq ?_;refine aY ?_;refine cy (d:=fk.D s) ?_;refine ai (hc:=h358 s hp0.1) ?_;refine ay ?_;refine av (fun hc0=>?_) (fun hc0=>?_)
 .simp only[bz]at hc0;have hz:mR s r=(n4,1):=by unfold mR;rw[ax hc0]
  refine ay ?_;refine du _ ?_;refine aE ?_;refine cW trivial rD (cE ah (aM ?_ (ar (D.int .i64) ?_))) ah (.inl ⟨by rw[hz];decide,rfl⟩);all_goals first|rfl|(rw[hz];done)|(rw[hz];rfl)
 simp only[bP]at hc0;have hq0:¬ji s=false:=by simp[hc0]
 refine ay ?_;refine cy (d:=Rec.D r) ?_;refine ai (hc:=h75 r hp0.2) ?_;refine fU ?_;refine wp_cond (fun hc1=>?_) (fun hc1=>?_)
 .simp only[bz,bt]at hc1;have hz:mR s r=(n4,(df r).2):=by unfold mR;rw[aj hq0,ax hc1]
  refine aC ?_;refine du _ ?_;refine aG ?_;refine cW trivial rD (cE ah (aM ?_ (ar (D.int .i64) ?_))) ah (.inl ⟨by rw[hz];exact hc1,rfl⟩);all_goals first|rfl|(rw[hz];done)|(rw[hz];rfl)
 simp only[bP,aV]at hc1;have hq1:¬¬(df r).2=0:=fun h=>h hc1
 refine ay ?_;refine bD (v:=.sl 11 (s.es.map cY.D)) ?_;refine aC ?_;refine bD (v:=.str r.name) ?_;refine aC ?_;refine bD (v:=cZ.D r.v) ?_;refine ai (hc:=h580 s.es r.name r.v ⟨fun x hx=>(hp0.1 x hx).1.2,hp0.2.1.2⟩) ?_;refine aA ?_;refine wp_cond (fun hc2=>?_) (fun hc2=>?_)
 .simp only[aV]at hc2;have hz:mR s r=(n4,8):=by unfold mR;rw[aj hq0,aj hq1,ax hc2]
  refine aC ?_;refine du _ ?_;refine aI ?_;refine cW trivial rD (cE ah (aM ?_ (ar (D.int .i64) ?_))) ah (.inl ⟨by rw[hz];decide,rfl⟩);all_goals first|rfl|(rw[hz];done)|(rw[hz];rfl)
 simp only[bt]at hc2;refine ay ?_;refine bD (v:=.sl 11 (s.es.map cY.D)) ?_;refine aC ?_;intro u0;refine aA ?_;refine wp_cond (fun hc3=>?_) (fun hc3=>?_)
 .simp only[aV]at hc3;have hz:mR s r=(n4,10):=by unfold mR;rw[aj hq0,aj hq1,aj hc2,ax ae]
  refine aC ?_;refine du _ ?_;refine aI ?_;refine cW trivial rD (cE ah (aM ?_ (ar (D.int .i64) ?_))) ah (.inl ⟨by rw[hz];decide,rfl⟩);all_goals first|rfl|(rw[hz];done)|(rw[hz];rfl)
 simp only[bt]at hc3;have hz:mR s r=(⟨s.name,od s r⟩,0):=by unfold mR;rw[aj hq0,aj hq1,aj hc2,aj ae];rfl
 refine ay ?_;refine fu 0 ?_;refine ay ?_;refine DS (v:=.str s.name) ?_;refine aC ?_;refine eK (v:=.sl 11 (s.es.map cY.D)) ?_;refine J7 (he:=sX.sl) (n:=s.es.length) (hn:=aT) (hb:=ae) ?_;refine cy (d:=Rec.D r) ?_;refine aC ?_;refine bA (cY.D (⟨r,mC r,false⟩:cY)) ?_;refine dh [cY.D (⟨r,mC r,false⟩:cY)] ?_;refine jX (q:=cY.D) (xs:=s.es) (e:=(⟨r,mC r,false⟩:cY)) (hb:=ae) ?_;refine bA (.agg [.str s.name,.own 40 11 0 (od s r).length]) ?_;refine aU (.agg [.str s.name,.own 40 11 0 (od s r).length]) (he:=bd) ?_;refine aA ?_;refine cW trivial rD (cE ah (aM ?_ (ar (D.int .i64) ?_))) ah (.inr ⟨by rw[hz],40,rfl,bd⟩);all_goals rfl
def Vs (Y:Ctx):Prop:=∀(s:fk) (r:Rec),((∀x∈s.es,fF x.r)/\fF r)->∀(nx:Nat) (m:List (Nat×bR)) (K:D->St->Prop),(¬(mR s r).2=0->K (.tup [.agg [.str [],.aD],.int .i64 (mR s r).2]) ⟨nx,m⟩)->((mR s r).2=0->K (.tup [.agg [.str s.name,.own nx 11 0 (od s r).length],.int .i64 0]) ⟨nx+1,(nx,.buf 11 ((od s r).map cY.D))::m⟩)->Y.tr 504 [fk.D s,Rec.D r] ⟨nx,m⟩ K
def H3:aF:=⟨4,12,[⟨4,some (2,true)⟩],[[.a,.sl 11 [.a,.a,.a,.a,.a,.a,.sl 3 [.sl 4 [.a,.a,.a,.a],.a,.a],.sl 3 [.a,.a,.a],.sl 2 [.a,.sl 1 [.a]],.a,.a]]],(sq (r1 [gb 2 (.c (.agg [.str [],.aD]))] 4 0) (sq (r1 [gm s2,gn (.build [.str [],.aD] [(0,1,l0)]),gb 2 (.c (.agg [.str [],.aD])),gt 2 l2 l1] 7 2) (sq (sq (r1 [gm bp] 5 0) (.block 0 (.loop (sq (sq (r1 [gm s5,gm s3,aO l0 l1,gm l2,gmt 3 s5,gmt 3 s0,gmt 3 s1,gmt 3 s3,bZ 3 (zb l7 bV),bZ 3 (.call 228 [l5,l6,l8] [[.sl 1 [.a]],[.a],[.a]]),bZ 3 (nL l4 l9),eG l3 l10] 6 11) (fh s6 0)) (sq (.block 1 (sq (r1 [gm s0,gm s1,aw l1 bV,gm s5,gn (.bin .mul (i6 82) l3),aw l2 l4,gm s0,gm s1,aw l7 bV,gm s5,gn (.bin .mul (i6 82) l9),aw l8 l10,aw gh (i6 80),gx 228 [l6,iE,sE] [[.sl 1 [.a]],[.a],[.a]],aw bV jr,gx 79 [l0,l5,j5] [[.sl 1 [.a]],[.a],[.a]],gb 9 (.c (.agg [.str [],.int .i64 0,.int .i64 0,.int .i64 0,.str [],.str [],.aD,.aD,.aD])),gt 9 mK lr] 8 16) (sq (rg [gk 2 true s7,gk 9 true s8,gn (.callM 504 [l0,l1]),gm l2,ge l3 0,ge l3 1,gb 2 (.c (.agg [.str [],.aD])),gt 2 l6 l4,gm l5] [(11,6),(9,8)]) (sq (r1 [gm s9,aL l0 bp] 10 1) (.cond jh (sq (rg [gk 2 true lf,gt 2 s7 l0] []) (rt [gf 1 s7,gd l0,gf 1 s7,gd l2,gl l3,ee l4 bV,gm s0,gm s1,aw l7 bV,gm s5,gn (.bin .mul (i6 82) l9),aw l8 l10,aw gh (i6 81),gx 228 [l6,iE,Ev] [[.sl 1 [.a]],[.a],[.a]],aL jr bV,ga 11 l1 l5,gf 10 lr,gt 1 mK j5] [])) .skip))))) (r1 [gm s5,aw l0 bV,gm l1] 5 2)))))) (sq (rg [gk 2 true s7,gt 2 s4 l0] []) .ret))))⟩
def w1203 (h79:C79 Y)(h228:Hl Y)(h504:Vs Y)(l:List Int)(i:Int)(nm:au)(most:Nat)  (hp0:(0<=i/\i<=100000)/\most<=60/\dN nm=true):de Y H3 (fk.D (mZ l i nm most)) [.sl 1 (l.map (D.int .i64)),.int .i64 i,.str nm,.int .i64 (most:Nat)]:=by
 show bG _ _ _ [⟨_,_⟩,⟨_,_⟩,⟨_,_⟩,⟨_,_⟩,_,_,_,_,_,_,_,_] _;refine aq ?_;refine aE ?_;refine bA (.agg [.str nm,.aD]) ?_;refine aC ?_;refine aU (.agg [.str nm,.aD]) (he:=bd) ?_;refine aC ?_;refine pK [(0,.buf 2 [.agg [.str [],.aD]]),(3,.buf 2 [.agg [.str nm,.sl 11 []]])] (.id ah (.bf ah (.cons (.ag (.cons (.refl _) (.cons (.nil 11) .nil))) .nil) .nil)) ?_;refine aE ?_;refine a7 hm (ι:=(Nat×List cY)) (fun p=>[⟨true,.sl 1 (l.map (D.int .i64))⟩,⟨true,.int .i64 i⟩,⟨true,.str nm⟩,⟨true,.int .i64 (most:Nat)⟩,⟨true,.ptr 0 2 0 0⟩,⟨true,.int .i64 (p.1:Nat)⟩,.un,⟨true,.ptr 1 2 0 0⟩,.un,.un,.un,.un]) (fun p=>[(0,.buf 2 [.agg [.str [],.aD]]),(1,.buf 2 [fk.D ⟨nm,p.2⟩])]) 20 (fun p=>p.1<=(fL l i ((most:Int)+1)).toNat/\p.2=xw l i p.1) (fun p=>(fL l i ((most:Int)+1)).toNat-p.1) (0,[]) ⟨Nat.zero_le _,rfl⟩ (aX.to [(0,0),(3,1)] ah ah dX (by refine bm.gD ah ah ah ?_;refine bm.nl 3 ah ah rfl ah ?_;exact bm.nil)) ?_;rintro⟨k,es⟩ ⟨hk,he⟩;dsimp only at hk he⊢;have hfr:=dw l i ((most:Int)+1) ae;have hk60:k<=60:=ae;have hel:es.length<=k:=by rw[he];exact uD l i k
 have heg:∀x∈es,xn x:=by rw[he];exact x6 l i k
 refine fT ?_;refine cV (hc:=fun hf=>h228 l i ((most:Nat)+1) ae) ?_;refine aA ?_;refine av (fun hc0=>?_) (fun hc0=>?_)
 .simp only[bx,aV]at hc0;refine aA ?_;have ho:=dw l (i+1+82*(k:Nat)+80) 4 aH;have hgr:=Dl l i k;refine aE ?_;refine ox ?_;refine aI ?_;refine ox ?_;refine ay ?_;refine ai (hc:=h228 l (i+1+82*(k:Nat)+80) 4 aH) ?_;refine aC ?_;refine ai (hc:=h79 l (i+1+82*(k:Nat)) (1+fL l (i+1+82*(k:Nat)+80) 4) ae ae) ?_;refine aC ?_;refine aU (Rec.D (pc l i k)) (he:=bd) ?_;refine ay ?_;by_cases hput:(mR ⟨nm,es⟩ (pc l i k)).2=0
  .refine cy (d:=fk.D ⟨nm,es⟩) ?_;refine cy (d:=Rec.D (pc l i k)) ?_;refine cA (nx':=51) (v:=.tup [.agg [.str nm,.own 52 11 0 (od ⟨nm,es⟩ (pc l i k)).length],.int .i64 0]) (m':=[(52,.buf 11 ((od ⟨nm,es⟩ (pc l i k)).map cY.D)),(0,.buf 2 [.agg [.str [],.aD]]),(1,.buf 2 [fk.D ⟨nm,es⟩]),(48,.buf 9 [Rec.D (pc l i k)])]) (hc:=fun K' hK=>h504 ⟨nm,es⟩ (pc l i k) ⟨fun x hx=>(heg x hx).m,hgr.2.2.2.2⟩ _ _ K' (fun h=>absurd hput h) (fun _=>hK)) (hn:=aH) ?_;refine aC ?_;refine fX _ ?_;refine ay ?_;refine aU (.agg [.str nm,.own 52 11 0 (od ⟨nm,es⟩ (pc l i k)).length]) (he:=bd) ?_;refine aG ?_;refine wp_cond (fun hc1=>?_) (fun hc1=>?_)
   .try simp only[er]at hc1
    refine aC ?_;refine cy (d:=.agg [.str nm,.own 52 11 0 (od ⟨nm,es⟩ (pc l i k)).length]) ?_;refine aU (.agg [.str nm,.own 52 11 0 (od ⟨nm,es⟩ (pc l i k)).length]) (he:=bd) ?_;refine aA ?_;refine bD (v:=.own 52 11 0 (od ⟨nm,es⟩ (pc l i k)).length) ?_;refine aC ?_;refine bD (v:=.own 52 11 0 (od ⟨nm,es⟩ (pc l i k)).length) ?_;refine jI ?_;refine Kf (hb:=fun _=>by simp only[od,bF,az,aB];omega) ?_;refine aE ?_;refine ox ?_;refine ay ?_;refine ai (hc:=h228 l (i+1+82*(k:Nat)+81) 9 aH) ?_;refine aC ?_;refine kN es.length (hj:=fun _=>by simp[od]) (hb:=fun _=>by simp[od]) ?_;refine aC ?_;refine Cq ((es++[(⟨(pc l i k),mC (pc l i k),gEY l i k⟩:cY)]).map cY.D) (hi:=by simp[od]) (he:=by rw[b9];exact stY es _ _) ?_;refine bJ ?_;rw[show(od ⟨nm,es⟩ (pc l i k)).length=(es++[(⟨(pc l i k),mC (pc l i k),gEY l i k⟩:cY)]).length by simp[od]];exact⟨(k+1,es++[⟨(pc l i k),mC (pc l i k),gEY l i k⟩]),⟨dy,by dsimp only;rw[he]at hput⊢;exact(S5 hp0.2.2 ae hput).symm⟩,dy,(aX.fz 52 ah et (by simp only[n9,kl,mY,oH,pW,c8,Nat.reduceEqDiff,ba,bc,dL,cK,cL,dJ,dK,b9,bU,aP,ct,aZ,reduceCtorEq,az,aB,Nat.reduceAdd,Nat.reduceLeDiff];exact rfl) (by simp only[n9,kl,mY,oH,pW,c8,Nat.reduceEqDiff,ba,bc,dL,cK,cL,dJ,dK,b9,bU,aP,ct,aZ,reduceCtorEq,az,aB,Nat.reduceAdd,Nat.reduceLeDiff];exact rfl) (aX.to [(0,0),(1,1)] ah ah dX (by refine bm.gD ah ah ah ?_;refine bm.gD ah ah ah ?_;exact bm.nil)))⟩
   exact absurd hc1 aH
  .refine cy (d:=fk.D ⟨nm,es⟩) ?_;refine cy (d:=Rec.D (pc l i k)) ?_;refine cA (nx':=50) (v:=.tup [.agg [.str [],.aD],.int .i64 (mR ⟨nm,es⟩ (pc l i k)).2]) (m':=[(0,.buf 2 [.agg [.str [],.aD]]),(1,.buf 2 [fk.D ⟨nm,es⟩]),(48,.buf 9 [Rec.D (pc l i k)])]) (hc:=fun K' hK=>h504 ⟨nm,es⟩ (pc l i k) ⟨fun x hx=>(heg x hx).m,hgr.2.2.2.2⟩ _ _ K' (fun _=>hK) (fun h=>absurd h hput)) (hn:=aH) ?_;refine aC ?_;refine fX _ ?_;refine ay ?_;refine aU (.agg [.str [],.aD]) (he:=bd) ?_;refine aG ?_;refine wp_cond (fun hc1=>?_) (fun hc1=>?_)
   .exact absurd (of_decide_eq_true hc1) hput
   try simp only[er]at hc1
   refine bJ ?_;exact⟨(k+1,es),⟨dy,by dsimp only;rw[he]at hput⊢;exact(Ww hp0.2.2 ae hput).symm⟩,dy,(aX.to [(0,0),(1,1)] ah ah dX (by refine bm.gD ah ah ah ?_;refine bm.gD ah ah ah ?_;exact bm.nil))⟩
 simp only[dT,bt]at hc0;have hkf:k=(fL l i ((most:Int)+1)).toNat:=ae;refine aA ?_;refine cy (d:=fk.D ⟨nm,es⟩) ?_;refine aU (fk.D ⟨nm,es⟩) (he:=bd) ?_;refine ay ?_;refine bM (?_);rw[he,hkf];rfl
def G9 (T:List D->D->Prop):Prop:=∀(l:List Int) (i:Int) (nm:au) (most:Nat),((0<=i/\i<=100000)/\most<=60/\dN nm=true)->T [.sl 1 (l.map (D.int .i64)),.int .i64 i,.str nm,.int .i64 (most:Nat)] (fk.D (mZ l i nm most))
def Uk (Y:Ctx):Prop:=G9 (br Y 1203)
def Fo:aF:=⟨1,25,[⟨1,some (2,true)⟩,⟨2,none⟩,⟨3,none⟩],[[.a,.sl 11 [.a,.a,.a,.a,.a,.a,.sl 3 [.sl 4 [.a,.a,.a,.a],.a,.a],.sl 3 [.a,.a,.a],.sl 2 [.a,.sl 1 [.a]],.a,.a]],[.a],[.a]],(sq (rg [gb 2 (.c (.agg [.str [],.aD])),gm bp,gm bp] [(1,0),(2,1),(3,2)]) (sq (sq (r1 [gm s0,pg l0,dd l1 (i6 524288)] 4 2) (.cond s4 (sq (rg [gn (.build [.str [],.aD] []),gt 2 s1 l0,gm ko,gm bp] [(2,2),(3,3)]) .ret) .skip)) (sq (r1 [gm s0,gx 252 [l0] bQ,gm l1] 5 2) (sq (sq (r1 [gm s5,gl l0,aL l1 bp] 6 2) (.cond s6 (sq (rg [gn (.build [.str [],.aD] []),gt 2 s1 l0,gm kr,gm bV] [(2,2),(3,3)]) .ret) .skip)) (sq (rg [gm s5,ga 1 l0 bp,gd l1,gx 253 [l2] bQ,gm l3,ge l4 0,ge l4 1,gm l5,gm l6] [(7,7),(8,8)]) (sq (rg [gm s7,gx 254 [l0,(cs [115,104,101,108,102,32])] fQ,gm l1,ge l2 0,ge l2 1,gm l3,gm l4] [(10,5),(9,6)]) (sq (sq (r1 [gm s8,jJ l0,gm l1,eO 2 s9,cl 2 (.un .not l3),eW l2 l4,gm l5,eO 6 jh,cl 6 (.call 208 [l7] bQ),cl 6 (.un .not l8),eW l6 l9] 11 10) (.cond lf (sq (rg [gn (.build [.str [],.aD] []),gt 2 s1 l0,gm kr,gm bV] [(2,2),(3,3)]) .ret) .skip)) (sq (r1 [gm jh,gn (.build [.str [],.aD] [(0,1,l0)]),gb 2 (.c (.agg [.str [],.aD])),gt 2 l2 l1] 20 2) (sq (r1 [gm bV] 12 0) (sq .skip (sq (.block 0 (.loop (sq (sq (r1 [gm j8,gm s5,gl l1,aO l0 l2] 13 3) (fh qG 0)) (.block 1 (sq (rg [gm s5,gm j8,ga 1 l0 l1,gd l2,gx 255 [l3] bQ,gm l4,ge l5 0,ge l5 1,ge l5 2,gm l6,gm l7,gm l8] [(22,9),(24,10),(14,11)]) (sq (sq (r1 [gm qv,jJ l0] 15 1) (.cond xc (sq (rg [gn (.build [.str [],.aD] []),gm j8,aw l1 bV,gt 2 s1 l0,gm kr,gm l2] [(2,4),(3,5)]) .ret) .skip)) (sq (r1 [gm j8,aw l0 bV,gm l1] 16 2) (sq (.block 2 (.loop (sq (sq (r1 [gm A7,gm s5,gl l1,aO l0 l2,gm l3,gmt 4 s5,gmt 4 A7,bZ 4 (.ia 1 l5 l6),kn 4 l7,bZ 4 (.call 256 [l8] bQ),bZ 4 (.un .not l9),eG l4 l10] 17 11) (fh Cw 2)) (.block 3 (r1 [gm A7,aw l0 bV,gm l1] 16 2))))) (sq (rg [gm s5,gm j8,aw l1 bV,gm A7,gn (.slA 1 l0 (some l2) (some l3)),gx 242 [l4,cse] [[.sl 1 [.a]],[.a]],gx 76 [l5] bQ,gm l6,ge l7 0,ge l7 1,ge l7 2,gb 9 (.c (.agg [.str [],.int .i64 0,.int .i64 0,.int .i64 0,.str [],.str [],.aD,.aD,.aD])),gt 9 gh l8,gm l9,gm l10] [(21,11),(18,13)]) (sq (sq (r1 [gm Hh,aL l0 bp] 19 1) (.cond UX (r1 [gk 2 true Kq,gk 9 true XK,gm XL,gx 257 [l0,l1,l2] [[.a,.sl 11 [.a,.a,.a,.a,.a,.a,.sl 3 [.sl 4 [.a,.a,.a,.a],.a,.a],.sl 3 [.a,.a,.a],.sl 2 [.a,.sl 1 [.a]],.a,.a]],[.a,.a,.a,.a,.a,.a,.sl 3 [.sl 4 [.a,.a,.sl 1 [.a],.a],.a,.a],.sl 3 [.a,.a,.a],.sl 2 [.a,.sl 1 [.a]]],[.a]],gm l3] 18 4) .skip)) (sq (sq (r1 [gm Hh,bO l0 bp] 23 1) (.cond s23 (sq (rg [gn (.build [.str [],.aD] []),gm Hh,gm j8,aw l2 bV,gt 2 s1 l0,gm l1,gm l3] [(2,5),(3,6)]) .ret) .skip)) (sq (rg [gf 1 Kq,gd l0,gk 9 true XK,gm XL,gm Xm,gn (.build [.str [],.int .i64 0,.int .i64 0,.int .i64 0,.str [],.str [],.aD,.aD,.aD,.int .u64 0,.bool false] [(0,9,l2),(9,1,l3),(10,1,l4)]),gn (.bsl 11 (.agg [.str [],.int .i64 0,.int .i64 0,.int .i64 0,.str [],.str [],.aD,.aD,.aD,.int .u64 0,.bool false]) 1 [(0,l5)]),gn (.app 11 l1 l6),gf 1 Kq,gt 1 l8 l7] []) (sq (r1 [gm A7,gm l0] 12 1) (.exit 1)))))))))))))) (sq (rg [gk 2 true Kq,gt 2 s1 l0,gm bp,gm bp] [(2,2),(3,3)]) .ret))))))))))))⟩
def w86 (h76:C76 Y)(h208:L6 Y)(h242:OQ Y)(h252:X7 Y)(h253:Sj Y)(h254:Vi Y)(h255:X8 Y)(h256:X9 Y)(h257:Ya Y)(s:au)  (hp0:s.length<=1048576):de Y Fo (.tup [fk.D (lj s).1,.int .i64 (lj s).2.1,.int .i64 (lj s).2.2]) [.str s]:=by
 show bG _ _ _ [⟨_,_⟩,_,_,_,_,_,_,_,_,_,_,_,_,_,_,_,_,_,_,_,_,_,_,_,_] _;refine aq ?_;refine bJ ?_;intro u0;refine ay ?_;refine av (fun hc0=>?_) (fun hc0=>?_)
 .simp only[er]at hc0;have hz:=Oa (s:=s) ae;refine ay ?_;refine du _ ?_;refine aI ?_;refine bM (eZ ?_ (ar (D.int .i64) ?_) (ar (D.int .i64) ?_));all_goals
   rw[hz];first|done|rfl
 simp only[er]at hc0;have g0:¬524288<s.length:=ae;refine aA ?_;refine ai (hc:=h252 s hp0) ?_;refine aG ?_;intro u1;refine ay ?_;refine av (fun hc1=>?_) (fun hc1=>?_)
 .simp only[er]at hc1;have hz:=Ob g0 ae;refine ay ?_;refine du _ ?_;refine aI ?_;refine bM (eZ ?_ (ar (D.int .i64) ?_) (ar (D.int .i64) ?_));all_goals
   rw[hz];first|done|rfl
 simp only[er]at hc1;have g1:¬(cx s).length=0:=ae;have g2:=DO (s:=s) (i:=0) ae;have g3:=qk (cx s)[0]!;refine aA ?_;refine cb 0 (hb:=fun _=>ae) ?_;refine bS (v:=.str (cx s)[0]!) (hi:=fun _=>ae) ?_;refine ai (hc:=h253 (cx s)[0]! ae) ?_;refine bJ ?_;refine ai (hc:=h254 (bH (cx s)[0]!).1 [115,104,101,108,102,32] ae aH) ?_;refine xm ?_;refine cV (hc:=fun hf=>h208 (cG (bH (cx s)[0]!).1 [115,104,101,108,102,32]).1) ?_;refine aA ?_;refine av (fun hc2=>?_) (fun hc2=>?_)
 .simp only[er]at hc2;have hz:=N9 g0 g1 (by rintro⟨⟨h1,h2⟩,h3⟩;rcases hc2 with(h|h)|h<;>simp_all);refine ay ?_;refine du _ ?_;refine aI ?_;refine bM (eZ ?_ (ar (D.int .i64) ?_) (ar (D.int .i64) ?_));all_goals
   rw[hz];first|done|rfl
 simp only[er]at hc2;have hz:=N8 g0 g1 hc2;rw[N1]at hz;refine aA ?_;refine bA (.agg [.str (cG (bH (cx s)[0]!).1 [115,104,101,108,102,32]).1,.aD]) ?_;refine aC ?_;refine aU (.agg [.str (cG (bH (cx s)[0]!).1 [115,104,101,108,102,32]).1,.aD]) (he:=bd) ?_;refine aI ?_;refine a7 hm (ι:=(List cY×Nat)) (fun p=>[⟨true,.str s⟩,⟨true,.ptr 0 2 0 0⟩,.un,.un,.un,⟨true,.sl 1 ((cx s).map D.str)⟩,.un,.un,.un,.un,.un,.un,⟨true,.int .i64 (p.2:Nat)⟩,.un,.un,.un,.un,.un,.un,.un,⟨true,.ptr 1 2 0 0⟩,.un,.un,.un,.un]) (fun p=>[(0,.buf 2 [.agg [.str [],.aD]]),(1,.buf 2 [.agg [.str (cG (bH (cx s)[0]!).1 [115,104,101,108,102,32]).1,.own 2 11 0 (p.1).length]]),(2,.buf 11 ((p.1).map cY.D))]) 60 (fun p=>(1<=p.2/\p.2<=(cx s).length)/\(∀x∈p.1,x.r.v.sm)/\p.1.length<=64/\lj s=E4 (cG (bH (cx s)[0]!).1 [115,104,101,108,102,32]).1 (uQ (cx s) p.1 p.2)) (fun p=>(cx s).length-p.2) ([],1) ⟨dy,aT,aT,hz⟩ (aX.to [(0,0),(41,1)] ah ah nW (by refine bm.gD ah ah ah ?_;refine bm.ni 41 ah ah (by exact⟨_,_,rfl,⟨_,rfl,⟨_,_,rfl,⟨rfl,rfl⟩,⟨_,_,rfl,Or.inr ⟨_,_,_,rfl⟩,rfl⟩⟩⟩,rfl⟩) ?_;refine bm.mt ah ah ah ah ?_;exact bm.nil)) ?_;rintro⟨es,k⟩ ⟨hk,hes,he64,hr⟩;dsimp only at hk hes he64 hr⊢;refine aI ?_;intro u2;refine ay ?_;refine cC (fun hc3=>?_) fun hc3=>?_
 .refine aA ?_;have g4:=DO (s:=s) (i:=k) ae;refine ay ?_;refine cb k (hb:=fun _=>ae) ?_;refine bS (v:=.str (cx s)[k]!) (hi:=fun _=>ae) ?_;refine ai (hc:=h255 (cx s)[k]! ae) ?_;refine lz ?_;refine av (fun hc4=>?_) (fun hc4=>?_)
  .simp only[er]at hc4;have hz2:=IX (es:=es) (show k<(cx s).length by omega) hc4;refine ay ?_;refine du _ ?_;refine c7 ?_;refine bM (eZ ?_ (ar (D.int .i64) ?_) (ar (D.int .i64) ?_));all_goals
    rw[hr,hz2,uz aH];first|done|rfl
  simp only[er]at hc4;have hz2:=N0 (es:=es) (show k<(cx s).length by omega) hc4;refine aG ?_;refine a7 hm (ι:=Nat) (fun j=>[⟨true,.str s⟩,⟨true,.ptr 0 2 0 0⟩,.un,.un,.un,⟨true,.sl 1 ((cx s).map D.str)⟩,.un,.un,.un,.un,.un,.un,⟨true,.int .i64 (k:Nat)⟩,.un,.un,.un,⟨true,.int .i64 (j:Nat)⟩,.un,.un,.un,⟨true,.ptr 1 2 0 0⟩,.un,⟨true,.int .u64 (iL (cx s)[k]!).1⟩,.un,⟨true,.bool (iL (cx s)[k]!).2.1⟩]) (fun _=>[(0,.buf 2 [.agg [.str [],.aD]]),(1,.buf 2 [.agg [.str (cG (bH (cx s)[0]!).1 [115,104,101,108,102,32]).1,.own 2 11 0 (es).length]]),(2,.buf 11 ((es).map cY.D))]) 100 (fun j=>(k+1<=j/\j<=(cx s).length)/\vX (cx s) (k+1)=sJ (fun j=>vC (cx s)[j]!) j (cx s).length) (fun j=>(cx s).length-j) (k+1) ⟨ae,rfl⟩ (aX.to [(0,0),(1,1),(2,2)] ah ah nW (by refine e7 ?_;refine e7 ?_;refine e7 ?_;exact bm.nil)) ?_;rintro j ⟨hj,hn⟩;refine aI ?_;intro u3;refine aE ?_;refine cb j (hb:=fun hf=>by simp at hf;omega) ?_;refine bS (v:=.str (cx s)[j]!) (hi:=fun hf=>by simp at hf;omega) ?_;refine cV (hc:=fun hf=>h256 (cx s)[j]! (by have:=DO (s:=s) (i:=j) (by simp at hf;omega);omega)) ?_;refine aA ?_;refine av (fun hc5=>?_) (fun hc5=>?_)
  .simp only[er]at hc5;refine c7 ?_;exact⟨(j+1),⟨ae,by rw[hn,Kr ae hc5.2]⟩,ae,(aX.to [(0,0),(1,1),(2,2)] ah ah nW (by refine e7 ?_;refine e7 ?_;refine e7 ?_;exact bm.nil))⟩
  simp only[er]at hc5;have hnj:vX (cx s) (k+1)=j:=by
   rw[hn];rcases hc5 with h|h
   .exact AH ae
   .by_cases hjl:j<(cx s).length
    .exact Gt hjl h
    .exact AH ae
  rw[hnj]at hz2;have hsm:=Rk (aS [] (slice (cx s) (k+1) j));refine aY ?_;refine Rh (k+1) j ?_;refine ai (v:=.str (aS [] (slice (cx s) (k+1) j))) (hc:=h242 (slice (cx s) (k+1) j) [] (by simp only[slice,lV,ff];have:=QP s;omega) aH (fun t ht=>by have:=J3 (Oe ht);omega)) ?_;refine ai (hc:=h76 (aS [] (slice (cx s) (k+1) j))) ?_;refine aC ?_;refine fX (Rec.D _) ?_;refine aA ?_;refine aU (Rec.D (eI (aS [] (slice (cx s) (k+1) j))).1) (he:=bd) ?_;refine bJ ?_;refine av (fun hc6=>?_) (fun hc6=>?_)
  .simp only[er]at hc6;refine aC ?_;refine cy (d:=.agg [.str (cG (bH (cx s)[0]!).1 [115,104,101,108,102,32]).1,.own 2 11 0 es.length]) ?_;refine cy (d:=Rec.D (eI (aS [] (slice (cx s) (k+1) j))).1) ?_;refine aC ?_;refine ai (hc:=h257 ⟨(cG (bH (cx s)[0]!).1 [115,104,101,108,102,32]).1,es⟩ (eI (aS [] (slice (cx s) (k+1) j))).1 (iL (cx s)[k]!).1 ⟨hsm,hes⟩) (ha:=fun _=>ar (fun d=>[d,Rec.D (eI (aS [] (slice (cx s) (k+1) j))).1,D.int .u64 (iL (cx s)[k]!).1]) (Xz (nm:=(cG (bH (cx s)[0]!).1 [115,104,101,108,102,32]).1) (es:=es) (fun _=>rfl) ah)) (hp:=fun _=>⟨Ua (nm:=(cG (bH (cx s)[0]!).1 [115,104,101,108,102,32]).1) (es:=es) (fun _=>⟨rfl,rfl,rfl,rfl,rfl,rfl,rfl,rfl,rfl,rfl,rfl,rfl⟩) ah,⟨rfl,rfl,rfl,rfl,rfl,rfl,rfl,rfl,rfl,rfl⟩,rfl,trivial⟩) ?_;refine aY ?_;refine av (fun hc7=>?_) (fun hc7=>?_)
   .simp only[er]at hc7;rw[O7 hc6 hc7]at hz2;refine ay ?_;refine du _ ?_;refine hY ?_;refine bM (eZ ?_ (ar (D.int .i64) ?_) (ar (D.int .i64) ?_));all_goals
     rw[hr,hz2,ax (by assumption),uz (by assumption)];first|done|rfl
   simp only[er]at hc7;rw[SD hc6 hc7]at hz2;have hlt:=MJ hc7;refine aA ?_;refine bD (v:=.own 2 11 0 es.length) ?_;refine cy (d:=Rec.D (eI (aS [] (slice (cx s) (k+1) j))).1) ?_;refine ay ?_;refine bA (cY.D (⟨(eI (aS [] (slice (cx s) (k+1) j))).1,(iL (cx s)[k]!).1,(iL (cx s)[k]!).2.1⟩:cY)) ?_;refine dh [cY.D (⟨(eI (aS [] (slice (cx s) (k+1) j))).1,(iL (cx s)[k]!).1,(iL (cx s)[k]!).2.1⟩:cY)] ?_;refine jX (q:=cY.D) (xs:=es) (e:=(⟨(eI (aS [] (slice (cx s) (k+1) j))).1,(iL (cx s)[k]!).1,(iL (cx s)[k]!).2.1⟩:cY)) (hb:=ae) ?_;refine aC ?_;refine aU (.agg [.str (cG (bH (cx s)[0]!).1 [115,104,101,108,102,32]).1,.own 143 11 0 (es++[(⟨(eI (aS [] (slice (cx s) (k+1) j))).1,(iL (cx s)[k]!).1,(iL (cx s)[k]!).2.1⟩:cY)]).length]) (he:=bd) ?_;refine bJ ?_;exact⟨(es++[(⟨(eI (aS [] (slice (cx s) (k+1) j))).1,(iL (cx s)[k]!).1,(iL (cx s)[k]!).2.1⟩:cY)],j),⟨dy,(fun x hx=>(List.mem_append.1 hx).elim (hes x) (fun hx=>by rw[cN.1 hx];exact hsm.1.2)),by simp only[bF,az,aB];omega,by rw[hr,hz2,aj (fun h=>h rfl)]⟩,dy,(aX.to [(0,0),(1,1),(143,2)] ah ah nW (by refine e7 ?_;refine bm.OH ah ah ah ?_;refine bm.nl 143 ah ah rfl (cg (fun _=>rfl) _) ?_;exact bm.nil))⟩
  simp only[er]at hc6;rw[O6 hc6]at hz2;refine aG ?_;refine av (fun hc7=>?_) (fun hc7=>?_)
  .simp only[er]at hc7;refine ay ?_;refine du _ ?_;refine hY ?_;refine bM (eZ ?_ (ar (D.int .i64) ?_) (ar (D.int .i64) ?_));all_goals
    rw[hr,hz2,ax (by assumption),uz (by assumption)];first|done|rfl
  simp only[er]at hc7;exact absurd (by simpa using hc7) hc6
 refine ay ?_;refine fu 2 ?_;refine aC ?_;refine cy (d:=fk.D ⟨(cG (bH (cx s)[0]!).1 [115,104,101,108,102,32]).1,es⟩) ?_;refine aU (fk.D ⟨(cG (bH (cx s)[0]!).1 [115,104,101,108,102,32]).1,es⟩) (he:=bd) ?_;refine aE ?_;refine bM (eZ ?_ (ar (D.int .i64) ?_) (ar (D.int .i64) ?_));all_goals
  rw[hr,N2 ae];first|done|rfl
def R7 (T:List D->D->Prop):Prop:=∀(s:au),(s.length<=1048576)->T [.str s] (.tup [fk.D (lj s).1,.int .i64 (lj s).2.1,.int .i64 (lj s).2.2])
def C86 (Y:Ctx):Prop:=R7 (br Y 86)
def xD:aF:=⟨1,18,gQ,bQ,(sq (r1 [gm dk] 1 0) (sq (r1 [gm s0,gx 1203 [l0,bp,(cs [111,110,101]),vI] [[.sl 1 [.a]],[.a],[.a],[.a]],gb 2 (.c (.agg [.str [],.aD])),gt 2 l2 l1] 2 2) (sq (rg [gk 2 true s2,gx 251 [l0] [[.a,.sl 11 [.a,.a,.a,.a,.a,.a,.sl 3 [.sl 4 [.a,.a,.a,.a],.a,.a],.sl 3 [.a,.a,.a],.sl 2 [.a,.sl 1 [.a]],.a,.a]]],gm l1,ge l2 0,ge l2 1,gm l3,gm l4] [(3,5),(4,6)]) (sq (rg [gm s3,gx 86 [l0] bQ,gm l1,ge l2 0,ge l2 1,ge l2 2,gb 2 (.c (.agg [.str [],.aD])),gt 2 l6 l3,gm l4,gm l5] [(7,6),(5,8),(6,9)]) (sq (sq (r1 [gm s4,bO l0 bp,gm l1,eO 2 s5,cl 2 (ei l3 bp),eW l2 l4,gm l5,eO 6 s6,cl 6 (ei l7 bp),eW l6 l8,gm l9,cl 10 (.ld 2 true s2),cl 10 (.ld 2 true s7),cl 10 (.call 88 [gh,iE] [[.a,.sl 11 [.a,.a,.a,.a,.a,.a,.sl 3 [.sl 4 [.a,.a,.a,.a],.a,.a],.sl 3 [.a,.a,.a],.sl 2 [.a,.sl 1 [.a]],.a,.a]],[.a,.sl 11 [.a,.a,.a,.a,.a,.a,.sl 3 [.sl 4 [.a,.a,.a,.a],.a,.a],.sl 3 [.a,.a,.a],.sl 2 [.a,.sl 1 [.a]],.a,.a]]]),cl 10 (.un .not jr),eW l10 j5,gm lr,gJ 16 1 s2,iD 16 pM,cl 16 (.len qC),cl 16 (cO rm bp),eW mK va] 8 21) (.cond s8 (sq (r1 [gx 85 [] [],gm l0,gmt 1 s4,bZ 1 (cO l2 bp),eG l1 l3,gm l4,gmt 5 s5,bZ 5 (cO l6 bp),eG l5 l7,gm l8,bZ 9 (.ld 2 true s2),bZ 9 (.ld 2 true s7),bZ 9 (.call 88 [l10,gh] [[.a,.sl 11 [.a,.a,.a,.a,.a,.a,.sl 3 [.sl 4 [.a,.a,.a,.a],.a,.a],.sl 3 [.a,.a,.a],.sl 2 [.a,.sl 1 [.a]],.a,.a]],[.a,.sl 11 [.a,.a,.a,.a,.a,.a,.sl 3 [.sl 4 [.a,.a,.a,.a],.a,.a],.sl 3 [.a,.a,.a],.sl 2 [.a,.sl 1 [.a]],.a,.a]]]),eG l9 iE,gm jr] 1 14) .ret) .skip)) (sq (r1 [gm bV] 12 0) (sq (sq (r1 [gm bp] 9 0) (.block 0 (.loop (sq (sq (r1 [gm s9,gm s3,pg l1,aO l0 l2] 10 3) (fh jh 0)) (sq (.block 1 (sq (r1 [gm s3,gm s9,HP l0 l1,aL l2 (i8 10)] 11 3) (.cond lf (r1 [gm j8,aw l0 bV,gm l1] 12 2) .skip))) (r1 [gm s9,aw l0 bV,gm l1] 9 2)))))) (sq (rg [gf 1 s2,gd l0,gn (.slA 11 l1 none (some bV)),gn (.build [.str [],.aD] [(0,1,(cs [111,110,101])),(1,1,l2)]),gx 251 [l3] [[.a,.sl 11 [.a,.a,.a,.a,.a,.a,.sl 3 [.sl 4 [.a,.a,.a,.a],.a,.a],.sl 3 [.a,.a,.a],.sl 2 [.a,.sl 1 [.a]],.a,.a]]],gm l4,ge l5 0,ge l5 1,gm l6,gm l7] [(14,8),(13,9)]) (sq (sq (r1 [gm qG,bO l0 bp,gm l1,eO 2 qv,cl 2 (.lenS l3),cl 2 (nL l4 (i6 10)),eW l2 l5] 15 6) (mj xc dk)) (sq (rg [gm s3,gm qv,gn (.slS l1 (some (i6 10)) none),aw l0 l2,gx 86 [l3] bQ,gm l4,ge l5 0,ge l5 1,ge l5 2,gb 2 (.c (.agg [.str [],.aD])),gt 2 l9 l6,gm l7,gm l8] [(16,11),(17,12)]) (sq (r1 [gx 85 [] [],gm l0,gmt 1 A7,bZ 1 (cO l2 Eu),eG l1 l3,gm l4,gmt 5 Cw,gmt 5 j8,bZ 5 (cO l6 l7),eG l5 l8,gm l9] 1 10) .ret)))))))))))⟩
def w1198 (h85:C85 Y)(h86:C86 Y)(h88:C88 Y)(h251:Vh Y)(h1203:Uk Y)(l:List Int)   :de Y xD (.bool true) [.sl 1 (l.map (D.int .i64))]:=by
 show bG _ _ _ [⟨_,_⟩,_,_,_,_,_,_,_,_,_,_,_,_,_,_,_,_,_] _;refine aq ?_;refine aE ?_;refine ai (hc:=h1203 l 0 dm 6 (by refine⟨ae,ae,qd⟩)) ?_;refine aC ?_;refine aU (fk.D (mZ l 0 dm 6)) (he:=bd) ?_;refine aC ?_;have hg:=gSh_G l 0 (n:=6) aH;refine aC ?_;refine cy (d:=fk.D (mZ l 0 dm 6)) ?_;refine ai (v:=.tup [.str (eL (mZ l 0 dm 6)),.int .i64 0]) (hc:=by have:=h251 (mZ l 0 dm 6) (hg.m);rw[hg.p]at this;exact this) ?_;refine bJ ?_;refine ai (v:=.tup [fk.D (mZ l 0 dm 6),.int .i64 0,.int .i64 0]) (hc:=by have:=h86 (eL (mZ l 0 dm 6)) (by have:=hg.l;omega);rw[hg.r]at this;exact this) ?_;refine aC ?_;refine fX (fk.D _) ?_;refine aA ?_;refine aU (fk.D (mZ l 0 dm 6)) (he:=bd) ?_;refine xm ?_;refine cy (d:=fk.D (mZ l 0 dm 6)) ?_;refine cy (d:=fk.D (mZ l 0 dm 6)) ?_;refine cV (hc:=fun hf=>h88 (mZ l 0 dm 6) (mZ l 0 dm 6)) ?_;refine aE ?_;refine bD (v:=.sl 11 ((mZ l 0 dm 6).es.map cY.D)) ?_;refine jI ?_;refine aA ?_;refine av (fun hc0=>?_) (fun hc0=>?_)
 .refine ay ?_;refine ai (hc:=h85) ?_;refine c7 ?_;refine cy (d:=fk.D (mZ l 0 dm 6)) ?_;refine cy (d:=fk.D (mZ l 0 dm 6)) ?_;refine cV (hc:=fun hf=>h88 (mZ l 0 dm 6) (mZ l 0 dm 6)) ?_;refine aE ?_;refine bI ?_;simp
 simp at hc0;refine ay ?_;have hne:¬(mZ l 0 dm 6).es.length=0:=by simpa using hc0
 obtain⟨ho1,ho2,ho3,ho4⟩:=T0 (l:=l) (i:=0) (n:=6) aH hne;have htl:=hg.l;refine aG ?_;refine a7 hm (ι:=(Nat×Int)) (fun p=>[⟨true,.sl 1 (l.map (D.int .i64))⟩,.un,⟨true,.ptr 0 2 0 0⟩,⟨true,.str (eL (mZ l 0 dm 6))⟩,.un,.un,.un,⟨true,.ptr 1 2 0 0⟩,.un,⟨true,.int .i64 (p.1:Nat)⟩,.un,.un,⟨true,.int .i64 p.2⟩,.un,.un,.un,.un,.un]) (fun p=>[(0,.buf 2 [fk.D (mZ l 0 dm 6)]),(1,.buf 2 [fk.D (mZ l 0 dm 6)])]) 60 (fun p=>p.1<=(eL (mZ l 0 dm 6)).length/\p.2=1+(((eL (mZ l 0 dm 6)).take p.1).count 10:Nat)) (fun p=>(eL (mZ l 0 dm 6)).length-p.1) (0,1) ⟨Nat.zero_le _,aT⟩ (aX.to [(3,0),(18,1)] ah ah dX (by first|(refine bm.gD ah ah ah ?_;refine bm.gD ah ah ah ?_;exact bm.nil)|(refine bm.nl 3 ah ah rfl ah ?_;refine bm.nl 18 ah ah rfl ah ?_;exact bm.nil))) ?_;rintro⟨i,c⟩ ⟨hi,hc⟩;dsimp only at hi hc⊢;have hcl:=List.count_le_length (a:=10) (l:=(eL (mZ l 0 dm 6)).take i);rw[ff]at hcl;refine aI ?_;intro u0;refine ay ?_;refine cC (fun hc1=>?_) fun hc1=>?_
 .refine aI ?_;refine ow i ?_;refine ay ?_;refine fH (fun hc2=>?_) fun hc2=>?_
  .refine fU ?_;exact⟨(i+1,c+1),⟨dy,by dsimp only;rw[zo ae,ax (by simpa using hc2),hc];simp;omega⟩,dy,(aX.to [(0,0),(1,1)] ah ah dX (by first|(refine bm.gD ah ah ah ?_;refine bm.gD ah ah ah ?_;exact bm.nil)|(refine bm.nl 3 ah ah rfl ah ?_;refine bm.nl 18 ah ah rfl ah ?_;exact bm.nil)))⟩
  refine bJ ?_;exact⟨(i+1,c),⟨dy,by dsimp only;rw[zo ae,aj (by simpa using hc2),hc];simp⟩,dy,(aX.to [(0,0),(1,1)] ah ah dX (by first|(refine bm.gD ah ah ah ?_;refine bm.gD ah ah ah ?_;exact bm.nil)|(refine bm.nl 3 ah ah rfl ah ?_;refine bm.nl 18 ah ah rfl ah ?_;exact bm.nil)))⟩
 refine aA ?_;have hil:i=(eL (mZ l 0 dm 6)).length:=ae;rw[hil,List.take_length]at hc;refine aC ?_;refine bD (v:=.sl 11 ((mZ l 0 dm 6).es.map cY.D)) ?_;refine pB (q:=cY.D) 1 (hb:=fun _=>ae) ?_;refine bA (fk.D ⟨dm,(mZ l 0 dm 6).es.take 1⟩) ?_;refine ai (v:=.tup [.str (eL ⟨dm,(mZ l 0 dm 6).es.take 1⟩),.int .i64 0]) (hc:=by have:=h251 ⟨dm,(mZ l 0 dm 6).es.take 1⟩ (fun x hx=>hg.m x (lW hx));rw[ho1]at this;exact this) ?_;refine fU ?_;refine jI ?_;refine aA ?_;refine av (fun hc3=>?_) (fun hc3=>?_)
 .simp at hc3;omega;skip
 try simp only[er]at hc3
 refine aE ?_;refine iy 10 ?_;refine c9 (hb:=fun _=>by rw[lV];omega) ?_;refine ai (v:=.tup [fk.D n4,.int .i64 8,.int .i64 (1+(((eL (mZ l 0 dm 6)).count 10:Nat):Int))]) (hc:=by have:=h86 ((eL (mZ l 0 dm 6))++(eL ⟨dm,(mZ l 0 dm 6).es.take 1⟩).drop 10) (by rw[bF,lV];omega);rw[ho4]at this;exact this) ?_;refine aC ?_;refine fX (fk.D _) ?_;refine aA ?_;refine aU (fk.D n4) (he:=bd) ?_;refine aE ?_;refine ai (hc:=h85) ?_;refine fU ?_;refine bI ?_;simp[hc]
def G8 (T:List D->D->Prop):Prop:=∀(l:List Int),T [.sl 1 (l.map (D.int .i64))] (.bool true)
def bw {p:Prop}(h:p:=by((repeat intro _);exact XJ HF (.inl (by assumption)) fun T hT=>(by apply hT<;>assumption))):p:=h
def bj {t:List (Nat×qx)}{key u q:Nat}:((under t key u).at q).cd:=AP t key u q
section
def Wh:List D->Nat
 |_::.int _ (.ofNat 4)::_=>3
 |_=>1
def A124 (T:RT):Prop:=KI T/\Ha T
def XN (T:FT):Prop:=∀(r:Ld),(r.sm)->T (Ld.D r) [] (.tup [Rec.D (iP r.rest).1,.bool (tN r.rest).isSome]) (Ld.D (r.to (iP r.rest).2))
def Zs:y5 (oL XN):=SO
def XO (T:FT):Prop:=∀(r:Ld) (w:au) (n:Nat) (op:Bool),(r.sm)->(n<=1000)->(op=true->1<=n)->T (Ld.D r) [.str w,.int .i64 (n:Nat),.bool op] (.tup [Bk (cr w n op r.rest),.bool (cr w n op r.rest).isSome]) (Ld.D (r.after (cr w n op r.rest)))
def Zt:y5 (oL XO):=SO
def XP (T:FT):Prop:=∀(r:Ld),(r.sm)->T (Ld.D r) [] (bN.D (fo r.rest).1) (Ld.D (r.to (fo r.rest).2))
def Zu:y5 (oL XP):=SO
def XQ (T:FT):Prop:=∀(r:Ld),(r.sm)->T (Ld.D r) [] (.str (cz r.rest).1) (Ld.D (r.to (cz r.rest).2))
def Zv:y5 (oL XQ):=SO
def u811:List D->Nat:=fun ds=>2*(match ds.getD 1 .any with| .int _ i=>i.toNat|_=>0)
def u951:List D->Nat:=fun ds=>2*(match ds.getD 1 .any with| .int _ i=>i.toNat|_=>0)+1
def u1036:List D->Nat:=fun ds=>2*(match ds.getD 1 .any with| .int _ i=>i.toNat|_=>0)
def Zr:Zw (DA G8):=HF
def aW:List (Nat×qx):=[(70,rP 14 Em),(71,rP 14 Em),(72,rP 15 En),(73,rP 15 En),(74,rP 16 Eo),(75,rP 16 Eo),(76,rP 15 R3),(78,rP 4 R4),(79,rP 10 R5),(85,rP 19 R6),(86,rP 18 R7),(88,rP 6 R8),(124,rP 1 A124),(208,rP 1 yp),(209,rP 4 yq),(210,rP 13 yr),(211,rP 11 KJ),(212,rP 6 yt),(213,rP 3 yE),(214,rP 3 KK),(215,rP 6 yu),(216,rP 2 yp),(217,rP 4 yq),(218,rP 13 KL),(219,rP 6 yu),(220,rP 2 yv),(221,rP 2 yv),(222,rF 7 XN),(225,rP 3 KM),(226,rP 1 KN),(227,rP 2 KO),(228,rP 2 KP),(229,rP 9 KQ),(230,rP 7 KR),(231,rP 3 KS),(232,rP 2 KT),(239,rP 2 KU),(242,rP 1 KV),(244,rP 1 KW),(245,rP 1 KX),(246,rP 2 KY),(249,rP 1 KZ),(251,rP 18 K0),(252,rP 3 K1),(253,rP 2 K2),(254,rP 1 K3),(255,rP 3 K4),(256,rP 3 K5),(257,rP 17 K6),(263,rP 5 K7),(295,rP 5 yw),(316,rP 5 yD),(331,rP 1 K8),(336,rP 1 sz),(349,rP 1 yx),(353,rP 17 yy),(357,rP 2 yx),(358,rP 17 yy),(424,rP 5 yw),(440,rP 1 yz),(441,rP 3 K9),(442,rP 2 La),(443,rP 12 yA),(444,rP 10 yK),(445,rP 5 yB),(446,rP 5 yC),(447,rP 1 yW),(448,rP 2 yP),(449,rP 2 yX),(450,rG 2 Vm),(451,rP 5 yD),(452,rG 1 Sk),(453,rP 1 Lb),(454,rP 1 Lc),(455,rP 1 yz),(456,rP 3 Lg),(457,rP 12 yr),(458,rP 11 Lh),(459,rP 5 yE),(460,rP 4 Li),(461,rP 2 Lj),(462,rP 1 Lk),(463,rP 1 Ll),(464,rP 1 Lm),(465,rFG 3 XO Jg),(466,rP 6 Ln),(467,rF 5 XP),(468,rF 4 XQ),(469,rP 1 Lo),(470,rP 1 yI),(477,rP 2 Lp),(478,rP 1 Lq),(479,rP 1 Lr),(480,rP 8 Ls),(481,rP 2 Lt),(482,rP 6 yY),(483,rP 1 Lu),(487,rP 1 Lv),(489,rG 1 Sq),(494,rP 1 Lw),(495,rP 9 yT),(496,rP 8 yU),(497,rP 2 Lx),(499,rP 1 Ly),(501,rP 6 yS),(504,rG 18 Vs),(511,rP 9 yF),(516,rP 2 yG),(530,rP 1 Lz),(531,rP 1 LA),(532,rP 2 yH),(533,rP 1 yI),(534,rP 3 yJ),(554,rP 3 LB),(572,rP 10 yK),(580,rP 7 yF),(630,rP 1 yH),(631,rP 4 LC),(658,rP 1 yL),(659,rP 1 yM),(660,rG 4 Vx (DE fun _=>4)),(661,rP 4 yN),(662,rP 3 yO),(663,rP 1 y0),(664,rG 1 VA),(665,rP 2 sz),(666,rP 1 LD),(667,rP 2 yL),(668,rP 1 yM),(669,rP 11 yA),(670,rP 7 yt),(671,rP 4 LF),(672,rP 3 yP),(673,rP 1 LG),(674,rP 1 LH),(675,rP 1 LI),(676,rP 5 yQ),(677,rG 3 VG),(678,rP 1 yR),(682,rP 8 LJ),(683,rP 1 LK),(684,rP 7 LL),(685,rP 8 yZ),(686,rP 1 LM),(699,rP 8 LN),(700,rP 7 LO),(701,rP 6 yS),(704,rP 1 LP),(714,rP 1 LR),(734,rP 2 sz),(744,rP 8 yT),(745,rP 9 yU),(783,rP 3 yJ),(808,rG 4 C808 (DE Wh)),(809,rG 4 C809 (DE fun _=>2)),(810,rP 2 LU),(811,rP 2 yV u811),(812,rP 3 LV),(813,rP 6 yB),(814,rP 6 yC),(815,rP 1 yW),(816,rP 2 yX),(819,rP 7 LW),(827,rP 5 yQ),(828,rP 6 yY),(882,rP 1 LX),(896,rP 1 LY),(897,rP 7 LZ),(898,rP 1 L0),(899,rP 6 L1),(900,rP 7 L2),(901,rP 8 yZ),(927,rP 1 yG),(946,rP 1 L3),(947,rG 2 Ma),(948,rG 1 OV),(949,rG 4 C949 (DE fun _=>0)),(950,rP 1 L4),(951,rP 2 Ub u951),(952,rG 4 VO (DE fun _=>2)),(953,rP 5 yN),(954,rP 3 yO),(955,rP 1 y0),(956,rP 1 uY),(957,rP 1 yR),(1006,rP 2 G1),(1007,rP 1 G2),(1008,rP 3 G3),(1031,rG 3 OK),(1032,rG 4 XR (DE fun _=>1)),(1033,rG 1 Ez),(1034,rG 1 Bu),(1035,rP 4 G4),(1036,rP 2 yV u1036),(1079,rP 1 uY),(1097,rG 4 XS (DE fun _=>0)),(1098,rP 3 G5),(1099,rP 1 G6),(1100,rP 1 G7),(1126,rG 3 OO),(1141,rG 1 OP),(1198,rP 20 G8),(1203,rP 19 G9)]
variable {k u v:Nat}
def G70 (hk:14<k:=by decide):C70 (under aW k u):=bw
def G71 (hk:14<k:=by decide):C71 (under aW k u):=bw
def G72 (hk:15<k:=by decide):C72 (under aW k u):=bw
def G73 (hk:15<k:=by decide):C73 (under aW k u):=bw
def G74 (hk:16<k:=by decide):C74 (under aW k u):=bw
def G75 (hk:16<k:=by decide):C75 (under aW k u):=bw
def G76 (hk:15<k:=by decide):C76 (under aW k u):=bw
def G78 (hk:4<k:=by decide):C78 (under aW k u):=bw
def G79 (hk:10<k:=by decide):C79 (under aW k u):=bw
def G85 (hk:19<k:=by decide):C85 (under aW k u):=bw
def G86 (hk:18<k:=by decide):C86 (under aW k u):=bw
def G9086 (hk:18<k:=by decide):Um (under aW k u):=fun s h1 _=>G86 hk s h1
def G88 (hk:6<k:=by decide):C88 (under aW k u):=bw
def OZ (hk:1<k:=by decide):L5 (under aW k u):=fun s b hp=>XJ HF (.inl hk) fun T h=>h.1 s b hp
def G9124 (hk:1<k:=by decide):Un (under aW k u):=fun s hp=>XJ HF (.inl hk) fun T h=>h.2 s hp
def O0 (hk:1<k:=by decide):L6 (under aW k u):=bw
def Mc (hk:4<k:=by decide):Hk (under aW k u):=bw
def G210 (hk:13<k:=by decide):XT (under aW k u):=bw
def ZJ (hk:11<k:=by decide):U8 (under aW k u):=bw
def ZK (hk:6<k:=by decide):U9 (under aW k u):=bw
def G213 (hk:3<k:=by decide):XU (under aW k u):=bw
def G214 (hk:3<k:=by decide):XV (under aW k u):=bw
def ZL (hk:6<k:=by decide):Vb (under aW k u):=bw
def O1 (hk:2<k:=by decide):L7 (under aW k u):=bw
def O2 (hk:4<k:=by decide):L8 (under aW k u):=bw
def G218 (hk:13<k:=by decide):XW (under aW k u):=bw
def ZM (hk:6<k:=by decide):Vc (under aW k u):=bw
def G220 (hk:2<k:=by decide):XX (under aW k u):=bw
def G221 (hk:2<k:=by decide):XY (under aW k u):=bw
def G222 (hk:7<k:=by decide):XZ (under aW k u):=fun r hp0=>okf Zs hk fun T h=>h r hp0
def G225 (hk:3<k:=by decide):X0 (under aW k u):=bw
def ZN (hk:1<k:=by decide):Vd (under aW k u):=bw
def ZO (hk:2<k:=by decide):Ve (under aW k u):=bw
def Md (hk:2<k:=by decide):Hl (under aW k u):=bw
def G229 (hk:9<k:=by decide):X1 (under aW k u):=bw
def ZP (hk:7<k:=by decide):Vf (under aW k u):=bw
def ZQ (hk:3<k:=by decide):Vg (under aW k u):=bw
def G232 (hk:2<k:=by decide):X2 (under aW k u):=bw
def G239 (hk:2<k:=by decide):X3 (under aW k u):=bw
def Sx (hk:1<k:=by decide):OQ (under aW k u):=bw
def G244 (hk:1<k:=by decide):X4 (under aW k u):=bw
def ZR (hk:1<k:=by decide):X5 (under aW k u):=bw
def ZS (hk:2<k:=by decide):X6 (under aW k u):=bw
def VV (hk:1<k:=by decide):Si (under aW k u):=bw
def ZT (hk:18<k:=by decide):Vh (under aW k u):=bw
def G252 (hk:3<k:=by decide):X7 (under aW k u):=bw
def VW (hk:2<k:=by decide):Sj (under aW k u):=bw
def ZU (hk:1<k:=by decide):Vi (under aW k u):=bw
def G255 (hk:3<k:=by decide):X8 (under aW k u):=bw
def G256 (hk:3<k:=by decide):X9 (under aW k u):=bw
def G257 (hk:17<k:=by decide):Ya (under aW k u):=bw
def G263 (hk:5<k:=by decide):Yb (under aW k u):=bw
def ZV (hk:5<k:=by decide):Vj (under aW k u):=bw
def G316 (hk:5<k:=by decide):Yc (under aW k u):=bw
def G331 (hk:1<k:=by decide):Yd (under aW k u):=bw
def G336 (hk:1<k:=by decide):Ye (under aW k u):=bw
def Me (hk:1<k:=by decide):Hm (under aW k u):=bw
def G353 (hk:17<k:=by decide):Yf (under aW k u):=bw
def Mf (hk:2<k:=by decide):Hn (under aW k u):=bw
def G358 (hk:17<k:=by decide):Yg (under aW k u):=bw
def G424 (hk:5<k:=by decide):Yh (under aW k u):=bw
def G440 (hk:1<k:=by decide):Yi (under aW k u):=bw
def G441 (hk:3<k:=by decide):Yj (under aW k u):=bw
def ZW (hk:2<k:=by decide):Vk (under aW k u):=bw
def G443 (hk:12<k:=by decide):Yk (under aW k u):=bw
def G444 (hk:10<k:=by decide):Yl (under aW k u):=bw
def G445 (hk:5<k:=by decide):Ym (under aW k u):=bw
def G446 (hk:5<k:=by decide):Yn (under aW k u):=bw
def G447 (hk:1<k:=by decide):Yo (under aW k u):=bw
def ZX (hk:2<k:=by decide):Vl (under aW k u):=bw
def G449 (hk:2<k:=by decide):Yp (under aW k u):=bw
def G450 (hk:2<k:=by decide):Vm (under aW k u):=fun ws t l lw nx m K h1 h2 h3 h4 h5 hK=>yg (.inl hk) fun T _ h=>h ws t l lw nx m K h1 h2 h3 h4 h5 hK
def ZY (hk:5<k:=by decide):Vn (under aW k u):=bw
def ZZ (hk:1<k:=by decide):Sk (under aW k u):=fun ds st K h1=>yg (.inl hk) fun T _ h=>h ds st K h1
def Z0 (hk:1<k:=by decide):Vo (under aW k u):=bw
def VX (hk:1<k:=by decide):Sl (under aW k u):=bw
def G455 (hk:1<k:=by decide):Yq (under aW k u):=bw
def G456 (hk:3<k:=by decide):Yr (under aW k u):=bw
def G457 (hk:12<k:=by decide):Ys (under aW k u):=bw
def G458 (hk:11<k:=by decide):Yt (under aW k u):=bw
def G459 (hk:5<k:=by decide):Yu (under aW k u):=bw
def G460 (hk:4<k:=by decide):Yv (under aW k u):=bw
def G461 (hk:2<k:=by decide):Yw (under aW k u):=bw
def G462 (hk:1<k:=by decide):Yx (under aW k u):=bw
def G463 (hk:1<k:=by decide):Yy (under aW k u):=bw
def G464 (hk:1<k:=by decide):Yz (under aW k u):=bw
def Z1 (hk:3<k:=by decide):Sm (under aW k u):=fun r w n op hp0 hp1 hp2=>okf Zt hk fun T h=>h r w n op hp0 hp1 hp2
def G9465 (hk:3<k:=by decide):Jg (under aW k u):=fun r w n op l nx m K h1 h2 h3 h4 hK=>yg (.inl hk) fun T _ h=>h r w n op l nx m K h1 h2 h3 h4 hK
def G466 (hk:6<k:=by decide):YA (under aW k u):=bw
def G467 (hk:5<k:=by decide):Vp (under aW k u):=fun r hp0=>okf Zu hk fun T h=>h r hp0
def Z2 (hk:4<k:=by decide):Sn (under aW k u):=fun r hp0=>okf Zv hk fun T h=>h r hp0
def G469 (hk:1<k:=by decide):YB (under aW k u):=bw
def Mg (hk:1<k:=by decide):Ho (under aW k u):=bw
def G477 (hk:2<k:=by decide):YC (under aW k u):=bw
def Sy (hk:1<k:=by decide):OR (under aW k u):=bw
def VY (hk:1<k:=by decide):So (under aW k u):=bw
def G480 (hk:8<k:=by decide):YD (under aW k u):=bw
def Z3 (hk:2<k:=by decide):Vq (under aW k u):=bw
def VZ (hk:6<k:=by decide):Sp (under aW k u):=bw
def G483 (hk:1<k:=by decide):YE (under aW k u):=bw
def Z4 (hk:1<k:=by decide):Vr (under aW k u):=bw
def Z5 (hk:1<k:=by decide):Sq (under aW k u):=fun ds st K h1=>yg (.inl hk) fun T _ h=>h ds st K h1
def G494 (hk:1<k:=by decide):YF (under aW k u):=bw
def G495 (hk:9<k:=by decide):YG (under aW k u):=bw
def G496 (hk:8<k:=by decide):YH (under aW k u):=bw
def G497 (hk:2<k:=by decide):YI (under aW k u):=bw
def G499 (hk:1<k:=by decide):YJ (under aW k u):=bw
def G501 (hk:6<k:=by decide):YK (under aW k u):=bw
def G504 (hk:18<k:=by decide):Vs (under aW k u):=fun s r hp0 nx m K hK1 hK2=>yg (.inl hk) fun T _ h=>h s r hp0 nx m K hK1 hK2
def G511 (hk:9<k:=by decide):YL (under aW k u):=bw
def G516 (hk:2<k:=by decide):YM (under aW k u):=bw
def G530 (hk:1<k:=by decide):YN (under aW k u):=bw
def G531 (hk:1<k:=by decide):YO (under aW k u):=bw
def Z6 (hk:2<k:=by decide):Vt (under aW k u):=bw
def O3 (hk:1<k:=by decide):L9 (under aW k u):=bw
def G534 (hk:3<k:=by decide):YP (under aW k u):=bw
def G554 (hk:3<k:=by decide):YQ (under aW k u):=bw
def Z7 (hk:10<k:=by decide):Vu (under aW k u):=bw
def Z8 (hk:7<k:=by decide):Vv (under aW k u):=bw
def V0 (hk:1<k:=by decide):Sr (under aW k u):=bw
def G631 (hk:4<k:=by decide):YR (under aW k u):=bw
def Sz (hk:1<k:=by decide):OS (under aW k u):=bw
def Z9 (hk:1<k:=by decide):Vw (under aW k u):=bw
def G660 (hk:4<k:=by decide):Vx (under aW k u):=fun w nd hp0 nx lp ln m K h1 h2 h3 h4 hK=>yg (.inl hk) fun T _ h=>h w nd hp0 nx lp ln m K h1 h2 h3 h4 hK
def G660u (hv:v<=u):Ul (under aW 4 u) v:=fun w nd hp0 hu nx lp ln m K h1 h2 h3 h4 hK=>yg (.inr ⟨rfl,by rw[show(lk aW 660 m6).muE=DE fun _=>4 from rfl,nT h1];exact eV hu hv⟩) fun T _ h=>h w nd hp0 nx lp ln m K h1 h2 h3 h4 hK
def G661 (hk:4<k:=by decide):Vy (under aW k u):=bw
def G662 (hk:3<k:=by decide):Vz (under aW k u):=bw
def G663 (hk:1<k:=by decide):YS (under aW k u):=bw
def G664 (hk:1<k:=by decide):VA (under aW k u):=fun ds st K h1=>yg (.inl hk) fun T _ h=>h ds st K h1
def G665 (hk:2<k:=by decide):VB (under aW k u):=bw
def G666 (hk:1<k:=by decide):YT (under aW k u):=bw
def V1 (hk:2<k:=by decide):Ss (under aW k u):=bw
def G668 (hk:1<k:=by decide):VC (under aW k u):=bw
def G669 (hk:11<k:=by decide):YU (under aW k u):=bw
def G670 (hk:7<k:=by decide):VD (under aW k u):=bw
def G671 (hk:4<k:=by decide):YV (under aW k u):=bw
def G672 (hk:3<k:=by decide):VE (under aW k u):=bw
def G673 (hk:1<k:=by decide):YW (under aW k u):=bw
def G674 (hk:1<k:=by decide):YX (under aW k u):=bw
def G675 (hk:1<k:=by decide):YY (under aW k u):=bw
def G676 (hk:5<k:=by decide):VF (under aW k u):=bw
def G677 (hk:3<k:=by decide):VG (under aW k u):=fun c hp0 nx m K hK=>yg (.inl hk) fun T _ h=>h c hp0 nx m K hK
def G678 (hk:1<k:=by decide):VH (under aW k u):=bw
def G682 (hk:8<k:=by decide):YZ (under aW k u):=bw
def G683 (hk:1<k:=by decide):Y0 (under aW k u):=bw
def V2 (hk:7<k:=by decide):Su (under aW k u):=bw
def G685 (hk:8<k:=by decide):Y1 (under aW k u):=bw
def G686 (hk:1<k:=by decide):Y2 (under aW k u):=bw
def G699 (hk:8<k:=by decide):Y3 (under aW k u):=bw
def G700 (hk:7<k:=by decide):Y4 (under aW k u):=bw
def G701 (hk:6<k:=by decide):Y5 (under aW k u):=bw
def G704 (hk:1<k:=by decide):Y6 (under aW k u):=bw
def G714 (hk:1<k:=by decide):Y7 (under aW k u):=bw
def G734 (hk:2<k:=by decide):VI (under aW k u):=bw
def G744 (hk:8<k:=by decide):Y8 (under aW k u):=bw
def G745 (hk:9<k:=by decide):Y9 (under aW k u):=bw
def G783 (hk:3<k:=by decide):Za (under aW k u):=bw
def Us (hv:v<=u):OT (under aW 4 u) v:=⟨fun w nd hp0 hu nx lp ln m K h1 h2 h3 h4 hK=>yg (.inr ⟨rfl,by rw[show(lk aW 808 m6).muE=DE Wh from rfl,nT h1];exact eV hu hv⟩) fun T _ h=>h.1 w nd hp0 nx lp ln m K h1 h2 h3 h4 hK,fun w nd hp0 hu nx lp ln m K h1 h2 h3 h4 hK=>yg (.inr ⟨rfl,by rw[show(lk aW 808 m6).muE=DE Wh from rfl,nT h1];exact eV hu hv⟩) fun T _ h=>h.2 w nd hp0 nx lp ln m K h1 h2 h3 h4 hK⟩
def G809u (hv:v<=u):Zb (under aW 4 u) v:=fun w nd hp0 hu nx lp ln m K h1 h2 h3 h4 hK=>yg (.inr ⟨rfl,by rw[show(lk aW 809 m6).muE=DE fun _=>2 from rfl,nT h1];exact eV hu hv⟩) fun T _ h=>h w nd hp0 nx lp ln m K h1 h2 h3 h4 hK
def G810 (hk:2<k:=by decide):Zc (under aW k u):=bw
def G811 (hk:2<k:=by decide):Zd (under aW k u):=bw
def Ut (hv:v<=u):OU (under aW 2 u) v:=fun l i hp0 hu=>XJ HF (.inr ⟨rfl,eV hu hv⟩) fun T hT=>hT l i hp0
def G812 (hk:3<k:=by decide):Ze (under aW k u):=bw
def G813 (hk:6<k:=by decide):Zf (under aW k u):=bw
def G814 (hk:6<k:=by decide):Zg (under aW k u):=bw
def G815 (hk:1<k:=by decide):VJ (under aW k u):=bw
def G816 (hk:2<k:=by decide):Zh (under aW k u):=bw
def G819 (hk:7<k:=by decide):Zi (under aW k u):=bw
def V3 (hk:5<k:=by decide):Sv (under aW k u):=bw
def G828 (hk:6<k:=by decide):VK (under aW k u):=bw
def G882 (hk:1<k:=by decide):Zj (under aW k u):=bw
def G896 (hk:1<k:=by decide):Zk (under aW k u):=bw
def G897 (hk:7<k:=by decide):Zl (under aW k u):=bw
def G898 (hk:1<k:=by decide):Zm (under aW k u):=bw
def G899 (hk:6<k:=by decide):VL (under aW k u):=bw
def V4 (hk:7<k:=by decide):Sw (under aW k u):=bw
def G901 (hk:8<k:=by decide):Zn (under aW k u):=bw
def G927 (hk:1<k:=by decide):Zo (under aW k u):=bw
def V5 (hk:1<k:=by decide):VM (under aW k u):=bw
def SA (hk:2<k:=by decide):Ma (under aW k u):=fun w nd b nx lp ln m K h1 h2 h3 h4 hK=>yg (.inl hk) fun T _ h=>h w nd b nx lp ln m K h1 h2 h3 h4 hK
def SB (hk:1<k:=by decide):OV (under aW k u):=fun x w nd b hp0 nx lp ln m K h1 h2 h3 h4 hK=>yg (.inl hk) fun T _ h=>h x w nd b hp0 nx lp ln m K h1 h2 h3 h4 hK
def Uu (hv:v<=u):Uo (under aW 4 u) v:=fun w nd hp0 hu nx lp ln m K h1 h2 h3 h4 hK=>yg (.inr ⟨rfl,by rw[show(lk aW 949 m6).muE=DE fun _=>0 from rfl,nT h1];exact eV hu hv⟩) fun T _ h=>h w nd hp0 nx lp ln m K h1 h2 h3 h4 hK
def G950 (hk:1<k:=by decide):VN (under aW k u):=bw
def G951u (hv:v<=u):Up (under aW 2 u) v:=fun l i b hp0 hu=>XJ HF (.inr ⟨rfl,eV hu hv⟩) fun T hT=>hT l i b hp0
def G952 (hk:4<k:=by decide):VO (under aW k u):=fun W w nd hp0 hp1 nx lp ln m K h1 h2 h3 h4 hK=>yg (.inl hk) fun T _ h=>h W w nd hp0 hp1 nx lp ln m K h1 h2 h3 h4 hK
def G952u (hv:v<=u):Uq (under aW 4 u) v:=fun W w nd hp0 hp1 hu nx lp ln m K h1 h2 h3 h4 hK=>yg (.inr ⟨rfl,by rw[show(lk aW 952 m6).muE=DE fun _=>2 from rfl,tE hp0.1 h1];exact eV hu hv⟩) fun T _ h=>h W w nd hp0 hp1 nx lp ln m K h1 h2 h3 h4 hK
def G953 (hk:5<k:=by decide):VP (under aW k u):=bw
def G954 (hk:3<k:=by decide):VQ (under aW k u):=bw
def G955 (hk:1<k:=by decide):Zp (under aW k u):=bw
def G956 (hk:1<k:=by decide):Zq (under aW k u):=bw
def G957 (hk:1<k:=by decide):VR (under aW k u):=bw
def Zx (hk:2<k:=by decide):Uc (under aW k u):=bw
def Zy (hk:1<k:=by decide):Ud (under aW k u):=bw
def Zz (hk:3<k:=by decide):Ue (under aW k u):=bw
def ZA (hk:3<k:=by decide):OK (under aW k u):=fun k w nd b hp0 nx lp ln m K h1 h2 h3 h4 hK=>yg (.inl hk) fun T _ h=>h k w nd b hp0 nx lp ln m K h1 h2 h3 h4 hK
def VT (hv:v<=u):OL (under aW 4 u) v:=fun W w nd hp0 hp1 hu nx lp ln m K h1 h2 h3 h4 hK=>yg (.inr ⟨rfl,by rw[show(lk aW 1032 m6).muE=DE fun _=>1 from rfl,tE hp0.1 h1];exact eV hu hv⟩) fun T _ h=>h W w nd hp0 hp1 nx lp ln m K h1 h2 h3 h4 hK
def OX (hk:1<k:=by decide):Ez (under aW k u):=fun s W w nd b hp0 nx lp ln m K h1 h2 h3 h4 hK=>yg (.inl hk) fun T _ h=>h s W w nd b hp0 nx lp ln m K h1 h2 h3 h4 hK
def Jh (hk:1<k:=by decide):Bu (under aW k u):=fun x W w nd b hp0 nx lp ln m K h1 h2 h3 h4 hK=>yg (.inl hk) fun T _ h=>h x W w nd b hp0 nx lp ln m K h1 h2 h3 h4 hK
def ZB (hk:4<k:=by decide):Uf (under aW k u):=bw
def ZC (hk:2<k:=by decide):Ug (under aW k u):=bw
def VU (hv:v<=u):OM (under aW 2 u) v:=fun l i hp0 hu=>XJ HF (.inr ⟨rfl,eV hu hv⟩) fun T hT=>hT l i hp0
def ZD (hk:1<k:=by decide):Uh (under aW k u):=bw
def OY (hv:v<=u):Hj (under aW 4 u) v:=fun W w nd hp0 hp1 hu nx lp ln m K h1 h2 h3 h4 hK=>yg (.inr ⟨rfl,by rw[show(lk aW 1097 m6).muE=DE fun _=>0 from rfl,tE hp0.1 h1];exact eV hu hv⟩) fun T _ h=>h W w nd hp0 hp1 nx lp ln m K h1 h2 h3 h4 hK
def ZE (hk:3<k:=by decide):Ui (under aW k u):=bw
def Ur (hk:1<k:=by decide):ON (under aW k u):=bw
def ZF (hk:1<k:=by decide):Uj (under aW k u):=bw
def ZG (hk:3<k:=by decide):OO (under aW k u):=fun W w nd hp0 hp1 nx lp ln m K h1 h2 h3 h4 hK=>yg (.inl hk) fun T _ h=>h W w nd hp0 hp1 nx lp ln m K h1 h2 h3 h4 hK
def ZH (hk:1<k:=by decide):OP (under aW k u):=fun W w nd b hp0 nx lp ln m K h1 h2 h3 h4 hK=>yg (.inl hk) fun T _ h=>h W w nd b hp0 nx lp ln m K h1 h2 h3 h4 hK
def ZI (hk:19<k:=by decide):Uk (under aW k u):=bw
end
def xF:List (Nat×Nat):=[(6,1198),(10,85),(11,251),(13,86),(15,88),(16,1203),(17,478),(19,79),(20,353),(21,489),(22,72),(23,497),(24,452),(25,358),(26,73),(28,252),(29,253),(30,254),(31,208),(32,255),(33,256),(34,76),(35,242),(36,257),(43,263),(44,228),(45,504),(46,74),(47,511),(50,227),(51,229),(52,230),(53,231),(54,232),(56,70),(57,215),(58,686),(59,216),(60,75),(61,580),(62,71),(63,219),(64,239),(65,244),(67,124),(68,499),(69,487),(70,222),(72,295),(73,470),(76,501),(77,249),(78,78),(79,479),(80,220),(81,699),(82,700),(83,701),(86,469),(89,480),(90,481),(91,482),(92,483),(94,209),(95,210),(96,211),(97,212),(98,213),(99,214),(100,450),(101,451),(102,453),(103,454),(104,221),(105,217),(106,218),(107,316),(108,461),(109,462),(110,331),(114,465),(115,466),(116,467),(117,468),(119,530),(120,531),(121,532),(122,533),(123,534),(126,424),(127,225),(128,226),(129,463),(130,676),(131,677),(132,678),(133,440),(134,441),(135,442),(136,443),(137,349),(138,444),(139,445),(140,446),(141,447),(142,448),(143,449),(144,664),(145,665),(146,464),(147,455),(148,456),(149,457),(150,458),(151,459),(152,460),(153,554),(159,245),(160,246),(161,675),(162,658),(164,714),(165,659),(166,516),(173,630),(174,631),(175,477),(176,734),(177,495),(178,496),(179,660),(180,661),(181,662),(182,663),(183,336),(184,666),(185,667),(186,668),(187,669),(188,670),(189,357),(190,572),(191,671),(192,672),(193,673),(194,674),(202,494),(203,704),(205,783),(206,882),(207,682),(208,683),(209,684),(210,685),(211,808),(212,809),(213,810),(214,811),(216,812),(217,813),(218,814),(219,744),(220,745),(221,815),(222,816),(228,927),(229,819),(237,827),(238,828),(239,946),(240,947),(241,948),(242,949),(243,950),(244,951),(246,952),(247,953),(248,954),(249,896),(250,897),(251,898),(252,899),(253,900),(254,901),(255,955),(256,956),(257,957),(261,1031),(266,1032),(267,1033),(268,1034),(269,1035),(270,1036),(271,1006),(272,1007),(273,1008),(281,1097),(282,1098),(283,1099),(284,1100),(285,1079),(290,1126),(291,1141)]
def Py:List Nat:=[219,1091,1354,1894,1896,1616,1320,1618,1898,2062,2066,2282,2068,2252,2194,2064,1904,900,931,937,935,445,978,1328,904,942,944,946,952,448,522,1008,1000000060]
def bh:(Go.Proofs.Tryz.prog).follows .mixedOrders=true:=n8
abbrev Ow [dD](f n:Nat):Prop:=XB Go.Proofs.Tryz.prog xF Py aW f n
abbrev Cp (f:Nat)(a:aF):Prop:=OD Go.Proofs.Tryz.prog xF Py f a
def ck {f:Nat}{a:aF}(h:((Go.Proofs.Tryz.prog).funcs[f]?).map (fun f=>(compile Go.Proofs.Tryz.prog xF Py f,f.name== "runtime.NumGoroutine"))=some (some a,false):=by kernel_rfl):Cp f a:=h
end Go.Abs
section
namespace Go.Proofs
open Go.Shelf
def Tryz.SI:Go.Shelf.Ren:=⟨fun|166=>21|167=>144|169=>24|240=>55|276=>93|n=>n,fun|70=>58|9=>9|0=>0|72=>60|37=>39|3=>3|5=>5|4=>4|20=>20|75=>62|80=>67|164=>146|127=>104|n=>n,fun|n=>n⟩
def Tryz.Jp:Go.Proofs.Lays.n166 Tryz.prog Tryz.SI:={
 mixed:=by kernel_rfl
 f166:=Tryz.func21.trans (congrArg some (by kernel_rfl))
 f240:=Tryz.func55.trans (congrArg some (by kernel_rfl))
 f276:=Tryz.func93.trans (congrArg some (by kernel_rfl))
 t0:=Tryz.underlying0
 a0:=Tryz.isAgg0
 z0:=Tryz.sizeOf0
 v0:=Tryz.zeroValue0
 t3:=Tryz.underlying3
 a3:=Tryz.isAgg3
 z3:=Tryz.sizeOf3
 v3:=Tryz.zeroValue3
 t4:=Tryz.underlying4
 a4:=Tryz.isAgg4
 z4:=Tryz.sizeOf4
 v4:=Tryz.zeroValue4
 t9:=Tryz.underlying9
 a9:=Tryz.isAgg9
 z9:=Tryz.sizeOf9
 v9:=Tryz.zeroValue9
 t20:=Tryz.underlying20
 a20:=Tryz.isAgg20
 z20:=Tryz.sizeOf20
 v20:=Tryz.zeroValue20
 t37:=Tryz.underlying39
 a37:=Tryz.isAgg39
 z37:=Tryz.sizeOf39
 v37:=Tryz.zeroValue39
 t70:=Tryz.underlying58
 a70:=Tryz.isAgg58
 z70:=Tryz.sizeOf58
 v70:=Tryz.zeroValue58
 t72:=Tryz.underlying60
 a72:=Tryz.isAgg60
 z72:=Tryz.sizeOf60
 v72:=Tryz.zeroValue60
 t75:=Tryz.underlying62
 a75:=Tryz.isAgg62
 z75:=Tryz.sizeOf62
 v75:=Tryz.zeroValue62
 t164:=Tryz.underlying146
 a164:=Tryz.isAgg146
 z164:=Tryz.sizeOf146
 v164:=Tryz.zeroValue146}
def Tryz.Jq:Go.Proofs.Lays.n167 Tryz.prog Tryz.SI:={
 mixed:=by kernel_rfl
 f167:=Tryz.func144.trans (congrArg some (by kernel_rfl))
 f240:=Tryz.func55.trans (congrArg some (by kernel_rfl))
 f276:=Tryz.func93.trans (congrArg some (by kernel_rfl))
 t0:=Tryz.underlying0
 a0:=Tryz.isAgg0
 z0:=Tryz.sizeOf0
 v0:=Tryz.zeroValue0
 t4:=Tryz.underlying4
 a4:=Tryz.isAgg4
 z4:=Tryz.sizeOf4
 v4:=Tryz.zeroValue4
 t5:=Tryz.underlying5
 a5:=Tryz.isAgg5
 z5:=Tryz.sizeOf5
 v5:=Tryz.zeroValue5
 t9:=Tryz.underlying9
 a9:=Tryz.isAgg9
 z9:=Tryz.sizeOf9
 v9:=Tryz.zeroValue9
 t20:=Tryz.underlying20
 a20:=Tryz.isAgg20
 z20:=Tryz.sizeOf20
 v20:=Tryz.zeroValue20
 t37:=Tryz.underlying39
 a37:=Tryz.isAgg39
 z37:=Tryz.sizeOf39
 v37:=Tryz.zeroValue39
 t70:=Tryz.underlying58
 a70:=Tryz.isAgg58
 z70:=Tryz.sizeOf58
 v70:=Tryz.zeroValue58
 t72:=Tryz.underlying60
 a72:=Tryz.isAgg60
 z72:=Tryz.sizeOf60
 v72:=Tryz.zeroValue60
 t75:=Tryz.underlying62
 a75:=Tryz.isAgg62
 z75:=Tryz.sizeOf62
 v75:=Tryz.zeroValue62
 t164:=Tryz.underlying146
 a164:=Tryz.isAgg146
 z164:=Tryz.sizeOf146
 v164:=Tryz.zeroValue146}
def Tryz.Jr:Go.Proofs.Lays.n169 Tryz.prog Tryz.SI:={
 mixed:=by kernel_rfl
 f169:=Tryz.func24.trans (congrArg some (by kernel_rfl))
 t0:=Tryz.underlying0
 a0:=Tryz.isAgg0
 z0:=Tryz.sizeOf0
 v0:=Tryz.zeroValue0
 t3:=Tryz.underlying3
 a3:=Tryz.isAgg3
 z3:=Tryz.sizeOf3
 v3:=Tryz.zeroValue3
 t9:=Tryz.underlying9
 a9:=Tryz.isAgg9
 z9:=Tryz.sizeOf9
 v9:=Tryz.zeroValue9
 t37:=Tryz.underlying39
 a37:=Tryz.isAgg39
 z37:=Tryz.sizeOf39
 v37:=Tryz.zeroValue39
 t70:=Tryz.underlying58
 a70:=Tryz.isAgg58
 z70:=Tryz.sizeOf58
 v70:=Tryz.zeroValue58
 t72:=Tryz.underlying60
 a72:=Tryz.isAgg60
 z72:=Tryz.sizeOf60
 v72:=Tryz.zeroValue60
 t127:=Tryz.underlying104
 a127:=Tryz.isAgg104
 z127:=Tryz.sizeOf104
 v127:=Tryz.zeroValue104}
def Tryz.Wg:Builder.Extra Tryz.prog Tryz.SI:={
 sizeBuilder:=by kernel_rfl
 liesBuilder:=by kernel_rfl
 t5:=Tryz.underlying5
 a5:=Tryz.isAgg5
 z5:=Tryz.sizeOf5
 v5:=Tryz.zeroValue5
 infoByte:=by kernel_rfl
 cellsByte:=by kernel_rfl
 sizeByte:=by kernel_rfl
 neB5:=by decide}
end Go.Proofs
end
section
namespace Go.Proofs
open Go.Shelf
def Tryz.lays156_ren:Go.Shelf.Ren:=⟨fun|156=>35|165=>71|166=>21|169=>24|240=>55|241=>118|276=>93|277=>163|n=>n,fun|31=>68|9=>9|3=>3|4=>4|0=>0|20=>20|72=>60|76=>63|70=>58|37=>39|75=>62|127=>104|164=>146|5=>5|80=>67|n=>n,fun|n=>n⟩
def Tryz.lays156:Go.Proofs.Lays.n156 Tryz.prog Tryz.lays156_ren:={
 mixed:=by kernel_rfl
 f156:=cB Tryz.func35
 f165:=cB Tryz.func71
 f166:=cB Tryz.func21
 f169:=cB Tryz.func24
 f240:=cB Tryz.func55
 f241:=cB Tryz.func118
 f276:=cB Tryz.func93
 f277:=cB Tryz.func163
 t0:=Tryz.underlying0
 a0:=Tryz.isAgg0
 z0:=Tryz.sizeOf0
 v0:=Tryz.zeroValue0
 t3:=Tryz.underlying3
 a3:=Tryz.isAgg3
 z3:=Tryz.sizeOf3
 v3:=Tryz.zeroValue3
 t4:=Tryz.underlying4
 a4:=Tryz.isAgg4
 z4:=Tryz.sizeOf4
 v4:=Tryz.zeroValue4
 t9:=Tryz.underlying9
 a9:=Tryz.isAgg9
 z9:=Tryz.sizeOf9
 v9:=Tryz.zeroValue9
 t20:=Tryz.underlying20
 a20:=Tryz.isAgg20
 z20:=Tryz.sizeOf20
 v20:=Tryz.zeroValue20
 t31:=Tryz.underlying68
 a31:=Tryz.isAgg68
 z31:=Tryz.sizeOf68
 v31:=Tryz.zeroValue68
 t37:=Tryz.underlying39
 a37:=Tryz.isAgg39
 z37:=Tryz.sizeOf39
 v37:=Tryz.zeroValue39
 t70:=Tryz.underlying58
 a70:=Tryz.isAgg58
 z70:=Tryz.sizeOf58
 v70:=Tryz.zeroValue58
 t72:=Tryz.underlying60
 a72:=Tryz.isAgg60
 z72:=Tryz.sizeOf60
 v72:=Tryz.zeroValue60
 t75:=Tryz.underlying62
 a75:=Tryz.isAgg62
 z75:=Tryz.sizeOf62
 v75:=Tryz.zeroValue62
 t76:=Tryz.underlying63
 a76:=Tryz.isAgg63
 z76:=Tryz.sizeOf63
 v76:=Tryz.zeroValue63
 t127:=Tryz.underlying104
 a127:=Tryz.isAgg104
 z127:=Tryz.sizeOf104
 v127:=Tryz.zeroValue104
 t164:=Tryz.underlying146
 a164:=Tryz.isAgg146
 z164:=Tryz.sizeOf146
 v164:=Tryz.zeroValue146}
def Tryz.Builder_Extra_156:Builder.Extra Tryz.prog Tryz.lays156_ren:={
 sizeBuilder:=by kernel_rfl
 liesBuilder:=by kernel_rfl
 t5:=Tryz.underlying5
 a5:=Tryz.isAgg5
 z5:=Tryz.sizeOf5
 v5:=Tryz.zeroValue5
 infoByte:=by kernel_rfl
 cellsByte:=by kernel_rfl
 sizeByte:=by kernel_rfl
 neB5:=by decide}
open Go.RowKit in
theorem Tryz.strings_Join_none (a:Option Addr)(c:Nat)(sep:ByteArray)(w:World):
  Calls Tryz.prog 35 #[.slice a 0 c,.string sep] w fun e w'=>e=.returned (.string ⟨#[]⟩)∧w'=w:=Any.strings_Join_none Tryz.lays156 Tryz.Builder_Extra_156 a c sep w
open Go.RowKit in
theorem Tryz.strings_Join (bk o c:Nat)(xs:List ByteArray)(sep:ByteArray)(w:World)(hcells:∀(j:Nat) x,xs[j]? =some x→w.cell? ⟨bk,o+j,none⟩=some (.string x))(hbk:bk<w.heap.size)(hN:xs.length≤140737488355328)(hcap:xs.length≤c)(hlen:(Lib.join (xs.map (·.data.toList)) sep.data.toList).length≤140737488355328):
  Calls Tryz.prog 35 #[.slice (some ⟨bk,o,none⟩) xs.length c,.string sep] w fun e w'=>e=.returned (.string ⟨(Lib.join (xs.map (·.data.toList)) sep.data.toList).toArray⟩)∧Below w.heap.size w w':=Any.strings_Join Tryz.lays156 Tryz.Builder_Extra_156 bk o c xs sep w hcells hbk hN hcap hlen
def Tryz.lays160_ren:Go.Shelf.Ren:=⟨fun|160=>208|232=>231|231=>230|227=>232|234=>234|233=>233|236=>236|235=>235|228=>258|271=>260|151=>259|197=>196|120=>275|152=>274|260=>223|137=>286|119=>287|224=>200|225=>199|217=>198|266=>224|n=>n,fun|9=>9|4=>4|3=>3|5=>5|117=>247|116=>246|0=>0|124=>250|21=>21|105=>221|46=>105|119=>260|139=>263|138=>262|n=>n,fun|3=>1|4=>2|n=>n⟩
def Tryz.lays160:Go.Proofs.Lays.n160 Tryz.prog Tryz.lays160_ren:={
 mixed:=by kernel_rfl
 f119:=cB Tryz.func287
 f120:=cB Tryz.func275
 f137:=cB Tryz.func286
 f151:=cB Tryz.func259
 f152:=cB Tryz.func274
 f160:=cB Tryz.func208
 f197:=cB Tryz.func196
 f217:=cB Tryz.func198
 f224:=cB Tryz.func200
 f225:=cB Tryz.func199
 f227:=cB Tryz.func232
 f228:=cB Tryz.func258
 f231:=cB Tryz.func230
 f232:=cB Tryz.func231
 f233:=cB Tryz.func233
 f234:=cB Tryz.func234
 f235:=cB Tryz.func235
 f236:=cB Tryz.func236
 f260:=cB Tryz.func223
 f266:=cB Tryz.func224
 f271:=cB Tryz.func260
 t0:=Tryz.underlying0
 a0:=Tryz.isAgg0
 z0:=Tryz.sizeOf0
 v0:=Tryz.zeroValue0
 t3:=Tryz.underlying3
 a3:=Tryz.isAgg3
 z3:=Tryz.sizeOf3
 v3:=Tryz.zeroValue3
 t4:=Tryz.underlying4
 a4:=Tryz.isAgg4
 z4:=Tryz.sizeOf4
 v4:=Tryz.zeroValue4
 t5:=Tryz.underlying5
 a5:=Tryz.isAgg5
 z5:=Tryz.sizeOf5
 v5:=Tryz.zeroValue5
 t9:=Tryz.underlying9
 a9:=Tryz.isAgg9
 z9:=Tryz.sizeOf9
 v9:=Tryz.zeroValue9
 t21:=Tryz.underlying21
 a21:=Tryz.isAgg21
 z21:=Tryz.sizeOf21
 v21:=Tryz.zeroValue21
 t46:=Tryz.underlying105
 a46:=Tryz.isAgg105
 z46:=Tryz.sizeOf105
 v46:=Tryz.zeroValue105
 t105:=Tryz.underlying221
 a105:=Tryz.isAgg221
 z105:=Tryz.sizeOf221
 v105:=Tryz.zeroValue221
 t116:=Tryz.underlying246
 a116:=Tryz.isAgg246
 z116:=Tryz.sizeOf246
 t117:=Tryz.underlying247
 a117:=Tryz.isAgg247
 z117:=Tryz.sizeOf247
 v117:=Tryz.zeroValue247
 t119:=Tryz.underlying260
 a119:=Tryz.isAgg260
 z119:=Tryz.sizeOf260
 t124:=Tryz.underlying250
 a124:=Tryz.isAgg250
 z124:=Tryz.sizeOf250
 v124:=Tryz.zeroValue250
 t138:=Tryz.underlying262
 a138:=Tryz.isAgg262
 z138:=Tryz.sizeOf262
 v138:=Tryz.zeroValue262
 t139:=Tryz.underlying263
 a139:=Tryz.isAgg263
 z139:=Tryz.sizeOf263
 v139:=Tryz.zeroValue263
 g3:=by kernel_rfl
 g4:=by kernel_rfl}
open Go.RowKit in
theorem Tryz.strings_Trim_one (s:ByteArray)(c:UInt8)(hc:c.toNat<128)(w:World)(hs:s.size≤9223372036854775807):
  Calls Tryz.prog 208 #[.string s,.string ⟨#[c]⟩] w fun e w'=>e=.returned (.string ⟨(Lib.trimB s.data.toList c).toArray⟩)∧(w'=w∨w'=w.drew):=Any.strings_Trim_one Tryz.lays160 s c hc w hs
def Tryz.lays103_ren:Go.Shelf.Ren:=⟨fun|103=>30|210=>66|206=>112|n=>n,fun|9=>9|4=>4|24=>70|3=>3|n=>n,fun|n=>n⟩
def Tryz.lays103:Go.Proofs.Lays.n103 Tryz.prog Tryz.lays103_ren:={
 mixed:=by kernel_rfl
 f103:=cB Tryz.func30
 f206:=cB Tryz.func112
 f210:=cB Tryz.func66
 t3:=Tryz.underlying3
 a3:=Tryz.isAgg3
 z3:=Tryz.sizeOf3
 v3:=Tryz.zeroValue3
 t4:=Tryz.underlying4
 a4:=Tryz.isAgg4
 z4:=Tryz.sizeOf4
 v4:=Tryz.zeroValue4
 t9:=Tryz.underlying9
 a9:=Tryz.isAgg9
 z9:=Tryz.sizeOf9
 v9:=Tryz.zeroValue9
 t24:=Tryz.underlying70
 a24:=Tryz.isAgg70
 z24:=Tryz.sizeOf70
 v24:=Tryz.zeroValue70}
open Go.RowKit in
theorem Tryz.strings_CutPrefix (s p:ByteArray)(w:World):
  Calls Tryz.prog 30 #[.string s,.string p] w fun e w'=>e=.returned (.tuple #[.string ⟨(Lib.trimPrefix s.data.toList p.data.toList).toArray⟩,.bool (Lib.hasPrefix s.data.toList p.data.toList)])∧w'=w:=Any.strings_CutPrefix Tryz.lays103 s p w
def Tryz.lays104_ren:Go.Shelf.Ren:=⟨fun|104=>65|211=>111|207=>157|n=>n,fun|9=>9|4=>4|24=>70|3=>3|n=>n,fun|n=>n⟩
def Tryz.lays104:Go.Proofs.Lays.n104 Tryz.prog Tryz.lays104_ren:={
 mixed:=by kernel_rfl
 f104:=cB Tryz.func65
 f207:=cB Tryz.func157
 f211:=cB Tryz.func111
 t3:=Tryz.underlying3
 a3:=Tryz.isAgg3
 z3:=Tryz.sizeOf3
 v3:=Tryz.zeroValue3
 t4:=Tryz.underlying4
 a4:=Tryz.isAgg4
 z4:=Tryz.sizeOf4
 v4:=Tryz.zeroValue4
 t9:=Tryz.underlying9
 a9:=Tryz.isAgg9
 z9:=Tryz.sizeOf9
 v9:=Tryz.zeroValue9
 t24:=Tryz.underlying70
 a24:=Tryz.isAgg70
 z24:=Tryz.sizeOf70
 v24:=Tryz.zeroValue70}
open Go.RowKit in
theorem Tryz.strings_CutSuffix (s p:ByteArray)(w:World)(hs:s.size≤9223372036854775807):
  Calls Tryz.prog 65 #[.string s,.string p] w fun e w'=>e=.returned (.tuple #[.string ⟨(Lib.trimSuffix s.data.toList p.data.toList).toArray⟩,.bool (Lib.hasSuffix s.data.toList p.data.toList)])∧w'=w:=Any.strings_CutSuffix Tryz.lays104 s p w hs
def Tryz.laysM171_ren:Go.Shelf.Ren:=⟨fun|171=>183|243=>215|246=>245|283=>262|284=>263|285=>264|286=>265|129=>277|317=>276|318=>278|319=>279|320=>280|337=>288|338=>289|n=>n,fun|3=>3|9=>9|2=>2|4=>4|171=>265|0=>0|53=>52|37=>39|5=>5|173=>268|212=>275|51=>237|20=>20|213=>276|46=>105|232=>282|233=>283|n=>n,fun|17=>3|18=>4|19=>5|n=>n⟩
def Tryz.laysM171:Go.Proofs.LaysM.n171 Tryz.prog Tryz.laysM171_ren:={
 mixed:=by kernel_rfl
 f129:=cB Tryz.func277
 f171:=cB Tryz.func183
 f243:=cB Tryz.func215
 f246:=cB Tryz.func245
 f283:=cB Tryz.func262
 f284:=cB Tryz.func263
 f285:=cB Tryz.func264
 f286:=cB Tryz.func265
 f317:=cB Tryz.func276
 f318:=cB Tryz.func278
 f319:=cB Tryz.func279
 f320:=cB Tryz.func280
 f337:=cB Tryz.func288
 f338:=cB Tryz.func289
 t0:=Tryz.underlying0
 a0:=Tryz.isAgg0
 z0:=Tryz.sizeOf0
 v0:=Tryz.zeroValue0
 t2:=Tryz.underlying2
 a2:=Tryz.isAgg2
 z2:=Tryz.sizeOf2
 v2:=Tryz.zeroValue2
 t3:=Tryz.underlying3
 a3:=Tryz.isAgg3
 z3:=Tryz.sizeOf3
 v3:=Tryz.zeroValue3
 t4:=Tryz.underlying4
 a4:=Tryz.isAgg4
 z4:=Tryz.sizeOf4
 v4:=Tryz.zeroValue4
 t5:=Tryz.underlying5
 a5:=Tryz.isAgg5
 z5:=Tryz.sizeOf5
 v5:=Tryz.zeroValue5
 t9:=Tryz.underlying9
 a9:=Tryz.isAgg9
 z9:=Tryz.sizeOf9
 v9:=Tryz.zeroValue9
 t20:=Tryz.underlying20
 a20:=Tryz.isAgg20
 z20:=Tryz.sizeOf20
 v20:=Tryz.zeroValue20
 t37:=Tryz.underlying39
 a37:=Tryz.isAgg39
 z37:=Tryz.sizeOf39
 v37:=Tryz.zeroValue39
 t46:=Tryz.underlying105
 a46:=Tryz.isAgg105
 z46:=Tryz.sizeOf105
 v46:=Tryz.zeroValue105
 t51:=Tryz.underlying237
 a51:=Tryz.isAgg237
 z51:=Tryz.sizeOf237
 v51:=Tryz.zeroValue237
 t53:=Tryz.underlying52
 a53:=Tryz.isAgg52
 z53:=Tryz.sizeOf52
 v53:=Tryz.zeroValue52
 t171:=Tryz.underlying265
 a171:=Tryz.isAgg265
 z171:=Tryz.sizeOf265
 v171:=Tryz.zeroValue265
 t173:=Tryz.underlying268
 a173:=Tryz.isAgg268
 z173:=Tryz.sizeOf268
 v173:=Tryz.zeroValue268
 t212:=Tryz.underlying275
 a212:=Tryz.isAgg275
 z212:=Tryz.sizeOf275
 v212:=Tryz.zeroValue275
 t213:=Tryz.underlying276
 a213:=Tryz.isAgg276
 z213:=Tryz.sizeOf276
 t232:=Tryz.underlying282
 a232:=Tryz.isAgg282
 z232:=Tryz.sizeOf282
 v232:=Tryz.zeroValue282
 t233:=Tryz.underlying283
 a233:=Tryz.isAgg283
 z233:=Tryz.sizeOf283
 v233:=Tryz.zeroValue283
 g17:=by kernel_rfl
 g18:=by kernel_rfl
 g19:=by kernel_rfl
 i0:=by kernel_rfl
 i2:=by kernel_rfl
 i3:=by kernel_rfl
 i4:=by kernel_rfl
 i5:=by kernel_rfl
 i9:=by kernel_rfl
 i20:=by kernel_rfl
 i37:=by kernel_rfl
 i46:=by kernel_rfl
 i51:=by kernel_rfl
 i53:=by kernel_rfl
 i171:=by kernel_rfl
 i173:=by kernel_rfl
 i212:=by kernel_rfl
 i232:=by kernel_rfl
 i233:=by kernel_rfl
 m17:=by kernel_rfl
 m18:=by kernel_rfl
 m19:=by kernel_rfl}
open Go.RowKit Go.Sort Go.Lib in
theorem Tryz.strconv_Itoa (n:Int)(h0:-9223372036854775808≤n)(h1:n≤9223372036854775807)(w:World)(htab:Lib.TabIs Tryz.prog w "internal/strconv.uint64pow10" .u64 Lib.pow10Tab):
  Calls Tryz.prog 183 #[.int .i64 n] w fun e w'=>e=.returned (.string ⟨(Lib.itoa n).toArray⟩)∧∃k os,w'=grow (w.drewN k) os:=Any.strconv_Itoa Tryz.laysM171 n h0 h1 w htab
def Tryz.lays145_ren:Go.Shelf.Ren:=⟨fun|145=>69|220=>113|219=>158|217=>198|225=>199|224=>200|267=>201|266=>224|314=>225|n=>n,fun|9=>9|4=>4|59=>109|3=>3|5=>5|46=>105|146=>238|51=>237|n=>n,fun|1=>0|n=>n⟩
def Tryz.lays145:Go.Proofs.Lays.n145 Tryz.prog Tryz.lays145_ren:={
 mixed:=by kernel_rfl
 f145:=cB Tryz.func69
 f217:=cB Tryz.func198
 f219:=cB Tryz.func158
 f220:=cB Tryz.func113
 f224:=cB Tryz.func200
 f225:=cB Tryz.func199
 f266:=cB Tryz.func224
 f267:=cB Tryz.func201
 f314:=cB Tryz.func225
 t3:=Tryz.underlying3
 a3:=Tryz.isAgg3
 z3:=Tryz.sizeOf3
 v3:=Tryz.zeroValue3
 t4:=Tryz.underlying4
 a4:=Tryz.isAgg4
 z4:=Tryz.sizeOf4
 v4:=Tryz.zeroValue4
 t5:=Tryz.underlying5
 a5:=Tryz.isAgg5
 z5:=Tryz.sizeOf5
 v5:=Tryz.zeroValue5
 t9:=Tryz.underlying9
 a9:=Tryz.isAgg9
 z9:=Tryz.sizeOf9
 v9:=Tryz.zeroValue9
 t46:=Tryz.underlying105
 a46:=Tryz.isAgg105
 z46:=Tryz.sizeOf105
 v46:=Tryz.zeroValue105
 t51:=Tryz.underlying237
 a51:=Tryz.isAgg237
 z51:=Tryz.sizeOf237
 v51:=Tryz.zeroValue237
 t59:=Tryz.underlying109
 a59:=Tryz.isAgg109
 z59:=Tryz.sizeOf109
 v59:=Tryz.zeroValue109
 t146:=Tryz.underlying238
 a146:=Tryz.isAgg238
 z146:=Tryz.sizeOf238
 v146:=Tryz.zeroValue238
 g1:=by kernel_rfl}
open Go.RowKit Go.Lib in
theorem Tryz.strings_Cut (s sep:ByteArray)(m:Int)(w:World)(hs:s.size<4294967281)(hm:w.cell? ⟨0,0,none⟩=some (.int .i64 m)):
  Calls Tryz.prog 69 #[.string s,.string sep] w fun e w'=>e=.returned (.tuple #[.string ⟨(Lib.cut s.data.toList sep.data.toList).1.toArray⟩,.string ⟨(Lib.cut s.data.toList sep.data.toList).2.1.toArray⟩,.bool (Lib.cut s.data.toList sep.data.toList).2.2])∧∃n,w'=w.drewN n:=Any.strings_Cut Tryz.lays145 s sep m w hs hm
def Tryz.lays221_ren:Go.Shelf.Ren:=⟨fun|221=>110|268=>154|138=>155|143=>156|195=>195|197=>196|218=>197|219=>158|260=>223|217=>198|225=>199|224=>200|267=>201|266=>224|314=>225|n=>n,fun|9=>9|3=>3|31=>68|4=>4|0=>0|105=>221|21=>21|5=>5|46=>105|119=>260|139=>263|138=>262|146=>238|51=>237|n=>n,fun|1=>0|3=>1|4=>2|n=>n⟩
def Tryz.lays221:Go.Proofs.Lays.n221 Tryz.prog Tryz.lays221_ren:={
 mixed:=by kernel_rfl
 f138:=cB Tryz.func155
 f143:=cB Tryz.func156
 f195:=cB Tryz.func195
 f197:=cB Tryz.func196
 f217:=cB Tryz.func198
 f218:=cB Tryz.func197
 f219:=cB Tryz.func158
 f221:=cB Tryz.func110
 f224:=cB Tryz.func200
 f225:=cB Tryz.func199
 f260:=cB Tryz.func223
 f266:=cB Tryz.func224
 f267:=cB Tryz.func201
 f268:=cB Tryz.func154
 f314:=cB Tryz.func225
 t0:=Tryz.underlying0
 a0:=Tryz.isAgg0
 z0:=Tryz.sizeOf0
 v0:=Tryz.zeroValue0
 t3:=Tryz.underlying3
 a3:=Tryz.isAgg3
 z3:=Tryz.sizeOf3
 v3:=Tryz.zeroValue3
 t4:=Tryz.underlying4
 a4:=Tryz.isAgg4
 z4:=Tryz.sizeOf4
 v4:=Tryz.zeroValue4
 t5:=Tryz.underlying5
 a5:=Tryz.isAgg5
 z5:=Tryz.sizeOf5
 v5:=Tryz.zeroValue5
 t9:=Tryz.underlying9
 a9:=Tryz.isAgg9
 z9:=Tryz.sizeOf9
 v9:=Tryz.zeroValue9
 t21:=Tryz.underlying21
 a21:=Tryz.isAgg21
 z21:=Tryz.sizeOf21
 v21:=Tryz.zeroValue21
 t31:=Tryz.underlying68
 a31:=Tryz.isAgg68
 z31:=Tryz.sizeOf68
 v31:=Tryz.zeroValue68
 t46:=Tryz.underlying105
 a46:=Tryz.isAgg105
 z46:=Tryz.sizeOf105
 v46:=Tryz.zeroValue105
 t51:=Tryz.underlying237
 a51:=Tryz.isAgg237
 z51:=Tryz.sizeOf237
 v51:=Tryz.zeroValue237
 t105:=Tryz.underlying221
 a105:=Tryz.isAgg221
 z105:=Tryz.sizeOf221
 v105:=Tryz.zeroValue221
 t119:=Tryz.underlying260
 a119:=Tryz.isAgg260
 z119:=Tryz.sizeOf260
 t138:=Tryz.underlying262
 a138:=Tryz.isAgg262
 z138:=Tryz.sizeOf262
 v138:=Tryz.zeroValue262
 t139:=Tryz.underlying263
 a139:=Tryz.isAgg263
 z139:=Tryz.sizeOf263
 v139:=Tryz.zeroValue263
 t146:=Tryz.underlying238
 a146:=Tryz.isAgg238
 z146:=Tryz.sizeOf238
 v146:=Tryz.zeroValue238
 g1:=by kernel_rfl
 g3:=by kernel_rfl
 g4:=by kernel_rfl}
def Tryz.lays146_ren:Go.Shelf.Ren:=⟨fun|146=>67|221=>110|268=>154|138=>155|143=>156|195=>195|197=>196|218=>197|219=>158|260=>223|217=>198|225=>199|224=>200|267=>201|266=>224|314=>225|n=>n,fun|9=>9|31=>68|3=>3|4=>4|0=>0|105=>221|21=>21|5=>5|46=>105|119=>260|139=>263|138=>262|146=>238|51=>237|n=>n,fun|1=>0|3=>1|4=>2|n=>n⟩
def Tryz.lays146:Go.Proofs.Lays.n146 Tryz.prog Tryz.lays146_ren:={
 mixed:=by kernel_rfl
 f138:=cB Tryz.func155
 f143:=cB Tryz.func156
 f146:=cB Tryz.func67
 f195:=cB Tryz.func195
 f197:=cB Tryz.func196
 f217:=cB Tryz.func198
 f218:=cB Tryz.func197
 f219:=cB Tryz.func158
 f221:=cB Tryz.func110
 f224:=cB Tryz.func200
 f225:=cB Tryz.func199
 f260:=cB Tryz.func223
 f266:=cB Tryz.func224
 f267:=cB Tryz.func201
 f268:=cB Tryz.func154
 f314:=cB Tryz.func225
 t0:=Tryz.underlying0
 a0:=Tryz.isAgg0
 z0:=Tryz.sizeOf0
 v0:=Tryz.zeroValue0
 t3:=Tryz.underlying3
 a3:=Tryz.isAgg3
 z3:=Tryz.sizeOf3
 v3:=Tryz.zeroValue3
 t4:=Tryz.underlying4
 a4:=Tryz.isAgg4
 z4:=Tryz.sizeOf4
 v4:=Tryz.zeroValue4
 t5:=Tryz.underlying5
 a5:=Tryz.isAgg5
 z5:=Tryz.sizeOf5
 v5:=Tryz.zeroValue5
 t9:=Tryz.underlying9
 a9:=Tryz.isAgg9
 z9:=Tryz.sizeOf9
 v9:=Tryz.zeroValue9
 t21:=Tryz.underlying21
 a21:=Tryz.isAgg21
 z21:=Tryz.sizeOf21
 v21:=Tryz.zeroValue21
 t31:=Tryz.underlying68
 a31:=Tryz.isAgg68
 z31:=Tryz.sizeOf68
 v31:=Tryz.zeroValue68
 t46:=Tryz.underlying105
 a46:=Tryz.isAgg105
 z46:=Tryz.sizeOf105
 v46:=Tryz.zeroValue105
 t51:=Tryz.underlying237
 a51:=Tryz.isAgg237
 z51:=Tryz.sizeOf237
 v51:=Tryz.zeroValue237
 t105:=Tryz.underlying221
 a105:=Tryz.isAgg221
 z105:=Tryz.sizeOf221
 v105:=Tryz.zeroValue221
 t119:=Tryz.underlying260
 a119:=Tryz.isAgg260
 z119:=Tryz.sizeOf260
 t138:=Tryz.underlying262
 a138:=Tryz.isAgg262
 z138:=Tryz.sizeOf262
 v138:=Tryz.zeroValue262
 t139:=Tryz.underlying263
 a139:=Tryz.isAgg263
 z139:=Tryz.sizeOf263
 v139:=Tryz.zeroValue263
 t146:=Tryz.underlying238
 a146:=Tryz.isAgg238
 z146:=Tryz.sizeOf238
 v146:=Tryz.zeroValue238
 g1:=by kernel_rfl
 g3:=by kernel_rfl
 g4:=by kernel_rfl}
open Go.RowKit Go.Lib in
theorem Tryz.strings_Split (s sep:ByteArray)(m:Int)(w:World)(hs:s.size<4294967281)(hm:w.cell? ⟨0,0,none⟩=some (.int .i64 m))(h1:1≤sep.size):
  Calls Tryz.prog 67 #[.string s,.string sep] w fun e w'=>
   e=.returned (.slice (some ⟨w.heap.size,0,none⟩) (Lib.countB s sep+1) (Lib.countB s sep+1))∧w'=w.alloc (.cells ((Lib.splitB sep 0 (Lib.countB s sep) s).map Value.string).toArray 9):=Any.strings_Split Tryz.lays146 (by kernel_rfl) s sep m w hs hm h1
def Tryz.lays147_ren:Go.Shelf.Ren:=⟨fun|147=>159|221=>110|268=>154|138=>155|143=>156|195=>195|197=>196|218=>197|219=>158|260=>223|217=>198|225=>199|224=>200|267=>201|266=>224|314=>225|n=>n,fun|9=>9|3=>3|31=>68|4=>4|0=>0|105=>221|21=>21|5=>5|46=>105|119=>260|139=>263|138=>262|146=>238|51=>237|n=>n,fun|1=>0|3=>1|4=>2|n=>n⟩
def Tryz.lays147:Go.Proofs.Lays.n147 Tryz.prog Tryz.lays147_ren:={
 mixed:=by kernel_rfl
 f138:=cB Tryz.func155
 f143:=cB Tryz.func156
 f147:=cB Tryz.func159
 f195:=cB Tryz.func195
 f197:=cB Tryz.func196
 f217:=cB Tryz.func198
 f218:=cB Tryz.func197
 f219:=cB Tryz.func158
 f221:=cB Tryz.func110
 f224:=cB Tryz.func200
 f225:=cB Tryz.func199
 f260:=cB Tryz.func223
 f266:=cB Tryz.func224
 f267:=cB Tryz.func201
 f268:=cB Tryz.func154
 f314:=cB Tryz.func225
 t0:=Tryz.underlying0
 a0:=Tryz.isAgg0
 z0:=Tryz.sizeOf0
 v0:=Tryz.zeroValue0
 t3:=Tryz.underlying3
 a3:=Tryz.isAgg3
 z3:=Tryz.sizeOf3
 v3:=Tryz.zeroValue3
 t4:=Tryz.underlying4
 a4:=Tryz.isAgg4
 z4:=Tryz.sizeOf4
 v4:=Tryz.zeroValue4
 t5:=Tryz.underlying5
 a5:=Tryz.isAgg5
 z5:=Tryz.sizeOf5
 v5:=Tryz.zeroValue5
 t9:=Tryz.underlying9
 a9:=Tryz.isAgg9
 z9:=Tryz.sizeOf9
 v9:=Tryz.zeroValue9
 t21:=Tryz.underlying21
 a21:=Tryz.isAgg21
 z21:=Tryz.sizeOf21
 v21:=Tryz.zeroValue21
 t31:=Tryz.underlying68
 a31:=Tryz.isAgg68
 z31:=Tryz.sizeOf68
 v31:=Tryz.zeroValue68
 t46:=Tryz.underlying105
 a46:=Tryz.isAgg105
 z46:=Tryz.sizeOf105
 v46:=Tryz.zeroValue105
 t51:=Tryz.underlying237
 a51:=Tryz.isAgg237
 z51:=Tryz.sizeOf237
 v51:=Tryz.zeroValue237
 t105:=Tryz.underlying221
 a105:=Tryz.isAgg221
 z105:=Tryz.sizeOf221
 v105:=Tryz.zeroValue221
 t119:=Tryz.underlying260
 a119:=Tryz.isAgg260
 z119:=Tryz.sizeOf260
 t138:=Tryz.underlying262
 a138:=Tryz.isAgg262
 z138:=Tryz.sizeOf262
 v138:=Tryz.zeroValue262
 t139:=Tryz.underlying263
 a139:=Tryz.isAgg263
 z139:=Tryz.sizeOf263
 v139:=Tryz.zeroValue263
 t146:=Tryz.underlying238
 a146:=Tryz.isAgg238
 z146:=Tryz.sizeOf238
 v146:=Tryz.zeroValue238
 g1:=by kernel_rfl
 g3:=by kernel_rfl
 g4:=by kernel_rfl}
open Go.RowKit Go.Lib in
theorem Tryz.strings_SplitN (s sep:ByteArray)(n:Nat)(m:Int)(w:World)(hs:s.size<4294967281)(hm:w.cell? ⟨0,0,none⟩=some (.int .i64 m))(h1:1≤sep.size)(hn:1≤n)(hn63:n≤9223372036854775807):
  Calls Tryz.prog 159 #[.string s,.string sep,.int .i64 n] w fun e w'=>
   e=.returned (.slice (some ⟨w.heap.size,0,none⟩) (Lib.splitB sep 0 (min n (s.size+1) -1) s).length (min n (s.size+1)))∧w'=w.alloc (.cells (Lib.cellsOf (Lib.splitB sep 0 (min n (s.size+1) -1) s) (min n (s.size+1))) 9):=Any.strings_SplitN Tryz.lays147 (by kernel_rfl) s sep n m w hs hm h1 hn hn63
def Tryz.laysNm216_ren:Go.Shelf.Ren:=⟨fun|16=>86|n=>n,fun|24=>68|9=>9|4=>4|n=>n,fun|n=>n⟩
def Tryz.laysNm216:Go.Proofs.Lays2.n16 Tryz.prog Tryz.laysNm216_ren:={
 mixed:=by kernel_rfl
 f16:=cB Tryz.func86
 t4:=Tryz.underlying4
 a4:=Tryz.isAgg4
 z4:=Tryz.sizeOf4
 v4:=Tryz.zeroValue4
 t9:=Tryz.underlying9
 a9:=Tryz.isAgg9
 z9:=Tryz.sizeOf9
 v9:=Tryz.zeroValue9
 t24:=Tryz.underlying68
 a24:=Tryz.isAgg68
 z24:=Tryz.sizeOf68
 v24:=Tryz.zeroValue68
 i9:=by kernel_rfl}
open Go.RowKit Go.Lib in
theorem Tryz.slices_Clone_string (b off n c:Nat)(zs:List ByteArray)(w:World)(hz:n≤zs.length)(hbig:n*16≤140737488355328)(hc:∀j,j<zs.length→w.cell? ⟨b,off+j,none⟩=some (.string (zs.getD j ByteArray.empty))):
  Calls Tryz.prog 86 #[.slice (some ⟨b,off,none⟩) n c] w fun e w'=>∃v',e=.returned v'∧w'.ownsRow w.heap.size 9 1 v' n ((zs.take n).map (Value.string))∧v'≠.slice none 0 0∧Below w.heap.size w w':=Any.slices_Clone_string Tryz.laysNm216 b off n c zs w hz hbig hc
open Go.RowKit Go.Lib in
theorem Tryz.slices_Clone_string_nil (n c:Nat)(w:World):
  Calls Tryz.prog 86 #[.slice none n c] w fun e w'=>e=.returned (.slice none 0 0)∧w'=w:=Any.slices_Clone_string_nil Tryz.laysNm216 n c w
open Go.RowKit Go.Lib in
theorem Tryz.slices_Clone_string_zero (a:Addr)(c:Nat)(w:World):
  Calls Tryz.prog 86 #[.slice (some a) 0 c] w fun e w'=>∃v',e=.returned v'∧w'.ownsRow w.heap.size 9 1 v' 0 []∧v'≠.slice none 0 0∧Below w.heap.size w w':=Any.slices_Clone_string_zero Tryz.laysNm216 a c w
end Go.Proofs
end
namespace Go.Abs
variable {Y:Ctx}(hm:(Y.at 0).cd)
def Nz {s:au}(h:s.findIdx? (fun c=>c==10)=none):jt s=[s]:=by
 have hs:ak s 10=[s]:=by have:=pH 10 s [] h;simpa[ak]using this
 unfold jt UP zR;rw[hs];rfl
def QM {s:au}{j:Nat}(h:s.findIdx? (fun c=>c==10)=some j):jt s=s.take (j+1)::jt (s.drop (j+1)):=by
 have hs:ak s 10=s.take j::ak (s.drop (j+1)) 10:=by have:=n6 10 s [] j h;simpa[ak]using this
 obtain⟨h1,h2,_⟩:=List.findIdx?_eq_some_iff_getElem.1 h;have ht:s.take (j+1)=s.take j++[10]:=by
  rw[List.take_add_one,List.getElem?_eq_getElem h1]
  grind
 obtain⟨A,b,hb⟩:∃A b,ak (s.drop (j+1)) 10=A++[b]:=⟨_,_,(List.dropLast_concat_getLast (pG _ _)).symm⟩
 grind [jt]
def O8:∀(k:Nat) (s:ByteArray),Lib.countB s ⟨⟨[10]⟩⟩=k->(Lib.splitB ⟨⟨[10]⟩⟩ 1 k s).map (fun t=>t.data.toList)=jt s.data.toList:=by
 intro k;induction k with
 |zero=>
  intro s h;rw[Lib.splitB_zero];have hi:Lib.indexB s ⟨⟨[10]⟩⟩=UL (s.data.toList.findIdx? (fun c=>c==10)):=tw _ 10;cases hq:s.data.toList.findIdx? (fun c=>c==10)with
  |none=>rw[Nz hq];rfl
  |some j=>
   rw[hq]at hi;have:=Lib.countB_hit s ⟨⟨[10]⟩⟩ j (aP 1) hi;omega
 |succ k ih=>
  intro s h;have hi:Lib.indexB s ⟨⟨[10]⟩⟩=UL (s.data.toList.findIdx? (fun c=>c==10)):=tw _ 10;cases hq:s.data.toList.findIdx? (fun c=>c==10)with
  |none=>
   rw[hq]at hi;have:=Lib.countB_miss s ⟨⟨[10]⟩⟩ hi;omega
  |some j=>
   rw[hq]at hi;have hc:=Lib.countB_hit s ⟨⟨[10]⟩⟩ j (aP 1) hi;have hl:(⟨⟨[10]⟩⟩:ByteArray).size=1:=rfl;rw[Lib.splitB_hit _ _ _ _ j hi,List.map_cons,ih _ ae,QM hq,Lib.extract_from_zero,Lib.extract_to_end];rfl
def TJ (s:au):(jt s).length<=s.length+1/\∀t∈jt s,t.length<=s.length+1:=by
 have hl:=dG s 10;have hp:=eU 10 s [];refine⟨?_,fun t h1=>?_⟩
 .unfold jt
  grind
 .unfold jt at h1;rcases List.mem_append.1 h1 with h2|h2
  .obtain⟨u,hu,rfl⟩:=dZ.1 h2;have:=eJ s 10 (lW hu);simp;omega
  grind [qg,ak]
def Oi (s:au):(Lib.trimSuffix s [10],Lib.hasSuffix s [10])=bH s:=by
 unfold Lib.trimSuffix Lib.hasSuffix bH;cases hq:s.getLast? with
 |none=>
  grind
 |some c=>
  obtain⟨r,rfl⟩:∃r,s=r++[c]:=by
   have hne:s≠[]:=by rintro rfl;cases hq
   refine⟨s.dropLast, ?_⟩;have:=List.dropLast_concat_getLast hne
   grind
  have e:([10]:au).isSuffixOf (r++[c])=decide (c=10):=by
   rw[Bool.eq_iff_iff,List.isSuffixOf_iff_suffix,aV];constructor
   .rintro⟨q,hq⟩
    grind
   .rintro rfl;exact⟨r,rfl⟩
  rw[e];by_cases h:c=10
  .subst h;simp
  .simp[h]
section
open Go.Proofs Go.Shelf Go.RowKit
section
variable [dD] {P:Program}
def mT (U:TypeId)(w:World)(v:Value)(s:List UInt8):Prop:=
 (v=.slice none 0 0/\s=[])\/∃g t c,v=.slice (some ⟨g,0,none⟩) s.length t/\w.heap[g]? =some (.cells c U (0,0))/\c.size=t/\t<=maxLen/\s.length<=t/\∀i,i<s.length->c.getD i undef=.int .u8 (s.getD i 0).toNat
def ib (s:List UInt8):List Value:=s.map fun b=>Value.int .u8 b.toNat
def iZ (s:List UInt8):(ib s).length=s.length:=by simp[ib]
theorem tc (s:List UInt8)(i:Nat)(h:i<s.length):(ib s).getD i undef=.int .u8 (s.getD i 0).toNat:=by simp[ib,List.getD,h]
def zk (s:List UInt8):∀u∈ib s,u.oneCell'=true:=by
 intro u hu;obtain⟨b,_,rfl⟩:=dZ.1 hu;rfl
def JV {x y:List UInt8}{zs:Array Value}(i:Nat)(hi:i<(x++y).length):(((ib x++ib y).toArray++zs).getD i undef)=.int .u8 ((x++y).getD i 0).toNat:=by
 rw[<-cn]
 grind [dn,ib,tc]
def SE {U t u ty:TypeId}{i:TypeInfo}{w:World}(ht:P.underlying t=some (.slice U))(hi:P.info? U=some i)(hz:i.zero=some (.int .u8 0))(hs:i.size=1)(hby:i.bytes=1){v xv:Value}{s s2:List UInt8}
  (hv:mT U w v s) (h0:s2≠[]) (hsrc:Go.Src P 1 u xv s2.length (ib s2) w) (hle:s.length+s2.length<=1099511627776):
  ∃g' t' w',(Builtin.append_ #[t,u] ty #[v,xv]).run P w=.ok (.slice (some ⟨g',0,none⟩) (s++s2).length t') w'/\mT U w' (.slice (some ⟨g',0,none⟩) (s++s2).length t') (s++s2)/\w.grownBy w' v.ownBlock/\(v.ownBlock=some g'\/w.heap.size<=g')/\g'<w'.heap.size:=by
 have hp:0<s2.length:=List.length_pos_iff.2 h0;have hm:maxLen=9223372036854775807:=rfl;rw[<-hs]at hsrc;rcases hv with⟨rfl,rfl⟩|⟨g,cap,c,rfl,hg,hcs,hcm,hle2,hc⟩
 .have hr:=run_append_grow_src (P:=P) w t u ty U i _ ht hi hz none 0 0 [] (by simp[Builtin.firstCells,loadCells,loadCellsFrom]) xv s2.length (ib s2) hsrc ae (by simp only[aB]at hle;omega) (by rw[hby];exact growslice_fits ae (by simp only[aB]at hle;omega));have hge:=grownCap_ge w (0+s2.length) 0 U;have hcm2:grownCap w (0+s2.length) 0 U<=maxLen:=grownCap_le_maxLen w (0+s2.length) 0 U (by simp only[aB]at hle;omega);simp only[b9,fE]at hr hge hcm2;refine⟨w.heap.size,_,_,hr,.inr ⟨w.heap.size,_,_,rfl,eE w.drew _, ?_,hcm2,hge,fun j hj=>?_⟩,⟨rfl,rfl,rfl, ?_,fun k hk _=>lZ w.drew _ k hk⟩,.inr (aP _), ?_⟩
  .have hz1:(Value.int IntKind.u8 0).cells.size=1:=rfl;simp only[fE,Array.size_append,List.size_toArray,iZ,size_zeroCells,hz1];omega
  .exact JV (x:=[]) j hj
  .show w.heap.size<=(w.drew.heap.push _).size;rw[Array.size_push];exact Nat.le_succ _
  .show w.heap.size<(w.drew.heap.push _).size;rw[Array.size_push];exact Nat.lt_succ_self _
 .by_cases hroom:s.length+s2.length<=cap
  .have hr:=run_append_room_src (P:=P) w t u ty U i ht hi g 0 s.length cap xv s2.length (ib s2) hsrc hroom (fun j hj=>by
    rw[hs,cell_of_heap hg (by rw[iZ]at hj;omega)];rfl) (fun j hj=>by simp[World.frozen?,hg])
   obtain⟨c',s1,s3,s4⟩:=ma g (ib s2) (0+s.length*i.size) w c U (0,0) hg (by rw[iZ,hs];omega);obtain⟨f1,f2,f3,f4⟩:=kU g (ib s2) (0+s.length*i.size) w;have hlt:g<w.heap.size:=by
    rcases gW g w.heap.size with h|h
    .exact h
    .simp[Array.getElem?_eq_none h]at hg
   refine⟨g,cap,_,by simpa using hr,.inr ⟨g,cap,c',aT,s1,ae,hcm,by rw[bF];exact hroom,fun j hj=>?_⟩,⟨f1,f2,f3,ae,fun k _ hk=>kV g _ _ _ k (fun e=>hk (by simp[Value.ownBlock,e]))⟩,.inl rfl,ae⟩;rw[s4,iZ,hs];rw[bF]at hj;by_cases hj2:j<s.length
   .rw[aj ae,hc j hj2,dn,ax hj2]
   .rw[ax ae,tc _ _ ae,dn,aj hj2];congr 4;omega
  .have hold:(Builtin.firstCells i.size s.length (.slice (some ⟨g,0,none⟩) s.length cap)).run P w.drew=.ok (ib s).toArray w.drew:=by
    refine run_firstCells_some w.drew i.size s.length _ s.length cap _ (by simp[iZ,hs]) (fun j u' hj=>?_);have hj2:j<s.length:=by
     have:=(List.getElem?_eq_some_iff.1 hj).1;rwa [iZ]at this
    have hg':w.drew.heap[g]? =some (.cells c U (0,0)):=hg;rw[Addr.xq,cell_of_heap hg' ae,b9,hc j hj2,<-tc s j hj2];simp[List.getD,hj]
   have hr:=run_append_grow_src (P:=P) w t u ty U i _ ht hi hz (some ⟨g,0,none⟩) s.length cap (ib s) hold xv s2.length (ib s2) hsrc ae ae (by rw[hby];exact growslice_fits ae ae);have hge:=grownCap_ge w (s.length+s2.length) cap U;have hcm2:grownCap w (s.length+s2.length) cap U<=maxLen:=grownCap_le_maxLen w (s.length+s2.length) cap U ae;refine⟨w.heap.size,_,_,by simpa using hr,.inr ⟨w.heap.size,_,_,aT,eE w.drew _, ?_,hcm2,by simpa using hge,fun j hj=>?_⟩,⟨rfl,rfl,rfl, ?_,fun k hk _=>lZ w.drew _ k hk⟩,.inr (aP _), ?_⟩
   .have hz1:(Value.int IntKind.u8 0).cells.size=1:=rfl;simp only[Array.size_append,List.size_toArray,bF,iZ,size_zeroCells,hz1];omega
   .exact JV j hj
   .show w.heap.size<=(w.drew.heap.push _).size;rw[Array.size_push];exact Nat.le_succ _
   .show w.heap.size<(w.drew.heap.push _).size;rw[Array.size_push];exact Nat.lt_succ_self _
def AY {ops:Array Oper}{rest:List Oper}{o:Oper}{a:Act}{Q:Exit->Act->World->Prop}(hgd:o.guard=none)(sl x:Operand)(t u:TypeId)
  (ho:o.op=.call {callee:=.builtin .append,args:=#[sl,x],argTypes:=#[t,u]}) {U:TypeId} {i:TypeInfo} {w:World}
  (ht:P.underlying t=some (.slice U)) (hi:P.info? U=some i) (hz:i.zero=some (.int .u8 0)) (hsz:i.size=1) (hby:i.bytes=1) {v xv:Value} {s s2:List UInt8} (hs:a.eval sl=v) (hx:a.eval x=xv)
  (hv:mT U w v s) (h0:s2≠[]) (hsrc:Go.Src P 1 u xv s2.length (ib s2) w) (hle:s.length+s2.length<=1099511627776)
  (h:∀g' t' w',mT U w' (.slice (some ⟨g',0,none⟩) (s++s2).length t') (s++s2)->w.grownBy w' v.ownBlock->(v.ownBlock=some g'\/w.heap.size<=g')->g'<w'.heap.size->wpList P ops Q rest (a.put o.dst (.slice (some ⟨g',0,none⟩) (s++s2).length t')) w'):wpList P ops Q (o::rest) a w:=by
 refine wpList_plain hgd fun K hK=>?_
 obtain⟨g',t',w',hr,h2,h3,h4,h5⟩:=SE (P:=P) (ty:=o.type) ht hi hz hsz hby hv h0 hsrc hle;unfold Oper.wp execOp;simp only[ho,resolve,invoke,builtin,Sem.run_bind,Sem.run_pure,Result.andThen_ok,List.map_toArray,List.map_cons,List.map_nil,hs,hx,hr];exact hK _ _ (h g' t' w' h2 h3 h4 h5)
def HN (w:World)(g n:Nat):(w.drew.freeze ⟨g,0,none⟩ n).os=w.os/\(w.drew.freeze ⟨g,0,none⟩ n).tape=w.tape/\(w.drew.freeze ⟨g,0,none⟩ n).output=w.output/\(w.drew.freeze ⟨g,0,none⟩ n).heap.size=w.heap.size/\∀k,k≠g->(w.drew.freeze ⟨g,0,none⟩ n).heap[k]? =w.heap[k]? :=by
 unfold World.freeze;split
 .exact⟨rfl,rfl,rfl,rfl,fun _ _=>rfl⟩
 .refine⟨rfl,rfl,rfl,aT,fun k hk=>?_⟩;simp only[Array.getElem?_modify];rw[aj (fun e=>hk e.symm)];rfl
def sA (b:Nat)(u:Bool)(v:Value)(T:TypeId):Obj:=.cells #[.pointer (if u=true then some ⟨b,0,none⟩else none),v] T (0,0)
variable {J:Ren}
def BF (L:Lays.n240 P J)(X:Builder.X72 P J){b:Nat}{u:Bool}{v:Value}{w:World}(h:w.heap[b]? =some (sA b u v (J.t 72))):
  Calls P (J.f 240) #[.pointer (some ⟨b,0,none⟩)] w fun e w'=>e=.returned (.tuple #[])/\w'.heap[b]? =some (sA b true v (J.t 72))/\w.grownBy w' (some b):=by
 unfold sA at h;cases u with
 |true=>
  refine(Any.Builder_copyCheck_used L X b w (by rw[Lib.cell_of_heap h];rfl)).mono ?_;rintro e w' ⟨rfl,rfl⟩;exact⟨rfl,h,⟨rfl,rfl,rfl,aP _,fun _ _ _=>rfl⟩⟩
 |false=>
  refine(Any.Builder_copyCheck_fresh L X b w (by rw[Lib.cell_of_heap h];rfl) (by simp[World.shape?,h]) (Lib.frozen_of_heap h 0)).mono ?_;rintro e w' ⟨rfl,rfl⟩;exact⟨rfl,by simp[World.setCell,Array.getElem?_modify,h,sA],⟨rfl,rfl,rfl,by simp[World.setCell],fun k _ hk=>Below.heap_setCell _ _ _ _ (fun e=>hk (by simp[e]))⟩⟩
def EJ (T U:TypeId)(b:Nat)(g:Option Nat)(s:List UInt8)(w w':World):Prop:=
 ∃g' t',w'.heap[b]? =some (sA b true (.slice (some ⟨g',0,none⟩) s.length t') T)/\mT U w' (.slice (some ⟨g',0,none⟩) s.length t') s/\(g=some g'\/w.heap.size<=g')/\g'<w'.heap.size/\g'≠b/\
  w'.os=w.os/\w'.tape=w.tape/\w'.output=w.output/\w.heap.size<=w'.heap.size/\∀k,k<w.heap.size->k≠b->some k≠g->w'.heap[k]? =w.heap[k]?
def mT.p8 {U:TypeId}{w w':World}{v:Value}{s:List UInt8}(h:mT U w v s)(hk:∀g,v.ownBlock=some g->w'.heap[g]? =w.heap[g]?):mT U w' v s:=by
 rcases h with h|⟨g,t,c,rfl,hg,r⟩
 .exact .inl h
 .exact .inr ⟨g,t,c,rfl,(hk g rfl).trans hg,r⟩
def mT.lt {U:TypeId}{w:World}{v:Value}{s:List UInt8}(h:mT U w v s){g:Nat}(hg:v.ownBlock=some g):g<w.heap.size/\∃c,w.heap[g]? =some (.cells c U (0,0)):=by
 rcases h with⟨rfl,_⟩|⟨g',t,c,rfl,hg',r⟩
 .cases hg
 .simp only[Value.ownBlock,a8]at hg
  grind
set_option maxHeartbeats 2000000 in
set_option maxRecDepth 100000 in
theorem xr (L:Lays.n166 P J)(X:Builder.Extra P J){b:Nat}{u:Bool}{v:Value}{s s2:List UInt8}{w:World}(h:w.heap[b]? =some (sA b u v (J.t 72)))(hv:mT (J.t 5) w v s)(h0:s2≠[])(hm2:s2.length<=maxLen)(hle:s.length+s2.length<=1099511627776):
  Calls P (J.f 166) #[.pointer (some ⟨b,0,none⟩),.string ⟨⟨s2⟩⟩] w fun e w'=>(∃r,e=.returned r)/\EJ (J.t 72) (J.t 5) b v.ownBlock (s++s2) w w':=by
 obtain⟨i0,hi,hz0,hz1,hz2⟩:=info_parts X.infoByte;have mixed:=L.mixed;have t72:=L.t72;have a72:=L.a72;have z72:=L.z72;have v72:=L.v72;have u72:=run_underlying L.t72;have t70:=L.t70;have a70:=L.a70;have z70:=L.z70;have v70:=L.v70;have u70:=run_underlying L.t70;have t37:=L.t37;have a37:=L.a37;have z37:=L.z37;have v37:=L.v37;have u37:=run_underlying L.t37;have t3:=L.t3;have a3:=L.a3;have z3:=L.z3;have v3:=L.v3;have u3:=run_underlying L.t3;have t9:=L.t9;have a9:=L.a9;have z9:=L.z9;have v9:=L.v9;have u9:=run_underlying L.t9;have t4:=L.t4;have a4:=L.a4;have z4:=L.z4;have v4:=L.v4;have u4:=run_underlying L.t4;have t164:=L.t164;have a164:=L.a164;have z164:=L.z164;have v164:=L.v164;have u164:=run_underlying L.t164;have t5:=X.t5;have a5:=X.a5;have z5:=X.z5;have v5:=X.v5;have u5:=run_underlying X.t5;have e240:∀args w,(callFunc (J.f 240) args).run P w=.ok (.enter (J.f 240) args) w:=enters_of L.f240 n8 rfl
 have hne:∀g,v.ownBlock=some g->g≠b:=by
  rintro g hg rfl;obtain⟨_,c,hc⟩:=hv.lt hg;rw[h]at hc;simp only[sA,a8,Obj.cells.injEq]at hc;exact X.neB5 hc.2.1
 go_enter L.f166,Body.n166_ntmps J
 go_wp2_with (go_at_fn (J.f 240);refine(BF {L with} X.toX72 h).mono ?_)
 rintro e w1 ⟨rfl,h1,hb1⟩;have hv1:mT (J.t 5) w1 v s:=hv.p8 fun g hg=>hb1.block g (hv.lt hg).1 (fun e=>hne g hg (ch e))
 have c0:w1.cell? ⟨b,0,none⟩=some (.pointer (some ⟨b,0,none⟩)):=by rw[Lib.cell_of_heap h1];rfl
 have c1:w1.cell? ⟨b,1,none⟩=some v:=by rw[Lib.cell_of_heap h1];rfl
 have hsrc:Go.Src P 1 (J.t 9) (.string ⟨⟨s2⟩⟩) s2.length (ib s2) w1:=⟨.inr L.t9,fun _=>rfl,firstCells_string _ _,firstCells_string _ _,by rw[iZ,Nat.mul_one],zk s2⟩;have key:=fun ops rest o a Q hgd ho hs hx h=>AY (P:=P) (ops:=ops) (rest:=rest) (o:=o) (a:=a) (Q:=Q) hgd (.tmp 12) (.tmp 13) (J.t 37) (J.t 9) ho L.t37 hi hz0 hz1 hz2 (v:=v) (xv:=.string ⟨⟨s2⟩⟩) hs hx hv1 h0 hsrc hle h
 go_wp2_with (at_builtin;refine key _ _ _ _ _ rfl rfl rfl rfl ?_)
 clear key;intro g' t' w2 hown' hgrow hg' hlt';have hlt:b<w1.heap.size:=by
  rcases gW b w1.heap.size with h'|h'
  .exact h'
  .simp[Array.getElem?_eq_none h']at h1
 have fQ:w2.heap[b]? =some (sA b true v (J.t 72)):=by
  rw[hgrow.block b hlt (fun e=>hne b e.symm rfl)];exact h1
 have hgb:g'≠b:=by
  rcases hg' with h'|h'
  .exact hne g' h'
  .omega
 have d0:w2.cell? ⟨b,0,none⟩=some (.pointer (some ⟨b,0,none⟩)):=by rw[Lib.cell_of_heap fQ];rfl
 have d1:w2.cell? ⟨b,1,none⟩=some v:=by rw[Lib.cell_of_heap fQ];rfl
 have f1:w2.frozen? ⟨b,1,none⟩=false:=Lib.frozen_of_heap fQ 1
 go_wp2
 go_ret2
 have hsz:=hb1.size;refine⟨⟨_,rfl⟩, ?_⟩;unfold EJ;simp only[bF]at hown'⊢;refine⟨g',t',by simp[World.setCell,Array.getElem?_modify,fQ,sA],hown'.p8 fun g hg=>Below.heap_setCell w2 ⟨b,1,none⟩ _ g (fun e=>hgb ((ch hg).trans e)),hg'.imp id (fun h=>ae),by simpa[World.setCell]using hlt',hgb,hgrow.os.trans hb1.os,hgrow.tape.trans hb1.tape,hgrow.output.trans hb1.output,by have:=hgrow.size;simp[World.setCell];omega,fun k hk h1' h2'=>?_⟩;rw[Below.heap_setCell w2 ⟨b,1,none⟩ _ k h1',hgrow.block k ae h2',hb1.block k hk (fun e=>h1' (ch e))]
set_option maxHeartbeats 2000000 in
set_option maxRecDepth 100000 in
theorem A8 (L:Lays.n167 P J)(X:Builder.Extra P J){b:Nat}{u:Bool}{v:Value}{s:List UInt8}{c:UInt8}{w:World}(h:w.heap[b]? =some (sA b u v (J.t 72)))(hv:mT (J.t 5) w v s)(hle:s.length+1<=1099511627776):
  Calls P (J.f 167) #[.pointer (some ⟨b,0,none⟩),.int .u8 c.toNat] w fun e w'=>(∃r,e=.returned r)/\EJ (J.t 72) (J.t 5) b v.ownBlock (s++[c]) w w':=by
 obtain⟨i0,hi,hz0,hz1,hz2⟩:=info_parts X.infoByte;have mixed:=L.mixed;have t72:=L.t72;have a72:=L.a72;have z72:=L.z72;have v72:=L.v72;have u72:=run_underlying L.t72;have t70:=L.t70;have a70:=L.a70;have z70:=L.z70;have v70:=L.v70;have u70:=run_underlying L.t70;have t37:=L.t37;have a37:=L.a37;have z37:=L.z37;have v37:=L.v37;have u37:=run_underlying L.t37;have t9:=L.t9;have a9:=L.a9;have z9:=L.z9;have v9:=L.v9;have u9:=run_underlying L.t9;have t4:=L.t4;have a4:=L.a4;have z4:=L.z4;have v4:=L.v4;have u4:=run_underlying L.t4;have t164:=L.t164;have a164:=L.a164;have z164:=L.z164;have v164:=L.v164;have u164:=run_underlying L.t164;have t5:=L.t5;have a5:=L.a5;have z5:=L.z5;have v5:=L.v5;have u5:=run_underlying L.t5;have e240:∀args w,(callFunc (J.f 240) args).run P w=.ok (.enter (J.f 240) args) w:=enters_of L.f240 n8 rfl
 have hne:∀g,v.ownBlock=some g->g≠b:=by
  rintro g hg rfl;obtain⟨_,c,hc⟩:=hv.lt hg;rw[h]at hc;simp only[sA,a8,Obj.cells.injEq]at hc;exact X.neB5 hc.2.1
 go_enter L.f167,Body.n167_ntmps J
 go_wp2_with (go_at_fn (J.f 240);refine(BF {L with} X.toX72 h).mono ?_)
 rintro e w1 ⟨rfl,h1,hb1⟩;have hv1:mT (J.t 5) w1 v s:=hv.p8 fun g hg=>hb1.block g (hv.lt hg).1 (fun e=>hne g hg (ch e))
 have c0:w1.cell? ⟨b,0,none⟩=some (.pointer (some ⟨b,0,none⟩)):=by rw[Lib.cell_of_heap h1];rfl
 have c1:w1.cell? ⟨b,1,none⟩=some v:=by rw[Lib.cell_of_heap h1];rfl
 have key:=fun ob ops rest o a Q sl x hgd ho hs hx hv2 hsrc h=>AY (P:=P) (w:=w1.alloc ob) (ops:=ops) (rest:=rest) (o:=o) (a:=a) (Q:=Q) hgd sl x (J.t 37) (J.t 37) ho L.t37 hi hz0 hz1 hz2 (v:=v) (xv:=.slice (some ⟨w1.heap.size,0,none⟩) 1 1) (s:=s) (s2:=[c]) hs hx hv2 (List.cons_ne_nil _ _) hsrc hle h
 go_wp2_with (at_builtin;refine key _ _ _ _ _ _ _ _ rfl rfl rfl rfl (hv1.p8 fun g hg=>Lib.alloc_old w1 _ g (hv1.lt hg).1) ?hs ?_)
 case hs=>
  refine Go.Src.ofSlice _ L.t37 ⟨w1.heap.size,0,none⟩ 1 1 _ rfl (fun j u hj=>?_) (zk [c])
  match j,hj with
  |0,hj=>simp[ib]at hj;subst hj;simp[Addr.add]
 clear key;intro g' t' w2 hown' hgrow hg' hlt';have hlt:b<w1.heap.size:=by
  rcases gW b w1.heap.size with h'|h'
  .exact h'
  .simp[Array.getElem?_eq_none h']at h1
 have fQ:w2.heap[b]? =some (sA b true v (J.t 72)):=by
  rw[hgrow.block b cM (fun e=>hne b e.symm rfl),Lib.alloc_old w1 _ b hlt];exact h1
 have hgb:g'≠b:=by
  rcases hg' with h'|h'
  .exact hne g' h'
  .omega
 have d0:w2.cell? ⟨b,0,none⟩=some (.pointer (some ⟨b,0,none⟩)):=by rw[Lib.cell_of_heap fQ];rfl
 have d1:w2.cell? ⟨b,1,none⟩=some v:=by rw[Lib.cell_of_heap fQ];rfl
 have f1:w2.frozen? ⟨b,1,none⟩=false:=Lib.frozen_of_heap fQ 1
 go_wp2
 go_ret
 have hsz:=hb1.size;refine⟨⟨_,rfl⟩, ?_⟩;unfold EJ;simp only[bF]at hown'⊢;refine⟨g',t',by simp[World.setCell,Array.getElem?_modify,fQ,sA],hown'.p8 fun g hg=>Below.heap_setCell w2 ⟨b,1,none⟩ _ g (fun e=>hgb ((ch hg).trans e)),hg'.imp id (fun h=>ae),by simpa[World.setCell]using hlt',hgb,hgrow.os.trans hb1.os,hgrow.tape.trans hb1.tape,hgrow.output.trans hb1.output,by have:=hgrow.size;simp at this;simp[World.setCell];omega,fun k hk h1' h2'=>?_⟩;rw[Below.heap_setCell w2 ⟨b,1,none⟩ _ k h1',hgrow.block k cM h2',Lib.alloc_old w1 _ k ae,hb1.block k hk (fun e=>h1' (ch e))]
set_option maxHeartbeats 1000000 in
set_option maxRecDepth 100000 in
theorem HA (L:Lays.n169 P J)(X:Builder.Extra P J){b g t:Nat}{u:Bool}{s:List UInt8}{w:World}(h:w.heap[b]? =some (sA b u (.slice (some ⟨g,0,none⟩) s.length t) (J.t 72)))(hv:mT (J.t 5) w (.slice (some ⟨g,0,none⟩) s.length t) s)(h0:s≠[]):
  Calls P (J.f 169) #[.pointer (some ⟨b,0,none⟩)] w fun e w'=>e=.returned (.string ⟨⟨s⟩⟩)/\w'.os=w.os/\w'.tape=w.tape/\w'.output=w.output/\w'.heap.size=w.heap.size/\∀k,k≠g->w'.heap[k]? =w.heap[k]? :=by
 have hl0:s.length≠0:=by simpa using h0
 obtain⟨c,hg,hcs,hcm,hle,hc⟩:∃c,w.heap[g]? =some (.cells c (J.t 5) (0,0))/\c.size=t/\t<=maxLen/\s.length<=t/\∀i,i<s.length->c.getD i undef=.int .u8 (s.getD i 0).toNat:=by
  rcases hv with⟨h1,_⟩|⟨g',t',c,h1,r⟩
  .cases h1
  .simp only[Value.slice.injEq,a8,Addr.mk.injEq]at h1;obtain⟨⟨rfl,_⟩,_,rfl⟩:=h1;exact⟨c,r⟩
 have c1:w.drew.cell? ⟨b,1,none⟩=some (.slice (some ⟨g,0,none⟩) s.length t):=by
  have:w.drew.heap[b]? =some (sA b u (.slice (some ⟨g,0,none⟩) s.length t) (J.t 72)):=h;rw[Lib.cell_of_heap this];rfl
 have hSD:(Builtin.unsafeSliceData_ #[(J.t 37)] (J.t 127) #[.slice (some ⟨g,0,none⟩) s.length t]).run P w.drew=.ok (.pointer (some ⟨g,0,none⟩)) w.drew:=
  Lib.run_unsafeSliceData_row _ _ _ _ _ _ ae
 have hUS:(Builtin.unsafeString_ #[(J.t 127),(J.t 3)] (J.t 9) #[.pointer (some ⟨g,0,none⟩),.int .i64 s.length]).run P w.drew=.ok (.string ⟨s.toArray⟩) (w.drew.freeze ⟨g,0,none⟩ s.length):=by
  refine Lib.run_unsafeString_row w.drew (J.t 127) (J.t 3) (J.t 9) (J.t 5) L.t127 X.cellsByte g c.size (by have hg':w.drew.heap[g]? =some (.cells c (J.t 5) (0,0)):=hg;simp[World.shape?,hg']) s h0 ae (by unfold maxLen at hcm;omega) ?_;intro j x hx;have hj:=(List.getElem?_eq_some_iff.1 hx).1;have hg':w.drew.heap[g]? =some (.cells c (J.t 5) (0,0)):=hg;rw[Addr.xq,cell_of_heap hg' ae,b9,hc j hj];simp[List.getD,hx]
 have mixed:=L.mixed;have t72:=L.t72;have a72:=L.a72;have z72:=L.z72;have v72:=L.v72;have u72:=run_underlying L.t72;have t70:=L.t70;have a70:=L.a70;have z70:=L.z70;have v70:=L.v70;have u70:=run_underlying L.t70;have t37:=L.t37;have a37:=L.a37;have z37:=L.z37;have v37:=L.v37;have u37:=run_underlying L.t37;have t127:=L.t127;have a127:=L.a127;have z127:=L.z127;have v127:=L.v127;have u127:=run_underlying L.t127;have t3:=L.t3;have a3:=L.a3;have z3:=L.z3;have v3:=L.v3;have u3:=run_underlying L.t3;have t9:=L.t9;have a9:=L.a9;have z9:=L.z9;have v9:=L.v9;have u9:=run_underlying L.t9;have t5:=X.t5;have a5:=X.a5;have z5:=X.z5;have v5:=X.v5;have u5:=run_underlying X.t5
 go_enter L.f169,Body.n169_ntmps J
 go_wp2
 go_region_o
 all_goals (go_wp2;go_ret;exact⟨rfl,HN _ _ _⟩)
end
end
end Go.Abs
