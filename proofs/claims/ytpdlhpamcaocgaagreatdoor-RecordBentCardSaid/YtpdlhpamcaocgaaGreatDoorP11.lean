/- A part of the proofs. -/
import Derived.Ground.Names2Prog
import Derived.KernelRfl
import Derived.Lib.CountLaws
import Derived.Lib.IndexMore
import Derived.Lib.ItoaNum
import Derived.Lib.Join
import Derived.Lib.Split
import Derived.Lib.SplitLaws
import Derived.Lib.Strings
import Derived.Lib.TrimByte
import Derived.Shelf.LaysM
import Derived.Shelf.Slices.Clone
import Derived.Shelf.Small.Strs
import Derived.Shelf.Small.Utf8
import Derived.Shelf.Small.Wraps
import Derived.Shelf.Strconv.Itoa0
import Derived.Shelf.Strconv.Itoa1
import Derived.Shelf.Strconv.Itoa2
import Derived.Shelf.Strconv.Itoa3
import Derived.Shelf.Strings.AsciiSet
import Derived.Shelf.Strings.Builder1
import Derived.Shelf.Strings.Builder2
import Derived.Shelf.Strings.Count
import Derived.Shelf.Strings.Cut
import Derived.Shelf.Strings.OnBuilder
import Derived.Shelf.Strings.Prefix
import Derived.Shelf.Strings.Runes
import Derived.Shelf.Strings.Search1
import Derived.Shelf.Strings.Search2
import Derived.Shelf.Strings.Search3
import Derived.Shelf.Strings.Shaped
import Derived.Shelf.Strings.Split
import Derived.Shelf.Strings.SplitShaped
import Derived.Shelf.Strings.Trim
import Derived.Shelf.Unicode.DecodeSlow
import Derived.Test.YtpdlhpamcaocgaaGreatDoorProg
import Derived.Test.YtpdlhpamcaocgaaGreatDoorP10
set_option linter.all false
set_option maxRecDepth 4000
namespace Go.Abs
def BR:aJ:=⟨1,7,jh,ct,(sq (rg [gb 4 s0,gm cse] [(2,0),(1,1)]) (sq (rg [gm (cs [45]),gm (cs [102,117,108,108])] [(5,0),(6,1)]) (sq (sq (r1 [gf 2 s2,gd l0,gl l1,dn l2 bL] 3 3) (.cond s3 (r1 [gf 2 s2,gd l0,gx 249 [l1,(i8 44)] [[.sl 1 [.a]],[.a]],gm l2] 5 3) .skip)) (sq (sq (r1 [gf 3 s2,gd l0] 4 1) (.cond s4 (r1 [gm (cs [98,97,114,101])] 6 0) .skip)) (sq (r1 [gf 0 s2,gd l0,ay (cs [97,110,121,32]) l1,ay l2 (cs [32]),gm s5,ay l3 l4,ay l5 (cs [32]),gm s6,ay l6 l7,ay l8 (cs [32]),gf 1 s2,gd l10,ay l9 gJ,ay iM (cs [10]),gm jN] 1 14) .ret)))))⟩
def w461 {Y:Ctx}(hm:(Y.at 0).bz)(h249:Jp Y)(w:bD)  (hp0:w.fit):dV Y BR (.str (jl w)) [bD.D w]:=by
 show bX _ _ _ [⟨_,_⟩,_,_,_,_,_,_] _;have q1:=y0 hp0;have q2:=hp0.1.1.1;have q3:=hp0.1.1.2;refine au ?_;refine jr ?_;intro u0;refine aA ?_;refine cT (fun hc0=>?_) fun hc0=>?_
 ·refine aB ?_;refine ar (hc:=h249 w.feats 44 ae) ?_;refine br ?_;refine cT (fun hc1=>?_) fun hc1=>?_
  ·refine aK ?_;refine gG ?_;refine gG ?_;refine aE ?_;refine gG ?_;refine gG ?_;refine aE ?_;refine gG ?_;refine gG ?_;refine aA ?_;refine gG ?_;refine gG ?_;refine aB ?_;refine cV ?_;all_goals
    simp only[jl,cw,nt,bc,ib,mM,dX];first|rw[av (show w.feats.length=0 by omega)]|rw[aj (show ¬w.feats.length=0 by omega)]
    simp[hc1]
  refine aG ?_;refine gG ?_;refine gG ?_;refine aE ?_;refine gG ?_;refine gG ?_;refine aE ?_;refine gG ?_;refine gG ?_;refine aA ?_;refine gG ?_;refine gG ?_;refine aB ?_;refine cV ?_;all_goals
   simp only[jl,cw,nt,bc,ib,mM,dX];first|rw[av (show w.feats.length=0 by omega)]|rw[aj (show ¬w.feats.length=0 by omega)]
   simp[hc1]
 refine aK ?_;refine cT (fun hc1=>?_) fun hc1=>?_
 ·refine aK ?_;refine gG ?_;refine gG ?_;refine aE ?_;refine gG ?_;refine gG ?_;refine aE ?_;refine gG ?_;refine gG ?_;refine aA ?_;refine gG ?_;refine gG ?_;refine aB ?_;refine cV ?_;all_goals
   simp only[jl,cw,nt,bc,ib,mM,dX];first|rw[av (show w.feats.length=0 by omega)]|rw[aj (show ¬w.feats.length=0 by omega)]
   simp[hc1]
 refine aG ?_;refine gG ?_;refine gG ?_;refine aE ?_;refine gG ?_;refine gG ?_;refine aE ?_;refine gG ?_;refine gG ?_;refine aA ?_;refine gG ?_;refine gG ?_;refine aB ?_;refine cV ?_;all_goals
  simp only[jl,cw,nt,bc,ib,mM,dX];first|rw[av (show w.feats.length=0 by omega)]|rw[aj (show ¬w.feats.length=0 by omega)]
  simp[hc1]
def R9 (Y:Ctx):Prop:=∀(w:bD),(w.fit)->Y.pre 461 [bD.D w]/\Y.val 461 [bD.D w]=.str (jl w)
def Fm:aJ:=⟨1,3,jh,ct,(sq (r1 [gm cse] 1 0) (sq (sq (r1 [gm s0,aO l0 cse] 2 1) (nH s2 cse)) (sq (r1 [gm s0,ay (cs [119,104,101,110,32]) l0,ay l1 (cs [10]),gm l2] 1 3) .ret)))⟩
def w462 {Y:Ctx}(hm:(Y.at 0).bz)  (s:aq)  (hp0:s.length<=1048576):dV Y Fm (.str (iE s)) [.str s]:=by
 show bX _ _ _ [⟨_,_⟩,_,_] _;refine au ?_;refine br ?_;refine cT (fun hc0=>?_) fun hc0=>?_
 ·refine aT ?_;refine cV ?_;rw[iE,av hc0]
 refine aB ?_;refine gG ?_;refine gG ?_;refine aB ?_;refine cV ?_;rw[iE,aj hc0];simp[cw,bc,fP]
def Sa (Y:Ctx):Prop:=∀(s:aq),(s.length<=1048576)->Y.pre 462 [.str s]/\Y.val 462 [.str s]=.str (iE s)
def Fl:aJ:=⟨1,13,jh,ct,(sq (rg [gb 9 s0,gm cse] [(2,0),(1,1)]) (sq (r2 [gf 0 s2,gd l0,ay (cs [112,97,99,107,97,103,101,32]) l1,ay l2 (cs [32]),gf 1 s2,gk 5 true l4,gx 316 [l5] HU,ay l3 l6,ay l7 (cs [10]),gm l8] 5 9) (sq (sq (r1 [gm bL] 3 0) (.block 0 (.loop (sq (sq (r1 [gm s3,gf 6 s2,gd l1,gl l2,a8 l0 l3] 4 4) (fY s4 0)) (sq (.block 1 (sq (r1 [gm s5,ay l0 (cs [110,101,101,100,10]),gm l1] 5 2) (sq (sq (r1 [gm bL] 6 0) (.block 2 (.loop (sq (sq (r1 [gm s6,gf 6 s2,gd l1,gm s3,ga 3 l2 l3,gf 0 l4,gd l5,gl l6,a8 l0 l7] 7 8) (fY s7 2)) (sq (.block 3 (r1 [gm s5,gf 6 s2,gd l1,gm s3,ga 3 l2 l3,gf 0 l4,gd l5,gm s6,ga 4 l6 l7,gk 4 true l8,gx 461 [l9] [[.a,.a,.sl 1 [.a],.a]],ay l0 l10,gm gJ] 5 12)) (r1 [gm s6,ay l0 ch,gm l1] 6 2)))))) (sq (r1 [gm s5,gf 6 s2,gd l1,gm s3,ga 3 l2 l3,gf 1 l4,gd l5,gx 462 [l6] ct,ay l0 l7,gm l8] 5 9) (sq (r1 [gf 6 s2,gd l0,gm s3,ga 3 l1 l2,gf 2 l3,gd l4,cv l5 cse] 8 6) (.cond s8 (r1 [gm s5,ay l0 (cs [111,112,116,105,111,110,32]),gf 6 s2,gd l2,gm s3,ga 3 l3 l4,gf 2 l5,gd l6,ay l1 l7,ay l8 (cs [10]),gm l9] 5 10) .skip)))))) (r1 [gm s3,ay l0 ch,gm l1] 3 2)))))) (sq (sq (r1 [gm bL] 9 0) (.block 4 (.loop (sq (sq (r1 [gm s9,gf 7 s2,gd l1,gl l2,a8 l0 l3] 10 4) (fY kZ 4)) (sq (.block 5 (r2 [gm s5,ay l0 (cs [98,97,114,32]),gf 7 s2,gd l2,gm s9,ga 3 l3 l4,gf 0 l5,gd l6,ay l1 l7,ay l8 (cs [32]),gf 7 s2,gd l10,gm s9,ga 3 gJ iM,gf 1 jN,gd ku,ay l9 lx,ay n9 (cs [10]),gf 7 s2,gd qu,gm s9,ga 3 sn wv,gf 2 zg,gd Ak,gx 462 [Ee] ct,ay pV Ef,gm EL] 5 26)) (r1 [gm s9,ay l0 ch,gm l1] 9 2)))))) (sq (sq (r1 [gm bL] 11 0) (.block 6 (.loop (sq (sq (r1 [gm nQ,gf 8 s2,gd l1,gl l2,a8 l0 l3] 12 4) (fY mQ 6)) (sq (.block 7 (r2 [gm s5,gf 8 s2,gd l1,gm nQ,ga 2 l2 l3,gf 0 l4,gd l5,gn (.bsl 1 (.str []) 2 [(0,(cs [102,101,97,116,117,114,101])),(1,l6)]),gf 8 s2,gd l8,gm nQ,ga 2 l9 l10,gf 1 gJ,gd iM,gn (.app 1 l7 jN),gx 249 [ku,(i8 32)] [[.sl 1 [.a]],[.a]],ay l0 lx,ay n9 (cs [10]),gm pV] 5 18)) (r1 [gm nQ,ay l0 ch,gm l1] 11 2)))))) (sq (r1 [gm s5,gm l0] 1 1) .ret))))))⟩
def w219 {Y:Ctx}(hm:(Y.at 0).bz)(h249:Jp Y)(h316:RS Y)(h461:R9 Y)(h462:Sa Y)(r:Rec)  (hp0:qP r/\gV r):dV Y Fl (.str (iT r)) [Rec.D r]:=by
 show bX _ _ _ [⟨_,_⟩,_,_,_,_,_,_,_,_,_,_,_,_] _;have hft:=Af hp0;have q0:=hft.nm;have q00:=yW r.v hft.v;refine au ?_;refine aK ?_;refine gG ?_;refine gG ?_;refine aE ?_;refine bA (v:=cM.D r.v) ?_;refine ar (hc:=h316 r.v hft.v) ?_;refine gG ?_;refine gG ?_;refine aK ?_;refine bw hm (ι:=Nat) (fun i=>[.un,.un,⟨true,.ptr 0 9 0 0⟩,⟨true,.int .i64 (i:Nat)⟩,.un,⟨true,.str (kH r i)⟩,.un,.un,.un,.un,.un,.un,.un]) (fun i=>[(0,.buf 9 [Rec.D r])]) 13 (fun i=>i<=r.needs.length) (fun i=>r.needs.length-i) 0 ae (bg.to [(0,0)] ah ah (by repeat(first|exact dz.nil|refine dz.un ?_|refine dz.eq ah ?_|refine dz.nl (ak D.str (by rw[LX];simp[qQ,cw,bc,dL])) ah ?_)) rh) ?_;intro i hi;have q1:=B3 hft i hi;refine aK ?_;intro u0;refine aA ?_;refine cT (fun hc0=>?_) fun hc0=>?_
 ·refine aB ?_;have hnf:=hft.n _ (bM (show i<r.needs.length by omega));have hn3:=hnf.1.1;refine aE ?_;refine gG ?_;refine aK ?_;refine bw hm (ι:=Nat) (fun j=>[.un,.un,⟨true,.ptr 0 9 0 0⟩,⟨true,.int .i64 (i:Nat)⟩,.un,⟨true,.str (kH r i++dT r.needs[i]! j)⟩,⟨true,.int .i64 (j:Nat)⟩,.un,.un,.un,.un,.un,.un]) (fun j=>[(0,.buf 9 [Rec.D r])]) 22 (fun j=>j<=r.needs[i]!.any.length) (fun j=>r.needs[i]!.any.length-j) 0 ae (bg.to [(0,0)] ah ah (by repeat(first|exact dz.nil|refine dz.un ?_|refine dz.eq ah ?_|refine dz.nl (ak D.str (by rw[Nu])) ah ?_)) rh) ?_;intro j hj;have q2:=Ao hnf j ae;refine iG ?_;intro u1;refine aA ?_;refine cT (fun hc1=>?_) fun hc1=>?_
  ·refine aB ?_;have hwf:=hnf.1.2 _ (bM (show j<r.needs[i]!.any.length by omega));have q3:=vC hwf;refine dE ?_;first|refine cb (v:=(bD.D _)) ?_|refine fk (v:=(bD.D _)) ?_
   refine ar (hc:=h461 r.needs[i]!.any[j]! hwf) ?_;refine gG ?_;refine dE ?_;exact⟨j+1,ae,ae,(bg.to [(0,0)] ah ah (by repeat(first|exact dz.nil|refine dz.un ?_|refine dz.eq ah ?_|refine dz.nl (ak D.str (by rw[og ae,dG])) ah ?_)) rh)⟩
  refine aB ?_;have q4:=nT hnf.2.1;have q5:=hnf.2.2;refine br ?_;refine ar (hc:=h462 r.needs[i]!.when' hnf.2.1) ?_;refine gG ?_;refine hE ?_;refine gN (fun hc2=>?_) fun hc2=>?_
  ·refine aA ?_;refine gG ?_;refine aK ?_;refine gG ?_;refine gG ?_;refine dE ?_;have hq:kH r (i+1)=kH r i++(dT r.needs[i]! j++iE r.needs[i]!.when'++su r.needs[i]!.option):=by rw[mK ae,uX (j:=j) ae]
   have ho:su r.needs[i]!.option=[111,112,116,105,111,110,32]++r.needs[i]!.option++[10]:=by rw[su,aj hc2];simp[cw,bc,di]
   exact⟨i+1,ae,ae,(bg.to [(0,0)] ah ah (by repeat(first|exact dz.nil|refine dz.un ?_|refine dz.eq ah ?_|refine dz.nl (ak D.str (by rw[hq,ho];simp only[dG])) ah ?_)) rh)⟩
  refine bY ?_;have hq:kH r (i+1)=kH r i++(dT r.needs[i]! j++iE r.needs[i]!.when'++su r.needs[i]!.option):=by rw[mK ae,uX (j:=j) ae]
  have ho:su r.needs[i]!.option=[]:=by rw[su,av hc2]
  exact⟨i+1,ae,ae,(bg.to [(0,0)] ah ah (by repeat(first|exact dz.nil|refine dz.un ?_|refine dz.eq ah ?_|refine dz.nl (ak D.str (by rw[hq,ho];simp only[dG,gI])) ah ?_)) rh)⟩
 refine aG ?_;have h33:i=r.needs.length:=ae;subst h33;refine aA ?_;refine bw hm (ι:=Nat) (fun i=>[.un,.un,⟨true,.ptr 0 9 0 0⟩,.un,.un,⟨true,.str (yT r i)⟩,.un,.un,.un,⟨true,.int .i64 (i:Nat)⟩,.un,.un,.un]) (fun i=>[(0,.buf 9 [Rec.D r])]) 19 (fun i=>i<=r.bars.length) (fun i=>r.bars.length-i) 0 ae (bg.to [(0,0)] ah ah (by repeat(first|exact dz.nil|refine dz.un ?_|refine dz.eq ah ?_|refine dz.nl (ak D.str (by rw[LY])) ah ?_)) rh) ?_;intro i hi;have q1:=B4 hft i hi;refine aK ?_;intro u2;refine aA ?_;refine cT (fun hc3=>?_) fun hc3=>?_
 ·refine aB ?_;have q4:=hft.b _ (bM (show i<r.bars.length by omega));have q5:=q4.1;have q6:=q4.2.1;have q7:=nT q4.2.2;refine aE ?_;refine gG ?_;refine aK ?_;refine gG ?_;refine gG ?_;refine aK ?_;refine gG ?_;refine gG ?_;refine aK ?_;refine ar (hc:=h462 r.bars[i]!.when' q4.2.2) ?_;refine gG ?_;refine dE ?_;have hq:=DZ (r:=r) (i:=i) ae;exact⟨i+1,ae,ae,(bg.to [(0,0)] ah ah (by repeat(first|exact dz.nil|refine dz.un ?_|refine dz.eq ah ?_|refine dz.nl (ak D.str (by rw[hq];simp[wi,cw,bc,ic])) ah ?_)) rh)⟩
 refine aG ?_;have h33:i=r.bars.length:=ae;subst h33;refine aA ?_;refine bw hm (ι:=Nat) (fun i=>[.un,.un,⟨true,.ptr 0 9 0 0⟩,.un,.un,⟨true,.str (AS r i)⟩,.un,.un,.un,.un,.un,⟨true,.int .i64 (i:Nat)⟩,.un]) (fun i=>[(0,.buf 9 [Rec.D r])]) 25 (fun i=>i<=r.feats.length) (fun i=>r.feats.length-i) 0 ae (bg.to [(0,0)] ah ah (by repeat(first|exact dz.nil|refine dz.un ?_|refine dz.eq ah ?_|refine dz.nl (ak D.str (by rw[LZ])) ah ?_)) rh) ?_;intro i hi;have q1:=G9 hft i hi;refine aK ?_;intro u3;refine aA ?_;refine cT (fun hc4=>?_) fun hc4=>?_
 ·refine aB ?_;have q4:=hft.f _ (bM (show i<r.feats.length by omega));have q5:=zZ q4;have q6:=q4.2;simp only[qI,cw,bE,ax,az]at q5;refine br ?_;refine c7 [(.str _),(.str _)] ?_;refine aK ?_;refine Lg (xs:=[cG,r.feats[i]!.name]) (ys:=r.feats[i]!.of) (he:=sJ.sl) (hb:=by simp only[ax,az];omega) ?_;refine ar (hc:=h249 ([cG,r.feats[i]!.name]++r.feats[i]!.of) 32 ae) (ha:=fun _=>ak (fun d=>[d,D.int .u8 32]) (uo (q:=D.str) (fun _=>rfl) ah)) (hp:=fun _=>⟨rJ (q:=D.str) (fun _=>rfl) ah,rfl,trivial⟩) ?_;refine cY (hb:=fun _=>by first|omega|(simp only[bE,ax,az];omega)) ?_;refine cY (hb:=fun _=>by first|omega|(simp only[bE,ax,az];omega)) ?_;refine dE ?_;have hq:=D0 (r:=r) (i:=i) ae;exact⟨i+1,ae,ae,(bg.to [(0,0)] ah ah (by repeat(first|exact dz.nil|refine dz.un ?_|refine dz.eq ah ?_|refine dz.nl (ak D.str (by rw[hq];simp[qI,cw])) ah ?_)) rh)⟩
 refine aB ?_;have h33:i=r.feats.length:=ae;subst h33;refine aG ?_;refine cV ?_;exact B5 r
def DA:aJ:=⟨1,6,[⟨1,none⟩,⟨2,none⟩],iB,(sq (rg [gb 9 s0,gm cse,gm bL] [(3,0),(1,1),(2,2)]) (sq (sq (r1 [gk 9 true s3,gx 71 [l0] [[.a,.a,.a,.a,.a,.a,.sl 3 [.sl 4 [.a,.a,.sl 1 [.a],.a],.a,.a],.sl 3 [.a,.a,.a],.sl 2 [.a,.sl 1 [.a]]]],gm l1,ge l2 0,ge l2 1,gm l3,gm l4] 4 5) (sq (r1 [gm s4,cv l0 bL] 5 1) (.cond s5 (sq (rg [gm s4,gm cse,gm l0] [(1,1),(2,2)]) .ret) .skip))) (sq (rg [gk 9 true s3,gx 219 [l0] [[.a,.a,.a,.a,.a,.a,.sl 3 [.sl 4 [.a,.a,.sl 1 [.a],.a],.a,.a],.sl 3 [.a,.a,.a],.sl 2 [.a,.sl 1 [.a]]]],gm l1,gm bL] [(1,2),(2,3)]) .ret)))⟩
def w73 {Y:Ctx}(hm:(Y.at 0).bz)(h71:C71 Y)(h219:OY Y)(r:Rec)  (hp0:gV r):dV Y DA (.tup [.str (iq r).1,.int .i64 (iq r).2]) [Rec.D r]:=by
 show bX _ _ _ [⟨_,_⟩,_,_,_,_,_] _;refine au ?_;refine br ?_;refine ar (hc:=h71 r hp0) ?_;refine hE ?_;refine cT (fun hc0=>?_) fun hc0=>?_
 ·refine br ?_;refine b8 (aU (ak D.str ?_) (ak (D.int .i64) ?_));all_goals
   simp[iq,hc0]
 refine aA ?_;have hgd:=vH hc0;refine aE ?_;refine ar (hc:=h219 r ⟨hgd,hp0⟩) ?_;refine aG ?_;refine b8 (aU (ak D.str ?_) (ak (D.int .i64) ?_));all_goals
  simp[iq,hc0]
def C73 (Y:Ctx):Prop:=∀(r:Rec),(gV r)->Y.pre 73 [Rec.D r]/\Y.val 73 [Rec.D r]=.tup [.str (iq r).1,.int .i64 (iq r).2]
def uV:aJ:=⟨4,16,[⟨4,none⟩],ct,(sq (r1 [gm dj] 4 0) (sq (sq (r1 [gm s3,oQ l0,dn l1 (i6 60)] 5 2) (.cond s5 (sq (r1 [gx 69 [] [],gm l0] 4 1) .ret) .skip)) (sq (r1 [gm s0,gx 79 [l0,bL,bL] [[.sl 1 [.a]],[.a],[.a]],gx 73 [l1] [[.a,.a,.a,.a,.a,.a,.sl 3 [.sl 4 [.a,.a,.sl 1 [.a],.a],.a,.a],.sl 3 [.a,.a,.a],.sl 2 [.a,.sl 1 [.a]]]],gm l2,ge l3 0,ge l3 1,gm l4,gm l5] 6 6) (sq (r1 [gm s1,gm s6,oQ l1,ay l2 ch,gx 478 [l0,l3] iB,gm l4] 7 5) (sq (r1 [gm s2,gm s6,oQ l1,gm s7,eH l2 l3,ay l4 ch,gx 478 [l0,l5] iB,gm l6] 8 7) (sq (r2 [gm s6,gm s7,gn (.slS l0 none (some l1)),gm s3,ay l2 l3,gm s6,gm s7,gm s8,ay l6 l7,gn (.slS l5 (some l8) none),ay l4 l9,gm l10] 9 11) (sq (rg [gm s9,gx 76 [l0] ct,gm l1,ge l2 0,ge l2 1,ge l2 2,gb 9 (.c (.agg [.str [],.int .i64 0,.int .i64 0,.int .i64 0,.str [],.str [],.aC,.aC,.aC])),gt 9 l6 l3,gm l4,gm l5] [(10,6),(12,8),(14,9)]) (sq (rg [gm s9,gx 77 [l0] ct,gm l1,ge l2 0,ge l2 1,ge l2 2,gb 9 (.c (.agg [.str [],.int .i64 0,.int .i64 0,.int .i64 0,.str [],.str [],.aC,.aC,.aC])),gt 9 l6 l3,gm l4,gm l5] [(11,6),(13,8),(15,9)]) (sq (r1 [gx 69 [] [],gm l0,cu 1 (.ld 9 true kZ),cu 1 (.ld 9 true nQ),cu 1 (.call 78 [l2,l3] [[.a,.a,.a,.a,.a,.a,.sl 3 [.sl 4 [.a,.a,.sl 1 [.a],.a],.a,.a],.sl 3 [.a,.a,.a],.sl 2 [.a,.sl 1 [.a]]],[.a,.a,.a,.a,.a,.a,.sl 3 [.sl 4 [.a,.a,.sl 1 [.a],.a],.a,.a],.sl 3 [.a,.a,.a],.sl 2 [.a,.sl 1 [.a]]]]),fg l1 l4,gm l5,gmt 6 mQ,gmt 6 rv,cu 6 (cP l7 l8),fg l6 l9,gm l10,gmt 11 r8,gmt 11 wD,cu 11 (cP iM jN),fg gJ ku,gm lx] 4 16) .ret)))))))))⟩
def U4 {Y:Ctx}(hm:(Y.at 0).bz)(h69:C69 Y)(h73:C73 Y)(h76:C76 Y)(h77:C77 Y)(h78:C78 Y)(h79:C79 Y)(h478:Hf Y)(l:List Int)(a:Int)(c:Int)(b:aq)   :dV Y uV (.bool true) [.sl 1 (l.map (D.int .i64)),.int .i64 a,.int .i64 c,.str b]:=by
 show bX _ _ _ [⟨_,_⟩,⟨_,_⟩,⟨_,_⟩,⟨_,_⟩,_,_,_,_,_,_,_,_,_,_,_,_] _;refine au ?_;refine aK ?_;intro u0;refine aA ?_;refine cT (fun hc0=>?_) fun hc0=>?_
 ·refine aA ?_;refine ar (hc:=h69) ?_;refine aB ?_;exact b7 rfl
 refine aA ?_;have hg:=J9 l 0 0;have hl:=hg.len;refine aE ?_;refine ar (hc:=h79 l 0 0 aF aF) ?_;refine ar (v:=.tup [.str (iT (qm l 0 0)),.int .i64 0]) (hc:=by have:=h73 _ hg.sm;rw[hg.print]at this;exact this) ?_;refine iG ?_;intro u1;refine aE ?_;refine ar (hc:=h478 a ((iT (qm l 0 0)).length+1:Nat) ae) ?_;refine aA ?_;have hr:=kA a ((iT (qm l 0 0)).length+1:Nat) ae;revert hr;generalize a%(((iT (qm l 0 0)).length+1:Nat):Int)=kk;intro hr;obtain⟨k,rfl⟩:=Int.eq_ofNat_of_zero_le hr.1;refine aG ?_;intro u2;refine aB ?_;refine ar (hc:=h478 c (((iT (qm l 0 0)).length:Int) -(k:Int)+1) ae) ?_;refine aA ?_;have hr2:=kA c (((iT (qm l 0 0)).length:Int) -(k:Int)+1) ae;revert hr2;generalize c%(((iT (qm l 0 0)).length:Int) -(k:Int)+1)=nn;intro hr2;obtain⟨n,rfl⟩:=Int.eq_ofNat_of_zero_le hr2.1;refine aB ?_;refine kQ k ?_;refine aE ?_;refine cY (hb:=fun _=>by rw[dq];omega) ?_;refine aG ?_;refine fe (k+n) ?_;refine cY (hb:=fun _=>by rw[bE,dq,jn];omega) ?_;refine aA ?_;generalize (iT (qm l 0 0)).take k++b++(iT (qm l 0 0)).drop (k+n)=t;refine aA ?_;refine ar (hc:=h76 t) ?_;refine aE ?_;refine fB (Rec.D _) ?_;refine aB ?_;refine aR (Rec.D (ea t).1) (he:=aZ) ?_;refine aT ?_;refine ar (hc:=h77 t) ?_;refine aE ?_;refine fB (Rec.D _) ?_;refine aB ?_;refine aR (Rec.D (ea t).1) (he:=aZ) ?_;refine aG ?_;refine ar (hc:=h69) ?_;refine aE ?_;refine c8 (d:=Rec.D (ea t).1) ?_;refine c8 (d:=Rec.D (ea t).1) ?_;refine fT (hc:=fun hf=>h78 (ea t).1 (ea t).1) ?_;refine sI ?_;refine b7 ?_;simp
section
def P9:List D->Nat
 |_::.int _ (.ofNat 4)::_=>3
 |_=>1
def A69 (T:RT):Prop:=T [] (.bool true)
def A70 (T:RT):Prop:=∀(r:Rec),(gV r)->T [Rec.D r] (.tup [.int .i64 (cH r).1,.int .i64 (cH r).2])
def A71 (T:RT):Prop:=∀(r:Rec),(gV r)->T [Rec.D r] (.tup [.int .i64 (cH r).1,.int .i64 (cH r).2])
def A72 (T:RT):Prop:=∀(r:Rec),(gV r)->T [Rec.D r] (.tup [.str (iq r).1,.int .i64 (iq r).2])
def A73 (T:RT):Prop:=∀(r:Rec),(gV r)->T [Rec.D r] (.tup [.str (iq r).1,.int .i64 (iq r).2])
def A76 (T:RT):Prop:=∀(s:aq),T [.str s] (.tup [Rec.D (ea s).1,.int .i64 (ea s).2.1,.int .i64 (ea s).2.2])
def A77 (T:RT):Prop:=∀(s:aq),T [.str s] (.tup [Rec.D (ea s).1,.int .i64 (ea s).2.1,.int .i64 (ea s).2.2])
def A78 (T:RT):Prop:=∀(a:Rec)(b:Rec),T [Rec.D a,Rec.D b] (.bool (decide (a=b)))
def A79 (T:RT):Prop:=∀(l:List Int)(i:Int)(own:Int),(0<=i/\i<=1000000)->(0<=own/\own<=100000)->T [.sl 1 (l.map (D.int .i64)),.int .i64 i,.int .i64 own] (Rec.D (qm l i own))
def Rw (T:RT):Prop:=∀(s:aq)(b:UInt8),(s.length<=1048576)->T [.str s,.str [b]] (.sl 1 ((ai s b.toNat).map D.str))
def Rx (T:RT):Prop:=∀(s:aq),(s.length<=1048576)->T [.str s,.str [124,124]] (.sl 1 ((aL s []).map D.str))
def A124 (T:RT):Prop:=Rw T/\Rx T
def A208 (T:RT):Prop:=∀(s:aq),T [.str s] (.bool (fZ s))
def A209 (T:RT):Prop:=∀(v:cM),(v.sm)->T [cM.D v] (.bool (iW v))
def A210 (T:RT):Prop:=∀(r:Rec)(n:ba),(n.sm)->T [Rec.D r,ba.D n] (.int .i64 (gU r n))
def A211 (T:RT):Prop:=∀(r:Rec)(name:aq)(rng:aq),(rng.length<=1048576)->T [Rec.D r,.str name,.str rng] (.int .i64 (fD r name rng))
def A212 (T:RT):Prop:=∀(s:aq),T [.str s] (.bool (ml s))
def A213 (T:RT):Prop:=∀(l:List bF),(pP l)->T [.sl 2 (l.map bF.D)] (.bool (gp l))
def A214 (T:RT):Prop:=∀(r:Rec)(s:aq),(s.length<=1048576)->T [Rec.D r,.str s] (.int .i64 (jF r s))
def A215 (T:RT):Prop:=∀(r:Rec),(qP r/\gV r)->T [Rec.D r] (.str (iT r))
def A216 (T:RT):Prop:=∀(s:aq),T [.str s] (.bool (fZ s))
def A217 (T:RT):Prop:=∀(v:cM),(v.sm)->T [cM.D v] (.bool (iW v))
def A218 (T:RT):Prop:=∀(r:Rec),(gV r)->T [Rec.D r] (.tup [.int .i64 (ei r).1,.int .i64 (ei r).2])
def A219 (T:RT):Prop:=∀(r:Rec),(qP r/\gV r)->T [Rec.D r] (.str (iT r))
def Ry (T:FT):Prop:=∀(r:Ld),(r.sm)->T (Ld.D r) [] (.tup [Rec.D (fG r.rest).1,.bool (pz r.rest).isSome]) (Ld.D (r.to (fG r.rest).2))
def SV:xf (oL Ry):=MO
def A223 (T:RT):Prop:=∀(s:aq),(s.length<=1048576)->T [.str s] (.tup [.sl 1 ((im s).1.map D.str),.bool (im s).2])
def A225 (T:RT):Prop:=∀(a:ba)(b:ba),T [ba.D a,ba.D b] (.bool (decide (a=b)))
def A226 (T:RT):Prop:=∀(a:List aq)(b:List aq),T [.sl 1 (a.map D.str),.sl 1 (b.map D.str)] (.bool (decide (a=b)))
def A227 (T:RT):Prop:=∀(n:Int),T [.int .i64 n] (.str (eO n))
def A228 (T:RT):Prop:=∀(l:List Int)(i:Int)(n:Int),(0<n/\n<=9223372036854775807)->T [.sl 1 (l.map (D.int .i64)),.int .i64 i,.int .i64 n] (.int .i64 (fJ l i n))
def A229 (T:RT):Prop:=∀(l:List Int)(i:Int)(own:Int),(0<=i/\i<=2000000)->(0<=own/\own<=1000000)->T [.sl 1 (l.map (D.int .i64)),.int .i64 i,.int .i64 own] (ba.D (ie l i own))
def A230 (T:RT):Prop:=∀(l:List Int)(i:Int),(0<=i/\i<=4000000)->T [.sl 1 (l.map (D.int .i64)),.int .i64 i] (.str (qL l i))
def A231 (T:RT):Prop:=∀(l:List Int)(i:Int),(0<=i/\i<=4000000)->T [.sl 1 (l.map (D.int .i64)),.int .i64 i] (.str (lB l i))
def A232 (T:RT):Prop:=∀(l:List Int)(i:Int)(r:Rec),(0<=i/\i<=2000000)->(∀j:Nat,j<r.needs.length->r.needs[j]!.option.length<=100/\(r.needs[j]!.any.length=1->r.needs[j]!.any[0]!.name.length<=100))->T [.sl 1 (l.map (D.int .i64)),.int .i64 i,Rec.D r] (.sl 2 ((j9 l i r).map bF.D))
def A242 (T:RT):Prop:=∀(l:List aq)(sep:aq),(l.length<=1048600)->(sep.length<=4)->(∀t∈l,t.length<=2097200)->T [.sl 1 (l.map D.str),.str sep] (.str (bc sep l))
def A245 (T:RT):Prop:=∀(s:aq)(n:Int),(s.length<=1048576)->(n=-1\/(1<=n/\n<=1000))->T [.str s,.str [32],.int .i64 n] (.sl 1 ((lg n s).map D.str))
def A246 (T:RT):Prop:=∀(l:List aq)(x:aq),T [.sl 1 (l.map D.str),.str x] (.bool (decide (x∈l)))
def A249 (T:RT):Prop:=∀(l:List aq)(x:UInt8),((bc [x] l).length<=1099511627776)->T [.sl 1 (l.map D.str),.int .u8 (x.toNat:Nat)] (.str (bc [x] l))
def A254 (T:RT):Prop:=∀(s:aq)(p:aq),(s.length<=1048576)->(p.length<=1048576)->T [.str s,.str p] (.tup [.str (fm s p).1,.bool (fm s p).2])
def A316 (T:RT):Prop:=∀(v:cM),(v.sm)->T [cM.D v] (.str (mL v))
def A336 (T:RT):Prop:=∀(n:Int),(0<=n/\n<=9999)->T [.int .i64 n] (.str (dQ n.toNat))
def A349 (T:RT):Prop:=∀(s:aq),T [.str s] (.bool (cC s))
def A357 (T:RT):Prop:=∀(s:aq),T [.str s] (.bool (cC s))
def A440 (T:RT):Prop:=∀(n:Int),T [.int .i64 n] (.bool (nw n))
def A441 (T:RT):Prop:=∀(s:aq),(s.length<=1048576)->T [.str s] (.bool (nq s true))
def A442 (T:RT):Prop:=∀(s:aq),(s.length<=1048576)->T [.str s] (.bool (nq s false))
def A443 (T:RT):Prop:=∀(r:Rec)(w:bD)(al:Bool),(w.sm)->T [Rec.D r,bD.D w,.bool al] (.int .i64 (iF r w al))
def A444 (T:RT):Prop:=∀(s:aq),(s.length<=1048576)->T [.str s] (.bool (nF s))
def A445 (T:RT):Prop:=∀(s:aq),T [.str s] (.tup [gT (jW s).1,.int .i64 (jW s).2])
def A446 (T:RT):Prop:=∀(m:F1),T [gT m] (.str (K1 m))
def A447 (T:RT):Prop:=∀(l:List aq),T [.sl 1 (l.map D.str)] (.bool (rising l))
def A448 (T:RT):Prop:=∀(s:aq),(s.length<=1048576)->T [.str s] (.tup [.int .i64 (cU s).1,.str (cU s).2.1,.str (cU s).2.2])
def A449 (T:RT):Prop:=∀(l:List bF)(nm:aq),T [.sl 2 (l.map bF.D),.str nm] (.bool (Nf l nm))
def A451 (T:RT):Prop:=∀(v:cM),(v.sm)->T [cM.D v] (.str (mL v))
def A453 (T:RT):Prop:=∀(c:Int),T [.int .u8 c] (.bool (jc c))
def A454 (T:RT):Prop:=∀(c:Int),T [.int .u8 c] (.bool (bB c))
def A455 (T:RT):Prop:=∀(n:Int),T [.int .i64 n] (.bool (nw n))
def A456 (T:RT):Prop:=∀(s:aq)(p:Bool),(s.length<=1048576)->T [.str s,.bool p] (.bool (rC s p))
def A457 (T:RT):Prop:=∀(r:Rec)(n:ba),(n.sm)->T [Rec.D r,ba.D n] (.int .i64 (gU r n))
def A458 (T:RT):Prop:=∀(r:Rec)(b:fh),(b.sm)->T [Rec.D r,fh.D b] (.int .i64 (oH r b))
def A459 (T:RT):Prop:=∀(l:List bF),(pP l)->T [.sl 2 (l.map bF.D)] (.bool (gp l))
def A460 (T:RT):Prop:=∀(r:Rec)(of:List aq),(∀t∈of,t.length<=1048576)->T [Rec.D r,.sl 1 (of.map D.str)] (.int .i64 (kf r of))
def A461 (T:RT):Prop:=∀(w:bD),(w.fit)->T [bD.D w] (.str (jl w))
def A462 (T:RT):Prop:=∀(s:aq),(s.length<=1048576)->T [.str s] (.str (iE s))
def Rz (T:FT):Prop:=∀(r:Ld)(w:aq)(n:Nat)(op:Bool),(r.sm)->(n<=1000)->(op=true->1<=n)->T (Ld.D r) [.str w,.int .i64 (n:Nat),.bool op] (.tup [zC (cq w n op r.rest),.bool (cq w n op r.rest).isSome]) (Ld.D (r.after (cq w n op r.rest)))
def SW:xf (oL Rz):=MO
def A466 (T:RT):Prop:=∀(s:aq),(s.length<=1048576)->T [.str s] (.tup [cM.D ((fK s).getD fH),.int .i64 (m6 s)])
def RA (T:FT):Prop:=∀(r:Ld),(r.sm)->T (Ld.D r) [] (ba.D (eN r.rest).1) (Ld.D (r.to (eN r.rest).2))
def SX:xf (oL RA):=MO
def RB (T:FT):Prop:=∀(r:Ld),(r.sm)->T (Ld.D r) [] (.str (cn r.rest).1) (Ld.D (r.to (cn r.rest).2))
def SY:xf (oL RB):=MO
def A469 (T:RT):Prop:=∀(l:List aq),(l.length<=1048600)->T [.sl 1 (l.map D.str)] (.sl 1 (l.map D.str))
def A470 (T:RT):Prop:=∀(s:aq)(b:Int),(s.length<=1048576)->T [.str s,.int .u8 b] (.sl 1 ((ai s b).map D.str))
def A474 (T:RT):Prop:=∀(l:List aq)(n:Nat),T [.sl 1 (l.map D.str),.int .i64 (n:Nat)] (.bool (uc l n))
def A475 (T:RT):Prop:=∀(s:aq)(n:Nat),(s.length<=1048576)->(n<=100)->T [.str s,.int .i64 (n:Nat)] (.tup [.sl 1 ((fO s n).1.map D.str),.str (fO s n).2.1,.bool (fO s n).2.2])
def A477 (T:RT):Prop:=∀(a:bD)(b:bD),T [bD.D a,bD.D b] (.bool (decide (a=b)))
def A478 (T:RT):Prop:=∀(v:Int)(n:Int),(0<n/\n<=9223372036854775807)->T [.int .i64 v,.int .i64 n] (.int .i64 (v%n))
def A479 (T:RT):Prop:=∀(l:List Int)(i:Int),T [.sl 1 (l.map (D.int .i64)),.int .i64 i] (.int .i64 (kF l i))
def A480 (T:RT):Prop:=∀(l:List Int)(i:Int)(own:Int)(alone:Bool),(0<=i/\i<=3000000)->(0<=own/\own<=1000000)->T [.sl 1 (l.map (D.int .i64)),.int .i64 i,.int .i64 own,.bool alone] (bD.D (mB l i own alone))
def A481 (T:RT):Prop:=∀(n:Int),T [.int .i64 n] (.str (mC n))
def A482 (T:RT):Prop:=∀(c:cZ),(c.v.sm)->T [cZ.D c] (.str (dN c))
def A483 (T:RT):Prop:=∀(l:List aq)(s:aq),(l.length<=1000)->T [.sl 1 (l.map D.str),.str s] (.sl 1 ((gP l s).map D.str))
def A487 (T:RT):Prop:=∀(s:aq)(b:UInt8),(s.length<=1048576)->T [.str s,.str [b]] (.tup [.str (hX s b).1,.str (hX s b).2.1,.bool (hX s b).2.2])
def A494 (T:RT):Prop:=∀(l:List aq)(x:aq),T [.sl 1 (l.map D.str),.str x] (.int .i64 (tT l x 0))
def A495 (T:RT):Prop:=∀(s:aq),(s.length<=1048576)->T [.str s] (.tup [eL (gF s).1,.int .i64 (gF s).2])
def A496 (T:RT):Prop:=∀(r:sy),(iS r)->T [eL r] (.str (ru r))
def A533 (T:RT):Prop:=∀(s:aq)(b:Int),(s.length<=1048576)->T [.str s,.int .u8 b] (.sl 1 ((ai s b).map D.str))
def A554 (T:RT):Prop:=∀(v:cM),(nw v.major=true/\nw v.minor=true/\nw v.patch=true)->T [cM.D v] (.str (dQ v.major.toNat++[46]++dQ v.minor.toNat++[46]++dQ v.patch.toNat))
def A568 (T:RT):Prop:=∀(s:aq),(s.length<=1048576)->T [.str s] (.tup [cM.D ((fK s).getD fH),.int .i64 (m6 s)])
def A572 (T:RT):Prop:=∀(s:aq),(s.length<=1048576)->T [.str s] (.bool (nF s))
def A658 (T:RT):Prop:=∀(s:aq),T [.str s] (.tup [.int .i64 (dU s),.bool (fo s)])
def A659 (T:RT):Prop:=∀(t:aq),T [.str t] (.bool (fN t))
def A661 (T:RT):Prop:=∀(m:F1),T [gT m] (.bool (tc m))
def A662 (T:RT):Prop:=∀(l:List Nd),(gr l/\l.length<=15)->T [.sl 5 (l.map Nd.D)] (.str (m7 l))
def A663 (T:RT):Prop:=∀(l:List bF)(nm:aq),T [.sl 2 (l.map bF.D),.str nm] (.int .i64 (findF l nm 0))
def A665 (T:RT):Prop:=∀(n:Int),(0<=n/\n<=9999)->T [.int .i64 n] (.str (dQ n.toNat))
def A666 (T:RT):Prop:=∀(t:aq),T [.str t] (.bool (qq t))
def A667 (T:RT):Prop:=∀(s:aq),T [.str s] (.tup [.int .i64 (dU s),.bool (fo s)])
def A668 (T:RT):Prop:=∀(t:aq),T [.str t] (.bool (fN t))
def A669 (T:RT):Prop:=∀(r:Rec)(w:bD)(al:Bool),(w.sm)->T [Rec.D r,bD.D w,.bool al] (.int .i64 (iF r w al))
def A670 (T:RT):Prop:=∀(s:aq),T [.str s] (.bool (ml s))
def A671 (T:RT):Prop:=∀(l:List bF)(of:List aq),(∀t∈of,t.length<=1048576)->T [.sl 2 (l.map bF.D),.sl 1 (of.map D.str)] (.bool (kO l of))
def A672 (T:RT):Prop:=∀(s:aq),(s.length<=1048576)->T [.str s] (.tup [.int .i64 (cU s).1,.str (cU s).2.1,.str (cU s).2.2])
def A673 (T:RT):Prop:=∀(r:Rec)(x:aq),T [Rec.D r,.str x] (.bool (BC r.needs x))
def A674 (T:RT):Prop:=∀(r:Rec)(x:aq),T [Rec.D r,.str x] (.bool (ud r.needs x))
def A675 (T:RT):Prop:=∀(s:aq)(b:Int),T [.str s,.int .u8 b] (.tup [.str (aD s b).1,.str (aD s b).2])
def A676 (T:RT):Prop:=∀(c:cZ),(c.v.sm)->T [cZ.D c] (.bool (lJ c))
def A678 (T:RT):Prop:=∀(op:Int),T [.int .i64 op] (.str (dm op))
def A682 (T:RT):Prop:=∀(s:aq),(s.length<=1048575)->T [.str s] (.tup [cZ.D ((lA s).getD dZ),.int .i64 (if(lA s).isSome=true then 0 else 6)])
def A683 (T:RT):Prop:=∀(s:aq)(b:UInt8),(b=32)->(s.length<=1048576)->T [.str s,.str [b]] (.str (ee s))
def A684 (T:RT):Prop:=∀(r:sy),(iS r)->T [eL r] (.tup [.str (if jy r=true then yI r else []),.bool (jy r)])
def A685 (T:RT):Prop:=∀(r:sy),(iS r)->T [eL r] (.bool (qn r))
def A734 (T:RT):Prop:=∀(n:Int),(0<=n/\n<=9999)->T [.int .i64 n] (.str (dQ n.toNat))
def A741 (T:RT):Prop:=∀(s:aq)(b:Int),T [.str s,.int .u8 b] (.int .i64 ((aD s b).2.length:Nat))
def A742 (T:RT):Prop:=∀(l:List aq),T [.sl 1 (l.map D.str)] (.tup [cM.D (dF l).1,.bool (dF l).2])
def A744 (T:RT):Prop:=∀(s:aq),(s.length<=1048576)->T [.str s] (.tup [eL (gF s).1,.int .i64 (gF s).2])
def A745 (T:RT):Prop:=∀(r:sy),(iS r)->T [eL r] (.str (ru r))
def A810 (T:RT):Prop:=∀(l:List Nd),T [.sl 5 (l.map Nd.D)] (.bool (decide (l.length<=15)&&nr l))
def A811 (T:RT):Prop:=∀(l:List Nd)(i:Int),(gr l/\l.length<=15/\0<=i/\i<l.length)->T [.sl 5 (l.map Nd.D),.int .i64 i] (.str (kp l i))
def u811:List D->Nat:=fun ds=>2*(match ds.getD 1 .any with| .int _ i=>i.toNat|_=>0)
def A812 (T:RT):Prop:=∀(l:List aq)(al:Bool),T [.sl 1 (l.map D.str),.bool al] (.bool (iU l al))
def A813 (T:RT):Prop:=∀(s:aq),T [.str s] (.tup [gT (jW s).1,.int .i64 (jW s).2])
def A814 (T:RT):Prop:=∀(m:F1),T [gT m] (.str (K1 m))
def A815 (T:RT):Prop:=∀(l:List aq),T [.sl 1 (l.map D.str)] (.bool (rising l))
def A816 (T:RT):Prop:=∀(l:List bF)(nm:aq),T [.sl 2 (l.map bF.D),.str nm] (.bool (Nf l nm))
def A819 (T:RT):Prop:=∀(s:aq),(s.length<=1048576)->T [.str s] (.tup [cZ.D ((gM s).getD dZ),.bool (gM s).isSome])
def A827 (T:RT):Prop:=∀(c:cZ),(c.v.sm)->T [cZ.D c] (.bool (lJ c))
def A828 (T:RT):Prop:=∀(c:cZ),(c.v.sm)->T [cZ.D c] (.str (dN c))
def A882 (T:RT):Prop:=∀(n:Nat),(n<=9999)->T [.int .u64 (n:Nat)] (.str (dQ n))
def A896 (T:RT):Prop:=∀(s:aq),(s.length<=1048576)->T [.str s] (.sl 1 ((aL s []).map D.str))
def A897 (T:RT):Prop:=∀(s:aq),(s.length<=1048576)->T [.str s] (.tup [cZ.D ((ef s).getD dZ),.int .i64 (if(ef s).isSome=true then 0 else 6)])
def A898 (T:RT):Prop:=∀(s:aq),T [.str s] (.str (ee s))
def A899 (T:RT):Prop:=∀(r:sy),(iS r)->T [eL r] (.bool (jy r))
def A900 (T:RT):Prop:=∀(r:sy),(jy r=true/\iS r)->T [eL r] (.str (yI r))
def A901 (T:RT):Prop:=∀(r:sy),(iS r)->T [eL r] (.bool (qn r))
def A946 (T:RT):Prop:=∀(w:List aq)(es:List D)(b:Bool),T [.ref 3 [ix w (.sl 5 es) b] 0 0] (.str (bm w))
def A950 (T:RT):Prop:=T [] (.sl 1 (qf.map D.str))
def A951 (T:RT):Prop:=∀(l:List Nd)(i:Int)(b:Bool),(gr l/\l.length<=15/\0<=i/\i<l.length)->T [.sl 5 (l.map Nd.D),.int .i64 i,.bool b] (.str (kE (kp l i) b))
def u951:List D->Nat:=fun ds=>2*(match ds.getD 1 .any with| .int _ i=>i.toNat|_=>0)+1
def A953 (T:RT):Prop:=∀(m:F1),T [gT m] (.bool (tc m))
def A954 (T:RT):Prop:=∀(l:List Nd),(gr l/\l.length<=15)->T [.sl 5 (l.map Nd.D)] (.str (m7 l))
def A955 (T:RT):Prop:=∀(l:List bF)(nm:aq),T [.sl 2 (l.map bF.D),.str nm] (.int .i64 (findF l nm 0))
def A956 (T:RT):Prop:=∀(s:aq)(w:aq),T [.str s,.str w] (.bool (qh s w))
def A957 (T:RT):Prop:=∀(op:Int),T [.int .i64 op] (.str (dm op))
def Rn (T:RT):Prop:=∀(s:aq),T [.str s] (.tup [.int .i64 (gv s).1,.str (gv s).2])
def Ro (T:RT):Prop:=∀(s:aq),T [.str s] (.tup [.str (hZ s 0).1,.str (hZ s 0).2])
def Rp (T:RT):Prop:=∀(l:List aq),T [.sl 1 (l.map D.str)] (.tup [cM.D (wA l),.bool (e8 l)])
def Rq (T:RT):Prop:=∀(l:List Nd),(l.length<=15)->T [.sl 5 (l.map Nd.D)] (.bool (nr l))
def Rr (T:RT):Prop:=∀(l:List Nd)(i:Int),(gr l/\l.length<=15/\0<=i/\i<l.length)->T [.sl 5 (l.map Nd.D),.int .i64 i] (.str (kp l i))
def UL:List D->Nat:=fun ds=>2*(match ds.getD 1 .any with| .int _ i=>i.toNat|_=>0)
def Rs (T:RT):Prop:=∀(s:aq)(w:aq),T [.str s,.str w] (.bool (qh s w))
def Rt (T:RT):Prop:=∀(n:Nd),T [Nd.D n] (.bool (oa n))
def Ru (T:RT):Prop:=∀(k:Int),(0<=k/\k<3)->T [.int .i64 k] (.str (sk k))
def Rv (T:RT):Prop:=∀(s:aq)(b:Bool),(s.length<=1000000000)->T [.str s,.bool b] (.str (kE s b))
def N6 (T:RT):Prop:=∀(l:List Int)(a:Int)(c:Int)(b:aq),T [.sl 1 (l.map (D.int .i64)),.int .i64 a,.int .i64 c,.str b] (.bool true)
def SU:SZ (Bu N6):=bN
def bp:List (Nat×sf):=[(69,rP 16 A69),(70,rP 14 A70),(71,rP 14 A71),(72,rP 15 A72),(73,rP 15 A73),(76,rP 15 A76),(77,rP 15 A77),(78,rP 4 A78),(79,rP 10 A79),(124,rP 1 A124),(208,rP 1 A208),(209,rP 4 A209),(210,rP 13 A210),(211,rP 11 A211),(212,rP 6 A212),(213,rP 3 A213),(214,rP 3 A214),(215,rP 6 A215),(216,rP 2 A216),(217,rP 4 A217),(218,rP 13 A218),(219,rP 6 A219),(222,rF 7 Ry),(223,rP 2 A223),(224,rG 7 OZ),(225,rP 3 A225),(226,rP 1 A226),(227,rP 2 A227),(228,rP 2 A228),(229,rP 9 A229),(230,rP 7 A230),(231,rP 3 A231),(232,rP 2 A232),(242,rP 1 A242),(245,rP 1 A245),(246,rP 2 A246),(249,rP 1 A249),(254,rP 1 A254),(316,rP 5 A316),(336,rP 1 A336),(349,rP 1 A349),(357,rP 2 A357),(440,rP 1 A440),(441,rP 3 A441),(442,rP 2 A442),(443,rP 12 A443),(444,rP 10 A444),(445,rP 5 A445),(446,rP 5 A446),(447,rP 1 A447),(448,rP 2 A448),(449,rP 2 A449),(450,rG 2 O6),(451,rP 5 A451),(452,rG 1 O8),(453,rP 1 A453),(454,rP 1 A454),(455,rP 1 A455),(456,rP 3 A456),(457,rP 12 A457),(458,rP 11 A458),(459,rP 5 A459),(460,rP 4 A460),(461,rP 2 A461),(462,rP 1 A462),(465,rFG 3 Rz FY),(466,rP 6 A466),(467,rF 5 RA),(468,rF 4 RB),(469,rP 1 A469),(470,rP 1 A470),(471,rG 6 Pb),(472,rG 3 Pc),(473,rG 3 Pd),(474,rP 1 A474),(475,rP 2 A475),(476,rG 2 Pf),(477,rP 2 A477),(478,rP 1 A478),(479,rP 1 A479),(480,rP 8 A480),(481,rP 2 A481),(482,rP 6 A482),(483,rP 1 A483),(487,rP 1 A487),(489,rG 1 Ph),(494,rP 1 A494),(495,rP 9 A495),(496,rP 8 A496),(533,rP 1 A533),(554,rP 3 A554),(568,rP 5 A568),(572,rP 10 A572),(658,rP 1 A658),(659,rP 1 A659),(660,rG 4 Pk (Bw fun _=>4)),(661,rP 4 A661),(662,rP 3 A662),(663,rP 1 A663),(664,rG 1 Pn),(665,rP 2 A665),(666,rP 1 A666),(667,rP 2 A667),(668,rP 1 A668),(669,rP 11 A669),(670,rP 7 A670),(671,rP 4 A671),(672,rP 3 A672),(673,rP 1 A673),(674,rP 1 A674),(675,rP 1 A675),(676,rP 5 A676),(677,rG 3 Pt),(678,rP 1 A678),(682,rP 8 A682),(683,rP 1 A683),(684,rP 7 A684),(685,rP 8 A685),(734,rP 2 A734),(741,rP 1 A741),(742,rP 3 A742),(744,rP 8 A744),(745,rP 9 A745),(808,rG 4 C808 (Bw P9)),(809,rG 4 C809 (Bw fun _=>2)),(810,rP 2 A810),(811,rP 2 A811 u811),(812,rP 3 A812),(813,rP 6 A813),(814,rP 6 A814),(815,rP 1 A815),(816,rP 2 A816),(819,rP 7 A819),(827,rP 5 A827),(828,rP 6 A828),(882,rP 1 A882),(896,rP 1 A896),(897,rP 7 A897),(898,rP 1 A898),(899,rP 6 A899),(900,rP 7 A900),(901,rP 8 A901),(946,rP 1 A946),(947,rG 2 Hg),(948,rG 1 Jt),(949,rG 4 C949 (Bw fun _=>0)),(950,rP 1 A950),(951,rP 2 A951 u951),(952,rG 4 PC (Bw fun _=>2)),(953,rP 5 A953),(954,rP 3 A954),(955,rP 1 A955),(956,rP 1 A956),(957,rP 1 A957),(1006,rP 2 Rn),(1007,rP 1 Ro),(1008,rP 3 Rp),(1031,rG 3 Jf),(1032,rG 4 RC (Bw fun _=>1)),(1033,rG 1 Cf),(1034,rG 1 zK),(1035,rP 4 Rq),(1036,rP 2 Rr UL),(1079,rP 1 Rs),(1097,rG 4 RE (Bw fun _=>0)),(1098,rP 3 Rt),(1099,rP 1 Ru),(1100,rP 1 Rv),(1126,rG 3 Jj),(1141,rG 1 Jk),(1190,rP 17 N6)]
variable {k u v:Nat}
def G69 (hk:16<k:=by decide):C69 (under bp k u):=dH bN (.inl hk) fun T hT=>hT
def G70 (hk:14<k:=by decide):C70 (under bp k u):=fun r hp0=>dH bN (.inl hk) fun T hT=>hT r hp0
def G71 (hk:14<k:=by decide):C71 (under bp k u):=fun r hp0=>dH bN (.inl hk) fun T hT=>hT r hp0
def G72 (hk:15<k:=by decide):C72 (under bp k u):=fun r hp0=>dH bN (.inl hk) fun T hT=>hT r hp0
def G73 (hk:15<k:=by decide):C73 (under bp k u):=fun r hp0=>dH bN (.inl hk) fun T hT=>hT r hp0
def G76 (hk:15<k:=by decide):C76 (under bp k u):=fun s=>dH bN (.inl hk) fun T hT=>hT s
def G77 (hk:15<k:=by decide):C77 (under bp k u):=fun s=>dH bN (.inl hk) fun T hT=>hT s
def G78 (hk:4<k:=by decide):C78 (under bp k u):=fun a b=>dH bN (.inl hk) fun T hT=>hT a b
def G79 (hk:10<k:=by decide):C79 (under bp k u):=fun l i own hp0 hp1=>dH bN (.inl hk) fun T hT=>hT l i own hp0 hp1
def Mv (hk:1<k:=by decide):Jl (under bp k u):=fun s b hp=>dH bN (.inl hk) fun T h=>h.1 s b hp
def TH (hk:1<k:=by decide):Og (under bp k u):=fun s hp=>dH bN (.inl hk) fun T h=>h.2 s hp
def PI (hk:1<k:=by decide):Mi (under bp k u):=fun s=>dH bN (.inl hk) fun T hT=>hT s
def Mw (hk:4<k:=by decide):Jm (under bp k u):=fun v hp0=>dH bN (.inl hk) fun T hT=>hT v hp0
def G210 (hk:13<k:=by decide):RF (under bp k u):=fun r n hp0=>dH bN (.inl hk) fun T hT=>hT r n hp0
def Tb (hk:11<k:=by decide):OV (under bp k u):=fun r name rng hp0=>dH bN (.inl hk) fun T hT=>hT r name rng hp0
def Tc (hk:6<k:=by decide):OW (under bp k u):=fun s=>dH bN (.inl hk) fun T hT=>hT s
def G213 (hk:3<k:=by decide):RG (under bp k u):=fun l hp0=>dH bN (.inl hk) fun T hT=>hT l hp0
def G214 (hk:3<k:=by decide):RH (under bp k u):=fun r s hp0=>dH bN (.inl hk) fun T hT=>hT r s hp0
def Td (hk:6<k:=by decide):OX (under bp k u):=fun r hp0=>dH bN (.inl hk) fun T hT=>hT r hp0
def Mx (hk:2<k:=by decide):Jn (under bp k u):=fun s=>dH bN (.inl hk) fun T hT=>hT s
def My (hk:4<k:=by decide):Jo (under bp k u):=fun v hp0=>dH bN (.inl hk) fun T hT=>hT v hp0
def G218 (hk:13<k:=by decide):RI (under bp k u):=fun r hp0=>dH bN (.inl hk) fun T hT=>hT r hp0
def Te (hk:6<k:=by decide):OY (under bp k u):=fun r hp0=>dH bN (.inl hk) fun T hT=>hT r hp0
def G222 (hk:7<k:=by decide):RJ (under bp k u):=fun r hp0=>okf SV hk fun T h=>h r hp0
def G223 (hk:2<k:=by decide):RL (under bp k u):=fun s hp0=>dH bN (.inl hk) fun T hT=>hT s hp0
def G224 (hk:7<k:=by decide):OZ (under bp k u):=fun x t hp0 hp1 hp2 nx j0 j1 j2 j3 j4 m K h1 h2 h3 hK=>uw (.inl hk) fun T _ h=>h x t hp0 hp1 hp2 nx j0 j1 j2 j3 j4 m K h1 h2 h3 hK
def G225 (hk:3<k:=by decide):RM (under bp k u):=fun a b=>dH bN (.inl hk) fun T hT=>hT a b
def Tf (hk:1<k:=by decide):O0 (under bp k u):=fun a b=>dH bN (.inl hk) fun T hT=>hT a b
def Tg (hk:2<k:=by decide):O1 (under bp k u):=fun n=>dH bN (.inl hk) fun T hT=>hT n
def Jw (hk:2<k:=by decide):He (under bp k u):=fun l i n hp0=>dH bN (.inl hk) fun T hT=>hT l i n hp0
def G229 (hk:9<k:=by decide):RN (under bp k u):=fun l i own hp0 hp1=>dH bN (.inl hk) fun T hT=>hT l i own hp0 hp1
def Th (hk:7<k:=by decide):O2 (under bp k u):=fun l i hp0=>dH bN (.inl hk) fun T hT=>hT l i hp0
def Ti (hk:3<k:=by decide):O3 (under bp k u):=fun l i hp0=>dH bN (.inl hk) fun T hT=>hT l i hp0
def G232 (hk:2<k:=by decide):RO (under bp k u):=fun l i r hp0 hp1=>dH bN (.inl hk) fun T hT=>hT l i r hp0 hp1
def PJ (hk:1<k:=by decide):Mj (under bp k u):=fun l sep hp0 hp1 hp2=>dH bN (.inl hk) fun T hT=>hT l sep hp0 hp1 hp2
def Tj (hk:1<k:=by decide):RP (under bp k u):=fun s n hp0 hp1=>dH bN (.inl hk) fun T hT=>hT s n hp0 hp1
def Tk (hk:2<k:=by decide):RQ (under bp k u):=fun l x=>dH bN (.inl hk) fun T hT=>hT l x
def Mz (hk:1<k:=by decide):Jp (under bp k u):=fun l x hp0=>dH bN (.inl hk) fun T hT=>hT l x hp0
def G254 (hk:1<k:=by decide):RR (under bp k u):=fun s p hp0 hp1=>dH bN (.inl hk) fun T hT=>hT s p hp0 hp1
def G316 (hk:5<k:=by decide):RS (under bp k u):=fun v hp0=>dH bN (.inl hk) fun T hT=>hT v hp0
def G336 (hk:1<k:=by decide):RU (under bp k u):=fun n hp0=>dH bN (.inl hk) fun T hT=>hT n hp0
def Hi (hk:1<k:=by decide):Ej (under bp k u):=fun s=>dH bN (.inl hk) fun T hT=>hT s
def Hj (hk:2<k:=by decide):Ek (under bp k u):=fun s=>dH bN (.inl hk) fun T hT=>hT s
def G440 (hk:1<k:=by decide):RV (under bp k u):=fun n=>dH bN (.inl hk) fun T hT=>hT n
def G441 (hk:3<k:=by decide):RW (under bp k u):=fun s hp0=>dH bN (.inl hk) fun T hT=>hT s hp0
def Tl (hk:2<k:=by decide):O4 (under bp k u):=fun s hp0=>dH bN (.inl hk) fun T hT=>hT s hp0
def G443 (hk:12<k:=by decide):RX (under bp k u):=fun r w al hp0=>dH bN (.inl hk) fun T hT=>hT r w al hp0
def G444 (hk:10<k:=by decide):RY (under bp k u):=fun s hp0=>dH bN (.inl hk) fun T hT=>hT s hp0
def G445 (hk:5<k:=by decide):RZ (under bp k u):=fun s=>dH bN (.inl hk) fun T hT=>hT s
def G446 (hk:5<k:=by decide):R0 (under bp k u):=fun m=>dH bN (.inl hk) fun T hT=>hT m
def G447 (hk:1<k:=by decide):R1 (under bp k u):=fun l=>dH bN (.inl hk) fun T hT=>hT l
def Tm (hk:2<k:=by decide):O5 (under bp k u):=fun s hp0=>dH bN (.inl hk) fun T hT=>hT s hp0
def G449 (hk:2<k:=by decide):R2 (under bp k u):=fun l nm=>dH bN (.inl hk) fun T hT=>hT l nm
def G450 (hk:2<k:=by decide):O6 (under bp k u):=fun ws t l lw nx m K h1 h2 h3 h4 h5 hK=>uw (.inl hk) fun T _ h=>h ws t l lw nx m K h1 h2 h3 h4 h5 hK
def Tn (hk:5<k:=by decide):O7 (under bp k u):=fun v hp0=>dH bN (.inl hk) fun T hT=>hT v hp0
def G452 (hk:1<k:=by decide):O8 (under bp k u):=fun ds st K h1=>uw (.inl hk) fun T _ h=>h ds st K h1
def To (hk:1<k:=by decide):O9 (under bp k u):=fun c=>dH bN (.inl hk) fun T hT=>hT c
def PK (hk:1<k:=by decide):Mk (under bp k u):=fun c=>dH bN (.inl hk) fun T hT=>hT c
def G455 (hk:1<k:=by decide):R3 (under bp k u):=fun n=>dH bN (.inl hk) fun T hT=>hT n
def G456 (hk:3<k:=by decide):R4 (under bp k u):=fun s p hp0=>dH bN (.inl hk) fun T hT=>hT s p hp0
def G457 (hk:12<k:=by decide):R5 (under bp k u):=fun r n hp0=>dH bN (.inl hk) fun T hT=>hT r n hp0
def G458 (hk:11<k:=by decide):R6 (under bp k u):=fun r b hp0=>dH bN (.inl hk) fun T hT=>hT r b hp0
def G459 (hk:5<k:=by decide):R7 (under bp k u):=fun l hp0=>dH bN (.inl hk) fun T hT=>hT l hp0
def G460 (hk:4<k:=by decide):R8 (under bp k u):=fun r of hp0=>dH bN (.inl hk) fun T hT=>hT r of hp0
def G461 (hk:2<k:=by decide):R9 (under bp k u):=fun w hp0=>dH bN (.inl hk) fun T hT=>hT w hp0
def G462 (hk:1<k:=by decide):Sa (under bp k u):=fun s hp0=>dH bN (.inl hk) fun T hT=>hT s hp0
def Tp (hk:3<k:=by decide):Ml (under bp k u):=fun r w n op hp0 hp1 hp2=>okf SW hk fun T h=>h r w n op hp0 hp1 hp2
def TI (hk:3<k:=by decide):FY (under bp k u):=fun r w n op l nx m K h1 h2 h3 h4 hK=>uw (.inl hk) fun T _ h=>h r w n op l nx m K h1 h2 h3 h4 hK
def G466 (hk:6<k:=by decide):Sb (under bp k u):=fun s hp0=>dH bN (.inl hk) fun T hT=>hT s hp0
def G467 (hk:5<k:=by decide):Pa (under bp k u):=fun r hp0=>okf SX hk fun T h=>h r hp0
def Tq (hk:4<k:=by decide):Mm (under bp k u):=fun r hp0=>okf SY hk fun T h=>h r hp0
def G469 (hk:1<k:=by decide):Sc (under bp k u):=fun l hp0=>dH bN (.inl hk) fun T hT=>hT l hp0
def zi (hk:1<k:=by decide):xe (under bp k u):=fun s b hp0=>dH bN (.inl hk) fun T hT=>hT s b hp0
def G471 (hk:6<k:=by decide):Pb (under bp k u):=fun x l hp0 nx j0 j1 j2 j3 j4 m K h1 h2 h3 hK=>uw (.inl hk) fun T _ h=>h x l hp0 nx j0 j1 j2 j3 j4 m K h1 h2 h3 hK
def G472 (hk:3<k:=by decide):Pc (under bp k u):=fun x t hp0 hp1 hp2 hp3 nx j0 j1 j2 j3 j4 m K h1 h2 h3 hK=>uw (.inl hk) fun T _ h=>h x t hp0 hp1 hp2 hp3 nx j0 j1 j2 j3 j4 m K h1 h2 h3 hK
def G473 (hk:3<k:=by decide):Pd (under bp k u):=fun x t hp0 hp1 hp2 hp3 hp4 nx j0 j1 j2 j3 j4 m K h1 h2 h3 hK=>uw (.inl hk) fun T _ h=>h x t hp0 hp1 hp2 hp3 hp4 nx j0 j1 j2 j3 j4 m K h1 h2 h3 hK
def Tr (hk:1<k:=by decide):Pe (under bp k u):=fun l n=>dH bN (.inl hk) fun T hT=>hT l n
def PL (hk:2<k:=by decide):Mn (under bp k u):=fun s n hp0 hp1=>dH bN (.inl hk) fun T hT=>hT s n hp0 hp1
def G476 (hk:2<k:=by decide):Pf (under bp k u):=fun x l hp0 hp1 nx j0 j1 j2 j3 j4 m K h1 h2 h3 hK=>uw (.inl hk) fun T _ h=>h x l hp0 hp1 nx j0 j1 j2 j3 j4 m K h1 h2 h3 hK
def G477 (hk:2<k:=by decide):Sd (under bp k u):=fun a b=>dH bN (.inl hk) fun T hT=>hT a b
def Jx (hk:1<k:=by decide):Hf (under bp k u):=fun v n hp0=>dH bN (.inl hk) fun T hT=>hT v n hp0
def PM (hk:1<k:=by decide):Mo (under bp k u):=fun l i=>dH bN (.inl hk) fun T hT=>hT l i
def G480 (hk:8<k:=by decide):Se (under bp k u):=fun l i own alone hp0 hp1=>dH bN (.inl hk) fun T hT=>hT l i own alone hp0 hp1
def Ts (hk:2<k:=by decide):Pg (under bp k u):=fun n=>dH bN (.inl hk) fun T hT=>hT n
def PN (hk:6<k:=by decide):Mp (under bp k u):=fun c hp0=>dH bN (.inl hk) fun T hT=>hT c hp0
def G483 (hk:1<k:=by decide):Sf (under bp k u):=fun l s hp0=>dH bN (.inl hk) fun T hT=>hT l s hp0
def G487 (hk:1<k:=by decide):Sg (under bp k u):=fun s b hp0=>dH bN (.inl hk) fun T hT=>hT s b hp0
def G489 (hk:1<k:=by decide):Ph (under bp k u):=fun ds st K h1=>uw (.inl hk) fun T _ h=>h ds st K h1
def G494 (hk:1<k:=by decide):Si (under bp k u):=fun l x=>dH bN (.inl hk) fun T hT=>hT l x
def G495 (hk:9<k:=by decide):Sj (under bp k u):=fun s hp0=>dH bN (.inl hk) fun T hT=>hT s hp0
def G496 (hk:8<k:=by decide):Sk (under bp k u):=fun r hp0=>dH bN (.inl hk) fun T hT=>hT r hp0
def MA (hk:1<k:=by decide):Jq (under bp k u):=fun s b hp0=>dH bN (.inl hk) fun T hT=>hT s b hp0
def G554 (hk:3<k:=by decide):Sl (under bp k u):=fun v hp0=>dH bN (.inl hk) fun T hT=>hT v hp0
def G568 (hk:5<k:=by decide):Sm (under bp k u):=fun s hp0=>dH bN (.inl hk) fun T hT=>hT s hp0
def Tt (hk:10<k:=by decide):Pj (under bp k u):=fun s hp0=>dH bN (.inl hk) fun T hT=>hT s hp0
def PQ (hk:1<k:=by decide):Mq (under bp k u):=fun s=>dH bN (.inl hk) fun T hT=>hT s
def G659 (hk:1<k:=by decide):Sn (under bp k u):=fun t=>dH bN (.inl hk) fun T hT=>hT t
def G660 (hk:4<k:=by decide):Pk (under bp k u):=fun w nd hp0 nx lp ln m K h1 h2 h3 h4 hK=>uw (.inl hk) fun T _ h=>h w nd hp0 nx lp ln m K h1 h2 h3 h4 hK
def Tu (hv:v<=u):Of (under bp 4 u) v:=fun w nd hp0 hu nx lp ln m K h1 h2 h3 h4 hK=>uw (.inr ⟨rfl,by rw[show(lk bp 660 nj).muE=Bw fun _=>4 from rfl,oe h1];exact eX hu hv⟩) fun T _ h=>h w nd hp0 nx lp ln m K h1 h2 h3 h4 hK
def Tv (hk:4<k:=by decide):Pl (under bp k u):=fun m=>dH bN (.inl hk) fun T hT=>hT m
def Tw (hk:3<k:=by decide):Pm (under bp k u):=fun l hp0=>dH bN (.inl hk) fun T hT=>hT l hp0
def G663 (hk:1<k:=by decide):So (under bp k u):=fun l nm=>dH bN (.inl hk) fun T hT=>hT l nm
def G664 (hk:1<k:=by decide):Pn (under bp k u):=fun ds st K h1=>uw (.inl hk) fun T _ h=>h ds st K h1
def Tx (hk:2<k:=by decide):Po (under bp k u):=fun n hp0=>dH bN (.inl hk) fun T hT=>hT n hp0
def G666 (hk:1<k:=by decide):Sp (under bp k u):=fun t=>dH bN (.inl hk) fun T hT=>hT t
def PS (hk:2<k:=by decide):Mr (under bp k u):=fun s=>dH bN (.inl hk) fun T hT=>hT s
def G668 (hk:1<k:=by decide):Sq (under bp k u):=fun t=>dH bN (.inl hk) fun T hT=>hT t
def G669 (hk:11<k:=by decide):Sr (under bp k u):=fun r w al hp0=>dH bN (.inl hk) fun T hT=>hT r w al hp0
def Ty (hk:7<k:=by decide):Pq (under bp k u):=fun s=>dH bN (.inl hk) fun T hT=>hT s
def G671 (hk:4<k:=by decide):Ss (under bp k u):=fun l of hp0=>dH bN (.inl hk) fun T hT=>hT l of hp0
def Tz (hk:3<k:=by decide):Pr (under bp k u):=fun s hp0=>dH bN (.inl hk) fun T hT=>hT s hp0
def G673 (hk:1<k:=by decide):Su (under bp k u):=fun r x=>dH bN (.inl hk) fun T hT=>hT r x
def G674 (hk:1<k:=by decide):Sv (under bp k u):=fun r x=>dH bN (.inl hk) fun T hT=>hT r x
def G675 (hk:1<k:=by decide):Sw (under bp k u):=fun s b=>dH bN (.inl hk) fun T hT=>hT s b
def TA (hk:5<k:=by decide):Ps (under bp k u):=fun c hp0=>dH bN (.inl hk) fun T hT=>hT c hp0
def G677 (hk:3<k:=by decide):Pt (under bp k u):=fun c hp0 nx m K hK=>uw (.inl hk) fun T _ h=>h c hp0 nx m K hK
def TB (hk:1<k:=by decide):Pu (under bp k u):=fun op=>dH bN (.inl hk) fun T hT=>hT op
def G682 (hk:8<k:=by decide):Sx (under bp k u):=fun s hp0=>dH bN (.inl hk) fun T hT=>hT s hp0
def G683 (hk:1<k:=by decide):Sy (under bp k u):=fun s b hp0 hp1=>dH bN (.inl hk) fun T hT=>hT s b hp0 hp1
def PT (hk:7<k:=by decide):Ms (under bp k u):=fun r hp0=>dH bN (.inl hk) fun T hT=>hT r hp0
def G685 (hk:8<k:=by decide):Sz (under bp k u):=fun r hp0=>dH bN (.inl hk) fun T hT=>hT r hp0
def TC (hk:2<k:=by decide):Pv (under bp k u):=fun n hp0=>dH bN (.inl hk) fun T hT=>hT n hp0
def G741 (hk:1<k:=by decide):SA (under bp k u):=fun s b=>dH bN (.inl hk) fun T hT=>hT s b
def G742 (hk:3<k:=by decide):SB (under bp k u):=fun l=>dH bN (.inl hk) fun T hT=>hT l
def G744 (hk:8<k:=by decide):SC (under bp k u):=fun s hp0=>dH bN (.inl hk) fun T hT=>hT s hp0
def G745 (hk:9<k:=by decide):SD (under bp k u):=fun r hp0=>dH bN (.inl hk) fun T hT=>hT r hp0
def Om (hv:v<=u):Jr (under bp 4 u) v:=⟨fun w nd hp0 hu nx lp ln m K h1 h2 h3 h4 hK=>uw (.inr ⟨rfl,by rw[show(lk bp 808 nj).muE=Bw P9 from rfl,oe h1];exact eX hu hv⟩) fun T _ h=>h.1 w nd hp0 nx lp ln m K h1 h2 h3 h4 hK,fun w nd hp0 hu nx lp ln m K h1 h2 h3 h4 hK=>uw (.inr ⟨rfl,by rw[show(lk bp 808 nj).muE=Bw P9 from rfl,oe h1];exact eX hu hv⟩) fun T _ h=>h.2 w nd hp0 nx lp ln m K h1 h2 h3 h4 hK⟩
def TD (hv:v<=u):SE (under bp 4 u) v:=fun w nd hp0 hu nx lp ln m K h1 h2 h3 h4 hK=>uw (.inr ⟨rfl,by rw[show(lk bp 809 nj).muE=Bw fun _=>2 from rfl,oe h1];exact eX hu hv⟩) fun T _ h=>h w nd hp0 nx lp ln m K h1 h2 h3 h4 hK
def G810 (hk:2<k:=by decide):SF (under bp k u):=fun l=>dH bN (.inl hk) fun T hT=>hT l
def G811 (hk:2<k:=by decide):SG (under bp k u):=fun l i hp0=>dH bN (.inl hk) fun T hT=>hT l i hp0
def On (hv:v<=u):Js (under bp 2 u) v:=fun l i hp0 hu=>dH bN (.inr ⟨rfl,eX hu hv⟩) fun T hT=>hT l i hp0
def G812 (hk:3<k:=by decide):SH (under bp k u):=fun l al=>dH bN (.inl hk) fun T hT=>hT l al
def G813 (hk:6<k:=by decide):SI (under bp k u):=fun s=>dH bN (.inl hk) fun T hT=>hT s
def G814 (hk:6<k:=by decide):SJ (under bp k u):=fun m=>dH bN (.inl hk) fun T hT=>hT m
def TE (hk:1<k:=by decide):Pw (under bp k u):=fun l=>dH bN (.inl hk) fun T hT=>hT l
def G816 (hk:2<k:=by decide):SK (under bp k u):=fun l nm=>dH bN (.inl hk) fun T hT=>hT l nm
def G819 (hk:7<k:=by decide):SL (under bp k u):=fun s hp0=>dH bN (.inl hk) fun T hT=>hT s hp0
def PU (hk:5<k:=by decide):Mt (under bp k u):=fun c hp0=>dH bN (.inl hk) fun T hT=>hT c hp0
def TF (hk:6<k:=by decide):Px (under bp k u):=fun c hp0=>dH bN (.inl hk) fun T hT=>hT c hp0
def G882 (hk:1<k:=by decide):SM (under bp k u):=fun n hp0=>dH bN (.inl hk) fun T hT=>hT n hp0
def G896 (hk:1<k:=by decide):SN (under bp k u):=fun s hp0=>dH bN (.inl hk) fun T hT=>hT s hp0
def G897 (hk:7<k:=by decide):SO (under bp k u):=fun s hp0=>dH bN (.inl hk) fun T hT=>hT s hp0
def G898 (hk:1<k:=by decide):SP (under bp k u):=fun s=>dH bN (.inl hk) fun T hT=>hT s
def TG (hk:6<k:=by decide):Py (under bp k u):=fun r hp0=>dH bN (.inl hk) fun T hT=>hT r hp0
def PV (hk:7<k:=by decide):Mu (under bp k u):=fun r hp0=>dH bN (.inl hk) fun T hT=>hT r hp0
def G901 (hk:8<k:=by decide):SQ (under bp k u):=fun r hp0=>dH bN (.inl hk) fun T hT=>hT r hp0
def PW (hk:1<k:=by decide):Pz (under bp k u):=fun w es b=>dH bN (.inl hk) fun T hT=>hT w es b
def MB (hk:2<k:=by decide):Hg (under bp k u):=fun w nd b nx lp ln m K h1 h2 h3 h4 hK=>uw (.inl hk) fun T _ h=>h w nd b nx lp ln m K h1 h2 h3 h4 hK
def MC (hk:1<k:=by decide):Jt (under bp k u):=fun x w nd b hp0 nx lp ln m K h1 h2 h3 h4 hK=>uw (.inl hk) fun T _ h=>h x w nd b hp0 nx lp ln m K h1 h2 h3 h4 hK
def Oo (hv:v<=u):Oh (under bp 4 u) v:=fun w nd hp0 hu nx lp ln m K h1 h2 h3 h4 hK=>uw (.inr ⟨rfl,by rw[show(lk bp 949 nj).muE=Bw fun _=>0 from rfl,oe h1];exact eX hu hv⟩) fun T _ h=>h w nd hp0 nx lp ln m K h1 h2 h3 h4 hK
def TJ (hk:1<k:=by decide):PA (under bp k u):=dH bN (.inl hk) fun T hT=>hT
def TK (hv:v<=u):Oi (under bp 2 u) v:=fun l i b hp0 hu=>dH bN (.inr ⟨rfl,eX hu hv⟩) fun T hT=>hT l i b hp0
def G952 (hk:4<k:=by decide):PC (under bp k u):=fun W w nd hp0 hp1 nx lp ln m K h1 h2 h3 h4 hK=>uw (.inl hk) fun T _ h=>h W w nd hp0 hp1 nx lp ln m K h1 h2 h3 h4 hK
def TL (hv:v<=u):Oj (under bp 4 u) v:=fun W w nd hp0 hp1 hu nx lp ln m K h1 h2 h3 h4 hK=>uw (.inr ⟨rfl,by rw[show(lk bp 952 nj).muE=Bw fun _=>2 from rfl,td hp0.1 h1];exact eX hu hv⟩) fun T _ h=>h W w nd hp0 hp1 nx lp ln m K h1 h2 h3 h4 hK
def TM (hk:5<k:=by decide):PD (under bp k u):=fun m=>dH bN (.inl hk) fun T hT=>hT m
def TN (hk:3<k:=by decide):PE (under bp k u):=fun l hp0=>dH bN (.inl hk) fun T hT=>hT l hp0
def G955 (hk:1<k:=by decide):SR (under bp k u):=fun l nm=>dH bN (.inl hk) fun T hT=>hT l nm
def G956 (hk:1<k:=by decide):SS (under bp k u):=fun s w=>dH bN (.inl hk) fun T hT=>hT s w
def TO (hk:1<k:=by decide):PF (under bp k u):=fun op=>dH bN (.inl hk) fun T hT=>hT op
def S0 (hk:2<k:=by decide):N7 (under bp k u):=fun s=>dH bN (.inl hk) fun T hT=>hT s
def S1 (hk:1<k:=by decide):N8 (under bp k u):=fun s=>dH bN (.inl hk) fun T hT=>hT s
def S2 (hk:3<k:=by decide):N9 (under bp k u):=fun l=>dH bN (.inl hk) fun T hT=>hT l
def S3 (hk:3<k:=by decide):Jf (under bp k u):=fun k w nd b hp0 nx lp ln m K h1 h2 h3 h4 hK=>uw (.inl hk) fun T _ h=>h k w nd b hp0 nx lp ln m K h1 h2 h3 h4 hK
def PG (hv:v<=u):Jg (under bp 4 u) v:=fun W w nd hp0 hp1 hu nx lp ln m K h1 h2 h3 h4 hK=>uw (.inr ⟨rfl,by rw[show(lk bp 1032 nj).muE=Bw fun _=>1 from rfl,td hp0.1 h1];exact eX hu hv⟩) fun T _ h=>h W w nd hp0 hp1 nx lp ln m K h1 h2 h3 h4 hK
def Ju (hk:1<k:=by decide):Cf (under bp k u):=fun s W w nd b hp0 nx lp ln m K h1 h2 h3 h4 hK=>uw (.inl hk) fun T _ h=>h s W w nd b hp0 nx lp ln m K h1 h2 h3 h4 hK
def FZ (hk:1<k:=by decide):zK (under bp k u):=fun x W w nd b hp0 nx lp ln m K h1 h2 h3 h4 hK=>uw (.inl hk) fun T _ h=>h x W w nd b hp0 nx lp ln m K h1 h2 h3 h4 hK
def S4 (hk:4<k:=by decide):Oa (under bp k u):=fun l hp0=>dH bN (.inl hk) fun T hT=>hT l hp0
def S5 (hk:2<k:=by decide):Ob (under bp k u):=fun l i hp0=>dH bN (.inl hk) fun T hT=>hT l i hp0
def PH (hv:v<=u):Jh (under bp 2 u) v:=fun l i hp0 hu=>dH bN (.inr ⟨rfl,eX hu hv⟩) fun T hT=>hT l i hp0
def S6 (hk:1<k:=by decide):Oc (under bp k u):=fun s w=>dH bN (.inl hk) fun T hT=>hT s w
def Jv (hv:v<=u):Ei (under bp 4 u) v:=fun W w nd hp0 hp1 hu nx lp ln m K h1 h2 h3 h4 hK=>uw (.inr ⟨rfl,by rw[show(lk bp 1097 nj).muE=Bw fun _=>0 from rfl,td hp0.1 h1];exact eX hu hv⟩) fun T _ h=>h W w nd hp0 hp1 nx lp ln m K h1 h2 h3 h4 hK
def S7 (hk:3<k:=by decide):Od (under bp k u):=fun n=>dH bN (.inl hk) fun T hT=>hT n
def Ol (hk:1<k:=by decide):Ji (under bp k u):=fun k hp0=>dH bN (.inl hk) fun T hT=>hT k hp0
def S8 (hk:1<k:=by decide):Oe (under bp k u):=fun s b hp0=>dH bN (.inl hk) fun T hT=>hT s b hp0
def S9 (hk:3<k:=by decide):Jj (under bp k u):=fun W w nd hp0 hp1 nx lp ln m K h1 h2 h3 h4 hK=>uw (.inl hk) fun T _ h=>h W w nd hp0 hp1 nx lp ln m K h1 h2 h3 h4 hK
def Ta (hk:1<k:=by decide):Jk (under bp k u):=fun W w nd b hp0 nx lp ln m K h1 h2 h3 h4 hK=>uw (.inl hk) fun T _ h=>h W w nd b hp0 nx lp ln m K h1 h2 h3 h4 hK
end
def wz:List (Nat×Nat):=[(4,1190),(12,69),(13,76),(14,77),(15,78),(16,73),(17,79),(18,478),(19,228),(20,70),(21,72),(23,71),(28,124),(29,222),(30,223),(31,224),(32,225),(33,226),(34,219),(35,227),(36,229),(37,230),(38,231),(39,232),(40,479),(41,208),(42,209),(43,210),(44,211),(45,212),(46,213),(47,214),(48,215),(50,216),(51,217),(52,218),(61,465),(62,466),(63,467),(64,468),(65,469),(66,470),(67,471),(68,472),(69,473),(70,474),(71,475),(72,476),(73,477),(74,316),(75,461),(76,462),(77,249),(78,480),(79,481),(80,482),(81,483),(82,440),(83,441),(84,442),(85,443),(86,349),(87,444),(88,445),(89,446),(90,447),(91,448),(92,449),(93,450),(94,451),(95,242),(96,452),(97,453),(98,454),(99,455),(100,456),(101,457),(102,458),(103,459),(104,460),(112,245),(113,246),(114,675),(115,533),(116,658),(117,568),(118,554),(119,676),(120,677),(121,678),(122,659),(123,495),(124,496),(125,660),(126,661),(127,662),(128,254),(129,487),(130,663),(131,489),(132,664),(133,665),(135,666),(136,667),(137,668),(138,669),(139,670),(140,357),(141,572),(142,671),(143,672),(144,673),(145,674),(150,494),(151,741),(152,742),(153,734),(154,682),(155,683),(156,684),(157,685),(158,808),(159,809),(160,810),(161,811),(165,336),(167,812),(168,813),(169,814),(170,744),(171,745),(172,815),(173,816),(179,882),(180,819),(188,827),(189,828),(190,946),(191,947),(192,948),(193,949),(194,950),(195,951),(200,952),(201,953),(202,954),(203,896),(204,897),(205,898),(206,899),(207,900),(208,901),(209,955),(212,956),(213,957),(217,1031),(219,1032),(220,1033),(221,1034),(222,1035),(223,1036),(224,1006),(225,1007),(226,1008),(233,1097),(234,1098),(235,1099),(236,1100),(237,1079),(245,1126),(248,1141)]
def JX:List Nat:=[219,1091,1354,1894,1896,1616,1320,1618,1898,2062,2066,2282,2068,2252,2194,2064,1904,900,931,937,935,445,978,1328,904,942,944,946,952,448,1000000133]
def bH:(Go.Proofs.Tryz.prog).follows .mixedOrders=true:=pH
abbrev Ow [dy](f n:Nat):Prop:=Rd Go.Proofs.Tryz.prog wz JX bp f n
abbrev Cp (f:Nat)(a:aJ):Prop:=I9 Go.Proofs.Tryz.prog wz JX f a
def ck {f:Nat}{a:aJ}(h:((Go.Proofs.Tryz.prog).funcs[f]?).map (fun f=>(compile Go.Proofs.Tryz.prog wz JX f,f.name== "runtime.NumGoroutine"))=some (some a,false):=by kernel_rfl):Cp f a:=h
end Go.Abs
section
namespace Go.Proofs
open Go.Shelf
def Tryz.MJ:Go.Shelf.Ren:=⟨fun|166=>131|167=>132|169=>96|240=>164|276=>197|n=>n,fun|70=>131|9=>9|0=>0|72=>133|37=>53|3=>3|5=>5|4=>4|20=>20|75=>172|80=>99|164=>215|127=>177|n=>n,fun|n=>n⟩
def Tryz.F6:Go.Proofs.Lays.n166 Tryz.prog Tryz.MJ:={
 mixed:=by kernel_rfl
 f166:=Tryz.func131.trans (congrArg some (by kernel_rfl))
 f240:=Tryz.func164.trans (congrArg some (by kernel_rfl))
 f276:=Tryz.func197.trans (congrArg some (by kernel_rfl))
 t0:=Tryz.underlying0
 a0:=Tryz.isAgg0
 z0:=Tryz.sizeOf0
 v0:=Tryz.zeroValue0
 t3:=Tryz.underlying3
 a3:=Tryz.isAgg3
 z3:=Tryz.sizeOf3
 v3:=Tryz.zeroValue3
 t4:=Tryz.underlying4
 a4:=Tryz.isAgg4
 z4:=Tryz.sizeOf4
 v4:=Tryz.zeroValue4
 t9:=Tryz.underlying9
 a9:=Tryz.isAgg9
 z9:=Tryz.sizeOf9
 v9:=Tryz.zeroValue9
 t20:=Tryz.underlying20
 a20:=Tryz.isAgg20
 z20:=Tryz.sizeOf20
 v20:=Tryz.zeroValue20
 t37:=Tryz.underlying53
 a37:=Tryz.isAgg53
 z37:=Tryz.sizeOf53
 v37:=Tryz.zeroValue53
 t70:=Tryz.underlying131
 a70:=Tryz.isAgg131
 z70:=Tryz.sizeOf131
 v70:=Tryz.zeroValue131
 t72:=Tryz.underlying133
 a72:=Tryz.isAgg133
 z72:=Tryz.sizeOf133
 v72:=Tryz.zeroValue133
 t75:=Tryz.underlying172
 a75:=Tryz.isAgg172
 z75:=Tryz.sizeOf172
 v75:=Tryz.zeroValue172
 t164:=Tryz.underlying215
 a164:=Tryz.isAgg215
 z164:=Tryz.sizeOf215
 v164:=Tryz.zeroValue215}
def Tryz.F7:Go.Proofs.Lays.n167 Tryz.prog Tryz.MJ:={
 mixed:=by kernel_rfl
 f167:=Tryz.func132.trans (congrArg some (by kernel_rfl))
 f240:=Tryz.func164.trans (congrArg some (by kernel_rfl))
 f276:=Tryz.func197.trans (congrArg some (by kernel_rfl))
 t0:=Tryz.underlying0
 a0:=Tryz.isAgg0
 z0:=Tryz.sizeOf0
 v0:=Tryz.zeroValue0
 t4:=Tryz.underlying4
 a4:=Tryz.isAgg4
 z4:=Tryz.sizeOf4
 v4:=Tryz.zeroValue4
 t5:=Tryz.underlying5
 a5:=Tryz.isAgg5
 z5:=Tryz.sizeOf5
 v5:=Tryz.zeroValue5
 t9:=Tryz.underlying9
 a9:=Tryz.isAgg9
 z9:=Tryz.sizeOf9
 v9:=Tryz.zeroValue9
 t20:=Tryz.underlying20
 a20:=Tryz.isAgg20
 z20:=Tryz.sizeOf20
 v20:=Tryz.zeroValue20
 t37:=Tryz.underlying53
 a37:=Tryz.isAgg53
 z37:=Tryz.sizeOf53
 v37:=Tryz.zeroValue53
 t70:=Tryz.underlying131
 a70:=Tryz.isAgg131
 z70:=Tryz.sizeOf131
 v70:=Tryz.zeroValue131
 t72:=Tryz.underlying133
 a72:=Tryz.isAgg133
 z72:=Tryz.sizeOf133
 v72:=Tryz.zeroValue133
 t75:=Tryz.underlying172
 a75:=Tryz.isAgg172
 z75:=Tryz.sizeOf172
 v75:=Tryz.zeroValue172
 t164:=Tryz.underlying215
 a164:=Tryz.isAgg215
 z164:=Tryz.sizeOf215
 v164:=Tryz.zeroValue215}
def Tryz.F8:Go.Proofs.Lays.n169 Tryz.prog Tryz.MJ:={
 mixed:=by kernel_rfl
 f169:=Tryz.func96.trans (congrArg some (by kernel_rfl))
 t0:=Tryz.underlying0
 a0:=Tryz.isAgg0
 z0:=Tryz.sizeOf0
 v0:=Tryz.zeroValue0
 t3:=Tryz.underlying3
 a3:=Tryz.isAgg3
 z3:=Tryz.sizeOf3
 v3:=Tryz.zeroValue3
 t9:=Tryz.underlying9
 a9:=Tryz.isAgg9
 z9:=Tryz.sizeOf9
 v9:=Tryz.zeroValue9
 t37:=Tryz.underlying53
 a37:=Tryz.isAgg53
 z37:=Tryz.sizeOf53
 v37:=Tryz.zeroValue53
 t70:=Tryz.underlying131
 a70:=Tryz.isAgg131
 z70:=Tryz.sizeOf131
 v70:=Tryz.zeroValue131
 t72:=Tryz.underlying133
 a72:=Tryz.isAgg133
 z72:=Tryz.sizeOf133
 v72:=Tryz.zeroValue133
 t127:=Tryz.underlying177
 a127:=Tryz.isAgg177
 z127:=Tryz.sizeOf177
 v127:=Tryz.zeroValue177}
def Tryz.P8:Builder.Extra Tryz.prog Tryz.MJ:={
 sizeBuilder:=by kernel_rfl
 liesBuilder:=by kernel_rfl
 t5:=Tryz.underlying5
 a5:=Tryz.isAgg5
 z5:=Tryz.sizeOf5
 v5:=Tryz.zeroValue5
 infoByte:=by kernel_rfl
 cellsByte:=by kernel_rfl
 sizeByte:=by kernel_rfl
 neB5:=by decide}
end Go.Proofs
end
section
namespace Go.Proofs
open Go.Shelf
def Tryz.lays156_ren:Go.Shelf.Ren:=⟨fun|156=>95|165=>134|166=>131|169=>96|240=>164|241=>166|276=>197|277=>199|n=>n,fun|31=>55|9=>9|3=>3|4=>4|0=>0|20=>20|72=>133|76=>173|70=>131|37=>53|75=>172|127=>177|164=>215|5=>5|80=>99|n=>n,fun|n=>n⟩
def Tryz.lays156:Go.Proofs.Lays.n156 Tryz.prog Tryz.lays156_ren:={
 mixed:=by kernel_rfl
 f156:=Tryz.func95.trans (congrArg some (by kernel_rfl))
 f165:=Tryz.func134.trans (congrArg some (by kernel_rfl))
 f166:=Tryz.func131.trans (congrArg some (by kernel_rfl))
 f169:=Tryz.func96.trans (congrArg some (by kernel_rfl))
 f240:=Tryz.func164.trans (congrArg some (by kernel_rfl))
 f241:=Tryz.func166.trans (congrArg some (by kernel_rfl))
 f276:=Tryz.func197.trans (congrArg some (by kernel_rfl))
 f277:=Tryz.func199.trans (congrArg some (by kernel_rfl))
 t0:=Tryz.underlying0
 a0:=Tryz.isAgg0
 z0:=Tryz.sizeOf0
 v0:=Tryz.zeroValue0
 t3:=Tryz.underlying3
 a3:=Tryz.isAgg3
 z3:=Tryz.sizeOf3
 v3:=Tryz.zeroValue3
 t4:=Tryz.underlying4
 a4:=Tryz.isAgg4
 z4:=Tryz.sizeOf4
 v4:=Tryz.zeroValue4
 t9:=Tryz.underlying9
 a9:=Tryz.isAgg9
 z9:=Tryz.sizeOf9
 v9:=Tryz.zeroValue9
 t20:=Tryz.underlying20
 a20:=Tryz.isAgg20
 z20:=Tryz.sizeOf20
 v20:=Tryz.zeroValue20
 t31:=Tryz.underlying55
 a31:=Tryz.isAgg55
 z31:=Tryz.sizeOf55
 v31:=Tryz.zeroValue55
 t37:=Tryz.underlying53
 a37:=Tryz.isAgg53
 z37:=Tryz.sizeOf53
 v37:=Tryz.zeroValue53
 t70:=Tryz.underlying131
 a70:=Tryz.isAgg131
 z70:=Tryz.sizeOf131
 v70:=Tryz.zeroValue131
 t72:=Tryz.underlying133
 a72:=Tryz.isAgg133
 z72:=Tryz.sizeOf133
 v72:=Tryz.zeroValue133
 t75:=Tryz.underlying172
 a75:=Tryz.isAgg172
 z75:=Tryz.sizeOf172
 v75:=Tryz.zeroValue172
 t76:=Tryz.underlying173
 a76:=Tryz.isAgg173
 z76:=Tryz.sizeOf173
 v76:=Tryz.zeroValue173
 t127:=Tryz.underlying177
 a127:=Tryz.isAgg177
 z127:=Tryz.sizeOf177
 v127:=Tryz.zeroValue177
 t164:=Tryz.underlying215
 a164:=Tryz.isAgg215
 z164:=Tryz.sizeOf215
 v164:=Tryz.zeroValue215}
def Tryz.Builder_Extra_156:Builder.Extra Tryz.prog Tryz.lays156_ren:={
 sizeBuilder:=by kernel_rfl
 liesBuilder:=by kernel_rfl
 t5:=Tryz.underlying5
 a5:=Tryz.isAgg5
 z5:=Tryz.sizeOf5
 v5:=Tryz.zeroValue5
 infoByte:=by kernel_rfl
 cellsByte:=by kernel_rfl
 sizeByte:=by kernel_rfl
 neB5:=by decide}
open Go.RowKit in
theorem Tryz.strings_Join_none (a:Option Addr)(c:Nat)(sep:ByteArray)(w:World):
  Calls Tryz.prog 95 #[.slice a 0 c,.string sep] w fun e w'=>e=.returned (.string ⟨#[]⟩)∧w'=w:=Any.strings_Join_none Tryz.lays156 Tryz.Builder_Extra_156 a c sep w
open Go.RowKit in
theorem Tryz.strings_Join (bk o c:Nat)(xs:List ByteArray)(sep:ByteArray)(w:World)(hcells:∀(j:Nat) x,xs[j]? =some x→w.cell? ⟨bk,o+j,none⟩=some (.string x))(hbk:bk<w.heap.size)(hN:xs.length≤140737488355328)(hcap:xs.length≤c)(hlen:(Lib.join (xs.map (·.data.toList)) sep.data.toList).length≤140737488355328):
  Calls Tryz.prog 95 #[.slice (some ⟨bk,o,none⟩) xs.length c,.string sep] w fun e w'=>e=.returned (.string ⟨(Lib.join (xs.map (·.data.toList)) sep.data.toList).toArray⟩)∧Below w.heap.size w w':=Any.strings_Join Tryz.lays156 Tryz.Builder_Extra_156 bk o c xs sep w hcells hbk hN hcap hlen
def Tryz.lays160_ren:Go.Shelf.Ren:=⟨fun|160=>155|232=>182|231=>181|227=>183|234=>185|233=>184|236=>187|235=>186|228=>214|271=>216|151=>215|197=>147|120=>228|152=>227|260=>174|137=>238|119=>239|224=>177|225=>176|217=>175|266=>210|n=>n,fun|9=>9|4=>4|3=>3|5=>5|117=>205|116=>204|0=>0|124=>208|21=>21|105=>181|46=>89|119=>222|139=>225|138=>224|n=>n,fun|3=>1|4=>2|n=>n⟩
def Tryz.lays160:Go.Proofs.Lays.n160 Tryz.prog Tryz.lays160_ren:={
 mixed:=by kernel_rfl
 f119:=Tryz.func239.trans (congrArg some (by kernel_rfl))
 f120:=Tryz.func228.trans (congrArg some (by kernel_rfl))
 f137:=Tryz.func238.trans (congrArg some (by kernel_rfl))
 f151:=Tryz.func215.trans (congrArg some (by kernel_rfl))
 f152:=Tryz.func227.trans (congrArg some (by kernel_rfl))
 f160:=Tryz.func155.trans (congrArg some (by kernel_rfl))
 f197:=Tryz.func147.trans (congrArg some (by kernel_rfl))
 f217:=Tryz.func175.trans (congrArg some (by kernel_rfl))
 f224:=Tryz.func177.trans (congrArg some (by kernel_rfl))
 f225:=Tryz.func176.trans (congrArg some (by kernel_rfl))
 f227:=Tryz.func183.trans (congrArg some (by kernel_rfl))
 f228:=Tryz.func214.trans (congrArg some (by kernel_rfl))
 f231:=Tryz.func181.trans (congrArg some (by kernel_rfl))
 f232:=Tryz.func182.trans (congrArg some (by kernel_rfl))
 f233:=Tryz.func184.trans (congrArg some (by kernel_rfl))
 f234:=Tryz.func185.trans (congrArg some (by kernel_rfl))
 f235:=Tryz.func186.trans (congrArg some (by kernel_rfl))
 f236:=Tryz.func187.trans (congrArg some (by kernel_rfl))
 f260:=Tryz.func174.trans (congrArg some (by kernel_rfl))
 f266:=Tryz.func210.trans (congrArg some (by kernel_rfl))
 f271:=Tryz.func216.trans (congrArg some (by kernel_rfl))
 t0:=Tryz.underlying0
 a0:=Tryz.isAgg0
 z0:=Tryz.sizeOf0
 v0:=Tryz.zeroValue0
 t3:=Tryz.underlying3
 a3:=Tryz.isAgg3
 z3:=Tryz.sizeOf3
 v3:=Tryz.zeroValue3
 t4:=Tryz.underlying4
 a4:=Tryz.isAgg4
 z4:=Tryz.sizeOf4
 v4:=Tryz.zeroValue4
 t5:=Tryz.underlying5
 a5:=Tryz.isAgg5
 z5:=Tryz.sizeOf5
 v5:=Tryz.zeroValue5
 t9:=Tryz.underlying9
 a9:=Tryz.isAgg9
 z9:=Tryz.sizeOf9
 v9:=Tryz.zeroValue9
 t21:=Tryz.underlying21
 a21:=Tryz.isAgg21
 z21:=Tryz.sizeOf21
 v21:=Tryz.zeroValue21
 t46:=Tryz.underlying89
 a46:=Tryz.isAgg89
 z46:=Tryz.sizeOf89
 v46:=Tryz.zeroValue89
 t105:=Tryz.underlying181
 a105:=Tryz.isAgg181
 z105:=Tryz.sizeOf181
 v105:=Tryz.zeroValue181
 t116:=Tryz.underlying204
 a116:=Tryz.isAgg204
 z116:=Tryz.sizeOf204
 t117:=Tryz.underlying205
 a117:=Tryz.isAgg205
 z117:=Tryz.sizeOf205
 v117:=Tryz.zeroValue205
 t119:=Tryz.underlying222
 a119:=Tryz.isAgg222
 z119:=Tryz.sizeOf222
 t124:=Tryz.underlying208
 a124:=Tryz.isAgg208
 z124:=Tryz.sizeOf208
 v124:=Tryz.zeroValue208
 t138:=Tryz.underlying224
 a138:=Tryz.isAgg224
 z138:=Tryz.sizeOf224
 v138:=Tryz.zeroValue224
 t139:=Tryz.underlying225
 a139:=Tryz.isAgg225
 z139:=Tryz.sizeOf225
 v139:=Tryz.zeroValue225
 g3:=by kernel_rfl
 g4:=by kernel_rfl}
open Go.RowKit in
theorem Tryz.strings_Trim_one (s:ByteArray)(c:UInt8)(hc:c.toNat<128)(w:World)(hs:s.size≤9223372036854775807):
  Calls Tryz.prog 155 #[.string s,.string ⟨#[c]⟩] w fun e w'=>e=.returned (.string ⟨(Lib.trimB s.data.toList c).toArray⟩)∧(w'=w∨w'=w.drew):=Any.strings_Trim_one Tryz.lays160 s c hc w hs
def Tryz.lays103_ren:Go.Shelf.Ren:=⟨fun|103=>128|210=>162|206=>196|n=>n,fun|9=>9|4=>4|24=>166|3=>3|n=>n,fun|n=>n⟩
def Tryz.lays103:Go.Proofs.Lays.n103 Tryz.prog Tryz.lays103_ren:={
 mixed:=by kernel_rfl
 f103:=Tryz.func128.trans (congrArg some (by kernel_rfl))
 f206:=Tryz.func196.trans (congrArg some (by kernel_rfl))
 f210:=Tryz.func162.trans (congrArg some (by kernel_rfl))
 t3:=Tryz.underlying3
 a3:=Tryz.isAgg3
 z3:=Tryz.sizeOf3
 v3:=Tryz.zeroValue3
 t4:=Tryz.underlying4
 a4:=Tryz.isAgg4
 z4:=Tryz.sizeOf4
 v4:=Tryz.zeroValue4
 t9:=Tryz.underlying9
 a9:=Tryz.isAgg9
 z9:=Tryz.sizeOf9
 v9:=Tryz.zeroValue9
 t24:=Tryz.underlying166
 a24:=Tryz.isAgg166
 z24:=Tryz.sizeOf166
 v24:=Tryz.zeroValue166}
open Go.RowKit in
theorem Tryz.strings_CutPrefix (s p:ByteArray)(w:World):
  Calls Tryz.prog 128 #[.string s,.string p] w fun e w'=>e=.returned (.tuple #[.string ⟨(Lib.trimPrefix s.data.toList p.data.toList).toArray⟩,.bool (Lib.hasPrefix s.data.toList p.data.toList)])∧w'=w:=Any.strings_CutPrefix Tryz.lays103 s p w
def Tryz.laysM171_ren:Go.Shelf.Ren:=⟨fun|171=>165|243=>198|246=>218|283=>229|284=>230|285=>231|286=>232|129=>241|317=>240|318=>242|319=>243|320=>244|337=>246|338=>247|n=>n,fun|3=>3|9=>9|2=>2|4=>4|171=>235|0=>0|53=>49|37=>53|5=>5|173=>238|212=>244|51=>226|20=>20|213=>245|46=>89|232=>248|233=>249|n=>n,fun|17=>3|18=>4|19=>5|n=>n⟩
def Tryz.laysM171:Go.Proofs.LaysM.n171 Tryz.prog Tryz.laysM171_ren:={
 mixed:=by kernel_rfl
 f129:=Tryz.func241.trans (congrArg some (by kernel_rfl))
 f171:=Tryz.func165.trans (congrArg some (by kernel_rfl))
 f243:=Tryz.func198.trans (congrArg some (by kernel_rfl))
 f246:=Tryz.func218.trans (congrArg some (by kernel_rfl))
 f283:=Tryz.func229.trans (congrArg some (by kernel_rfl))
 f284:=Tryz.func230.trans (congrArg some (by kernel_rfl))
 f285:=Tryz.func231.trans (congrArg some (by kernel_rfl))
 f286:=Tryz.func232.trans (congrArg some (by kernel_rfl))
 f317:=Tryz.func240.trans (congrArg some (by kernel_rfl))
 f318:=Tryz.func242.trans (congrArg some (by kernel_rfl))
 f319:=Tryz.func243.trans (congrArg some (by kernel_rfl))
 f320:=Tryz.func244.trans (congrArg some (by kernel_rfl))
 f337:=Tryz.func246.trans (congrArg some (by kernel_rfl))
 f338:=Tryz.func247.trans (congrArg some (by kernel_rfl))
 t0:=Tryz.underlying0
 a0:=Tryz.isAgg0
 z0:=Tryz.sizeOf0
 v0:=Tryz.zeroValue0
 t2:=Tryz.underlying2
 a2:=Tryz.isAgg2
 z2:=Tryz.sizeOf2
 v2:=Tryz.zeroValue2
 t3:=Tryz.underlying3
 a3:=Tryz.isAgg3
 z3:=Tryz.sizeOf3
 v3:=Tryz.zeroValue3
 t4:=Tryz.underlying4
 a4:=Tryz.isAgg4
 z4:=Tryz.sizeOf4
 v4:=Tryz.zeroValue4
 t5:=Tryz.underlying5
 a5:=Tryz.isAgg5
 z5:=Tryz.sizeOf5
 v5:=Tryz.zeroValue5
 t9:=Tryz.underlying9
 a9:=Tryz.isAgg9
 z9:=Tryz.sizeOf9
 v9:=Tryz.zeroValue9
 t20:=Tryz.underlying20
 a20:=Tryz.isAgg20
 z20:=Tryz.sizeOf20
 v20:=Tryz.zeroValue20
 t37:=Tryz.underlying53
 a37:=Tryz.isAgg53
 z37:=Tryz.sizeOf53
 v37:=Tryz.zeroValue53
 t46:=Tryz.underlying89
 a46:=Tryz.isAgg89
 z46:=Tryz.sizeOf89
 v46:=Tryz.zeroValue89
 t51:=Tryz.underlying226
 a51:=Tryz.isAgg226
 z51:=Tryz.sizeOf226
 v51:=Tryz.zeroValue226
 t53:=Tryz.underlying49
 a53:=Tryz.isAgg49
 z53:=Tryz.sizeOf49
 v53:=Tryz.zeroValue49
 t171:=Tryz.underlying235
 a171:=Tryz.isAgg235
 z171:=Tryz.sizeOf235
 v171:=Tryz.zeroValue235
 t173:=Tryz.underlying238
 a173:=Tryz.isAgg238
 z173:=Tryz.sizeOf238
 v173:=Tryz.zeroValue238
 t212:=Tryz.underlying244
 a212:=Tryz.isAgg244
 z212:=Tryz.sizeOf244
 v212:=Tryz.zeroValue244
 t213:=Tryz.underlying245
 a213:=Tryz.isAgg245
 z213:=Tryz.sizeOf245
 t232:=Tryz.underlying248
 a232:=Tryz.isAgg248
 z232:=Tryz.sizeOf248
 v232:=Tryz.zeroValue248
 t233:=Tryz.underlying249
 a233:=Tryz.isAgg249
 z233:=Tryz.sizeOf249
 v233:=Tryz.zeroValue249
 g17:=by kernel_rfl
 g18:=by kernel_rfl
 g19:=by kernel_rfl
 i0:=by kernel_rfl
 i2:=by kernel_rfl
 i3:=by kernel_rfl
 i4:=by kernel_rfl
 i5:=by kernel_rfl
 i9:=by kernel_rfl
 i20:=by kernel_rfl
 i37:=by kernel_rfl
 i46:=by kernel_rfl
 i51:=by kernel_rfl
 i53:=by kernel_rfl
 i171:=by kernel_rfl
 i173:=by kernel_rfl
 i212:=by kernel_rfl
 i232:=by kernel_rfl
 i233:=by kernel_rfl
 m17:=by kernel_rfl
 m18:=by kernel_rfl
 m19:=by kernel_rfl}
open Go.RowKit Go.Sort Go.Lib in
theorem Tryz.strconv_Itoa (n:Int)(h0:-9223372036854775808≤n)(h1:n≤9223372036854775807)(w:World)(htab:Lib.TabIs Tryz.prog w "internal/strconv.uint64pow10" .u64 Lib.pow10Tab):
  Calls Tryz.prog 165 #[.int .i64 n] w fun e w'=>e=.returned (.string ⟨(Lib.itoa n).toArray⟩)∧∃k os,w'=grow (w.drewN k) os:=Any.strconv_Itoa Tryz.laysM171 n h0 h1 w htab
def Tryz.lays145_ren:Go.Shelf.Ren:=⟨fun|145=>129|220=>163|219=>149|217=>175|225=>176|224=>177|267=>178|266=>210|314=>211|n=>n,fun|9=>9|4=>4|59=>168|3=>3|5=>5|46=>89|146=>227|51=>226|n=>n,fun|1=>0|n=>n⟩
def Tryz.lays145:Go.Proofs.Lays.n145 Tryz.prog Tryz.lays145_ren:={
 mixed:=by kernel_rfl
 f145:=Tryz.func129.trans (congrArg some (by kernel_rfl))
 f217:=Tryz.func175.trans (congrArg some (by kernel_rfl))
 f219:=Tryz.func149.trans (congrArg some (by kernel_rfl))
 f220:=Tryz.func163.trans (congrArg some (by kernel_rfl))
 f224:=Tryz.func177.trans (congrArg some (by kernel_rfl))
 f225:=Tryz.func176.trans (congrArg some (by kernel_rfl))
 f266:=Tryz.func210.trans (congrArg some (by kernel_rfl))
 f267:=Tryz.func178.trans (congrArg some (by kernel_rfl))
 f314:=Tryz.func211.trans (congrArg some (by kernel_rfl))
 t3:=Tryz.underlying3
 a3:=Tryz.isAgg3
 z3:=Tryz.sizeOf3
 v3:=Tryz.zeroValue3
 t4:=Tryz.underlying4
 a4:=Tryz.isAgg4
 z4:=Tryz.sizeOf4
 v4:=Tryz.zeroValue4
 t5:=Tryz.underlying5
 a5:=Tryz.isAgg5
 z5:=Tryz.sizeOf5
 v5:=Tryz.zeroValue5
 t9:=Tryz.underlying9
 a9:=Tryz.isAgg9
 z9:=Tryz.sizeOf9
 v9:=Tryz.zeroValue9
 t46:=Tryz.underlying89
 a46:=Tryz.isAgg89
 z46:=Tryz.sizeOf89
 v46:=Tryz.zeroValue89
 t51:=Tryz.underlying226
 a51:=Tryz.isAgg226
 z51:=Tryz.sizeOf226
 v51:=Tryz.zeroValue226
 t59:=Tryz.underlying168
 a59:=Tryz.isAgg168
 z59:=Tryz.sizeOf168
 v59:=Tryz.zeroValue168
 t146:=Tryz.underlying227
 a146:=Tryz.isAgg227
 z146:=Tryz.sizeOf227
 v146:=Tryz.zeroValue227
 g1:=by kernel_rfl}
open Go.RowKit Go.Lib in
theorem Tryz.strings_Cut (s sep:ByteArray)(m:Int)(w:World)(hs:s.size<4294967281)(hm:w.cell? ⟨0,0,none⟩=some (.int .i64 m)):
  Calls Tryz.prog 129 #[.string s,.string sep] w fun e w'=>e=.returned (.tuple #[.string ⟨(Lib.cut s.data.toList sep.data.toList).1.toArray⟩,.string ⟨(Lib.cut s.data.toList sep.data.toList).2.1.toArray⟩,.bool (Lib.cut s.data.toList sep.data.toList).2.2])∧∃n,w'=w.drewN n:=Any.strings_Cut Tryz.lays145 s sep m w hs hm
def Tryz.laysM219_ren:Go.Shelf.Ren:=⟨fun|219=>149|217=>175|225=>176|224=>177|267=>178|266=>210|314=>211|n=>n,fun|9=>9|3=>3|4=>4|5=>5|46=>89|146=>227|51=>226|n=>n,fun|1=>0|n=>n⟩
def Tryz.laysM219:Go.Proofs.LaysM.n219 Tryz.prog Tryz.laysM219_ren:={
 mixed:=by kernel_rfl
 f217:=Tryz.func175.trans (congrArg some (by kernel_rfl))
 f219:=Tryz.func149.trans (congrArg some (by kernel_rfl))
 f224:=Tryz.func177.trans (congrArg some (by kernel_rfl))
 f225:=Tryz.func176.trans (congrArg some (by kernel_rfl))
 f266:=Tryz.func210.trans (congrArg some (by kernel_rfl))
 f267:=Tryz.func178.trans (congrArg some (by kernel_rfl))
 f314:=Tryz.func211.trans (congrArg some (by kernel_rfl))
 t3:=Tryz.underlying3
 a3:=Tryz.isAgg3
 z3:=Tryz.sizeOf3
 v3:=Tryz.zeroValue3
 t4:=Tryz.underlying4
 a4:=Tryz.isAgg4
 z4:=Tryz.sizeOf4
 v4:=Tryz.zeroValue4
 t5:=Tryz.underlying5
 a5:=Tryz.isAgg5
 z5:=Tryz.sizeOf5
 v5:=Tryz.zeroValue5
 t9:=Tryz.underlying9
 a9:=Tryz.isAgg9
 z9:=Tryz.sizeOf9
 v9:=Tryz.zeroValue9
 t46:=Tryz.underlying89
 a46:=Tryz.isAgg89
 z46:=Tryz.sizeOf89
 v46:=Tryz.zeroValue89
 t51:=Tryz.underlying226
 a51:=Tryz.isAgg226
 z51:=Tryz.sizeOf226
 v51:=Tryz.zeroValue226
 t146:=Tryz.underlying227
 a146:=Tryz.isAgg227
 z146:=Tryz.sizeOf227
 v146:=Tryz.zeroValue227
 g1:=by kernel_rfl
 i3:=by kernel_rfl
 i4:=by kernel_rfl
 i5:=by kernel_rfl
 i9:=by kernel_rfl
 i46:=by kernel_rfl
 i51:=by kernel_rfl
 i146:=by kernel_rfl
 m1:=by kernel_rfl
 s1_3:=fun w h=>Go.Proofs.cell_of_shapedOpen_int (zero:=#[.int .i64 0]) (t:=3) h (of_decide_eq_true (by kernel_rfl)) (by kernel_rfl) rfl (by kernel_rfl) (by kernel_rfl) Tryz.underlying3}
def Tryz.lays221_ren:Go.Shelf.Ren:=⟨fun|221=>60|268=>109|138=>110|143=>111|195=>146|197=>147|218=>148|219=>149|260=>174|217=>175|225=>176|224=>177|267=>178|266=>210|314=>211|n=>n,fun|9=>9|3=>3|31=>55|4=>4|0=>0|105=>181|21=>21|5=>5|46=>89|119=>222|139=>225|138=>224|146=>227|51=>226|n=>n,fun|1=>0|3=>1|4=>2|n=>n⟩
def Tryz.lays221:Go.Proofs.Lays.n221 Tryz.prog Tryz.lays221_ren:={
 mixed:=by kernel_rfl
 f138:=Tryz.func110.trans (congrArg some (by kernel_rfl))
 f143:=Tryz.func111.trans (congrArg some (by kernel_rfl))
 f195:=Tryz.func146.trans (congrArg some (by kernel_rfl))
 f197:=Tryz.func147.trans (congrArg some (by kernel_rfl))
 f217:=Tryz.func175.trans (congrArg some (by kernel_rfl))
 f218:=Tryz.func148.trans (congrArg some (by kernel_rfl))
 f219:=Tryz.func149.trans (congrArg some (by kernel_rfl))
 f221:=Tryz.func60.trans (congrArg some (by kernel_rfl))
 f224:=Tryz.func177.trans (congrArg some (by kernel_rfl))
 f225:=Tryz.func176.trans (congrArg some (by kernel_rfl))
 f260:=Tryz.func174.trans (congrArg some (by kernel_rfl))
 f266:=Tryz.func210.trans (congrArg some (by kernel_rfl))
 f267:=Tryz.func178.trans (congrArg some (by kernel_rfl))
 f268:=Tryz.func109.trans (congrArg some (by kernel_rfl))
 f314:=Tryz.func211.trans (congrArg some (by kernel_rfl))
 t0:=Tryz.underlying0
 a0:=Tryz.isAgg0
 z0:=Tryz.sizeOf0
 v0:=Tryz.zeroValue0
 t3:=Tryz.underlying3
 a3:=Tryz.isAgg3
 z3:=Tryz.sizeOf3
 v3:=Tryz.zeroValue3
 t4:=Tryz.underlying4
 a4:=Tryz.isAgg4
 z4:=Tryz.sizeOf4
 v4:=Tryz.zeroValue4
 t5:=Tryz.underlying5
 a5:=Tryz.isAgg5
 z5:=Tryz.sizeOf5
 v5:=Tryz.zeroValue5
 t9:=Tryz.underlying9
 a9:=Tryz.isAgg9
 z9:=Tryz.sizeOf9
 v9:=Tryz.zeroValue9
 t21:=Tryz.underlying21
 a21:=Tryz.isAgg21
 z21:=Tryz.sizeOf21
 v21:=Tryz.zeroValue21
 t31:=Tryz.underlying55
 a31:=Tryz.isAgg55
 z31:=Tryz.sizeOf55
 v31:=Tryz.zeroValue55
 t46:=Tryz.underlying89
 a46:=Tryz.isAgg89
 z46:=Tryz.sizeOf89
 v46:=Tryz.zeroValue89
 t51:=Tryz.underlying226
 a51:=Tryz.isAgg226
 z51:=Tryz.sizeOf226
 v51:=Tryz.zeroValue226
 t105:=Tryz.underlying181
 a105:=Tryz.isAgg181
 z105:=Tryz.sizeOf181
 v105:=Tryz.zeroValue181
 t119:=Tryz.underlying222
 a119:=Tryz.isAgg222
 z119:=Tryz.sizeOf222
 t138:=Tryz.underlying224
 a138:=Tryz.isAgg224
 z138:=Tryz.sizeOf224
 v138:=Tryz.zeroValue224
 t139:=Tryz.underlying225
 a139:=Tryz.isAgg225
 z139:=Tryz.sizeOf225
 v139:=Tryz.zeroValue225
 t146:=Tryz.underlying227
 a146:=Tryz.isAgg227
 z146:=Tryz.sizeOf227
 v146:=Tryz.zeroValue227
 g1:=by kernel_rfl
 g3:=by kernel_rfl
 g4:=by kernel_rfl}
open Go.RowKit Go.Lib in
theorem Tryz.strings_genSplit (s sep:ByteArray)(sv:Nat)(n:Int)(N:Nat)(m:Int)(w:World)(hs:s.size<4294967281)(hm:w.cell? ⟨0,0,none⟩=some (.int .i64 m))(h1:1≤sep.size)(hsv:sv≤sep.size)(hn0:n≠0)(hn63:n≤9223372036854775807)(hN:(N:Int)=min (if n<0 then(Lib.countB s sep:Int)+1 else n) ((s.size:Int)+1)):
  Calls Tryz.prog 60 #[.string s,.string sep,.int .i64 sv,.int .i64 n] w fun e w'=>
   e=.returned (.slice (some ⟨w.heap.size,0,none⟩) (Lib.splitB sep sv (N-1) s).length N)∧w'=w.alloc (.cells (Lib.cellsOf (Lib.splitB sep sv (N-1) s) N) 9):=Any.strings_genSplit Tryz.lays221 (by kernel_rfl) s sep sv n N m w hs hm h1 hsv hn0 hn63 hN
def Tryz.lays146_ren:Go.Shelf.Ren:=⟨fun|146=>28|221=>60|268=>109|138=>110|143=>111|195=>146|197=>147|218=>148|219=>149|260=>174|217=>175|225=>176|224=>177|267=>178|266=>210|314=>211|n=>n,fun|9=>9|31=>55|3=>3|4=>4|0=>0|105=>181|21=>21|5=>5|46=>89|119=>222|139=>225|138=>224|146=>227|51=>226|n=>n,fun|1=>0|3=>1|4=>2|n=>n⟩
def Tryz.lays146:Go.Proofs.Lays.n146 Tryz.prog Tryz.lays146_ren:={
 mixed:=by kernel_rfl
 f138:=Tryz.func110.trans (congrArg some (by kernel_rfl))
 f143:=Tryz.func111.trans (congrArg some (by kernel_rfl))
 f146:=Tryz.func28.trans (congrArg some (by kernel_rfl))
 f195:=Tryz.func146.trans (congrArg some (by kernel_rfl))
 f197:=Tryz.func147.trans (congrArg some (by kernel_rfl))
 f217:=Tryz.func175.trans (congrArg some (by kernel_rfl))
 f218:=Tryz.func148.trans (congrArg some (by kernel_rfl))
 f219:=Tryz.func149.trans (congrArg some (by kernel_rfl))
 f221:=Tryz.func60.trans (congrArg some (by kernel_rfl))
 f224:=Tryz.func177.trans (congrArg some (by kernel_rfl))
 f225:=Tryz.func176.trans (congrArg some (by kernel_rfl))
 f260:=Tryz.func174.trans (congrArg some (by kernel_rfl))
 f266:=Tryz.func210.trans (congrArg some (by kernel_rfl))
 f267:=Tryz.func178.trans (congrArg some (by kernel_rfl))
 f268:=Tryz.func109.trans (congrArg some (by kernel_rfl))
 f314:=Tryz.func211.trans (congrArg some (by kernel_rfl))
 t0:=Tryz.underlying0
 a0:=Tryz.isAgg0
 z0:=Tryz.sizeOf0
 v0:=Tryz.zeroValue0
 t3:=Tryz.underlying3
 a3:=Tryz.isAgg3
 z3:=Tryz.sizeOf3
 v3:=Tryz.zeroValue3
 t4:=Tryz.underlying4
 a4:=Tryz.isAgg4
 z4:=Tryz.sizeOf4
 v4:=Tryz.zeroValue4
 t5:=Tryz.underlying5
 a5:=Tryz.isAgg5
 z5:=Tryz.sizeOf5
 v5:=Tryz.zeroValue5
 t9:=Tryz.underlying9
 a9:=Tryz.isAgg9
 z9:=Tryz.sizeOf9
 v9:=Tryz.zeroValue9
 t21:=Tryz.underlying21
 a21:=Tryz.isAgg21
 z21:=Tryz.sizeOf21
 v21:=Tryz.zeroValue21
 t31:=Tryz.underlying55
 a31:=Tryz.isAgg55
 z31:=Tryz.sizeOf55
 v31:=Tryz.zeroValue55
 t46:=Tryz.underlying89
 a46:=Tryz.isAgg89
 z46:=Tryz.sizeOf89
 v46:=Tryz.zeroValue89
 t51:=Tryz.underlying226
 a51:=Tryz.isAgg226
 z51:=Tryz.sizeOf226
 v51:=Tryz.zeroValue226
 t105:=Tryz.underlying181
 a105:=Tryz.isAgg181
 z105:=Tryz.sizeOf181
 v105:=Tryz.zeroValue181
 t119:=Tryz.underlying222
 a119:=Tryz.isAgg222
 z119:=Tryz.sizeOf222
 t138:=Tryz.underlying224
 a138:=Tryz.isAgg224
 z138:=Tryz.sizeOf224
 v138:=Tryz.zeroValue224
 t139:=Tryz.underlying225
 a139:=Tryz.isAgg225
 z139:=Tryz.sizeOf225
 v139:=Tryz.zeroValue225
 t146:=Tryz.underlying227
 a146:=Tryz.isAgg227
 z146:=Tryz.sizeOf227
 v146:=Tryz.zeroValue227
 g1:=by kernel_rfl
 g3:=by kernel_rfl
 g4:=by kernel_rfl}
open Go.RowKit Go.Lib in
theorem Tryz.strings_Split (s sep:ByteArray)(m:Int)(w:World)(hs:s.size<4294967281)(hm:w.cell? ⟨0,0,none⟩=some (.int .i64 m))(h1:1≤sep.size):
  Calls Tryz.prog 28 #[.string s,.string sep] w fun e w'=>
   e=.returned (.slice (some ⟨w.heap.size,0,none⟩) (Lib.countB s sep+1) (Lib.countB s sep+1))∧w'=w.alloc (.cells ((Lib.splitB sep 0 (Lib.countB s sep) s).map Value.string).toArray 9):=Any.strings_Split Tryz.lays146 (by kernel_rfl) s sep m w hs hm h1
def Tryz.lays147_ren:Go.Shelf.Ren:=⟨fun|147=>112|221=>60|268=>109|138=>110|143=>111|195=>146|197=>147|218=>148|219=>149|260=>174|217=>175|225=>176|224=>177|267=>178|266=>210|314=>211|n=>n,fun|9=>9|3=>3|31=>55|4=>4|0=>0|105=>181|21=>21|5=>5|46=>89|119=>222|139=>225|138=>224|146=>227|51=>226|n=>n,fun|1=>0|3=>1|4=>2|n=>n⟩
def Tryz.lays147:Go.Proofs.Lays.n147 Tryz.prog Tryz.lays147_ren:={
 mixed:=by kernel_rfl
 f138:=Tryz.func110.trans (congrArg some (by kernel_rfl))
 f143:=Tryz.func111.trans (congrArg some (by kernel_rfl))
 f147:=Tryz.func112.trans (congrArg some (by kernel_rfl))
 f195:=Tryz.func146.trans (congrArg some (by kernel_rfl))
 f197:=Tryz.func147.trans (congrArg some (by kernel_rfl))
 f217:=Tryz.func175.trans (congrArg some (by kernel_rfl))
 f218:=Tryz.func148.trans (congrArg some (by kernel_rfl))
 f219:=Tryz.func149.trans (congrArg some (by kernel_rfl))
 f221:=Tryz.func60.trans (congrArg some (by kernel_rfl))
 f224:=Tryz.func177.trans (congrArg some (by kernel_rfl))
 f225:=Tryz.func176.trans (congrArg some (by kernel_rfl))
 f260:=Tryz.func174.trans (congrArg some (by kernel_rfl))
 f266:=Tryz.func210.trans (congrArg some (by kernel_rfl))
 f267:=Tryz.func178.trans (congrArg some (by kernel_rfl))
 f268:=Tryz.func109.trans (congrArg some (by kernel_rfl))
 f314:=Tryz.func211.trans (congrArg some (by kernel_rfl))
 t0:=Tryz.underlying0
 a0:=Tryz.isAgg0
 z0:=Tryz.sizeOf0
 v0:=Tryz.zeroValue0
 t3:=Tryz.underlying3
 a3:=Tryz.isAgg3
 z3:=Tryz.sizeOf3
 v3:=Tryz.zeroValue3
 t4:=Tryz.underlying4
 a4:=Tryz.isAgg4
 z4:=Tryz.sizeOf4
 v4:=Tryz.zeroValue4
 t5:=Tryz.underlying5
 a5:=Tryz.isAgg5
 z5:=Tryz.sizeOf5
 v5:=Tryz.zeroValue5
 t9:=Tryz.underlying9
 a9:=Tryz.isAgg9
 z9:=Tryz.sizeOf9
 v9:=Tryz.zeroValue9
 t21:=Tryz.underlying21
 a21:=Tryz.isAgg21
 z21:=Tryz.sizeOf21
 v21:=Tryz.zeroValue21
 t31:=Tryz.underlying55
 a31:=Tryz.isAgg55
 z31:=Tryz.sizeOf55
 v31:=Tryz.zeroValue55
 t46:=Tryz.underlying89
 a46:=Tryz.isAgg89
 z46:=Tryz.sizeOf89
 v46:=Tryz.zeroValue89
 t51:=Tryz.underlying226
 a51:=Tryz.isAgg226
 z51:=Tryz.sizeOf226
 v51:=Tryz.zeroValue226
 t105:=Tryz.underlying181
 a105:=Tryz.isAgg181
 z105:=Tryz.sizeOf181
 v105:=Tryz.zeroValue181
 t119:=Tryz.underlying222
 a119:=Tryz.isAgg222
 z119:=Tryz.sizeOf222
 t138:=Tryz.underlying224
 a138:=Tryz.isAgg224
 z138:=Tryz.sizeOf224
 v138:=Tryz.zeroValue224
 t139:=Tryz.underlying225
 a139:=Tryz.isAgg225
 z139:=Tryz.sizeOf225
 v139:=Tryz.zeroValue225
 t146:=Tryz.underlying227
 a146:=Tryz.isAgg227
 z146:=Tryz.sizeOf227
 v146:=Tryz.zeroValue227
 g1:=by kernel_rfl
 g3:=by kernel_rfl
 g4:=by kernel_rfl}
open Go.RowKit Go.Lib in
theorem Tryz.strings_SplitN (s sep:ByteArray)(n:Nat)(m:Int)(w:World)(hs:s.size<4294967281)(hm:w.cell? ⟨0,0,none⟩=some (.int .i64 m))(h1:1≤sep.size)(hn:1≤n)(hn63:n≤9223372036854775807):
  Calls Tryz.prog 112 #[.string s,.string sep,.int .i64 n] w fun e w'=>
   e=.returned (.slice (some ⟨w.heap.size,0,none⟩) (Lib.splitB sep 0 (min n (s.size+1) -1) s).length (min n (s.size+1)))∧w'=w.alloc (.cells (Lib.cellsOf (Lib.splitB sep 0 (min n (s.size+1) -1) s) (min n (s.size+1))) 9):=Any.strings_SplitN Tryz.lays147 (by kernel_rfl) s sep n m w hs hm h1 hn hn63
def Tryz.laysNm216_ren:Go.Shelf.Ren:=⟨fun|16=>65|n=>n,fun|24=>55|9=>9|4=>4|n=>n,fun|n=>n⟩
def Tryz.laysNm216:Go.Proofs.Lays2.n16 Tryz.prog Tryz.laysNm216_ren:={
 mixed:=by kernel_rfl
 f16:=Tryz.func65.trans (congrArg some (by kernel_rfl))
 t4:=Tryz.underlying4
 a4:=Tryz.isAgg4
 z4:=Tryz.sizeOf4
 v4:=Tryz.zeroValue4
 t9:=Tryz.underlying9
 a9:=Tryz.isAgg9
 z9:=Tryz.sizeOf9
 v9:=Tryz.zeroValue9
 t24:=Tryz.underlying55
 a24:=Tryz.isAgg55
 z24:=Tryz.sizeOf55
 v24:=Tryz.zeroValue55
 i9:=by kernel_rfl}
open Go.RowKit Go.Lib in
theorem Tryz.slices_Clone_string (b off n c:Nat)(zs:List ByteArray)(w:World)(hz:n≤zs.length)(hbig:n*16≤140737488355328)(hc:∀j,j<zs.length→w.cell? ⟨b,off+j,none⟩=some (.string (zs.getD j ByteArray.empty))):
  Calls Tryz.prog 65 #[.slice (some ⟨b,off,none⟩) n c] w fun e w'=>∃v',e=.returned v'∧w'.ownsRow w.heap.size 9 1 v' n ((zs.take n).map (Value.string))∧v'≠.slice none 0 0∧Below w.heap.size w w':=Any.slices_Clone_string Tryz.laysNm216 b off n c zs w hz hbig hc
open Go.RowKit Go.Lib in
theorem Tryz.slices_Clone_string_nil (n c:Nat)(w:World):
  Calls Tryz.prog 65 #[.slice none n c] w fun e w'=>e=.returned (.slice none 0 0)∧w'=w:=Any.slices_Clone_string_nil Tryz.laysNm216 n c w
open Go.RowKit Go.Lib in
theorem Tryz.slices_Clone_string_zero (a:Addr)(c:Nat)(w:World):
  Calls Tryz.prog 65 #[.slice (some a) 0 c] w fun e w'=>∃v',e=.returned v'∧w'.ownsRow w.heap.size 9 1 v' 0 []∧v'≠.slice none 0 0∧Below w.heap.size w w':=Any.slices_Clone_string_zero Tryz.laysNm216 a c w
end Go.Proofs
end
namespace Go.Abs
def pre1 (b c:UInt8)(r:aq):([b]:aq).isPrefixOf (c::r)=(b==c):=by simp[List.isPrefixOf]
def OI:Option Nat->Int
 |some k=>(k:Int)
 |none=>-1
def xP:∀(s:aq)(b:UInt8),Lib.index s [b]=OI (s.findIdx? (fun c=>c==b))
 |[],b=>rfl
 |c::r,b=>by
  unfold Lib.index;rw[pre1,List.findIdx?_cons,xP r b];by_cases h:c=b
  ·subst h;simp[OI]
  ·have h1:(b==c)=false:=by simp[Ne.symm h]
   have h2:(c==b)=false:=by simp[h]
   simp only[h1,h2,ey,aI];cases r.findIdx? (fun c=>c==b)with
   |none=>rfl
   |some k=>
    simp only[Option.map_some];rw[aj (by simp[OI])];simp[OI]
def Qa (s:aq)(b:UInt8):Lib.cut s [b]=hX s b:=by
 unfold Lib.cut hX;rw[xP];cases s.findIdx? (fun c=>c==b)with
 |none=>simp[OI]
 |some k=>simp[OI]
def HA (s p:aq):(Lib.trimPrefix s p,Lib.hasPrefix s p)=fm s p:=by
 unfold Lib.trimPrefix Lib.hasPrefix fm;split<;>rename_i h
 ·rw[h]
 ·simp only[Bool.not_eq_true]at h;rw[h]
def CX (b:aq):∀l,bc b l=Lib.join l b
 |[]=>rfl
 |[t]=>(Lib.join_one t b).symm
 |t::u::r=>by
  rw[ik _ _ _ aN,CX b (u::r),Lib.join_cons,Lib.join_cons];simp[Lib.joinTail]
def decDigits_eq (n:Nat):Lib.decDigits n=dQ n:=by
 induction n using Nat.strongRecOn with
 |_ n ih=>
  rw[Lib.decDigits];by_cases h:n<10
  ·rw[dif_pos h,pN h];rfl
  ·rw[dif_neg h,pM ae,ih (n/10) ae];rfl
def Nk {n:Int}(h:0<=n):Lib.itoa n=dQ n.toNat:=by
 unfold Lib.itoa;rw[aj ae,decDigits_eq]
def vy (b:UInt8):∀(s cur:aq),s.findIdx? (fun c=>c==b)=none->cy b.toNat s cur=[cur++s]
 |[],cur,_=>by simp[cy]
 |c::r,cur,h=>by
  rw[List.findIdx?_cons]at h;split at h
  ·cases h
  ·rename_i hc;have hr:r.findIdx? (fun c=>c==b)=none:=by
    cases hq:r.findIdx? (fun c=>c==b)with
    |none=>rfl
    |some k=>rw[hq]at h;cases h
   have hne:¬((c.toNat:Int)=(b.toNat:Int)):=fun e=>hc (by
    have:c.toNat=b.toNat:=ae;simp[jo.1 this])
   simp only[cy,aj hne];rw[vy b r (cur++[c]) hr];simp
def tp (b:UInt8):∀(s cur:aq)(k:Nat),s.findIdx? (fun c=>c==b)=some k->cy b.toNat s cur=(cur++s.take k)::cy b.toNat (s.drop (k+1)) []
 |[],cur,k,h=>by simp at h
 |c::r,cur,k,h=>by
  rw[List.findIdx?_cons]at h;split at h
  ·rename_i hc;have hk:k=0:=by simpa using h.symm
   subst hk;have hcb:c=b:=by simpa using hc
   subst hcb;simp[cy]
  ·rename_i hc;have hne:¬((c.toNat:Int)=(b.toNat:Int)):=fun e=>hc (by
    have:c.toNat=b.toNat:=ae;simp[jo.1 this])
   cases hq:r.findIdx? (fun c=>c==b)with
   |none=>rw[hq]at h;cases h
   |some j=>
    rw[hq]at h;have hk:k=j+1:=by simpa using h.symm
    subst hk;simp only[cy,aj hne];rw[tp b r (cur++[c]) j hq];simp
def AH (b:UInt8):∀(k:Nat)(s:ByteArray),Lib.countB s ⟨⟨[b]⟩⟩=k->(Lib.splitB ⟨⟨[b]⟩⟩ 0 k s).map (fun t=>t.data.toList)=ai s.data.toList b.toNat:=by
 intro k;induction k with
 |zero=>
  intro s h;rw[Lib.splitB_zero];have hi:Lib.indexB s ⟨⟨[b]⟩⟩=OI (s.data.toList.findIdx? (fun c=>c==b)):=xP _ b;cases hq:s.data.toList.findIdx? (fun c=>c==b)with
  |none=>simp[ai,vy b _ [] hq]
  |some j=>
   rw[hq]at hi;have:=Lib.countB_hit s ⟨⟨[b]⟩⟩ j (aM 1) hi;omega
 |succ k ih=>
  intro s h;have hi:Lib.indexB s ⟨⟨[b]⟩⟩=OI (s.data.toList.findIdx? (fun c=>c==b)):=xP _ b;cases hq:s.data.toList.findIdx? (fun c=>c==b)with
  |none=>
   rw[hq]at hi;have:=Lib.countB_miss s ⟨⟨[b]⟩⟩ hi;omega
  |some j=>
   rw[hq]at hi;have h1:1<=(⟨⟨[b]⟩⟩:ByteArray).size:=aM 1;have hc:=Lib.countB_hit s ⟨⟨[b]⟩⟩ j h1 hi;rw[Lib.splitB_hit _ _ _ _ j hi];simp only[List.map_cons];rw[ih _ ae];have e1:(s.extract 0 (j+0)).data.toList=s.data.toList.take j:=by
    rw[Lib.extract_data];simp
   have e2:(s.extract (j+(⟨⟨[b]⟩⟩:ByteArray).size) s.size).data.toList=s.data.toList.drop (j+1):=by
    rw[Lib.extract_data];exact eK (by rw[jn,Lib.size_eq];exact aM _)
   rw[e1,e2];simp only[ai];rw[tp b _ [] j hq];simp
end Go.Abs
section
namespace Go.Abs
open Go.Proofs
def DS (sep:aq)(k:Nat)(s:aq)(h:Lib.index s sep=-1):Lib.splitK sep 0 k s=[s]:=by
 cases k with
 |zero=>rfl
 |succ k=>unfold Lib.splitK;rw[if_pos (beq_iff_eq.2 h)]
def FI (sep:aq)(k:Nat)(s:aq)(i:Nat)(h:Lib.index s sep=i):Lib.splitK sep 0 (k+1) s=s.take i::Lib.splitK sep 0 k (s.drop (i+sep.length)):=by
 have hm:¬(Lib.index s sep==-1)=true:=fun e=>by have:=beq_iff_eq.1 e;omega
 have e:(Lib.index s sep).toNat=i:=by omega
 rw[Lib.splitK,if_neg hm,e];rfl
def nC (b:UInt8):∀(s cur:aq),bc [b] (cy b.toNat s cur)=cur++s
 |[],cur=>by simp[cy,bc]
 |c::r,cur=>by
  unfold cy;split
  ·rename_i h;have hc:c=b:=by
    have:c.toNat=b.toNat:=by omega
    exact UInt8.toNat_inj.1 this
   have hne:cy b.toNat r []≠[]:=pD r b.toNat;rw[ik _ _ _ hne,nC b r [],hc];simp
  ·rw[nC b r (cur++[c])];simp
def Hz (a:aq){l:List aq}(k:Nat)(hl:l≠[]):qj (k+2) (a::l)=a::qj (k+1) l:=by
 unfold qj;by_cases h:l.length<=k+1
 ·rw[if_pos h,if_pos (by simp only[List.length_cons];omega)]
 ·rw[if_neg h,if_neg (by simp only[List.length_cons];omega)];simp
def IU:∀(k:Nat)(s:aq),Lib.splitK [32] 0 k s=qj (k+1) (ai s 32):=by
 intro k;induction k with
 |zero=>
  intro s;have hj:bc [32] (ai s 32)=s:=by
   have:=nC 32 s [];simpa[ai]using this
  unfold qj;split
  ·rename_i h;show [s]=_;have hne:ai s 32≠[]:=pD _ _
   match hq:ai s 32,hne,h with
   |[t],_,_=>rw[hq]at hj;rw[<-hj];rfl
   |_::_::_,_,h=>simp at h
  ·simp only[Nat.zero_add,Nat.sub_self,List.take_zero,List.drop_zero,List.nil_append,hj];rfl
 |succ k ih=>
  intro s;have hi:=xP s 32;cases hq:s.findIdx? (fun c=>c==32)with
  |none=>
   rw[hq]at hi;have hs:ai s 32=[s]:=by have:=vy 32 s [] hq;simpa[ai]using this
   rw[DS _ _ _ hi,hs];rfl
  |some j=>
   rw[hq]at hi;have hs:ai s 32=s.take j::ai (s.drop (j+1)) 32:=by have:=tp 32 s [] j hq;simpa[ai]using this
   rw[FI _ _ _ j hi,hs,Hz _ _ (pD _ _),ih];rfl
def FU (n:Nat)(h:1<=n)(s:aq):Lib.splitK [32] 0 (min n (s.length+1) -1) s=lg (n:Int) s:=by
 have hl:=de s 32;rw[IU];unfold lg;rw[if_neg (by omega),Int.toNat_natCast];by_cases hn:n<=s.length+1
 ·rw[show min n (s.length+1) -1+1=n by omega]
 ·rw[show min n (s.length+1) -1+1=s.length+1 by omega];unfold qj;rw[if_pos hl,if_pos (by omega)]
def Up (c d:UInt8)(r:aq):([124,124]:aq).isPrefixOf (c::d::r)=(decide (c=124)&&decide (d=124)):=by
 have e:∀x:UInt8,((124:UInt8)==x)=decide (x=124):=fun x=>by
  by_cases h:x=124
  ·subst h;rfl
  ·rw[decide_eq_false h];exact beq_eq_false_iff_ne.2 (Ne.symm h)
 simp only[List.isPrefixOf,Bool.and_true,e]
def AJ:∀(s cur:aq),Lib.index s [124,124]=-1->aL s cur=[cur++s]
 |[],cur,_=>by simp[aL]
 |[c],cur,_=>rfl
 |c::d::r,cur,h=>by
  unfold Lib.index at h;rw[Up]at h;by_cases h2:c=124/\d=124
  ·simp[h2.1,h2.2]at h
  ·have h3:(decide (c=124)&&decide (d=124))=false:=by rw[<-Bool.decide_and];exact decide_eq_false h2
   rw[h3,if_neg (by simp)]at h;have h4:Lib.index (d::r) [124,124]=-1:=by
    have:=Lib.index_ge (d::r) [124,124];split at h
    ·rename_i h5;exact beq_iff_eq.1 h5
    ·omega
   rw[aL,if_neg h2,AJ (d::r) _ h4];simp
def AI:∀(s cur:aq)(i:Nat),Lib.index s [124,124]=i->aL s cur=(cur++s.take i)::aL (s.drop (i+2)) []
 |[],cur,i,h=>by simp[Lib.index]at h
 |[c],cur,i,h=>by simp[Lib.index,List.isPrefixOf]at h
 |c::d::r,cur,i,h=>by
  unfold Lib.index at h;rw[Up]at h;by_cases h2:c=124/\d=124
  ·rw[h2.1,h2.2]at h;have hi:i=0:=by simp at h;omega
   subst hi;rw[aL,if_pos h2];simp
  ·have h3:(decide (c=124)&&decide (d=124))=false:=by rw[<-Bool.decide_and];exact decide_eq_false h2
   rw[h3,if_neg (by simp)]at h;split at h
   ·omega
   ·obtain⟨j,rfl⟩:∃j,i=j+1:=⟨i-1,by
     have:=Lib.index_ge (d::r) [124,124];rename_i h5;have:Lib.index (d::r) [124,124]≠-1:=fun e=>h5 (beq_iff_eq.2 e)
     omega⟩
    rw[aL,if_neg h2,AI (d::r) _ j (by omega)];simp
def IQ:∀(k:Nat)(s:ByteArray),Lib.countB s ⟨⟨[124,124]⟩⟩=k->(Lib.splitB ⟨⟨[124,124]⟩⟩ 0 k s).map (fun t=>t.data.toList)=aL s.data.toList []:=by
 intro k;induction k with
 |zero=>
  intro s h;rcases Lib.indexB_cases s ⟨⟨[124,124]⟩⟩with hi|⟨i,hi,_⟩
  ·rw[Lib.splitB_zero];rw[AJ _ _ (show Lib.index s.data.toList [124,124]=-1 from hi)];rfl
  ·have:=Lib.countB_hit s ⟨⟨[124,124]⟩⟩ i (by decide) hi;omega
 |succ k ih=>
  intro s h;rcases Lib.indexB_cases s ⟨⟨[124,124]⟩⟩with hi|⟨i,hi,_⟩
  ·rw[Lib.countB_miss _ _ hi]at h;omega
  ·have hc:=Lib.countB_hit s ⟨⟨[124,124]⟩⟩ i (by decide) hi;rw[Lib.splitB_hit _ _ _ _ i hi,List.map_cons,ih _ (by omega),AI _ _ i (show Lib.index s.data.toList [124,124]=i from hi),Lib.extract_from_zero,Lib.extract_to_end];rfl
def AQ {p:UInt8->Bool}:∀(l:aq),∀x∈l.takeWhile p,p x=true
 |[],x,h=>by cases h
 |a::r,x,h=>by
  rw[List.takeWhile_cons]at h;split at h
  ·rename_i ha;rcases List.mem_cons.1 h with rfl|h
   ·exact ha
   ·exact AQ r x h
  ·cases h
def uI {p:UInt8->Bool}:∀(l:aq),(∀x∈l,p x=true)->l.dropWhile p=[]
 |[],_=>rfl
 |a::r,h=>by
  rw[List.dropWhile_cons,if_pos (h a (.head _))];exact uI r fun x hx=>h x (.tail _ hx)
def xk:∀s,kJ s=s.dropWhile (· ==32)
 |[]=>rfl
 |c::r=>by
  unfold kJ;by_cases h:c=32
  ·rw[if_pos h,xk r];simp[h]
  ·rw[if_neg h,List.dropWhile_cons,if_neg (by simpa using h)]
def JK (s:aq):Lib.trimB s 32=ee s:=by
 unfold Lib.trimB Lib.trimLeftB Lib.trimRightB ee;rw[xk,xk];generalize hp:(fun c:UInt8=>c==32)=p;have hs:s=s.takeWhile p++s.dropWhile p:=(List.takeWhile_append_dropWhile).symm;generalize ha:s.takeWhile p=a at hs;generalize hm:s.dropWhile p=m at hs;have hall:∀x∈a,p x=true:=by rw[<-ha];exact AQ s
 subst hs;rw[List.reverse_append,List.dropWhile_append];cases m with
 |nil=>
  simp only[List.reverse_nil,List.dropWhile_nil,List.isEmpty_nil,if_true];rw[uI a.reverse (fun x hx=>hall x (List.mem_reverse.1 hx))];rfl
 |cons c r=>
  have hc:p c=false:=by
   have:=List.head_dropWhile_not p (l:=a++c::r) (by rw[hm];simp);simpa[hm]using this
  have hne:((c::r).reverse.dropWhile p)≠[]:=by
   rw[List.reverse_cons,List.dropWhile_append];split
   ·simp[hc]
   ·simp
  rw[if_neg (by simpa using hne),List.reverse_append,List.reverse_reverse,List.dropWhile_append,uI _ hall];simp only[List.isEmpty_nil,if_true];rw[List.reverse_cons,List.dropWhile_append];split
  ·simp[hc]
  ·simp[hc]
end Go.Abs
namespace Go.Proofs
open Go.Shelf Go.RowKit Go.Lib
set_option maxHeartbeats 1000000 in
theorem FJ {P:Program}{J:Ren}(L:Lays.n147 P J)(hi9:(P.info? (J.t 9)).map (fun i=>(i.zero,i.size,i.bytes))=some (some (.string ByteArray.empty),1,16))(s sep:ByteArray)(m:Int)(w:World)
  (hs:s.size<4294967281) (hm:w.cell? ⟨(J.g 1),0,none⟩=some (.int .i64 m)) (h1:1<=sep.size):
  Calls P (J.f 147) #[.string s,.string sep,.int .i64 (-1)] w fun e w'=>
   e=.returned (.slice (some ⟨w.heap.size,0,none⟩) (Lib.splitB sep 0 (Lib.countB s sep) s).length (Lib.countB s sep+1))/\w'=w.alloc (.cells (Lib.cellsOf (Lib.splitB sep 0 (Lib.countB s sep) s) (Lib.countB s sep+1)) (J.t 9)):=by
 have hle:=Lib.countB_le sep h1 s.size s (Nat.le_refl _);have c:=Any.strings_genSplit {L with} hi9 s sep 0 (-1) (Lib.countB s sep+1) m w hs hm h1 (Nat.zero_le _) (by decide) (by decide) (by rw[if_pos (by decide)];omega);rw[Nat.add_sub_cancel]at c;have t3:=L.t3;have t9:=L.t9;have t31:=L.t31;have a3:=L.a3;have a9:=L.a9;have a31:=L.a31;have z3:=L.z3;have v3:=L.v3;have z9:=L.z9;have v9:=L.v9;have z31:=L.z31;have v31:=L.v31;have e221:∀args w,(callFunc (J.f 221) args).run P w=.ok (.enter (J.f 221) args) w:=enters_of L.f221 (by kernel_rfl) rfl
 go_enter L.f147,Body.n147_ntmps J
 go_wp2_with (go_at_fn (J.f 221);refine c.mono ?_;rintro e w' ⟨rfl,hw⟩;rw[hw])
 go_ret
 exact⟨rfl,rfl⟩
end Go.Proofs
end
namespace Go.Abs
section
open Go.Proofs Go.Shelf Go.RowKit
section
variable [dy] {P:Program}
def m9 (U:TypeId)(w:World)(v:Value)(s:List UInt8):Prop:=
 (v=.slice none 0 0/\s=[])\/∃g t c,v=.slice (some ⟨g,0,none⟩) s.length t/\w.heap[g]? =some (.cells c U (0,0))/\c.size=t/\t<=maxLen/\s.length<=t/\∀i,i<s.length->c.getD i undef=.int .u8 (s.getD i 0).toNat
def fL (s:List UInt8):List Value:=s.map fun b=>Value.int .u8 b.toNat
def iY (s:List UInt8):(fL s).length=s.length:=by simp[fL]
def sN (s:List UInt8)(i:Nat)(h:i<s.length):(fL s).getD i undef=.int .u8 (s.getD i 0).toNat:=by simp[fL,List.getD,h]
def xt (s:List UInt8):∀u∈fL s,u.oneCell'=true:=by
 intro u hu;obtain⟨b,_,rfl⟩:=fQ.1 hu;rfl
def GJ {x y:List UInt8}{zs:Array Value}(i:Nat)(hi:i<(x++y).length):(((fL x++fL y).toArray++zs).getD i undef)=.int .u8 ((x++y).getD i 0).toNat:=by
 rw[<-cl];simp only[Array.toList_append];rw[dd,av (by simpa[fL]using hi)];have:fL x++fL y=fL (x++y):=by simp[fL]
 rw[this,sN _ _ hi]
def MF {U t u ty:TypeId}{i:TypeInfo}{w:World}(ht:P.underlying t=some (.slice U))(hi:P.info? U=some i)(hz:i.zero=some (.int .u8 0))(hs:i.size=1)(hby:i.bytes=1){v xv:Value}{s s2:List UInt8}
  (hv:m9 U w v s) (h0:s2≠[]) (hsrc:Go.Src P 1 u xv s2.length (fL s2) w) (hle:s.length+s2.length<=1099511627776):
  ∃g' t' w',(Builtin.append_ #[t,u] ty #[v,xv]).run P w=.ok (.slice (some ⟨g',0,none⟩) (s++s2).length t') w'/\m9 U w' (.slice (some ⟨g',0,none⟩) (s++s2).length t') (s++s2)/\w.grownBy w' v.ownBlock/\(v.ownBlock=some g'\/w.heap.size<=g')/\g'<w'.heap.size:=by
 have hp:0<s2.length:=List.length_pos_iff.2 h0;have hm:maxLen=9223372036854775807:=rfl;rw[<-hs]at hsrc;rcases hv with⟨rfl,rfl⟩|⟨g,cap,c,rfl,hg,hcs,hcm,hle2,hc⟩
 ·have hr:=run_append_grow_src (P:=P) w t u ty U i _ ht hi hz none 0 0 [] (by simp[Builtin.firstCells,loadCells,loadCellsFrom]) xv s2.length (fL s2) hsrc ae (by simp only[az]at hle;omega) (by rw[hby];exact growslice_fits ae (by simp only[az]at hle;omega));have hge:=grownCap_ge w (0+s2.length) 0 U;have hcm2:grownCap w (0+s2.length) 0 U<=maxLen:=grownCap_le_maxLen w (0+s2.length) 0 U (by simp only[az]at hle;omega);simp only[bK,eY]at hr hge hcm2;refine⟨w.heap.size,_,_,hr,.inr ⟨w.heap.size,_,_,rfl,eD w.drew _, ?_,hcm2,hge,fun j hj=>?_⟩,⟨rfl,rfl,rfl, ?_,fun k hk _=>mj w.drew _ k hk⟩,.inr (aM _), ?_⟩
  ·have hz1:(Value.int IntKind.u8 0).cells.size=1:=rfl;simp only[eY,Array.size_append,List.size_toArray,iY,size_zeroCells,hz1];omega
  ·exact GJ (x:=[]) j hj
  ·show w.heap.size<=(w.drew.heap.push _).size;rw[Array.size_push];exact Nat.le_succ _
  ·show w.heap.size<(w.drew.heap.push _).size;rw[Array.size_push];exact Nat.lt_succ_self _
 ·by_cases hroom:s.length+s2.length<=cap
  ·have hr:=run_append_room_src (P:=P) w t u ty U i ht hi g 0 s.length cap xv s2.length (fL s2) hsrc hroom (fun j hj=>by
    rw[hs,cell_of_heap hg (by rw[iY]at hj;omega)];rfl) (fun j hj=>by simp[World.frozen?,hg])
   obtain⟨c',s1,s3,s4⟩:=mr g (fL s2) (0+s.length*i.size) w c U (0,0) hg (by rw[iY,hs];omega);obtain⟨f1,f2,f3,f4⟩:=k8 g (fL s2) (0+s.length*i.size) w;have hlt:g<w.heap.size:=by
    rcases fR g w.heap.size with h|h
    ·exact h
    ·simp[Array.getElem?_eq_none h]at hg
   refine⟨g,cap,_,by simpa using hr,.inr ⟨g,cap,c',aN,s1,ae,hcm,by rw[bE];exact hroom,fun j hj=>?_⟩,⟨f1,f2,f3,ae,fun k _ hk=>k9 g _ _ _ k (fun e=>hk (by simp[Value.ownBlock,e]))⟩,.inl rfl,ae⟩;rw[s4,iY,hs];rw[bE]at hj;by_cases hj2:j<s.length
   ·rw[aj ae,hc j hj2,dd,av hj2]
   ·rw[av ae,sN _ _ ae,dd,aj hj2];congr 4;omega
  ·have hold:(Builtin.firstCells i.size s.length (.slice (some ⟨g,0,none⟩) s.length cap)).run P w.drew=.ok (fL s).toArray w.drew:=by
    refine run_firstCells_some w.drew i.size s.length _ s.length cap _ (by simp[iY,hs]) (fun j u' hj=>?_);have hj2:j<s.length:=by
     have:=(List.getElem?_eq_some_iff.1 hj).1;rwa [iY]at this
    have hg':w.drew.heap[g]? =some (.cells c U (0,0)):=hg;rw[Addr.wh,cell_of_heap hg' ae,bK,hc j hj2,<-sN s j hj2];simp[List.getD,hj]
   have hr:=run_append_grow_src (P:=P) w t u ty U i _ ht hi hz (some ⟨g,0,none⟩) s.length cap (fL s) hold xv s2.length (fL s2) hsrc ae ae (by rw[hby];exact growslice_fits ae ae);have hge:=grownCap_ge w (s.length+s2.length) cap U;have hcm2:grownCap w (s.length+s2.length) cap U<=maxLen:=grownCap_le_maxLen w (s.length+s2.length) cap U ae;refine⟨w.heap.size,_,_,by simpa using hr,.inr ⟨w.heap.size,_,_,aN,eD w.drew _, ?_,hcm2,by simpa using hge,fun j hj=>?_⟩,⟨rfl,rfl,rfl, ?_,fun k hk _=>mj w.drew _ k hk⟩,.inr (aM _), ?_⟩
   ·have hz1:(Value.int IntKind.u8 0).cells.size=1:=rfl;simp only[Array.size_append,List.size_toArray,bE,iY,size_zeroCells,hz1];omega
   ·exact GJ j hj
   ·show w.heap.size<=(w.drew.heap.push _).size;rw[Array.size_push];exact Nat.le_succ _
   ·show w.heap.size<(w.drew.heap.push _).size;rw[Array.size_push];exact Nat.lt_succ_self _
def zb {ops:Array Oper}{rest:List Oper}{o:Oper}{a:Act}{Q:Exit->Act->World->Prop}(hgd:o.guard=none)(sl x:Operand)(t u:TypeId)
  (ho:o.op=.call {callee:=.builtin .append,args:=#[sl,x],argTypes:=#[t,u]}) {U:TypeId} {i:TypeInfo} {w:World}
  (ht:P.underlying t=some (.slice U)) (hi:P.info? U=some i) (hz:i.zero=some (.int .u8 0)) (hsz:i.size=1) (hby:i.bytes=1) {v xv:Value} {s s2:List UInt8} (hs:a.eval sl=v) (hx:a.eval x=xv)
  (hv:m9 U w v s) (h0:s2≠[]) (hsrc:Go.Src P 1 u xv s2.length (fL s2) w) (hle:s.length+s2.length<=1099511627776)
  (h:∀g' t' w',m9 U w' (.slice (some ⟨g',0,none⟩) (s++s2).length t') (s++s2)->w.grownBy w' v.ownBlock->(v.ownBlock=some g'\/w.heap.size<=g')->g'<w'.heap.size->wpList P ops Q rest (a.put o.dst (.slice (some ⟨g',0,none⟩) (s++s2).length t')) w'):wpList P ops Q (o::rest) a w:=by
 refine wpList_plain hgd fun K hK=>?_
 obtain⟨g',t',w',hr,h2,h3,h4,h5⟩:=MF (P:=P) (ty:=o.type) ht hi hz hsz hby hv h0 hsrc hle;unfold Oper.wp execOp;simp only[ho,resolve,invoke,builtin,Sem.run_bind,Sem.run_pure,Result.andThen_ok,List.map_toArray,List.map_cons,List.map_nil,hs,hx,hr];exact hK _ _ (h g' t' w' h2 h3 h4 h5)
def EE (w:World)(g n:Nat):(w.drew.freeze ⟨g,0,none⟩ n).os=w.os/\(w.drew.freeze ⟨g,0,none⟩ n).tape=w.tape/\(w.drew.freeze ⟨g,0,none⟩ n).output=w.output/\(w.drew.freeze ⟨g,0,none⟩ n).heap.size=w.heap.size/\∀k,k≠g->(w.drew.freeze ⟨g,0,none⟩ n).heap[k]? =w.heap[k]? :=by
 unfold World.freeze;split
 ·exact⟨rfl,rfl,rfl,rfl,fun _ _=>rfl⟩
 ·refine⟨rfl,rfl,rfl,aN,fun k hk=>?_⟩;simp only[Array.getElem?_modify];rw[aj (fun e=>hk e.symm)];rfl
def sg (b:Nat)(u:Bool)(v:Value)(T:TypeId):Obj:=.cells #[.pointer (if u=true then some ⟨b,0,none⟩else none),v] T (0,0)
variable {J:Ren}
def zU (L:Lays.n240 P J)(X:Builder.X72 P J){b:Nat}{u:Bool}{v:Value}{w:World}(h:w.heap[b]? =some (sg b u v (J.t 72))):
  Calls P (J.f 240) #[.pointer (some ⟨b,0,none⟩)] w fun e w'=>e=.returned (.tuple #[])/\w'.heap[b]? =some (sg b true v (J.t 72))/\w.grownBy w' (some b):=by
 unfold sg at h;cases u with
 |true=>
  refine(Any.Builder_copyCheck_used L X b w (by rw[Lib.cell_of_heap h];rfl)).mono ?_;rintro e w' ⟨rfl,rfl⟩;exact⟨rfl,h,⟨rfl,rfl,rfl,aM _,fun _ _ _=>rfl⟩⟩
 |false=>
  refine(Any.Builder_copyCheck_fresh L X b w (by rw[Lib.cell_of_heap h];rfl) (by simp[World.shape?,h]) (Lib.frozen_of_heap h 0)).mono ?_;rintro e w' ⟨rfl,rfl⟩;exact⟨rfl,by simp[World.setCell,Array.getElem?_modify,h,sg],⟨rfl,rfl,rfl,by simp[World.setCell],fun k _ hk=>Below.heap_setCell _ _ _ _ (fun e=>hk (by simp[e]))⟩⟩
def Cm (T U:TypeId)(b:Nat)(g:Option Nat)(s:List UInt8)(w w':World):Prop:=
 ∃g' t',w'.heap[b]? =some (sg b true (.slice (some ⟨g',0,none⟩) s.length t') T)/\m9 U w' (.slice (some ⟨g',0,none⟩) s.length t') s/\(g=some g'\/w.heap.size<=g')/\g'<w'.heap.size/\g'≠b/\
  w'.os=w.os/\w'.tape=w.tape/\w'.output=w.output/\w.heap.size<=w'.heap.size/\∀k,k<w.heap.size->k≠b->some k≠g->w'.heap[k]? =w.heap[k]?
def m9.pU {U:TypeId}{w w':World}{v:Value}{s:List UInt8}(h:m9 U w v s)(hk:∀g,v.ownBlock=some g->w'.heap[g]? =w.heap[g]?):m9 U w' v s:=by
 rcases h with h|⟨g,t,c,rfl,hg,r⟩
 ·exact .inl h
 ·exact .inr ⟨g,t,c,rfl,(hk g rfl).trans hg,r⟩
def m9.lt {U:TypeId}{w:World}{v:Value}{s:List UInt8}(h:m9 U w v s){g:Nat}(hg:v.ownBlock=some g):g<w.heap.size/\∃c,w.heap[g]? =some (.cells c U (0,0)):=by
 rcases h with⟨rfl,_⟩|⟨g',t,c,rfl,hg',r⟩
 ·cases hg
 ·simp only[Value.ownBlock,a7]at hg;subst hg;refine⟨?_,c,hg'⟩;rcases fR g' w.heap.size with h|h
  ·exact h
  ·simp[Array.getElem?_eq_none h]at hg'
set_option maxHeartbeats 2000000 in
set_option maxRecDepth 100000 in
theorem wj (L:Lays.n166 P J)(X:Builder.Extra P J){b:Nat}{u:Bool}{v:Value}{s s2:List UInt8}{w:World}(h:w.heap[b]? =some (sg b u v (J.t 72)))(hv:m9 (J.t 5) w v s)(h0:s2≠[])(hm2:s2.length<=maxLen)(hle:s.length+s2.length<=1099511627776):
  Calls P (J.f 166) #[.pointer (some ⟨b,0,none⟩),.string ⟨⟨s2⟩⟩] w fun e w'=>(∃r,e=.returned r)/\Cm (J.t 72) (J.t 5) b v.ownBlock (s++s2) w w':=by
 obtain⟨i0,hi,hz0,hz1,hz2⟩:=info_parts X.infoByte;have mixed:=L.mixed;have t72:=L.t72;have a72:=L.a72;have z72:=L.z72;have v72:=L.v72;have u72:=run_underlying L.t72;have t70:=L.t70;have a70:=L.a70;have z70:=L.z70;have v70:=L.v70;have u70:=run_underlying L.t70;have t37:=L.t37;have a37:=L.a37;have z37:=L.z37;have v37:=L.v37;have u37:=run_underlying L.t37;have t3:=L.t3;have a3:=L.a3;have z3:=L.z3;have v3:=L.v3;have u3:=run_underlying L.t3;have t9:=L.t9;have a9:=L.a9;have z9:=L.z9;have v9:=L.v9;have u9:=run_underlying L.t9;have t4:=L.t4;have a4:=L.a4;have z4:=L.z4;have v4:=L.v4;have u4:=run_underlying L.t4;have t164:=L.t164;have a164:=L.a164;have z164:=L.z164;have v164:=L.v164;have u164:=run_underlying L.t164;have t5:=X.t5;have a5:=X.a5;have z5:=X.z5;have v5:=X.v5;have u5:=run_underlying X.t5;have e240:∀args w,(callFunc (J.f 240) args).run P w=.ok (.enter (J.f 240) args) w:=enters_of L.f240 pH rfl
 have hne:∀g,v.ownBlock=some g->g≠b:=by
  rintro g hg rfl;obtain⟨_,c,hc⟩:=hv.lt hg;rw[h]at hc;simp only[sg,a7,Obj.cells.injEq]at hc;exact X.neB5 hc.2.1
 go_enter L.f166,Body.n166_ntmps J
 go_wp2_with (go_at_fn (J.f 240);refine(zU {L with} X.toX72 h).mono ?_)
 rintro e w1 ⟨rfl,h1,hb1⟩;have hv1:m9 (J.t 5) w1 v s:=hv.pU fun g hg=>hb1.block g (hv.lt hg).1 (fun e=>hne g hg (bC e))
 have c0:w1.cell? ⟨b,0,none⟩=some (.pointer (some ⟨b,0,none⟩)):=by rw[Lib.cell_of_heap h1];rfl
 have c1:w1.cell? ⟨b,1,none⟩=some v:=by rw[Lib.cell_of_heap h1];rfl
 have hsrc:Go.Src P 1 (J.t 9) (.string ⟨⟨s2⟩⟩) s2.length (fL s2) w1:=⟨.inr L.t9,fun _=>rfl,firstCells_string _ _,firstCells_string _ _,by rw[iY,Nat.mul_one],xt s2⟩;have key:=fun ops rest o a Q hgd ho hs hx h=>zb (P:=P) (ops:=ops) (rest:=rest) (o:=o) (a:=a) (Q:=Q) hgd (.tmp 12) (.tmp 13) (J.t 37) (J.t 9) ho L.t37 hi hz0 hz1 hz2 (v:=v) (xv:=.string ⟨⟨s2⟩⟩) hs hx hv1 h0 hsrc hle h
 go_wp2_with (at_builtin;refine key _ _ _ _ _ rfl rfl rfl rfl ?_)
 clear key;intro g' t' w2 hown' hgrow hg' hlt';have hlt:b<w1.heap.size:=by
  rcases fR b w1.heap.size with h'|h'
  ·exact h'
  ·simp[Array.getElem?_eq_none h']at h1
 have iB:w2.heap[b]? =some (sg b true v (J.t 72)):=by
  rw[hgrow.block b hlt (fun e=>hne b e.symm rfl)];exact h1
 have hgb:g'≠b:=by
  rcases hg' with h'|h'
  ·exact hne g' h'
  ·omega
 have d0:w2.cell? ⟨b,0,none⟩=some (.pointer (some ⟨b,0,none⟩)):=by rw[Lib.cell_of_heap iB];rfl
 have d1:w2.cell? ⟨b,1,none⟩=some v:=by rw[Lib.cell_of_heap iB];rfl
 have f1:w2.frozen? ⟨b,1,none⟩=false:=Lib.frozen_of_heap iB 1
 go_wp2
 go_ret2
 have hsz:=hb1.size;refine⟨⟨_,rfl⟩, ?_⟩;unfold Cm;simp only[bE]at hown'⊢;refine⟨g',t',by simp[World.setCell,Array.getElem?_modify,iB,sg],hown'.pU fun g hg=>Below.heap_setCell w2 ⟨b,1,none⟩ _ g (fun e=>hgb ((bC hg).trans e)),hg'.imp id (fun h=>ae),by simpa[World.setCell]using hlt',hgb,hgrow.os.trans hb1.os,hgrow.tape.trans hb1.tape,hgrow.output.trans hb1.output,by have:=hgrow.size;simp[World.setCell];omega,fun k hk h1' h2'=>?_⟩;rw[Below.heap_setCell w2 ⟨b,1,none⟩ _ k h1',hgrow.block k ae h2',hb1.block k hk (fun e=>h1' (bC e))]
set_option maxHeartbeats 2000000 in
set_option maxRecDepth 100000 in
theorem zl (L:Lays.n167 P J)(X:Builder.Extra P J){b:Nat}{u:Bool}{v:Value}{s:List UInt8}{c:UInt8}{w:World}(h:w.heap[b]? =some (sg b u v (J.t 72)))(hv:m9 (J.t 5) w v s)(hle:s.length+1<=1099511627776):
  Calls P (J.f 167) #[.pointer (some ⟨b,0,none⟩),.int .u8 c.toNat] w fun e w'=>(∃r,e=.returned r)/\Cm (J.t 72) (J.t 5) b v.ownBlock (s++[c]) w w':=by
 obtain⟨i0,hi,hz0,hz1,hz2⟩:=info_parts X.infoByte;have mixed:=L.mixed;have t72:=L.t72;have a72:=L.a72;have z72:=L.z72;have v72:=L.v72;have u72:=run_underlying L.t72;have t70:=L.t70;have a70:=L.a70;have z70:=L.z70;have v70:=L.v70;have u70:=run_underlying L.t70;have t37:=L.t37;have a37:=L.a37;have z37:=L.z37;have v37:=L.v37;have u37:=run_underlying L.t37;have t9:=L.t9;have a9:=L.a9;have z9:=L.z9;have v9:=L.v9;have u9:=run_underlying L.t9;have t4:=L.t4;have a4:=L.a4;have z4:=L.z4;have v4:=L.v4;have u4:=run_underlying L.t4;have t164:=L.t164;have a164:=L.a164;have z164:=L.z164;have v164:=L.v164;have u164:=run_underlying L.t164;have t5:=L.t5;have a5:=L.a5;have z5:=L.z5;have v5:=L.v5;have u5:=run_underlying L.t5;have e240:∀args w,(callFunc (J.f 240) args).run P w=.ok (.enter (J.f 240) args) w:=enters_of L.f240 pH rfl
 have hne:∀g,v.ownBlock=some g->g≠b:=by
  rintro g hg rfl;obtain⟨_,c,hc⟩:=hv.lt hg;rw[h]at hc;simp only[sg,a7,Obj.cells.injEq]at hc;exact X.neB5 hc.2.1
 go_enter L.f167,Body.n167_ntmps J
 go_wp2_with (go_at_fn (J.f 240);refine(zU {L with} X.toX72 h).mono ?_)
 rintro e w1 ⟨rfl,h1,hb1⟩;have hv1:m9 (J.t 5) w1 v s:=hv.pU fun g hg=>hb1.block g (hv.lt hg).1 (fun e=>hne g hg (bC e))
 have c0:w1.cell? ⟨b,0,none⟩=some (.pointer (some ⟨b,0,none⟩)):=by rw[Lib.cell_of_heap h1];rfl
 have c1:w1.cell? ⟨b,1,none⟩=some v:=by rw[Lib.cell_of_heap h1];rfl
 have key:=fun ob ops rest o a Q sl x hgd ho hs hx hv2 hsrc h=>zb (P:=P) (w:=w1.alloc ob) (ops:=ops) (rest:=rest) (o:=o) (a:=a) (Q:=Q) hgd sl x (J.t 37) (J.t 37) ho L.t37 hi hz0 hz1 hz2 (v:=v) (xv:=.slice (some ⟨w1.heap.size,0,none⟩) 1 1) (s:=s) (s2:=[c]) hs hx hv2 (List.cons_ne_nil _ _) hsrc hle h
 go_wp2_with (at_builtin;refine key _ _ _ _ _ _ _ _ rfl rfl rfl rfl (hv1.pU fun g hg=>Lib.alloc_old w1 _ g (hv1.lt hg).1) ?hs ?_)
 case hs=>
  refine Go.Src.ofSlice _ L.t37 ⟨w1.heap.size,0,none⟩ 1 1 _ rfl (fun j u hj=>?_) (xt [c])
  match j,hj with
  |0,hj=>simp[fL]at hj;subst hj;simp[Addr.add]
 clear key;intro g' t' w2 hown' hgrow hg' hlt';have hlt:b<w1.heap.size:=by
  rcases fR b w1.heap.size with h'|h'
  ·exact h'
  ·simp[Array.getElem?_eq_none h']at h1
 have iB:w2.heap[b]? =some (sg b true v (J.t 72)):=by
  rw[hgrow.block b cX (fun e=>hne b e.symm rfl),Lib.alloc_old w1 _ b hlt];exact h1
 have hgb:g'≠b:=by
  rcases hg' with h'|h'
  ·exact hne g' h'
  ·omega
 have d0:w2.cell? ⟨b,0,none⟩=some (.pointer (some ⟨b,0,none⟩)):=by rw[Lib.cell_of_heap iB];rfl
 have d1:w2.cell? ⟨b,1,none⟩=some v:=by rw[Lib.cell_of_heap iB];rfl
 have f1:w2.frozen? ⟨b,1,none⟩=false:=Lib.frozen_of_heap iB 1
 go_wp2
 go_ret
 have hsz:=hb1.size;refine⟨⟨_,rfl⟩, ?_⟩;unfold Cm;simp only[bE]at hown'⊢;refine⟨g',t',by simp[World.setCell,Array.getElem?_modify,iB,sg],hown'.pU fun g hg=>Below.heap_setCell w2 ⟨b,1,none⟩ _ g (fun e=>hgb ((bC hg).trans e)),hg'.imp id (fun h=>ae),by simpa[World.setCell]using hlt',hgb,hgrow.os.trans hb1.os,hgrow.tape.trans hb1.tape,hgrow.output.trans hb1.output,by have:=hgrow.size;simp at this;simp[World.setCell];omega,fun k hk h1' h2'=>?_⟩;rw[Below.heap_setCell w2 ⟨b,1,none⟩ _ k h1',hgrow.block k cX h2',Lib.alloc_old w1 _ k ae,hb1.block k hk (fun e=>h1' (bC e))]
set_option maxHeartbeats 1000000 in
set_option maxRecDepth 100000 in
theorem Ev (L:Lays.n169 P J)(X:Builder.Extra P J){b g t:Nat}{u:Bool}{s:List UInt8}{w:World}(h:w.heap[b]? =some (sg b u (.slice (some ⟨g,0,none⟩) s.length t) (J.t 72)))(hv:m9 (J.t 5) w (.slice (some ⟨g,0,none⟩) s.length t) s)(h0:s≠[]):
  Calls P (J.f 169) #[.pointer (some ⟨b,0,none⟩)] w fun e w'=>e=.returned (.string ⟨⟨s⟩⟩)/\w'.os=w.os/\w'.tape=w.tape/\w'.output=w.output/\w'.heap.size=w.heap.size/\∀k,k≠g->w'.heap[k]? =w.heap[k]? :=by
 have hl0:s.length≠0:=by simpa using h0
 obtain⟨c,hg,hcs,hcm,hle,hc⟩:∃c,w.heap[g]? =some (.cells c (J.t 5) (0,0))/\c.size=t/\t<=maxLen/\s.length<=t/\∀i,i<s.length->c.getD i undef=.int .u8 (s.getD i 0).toNat:=by
  rcases hv with⟨h1,_⟩|⟨g',t',c,h1,r⟩
  ·cases h1
  ·simp only[Value.slice.injEq,a7,Addr.mk.injEq]at h1;obtain⟨⟨rfl,_⟩,_,rfl⟩:=h1;exact⟨c,r⟩
 have c1:w.drew.cell? ⟨b,1,none⟩=some (.slice (some ⟨g,0,none⟩) s.length t):=by
  have:w.drew.heap[b]? =some (sg b u (.slice (some ⟨g,0,none⟩) s.length t) (J.t 72)):=h;rw[Lib.cell_of_heap this];rfl
 have hSD:(Builtin.unsafeSliceData_ #[(J.t 37)] (J.t 127) #[.slice (some ⟨g,0,none⟩) s.length t]).run P w.drew=.ok (.pointer (some ⟨g,0,none⟩)) w.drew:=
  Lib.run_unsafeSliceData_row _ _ _ _ _ _ ae
 have hUS:(Builtin.unsafeString_ #[(J.t 127),(J.t 3)] (J.t 9) #[.pointer (some ⟨g,0,none⟩),.int .i64 s.length]).run P w.drew=.ok (.string ⟨s.toArray⟩) (w.drew.freeze ⟨g,0,none⟩ s.length):=by
  refine Lib.run_unsafeString_row w.drew (J.t 127) (J.t 3) (J.t 9) (J.t 5) L.t127 X.cellsByte g c.size (by have hg':w.drew.heap[g]? =some (.cells c (J.t 5) (0,0)):=hg;simp[World.shape?,hg']) s h0 ae (by unfold maxLen at hcm;omega) ?_;intro j x hx;have hj:=(List.getElem?_eq_some_iff.1 hx).1;have hg':w.drew.heap[g]? =some (.cells c (J.t 5) (0,0)):=hg;rw[Addr.wh,cell_of_heap hg' ae,bK,hc j hj];simp[List.getD,hx]
 have mixed:=L.mixed;have t72:=L.t72;have a72:=L.a72;have z72:=L.z72;have v72:=L.v72;have u72:=run_underlying L.t72;have t70:=L.t70;have a70:=L.a70;have z70:=L.z70;have v70:=L.v70;have u70:=run_underlying L.t70;have t37:=L.t37;have a37:=L.a37;have z37:=L.z37;have v37:=L.v37;have u37:=run_underlying L.t37;have t127:=L.t127;have a127:=L.a127;have z127:=L.z127;have v127:=L.v127;have u127:=run_underlying L.t127;have t3:=L.t3;have a3:=L.a3;have z3:=L.z3;have v3:=L.v3;have u3:=run_underlying L.t3;have t9:=L.t9;have a9:=L.a9;have z9:=L.z9;have v9:=L.v9;have u9:=run_underlying L.t9;have t5:=X.t5;have a5:=X.a5;have z5:=X.z5;have v5:=X.v5;have u5:=run_underlying X.t5
 go_enter L.f169,Body.n169_ntmps J
 go_wp2
 go_region_o
 all_goals (go_wp2;go_ret;exact⟨rfl,EE _ _ _⟩)
end
end
section
open Go.Proofs Go.Shelf Go.RowKit
section
variable [dy] {P:Program} {ν:List (Nat×Nat)} {cQ:List Nat} {Y:Ctx} {x:X}
def Eu {m:List (Nat×bV)}{l:Nat}{t:List UInt8}{v:Value}(hs:gh ν x (look m))(hb:sx m l t)(hv:RD ν x v (.ptr l 2 0 0)):
  ∃b tot u w,v=.pointer (some ⟨b,0,none⟩)/\x.β l=some (b,0,tot)/\¬x.I b/\x.w.heap[b]? =some (sg b u w dy.tB)/\m9 dy.tU x.w w t/\
   (w.ownBlock=none/\gu m l=m\/∃l2 g t2,w=.slice (some ⟨g,0,none⟩) t.length t2/\x.β l2=some (g,0,t2)/\¬x.I g/\look m l2=some (.row t)/\l2≠l/\gu m l=cD m l2):=by
 cases hv with
 |ptr _ _ _ _ b base tot at_ hβ hat=>
  rcases hb with⟨u,h1,rfl⟩|⟨l2,u,h1,h2⟩
  ·obtain⟨o1,rfl,w,o2,_,rfl⟩:=hs.own l _ b base tot h1 hβ;simp only[Nat.zero_mul,Nat.add_zero]at hat;subst hat;exact⟨b,tot,u,_,rfl,hβ,o1,o2,.inl ⟨rfl,rfl⟩,.inl ⟨rfl,by simp only[gu,h1]⟩⟩
  ·obtain⟨o1,rfl,w,o2,g,t2,rfl,o3,o4⟩:=hs.own l _ b base tot h1 hβ;simp only[Nat.zero_mul,Nat.add_zero]at hat;subst hat;obtain⟨p1,_,c,p2,p3,p4,p5,p6⟩:=hs.own l2 _ g 0 t2 h2 o4;have hne:l2≠l:=by rintro rfl;rw[h1]at h2;cases h2
   exact⟨b,tot,u,_,rfl,hβ,o1,o2,.inr ⟨g,t2,c,rfl,p2,p3,p4,p5,p6⟩,.inr ⟨l2,g,t2,rfl,o4,p1,h2,hne,by simp only[gu,h1]⟩⟩
def AY {st:St}{l:Nat}{t s:List UInt8}{b tot:Nat}{w:Value}{w':World}(hs:gh ν x (look st.m))(hf:fV st x)(hlive:look st.m l≠none)(hl:l<st.nx)
  (hβ:x.β l=some (b,0,tot)) (hI:¬x.I b)
  (hrow:w.ownBlock=none/\gu st.m l=st.m\/∃l2 g t2,w=.slice (some ⟨g,0,none⟩) t.length t2/\x.β l2=some (g,0,t2)/\¬x.I g/\look st.m l2=some (.row t)/\l2≠l/\gu st.m l=cD st.m l2)
  (hw:Cm dy.tB dy.tU b w.ownBlock s x.w w'):
  ∃x':X,x'.w=w'/\Step x x'/\gh ν x' (look (qz st.m l st.nx s))/\fV ⟨st.nx+1,qz st.m l st.nx s⟩ x':=by
 obtain⟨g',t',h1,h2,h3,h4,h5,k1,k2,k3,k4,k5⟩:=hw;have hn:=hf.β st.nx (aM _)

 have hg:∀g,w.ownBlock=some g->∃l2 t2,x.β l2=some (g,0,t2)/\¬x.I g/\look st.m l2=some (.row t)/\l2≠l/\gu st.m l=cD st.m l2:=by
  intro g hg;rcases hrow with⟨h,_⟩|⟨l2,g0,t2,rfl,q⟩
  ·rw[h]at hg;cases hg
  ·obtain rfl:=bC hg;exact⟨l2,t2,q⟩
 have hlook:∀l' blk,l'≠l->look (gu st.m l) l'=some blk->look st.m l'=some blk/\∀g,w.ownBlock=some g->∀p,x.β l'=some p->p.1≠g:=by
  intro l' blk hl' hk;rcases hrow with⟨h,e⟩|⟨l2,g0,t2,rfl,q1,q2,q3,q4,e⟩
  ·rw[e]at hk;exact⟨hk,fun g hg=>by rw[h]at hg;cases hg⟩
  ·rw[e,gy]at hk;split at hk
   ·cases hk
   ·rename_i hne;refine⟨hk,fun g hg p hp e=>?_⟩;obtain rfl:=bC hg;obtain⟨b',base',tot'⟩:=p;simp only at e;subst e;exact hne (hs.inj l' l2 _ _ _ _ _ (by rw[hk];simp) (by rw[q3];simp) hp q1)
 have hbg:∀l' p,x.β l'=some p->p.1<x.w.heap.size:=fun l' ⟨b',base',tot'⟩ hp=>hs.eS l' b' base' tot' hp
 have hkeep:∀k,k<x.w.heap.size->k≠b->some k≠w.ownBlock->w'.heap[k]? =x.w.heap[k]? :=k5
 let x':X:=⟨w',x.I,eu x.β st.nx (g',0,t')⟩
 have hst:Step x x':=by
  refine⟨k1,k2,k3,k4,fun _ h=>h,fun k hk=>hkeep k (hs.imm k hk) (fun e=>hI (e▸hk)) (fun e=>?_),fun l' p hp=>?_,fun k hk hn'=>hkeep k hk (fun e=>hn' l _ hβ e.symm) (fun e=>?_),fun _ h=>.inl h,fun l' p hp=>?_⟩
  ·obtain⟨l2,t2,q1,q2,_⟩:=hg k e.symm;exact q2 hk
  ·have:l'≠st.nx:=fun e=>by rw[e,hn]at hp;cases hp
   simp[x',eu,this,hp]
  ·obtain⟨l2,t2,q1,_⟩:=hg k e.symm;exact hn' l2 _ q1 rfl
  ·by_cases e1:l'=st.nx
   ·simp only[x',eu,e1,aH,a7]at hp;subst hp;rcases h3 with h3|h3
    ·obtain⟨l2,t2,q1,_⟩:=hg g' h3;exact .inr (.inr ⟨l2,_,q1,rfl⟩)
    ·exact .inr (.inl h3)
   ·simp only[x',eu,e1,aI]at hp;exact .inl hp
 have hle:=hst.le;have hlm:∀l',look (qz st.m l st.nx s) l'=if l'=st.nx then some (.row s)else if l'=l then some (.bld (some st.nx) s.length true)else look (gu st.m l) l':=by
  intro l';simp only[qz,look];by_cases e:l'=st.nx
  ·rw[av e.symm,av e]
  ·rw[aj (fun h=>e h.symm),aj e,cF]
 have hfr:∀l' p,l'≠st.nx->x.β l'=some p->l'≠l->look (gu st.m l) l'≠none->p.1≠g':=by
  intro l' p hl' hp hne hk e;cases hq:look (gu st.m l) l' with
  |none=>exact hk hq
  |some blk=>
   rcases h3 with h3|h3
   ·exact(hlook l' blk hne hq).2 g' h3 p hp e
   ·have:=hbg l' p hp;omega
 refine⟨x',rfl,hst,⟨fun l' blk b' base' tot' e1 e2=>?_,fun l1 l2 b' base1 tot1 base2 tot2 e1 e2 e3 e4=>?_,fun k hk=>eX (hs.imm k hk) k4,fun l' b' base' tot' e=>?_,qO hle hs.gd⟩,⟨fun l' hl'=>?_,fun l' hl'=>?_⟩⟩
 ·rw[hlm]at e1;by_cases c1:l'=st.nx
  ·rw[av c1]at e1;simp only[x',eu,av c1,a7,dc]at e2;obtain⟨rfl,rfl,rfl⟩:=e2;obtain rfl:=bC e1;refine⟨fun h=>?_,rfl, ?_⟩
   ·rcases h3 with h3|h3
    ·obtain⟨l2,t2,_,q2,_⟩:=hg g' h3;exact q2 h
    ·have:=hs.imm g' h;omega
   ·rcases h2 with⟨h2,_⟩|⟨g2,t2,c,h2,r⟩
    ·cases h2
    ·simp only[Value.slice.injEq,a7,Addr.mk.injEq]at h2;obtain⟨⟨rfl,_⟩,_,rfl⟩:=h2;exact⟨c,r⟩
  ·rw[aj c1]at e1;simp only[x',eu,aj c1]at e2;by_cases c2:l'=l
   ·subst c2;rw[av rfl]at e1;rw[hβ]at e2;simp only[a7,dc]at e2;obtain⟨rfl,rfl,rfl⟩:=e2;obtain rfl:=bC e1;refine⟨hI,rfl,_,h1,g',t',rfl, ?_,by simp[x',eu]⟩;rcases h2 with⟨h2,_⟩|⟨g2,t2,c,h2,_,_,_,r,_⟩
    ·cases h2
    ·simp only[Value.slice.injEq]at h2;obtain⟨_,_,rfl⟩:=h2;exact r
   ·rw[aj c2]at e1;obtain⟨q1,q2⟩:=hlook l' blk c2 e1;obtain⟨o1,o2⟩:=hs.own l' blk b' base' tot' q1 e2;refine⟨o1,o2.mono hle (hkeep b' (hs.eS _ _ _ _ e2) (fun e=>?_) (fun e=>q2 b' e.symm _ e2 rfl))⟩;subst e;exact c2 (hs.inj l' l _ _ _ _ _ (by rw[q1];simp) hlive e2 hβ)
 ·rw[hlm]at e1 e2;by_cases c1:l1=st.nx
  ·by_cases c2:l2=st.nx
   ·rw[c1,c2]
   ·exfalso;rw[aj c2]at e2;simp only[x',eu,av c1,a7,dc]at e3;simp only[x',eu,aj c2]at e4;obtain⟨rfl,_⟩:=e3;by_cases c3:l2=l
    ·subst c3;rw[hβ]at e4;simp only[a7,dc]at e4;exact h5 e4.1.symm
    ·rw[aj c3]at e2;exact hfr l2 _ c2 e4 c3 e2 rfl
  ·rw[aj c1]at e1;simp only[x',eu,aj c1]at e3;by_cases c2:l2=st.nx
   ·exfalso;simp only[x',eu,av c2,a7,dc]at e4;obtain⟨rfl,_⟩:=e4;by_cases c3:l1=l
    ·subst c3;rw[hβ]at e3;simp only[a7,dc]at e3;exact h5 e3.1.symm
    ·rw[aj c3]at e1;exact hfr l1 _ c1 e3 c3 e1 rfl
   ·rw[aj c2]at e2;simp only[x',eu,aj c2]at e4;have live:∀l',(if l'=l then some (bV.bld (some st.nx) s.length true)else look (gu st.m l) l')≠none->look st.m l'≠none:=by
     intro l' h;by_cases c:l'=l
     ·rw[c];exact hlive
     ·rw[aj c]at h;cases hq:look (gu st.m l) l' with
      |none=>exact absurd hq h
      |some blk=>rw[(hlook l' blk c hq).1];simp
    exact hs.inj l1 l2 b' base1 tot1 base2 tot2 (live l1 e1) (live l2 e2) e3 e4
 ·by_cases c1:l'=st.nx
  ·simp only[x',eu,av c1,a7,dc]at e;obtain⟨rfl,_⟩:=e;exact h4
  ·simp only[x',eu,aj c1]at e;exact eX (hs.eS _ _ _ _ e) k4
 ·have hl':st.nx+1<=l':=hl';simp only[x',eu,aj (show ¬l'=st.nx by omega)];exact hf.β l' ae
 ·show l'<st.nx+1;simp only[hlm]at hl';by_cases c1:l'=st.nx
  ·omega
  ·rw[aj c1]at hl';by_cases c2:l'=l
   ·omega
   ·rw[aj c2]at hl';cases hq:look (gu st.m l) l' with
    |none=>exact absurd hq hl'
    |some blk=>have:=hf.m l' (by rw[(hlook l' blk c2 hq).1];simp);omega
def sx.live {m:List (Nat×bV)}{l:Nat}{t:List UInt8}(h:sx m l t):look m l≠none:=by
 rcases h with⟨u,h,_⟩|⟨l2,u,h,_⟩<;>rw[h]<;>simp
variable {J:Ren}
def JC {args:Array Value}(h:args.size=2):args=#[args.getD 0 undef,args.getD 1 undef]:=by
 apply Array.ext
 ·simpa using h
 ·intro i h1 h2
  match i,h1 with
  |0,h1=>simp[Array.getD,h1]
  |1,h1=>simp[Array.getD,h1]
  |i+2,h1=>omega
def P6 {args:Array Value}(h:args.size=1):args=#[args.getD 0 undef]:=by
 apply Array.ext
 ·simpa using h
 ·intro i h1 h2
  match i,h1 with
  |0,h1=>simp[Array.getD,h1]
  |i+1,h1=>omega
def M7 (hB:dy.tB=J.t 72)(hU:dy.tU=J.t 5)(L:Lays.n166 P J)(X':Builder.Extra P J)(hen:∀args w,(callFunc (J.f 166) args).run P w=.ok (.enter (J.f 166) args) w):Jy P ν Y cQ UK (J.f 166):=by
 rintro ds st K ⟨s,l,t,rfl,hb,hl,h0,hle,hK⟩ hok x args hl2 hargs hs hf;obtain⟨b,tot,u,w,e0,hβ,hI,hh,hv,hrow⟩:=Eu hs hb (hargs 0 aN);have h1:=hargs 1 aN;simp only[List.getD_cons_succ,iw]at h1;obtain⟨e1,hm⟩:=h1.j5;rw[hB]at hh;rw[hU]at hv;refine .inr ⟨J.f 166,args,hen args x.w, ?_⟩;rw[JC (args:=args) (by simpa using hl2),e0,e1];refine(wj L X' hh hv h0 hm hle).mono ?_;rintro e w' ⟨⟨r,rfl⟩,hw⟩;rw[<-hB,<-hU]at hw;obtain⟨x',q1,q2,q3,q4⟩:=AY hs hf hb.live hl hβ hI hrow hw;exact⟨x',q1,.any,_,hK,q2,.any _,q3,q4⟩
def M6 (hB:dy.tB=J.t 72)(hU:dy.tU=J.t 5)(L:Lays.n167 P J)(X':Builder.Extra P J)(hen:∀args w,(callFunc (J.f 167) args).run P w=.ok (.enter (J.f 167) args) w):Jy P ν Y cQ UJ (J.f 167):=by
 rintro ds st K ⟨c,l,t,rfl,hb,hl,h0,hle,hK⟩ hok x args hl2 hargs hs hf;obtain⟨b,tot,u,w,e0,hβ,hI,hh,hv,hrow⟩:=Eu hs hb (hargs 0 aN);have h1:=hargs 1 aN;simp only[List.getD_cons_succ,iw]at h1;have e1:=h1.dW;rw[hB]at hh;rw[hU]at hv;refine .inr ⟨J.f 167,args,hen args x.w, ?_⟩;rw[JC (args:=args) (by simpa using hl2),e0,e1];refine(zl L X' hh hv hle).mono ?_;rintro e w' ⟨⟨r,rfl⟩,hw⟩;rw[<-hB,<-hU]at hw;obtain⟨x',q1,q2,q3,q4⟩:=AY hs hf hb.live hl hβ hI hrow hw;exact⟨x',q1,.any,_,hK,q2,.any _,q3,q4⟩
def M5 (hB:dy.tB=J.t 72)(hU:dy.tU=J.t 5)(L:Lays.n169 P J)(X':Builder.Extra P J)(hen:∀args w,(callFunc (J.f 169) args).run P w=.ok (.enter (J.f 169) args) w):Jy P ν Y cQ UI (J.f 169):=by
 rintro ds st K ⟨l,t,rfl,hb,h0,hK⟩ hok x args hl2 hargs hs hf;obtain⟨b,tot,u,w,e0,hβ,hI,hh,hv,hrow⟩:=Eu hs hb (hargs 0 aN);rcases hrow with⟨hn,_⟩|⟨l2,g,t2,rfl,q1,q2,q3,q4,q5⟩
 ·exfalso;rcases hv with⟨_,h⟩|⟨g,t',c,rfl,_⟩
  ·exact h0 h
  ·cases hn
 rw[hB]at hh;rw[hU]at hv;have htm:t.length<=maxLen:=by
  rcases hv with⟨_,rfl⟩|⟨g',t',c,h1,_,_,h4,h5,_⟩
  ·exact absurd rfl h0
  ·omega
 refine .inr ⟨J.f 169,args,hen args x.w, ?_⟩;rw[P6 (args:=args) (by simpa using hl2),e0];refine(Ev L X' hh hv h0).mono ?_;rintro e w' ⟨rfl,k1,k2,k3,k4,k5⟩;have hkeep:∀k,(∀l' p,look (cD (gu st.m l) l) l'≠none->x.β l'=some p->p.1=k->False)->True:=fun _ _=>trivial
 have hst:Step x ⟨w',x.I,x.β⟩:=⟨k1,k2,k3,Nat.le_of_eq k4.symm,fun _ h=>h,fun k hk=>k5 k (fun e=>q2 (e▸hk)),fun _ _ h=>h,fun k hk hn=>k5 k (fun e=>hn l2 _ q1 e.symm),fun _ h=>.inl h,fun _ _ h=>.inl h⟩;have hlm:∀l',look (cD (gu st.m l) l) l'=if l'=l then none else if l'=l2 then none else look st.m l':=fun l'=>by rw[gy,q5,gy]
 refine⟨⟨w',x.I,x.β⟩,rfl,.str t,_,hK,hst,.str t htm,⟨fun l' blk b' base' tot' e1 e2=>?_,fun l1 l3 b' base1 tot1 base2 tot2 e1 e2 e3 e4=>?_,fun k hk=>by show k<w'.heap.size;rw[k4];exact hs.imm k hk,fun l' b' base' tot' e=>by show b'<w'.heap.size;rw[k4];exact hs.eS _ _ _ _ e,qO hst.le hs.gd⟩,⟨hf.β,fun l' hl'=>?_⟩⟩
 ·rw[hlm]at e1;split at e1
  ·cases e1
  split at e1
  ·cases e1
  rename_i c1 c2;obtain⟨o1,o2⟩:=hs.own l' blk b' base' tot' e1 e2;refine⟨o1,o2.mono hst.le (k5 b' (fun e=>c2 ?_))⟩;subst e;exact hs.inj l' l2 _ _ _ _ _ (by rw[e1];simp) (by rw[q3];simp) e2 q1
 ·have live:∀l',look (cD (gu st.m l) l) l'≠none->look st.m l'≠none:=by
   intro l' h;rw[hlm]at h;split at h
   ·exact absurd rfl h
   split at h
   ·exact absurd rfl h
   ·exact h
  exact hs.inj l1 l3 b' base1 tot1 base2 tot2 (live l1 e1) (live l3 e2) e3 e4
 ·simp only[hlm]at hl';split at hl'
  ·exact absurd rfl hl'
  split at hl'
  ·exact absurd rfl hl'
  ·exact hf.m l' hl'
end
end
end Go.Abs
