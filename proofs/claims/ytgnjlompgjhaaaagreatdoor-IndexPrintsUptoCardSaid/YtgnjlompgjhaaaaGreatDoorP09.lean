/- A part of the proofs. -/
import Derived.Lib.CountLaws
import Derived.Lib.IndexMore
import Derived.Lib.ItoaNum
import Derived.Lib.Join
import Derived.Lib.Split
import Derived.Lib.SplitLaws
import Derived.Lib.Strings
import Derived.Lib.TrimByte
import Derived.Shelf.Strings.Split
import Derived.Test.YtgnjlompgjhaaaaGreatDoorP08
set_option linter.all false
set_option maxRecDepth 4000
namespace Go.Abs
def At:aC:=⟨1,17,[⟨1,none⟩,⟨2,none⟩],fV,(sq (rg [gb 9 s0,gm bp,gm bp] [(4,0),(1,1),(2,2)]) (sq (sq (r1 [gm bp] 3 0) (.block 0 (.loop (sq (sq (r1 [gm s3,gf 6 s4,gd l1,gl l2,aP l0 l3] 5 4) (eN s5 0)) (sq (.block 1 (sq (r2 [gk 9 true s4,gf 6 s4,gd l1,gm s3,ga 3 l2 l3,gk 3 true l4,gx 457 [l0,l5] [[.a,.a,.a,.a,.a,.a,.sl 3 [.sl 4 [.a,.a,.sl 1 [.a],.a],.a,.a],.sl 3 [.a,.a,.a],.sl 2 [.a,.sl 1 [.a]]],[.sl 4 [.a,.a,.sl 1 [.a],.a],.a,.a]],gm l6] 6 7) (sq (r1 [gm s6,cg l0 bp] 7 1) (.cond s7 (sq (rg [gm s6,gm s3,gm l0,gm l1] [(1,2),(2,3)]) .ret) .skip)))) (r1 [gm s3,ax l0 cq,gm l1] 3 2)))))) (sq (sq (r1 [gm bp] 8 0) (.block 2 (.loop (sq (sq (r1 [gm s8,gf 7 s4,gd l1,gl l2,aP l0 l3] 9 4) (eN s9 2)) (sq (.block 3 (sq (r2 [gk 9 true s4,gf 7 s4,gd l1,gm s8,ga 3 l2 l3,gk 3 true l4,gx 458 [l0,l5] [[.a,.a,.a,.a,.a,.a,.sl 3 [.sl 4 [.a,.a,.sl 1 [.a],.a],.a,.a],.sl 3 [.a,.a,.a],.sl 2 [.a,.sl 1 [.a]]],[.a,.a,.a]],gm l6] 10 7) (sq (r1 [gm iP,cg l0 bp] 11 1) (.cond kp (sq (rg [gm iP,gm s8,gm l0,gm l1] [(1,2),(2,3)]) .ret) .skip)))) (r1 [gm s8,ax l0 cq,gm l1] 8 2)))))) (sq (sq (r1 [gf 8 s4,gd l0,gx 459 [l1] [[.sl 2 [.a,.sl 1 [.a]]]],jx l2] 12 3) (.cond mS (sq (rg [gm (i6 11),gm bp] [(1,0),(2,1)]) .ret) .skip)) (sq (sq (r1 [gm bp] 13 0) (.block 4 (.loop (sq (sq (r1 [gm qp,gf 8 s4,gd l1,gl l2,aP l0 l3] 14 4) (eN tq 4)) (sq (.block 5 (sq (r2 [gk 9 true s4,gf 8 s4,gd l1,gm qp,ga 2 l2 l3,gf 1 l4,gd l5,gx 460 [l0,l6] [[.a,.a,.a,.a,.a,.a,.sl 3 [.sl 4 [.a,.a,.sl 1 [.a],.a],.a,.a],.sl 3 [.a,.a,.a],.sl 2 [.a,.sl 1 [.a]]],[.sl 1 [.a]]],gm l7] 15 8) (sq (r1 [gm wu,cg l0 bp] 16 1) (.cond Cw (sq (rg [gm wu,gm qp,gm l0,gm l1] [(1,2),(2,3)]) .ret) .skip)))) (r1 [gm qp,ax l0 cq,gm l1] 13 2)))))) (sq (rg [gm bp,gm bp] [(1,0),(2,1)]) .ret))))))⟩
def w218 {Y:Ctx}(hm:(Y.at 0).bd)(h457:OG Y)(h458:OH Y)(h459:OI Y)(h460:OJ Y)(r:Rec)  (hp0:dh r):dd Y At (.tup [.int .i64 (dL r).1,.int .i64 (dL r).2]) [Rec.D r]:=by
 show bH _ _ _ [⟨_,_⟩,_,_,_,_,_,_,_,_,_,_,_,_,_,_,_,_] _;refine ak ?_;refine bP ?_;refine bh hm (ι:=Nat) (fun i=>[.un,.un,.un,⟨true,.int .i64 (i:Nat)⟩,⟨true,.ptr 0 9 0 0⟩,.un,.un,.un,.un,.un,.un,.un,.un,.un,.un,.un,.un]) (fun i=>[(0,.buf 9 [Rec.D r])]) 4 (fun i=>i<=r.needs.length/\lC r=gM (fun i=>gh r r.needs[i]!) i r.needs.length) (fun i=>r.needs.length-i) 0 ⟨ae,rfl⟩ (dn [(0,0)]) ?_;rintro i ⟨hi,hr⟩;refine aF ?_;intro u0;refine aA ?_;refine cw (fun hc0=>?_) fun hc0=>?_
 ·refine aU ?_;refine cC i ?_;first|refine cy (v:=(cB.D _)) ?_|refine eO (v:=(cB.D _)) ?_
  refine aq (hc:=h457 r r.needs[i]! (hp0.2.1 _ (bS ae))) ?_;refine aF ?_;refine eP (fun hc1=>?_) fun hc1=>?_
  ·refine cU ?_;refine bO (aN (aj (D.int .i64) ?_) (aj (D.int .i64) ?_));all_goals
    have hq:dL r=(gh r r.needs[i]!,((i:Nat):Int)):=by
     exact z7 (by rw[hr,iE ae hc1]) hc1
    rw[hq];first|done|rfl
  refine bP ?_;exact⟨i+1,⟨ae,by rw[hr,kT ae hc1]⟩,ae,(dn [(0,0)])⟩
 refine aE ?_;have hn0:lC r=(0,0):=by rw[hr,kS ae]
 refine aA ?_;refine bh hm (ι:=Nat) (fun i=>[.un,.un,.un,.un,⟨true,.ptr 0 9 0 0⟩,.un,.un,.un,⟨true,.int .i64 (i:Nat)⟩,.un,.un,.un,.un,.un,.un,.un,.un]) (fun i=>[(0,.buf 9 [Rec.D r])]) 10 (fun i=>i<=r.bars.length/\qI r=gM (fun i=>mU r r.bars[i]!) i r.bars.length) (fun i=>r.bars.length-i) 0 ⟨ae,rfl⟩ (dn [(0,0)]) ?_;rintro i ⟨hi,hr⟩;refine aF ?_;intro u1;refine aA ?_;refine cw (fun hc2=>?_) fun hc2=>?_
 ·refine aU ?_;refine cC i ?_;first|refine cy (v:=(kJ.D _)) ?_|refine eO (v:=(kJ.D _)) ?_
  refine aq (hc:=h458 r r.bars[i]! (hp0.2.2.1 _ (bS ae))) ?_;refine aF ?_;refine eP (fun hc3=>?_) fun hc3=>?_
  ·refine cU ?_;refine bO (aN (aj (D.int .i64) ?_) (aj (D.int .i64) ?_));all_goals
    have hq:dL r=(mU r r.bars[i]!,((i:Nat):Int)):=by
     exact uS hn0 (by rw[hr,iE ae hc3]) hc3
    rw[hq];first|done|rfl
  refine bP ?_;exact⟨i+1,⟨ae,by rw[hr,kT ae hc3]⟩,ae,(dn [(0,0)])⟩
 refine aE ?_;have hb0:qI r=(0,0):=by rw[hr,kS ae]
 refine aA ?_;refine aq (hc:=h459 r.feats hp0.2.2.2) ?_;refine aA ?_;refine aw (fun hc4=>?_) (fun hc4=>?_)
 ·try simp only[fu]at hc4
  refine aF ?_;refine bO (aN (aj (D.int .i64) ?_) (aj (D.int .i64) ?_));all_goals
   have hq:dL r=(11,0):=by
    exact z8 hn0 hb0 hc4
   rw[hq];first|done|rfl
 simp only[bY]at hc4;refine aI ?_;refine bh hm (ι:=Nat) (fun i=>[.un,.un,.un,.un,⟨true,.ptr 0 9 0 0⟩,.un,.un,.un,.un,.un,.un,.un,.un,⟨true,.int .i64 (i:Nat)⟩,.un,.un,.un]) (fun i=>[(0,.buf 9 [Rec.D r])]) 20 (fun i=>i<=r.feats.length/\ug r=gM (fun i=>jb r r.feats[i]!.of) i r.feats.length) (fun i=>r.feats.length-i) 0 ⟨ae,rfl⟩ (dn [(0,0)]) ?_;rintro i ⟨hi,hr⟩;refine aF ?_;intro u2;refine aA ?_;refine cw (fun hc5=>?_) fun hc5=>?_
 ·refine aU ?_;refine cC i ?_;refine aA ?_;refine aq (hc:=h460 r r.feats[i]!.of (hp0.2.2.2 _ (bS ae)).2.2) ?_;refine aF ?_;refine eP (fun hc6=>?_) fun hc6=>?_
  ·refine cU ?_;refine bO (aN (aj (D.int .i64) ?_) (aj (D.int .i64) ?_));all_goals
    have hq:dL r=(jb r r.feats[i]!.of,((i:Nat):Int)):=by
     exact ri hn0 hb0 hc4 (by rw[hr,iE (f:=(fun i=>jb r r.feats[i]!.of)) ae hc6])
    rw[hq];first|done|rfl
  refine bP ?_;exact⟨i+1,⟨ae,by rw[hr,kT (f:=(fun i=>jb r r.feats[i]!.of)) ae hc6]⟩,ae,(dn [(0,0)])⟩
 refine aU ?_;refine bO (aN (aj (D.int .i64) ?_) (aj (D.int .i64) ?_));all_goals
  have hq:dL r=(0,0):=by
   exact ri hn0 hb0 hc4 (by rw[hr,kS ae])
  rw[hq];first|done|rfl
def Oa (Y:Ctx):Prop:=∀(r:Rec),(dh r)->Y.pre 218 [Rec.D r]/\Y.val 218 [Rec.D r]=.tup [.int .i64 (dL r).1,.int .i64 (dL r).2]
def Aq:aC:=⟨1,11,[⟨1,none⟩,⟨2,none⟩],fV,(sq (rg [gb 9 s0,gm bp,gm bp] [(3,0),(1,1),(2,2)]) (sq (.block 0 (sq (r1 [gf 0 s3,gd l0,gx 216 [l1] bM,jx l2,gm l3] 4 4) (.cond s4 (sq (rg [gm tg,gm bp] [(1,0),(2,1)]) .ret) (sq (r1 [gf 1 s3,gk 5 true l0,gx 217 [l1] wg,jx l2,gm l3] 5 4) (.cond s5 (sq (rg [gm NJ,gm bp] [(1,0),(2,1)]) .ret) (sq (r1 [gf 6 s3,gd l0,gl l1,cH l2 BJ,gm l3,hZ 4 7 s3,iT 4 l5,cl 4 (.len l6),cl 4 (dE l7 BJ),eK l4 l8,gm l9] 6 10) (.cond s6 (sq (rg [gm ml,gm bp] [(1,0),(2,1)]) .ret) .skip))))))) (sq (sq (rg [gk 9 true s3,gx 218 [l0] [[.a,.a,.a,.a,.a,.a,.sl 3 [.sl 4 [.a,.a,.sl 1 [.a],.a],.a,.a],.sl 3 [.a,.a,.a],.sl 2 [.a,.sl 1 [.a]]]],gm l1,ge l2 0,ge l2 1,gm l3,gm l4] [(7,5),(9,6)]) (sq (r1 [gm s7,cg l0 bp] 8 1) (.cond s8 (sq (rg [gm s7,gm s9,gm l0,gm l1] [(1,2),(2,3)]) .ret) .skip))) (sq (sq (r1 [gk 9 true s3,gx 219 [l0] [[.a,.a,.a,.a,.a,.a,.sl 3 [.sl 4 [.a,.a,.sl 1 [.a],.a],.a,.a],.sl 3 [.a,.a,.a],.sl 2 [.a,.sl 1 [.a]]]],mE l1,cH l2 (i6 4096)] 10 3) (.cond iP (sq (rg [gm ml,gm bp] [(1,0),(2,1)]) .ret) .skip)) (sq (rg [gm bp,gm bp] [(1,0),(2,1)]) .ret)))))⟩
def w71 {Y:Ctx}(hm:(Y.at 0).bd)(h216:D2 Y)(h217:D3 Y)(h218:Oa Y)(h219:Ls Y)(r:Rec)  (hp0:dh r):dd Y Aq (.tup [.int .i64 (ct r).1,.int .i64 (ct r).2]) [Rec.D r]:=by
 show bH _ _ _ [⟨_,_⟩,_,_,_,_,_,_,_,_,_,_] _;refine ak ?_;refine bP ?_;refine aq (hc:=h216 _) ?_;refine aB ?_;refine wp_cond (fun hc0=>?_) (fun hc0=>?_)
 ·try simp only[fu]at hc0
  refine aF ?_;refine bO (aN (aj (D.int .i64) ?_) (aj (D.int .i64) ?_));all_goals (have hq:ct r=(4,0):=(by rw[ct,av hc0]);rw[hq];first|done|rfl)
 simp only[bY]at hc0;refine aA ?_;refine bR (v:=bX.D r.v) ?_;refine aq (hc:=h217 r.v hp0.1.2) ?_;refine aB ?_;refine wp_cond (fun hc1=>?_) (fun hc1=>?_)
 ·try simp only[fu]at hc1
  refine aF ?_;refine bO (aN (aj (D.int .i64) ?_) (aj (D.int .i64) ?_));all_goals (have hq:ct r=(5,0):=(by rw[ct,ai (by simp[hc0]),av hc1]);rw[hq];first|done|rfl)
 simp only[bY]at hc1;refine aE ?_;intro u0;refine aE ?_;refine kd ?_;refine aE ?_;refine eP (fun hc2=>?_) fun hc2=>?_
 ·refine aF ?_;refine bO (aN (aj (D.int .i64) ?_) (aj (D.int .i64) ?_));all_goals (have hq:ct r=(3,0):=(by rw[ct,ai (by simp[hc0]),ai (by simp[hc1]),av ae]);rw[hq];first|done|rfl)
 refine aI ?_;refine aq (hc:=h218 r hp0) ?_;refine gy ?_;refine aw (fun hc3=>?_) (fun hc3=>?_)
 ·try simp only[fu]at hc3
  refine bP ?_;refine bO (aN (aj (D.int .i64) ?_) (aj (D.int .i64) ?_));all_goals
   have hq:ct r=dL r:=by
    exact my hc0 hc1 ae ae rfl hc3
   rw[hq];first|done|rfl
 simp only[bY,aR]at hc3;have hpz:dL r=(0,0):=Aa hc3;have hgd:pI r:=⟨⟨hc0,hc1⟩,⟨ae,ae⟩,hpz⟩;refine aE ?_;refine aq (hc:=h219 r ⟨hgd,hp0⟩) ?_;refine aS ?_;intro u1;refine aA ?_;refine cw (fun hc4=>?_) fun hc4=>?_
 ·refine aF ?_;refine bO (aN (aj (D.int .i64) ?_) (aj (D.int .i64) ?_));all_goals
   have hq:ct r=(3,0):=by
    rw[qN hc0 hc1 ae ae hpz,av ae]
   rw[hq];first|done|rfl
 refine aF ?_;refine bO (aN (aj (D.int .i64) ?_) (aj (D.int .i64) ?_));all_goals
  have hq:ct r=(0,0):=by
   rw[qN hc0 hc1 ae ae hpz,ai ae]
  rw[hq];first|done|rfl
def C71 (Y:Ctx):Prop:=∀(r:Rec),(dh r)->Y.pre 71 [Rec.D r]/\Y.val 71 [Rec.D r]=.tup [.int .i64 (ct r).1,.int .i64 (ct r).2]
def Ny (n:cB):Int:=IntKind.i64.wrap ((n.when'.length:Int)+n.option.length)
def RI (r:Rec):Int:=IntKind.i64.wrap ((r.name.length:Int)+r.v.pre.length)
def Kt (r:Rec):Int:=IntKind.i64.wrap (RI r+r.v.build.length)
end Go.Abs
section
namespace Go.Abs
structure eu where
 r:Rec
 sum:Int
 off:Bool
 deriving Inhabited,DecidableEq
def eu.D (x:eu):D:=.agg [.str x.r.name,.int .i64 x.r.v.major,.int .i64 x.r.v.minor,.int .i64 x.r.v.patch,.str x.r.v.pre,.str x.r.v.build,.sl 3 (x.r.needs.map cB.D),.sl 3 (x.r.bars.map kJ.D),.sl 2 (x.r.feats.map bW.D),.int .u64 x.sum,.bool x.off]
structure fD where
 name:au
 es:List eu
 deriving Inhabited,DecidableEq
def fD.D (s:fD):D:=.agg [.str s.name,.sl 11 (s.es.map eu.D)]
def dY (a b:Int):Int:=if a<b then-1 else if b<a then 1 else 0
def rK (a b:au):Int:=if Op.bytesLess a b=true then-1 else if a=b then 0 else 1
def nw (a b:au):Int:=if b6 a=true/\b6 b=true then dY (iF a) (iF b)else if b6 a=true then-1 else if b6 b=true then 1 else rK a b
def AS (l m:List au):Nat->Nat->Int
 |_,0=>dY l.length m.length
 |i,k+1=>if nw l[i]! m[i]! ≠0 then nw l[i]! m[i]! else AS l m (i+1) k
def pM (l m:List au)(i:Nat):Int:=AS l m i (min l.length m.length-i)
def xB {l m:List au}{i:Nat}(h:i<l.length/\i<m.length)(hn:nw l[i]! m[i]! ≠0):pM l m i=nw l[i]! m[i]! :=by
 unfold pM;rw[show min l.length m.length-i=(min l.length m.length-(i+1))+1 by omega,AS,av hn]
def AR {l m:List au}{i:Nat}(h:i<l.length/\i<m.length)(hn:nw l[i]! m[i]! =0):pM l m i=pM l m (i+1):=by
 unfold pM;rw[show min l.length m.length-i=(min l.length m.length-(i+1))+1 by omega,AS,ai (by rw[hn];simp)]
def xA {l m:List au}{i:Nat}(h:l.length<=i\/m.length<=i):pM l m i=dY l.length m.length:=by
 unfold pM;rw[show min l.length m.length-i=0 by omega,AS]
def rl (a b:au):Int:=if a=b then 0 else if a=[]then 1 else if b=[]then-1 else pM (ar a 46) (ar b 46) 0
def lM (a b:bX):Int:=if eF a=false\/eF b=false then 0 else
 if dY a.major b.major≠0 then dY a.major b.major else if dY a.minor b.minor≠0 then dY a.minor b.minor else
 if dY a.patch b.patch≠0 then dY a.patch b.patch else rl a.pre b.pre
def qO (v:bX):bX:=⟨v.major,v.minor,v.patch,v.pre,[]⟩
def El (a:Int):dY a a=0:=by simp[dY]
def rJ {a b:Int}:dY a b=0↔a=b:=by
 unfold dY;split
 ·constructor
  ·intro h;cases h
  ·intro h;omega
 ·split
  ·constructor
   ·intro h;cases h
   ·intro h;omega
  ·constructor
   ·intro _;omega
   ·intro _;rfl
def wI {a b:bX}(h:qO a=qO b):lM a b=0:=by
 simp only[qO,bX.mk.injEq]at h;obtain⟨h1,h2,h3,h4,_⟩:=h;unfold lM rl;rw[h1,h2,h3,h4];simp[El]
def G0 (x y z:Int):eA (fun i=>[x,y,z][i]!) 0 [x,y,z].length=if x≠0 then x else if y≠0 then y else z:=by
 simp only[eA,ay,az,p7];by_cases h1:x=0
 ·by_cases h2:y=0
  ·by_cases h3:z=0<;>simp[h1,h2,h3]
  ·simp[h1,h2]
 ·simp[h1]
def G2 {x y z:Int}(h:eA (fun i=>[x,y,z][i]!) 0 [x,y,z].length=0):x=0/\y=0/\z=0:=by
 rw[G0]at h;split at h
 ·rename_i h1;exact absurd h h1
 ·rename_i h1;split at h
  ·rename_i h2;exact absurd h h2
  ·rename_i h2;exact⟨Classical.not_not.1 h1,Classical.not_not.1 h2,h⟩
def G1 {a b:bX}(hv:¬(eF a=false\/eF b=false))(h:¬eA (fun i=>[dY a.major b.major,dY a.minor b.minor,dY a.patch b.patch][i]!) 0 [dY a.major b.major,dY a.minor b.minor,dY a.patch b.patch].length=0):
  eA (fun i=>[dY a.major b.major,dY a.minor b.minor,dY a.patch b.patch][i]!) 0 [dY a.major b.major,dY a.minor b.minor,dY a.patch b.patch].length=lM a b:=by
 rw[G0]at h⊢;unfold lM;rw[ai hv];split
 ·rfl
 ·rename_i h1;rw[ai h1]at h;split
  ·rfl
  ·rename_i h2;rw[ai h2]at h;rw[av h]
def GK {a b:bX}(hv:¬(eF a=false\/eF b=false))(h1:dY a.major b.major=0)(h2:dY a.minor b.minor=0)(h3:dY a.patch b.patch=0):lM a b=rl a.pre b.pre:=by
 unfold lM;rw[ai hv,ai (by simp[h1]),ai (by simp[h2]),ai (by simp[h3])]
def Jp {a b:bX}(h1:dY a.major b.major=0)(h2:dY a.minor b.minor=0)(h3:dY a.patch b.patch=0)(h4:a.pre=b.pre):qO a=qO b:=by
 unfold qO;rw[rJ.1 h1,rJ.1 h2,rJ.1 h3,h4]
def Em (a:bX):lM a a=0:=wI rfl
def uM (a b:bX):Bool:=eF a&&eF b&&decide (lM a b=0)
def E1 {v:bX}(h:eF v=true):uM v v=true:=by simp[uM,h,Em]
def ym (nm:au)(v:bX)(x:eu):Bool:=decide (x.r.name=nm)&&uM x.r.v v
def MG {nm:au}{v:bX}{x:eu}(h:¬x.r.name=nm\/uM x.r.v v=false):ym nm v x=false:=by
 unfold ym;rcases h with h|h
 ·rw[cj h];rfl
 ·rw[h,Bool.and_false]
def JN {nm:au}{v:bX}{x:eu}(h:x.r.name=nm/\uM x.r.v v=true):ym nm v x=true:=by
 unfold ym;rw[bD h.1,h.2];rfl
def rj (l:List eu)(nm:au)(v:bX)(i:Nat):Int:=match(l.drop i).findIdx? (ym nm v)with
 |some k=>((i+k:Nat):Int)
 |none=>-1
def HP {l:List eu}{nm:au}{v:bX}{i:Nat}(h:i<l.length)(he:ym nm v l[i]! =true):rj l nm v i=(i:Nat):=by
 unfold rj;rw[kt h,List.findIdx?_cons];have:ym nm v l[i]=true:=by simpa[h]using he
 simp[this]
def HQ {l:List eu}{nm:au}{v:bX}{i:Nat}(h:i<l.length)(he:ym nm v l[i]! =false):rj l nm v i=rj l nm v (i+1):=by
 unfold rj;have:ym nm v l[i]=false:=by simpa[h]using he
 rw[kt h,List.findIdx?_cons];simp only[this,et,bn];cases(l.drop (i+1)).findIdx? (ym nm v)with
 |none=>rfl
 |some k=>simp only[Option.map_some];congr 1;omega
def Dz {l:List eu}{nm:au}{v:bX}{i:Nat}(h:l.length<=i):rj l nm v i=-1:=by
 unfold rj;rw[mj h];rfl
def pY (l:List eu)(i:Nat):Bool:=decide ((cP l[i]!.r).2=0)&&decide (oL l[i]!.r=l[i]!.sum)&&decide (rj (l.take i) l[i]!.r.name l[i]!.r.v 0<0)
def nt (s:fD):Bool:=(ey s.name&&decide (s.es.length<=64))&&cr (pY s.es) 0 s.es.length
def uW {r:Rec}(h:(cP r).2=0):eF r.v=true:=by
 have h0:(ct r).1=0:=by
  unfold cP at h;split at h
  ·rename_i h1;exact absurd h h1
  ·rename_i h1;exact Classical.not_not.1 h1
 exact(n3 h0).1.2
def M3 {l:List eu}{nm:au}{v:bX}:rj l nm v 0<0↔∀x∈l,ym nm v x=false:=by
 unfold rj;rw[dx];cases h:l.findIdx? (ym nm v)with
 |none=>
  simp only[List.findIdx?_eq_none_iff]at h;exact⟨fun _=>h,fun _=>aM⟩
 |some k=>
  obtain⟨h1,h2,_⟩:=List.findIdx?_eq_some_iff_getElem.1 h;constructor
  ·intro h3;simp only at h3;omega
  ·intro h3;rw[h3 _ (List.getElem_mem h1)]at h2;cases h2
def xd {l:List eu}{i:Nat}(h:i<l.length)(hv:eF l[i]!.r.v=true):decide (rj l l[i]!.r.name l[i]!.r.v 0=(i:Nat))=decide (rj (l.take i) l[i]!.r.name l[i]!.r.v 0<0):=by
 have hi:ym l[i]!.r.name l[i]!.r.v l[i]! =true:=by unfold ym;rw[E1 hv,bD rfl];rfl
 apply dz.2;rw[M3];constructor
 ·intro he x hx;obtain⟨j,hj,rfl⟩:=List.mem_take_iff_getElem.1 hx;have hj2:j<i:=ae;unfold rj at he;rw[dx]at he;cases hf:l.findIdx? (ym l[i]!.r.name l[i]!.r.v)with
  |none=>rw[hf]at he;simp only at he;omega
  |some k=>
   rw[hf]at he;obtain⟨h1,h2,h3⟩:=List.findIdx?_eq_some_iff_getElem.1 hf;have hk:k=i:=by simp only at he;omega
   subst hk;have:=h3 j hj2;simpa using this
 ·intro hx;unfold rj;rw[dx];have:l.findIdx? (ym l[i]!.r.name l[i]!.r.v)=some i:=by
   rw[List.findIdx?_eq_some_iff_getElem];refine⟨h,by simpa[h]using hi,fun j hj=>?_⟩;have:=hx l[j] (List.mem_take_iff_getElem.2 ⟨j,ae,rfl⟩);rw[this];decide
  rw[this];simp
def GU {l:List eu}{i:Nat}(h:i<l.length)(h1:(cP l[i]!.r).2=0)(h2:oL l[i]!.r=l[i]!.sum)(h3:rj l l[i]!.r.name l[i]!.r.v 0=(i:Nat)):pY l i=true:=by
 have:=xd h (uW h1);rw[bD h3]at this;unfold pY;rw[bD h1,bD h2,<-this];rfl
def Js {l:List eu}{i:Nat}(h:i<l.length)(h1:(¬(cP l[i]!.r).2=0\/¬oL l[i]!.r=l[i]!.sum)\/¬rj l l[i]!.r.name l[i]!.r.v 0=(i:Nat)):pY l i=false:=by
 unfold pY;by_cases h2:(cP l[i]!.r).2=0
 ·by_cases h3:oL l[i]!.r=l[i]!.sum
  ·have:=xd h (uW h2);rw[cj (by rcases h1 with(h1|h1)|h1;exact absurd h2 h1;exact absurd h3 h1;exact h1)]at this;rw[<-this];simp
  ·rw[cj h3];simp
 ·rw[cj h2];rfl
def nB:au:=[115,104,101,108,102]
def nA:au:=[101,110,116,114,121]
def NC:au:=[111,110]
def A4:au:=[111,102,102]
def Q8 (x:eu):List au:=[nA,gv x.sum,if x.off=true then A4 else NC]
def Eu (x:eu):au:=bQ (Q8 x)++(cP x.r).1
def Ix (s:fD):au:=bQ [nB,s.name]++(s.es.map Eu).flatten
def fj (s:fD):au×Int:=if nt s=false then([],1)else(Ix s,0)
end Go.Abs
namespace Go.Abs
def qC (s:fD)(i:Nat):au:=bQ [nB,s.name]++((s.es.take i).map Eu).flatten
def ID (s:fD):qC s 0=nB++[32]++s.name++[10]:=by simp[qC,bQ,bc]
def vD {s:fD}{i:Nat}(h:i<s.es.length):qC s (i+1)=qC s i++Eu s.es[i]! :=by
 unfold qC;have e:s.es.take (i+1)=s.es.take i++[s.es[i]!]:=by
  rw[List.take_add_one,List.getElem?_eq_getElem h];simp[h]
 rw[e];simp
def DT (s:fD):qC s s.es.length=Ix s:=by simp[qC,Ix]
def qe (r:Rec):(cP r).1.length<=4096:=by
 unfold cP;split
 ·simp
 ·rename_i h;unfold ct at h;repeat' split at h
  all_goals first|(exact absurd aM h)|skip
  ·rename_i h1;exact absurd h1 h
  ·rename_i h2;show(kG r).length<=4096;omega
def yd (x:eu):Eu x=nA++[32]++gv x.sum++(if x.off=true then [32]++A4++[10]else [32]++NC++[10])++(cP x.r).1:=by
 unfold Eu Q8 bQ;cases x.off<;>simp[bc]
def GV (x:eu):(Eu x).length<=4200:=by
 have:=qe x.r;have:=jQ x.sum;rw[yd];cases x.off<;>simp[nA,NC,A4]<;>omega
def yU {s:fD}(hn:s.name.length<=100):∀{i:Nat},i<=s.es.length->(qC s i).length<=200+i*4200
 |0,_=>by rw[ID];simp[nB];omega
 |i+1,h=>by
  have h1:=yU hn (i:=i) ae;have h2:=GV s.es[i]!;rw[vD ae,bA];omega
def DN {s:fD}(h:nt s=true):s.name.length<=16/\s.es.length<=64:=by
 unfold nt at h;simp only[aZ,aR]at h;refine⟨?_,h.1.2⟩;have:=h.1.1;unfold ey at this;simp only[aZ,aR]at this;omega
def Bz (n:cB):Bool:=!(decide (4<n.any.length) ||decide (200<Ny n))
def GY (r:Rec):Bool:=!(((decide (200<Kt r) ||decide (9<r.needs.length)) ||decide (9<r.bars.length)) ||decide (9<r.feats.length))
def EA (r:Rec):Bool:=GY r&&cr (fun k=>Bz r.needs[k]!) 0 r.needs.length
def EB (s:fD):Bool:=(decide (s.es.length<=6)&&decide (s.name.length<=60))&&cr (fun i=>EA s.es[i]!.r) 0 s.es.length
end Go.Abs
end
namespace Go.Abs
def Rf (a b:eu):eu.D a=eu.D b↔a=b:=by
 obtain⟨⟨n,⟨v1,v2,v3,v4,v5⟩,x,y,z⟩,s,o⟩:=a;obtain⟨⟨n',⟨w1,w2,w3,w4,w5⟩,x',y',z'⟩,s',o'⟩:=b;simp[eu.D,BI,He,BH,and_assoc]
def K2 (a b:List eu):a.map eu.D=b.map eu.D↔a=b:=r0 Rf a b
def iShf (a b:fD):fD.D a=fD.D b↔a=b:=by cases a;cases b;simp[fD.D,K2]
def bo {A:RT->Prop}(h:A (fun ds d=>A fun ds' d'=>ds'=ds->d=d'):=by
 (repeat' first|apply And.intro|intro _)
 all_goals rename_i e
 all_goals (try simp only[kv,D.str.injEq,D.int.injEq,D.bool.injEq,D.sl.injEq,D.ref.injEq,D.agg.injEq,D.fn.injEq,JM,iInt,iByt,iVer,K5,Hf,K4,BI,Rd,He,K3,BH,iRec,K2,iShf,Rf,Re,K1,iNd,Rh,ME,iRng,Rc,iMrk,iPr,iU8,jR,Rg,dW,ed,reduceCtorEq,iL,iK]at e)
 all_goals first|rfl|(simp only[e];done)|simp_all):PE (yq A):=Mv h
def M1 [c7]{P:Program}{ν:List (Nat×Nat)}{cE:List Nat}{t:List (Nat×pP)}{fid n:Nat}(hr:lk t n lN=lN):QV P ν cE t fid n:=by
 refine⟨?_, ?_, ?_⟩<;>rw[hr]
 ·exact fun _ _ h=>h.elim
 ·exact yw
 ·exact fun _ _ _ h=>h.elim
def pre1 (b c:UInt8)(r:au):([b]:au).isPrefixOf (c::r)=(b==c):=by simp[List.isPrefixOf]
def IV:Option Nat->Int
 |some k=>(k:Int)
 |none=>-1
def rU:∀(s:au)(b:UInt8),Lib.index s [b]=IV (s.findIdx? (fun c=>c==b))
 |[],b=>rfl
 |c::r,b=>by
  unfold Lib.index;rw[pre1,List.findIdx?_cons,rU r b];by_cases h:c=b
  ·subst h;simp[IV]
  ·have h1:(b==c)=false:=by simp[Ne.symm h]
   have h2:(c==b)=false:=by simp[h]
   simp only[h1,h2,et,bn];cases r.findIdx? (fun c=>c==b)with
   |none=>rfl
   |some k=>
    simp only[Option.map_some];rw[ai (by simp[IV])];simp[IV]
def Mu (s:au)(b:UInt8):Lib.cut s [b]=fE s b:=by
 unfold Lib.cut fE;rw[rU];cases s.findIdx? (fun c=>c==b)with
 |none=>simp[IV]
 |some k=>simp[IV]
def Es (s p:au):(Lib.trimPrefix s p,Lib.hasPrefix s p)=cO s p:=by
 unfold Lib.trimPrefix Lib.hasPrefix cO;split<;>rename_i h
 ·rw[h]
 ·simp only[Bool.not_eq_true]at h;rw[h]
def zM (b:au):∀l,bc b l=Lib.join l b
 |[]=>rfl
 |[t]=>(Lib.join_one t b).symm
 |t::u::r=>by
  rw[jJ _ _ _ aT,zM b (u::r),Lib.join_cons,Lib.join_cons];simp[Lib.joinTail]
def decDigits_eq (n:Nat):Lib.decDigits n=dw n:=by
 induction n using Nat.strongRecOn with
 |_ n ih=>
  rw[Lib.decDigits];by_cases h:n<10
  ·rw[dif_pos h,oZ h];rfl
  ·rw[dif_neg h,oY ae,ih (n/10) ae];rfl
def JR {n:Int}(h:0<=n):Lib.itoa n=dw n.toNat:=by
 unfold Lib.itoa;rw[ai ae,decDigits_eq]
def su (b:UInt8):∀(s cur:au),s.findIdx? (fun c=>c==b)=none->ch b.toNat s cur=[cur++s]
 |[],cur,_=>by simp[ch]
 |c::r,cur,h=>by
  rw[List.findIdx?_cons]at h;split at h
  ·cases h
  ·rename_i hc;have hr:r.findIdx? (fun c=>c==b)=none:=by
    cases hq:r.findIdx? (fun c=>c==b)with
    |none=>rfl
    |some k=>rw[hq]at h;cases h
   have hne:¬((c.toNat:Int)=(b.toNat:Int)):=fun e=>hc (by
    have:c.toNat=b.toNat:=ae;simp[jR.1 this])
   simp only[ch,ai hne];rw[su b r (cur++[c]) hr];simp
def qt (b:UInt8):∀(s cur:au)(k:Nat),s.findIdx? (fun c=>c==b)=some k->ch b.toNat s cur=(cur++s.take k)::ch b.toNat (s.drop (k+1)) []
 |[],cur,k,h=>by simp at h
 |c::r,cur,k,h=>by
  rw[List.findIdx?_cons]at h;split at h
  ·rename_i hc;have hk:k=0:=by simpa using h.symm
   subst hk;have hcb:c=b:=by simpa using hc
   subst hcb;simp[ch]
  ·rename_i hc;have hne:¬((c.toNat:Int)=(b.toNat:Int)):=fun e=>hc (by
    have:c.toNat=b.toNat:=ae;simp[jR.1 this])
   cases hq:r.findIdx? (fun c=>c==b)with
   |none=>rw[hq]at h;cases h
   |some j=>
    rw[hq]at h;have hk:k=j+1:=by simpa using h.symm
    subst hk;simp only[ch,ai hne];rw[qt b r (cur++[c]) j hq];simp
def FK (b:UInt8):∀(k:Nat)(s:ByteArray),Lib.countB s ⟨⟨[b]⟩⟩=k->(Lib.splitB ⟨⟨[b]⟩⟩ 0 k s).map (fun t=>t.data.toList)=ar s.data.toList b.toNat:=by
 intro k;induction k with
 |zero=>
  intro s h;rw[Lib.splitB_zero];have hi:Lib.indexB s ⟨⟨[b]⟩⟩=IV (s.data.toList.findIdx? (fun c=>c==b)):=rU _ b;cases hq:s.data.toList.findIdx? (fun c=>c==b)with
  |none=>simp[ar,su b _ [] hq]
  |some j=>
   rw[hq]at hi;have:=Lib.countB_hit s ⟨⟨[b]⟩⟩ j (aY 1) hi;omega
 |succ k ih=>
  intro s h;have hi:Lib.indexB s ⟨⟨[b]⟩⟩=IV (s.data.toList.findIdx? (fun c=>c==b)):=rU _ b;cases hq:s.data.toList.findIdx? (fun c=>c==b)with
  |none=>
   rw[hq]at hi;have:=Lib.countB_miss s ⟨⟨[b]⟩⟩ hi;omega
  |some j=>
   rw[hq]at hi;have h1:1<=(⟨⟨[b]⟩⟩:ByteArray).size:=aY 1;have hc:=Lib.countB_hit s ⟨⟨[b]⟩⟩ j h1 hi;rw[Lib.splitB_hit _ _ _ _ j hi];simp only[List.map_cons];rw[ih _ ae];have e1:(s.extract 0 (j+0)).data.toList=s.data.toList.take j:=by
    rw[Lib.extract_data];simp
   have e2:(s.extract (j+(⟨⟨[b]⟩⟩:ByteArray).size) s.size).data.toList=s.data.toList.drop (j+1):=by
    rw[Lib.extract_data];exact dQ (by rw[qA,Lib.size_eq];exact aY _)
   rw[e1,e2];simp only[ar];rw[qt b _ [] j hq];simp
end Go.Abs
section
namespace Go.Abs
open Go.Proofs
def Rp (c d:UInt8)(r:au):([124,124]:au).isPrefixOf (c::d::r)=(decide (c=124)&&decide (d=124)):=by
 have e:∀x:UInt8,((124:UInt8)==x)=decide (x=124):=fun x=>by
  by_cases h:x=124
  ·subst h;rfl
  ·rw[decide_eq_false h];exact beq_eq_false_iff_ne.2 (Ne.symm h)
 simp only[List.isPrefixOf,Bool.and_true,e]
def xp:∀(s cur:au),Lib.index s [124,124]=-1->aD s cur=[cur++s]
 |[],cur,_=>by simp[aD]
 |[c],cur,_=>rfl
 |c::d::r,cur,h=>by
  unfold Lib.index at h;rw[Rp]at h;by_cases h2:c=124/\d=124
  ·simp[h2.1,h2.2]at h
  ·have h3:(decide (c=124)&&decide (d=124))=false:=by rw[<-Bool.decide_and];exact decide_eq_false h2
   rw[h3,if_neg (by simp)]at h;have h4:Lib.index (d::r) [124,124]=-1:=by
    have:=Lib.index_ge (d::r) [124,124];split at h
    ·rename_i h5;exact beq_iff_eq.1 h5
    ·omega
   rw[aD,if_neg h2,xp (d::r) _ h4];simp
def xo:∀(s cur:au)(i:Nat),Lib.index s [124,124]=i->aD s cur=(cur++s.take i)::aD (s.drop (i+2)) []
 |[],cur,i,h=>by simp[Lib.index]at h
 |[c],cur,i,h=>by simp[Lib.index,List.isPrefixOf]at h
 |c::d::r,cur,i,h=>by
  unfold Lib.index at h;rw[Rp]at h;by_cases h2:c=124/\d=124
  ·rw[h2.1,h2.2]at h;have hi:i=0:=by simp at h;omega
   subst hi;rw[aD,if_pos h2];simp
  ·have h3:(decide (c=124)&&decide (d=124))=false:=by rw[<-Bool.decide_and];exact decide_eq_false h2
   rw[h3,if_neg (by simp)]at h;split at h
   ·omega
   ·obtain⟨j,rfl⟩:∃j,i=j+1:=⟨i-1,by
     have:=Lib.index_ge (d::r) [124,124];rename_i h5;have:Lib.index (d::r) [124,124]≠-1:=fun e=>h5 (beq_iff_eq.2 e)
     omega⟩
    rw[aD,if_neg h2,xo (d::r) _ j (by omega)];simp
def FL:∀(k:Nat)(s:ByteArray),Lib.countB s ⟨⟨[124,124]⟩⟩=k->(Lib.splitB ⟨⟨[124,124]⟩⟩ 0 k s).map (fun t=>t.data.toList)=aD s.data.toList []:=by
 intro k;induction k with
 |zero=>
  intro s h;rcases Lib.indexB_cases s ⟨⟨[124,124]⟩⟩with hi|⟨i,hi,_⟩
  ·rw[Lib.splitB_zero];rw[xp _ _ (show Lib.index s.data.toList [124,124]=-1 from hi)];rfl
  ·have:=Lib.countB_hit s ⟨⟨[124,124]⟩⟩ i (by decide) hi;omega
 |succ k ih=>
  intro s h;rcases Lib.indexB_cases s ⟨⟨[124,124]⟩⟩with hi|⟨i,hi,_⟩
  ·rw[Lib.countB_miss _ _ hi]at h;omega
  ·have hc:=Lib.countB_hit s ⟨⟨[124,124]⟩⟩ i (by decide) hi;rw[Lib.splitB_hit _ _ _ _ i hi,List.map_cons,ih _ (by omega),xo _ _ i (show Lib.index s.data.toList [124,124]=i from hi),Lib.extract_from_zero,Lib.extract_to_end];rfl
def xD {p:UInt8->Bool}:∀(l:au),∀x∈l.takeWhile p,p x=true
 |[],x,h=>by cases h
 |a::r,x,h=>by
  rw[List.takeWhile_cons]at h;split at h
  ·rename_i ha;rcases List.mem_cons.1 h with rfl|h
   ·exact ha
   ·exact xD r x h
  ·cases h
def rN {p:UInt8->Bool}:∀(l:au),(∀x∈l,p x=true)->l.dropWhile p=[]
 |[],_=>rfl
 |a::r,h=>by
  rw[List.dropWhile_cons,if_pos (h a (.head _))];exact rN r fun x hx=>h x (.tail _ hx)
def tT:∀s,iW s=s.dropWhile (· ==32)
 |[]=>rfl
 |c::r=>by
  unfold iW;by_cases h:c=32
  ·rw[if_pos h,tT r];simp[h]
  ·rw[if_neg h,List.dropWhile_cons,if_neg (by simpa using h)]
def GB (s:au):Lib.trimB s 32=dI s:=by
 unfold Lib.trimB Lib.trimLeftB Lib.trimRightB dI;rw[tT,tT];generalize hp:(fun c:UInt8=>c==32)=p;have hs:s=s.takeWhile p++s.dropWhile p:=(List.takeWhile_append_dropWhile).symm;generalize ha:s.takeWhile p=a at hs;generalize hm:s.dropWhile p=m at hs;have hall:∀x∈a,p x=true:=by rw[<-ha];exact xD s
 subst hs;rw[List.reverse_append,List.dropWhile_append];cases m with
 |nil=>
  simp only[List.reverse_nil,List.dropWhile_nil,List.isEmpty_nil,if_true];rw[rN a.reverse (fun x hx=>hall x (List.mem_reverse.1 hx))];rfl
 |cons c r=>
  have hc:p c=false:=by
   have:=List.head_dropWhile_not p (l:=a++c::r) (by rw[hm];simp);simpa[hm]using this
  have hne:((c::r).reverse.dropWhile p)≠[]:=by
   rw[List.reverse_cons,List.dropWhile_append];split
   ·simp[hc]
   ·simp
  rw[if_neg (by simpa using hne),List.reverse_append,List.reverse_reverse,List.dropWhile_append,rN _ hall];simp only[List.isEmpty_nil,if_true];rw[List.reverse_cons,List.dropWhile_append];split
  ·simp[hc]
  ·simp[hc]
end Go.Abs
namespace Go.Proofs
open Go.Shelf Go.RowKit Go.Lib
end Go.Proofs
end
section
namespace Go.Abs
def AN:fD:=⟨[],[]⟩
def bE (t:au):au×Bool:=if t.getLast? =some 10 then(t.dropLast,true)else(t,false)
def gC (s:au):List au:=(lnS s).map (· ++[10])++[JV s]
def fh (s:au):List au:=if JV s=[]then(lnS s).map (· ++[10])else gC s
def zr (l:List au):Bool:=(decide (l.length=3)&&decide (l[0]! =nA))&&(decide (l[2]! =NC) ||decide (l[2]! =A4))
def n8 (t:au):Int×Bool×Bool:=if(bE t).2=true/\zr (ar (bE t).1 32)=true then(vj (ar (bE t).1 32)[1]!,decide ((ar (bE t).1 32)[2]! =A4),nG (ar (bE t).1 32)[1]!)else(0,false,false)
def MB (t:au):Bool:=decide ((fE (bE t).1 32).1=nA)
def AJ (p:Nat->Bool):Nat->Nat->Nat
 |k,0=>k
 |k,f+1=>if p k=true then k else AJ p (k+1) f
def RH (p:Nat->Bool)(k n:Nat):Nat:=AJ p k (n-k)
def AK (p:Nat->Bool):∀f k,k<=AJ p k f/\AJ p k f<=k+f
 |0,k=>⟨aY _,aY _⟩
 |f+1,k=>by
  have:=AK p f (k+1);unfold AJ;split<;>omega
def Km (p:Nat->Bool)(k n:Nat):k<=RH p k n:=(AK p _ k).1
def NA (es:List eu)(r:Rec):Bool:=es.any fun x=>decide (x.r.name=r.name)&&decide (lM x.r.v r.v=0)
def KX (es:List eu)(r:Rec)(n:Int):Int:=if ¬oL r=n then 13 else if NA es r=true then 8 else if 64<=es.length then 10 else 0
def addI (es:List eu)(t:au)(n:Int)(off:Bool):Int×List eu:=if ¬(Ae t).2.1=0 then((Ae t).2.1,[])else if ¬KX es (Ae t).1 n=0 then(KX es (Ae t).1 n,[])else(0,es++[⟨(Ae t).1,n,off⟩])
def MT (P:List au)(k:Nat):Nat:=RH (fun j=>MB P[j]!) k P.length
def slice {α:Type}(l:List α)(a b:Nat):List α:=(l.take b).drop a
def uz (P:List au):Nat->List eu->Nat->List eu×Int×Int
 |0,es,_=>(es,0,0)
 |f+1,es,at'=>if at'<P.length then
   (if(n8 P[at']!).2.2=false then([],2,(at':Int)+1)
   else
    let q:=addI es (bc [] (slice P (at'+1) (MT P (at'+1)))) (n8 P[at']!).1 (n8 P[at']!).2.1
    if ¬q.1=0 then([],q.1,(at':Int)+1)else uz P f q.2 (MT P (at'+1)))
  else(es,0,0)
def Hb (t:au):Option au:=if(bE t).2=true/\(cO (bE t).1 (nB++[32])).2=true/\ey (cO (bE t).1 (nB++[32])).1=true then some (cO (bE t).1 (nB++[32])).1 else none
def Jx (nm:au)(q:List eu×Int×Int):fD×Int×Int:=if ¬q.2.1=0 then(AN,q.2.1,q.2.2)else(⟨nm,q.1⟩,0,0)
def mi (s:au):fD×Int×Int:=if 524288<s.length then(AN,3,0)else if(fh s).length=0 then(AN,2,1)else match Hb (fh s)[0]! with
 |none=>(AN,2,1)
 |some nm=>Jx nm (uz (fh s) (fh s).length [] 1)
end Go.Abs
namespace Go.Abs
def HM (s:au):1<=(gC s).length:=by unfold gC;simp
def HN (s:au):fh s=if(gC s)[(gC s).length-1]! =[]then(gC s).take ((gC s).length-1)else gC s:=by
 have e:∀(A:List au) (b:au),(A++[b])[(A++[b]).length-1]! =b:=fun A b=>aT
 unfold gC fh gC;rw[e];split
 ·simp
 ·rfl
def qz (s:au):(bE s).1.length<=s.length:=by
 unfold bE;split
 ·simp
 ·exact aY _
def Mw {s:au}(h:(((bE s).2=false\/¬((ar (bE s).1 32).length:Int)=3)\/¬(ar (bE s).1 32)[0]! =nA)\/¬(ar (bE s).1 32)[2]! =NC/\¬(ar (bE s).1 32)[2]! =A4):¬((bE s).2=true/\zr (ar (bE s).1 32)=true):=by
 rintro⟨h1,h2⟩;unfold zr at h2;simp only[aZ,cu,aR]at h2;rcases h with((h|h)|h)|h
 ·rw[h1]at h;cases h
 ·omega
 ·exact h h2.1.2
 ·rcases h2.2 with h3|h3
  ·exact h.1 h3
  ·exact h.2 h3
def Jt {s:au}(h:(((bE s).2=true/\((ar (bE s).1 32).length:Int)=3)/\(ar (bE s).1 32)[0]! =nA)/\((ar (bE s).1 32)[2]! =NC\/(ar (bE s).1 32)[2]! =A4)):((bE s).2=true/\zr (ar (bE s).1 32)=true)/\(ar (bE s).1 32).length=3:=by
 have h3:(ar (bE s).1 32).length=3:=ae;refine⟨⟨h.1.1.1, ?_⟩,h3⟩;unfold zr;simp only[aZ,cu,aR];exact⟨⟨h3,h.1.2⟩,h.2⟩
end Go.Abs
namespace Go.Abs
def Rk (s:au):Prop:=∀i,1<=i->i<(fh s).length->(n8 (fh s)[i]!).2.2=false
def J6 {s t:au}(h:t∈fh s):t.length<=s.length+1:=by
 have h1:t∈gC s:=by
  unfold fh at h;split at h
  ·unfold gC;exact List.mem_append_left _ h
  ·exact h
 unfold gC at h1;rcases List.mem_append.1 h1 with h2|h2
 ·obtain⟨u,hu,rfl⟩:=eI.1 h2;have:=gS s 10 (oQ hu);simp;omega
 ·rw[cJ.1 h2];have hp:=fR 10 s [];have h3:=nv s 10 (i:=(ar s 10).length-1) (by unfold ar;omega);exact cW h3 (Nat.le_succ _)
def Dy {s:au}{i:Nat}(h:i<(fh s).length):(fh s)[i]!.length<=s.length+1:=J6 (bS h)
def FH {s:au}(h:524288<s.length):mi s=(AN,3,0):=by unfold mi;rw[av h]
def FI {s:au}(h:¬524288<s.length)(h1:(fh s).length=0):mi s=(AN,2,1):=by unfold mi;rw[ai h,av h1]
def zE (t:au):Hb t=if((bE t).2=true/\(cO (bE t).1 [115,104,101,108,102,32]).2=true)/\ey (cO (bE t).1 [115,104,101,108,102,32]).1=true then some (cO (bE t).1 [115,104,101,108,102,32]).1 else none:=by
 unfold Hb;rw[show nB++[32]=[115,104,101,108,102,32]from rfl];simp only[and_assoc]
def FG {s:au}(h:¬524288<s.length)(h1:¬(fh s).length=0)(h2:¬(((bE (fh s)[0]!).2=true/\(cO (bE (fh s)[0]!).1 [115,104,101,108,102,32]).2=true)/\ey (cO (bE (fh s)[0]!).1 [115,104,101,108,102,32]).1=true)):mi s=(AN,2,1):=by
 unfold mi;rw[ai h,ai h1,zE,ai h2]
def FF {s:au}(h:¬524288<s.length)(h1:¬(fh s).length=0)(h2:((bE (fh s)[0]!).2=true/\(cO (bE (fh s)[0]!).1 [115,104,101,108,102,32]).2=true)/\ey (cO (bE (fh s)[0]!).1 [115,104,101,108,102,32]).1=true):
  mi s=Jx (cO (bE (fh s)[0]!).1 [115,104,101,108,102,32]).1 (uz (fh s) (fh s).length [] 1):=by
 unfold mi;rw[ai h,ai h1,zE,av h2]
def AD (P:List au)(es:List eu)(i:Nat):List eu×Int×Int:=uz P (P.length-i) es i
def wT (P:List au):∀(f g:Nat)(es:List eu)(i:Nat),P.length<=i+f->P.length<=i+g->uz P f es i=uz P g es i
 |0,0,_,_,_,_=>rfl
 |0,g+1,es,i,h,_=>by unfold uz;rw[ai ae]
 |f+1,0,es,i,_,h=>by unfold uz;rw[ai ae]
 |f+1,g+1,es,i,h1,h2=>by
  have hn:i+1<=MT P (i+1):=Km _ _ _;unfold uz;dsimp only;rw[wT P f g _ _ ae ae]
def Fy (P:List au):uz P P.length [] 1=AD P [] 1:=wT P _ _ _ _ ae ae
def Fz {P:List au}{es:List eu}{i:Nat}(h:P.length<=i):AD P es i=(es,0,0):=by
 unfold AD;rw[show P.length-i=0 by omega];rfl
def Cu {P:List au}{es:List eu}{i:Nat}(h:i<P.length)(h1:(n8 P[i]!).2.2=false):AD P es i=([],2,(i:Int)+1):=by
 unfold AD;obtain⟨f,hf⟩:∃f,P.length-i=f+1:=⟨P.length-i-1,ae⟩
 rw[hf];unfold uz;rw[av h,av h1]
def GZ {nm:au}{es:List eu}{e k:Int}(h:¬e=0):Jx nm (es,e,k)=(AN,e,k):=by unfold Jx;rw[av h]
end Go.Abs
namespace Go.Abs
end Go.Abs
namespace Go.Abs
end Go.Abs
end
section
namespace Go.Abs
structure PG (x:eu):Prop where
 w:RecW x.r
 c:ct x.r=(0,0)
 l:(kG x.r).length<=800
 s:oL x.r=x.sum
 m:dh x.r
def PG.nT {x:eu}(h:PG x):0<=x.sum/\x.sum<18446744073709551616:=by
 rw[<-h.s];unfold oL;split
 ·decide
 ·exact CD _
end Go.Abs
namespace Go.Abs
def B2:au:=[111,110,101]
def Ee:au:=[115,104,101,108,102,32,111,110,101,10]
def Bp:au:=[115,104,101,108,102,32,111,110,101,10,101,110,116,114,121,32,48,32,111,110,10]
def Q5:fj ⟨B2,[]⟩=(Ee,0):=by decide+kernel
def Q4:mi Ee=(⟨B2,[]⟩,0,0):=by decide+kernel
def KV:(mi Bp).2=(2,2):=by decide+kernel
def Mn:(fh Ee).length=1:=by decide+kernel
def Gw:(fh Bp).length=2/\(n8 (fh Bp)[1]!).2.2=false:=by decide+kernel
def Mo:Rk Ee:=fun i h1 h2=>by rw[Mn]at h2;omega
def Mp:Rk Bp:=fun i h1 h2=>by
 rw[Gw.1]at h2;obtain rfl:i=1:=ae;exact Gw.2
end Go.Abs
end
namespace Go.Abs
def Ol (Y:Ctx):Prop:=∀(s:au),(s.length<=1048576)->Y.pre 331 [.str s,.str [10],.int .i64 1,.int .i64 (-1)]/\Y.val 331 [.str s,.str [10],.int .i64 1,.int .i64 (-1)]=.sl 1 ((gC s).map D.str)
def Oe (Y:Ctx):Prop:=∀(s:au),(s.length<=1048576)->Y.pre 244 [.str s,.str [10]]/\Y.val 244 [.str s,.str [10]]=.tup [.str (bE s).1,.bool (bE s).2]
def KJ (Y:Ctx):Prop:=∀(s:au),(s.length<=1048576)->(Rk s)->Y.pre 86 [.str s]/\Y.val 86 [.str s]=.tup [fD.D (mi s).1,.int .i64 (mi s).2.1,.int .i64 (mi s).2.2]
section
section
variable [c7] {P:Program} {ν:List (Nat×Nat)} {cE:List Nat} {t:List (Nat×pP)} {fid n key u k:Nat} {af:aC} {acV:List D} {nx:Nat} {m:List (Nat×bK)} {K:D->St->Prop}
def FR {a:D}{k q i:Nat}{es:List D}{m1:List (Nat×bK)}(ha:a.bG=true)(hes:bt es=true)(hmix:P.follows .mixedOrders=true)(hC:IQ P ν cE fid af)(hnp:1=af.np)
  (hl:look m1 q=some (.buf k es)) (hK:K (.own nx k 0 i) ⟨nx+1,(nx,.buf k es)::m⟩) (hw:bH ((under t key u).at 0) af.body (lL af (One (.own q k 0 i) m1)) (gG af [a]) ⟨0,[]⟩):qE P ν cE (under t key u) fid [a] ⟨nx,m⟩ K:=by
 refine zD (σi:=[]) (m0:=[]) (cs:=[a]) (fun q=>aH t key u q) hmix hC rfl ?_ hnp rfl (fun _ _ h=>by cases h) (fun _ _ h=>by cases h) hw ?_
 ·intro i hi
  match i,hi with
  |0,_=>exact .inl ⟨rfl,ha⟩
 ·rintro d m2 ⟨rfl,rfl⟩;refine⟨[(q,nx)],q+1,_,.own nx k 0 i,⟨rfl, ?_,Nat.le_succ _,(fun _ _ h=>by cases h), ?_,(fun _ _ h=>by cases h), ?_⟩,.inr (.inl (by simp[sj,FA,mh])),hK⟩
  ·simp[gY]
  ·intro i l h;obtain⟨rfl,rfl⟩:=Prod.mk.inj (cJ.1 h);exact .inr (aY _)
  ·intro l bb h;simp only[look]at h;split at h
   ·rename_i e;subst e;obtain rfl:=bC h;exact .inl ⟨q,_,.head _,hl,rfl,.inl ⟨rfl,hes⟩⟩
   ·rename_i hn;exact .inr ⟨by simp only[lu,ai hn],(fun _ h=>by cases h),h⟩
end
end
def cmp_isNaN_int:aC:=⟨1,2,fM,bM,(sq (r1 [gm dt] 1 0) (sq (r1 [gm s0,gm s0,cg l0 l1,gm l2] 1 3) .ret))⟩
def w714 {Y:Ctx}(hm:(Y.at 0).bd)  (x:Int)   :dd Y cmp_isNaN_int (.bool false) [.int .i64 x]:=by
 show bH _ _ _ [⟨_,_⟩,_] _;refine ak ?_;refine cU ?_;refine bF ?_;simp
def Pg (Y:Ctx):Prop:=∀(x:Int),Y.pre 714 [.int .i64 x]/\Y.val 714 [.int .i64 x]=.bool false
def vY:aC:=⟨1,2,fM,bM,(sq (r1 [gm dt] 1 0) (sq (r1 [gm s0,gm s0,cg l0 l1,gm l2] 1 3) .ret))⟩
def w704 {Y:Ctx}(hm:(Y.at 0).bd)  (x:au)   :dd Y vY (.bool false) [.str x]:=by
 show bH _ _ _ [⟨_,_⟩,_] _;refine ak ?_;refine cU ?_;refine bF ?_;simp
def Pf (Y:Ctx):Prop:=∀(x:au),Y.pre 704 [.str x]/\Y.val 704 [.str x]=.bool false
def cmp_Compare_int:aC:=⟨2,10,[⟨2,none⟩],bM,(sq (r1 [gm bp] 2 0) (sq (r1 [gm s0,gx 714 [l0] bM,gm l1] 3 2) (sq (r1 [gm s1,gx 714 [l0] bM,gm l1] 5 2) (sq (sq (r1 [gm s3] 4 0) (.cond s4 (sq (sq (r1 [gm s5] 6 0) (.cond s6 (sq (r1 [gm bp] 2 0) .ret) .skip)) (sq (r1 [gn (.mv (.c (.int .i64 (-1))))] 2 0) .ret)) .skip)) (sq (sq (r1 [gm s5] 7 0) (.cond s7 (sq (r1 [gm cq] 2 0) .ret) .skip)) (sq (sq (r1 [gm s0,gm s1,aP l0 l1] 8 2) (.cond s8 (sq (r1 [gn (.mv (.c (.int .i64 (-1))))] 2 0) .ret) .skip)) (sq (sq (r1 [gm s0,gm s1,cH l0 l1] 9 2) (.cond s9 (sq (r1 [gm cq] 2 0) .ret) .skip)) (sq (r1 [gm bp] 2 0) .ret))))))))⟩
def w532 {Y:Ctx}(hm:(Y.at 0).bd)(h714:Pg Y)(a:Int)(b:Int)   :dd Y cmp_Compare_int (.int .i64 (dY a b)) [.int .i64 a,.int .i64 b]:=by
 show bH _ _ _ [⟨_,_⟩,⟨_,_⟩,_,_,_,_,_,_,_,_] _;refine ak ?_;refine aE ?_;refine aq (hc:=h714 _) ?_;refine aE ?_;refine aq (hc:=h714 _) ?_;refine aF ?_;refine aw (t:=false) (fun h=>by cases h) (fun _=>?_);refine aI ?_;refine aw (t:=false) (fun h=>by cases h) (fun _=>?_);refine aU ?_;refine cw (fun hc3=>?_) fun hc3=>?_
 ·refine aI ?_;refine cL ?_;simp[dY,hc3]
 refine aU ?_;refine cw (fun hc4=>?_) fun hc4=>?_
 ·refine aI ?_;refine cL ?_;unfold dY;rw[ai hc3,av hc4]
 refine aI ?_;refine cL ?_;unfold dY;rw[ai hc3,ai hc4]
def LB (Y:Ctx):Prop:=∀(a:Int)(b:Int),Y.pre 532 [.int .i64 a,.int .i64 b]/\Y.val 532 [.int .i64 a,.int .i64 b]=.int .i64 (dY a b)
def td:aC:=⟨2,10,[⟨2,none⟩],bM,(sq (r1 [gm bp] 2 0) (sq (r1 [gm s0,gx 704 [l0] bM,gm l1] 3 2) (sq (r1 [gm s1,gx 704 [l0] bM,gm l1] 5 2) (sq (sq (r1 [gm s3] 4 0) (.cond s4 (sq (sq (r1 [gm s5] 6 0) (.cond s6 (sq (r1 [gm bp] 2 0) .ret) .skip)) (sq (r1 [gn (.mv (.c (.int .i64 (-1))))] 2 0) .ret)) .skip)) (sq (sq (r1 [gm s5] 7 0) (.cond s7 (sq (r1 [gm cq] 2 0) .ret) .skip)) (sq (sq (r1 [gm s0,gm s1,aP l0 l1] 8 2) (.cond s8 (sq (r1 [gn (.mv (.c (.int .i64 (-1))))] 2 0) .ret) .skip)) (sq (sq (r1 [gm s0,gm s1,cH l0 l1] 9 2) (.cond s9 (sq (r1 [gm cq] 2 0) .ret) .skip)) (sq (r1 [gm bp] 2 0) .ret))))))))⟩
def w516 {Y:Ctx}(hm:(Y.at 0).bd)(h704:Pf Y)(a:au)(b:au)   :dd Y td (.int .i64 (rK a b)) [.str a,.str b]:=by
 show bH _ _ _ [⟨_,_⟩,⟨_,_⟩,_,_,_,_,_,_,_,_] _;refine ak ?_;refine aE ?_;refine aq (hc:=h704 _) ?_;refine aE ?_;refine aq (hc:=h704 _) ?_;refine aF ?_;refine aw (t:=false) (fun h=>by cases h) (fun _=>?_);refine aI ?_;refine aw (t:=false) (fun h=>by cases h) (fun _=>?_);refine aU ?_;refine cw (fun hc3=>?_) fun hc3=>?_
 ·refine aI ?_;refine cL ?_;simp[rK,hc3]
 refine aU ?_;refine cw (fun hc4=>?_) fun hc4=>?_
 ·refine aI ?_;refine cL ?_;simp_all[rK]
 refine aI ?_;refine cL ?_;simp_all[rK]
def OV (Y:Ctx):Prop:=∀(a:au)(b:au),Y.pre 516 [.str a,.str b]/\Y.val 516 [.str a,.str b]=.int .i64 (rK a b)
def Ms:aC:=⟨1,9,fM,bM,(sq (r1 [gm bp] 1 0) (sq (r1 [gm bp] 7 0) (sq (sq (rg [gm s0,gl l0,gm bp] [(5,0),(3,1),(2,2)]) (.block 0 (.loop (sq (r1 [aP s2 s3] 4 0) (sq (eN s4 0) (sq (.block 1 (sq (r1 [ga 1 s5 s2,gd l0,gm l1] 6 2) (sq (r1 [gm s6,gm s7,cg l0 l1] 8 2) (.cond s8 (sq (r1 [gm s6,gm l0] 1 1) .ret) .skip)))) (r1 [ax s2 cq,gm l0] 2 1))))))) (sq (r1 [gm s7,gm l0] 1 1) .ret))))⟩
def w531 {Y:Ctx}(hm:(Y.at 0).bd)  (l:List Int)   :dd Y Ms (.int .i64 (eA (fun i=>l[i]!) 0 l.length)) [.sl 1 (l.map (D.int .i64))]:=by
 show bH _ _ _ [⟨_,_⟩,_,_,_,_,_,_,_,_] _;refine ak ?_;refine cU ?_;intro u0;refine aA ?_;refine bh hm (ι:=Nat) (fun i=>[.un,.un,⟨true,.int .i64 (i:Nat)⟩,⟨true,.int .i64 (l.length:Nat)⟩,.un,⟨true,.sl 1 (l.map (D.int .i64))⟩,.un,⟨true,.int .i64 0⟩,.un]) (fun i=>[]) 5 (fun i=>i<=l.length/\eA (fun i=>l[i]!) 0 l.length=eA (fun i=>l[i]!) i l.length) (fun i=>l.length-i) 0 ⟨ae,rfl⟩ (dn []) ?_;rintro i ⟨hi,hr⟩;refine aB ?_;refine cw (fun hc0=>?_) fun hc0=>?_
 ·refine aB ?_;refine cC i ?_;refine cy (v:=.int .i64 l[i]!) ?_;refine aU ?_;refine eP (fun hc1=>?_) fun hc1=>?_
  ·refine aU ?_;refine cL ?_;rw[hr,jF ae hc1]
  refine aU ?_;exact⟨i+1,⟨ae,by rw[hr,mB ae hc1]⟩,ae,(dn [])⟩
 refine aU ?_;refine cL ?_;rw[hr,mA ae]
def OX (Y:Ctx):Prop:=∀(l:List Int),Y.pre 531 [.sl 1 (l.map (D.int .i64))]/\Y.val 531 [.sl 1 (l.map (D.int .i64))]=.int .i64 (eA (fun i=>l[i]!) 0 l.length)
def yW:aC:=⟨1,3,[⟨1,some (5,true)⟩],wg,(sq (rg [gb 5 s0,gb 5 (.c (.agg [.int .i64 0,.int .i64 0,.int .i64 0,.str [],.str []]))] [(2,0),(1,1)]) (sq (rg [gf 4 s2,gt 1 l0 cse] []) (sq (rg [gk 5 true s2,gt 5 s1 l0] []) .ret)))⟩
def w530 {Y:Ctx}(hm:(Y.at 0).bd)  (v:bX)   :dd Y yW (bX.D (qO v)) [bX.D v]:=by
 show bH _ _ _ [⟨_,_⟩,_,_] _;refine ak ?_;refine aI ?_;refine bL _ (he:=bN) ?_;refine aF ?_;refine bO (?_);rfl
def OW (Y:Ctx):Prop:=∀(v:bX),Y.pre 530 [bX.D v]/\Y.val 530 [bX.D v]=bX.D (qO v)
def A2:aC:=⟨2,10,[⟨2,none⟩],bM,(sq (r1 [gm bp] 2 0) (sq (rg [gm s0,gx 659 [l0] bM,gm s1,gx 659 [l2] bM,gm l1,gm l3] [(3,4),(4,5)]) (sq (sq (r1 [gm s3,gm l0,gmt 1 s4,ew l1 l2] 5 3) (.cond s5 (sq (r1 [gm s0,gx 658 [l0] bM,gm l1,ge l2 0,ge l2 1,gm l3,gm l4] 6 5) (sq (r1 [gm s1,gx 658 [l0] bM,gm l1,ge l2 0,ge l2 1,gm l3,gm l4] 7 5) (sq (r1 [gm s6,gm s7,gx 532 [l0,l1] fV,gm l2] 2 3) .ret))) .skip)) (sq (sq (r1 [gm s3,gm s4,gn (.eqA true false [.b] l0 l1)] 8 2) (.cond s8 (sq (sq (r1 [gm s3] 9 0) (.cond s9 (sq (r1 [gn (.mv (.c (.int .i64 (-1))))] 2 0) .ret) .skip)) (sq (r1 [gm cq] 2 0) .ret)) .skip)) (sq (r1 [gm s0,gm s1,gx 516 [l0,l1] fV,gm l2] 2 3) .ret)))))⟩
def w534 {Y:Ctx}(hm:(Y.at 0).bd)(h516:OV Y)(h532:LB Y)(h658:I6 Y)(h659:LD Y)(a:au)(b:au)   :dd Y A2 (.int .i64 (nw a b)) [.str a,.str b]:=by
 show bH _ _ _ [⟨_,_⟩,⟨_,_⟩,_,_,_,_,_,_,_,_] _;refine ak ?_;refine aE ?_;refine aq (hc:=h659 _) ?_;refine aS ?_;refine aq (hc:=h659 _) ?_;refine ic ?_;refine cw (fun hc0=>?_) fun hc0=>?_
 ·refine aB ?_;refine aq (hc:=h658 _) ?_;refine cU ?_;refine aq (hc:=h658 _) ?_;refine ic ?_;refine aq (hc:=h532 _ _) ?_;refine aB ?_;refine cL ?_;unfold nw;rw[av hc0]
 refine aI ?_;refine Rs (hb:=eqBb _ _) ?_;refine aS ?_;refine aw (fun hc1=>?_) (fun hc1=>?_)
 ·simp only[bB,bx]at hc1;refine aI ?_;refine cw (fun hc2=>?_) fun hc2=>?_
  ·refine aI ?_;refine cL ?_;have hn:¬(b6 a=true/\b6 b=true):=by rintro⟨h1,h2⟩;simp[h1,h2]at hc0
   unfold nw;rw[ai hn];rw[av hc2]
  refine aF ?_;refine cL ?_;have hn:¬(b6 a=true/\b6 b=true):=by rintro⟨h1,h2⟩;simp[h1,h2]at hc0
  unfold nw;rw[ai hn];rw[ai (by simp[hc2]),av (by cases h:b6 b with|true=>rfl|false=>exact absurd (hc2.trans h.symm) hc1)]
 simp only[bY,aR]at hc1;refine aE ?_;refine aq (hc:=h516 _ _) ?_;refine aB ?_;refine cL ?_;have hn:¬(b6 a=true/\b6 b=true):=by rintro⟨h1,h2⟩;simp[h1,h2]at hc0
 unfold nw;rw[ai hn];have h1:b6 a=false:=by cases h:b6 a with|false=>rfl|true=>exact absurd ⟨h,hc1▸h⟩ hn
 rw[ai (by simp[h1]),ai (by rw[<-hc1];simp[h1])]
def OY (Y:Ctx):Prop:=∀(a:au)(b:au),Y.pre 534 [.str a,.str b]/\Y.val 534 [.str a,.str b]=.int .i64 (nw a b)
def tt:aC:=⟨2,16,[⟨2,none⟩],bM,(sq (rg [gb 5 s0,gb 5 s1,gm bp] [(3,0),(4,1),(2,2)]) (sq (sq (r2 [gk 5 true s3,gx 209 [l0] wg,jx l1,gm l2,cl 3 (.ld 5 true s4),cl 3 (.call 209 [l4] wg),cl 3 (.un .not l5),eK l3 l6,gm l7,cl 8 (.ld 5 true s3),cl 8 (.call 530 [l9] wg),cl 8 (.ld 5 true s4),cl 8 (.call 530 [im] wg),cl 8 (.eqA false true [.i .i64,.i .i64,.i .i64,.s,.s] l10 js),eK l8 ki] 5 14) (.cond s5 (sq (r1 [gm bp] 2 0) .ret) .skip)) (sq (sq (r2 [gf 0 s3,gd l0,gf 0 s4,gd l2,gx 532 [l1,l3] fV,gf 1 s3,gd l5,gf 1 s4,gd l7,gx 532 [l6,l8] fV,gf 2 s3,gd l10,gf 2 s4,gd js,gx 532 [im,ki] fV,gn (.bsl 1 (.int .i64 0) 3 [(0,l4),(1,l9),(2,kW)]),gx 531 [me] [[.sl 1 [.a]]],gm ng] 6 17) (sq (r1 [gm s6,cg l0 bp] 7 1) (.cond s7 (sq (r1 [gm s6,gm l0] 2 1) .ret) .skip))) (sq (sq (r1 [gf 3 s3,gd l0,aL l1 cse] 8 2) (.cond s8 (sq (r1 [gm cq] 2 0) .ret) .skip)) (sq (sq (r1 [gf 3 s4,gd l0,aL l1 cse] 9 2) (.cond s9 (sq (r1 [gn (.mv (.c (.int .i64 (-1))))] 2 0) .ret) .skip)) (sq (rt [gf 3 s3,gd l0,gx 533 [l1,(i8 46)] fV,gf 3 s4,gd l3,gx 533 [l4,(i8 46)] fV,gm l2,gm l5] [(11,6),(12,7)]) (sq (sq (r1 [gm bp] 10 0) (.block 0 (.loop (sq (sq (r1 [gm iP,gm kp,gl l1,aP l0 l2,gm l3,gmt 4 iP,gmt 4 mS,ca 4 (.len l6),ca 4 (qH l5 l7),ew l4 l8] 13 9) (eN qp 0)) (sq (.block 1 (sq (r2 [gm kp,gm iP,ga 1 l0 l1,gd l2,gm mS,gm iP,ga 1 l4 l5,gd l6,gx 534 [l3,l7] fV,gm l8] 14 9) (sq (r1 [gm tq,cg l0 bp] 15 1) (.cond wu (sq (r1 [gm tq,gm l0] 2 1) .ret) .skip)))) (r1 [gm iP,ax l0 cq,gm l1] 10 2)))))) (sq (r1 [gm kp,gl l0,gm mS,gl l2,gx 532 [l1,l3] fV,gm l4] 2 5) .ret))))))))⟩
def w295 {Y:Ctx}(hm:(Y.at 0).bd)(h209:D1 Y)(h530:OW Y)(h531:OX Y)(h532:LB Y)(h533:Gb Y)(h534:OY Y)(a:bX)(b:bX)  (hp0:a.sm/\b.sm):dd Y tt (.int .i64 (lM a b)) [bX.D a,bX.D b]:=by
 show bH _ _ _ [⟨_,_⟩,⟨_,_⟩,_,_,_,_,_,_,_,_,_,_,_,_,_,_] _;refine ak ?_;refine aU ?_;refine aq (hc:=h209 a hp0.1) ?_;refine aB ?_;refine dq (hc:=fun hf=>h209 b hp0.2) ?_;refine aE ?_;refine dq (hc:=fun hf=>h530 a) ?_;refine aS ?_;refine dq (hc:=fun hf=>h530 b) ?_;refine Rt (hb:=bX.eq _ _) ?_;refine aA ?_;refine aw (fun hc0=>?_) (fun hc0=>?_)
 ·simp only[cu,bB,aR]at hc0;refine aI ?_;refine cL ?_;rcases hc0 with hc0|hc0
  ·unfold lM;rw[av hc0]
  ·exact(wI hc0).symm
 simp only[dc,bY,bx]at hc0;have hv:¬(eF a=false\/eF b=false):=by simp only[not_or,Bool.not_eq_false];first|exact hc0|exact hc0.1
 refine aU ?_;refine aq (hc:=h532 _ _) ?_;refine aE ?_;refine aq (hc:=h532 _ _) ?_;refine aE ?_;refine aq (hc:=h532 _ _) ?_;refine dK ([dY a.major b.major,dY a.minor b.minor,dY a.patch b.patch].map (D.int .i64)) ?_;refine aq (hc:=h531 [dY a.major b.major,dY a.minor b.minor,dY a.patch b.patch]) (ha:=fun _=>aj (fun d=>[d]) (lX (q:=D.int .i64) (xs:=[dY a.major b.major,dY a.minor b.minor,dY a.patch b.patch]) (fun _=>rfl) ah)) (hp:=fun _=>⟨j9 (q:=D.int .i64) (xs:=[dY a.major b.major,dY a.minor b.minor,dY a.patch b.patch]) (fun _=>rfl) ah,trivial⟩) ?_;refine aU ?_;refine aw (fun hc1=>?_) (fun hc1=>?_)
 ·simp only[bB,bx]at hc1;refine aF ?_;refine cL ?_;exact G1 hv hc1
 simp only[bY,aR]at hc1;obtain⟨z1,z2,z3⟩:=G2 hc1;refine aB ?_;have hcp:=GK hv z1 z2 z3;have hpn:¬a.pre=b.pre:=fun e=>hc0.2 (Jp z1 z2 z3 e)
 refine aE ?_;refine cw (fun hc2=>?_) fun hc2=>?_
 ·refine aI ?_;refine cL ?_;rw[hcp];unfold rl;rw[ai hpn,av hc2]
 refine aU ?_;refine cw (fun hc3=>?_) fun hc3=>?_
 ·refine aI ?_;refine cL ?_;rw[hcp];unfold rl;rw[ai hpn,ai hc2,av hc3]
 refine aE ?_;refine aq (hc:=h533 a.pre 46 hp0.1.1) ?_;refine aA ?_;refine aq (hc:=h533 b.pre 46 hp0.2.1) ?_;refine aU ?_;refine bh hm (ι:=Nat) (fun i=>[.un,.un,.un,⟨true,.ptr 0 5 0 0⟩,⟨true,.ptr 1 5 0 0⟩,.un,.un,.un,.un,.un,⟨true,.int .i64 (i:Nat)⟩,⟨true,.sl 1 ((ar a.pre 46).map D.str)⟩,⟨true,.sl 1 ((ar b.pre 46).map D.str)⟩,.un,.un,.un]) (fun i=>[(0,.buf 5 [bX.D a]),(1,.buf 5 [bX.D b])]) 53 (fun i=>(i<=(ar a.pre 46).length/\i<=(ar b.pre 46).length)/\lM a b=pM (ar a.pre 46) (ar b.pre 46) i) (fun i=>(ar a.pre 46).length-i) 0 ⟨⟨ae,ae⟩,by rw[hcp];unfold rl;rw[ai hpn,ai hc2,ai hc3]⟩ (dn [(0,0),(1,1)]) ?_;rintro i ⟨hi,hr⟩;refine aI ?_;intro u0;refine aE ?_;refine kd ?_;refine aB ?_;refine cw (fun hc4=>?_) fun hc4=>?_
 ·refine aI ?_;refine cC i (hb:=fun _=>ae) ?_;refine cy (v:=.str (ar a.pre 46)[i]!) (hi:=fun _=>ae) ?_;refine aA ?_;refine cC i (hb:=fun _=>ae) ?_;refine cy (v:=.str (ar b.pre 46)[i]!) (hi:=fun _=>ae) ?_;refine aq (hc:=h534 _ _) ?_;refine aF ?_;refine eP (fun hc5=>?_) fun hc5=>?_
  ·refine aU ?_;refine cL ?_;rw[hr,xB ae hc5]
  refine bP ?_;exact⟨i+1,⟨⟨ae,ae⟩,by rw[hr,AR ae hc5]⟩,ae,(dn [(0,0),(1,1)])⟩
 refine aI ?_;intro u1;refine aA ?_;intro u2;refine aq (hc:=h532 _ _) ?_;refine aB ?_;refine cL ?_;rw[hr,xA ae]
def Oh (Y:Ctx):Prop:=∀(a:bX)(b:bX),(a.sm/\b.sm)->Y.pre 295 [bX.D a,bX.D b]/\Y.val 295 [bX.D a,bX.D b]=.int .i64 (lM a b)
def yI:aC:=⟨1,6,[⟨1,none⟩,⟨2,none⟩],fV,(sq (rg [gb 9 s0,gm cse,gm bp] [(3,0),(1,1),(2,2)]) (sq (sq (r1 [gk 9 true s3,gx 70 [l0] [[.a,.a,.a,.a,.a,.a,.sl 3 [.sl 4 [.a,.a,.sl 1 [.a],.a],.a,.a],.sl 3 [.a,.a,.a],.sl 2 [.a,.sl 1 [.a]]]],gm l1,ge l2 0,ge l2 1,gm l3,gm l4] 4 5) (sq (r1 [gm s4,cg l0 bp] 5 1) (.cond s5 (sq (rg [gm s4,gm cse,gm l0] [(1,1),(2,2)]) .ret) .skip))) (sq (rg [gk 9 true s3,gx 215 [l0] [[.a,.a,.a,.a,.a,.a,.sl 3 [.sl 4 [.a,.a,.sl 1 [.a],.a],.a,.a],.sl 3 [.a,.a,.a],.sl 2 [.a,.sl 1 [.a]]]],gm l1,gm bp] [(1,2),(2,3)]) .ret)))⟩
def w72 {Y:Ctx}(hm:(Y.at 0).bd)(h70:C70 Y)(h215:Lr Y)(r:Rec)  (hp0:dh r):dd Y yI (.tup [.str (cP r).1,.int .i64 (cP r).2]) [Rec.D r]:=by
 show bH _ _ _ [⟨_,_⟩,_,_,_,_,_] _;refine ak ?_;refine aU ?_;refine aq (hc:=h70 r hp0) ?_;refine gy ?_;refine cw (fun hc0=>?_) fun hc0=>?_
 ·refine aU ?_;refine bO (aN (aj D.str ?_) (aj (D.int .i64) ?_));all_goals
   simp[cP,hc0]
 refine aA ?_;have hgd:=n3 hc0;refine aS ?_;refine aq (hc:=h215 r ⟨hgd,hp0⟩) ?_;refine aE ?_;refine bO (aN (aj D.str ?_) (aj (D.int .i64) ?_));all_goals
  simp[cP,hc0]
def C72 (Y:Ctx):Prop:=∀(r:Rec),(dh r)->Y.pre 72 [Rec.D r]/\Y.val 72 [Rec.D r]=.tup [.str (cP r).1,.int .i64 (cP r).2]
def B7:aC:=⟨1,7,[⟨1,none⟩,⟨2,none⟩],fV,(sq (rg [gb 9 s0,gm (iu 0),gm bp] [(3,0),(1,1),(2,2)]) (sq (rg [gk 9 true s3,gx 72 [l0] [[.a,.a,.a,.a,.a,.a,.sl 3 [.sl 4 [.a,.a,.sl 1 [.a],.a],.a,.a],.sl 3 [.a,.a,.a],.sl 2 [.a,.sl 1 [.a]]]],gm l1,ge l2 0,ge l2 1,gm l3,gm l4] [(6,5),(4,6)]) (sq (sq (r1 [gm s4,cg l0 bp] 5 1) (.cond s5 (sq (rg [gm s4,gm (iu 0),gm l0] [(1,1),(2,2)]) .ret) .skip)) (sq (rg [gm s6,gn (.s2b l0),gx 220 [l1] [[.sl 1 [.a]]],gm l2,gm bp] [(1,3),(2,4)]) .ret))))⟩
def w74 {Y:Ctx}(hm:(Y.at 0).bd)(h72:C72 Y)(h220:Ob Y)(r:Rec)  (hp0:dh r):dd Y B7 (.tup [.int .u64 (oL r),.int .i64 (cP r).2]) [Rec.D r]:=by
 show bH _ _ _ [⟨_,_⟩,_,_,_,_,_,_] _;refine ak ?_;refine aF ?_;refine aq (hc:=h72 r hp0) ?_;refine gy ?_;refine cw (fun hc0=>?_) fun hc0=>?_
 ·refine aU ?_;refine bO (aN (aj (D.int .u64) ?_) (aj (D.int .i64) ?_));all_goals
   simp[oL,hc0]
 refine aE ?_;refine aq (hc:=h220 (cP r).1) (ha:=fun _=>aj (fun d=>[d]) (lX (q:=fun b:UInt8=>D.int .u8 b.toNat) (fun _=>rfl) ah)) (hp:=fun _=>⟨j9 (q:=fun b:UInt8=>D.int .u8 b.toNat) (fun _=>rfl) ah,trivial⟩) ?_;refine aE ?_;refine bO (aN (aj (D.int .u64) ?_) (aj (D.int .i64) ?_));all_goals
  simp[oL,hc0]
def C74 (Y:Ctx):Prop:=∀(r:Rec),(dh r)->Y.pre 74 [Rec.D r]/\Y.val 74 [Rec.D r]=.tup [.int .u64 (oL r),.int .i64 (cP r).2]
def FE:aC:=⟨2,5,[⟨2,none⟩],bM,(sq (rg [gb 5 s0,gb 5 s1,gm dt] [(3,0),(4,1),(2,2)]) (sq (r1 [gk 5 true s3,gx 209 [l0] wg,gm l1,ca 2 (.ld 5 true s4),ca 2 (.call 209 [l3] wg),ew l2 l4,gm l5,ca 6 (.ld 5 true s3),ca 6 (.ld 5 true s4),ca 6 (.call 295 [l7,l8] [[.a,.a,.a,.a,.a],[.a,.a,.a,.a,.a]]),ca 6 (cM l9 bp),ew l6 l10,gm im] 2 12) .ret))⟩
def w701 {Y:Ctx}(hm:(Y.at 0).bd)(h209:D1 Y)(h295:Oh Y)(a:bX)(b:bX)  (hp0:a.sm/\b.sm):dd Y FE (.bool (uM a b)) [bX.D a,bX.D b]:=by
 show bH _ _ _ [⟨_,_⟩,⟨_,_⟩,_,_,_] _;refine ak ?_;refine aF ?_;refine aq (hc:=h209 a hp0.1) ?_;refine aA ?_;refine dq (hc:=fun hf=>h209 b hp0.2) ?_;refine aE ?_;refine dq (hc:=fun hf=>h295 a b hp0) ?_;refine aI ?_;exact bF rfl
def Pe (Y:Ctx):Prop:=∀(a:bX)(b:bX),(a.sm/\b.sm)->Y.pre 701 [bX.D a,bX.D b]/\Y.val 701 [bX.D a,bX.D b]=.bool (uM a b)
def wv:aC:=⟨3,5,[⟨3,none⟩],bM,(sq (rg [gb 11 s0,gm dt] [(4,0),(3,1)]) (sq (r1 [gf 0 s4,gf 0 l0,gd l1,gd s1,aL l2 l3,gm l4,lr 5 0 s4,lr 5 1 l6,ca 5 (.ld 5 true l7),ca 5 (.ld 5 true s2),ca 5 (.call 701 [l8,l9] [[.a,.a,.a,.a,.a],[.a,.a,.a,.a,.a]]),ew l5 l10,gm im] 3 12) .ret))⟩
def w700 {Y:Ctx}(hm:(Y.at 0).bd)(h701:Pe Y)(x:eu)(nm:au)(v:bX)  (hp0:x.r.v.sm/\v.sm):dd Y wv (.bool (ym nm v x)) [eu.D x,.ref 1 [.str nm] 0 0,.ref 5 [bX.D v] 0 0]:=by
 show bH _ _ _ [⟨_,_⟩,⟨_,_⟩,⟨_,_⟩,_,_] _;refine ak ?_;refine aF ?_;refine bR (v:=.str x.r.name) ?_;refine eO (v:=.str nm) ?_;refine aE ?_;refine bR (v:=bX.D x.r.v) ?_;refine eO (v:=bX.D v) ?_;refine dq (hc:=fun hf=>h701 x.r.v v hp0) ?_;refine aE ?_;exact bF rfl
def Pd (Y:Ctx):Prop:=∀(x:eu)(nm:au)(v:bX),(x.r.v.sm/\v.sm)->Y.pre 700 [eu.D x,.ref 1 [.str nm] 0 0,.ref 5 [bX.D v] 0 0]/\Y.val 700 [eu.D x,.ref 1 [.str nm] 0 0,.ref 5 [bX.D v] 0 0]=.bool (ym nm v x)
def nu:aC:=⟨2,8,[⟨2,none⟩],bM,(sq (r1 [gm bp] 2 0) (sq (sq (rg [gm s0,gl l0,gm bp] [(4,1),(3,2)]) (.block 0 (.loop (sq (r1 [aP s3 s4] 5 0) (sq (eN s5 0) (sq (.block 1 (sq (r1 [gm s3,gm l0] 6 1) (sq (r1 [gm s1,gm s0,gm s6,ga 11 l1 l2,gk 11 true l3,gn (.callv l0 [l4] [[.a,.a,.a,.a,.a,.a,.sl 3 [.sl 4 [.a,.a,.sl 1 [.a],.a],.a,.a],.sl 3 [.a,.a,.a],.sl 2 [.a,.sl 1 [.a]],.a,.a]])] 7 5) (.cond s7 (sq (r1 [gm s6,gm l0] 2 1) .ret) .skip)))) (r1 [ax s3 cq,gm l0] 3 1))))))) (sq (r1 [gn (.mv (.c (.int .i64 (-1))))] 2 0) .ret)))⟩
def w699 {Y:Ctx}(hm:(Y.at 0).bd)(h700:Pd Y)(l:List eu)(nm:au)(v:bX)  (hp0:(∀x∈l,x.r.v.sm)/\v.sm):dd Y nu (.int .i64 (rj l nm v 0)) [.sl 11 (l.map eu.D),.fn 700 [.ref 1 [.str nm] 0 0,.ref 5 [bX.D v] 0 0]]:=by
 show bH _ _ _ [⟨_,_⟩,⟨_,_⟩,_,_,_,_,_,_] _;refine ak ?_;refine aF ?_;intro u0;refine aA ?_;refine bh hm (ι:=Nat) (fun i=>[⟨true,.sl 11 (l.map eu.D)⟩,⟨true,.fn 700 [.ref 1 [.str nm] 0 0,.ref 5 [bX.D v] 0 0]⟩,.un,⟨true,.int .i64 (i:Nat)⟩,⟨true,.int .i64 (l.length:Nat)⟩,.un,.un,.un]) (fun i=>[]) 4 (fun i=>i<=l.length/\rj l nm v 0=rj l nm v i) (fun i=>l.length-i) 0 ⟨ae,rfl⟩ (dn []) ?_;rintro i ⟨hi,hr⟩;refine aB ?_;refine cw (fun hc0=>?_) fun hc0=>?_
 ·refine gy ?_;first|refine cy (v:=(eu.D _)) ?_|refine eO (v:=(eu.D _)) ?_
  refine Kb (hc:=fun _=>h700 l[i]! nm v ⟨hp0.1 _ (bS ae),hp0.2⟩) ?_;refine aS ?_;refine eP (fun hc1=>?_) fun hc1=>?_
  ·refine aU ?_;refine cL ?_;rw[hr,HP ae hc1]
  refine aU ?_;exact⟨i+1,⟨ae,by rw[hr,HQ ae hc1]⟩,ae,(dn [])⟩
 refine aF ?_;refine cL ?_;rw[hr,Dz ae]
def Pc (Y:Ctx):Prop:=∀(l:List eu)(nm:au)(v:bX),((∀x∈l,x.r.v.sm)/\v.sm)->Y.pre 699 [.sl 11 (l.map eu.D),.fn 700 [.ref 1 [.str nm] 0 0,.ref 5 [bX.D v] 0 0]]/\Y.val 699 [.sl 11 (l.map eu.D),.fn 700 [.ref 1 [.str nm] 0 0,.ref 5 [bX.D v] 0 0]]=.int .i64 (rj l nm v 0)
def AM:aC:=⟨3,6,[⟨3,none⟩],bM,(sq (rg [gb 1 s1,gb 5 s2,gm bp] [(4,0),(5,1),(3,2)]) (sq (r1 [gm s0,gn (.mkf 700 [s4,s5]),gx 699 [l0,l1] [[.sl 11 [.a,.a,.a,.a,.a,.a,.sl 3 [.sl 4 [.a,.a,.sl 1 [.a],.a],.a,.a],.sl 3 [.a,.a,.a],.sl 2 [.a,.sl 1 [.a]],.a,.a]],[.a]],gm l2] 3 3) .ret))⟩
def w511 {Y:Ctx}(hm:(Y.at 0).bd)(h699:Pc Y)(l:List eu)(nm:au)(v:bX)  (hp0:(∀x∈l,x.r.v.sm)/\v.sm):dd Y AM (.int .i64 (rj l nm v 0)) [.sl 11 (l.map eu.D),.str nm,bX.D v]:=by
 show bH _ _ _ [⟨_,_⟩,⟨_,_⟩,⟨_,_⟩,_,_,_] _;refine ak ?_;refine aE ?_;refine lI 0 ?_;refine lI 1 ?_;refine aA ?_;refine Ry [.ref 1 [.str nm] 0 0,.ref 5 [bX.D v] 0 0] ?_;refine aq (hc:=h699 l nm v hp0) ?_;refine aB ?_;exact cL rfl
def OU (Y:Ctx):Prop:=∀(l:List eu)(nm:au)(v:bX),((∀x∈l,x.r.v.sm)/\v.sm)->Y.pre 511 [.sl 11 (l.map eu.D),.str nm,bX.D v]/\Y.val 511 [.sl 11 (l.map eu.D),.str nm,bX.D v]=.int .i64 (rj l nm v 0)
def FD:aC:=⟨1,13,fM,bM,(sq (rg [gb 2 s0,gm dt] [(2,0),(1,1)]) (sq (sq (r1 [gf 0 s2,gd l0,gx 208 [l1] bM,jx l2,gm l3,hZ 4 1 s2,iT 4 l5,cl 4 (.len l6),cl 4 (dE l7 (i6 64)),eK l4 l8] 3 9) (jG s3 dt)) (sq (sq (rg [gf 1 s2,gd l0,gl l1,gm bp] [(7,1),(5,2),(4,3)]) (.block 0 (.loop (sq (r1 [aP s4 s5] 6 0) (sq (eN s6 0) (sq (.block 1 (sq (rg [gm s4,ga 11 s7 s4,gk 11 true l1,gb 11 (.c (.agg [.str [],.int .i64 0,.int .i64 0,.int .i64 0,.str [],.str [],.aV,.aV,.aV,.int .u64 0,.bool false])),gm l0,gt 11 l3 l2] [(8,3),(11,4)]) (sq (rg [gf 0 s8,gk 9 true l0,gx 74 [l1] [[.a,.a,.a,.a,.a,.a,.sl 3 [.sl 4 [.a,.a,.sl 1 [.a],.a],.a,.a],.sl 3 [.a,.a,.a],.sl 2 [.a,.sl 1 [.a]]]],gm l2,ge l3 0,ge l3 1,gm l4,gm l5] [(10,6),(9,7)]) (sq (r2 [gm s9,cg l0 bp,gm l1,eC 2 iP,hZ 2 9 s8,iT 2 l4,cl 2 (eW l3 l5),eK l2 l6,gm l7,hZ 8 1 s2,iT 8 l9,eC 8 kp,eC 8 kp,cl 8 (.slX 11 l10 im js),hZ 8 0 s8,hZ 8 0 kW,iT 8 me,hZ 8 0 s8,hZ 8 1 pJ,cl 8 (.ld 5 true qB),cl 8 (.call 511 [ki,ng,rA] [[.sl 11 [.a,.a,.a,.a,.a,.a,.sl 3 [.sl 4 [.a,.a,.sl 1 [.a],.a],.a,.a],.sl 3 [.a,.a,.a],.sl 2 [.a,.sl 1 [.a]],.a,.a]],[.a],[.a,.a,.a,.a,.a]]),cl 8 (qG vT bp),eK l8 wW] 12 22) (jG mS dt))))) (r1 [ax s4 cq,gm l0] 4 1))))))) (te px))))⟩
def w353 {Y:Ctx}(hm:(Y.at 0).bd)(h74:C74 Y)(h208:D0 Y)(h511:OU Y)(s:fD)  (hp0:∀x∈s.es,dh x.r):dd Y FD (.bool (nt s)) [fD.D s]:=by
 show bH _ _ _ [⟨_,_⟩,_,_,_,_,_,_,_,_,_,_,_,_] _;refine ak ?_;refine aF ?_;refine bR (v:=.str s.name) ?_;refine aq (hc:=h208 _) ?_;refine aB ?_;refine bR (v:=.sl 11 (s.es.map eu.D)) ?_;refine kd ?_;refine aB ?_;refine aw (fun hc0=>?_) (fun hc0=>?_)
 ·simp only[cu,bB,aR]at hc0;have hf:nt s=false:=by
   unfold nt;rcases hc0 with h|h
   ·rw[h];rfl
   ·rw[show decide (s.es.length<=64)=false from cj ae];simp
  refine aI ?_;refine bF ?_;exact hf.symm
 simp only[dc,bY,bx]at hc0;have hq:nt s=cr (pY s.es) 0 s.es.length:=by unfold nt;rw[hc0.1,bD (show s.es.length<=64 by omega)];simp
 refine aE ?_;refine bR (v:=.sl 11 (s.es.map eu.D)) ?_;refine aS ?_;intro u0;refine aA ?_;refine bh hm (ι:=Nat) (fun i=>[.un,.un,⟨true,.ptr 0 2 0 0⟩,.un,⟨true,.int .i64 (i:Nat)⟩,⟨true,.int .i64 (s.es.length:Nat)⟩,.un,⟨true,.sl 11 (s.es.map eu.D)⟩,.un,.un,.un,.un,.un]) (fun i=>[(0,.buf 2 [fD.D s])]) 16 (fun i=>i<=s.es.length/\nt s=cr (pY s.es) i s.es.length) (fun i=>s.es.length-i) 0 ⟨ae,hq⟩ (dn [(0,0)]) ?_;rintro i ⟨hi,hr⟩;refine aB ?_;refine cw (fun hc1=>?_) fun hc1=>?_
 ·refine aB ?_;have hsm:=hp0 _ (bS (show i<s.es.length by omega));refine aS ?_;refine cC i ?_;refine cy (v:=eu.D s.es[i]!) ?_;refine aA ?_;refine bL (eu.D s.es[i]!) (he:=bN) ?_;refine aB ?_;refine bR (v:=Rec.D s.es[i]!.r) ?_;refine aq (hc:=h74 s.es[i]!.r hsm) ?_;refine gW ?_;refine bR (v:=.int .u64 s.es[i]!.sum) ?_;refine aE ?_;refine bR (v:=.sl 11 (s.es.map eu.D)) ?_;refine aA ?_;refine Nq (q:=eu.D) i (hj:=fun _=>rfl) (hb:=fun _=>ae) ?_;refine aA ?_;refine bR (v:=.str s.es[i]!.r.name) ?_;refine aA ?_;refine bR (v:=bX.D s.es[i]!.r.v) ?_;refine dq (hc:=fun hf=>h511 (s.es.take i) s.es[i]!.r.name s.es[i]!.r.v ⟨fun x hx=>(hp0 x (oQ hx)).1.2,hsm.1.2⟩) ?_;refine aB ?_;refine wp_cond (fun hc2=>?_) (fun hc2=>?_)
  ·have hen:pY s.es i=false:=by
    unfold pY;simp only[cu,bB,aR,bx]at hc2;simp only[dr,bx];rcases hc2 with(h|h)|h
    ·exact .inl (.inl h)
    ·exact .inl (.inr h)
    ·exact .inr ae
   refine aF ?_;refine bF ?_;rw[hr,aK ae,hen];rfl
  have hen:pY s.es i=true:=by
   unfold pY;simp only[dc,bY,aR,bx]at hc2;simp only[aZ,aR];exact⟨hc2.1,ae⟩
  refine aU ?_;exact⟨i+1,⟨ae,by rw[hr,aK ae,hen];rfl⟩,ae,(dn [(0,0)])⟩
 refine aF ?_;refine bF ?_;rw[hr,bV ae]
def On (Y:Ctx):Prop:=∀(s:fD),(∀x∈s.es,dh x.r)->Y.pre 353 [fD.D s]/\Y.val 353 [fD.D s]=.bool (nt s)
def qx:aC:=⟨2,3,[⟨2,none⟩],[[.sl 1 [.a]]],(sq (r1 [gm (.c (.aV))] 2 0) (sq (r1 [gm s0,gm s1,gm s1,mE l2,gn (.call 331 [l0,l1,l3,(.c (.int .i64 (-1)))] hb4),gm l4] 2 5) .ret))⟩
def w239 {Y:Ctx}(hm:(Y.at 0).bd)(h331:Ol Y)(s:au)  (hp0:s.length<=1048576):dd Y qx (.sl 1 ((gC s).map D.str)) [.str s,.str [10]]:=by
 show bH _ _ _ [⟨_,_⟩,⟨_,_⟩,_] _;refine ak ?_;refine aU ?_;intro u0;refine aq (hc:=h331 s hp0) ?_;refine aB ?_;refine bO (?_);rfl
def Od (Y:Ctx):Prop:=∀(s:au),(s.length<=1048576)->Y.pre 239 [.str s,.str [10]]/\Y.val 239 [.str s,.str [10]]=.sl 1 ((gC s).map D.str)
def zJ:aC:=⟨1,4,fM,[[.sl 1 [.a]]],(sq (r1 [gm (.c (.aV))] 1 0) (sq (r1 [gm s0,gx 239 [l0,(cs [10])] fV,gm l1] 2 2) (sq (sq (r1 [gm s2,gm s2,gl l1,ep l2 cq,ga 1 l0 l3,gd l4,aL l5 cse] 3 6) (.cond s3 (r1 [gm s2,gm s2,gl l1,ep l2 cq,gn (.slA 1 l0 none (some l3)),gm l4] 2 5) .skip)) (sq (r1 [gm s2,gm l0] 1 1) .ret))))⟩
def w252 {Y:Ctx}(hm:(Y.at 0).bd)(h239:Od Y)(s:au)  (hp0:s.length<=1048576):dd Y zJ (.sl 1 ((fh s).map D.str)) [.str s]:=by
 show bH _ _ _ [⟨_,_⟩,_,_,_] _;have hpl:=HM s;have hpz:fh s=if(gC s)[(gC s).length-1]! =[]then(gC s).take ((gC s).length-1)else gC s:=HN s
 refine ak ?_;refine aE ?_;refine aq (hc:=h239 s hp0) ?_;refine aU ?_;intro u0;refine aS ?_;refine cC ((gC s).length-1) ?_;refine cy (v:=.str (gC s)[(gC s).length-1]!) ?_;refine aA ?_;refine cw (fun hc0=>?_) fun hc0=>?_
 ·refine aE ?_;intro u1;refine aS ?_;refine vb ((gC s).length-1) ?_;refine aU ?_;refine bO (?_);rw[hpz,av hc0];rfl
 refine aF ?_;refine bO (?_);rw[hpz,ai hc0];rfl
def Of (Y:Ctx):Prop:=∀(s:au),(s.length<=1048576)->Y.pre 252 [.str s]/\Y.val 252 [.str s]=.sl 1 ((fh s).map D.str)
def zK:aC:=⟨1,3,[⟨1,none⟩,⟨2,none⟩],fV,(sq (rg [gm cse,gm dt] [(1,0),(2,1)]) (sq (rg [gm s0,gx 244 [l0,(cs [10])] fV,ge l1 0,ge l1 1,gm l2,gm l3] [(1,4),(2,5)]) .ret))⟩
def w253 {Y:Ctx}(hm:(Y.at 0).bd)(h244:Oe Y)(s:au)  (hp0:s.length<=1048576):dd Y zK (.tup [.str (bE s).1,.bool (bE s).2]) [.str s]:=by
 show bH _ _ _ [⟨_,_⟩,_,_] _;refine ak ?_;refine aI ?_;refine aq (hc:=h244 s hp0) ?_;refine aF ?_;refine bO (aN (aj D.str ?_) (aj D.bool ?_));all_goals rfl
def Lu (Y:Ctx):Prop:=∀(s:au),(s.length<=1048576)->Y.pre 253 [.str s]/\Y.val 253 [.str s]=.tup [.str (bE s).1,.bool (bE s).2]
def zI:aC:=⟨1,9,[⟨1,none⟩,⟨2,none⟩,⟨3,none⟩],NI,(sq (rg [gm (iu 0),gm dt,gm dt] [(1,0),(2,1),(3,2)]) (sq (rg [gm s0,gx 253 [l0] bM,gm l1,ge l2 0,ge l2 1,gm l3,gm l4] [(4,5),(5,6)]) (sq (r1 [gm s4,gx 124 [l0,(cs [32])] fV,gm l1] 6 2) (sq (sq (r1 [gm s5,jx l0,gm l1,eC 2 s6,cl 2 (.len l3),cl 2 (eW l4 ml),eK l2 l5,gm l6,eC 7 s6,cl 7 (.ia 1 l8 bp),iT 7 l9,cl 7 (eW l10 (cs [101,110,116,114,121])),eK l7 im,gm js,eC 13 s6,cl 13 (.ia 1 kW nM),iT 13 me,cl 13 (eW ng (cs [111,110])),eC 13 pJ,gmt 18 s6,ca 18 (.ia 1 rA nM),ke 18 vT,ca 18 (eW wW (cs [111,102,102])),zC 13 qB yo,eK ki Bd] 7 24) (.cond s7 (sq (rg [gm (iu 0),gm dt,gm dt] [(1,0),(2,1),(3,2)]) .ret) .skip)) (sq (rg [gm s6,ga 1 l0 cq,gd l1,gx 499 [l2] bM,gm l3,ge l4 0,ge l4 1,gm l5,gm l6] [(8,7),(5,8)]) (sq (rt [gm s8,gm s6,ga 1 l1 nM,gd l2,aL l3 (cs [111,102,102]),gm s5,gm l0,gm l4,gm l5] [(1,6),(2,7),(3,8)]) .ret))))))⟩
def w255 {Y:Ctx}(hm:(Y.at 0).bd)(h124:IZ Y)(h253:Lu Y)(h499:OS Y)(s:au)  (hp0:s.length<=1048576):dd Y zI (.tup [.int .u64 (n8 s).1,.bool (n8 s).2.1,.bool (n8 s).2.2]) [.str s]:=by
 show bH _ _ _ [⟨_,_⟩,_,_,_,_,_,_,_,_] _;refine ak ?_;refine aF ?_;refine aq (hc:=h253 s hp0) ?_;refine aU ?_;have hwl:=qz s;refine aS ?_;refine aq (v:=.sl 1 ((ar (bE s).1 32).map D.str)) (hc:=h124 (bE s).1 32 ae) ?_;refine bP ?_;refine kd ?_;refine aE ?_;refine cC 0 (hb:=fun hf=>by simp at hf;omega) ?_;refine cy (v:=.str (ar (bE s).1 32)[0]!) (hi:=fun hf=>by simp at hf;omega) ?_;refine aE ?_;refine cC 2 (hb:=fun hf=>by simp at hf;omega) ?_;refine cy (v:=.str (ar (bE s).1 32)[2]!) (hi:=fun hf=>by simp at hf;omega) ?_;refine aB ?_;refine cC 2 (hb:=fun hf=>by simp at hf;omega) ?_;refine cy (v:=.str (ar (bE s).1 32)[2]!) (hi:=fun hf=>by simp at hf;omega) ?_;refine aE ?_;refine aw (fun hc0=>?_) (fun hc0=>?_)
 ·simp only[fu]at hc0;have hz:=Mw hc0;refine aU ?_;refine bO (fT (aj (D.int .u64) ?_) (aj D.bool ?_) (aj D.bool ?_));all_goals
   rw[n8,ai hz];first|done|rfl
 simp only[fu]at hc0;obtain⟨hz,hl3⟩:=Jt hc0;refine aB ?_;refine cC 1 (hb:=fun _=>ae) ?_;refine cy (v:=.str (ar (bE s).1 32)[1]!) (hi:=fun _=>ae) ?_;refine aq (hc:=h499 (ar (bE s).1 32)[1]!) ?_;refine cU ?_;refine cC 2 (hb:=fun _=>ae) ?_;refine cy (v:=.str (ar (bE s).1 32)[2]!) (hi:=fun _=>ae) ?_;refine aU ?_;refine bO (fT (aj (D.int .u64) ?_) (aj D.bool ?_) (aj D.bool ?_));all_goals
  rw[n8,av hz];first|done|rfl
def Og (Y:Ctx):Prop:=∀(s:au),(s.length<=1048576)->Y.pre 255 [.str s]/\Y.val 255 [.str s]=.tup [.int .u64 (n8 s).1,.bool (n8 s).2.1,.bool (n8 s).2.2]
def zH:aC:=⟨1,14,[⟨1,none⟩,⟨2,none⟩],fV,(sq (rg [gb 2 s0,gm cse,gm bp] [(3,0),(1,1),(2,2)]) (sq (sq (r1 [gk 2 true s3,gx 353 [l0] [[.a,.sl 11 [.a,.a,.a,.a,.a,.a,.sl 3 [.sl 4 [.a,.a,.a,.a],.a,.a],.sl 3 [.a,.a,.a],.sl 2 [.a,.sl 1 [.a]],.a,.a]]],jx l1] 4 2) (.cond s4 (sq (rg [gm cse,gm cq] [(1,0),(2,1)]) .ret) .skip)) (sq (r1 [⟨.mkB,none⟩] 5 0) (sq (rg [gf 0 s3,gd l0,ax (cs [115,104,101,108,102,32]) l1,ax l2 (cs [10]),gn (.callM 489 [s5,l3])] []) (sq (sq (rg [gf 1 s3,gd l0,gl l1,gm bp] [(9,1),(7,2),(6,3)]) (.block 0 (.loop (sq (r1 [aP s6 s7] 8 0) (sq (eN s8 0) (sq (.block 1 (sq (r1 [ga 11 s9 s6,gk 11 true l0,gb 11 (.c (.agg [.str [],.int .i64 0,.int .i64 0,.int .i64 0,.str [],.str [],.aV,.aV,.aV,.int .u64 0,.bool false])),gt 11 l2 l1] 10 2) (sq (r1 [gm (cs [32,111,110,10])] 12 0) (sq (sq (r1 [gf 10 iP,gd l0] 11 1) (.cond kp (r1 [gm (cs [32,111,102,102,10])] 12 0) .skip)) (sq (r1 [gf 0 iP,gk 9 true l0,gx 72 [l1] [[.a,.a,.a,.a,.a,.a,.sl 3 [.sl 4 [.a,.a,.sl 1 [.a],.a],.a,.a],.sl 3 [.a,.a,.a],.sl 2 [.a,.sl 1 [.a]]]],gm l2,ge l3 0,ge l3 1,gm l4,gm l5] 13 6) (rg [gf 9 iP,gd l0,gx 497 [l1] bM,ax (cs [101,110,116,114,121,32]) l2,gm mS,ax l3 l4,gm qp,ax l5 l6,gn (.callM 489 [s5,l7])] [])))))) (r1 [ax s6 cq,gm l0] 6 1))))))) (sq (rg [gn (.callM 452 [s5]),gm l0,gm bp] [(1,1),(2,2)]) .ret))))))⟩
def w251 {Y:Ctx}(hm:(Y.at 0).bd)(h72:C72 Y)(h353:On Y)(h452:I2 Y)(h489:I4 Y)(h497:OR Y)(s:fD)  (hp0:∀x∈s.es,dh x.r):dd Y zH (.tup [.str (fj s).1,.int .i64 (fj s).2]) [fD.D s]:=by
 show bH _ _ _ [⟨_,_⟩,_,_,_,_,_,_,_,_,_,_,_,_,_] _;refine ak ?_;refine aF ?_;refine ee (d:=fD.D s) ?_;refine aq (hc:=h353 s hp0) ?_;refine aA ?_;refine aw (fun hc0=>?_) (fun hc0=>?_)
 ·simp only[bB]at hc0;refine aF ?_;refine bO (aN (aj D.str ?_) (aj (D.int .i64) ?_));all_goals
   have hps:fj s=([],1):=by unfold fj;rw[av hc0]
   rw[hps];first|done|rfl
 simp only[bY]at hc0;obtain⟨q1,q2⟩:=DN hc0;refine aF ?_;refine bR (v:=.str s.name) ?_;refine df (hb:=fun _=>by simp only[ay,az];omega) ?_;refine eo ?_;refine cd (nx':=8) (v:=.any) (m':=[(11,.row (qC s 0)),(0,.buf 2 [fD.D s]),(6,.bld (some 11) (qC s 0).length true)]) (hc:=fun K' hK=>h489 _ _ K' ⟨([115,104,101,108,102,32]++s.name)++[10],6,[],rfl,.inl ⟨false,bN,rfl⟩,by simp only[ay,az];omega,aT,by simp only[bA,ay,az];omega,by rw[show []++(([115,104,101,108,102,32]++s.name)++[10])=qC s 0 from by rw[ID];rfl];exact hK⟩) (hn:=aM) ?_;refine aE ?_;refine bR (v:=.sl 11 (s.es.map eu.D)) ?_;refine aS ?_;intro u0;refine aA ?_;refine bh hm (ι:=Nat) (fun i=>[.un,.un,.un,⟨true,.ptr 0 2 0 0⟩,.un,⟨true,.ptr 6 2 0 0⟩,⟨true,.int .i64 (i:Nat)⟩,⟨true,.int .i64 (s.es.length:Nat)⟩,.un,⟨true,.sl 11 (s.es.map eu.D)⟩,.un,.un,.un,.un]) (fun i=>[(0,.buf 2 [fD.D s]),(6,.bld (some 7) (qC s i).length true),(7,.row (qC s i))]) 20 (fun i=>i<=s.es.length) (fun i=>s.es.length-i) 0 ae (bj.to [(0,0),(6,6),(11,7)] ah ah dZ (by refine ba.gN ah ah ah ?_;refine ba.bl 6 ah ah ah (aj List.length (rfl)) rfl ?_;refine ba.rw 11 ah ah (rfl) ?_;exact ba.nil)) ?_;intro i hi;have q3:=yU (s:=s) ae hi;refine aB ?_;refine cw (fun hc1=>?_) fun hc1=>?_
 ·refine aB ?_;have hsm:=hp0 _ (bS (show i<s.es.length by omega));have q4:=qe s.es[i]!.r;have q5:=jQ s.es[i]!.sum;have hxt:=vD (show i<s.es.length by omega);have hee:=yd s.es[i]!;refine cC i ?_;refine cy (v:=eu.D s.es[i]!) ?_;refine aS ?_;refine bL (eu.D s.es[i]!) (he:=bN) ?_;refine aU ?_;refine bR (v:=.bool s.es[i]!.off) ?_;refine aS ?_;refine cw (fun hc2=>?_) fun hc2=>?_
  ·refine aI ?_;refine bR (v:=Rec.D s.es[i]!.r) ?_;refine aq (hc:=h72 s.es[i]!.r hsm) ?_;refine bP ?_;refine bR (v:=.int .u64 s.es[i]!.sum) ?_;refine aq (hc:=h497 _) ?_;refine eo ?_;refine aS ?_;refine eo ?_;refine aS ?_;refine eo ?_;refine cd (nx':=38) (v:=.any) (m':=[(45,.row (qC s (i+1))),(0,.buf 2 [fD.D s]),(6,.bld (some 45) (qC s (i+1)).length true),(23,.buf 11 [eu.D s.es[i]!])]) (hc:=fun K' hK=>h489 _ _ K' ⟨(([101,110,116,114,121,32]++gv s.es[i]!.sum)++[32,111,102,102,10])++(cP s.es[i]!.r).1,6,qC s i,rfl,.inr ⟨7,true,bN,bN⟩,by simp only[ay,az];omega,aT,by simp only[bA,ay,az];omega,by rw[show qC s i++((([101,110,116,114,121,32]++gv s.es[i]!.sum)++[32,111,102,102,10])++(cP s.es[i]!.r).1)=qC s (i+1)from by rw[hxt,hee,hc2];rfl];exact hK⟩) (hn:=aM) ?_;refine aU ?_;exact⟨i+1,ae,ae,(bj.to [(0,0),(6,6),(45,7)] ah ah dZ (by refine ba.gN ah ah ah ?_;refine ba.bl 6 ah ah ah (aj List.length (rfl)) rfl ?_;refine ba.rw 45 ah ah (rfl) ?_;exact ba.nil))⟩
  refine aB ?_;refine bR (v:=Rec.D s.es[i]!.r) ?_;refine aq (hc:=h72 s.es[i]!.r hsm) ?_;refine bP ?_;refine bR (v:=.int .u64 s.es[i]!.sum) ?_;refine aq (hc:=h497 _) ?_;refine eo ?_;refine aS ?_;refine eo ?_;refine aS ?_;refine eo ?_;refine cd (nx':=37) (v:=.any) (m':=[(44,.row (qC s (i+1))),(0,.buf 2 [fD.D s]),(6,.bld (some 44) (qC s (i+1)).length true),(23,.buf 11 [eu.D s.es[i]!])]) (hc:=fun K' hK=>h489 _ _ K' ⟨(([101,110,116,114,121,32]++gv s.es[i]!.sum)++[32,111,110,10])++(cP s.es[i]!.r).1,6,qC s i,rfl,.inr ⟨7,true,bN,bN⟩,by simp only[ay,az];omega,aT,by simp only[bA,ay,az];omega,by rw[show qC s i++((([101,110,116,114,121,32]++gv s.es[i]!.sum)++[32,111,110,10])++(cP s.es[i]!.r).1)=qC s (i+1)from by rw[hxt,hee,hc2];rfl];exact hK⟩) (hn:=aM) ?_;refine aU ?_;exact⟨i+1,ae,ae,(bj.to [(0,0),(6,6),(44,7)] ah ah dZ (by refine ba.gN ah ah ah ?_;refine ba.bl 6 ah ah ah (aj List.length (rfl)) rfl ?_;refine ba.rw 44 ah ah (rfl) ?_;exact ba.nil))⟩
 refine aB ?_;have h33:i=s.es.length:=ae;subst h33;have hne:qC s s.es.length≠[]:=by unfold qC bQ;simp[bc,nB]
 have hps:fj s=(qC s s.es.length,0):=by unfold fj;rw[ai (by simp[hc0]),DT]
 refine cd (nx':=21) (v:=.str (qC s s.es.length)) (m':=[(0,.buf 2 [fD.D s])]) (hc:=fun K' hK=>h452 _ _ K' ⟨6,qC s s.es.length,rfl,.inr ⟨7,true,bN,bN⟩,hne,hK⟩) (hn:=aM) ?_;refine aE ?_;refine bO (aN (aj D.str ?_) (aj (D.int .i64) ?_));all_goals
  rw[hps];first|done|rfl
def Lt (Y:Ctx):Prop:=∀(s:fD),(∀x∈s.es,dh x.r)->Y.pre 251 [fD.D s]/\Y.val 251 [fD.D s]=.tup [.str (fj s).1,.int .i64 (fj s).2]
def zO:aC:=⟨0,8,[⟨0,none⟩],bM,(sq (r1 [gm dt] 0 0) (sq (rg [gn (.build [.str [],.aV] [(0,1,(cs [111,110,101]))]),gx 251 [l0] [[.a,.sl 11 [.a,.a,.a,.a,.a,.a,.sl 3 [.sl 4 [.a,.a,.a,.a],.a,.a],.sl 3 [.a,.a,.a],.sl 2 [.a,.sl 1 [.a]],.a,.a]]],gm l1,ge l2 0,ge l2 1,gm l3,gm l4] [(2,5),(1,6)]) (sq (rg [gx 86 [(cs [115,104,101,108,102,32,111,110,101,10])] bM,gm l0,ge l1 0,ge l1 1,ge l1 2,gb 2 (.c (.agg [.str [],.aV])),gt 2 l5 l2,gm l3,gm l4] [(5,5),(3,7),(4,8)]) (sq (rg [gx 86 [(cs [115,104,101,108,102,32,111,110,101,10,101,110,116,114,121,32,48,32,111,110,10])] bM,gm l0,ge l1 0,ge l1 1,ge l1 2,gb 2 (.c (.agg [.str [],.aV])),gt 2 l5 l2,gm l3,gm l4] [(6,7),(7,8)]) (sq (r1 [gm s1,aL l0 bp,gm l1,gmt 2 s2,ca 2 (cM l3 (cs [115,104,101,108,102,32,111,110,101,10])),ew l2 l4,gm l5,gmt 6 s3,ca 6 (cM l7 bp),ew l6 l8,gm l9,gmt 10 s4,ca 10 (cM im bp),ew l10 js,gm ki,lr 14 0 s5,ke 14 me,ca 14 (cM ng (cs [111,110,101])),ew kW pJ,gm qB,gmt 19 s6,ca 19 (cM vT nM),ew rA wW,gm yo,gmt 23 s7,ca 23 (cM BM nM),ew Bd EL,gm Hk] 0 27) .ret)))))⟩
def w85 {Y:Ctx}(hm:(Y.at 0).bd)(h251:Lt Y)(h9086:KJ Y)    :dd Y zO (.bool true) []:=by
 show bH _ _ _ [_,_,_,_,_,_,_,_] _;refine ak ?_;refine aB ?_;refine cx (.agg [.str B2,.aV]) ?_;refine aq (v:=.tup [.str Ee,.int .i64 0]) (hc:=by have:=h251 ⟨B2,[]⟩ aT;rw[Q5]at this;exact this) ?_;refine aU ?_;refine aq (v:=.tup [fD.D ⟨B2,[]⟩,.int .i64 0,.int .i64 0]) (hc:=by have:=h9086 Ee aM Mo;rw[Q4]at this;exact this) ?_;refine aS ?_;refine lD (fD.D _) ?_;refine aB ?_;refine bL (fD.D ⟨B2,[]⟩) (he:=bN) ?_;refine aE ?_;refine aq (v:=.tup [fD.D (mi Bp).1,.int .i64 2,.int .i64 2]) (hc:=by have:=h9086 Bp aM Mp;rw[aj Prod.fst KV,aj Prod.snd KV]at this;exact this) ?_;refine aS ?_;refine lD (fD.D _) ?_;refine aB ?_;refine bL (fD.D (mi Bp).1) (he:=bN) ?_;refine Ll ?_;refine bR (v:=.str B2) ?_;refine lJ ?_;refine bF ?_;decide
def C85 (Y:Ctx):Prop:=Y.pre 85 []/\Y.val 85 []=.bool true
def Fm:aC:=⟨2,5,[⟨2,none⟩],bM,(sq (r1 [gm bp] 2 0) (sq (.block 0 (sq (r1 [gm s0,gm s1,aP l0 l1,gm l2] 3 3) (.cond s3 (sq (r1 [gn (.mv (.c (.int .i64 (-1))))] 2 0) .ret) (sq (r1 [gm s0,gm s1,cH l0 l1,gm l2] 4 3) (.cond s4 (sq (r1 [gm cq] 2 0) .ret) .skip))))) (sq (r1 [gm bp] 2 0) .ret)))⟩
def w630 {Y:Ctx}(hm:(Y.at 0).bd)  (a:Int)(b:Int)   :dd Y Fm (.int .i64 (dY a b)) [.int .i64 a,.int .i64 b]:=by
 show bH _ _ _ [⟨_,_⟩,⟨_,_⟩,_,_,_] _;refine ak ?_;refine cU ?_;refine eP (fun hc0=>?_) fun hc0=>?_
 ·refine aI ?_;refine cL ?_;unfold dY;rw[av hc0]
 refine aF ?_;refine eP (fun hc1=>?_) fun hc1=>?_
 ·refine aI ?_;refine cL ?_;unfold dY;rw[ai hc0,av hc1]
 refine aF ?_;refine cL ?_;unfold dY;rw[ai hc0,ai hc1]
def I5 (Y:Ctx):Prop:=∀(a:Int)(b:Int),Y.pre 630 [.int .i64 a,.int .i64 b]/\Y.val 630 [.int .i64 a,.int .i64 b]=.int .i64 (dY a b)
def Cm:aC:=⟨2,5,[⟨2,none⟩],bM,(sq (r1 [gm bp] 2 0) (sq (.block 0 (sq (r1 [gm s0,gm s1,aP l0 l1,gm l2] 3 3) (.cond s3 (sq (r1 [gn (.mv (.c (.int .i64 (-1))))] 2 0) .ret) (sq (r1 [gm s0,gm s1,cH l0 l1,gm l2] 4 3) (.cond s4 (sq (r1 [gm cq] 2 0) .ret) .skip))))) (sq (r1 [gm bp] 2 0) .ret)))⟩
def w927 {Y:Ctx}(hm:(Y.at 0).bd)  (a:au)(b:au)   :dd Y Cm (.int .i64 (rK a b)) [.str a,.str b]:=by
 show bH _ _ _ [⟨_,_⟩,⟨_,_⟩,_,_,_] _;refine ak ?_;refine cU ?_;refine eP (fun hc0=>?_) fun hc0=>?_
 ·refine aI ?_;refine cL ?_;simp[rK,hc0]
 refine aF ?_;refine eP (fun hc1=>?_) fun hc1=>?_
 ·refine aI ?_;refine cL ?_;simp_all[rK]
 refine aF ?_;refine cL ?_;simp_all[rK]
def Pz (Y:Ctx):Prop:=∀(a:au)(b:au),Y.pre 927 [.str a,.str b]/\Y.val 927 [.str a,.str b]=.int .i64 (rK a b)
def Ii:aC:=⟨2,10,[⟨2,none⟩],bM,(sq (r1 [gm bp] 2 0) (sq (rg [gm s0,gx 668 [l0] bM,gm s1,gx 668 [l2] bM,gm l1,gm l3] [(3,4),(4,5)]) (sq (.block 0 (sq (r1 [gm s3,gm l0,gmt 1 s4,ew l1 l2,gm l3] 5 4) (.cond s5 (sq (r1 [gm s0,gx 667 [l0] bM,gm l1,ge l2 0,ge l2 1,gm l3,gm l4] 6 5) (sq (r1 [gm s1,gx 667 [l0] bM,gm l1,ge l2 0,ge l2 1,gm l3,gm l4] 7 5) (sq (r1 [gm s6,gm s7,gx 630 [l0,l1] fV,gm l2] 2 3) .ret))) (sq (r1 [gm s3,gm l0] 8 1) (.cond s8 (sq (r1 [gn (.mv (.c (.int .i64 (-1))))] 2 0) .ret) (sq (r1 [gm s4,gm l0] 9 1) (.cond s9 (sq (r1 [gm cq] 2 0) .ret) .skip))))))) (sq (r1 [gm s0,gm s1,gx 927 [l0,l1] fV,gm l2] 2 3) .ret))))⟩
def w783 {Y:Ctx}(hm:(Y.at 0).bd)(h630:I5 Y)(h667:I7 Y)(h668:LK Y)(h927:Pz Y)(a:au)(b:au)   :dd Y Ii (.int .i64 (nw a b)) [.str a,.str b]:=by
 show bH _ _ _ [⟨_,_⟩,⟨_,_⟩,_,_,_,_,_,_,_,_] _;refine ak ?_;refine aE ?_;refine aq (hc:=h668 _) ?_;refine aS ?_;refine aq (hc:=h668 _) ?_;refine gy ?_;refine eP (fun hc0=>?_) fun hc0=>?_
 ·refine aA ?_;refine aq (hc:=h667 _) ?_;refine bP ?_;refine aq (hc:=h667 _) ?_;refine cU ?_;refine aq (hc:=h630 _ _) ?_;refine aE ?_;refine cL ?_;unfold nw;rw[av hc0]
 refine aE ?_;refine eP (fun hc1=>?_) fun hc1=>?_
 ·refine aI ?_;refine cL ?_;have hn:¬(b6 a=true/\b6 b=true):=by rintro⟨h1,h2⟩;simp[h1,h2]at hc0
  unfold nw;rw[ai hn];rw[av hc1]
 refine aE ?_;refine eP (fun hc2=>?_) fun hc2=>?_
 ·refine aI ?_;refine cL ?_;have hn:¬(b6 a=true/\b6 b=true):=by rintro⟨h1,h2⟩;simp[h1,h2]at hc0
  unfold nw;rw[ai hn];rw[ai (by simp[hc1]),av hc2]
 refine aI ?_;refine aq (hc:=h927 _ _) ?_;refine aB ?_;refine cL ?_;have hn:¬(b6 a=true/\b6 b=true):=by rintro⟨h1,h2⟩;simp[h1,h2]at hc0
 unfold nw;rw[ai hn];rw[ai (by simp[hc1]),ai (by simp[hc2])]
def Pk (Y:Ctx):Prop:=∀(a:au)(b:au),Y.pre 783 [.str a,.str b]/\Y.val 783 [.str a,.str b]=.int .i64 (nw a b)
def Fo:aC:=⟨2,12,[⟨2,none⟩],bM,(sq (r1 [gm bp] 2 0) (sq (.block 0 (sq (r1 [gm s0,gm s1,aL l0 l1,gm l2] 3 3) (.cond s3 (sq (r1 [gm bp] 2 0) .ret) (sq (r1 [gm s0,aL l0 cse,gm l1] 4 2) (.cond s4 (sq (r1 [gm cq] 2 0) .ret) (sq (r1 [gm s1,aL l0 cse,gm l1] 5 2) (.cond s5 (sq (r1 [gn (.mv (.c (.int .i64 (-1))))] 2 0) .ret) .skip))))))) (sq (rg [gm s0,gx 470 [l0,(i8 46)] fV,gm s1,gx 470 [l2,(i8 46)] fV,gm l1,gm l3] [(7,4),(8,5)]) (sq (sq (r1 [gm bp] 6 0) (.block 1 (.loop (sq (sq (r1 [gm s6,gm s7,gl l1,aP l0 l2,gm l3,gmt 4 s6,gmt 4 s8,ca 4 (.len l6),ca 4 (qH l5 l7),ew l4 l8] 9 9) (eN s9 1)) (sq (.block 2 (sq (r2 [gm s7,gm s6,ga 1 l0 l1,gd l2,gm s8,gm s6,ga 1 l4 l5,gd l6,gx 783 [l3,l7] fV,gm l8] 10 9) (sq (r1 [gm iP,cg l0 bp] 11 1) (.cond kp (sq (r1 [gm iP,gm l0] 2 1) .ret) .skip)))) (r1 [gm s6,ax l0 cq,gm l1] 6 2)))))) (sq (r1 [gm s7,gl l0,gm s8,gl l2,gx 630 [l1,l3] fV,gm l4] 2 5) .ret)))))⟩
def w631 {Y:Ctx}(hm:(Y.at 0).bd)(h470:Bi Y)(h630:I5 Y)(h783:Pk Y)(a:au)(b:au)  (hp0:a.length<=1048576/\b.length<=1048576):dd Y Fo (.int .i64 (rl a b)) [.str a,.str b]:=by
 show bH _ _ _ [⟨_,_⟩,⟨_,_⟩,_,_,_,_,_,_,_,_,_,_] _;refine ak ?_;refine cU ?_;refine eP (fun hc0=>?_) fun hc0=>?_
 ·refine aI ?_;refine cL ?_;unfold rl;rw[av hc0]
 refine aI ?_;refine eP (fun hc1=>?_) fun hc1=>?_
 ·refine aI ?_;refine cL ?_;unfold rl;rw[ai hc0,av hc1]
 refine aI ?_;refine eP (fun hc2=>?_) fun hc2=>?_
 ·refine aI ?_;refine cL ?_;unfold rl;rw[ai hc0,ai hc1,av hc2]
 refine aE ?_;refine aq (hc:=h470 a 46 hp0.1) ?_;refine aS ?_;refine aq (hc:=h470 b 46 hp0.2) ?_;refine aU ?_;refine bh hm (ι:=Nat) (fun i=>[.un,.un,.un,.un,.un,.un,⟨true,.int .i64 (i:Nat)⟩,⟨true,.sl 1 ((ar a 46).map D.str)⟩,⟨true,.sl 1 ((ar b 46).map D.str)⟩,.un,.un,.un]) (fun i=>[]) 18 (fun i=>(i<=(ar a 46).length/\i<=(ar b 46).length)/\rl a b=pM (ar a 46) (ar b 46) i) (fun i=>(ar a 46).length-i) 0 ⟨⟨ae,ae⟩,by unfold rl;rw[ai hc0,ai hc1,ai hc2]⟩ (dn []) ?_;rintro i ⟨hi,hr⟩;refine aI ?_;intro u0;refine aE ?_;refine kd ?_;refine aB ?_;refine cw (fun hc3=>?_) fun hc3=>?_
 ·refine aI ?_;refine cC i (hb:=fun _=>ae) ?_;refine cy (v:=.str (ar a 46)[i]!) (hi:=fun _=>ae) ?_;refine aA ?_;refine cC i (hb:=fun _=>ae) ?_;refine cy (v:=.str (ar b 46)[i]!) (hi:=fun _=>ae) ?_;refine aq (hc:=h783 _ _) ?_;refine aF ?_;refine eP (fun hc4=>?_) fun hc4=>?_
  ·refine aU ?_;refine cL ?_;rw[hr,xB ae hc4]
  refine bP ?_;exact⟨i+1,⟨⟨ae,ae⟩,by rw[hr,AR ae hc4]⟩,ae,(dn [])⟩
 refine aI ?_;intro u1;refine aA ?_;intro u2;refine aq (hc:=h630 _ _) ?_;refine aB ?_;refine cL ?_;rw[hr,xA ae]
def O1 (Y:Ctx):Prop:=∀(a:au)(b:au),(a.length<=1048576/\b.length<=1048576)->Y.pre 631 [.str a,.str b]/\Y.val 631 [.str a,.str b]=.int .i64 (rl a b)
def yM:aC:=⟨2,12,[⟨2,none⟩],bM,(sq (rg [gb 5 s0,gb 5 s1,gm bp] [(3,0),(4,1),(2,2)]) (sq (sq (r1 [gk 5 true s3,gx 217 [l0] wg,jx l1,gm l2,cl 3 (.ld 5 true s4),cl 3 (.call 217 [l4] wg),cl 3 (.un .not l5),eK l3 l6] 5 7) (.cond s5 (sq (r1 [gm bp] 2 0) .ret) .skip)) (sq (sq (r1 [gf 0 s3,gd l0,gf 0 s4,gd l2,gx 630 [l1,l3] fV,gm l4] 6 5) (sq (r1 [gm s6,cg l0 bp] 7 1) (.cond s7 (sq (r1 [gm s6,gm l0] 2 1) .ret) .skip))) (sq (sq (r1 [gf 1 s3,gd l0,gf 1 s4,gd l2,gx 630 [l1,l3] fV,gm l4] 8 5) (sq (r1 [gm s8,cg l0 bp] 9 1) (.cond s9 (sq (r1 [gm s8,gm l0] 2 1) .ret) .skip))) (sq (sq (r1 [gf 2 s3,gd l0,gf 2 s4,gd l2,gx 630 [l1,l3] fV,gm l4] 10 5) (sq (r1 [gm iP,cg l0 bp] 11 1) (.cond kp (sq (r1 [gm iP,gm l0] 2 1) .ret) .skip))) (sq (r1 [gf 3 s3,gd l0,gf 3 s4,gd l2,gx 631 [l1,l3] fV,gm l4] 2 5) .ret))))))⟩
def w424 {Y:Ctx}(hm:(Y.at 0).bd)(h217:D3 Y)(h630:I5 Y)(h631:O1 Y)(a:bX)(b:bX)  (hp0:a.sm/\b.sm):dd Y yM (.int .i64 (lM a b)) [bX.D a,bX.D b]:=by
 show bH _ _ _ [⟨_,_⟩,⟨_,_⟩,_,_,_,_,_,_,_,_,_,_] _;refine ak ?_;refine aU ?_;refine aq (hc:=h217 a hp0.1) ?_;refine aB ?_;refine dq (hc:=fun hf=>h217 b hp0.2) ?_;refine aB ?_;refine aw (fun hc0=>?_) (fun hc0=>?_)
 ·simp only[cu,bB]at hc0;refine aI ?_;refine cL ?_;unfold lM;rw[av hc0]
 simp only[dc,bY]at hc0;have hv:¬(eF a=false\/eF b=false):=by simp only[not_or,Bool.not_eq_false];first|exact hc0|exact hc0.1
 refine aU ?_;refine aq (hc:=h630 _ _) ?_;refine aU ?_;refine cw (fun hc1=>?_) fun hc1=>?_
 ·refine aF ?_;refine cL ?_;unfold lM;rw[ai hv,av hc1]
 refine aU ?_;refine aq (hc:=h630 _ _) ?_;refine aU ?_;refine cw (fun hc2=>?_) fun hc2=>?_
 ·refine aF ?_;refine cL ?_;unfold lM;rw[ai hv,ai (by simpa using hc1),av hc2]
 refine aU ?_;refine aq (hc:=h630 _ _) ?_;refine aU ?_;refine cw (fun hc3=>?_) fun hc3=>?_
 ·refine aF ?_;refine cL ?_;unfold lM;rw[ai hv,ai (by simpa using hc1),ai (by simpa using hc2),av hc3]
 refine aF ?_;refine aq (hc:=h631 a.pre b.pre ⟨hp0.1.1,hp0.2.1⟩) ?_;refine aB ?_;refine cL ?_;unfold lM;rw[ai hv,ai (by simpa using hc1),ai (by simpa using hc2),ai (by simpa using hc3)]
def Oq (Y:Ctx):Prop:=∀(a:bX)(b:bX),(a.sm/\b.sm)->Y.pre 424 [bX.D a,bX.D b]/\Y.val 424 [bX.D a,bX.D b]=.int .i64 (lM a b)
def yL:aC:=⟨1,7,fM,bM,(sq (rg [gb 4 s0,gm cse] [(2,0),(1,1)]) (sq (rg [gm (cs [45]),gm (cs [102,117,108,108])] [(5,0),(6,1)]) (sq (sq (r1 [gf 2 s2,gd l0,gl l1,cH l2 bp] 3 3) (.cond s3 (r1 [gf 2 s2,gd l0,gx 249 [l1,(i8 44)] [[.sl 1 [.a]],[.a]],gm l2] 5 3) .skip)) (sq (sq (r1 [gf 3 s2,gd l0] 4 1) (.cond s4 (r1 [gm (cs [98,97,114,101])] 6 0) .skip)) (sq (r1 [gf 0 s2,gd l0,ax (cs [97,110,121,32]) l1,ax l2 (cs [32]),gm s5,ax l3 l4,ax l5 (cs [32]),gm s6,ax l6 l7,ax l8 (cs [32]),gf 1 s2,gd l10,ax l9 im,ax js (cs [10]),gm ki] 1 14) .ret)))))⟩
def w461 {Y:Ctx}(hm:(Y.at 0).bd)(h249:I1 Y)(w:cQ)  (hp0:w.fit):dd Y yL (.str (gV w)) [cQ.D w]:=by
 show bH _ _ _ [⟨_,_⟩,_,_,_,_,_,_] _;have q1:=vJ hp0;have q2:=hp0.1.1.1;have q3:=hp0.1.1.2;refine ak ?_;refine gW ?_;intro u0;refine aA ?_;refine cw (fun hc0=>?_) fun hc0=>?_
 ·refine aB ?_;refine aq (hc:=h249 w.feats 44 ae) ?_;refine aU ?_;refine cw (fun hc1=>?_) fun hc1=>?_
  ·refine aF ?_;refine eo ?_;refine eo ?_;refine aS ?_;refine eo ?_;refine eo ?_;refine aS ?_;refine eo ?_;refine eo ?_;refine aA ?_;refine eo ?_;refine eo ?_;refine aB ?_;refine cD ?_;all_goals
    simp only[gV,bQ,kI,bc,mP,mQ,lU];first|rw[av (show w.feats.length=0 by omega)]|rw[ai (show ¬w.feats.length=0 by omega)]
    simp[hc1]
  refine aE ?_;refine eo ?_;refine eo ?_;refine aS ?_;refine eo ?_;refine eo ?_;refine aS ?_;refine eo ?_;refine eo ?_;refine aA ?_;refine eo ?_;refine eo ?_;refine aB ?_;refine cD ?_;all_goals
   simp only[gV,bQ,kI,bc,mP,mQ,lU];first|rw[av (show w.feats.length=0 by omega)]|rw[ai (show ¬w.feats.length=0 by omega)]
   simp[hc1]
 refine aF ?_;refine cw (fun hc1=>?_) fun hc1=>?_
 ·refine aF ?_;refine eo ?_;refine eo ?_;refine aS ?_;refine eo ?_;refine eo ?_;refine aS ?_;refine eo ?_;refine eo ?_;refine aA ?_;refine eo ?_;refine eo ?_;refine aB ?_;refine cD ?_;all_goals
   simp only[gV,bQ,kI,bc,mP,mQ,lU];first|rw[av (show w.feats.length=0 by omega)]|rw[ai (show ¬w.feats.length=0 by omega)]
   simp[hc1]
 refine aE ?_;refine eo ?_;refine eo ?_;refine aS ?_;refine eo ?_;refine eo ?_;refine aS ?_;refine eo ?_;refine eo ?_;refine aA ?_;refine eo ?_;refine eo ?_;refine aB ?_;refine cD ?_;all_goals
  simp only[gV,bQ,kI,bc,mP,mQ,lU];first|rw[av (show w.feats.length=0 by omega)]|rw[ai (show ¬w.feats.length=0 by omega)]
  simp[hc1]
def OK (Y:Ctx):Prop:=∀(w:cQ),(w.fit)->Y.pre 461 [cQ.D w]/\Y.val 461 [cQ.D w]=.str (gV w)
def Cg:aC:=⟨1,3,fM,bM,(sq (r1 [gm cse] 1 0) (sq (sq (r1 [gm s0,aL l0 cse] 2 1) (jG s2 cse)) (sq (r1 [gm s0,ax (cs [119,104,101,110,32]) l0,ax l1 (cs [10]),gm l2] 1 3) .ret)))⟩
def w462 {Y:Ctx}(hm:(Y.at 0).bd)  (s:au)  (hp0:s.length<=1048576):dd Y Cg (.str (gw s)) [.str s]:=by
 show bH _ _ _ [⟨_,_⟩,_,_] _;refine ak ?_;refine aU ?_;refine cw (fun hc0=>?_) fun hc0=>?_
 ·refine aI ?_;refine cD ?_;rw[gw,av hc0]
 refine aB ?_;refine eo ?_;refine eo ?_;refine aB ?_;refine cD ?_;rw[gw,ai hc0];simp[bQ,bc,nH]
def OL (Y:Ctx):Prop:=∀(s:au),(s.length<=1048576)->Y.pre 462 [.str s]/\Y.val 462 [.str s]=.str (gw s)
def Cf:aC:=⟨1,13,fM,bM,(sq (rg [gb 9 s0,gm cse] [(2,0),(1,1)]) (sq (r2 [gf 0 s2,gd l0,ax (cs [112,97,99,107,97,103,101,32]) l1,ax l2 (cs [32]),gf 1 s2,gk 5 true l4,gx 316 [l5] wg,ax l3 l6,ax l7 (cs [10]),gm l8] 5 9) (sq (sq (r1 [gm bp] 3 0) (.block 0 (.loop (sq (sq (r1 [gm s3,gf 6 s2,gd l1,gl l2,aP l0 l3] 4 4) (eN s4 0)) (sq (.block 1 (sq (r1 [gm s5,ax l0 (cs [110,101,101,100,10]),gm l1] 5 2) (sq (sq (r1 [gm bp] 6 0) (.block 2 (.loop (sq (sq (r1 [gm s6,gf 6 s2,gd l1,gm s3,ga 3 l2 l3,gf 0 l4,gd l5,gl l6,aP l0 l7] 7 8) (eN s7 2)) (sq (.block 3 (r1 [gm s5,gf 6 s2,gd l1,gm s3,ga 3 l2 l3,gf 0 l4,gd l5,gm s6,ga 4 l6 l7,gk 4 true l8,gx 461 [l9] [[.a,.a,.sl 1 [.a],.a]],ax l0 l10,gm im] 5 12)) (r1 [gm s6,ax l0 cq,gm l1] 6 2)))))) (sq (r1 [gm s5,gf 6 s2,gd l1,gm s3,ga 3 l2 l3,gf 1 l4,gd l5,gx 462 [l6] bM,ax l0 l7,gm l8] 5 9) (sq (r1 [gf 6 s2,gd l0,gm s3,ga 3 l1 l2,gf 2 l3,gd l4,cg l5 cse] 8 6) (.cond s8 (r1 [gm s5,ax l0 (cs [111,112,116,105,111,110,32]),gf 6 s2,gd l2,gm s3,ga 3 l3 l4,gf 2 l5,gd l6,ax l1 l7,ax l8 (cs [10]),gm l9] 5 10) .skip)))))) (r1 [gm s3,ax l0 cq,gm l1] 3 2)))))) (sq (sq (r1 [gm bp] 9 0) (.block 4 (.loop (sq (sq (r1 [gm s9,gf 7 s2,gd l1,gl l2,aP l0 l3] 10 4) (eN iP 4)) (sq (.block 5 (r2 [gm s5,ax l0 (cs [98,97,114,32]),gf 7 s2,gd l2,gm s9,ga 3 l3 l4,gf 0 l5,gd l6,ax l1 l7,ax l8 (cs [32]),gf 7 s2,gd l10,gm s9,ga 3 im js,gf 1 ki,gd kW,ax l9 me,ax ng (cs [10]),gf 7 s2,gd qB,gm s9,ga 3 rA vT,gf 2 wW,gd yo,gx 462 [Bd] bM,ax pJ BM,gm EL] 5 26)) (r1 [gm s9,ax l0 cq,gm l1] 9 2)))))) (sq (sq (r1 [gm bp] 11 0) (.block 6 (.loop (sq (sq (r1 [gm kp,gf 8 s2,gd l1,gl l2,aP l0 l3] 12 4) (eN mS 6)) (sq (.block 7 (r2 [gm s5,gf 8 s2,gd l1,gm kp,ga 2 l2 l3,gf 0 l4,gd l5,gn (.bsl 1 (.str []) 2 [(0,(cs [102,101,97,116,117,114,101])),(1,l6)]),gf 8 s2,gd l8,gm kp,ga 2 l9 l10,gf 1 im,gd js,gn (.app 1 l7 ki),gx 249 [kW,(i8 32)] [[.sl 1 [.a]],[.a]],ax l0 me,ax ng (cs [10]),gm pJ] 5 18)) (r1 [gm kp,ax l0 cq,gm l1] 11 2)))))) (sq (r1 [gm s5,gm l0] 1 1) .ret))))))⟩
def w219 {Y:Ctx}(hm:(Y.at 0).bd)(h249:I1 Y)(h316:Oj Y)(h461:OK Y)(h462:OL Y)(r:Rec)  (hp0:pI r/\dh r):dd Y Cf (.str (kG r)) [Rec.D r]:=by
 show bH _ _ _ [⟨_,_⟩,_,_,_,_,_,_,_,_,_,_,_,_] _;have hft:=wS hp0;have q0:=hft.nm;have q00:=vG r.v hft.v;refine ak ?_;refine aF ?_;refine eo ?_;refine eo ?_;refine aS ?_;refine bR (v:=bX.D r.v) ?_;refine aq (hc:=h316 r.v hft.v) ?_;refine eo ?_;refine eo ?_;refine aF ?_;refine bh hm (ι:=Nat) (fun i=>[.un,.un,⟨true,.ptr 0 9 0 0⟩,⟨true,.int .i64 (i:Nat)⟩,.un,⟨true,.str (iU r i)⟩,.un,.un,.un,.un,.un,.un,.un]) (fun i=>[(0,.buf 9 [Rec.D r])]) 13 (fun i=>i<=r.needs.length) (fun i=>r.needs.length-i) 0 ae (bj.to [(0,0)] ah ah (by repeat(first|exact c9.nil|refine c9.un ?_|refine c9.eq ah ?_|refine c9.nl (aj D.str (by rw[IB];simp[og,bQ,bc,lH])) ah ?_)) nP) ?_;intro i hi;have q1:=yS hft i hi;refine aF ?_;intro u0;refine aA ?_;refine cw (fun hc0=>?_) fun hc0=>?_
 ·refine aB ?_;have hnf:=hft.n _ (bS (show i<r.needs.length by omega));have hn3:=hnf.1.1;refine aS ?_;refine eo ?_;refine aF ?_;refine bh hm (ι:=Nat) (fun j=>[.un,.un,⟨true,.ptr 0 9 0 0⟩,⟨true,.int .i64 (i:Nat)⟩,.un,⟨true,.str (iU r i++du r.needs[i]! j)⟩,⟨true,.int .i64 (j:Nat)⟩,.un,.un,.un,.un,.un,.un]) (fun j=>[(0,.buf 9 [Rec.D r])]) 22 (fun j=>j<=r.needs[i]!.any.length) (fun j=>r.needs[i]!.any.length-j) 0 ae (bj.to [(0,0)] ah ah (by repeat(first|exact c9.nil|refine c9.un ?_|refine c9.eq ah ?_|refine c9.nl (aj D.str (by rw[JZ])) ah ?_)) nP) ?_;intro j hj;have q2:=w9 hnf j ae;refine ic ?_;intro u1;refine aA ?_;refine cw (fun hc1=>?_) fun hc1=>?_
  ·refine aB ?_;have hwf:=hnf.1.2 _ (bS (show j<r.needs[i]!.any.length by omega));have q3:=sA hwf;refine cU ?_;first|refine cy (v:=(cQ.D _)) ?_|refine eO (v:=(cQ.D _)) ?_
   refine aq (hc:=h461 r.needs[i]!.any[j]! hwf) ?_;refine eo ?_;refine cU ?_;exact⟨j+1,ae,ae,(bj.to [(0,0)] ah ah (by repeat(first|exact c9.nil|refine c9.un ?_|refine c9.eq ah ?_|refine c9.nl (aj D.str (by rw[lB ae,dG])) ah ?_)) nP)⟩
  refine aB ?_;have q4:=lf hnf.2.1;have q5:=hnf.2.2;refine aU ?_;refine aq (hc:=h462 r.needs[i]!.when' hnf.2.1) ?_;refine eo ?_;refine gy ?_;refine eP (fun hc2=>?_) fun hc2=>?_
  ·refine aA ?_;refine eo ?_;refine aF ?_;refine eo ?_;refine eo ?_;refine cU ?_;have hq:iU r (i+1)=iU r i++(du r.needs[i]! j++gw r.needs[i]!.when'++pA r.needs[i]!.option):=by rw[j7 ae,sb (j:=j) ae]
   have ho:pA r.needs[i]!.option=[111,112,116,105,111,110,32]++r.needs[i]!.option++[10]:=by rw[pA,ai hc2];simp[bQ,bc,jm]
   exact⟨i+1,ae,ae,(bj.to [(0,0)] ah ah (by repeat(first|exact c9.nil|refine c9.un ?_|refine c9.eq ah ?_|refine c9.nl (aj D.str (by rw[hq,ho];simp only[dG])) ah ?_)) nP)⟩
  refine bP ?_;have hq:iU r (i+1)=iU r i++(du r.needs[i]! j++gw r.needs[i]!.when'++pA r.needs[i]!.option):=by rw[j7 ae,sb (j:=j) ae]
  have ho:pA r.needs[i]!.option=[]:=by rw[pA,av hc2]
  exact⟨i+1,ae,ae,(bj.to [(0,0)] ah ah (by repeat(first|exact c9.nil|refine c9.un ?_|refine c9.eq ah ?_|refine c9.nl (aj D.str (by rw[hq,ho];simp only[dG,jq])) ah ?_)) nP)⟩
 refine aE ?_;have h33:i=r.needs.length:=ae;subst h33;refine aA ?_;refine bh hm (ι:=Nat) (fun i=>[.un,.un,⟨true,.ptr 0 9 0 0⟩,.un,.un,⟨true,.str (vC r i)⟩,.un,.un,.un,⟨true,.int .i64 (i:Nat)⟩,.un,.un,.un]) (fun i=>[(0,.buf 9 [Rec.D r])]) 19 (fun i=>i<=r.bars.length) (fun i=>r.bars.length-i) 0 ae (bj.to [(0,0)] ah ah (by repeat(first|exact c9.nil|refine c9.un ?_|refine c9.eq ah ?_|refine c9.nl (aj D.str (by rw[IC])) ah ?_)) nP) ?_;intro i hi;have q1:=yT hft i hi;refine aF ?_;intro u2;refine aA ?_;refine cw (fun hc3=>?_) fun hc3=>?_
 ·refine aB ?_;have q4:=hft.b _ (bS (show i<r.bars.length by omega));have q5:=q4.1;have q6:=q4.2.1;have q7:=lf q4.2.2;refine aS ?_;refine eo ?_;refine aF ?_;refine eo ?_;refine eo ?_;refine aF ?_;refine eo ?_;refine eo ?_;refine aF ?_;refine aq (hc:=h462 r.bars[i]!.when' q4.2.2) ?_;refine eo ?_;refine cU ?_;have hq:=AY (r:=r) (i:=i) ae;exact⟨i+1,ae,ae,(bj.to [(0,0)] ah ah (by repeat(first|exact c9.nil|refine c9.un ?_|refine c9.eq ah ?_|refine c9.nl (aj D.str (by rw[hq];simp[ta,bQ,bc,qy])) ah ?_)) nP)⟩
 refine aE ?_;have h33:i=r.bars.length:=ae;subst h33;refine aA ?_;refine bh hm (ι:=Nat) (fun i=>[.un,.un,⟨true,.ptr 0 9 0 0⟩,.un,.un,⟨true,.str (xF r i)⟩,.un,.un,.un,.un,.un,⟨true,.int .i64 (i:Nat)⟩,.un]) (fun i=>[(0,.buf 9 [Rec.D r])]) 25 (fun i=>i<=r.feats.length) (fun i=>r.feats.length-i) 0 ae (bj.to [(0,0)] ah ah (by repeat(first|exact c9.nil|refine c9.un ?_|refine c9.eq ah ?_|refine c9.nl (aj D.str (by rw[IE])) ah ?_)) nP) ?_;intro i hi;have q1:=DU hft i hi;refine aF ?_;intro u3;refine aA ?_;refine cw (fun hc4=>?_) fun hc4=>?_
 ·refine aB ?_;have q4:=hft.f _ (bS (show i<r.feats.length by omega));have q5:=wM q4;have q6:=q4.2;simp only[oc,bQ,bA,ay,az]at q5;refine aU ?_;refine dK [(.str _),(.str _)] ?_;refine aF ?_;refine M5 (xs:=[gU,r.feats[i]!.name]) (ys:=r.feats[i]!.of) (he:=sC.sl) (hb:=by simp only[ay,az];omega) ?_;refine aq (hc:=h249 ([gU,r.feats[i]!.name]++r.feats[i]!.of) 32 ae) (ha:=fun _=>aj (fun d=>[d,D.int .u8 32]) (lX (q:=D.str) (fun _=>rfl) ah)) (hp:=fun _=>⟨j9 (q:=D.str) (fun _=>rfl) ah,rfl,trivial⟩) ?_;refine df (hb:=fun _=>by first|omega|(simp only[bA,ay,az];omega)) ?_;refine df (hb:=fun _=>by first|omega|(simp only[bA,ay,az];omega)) ?_;refine cU ?_;have hq:=AZ (r:=r) (i:=i) ae;exact⟨i+1,ae,ae,(bj.to [(0,0)] ah ah (by repeat(first|exact c9.nil|refine c9.un ?_|refine c9.eq ah ?_|refine c9.nl (aj D.str (by rw[hq];simp[oc,bQ])) ah ?_)) nP)⟩
 refine aB ?_;have h33:i=r.feats.length:=ae;subst h33;refine aE ?_;refine cD ?_;exact yV r
def Ar:aC:=⟨1,6,[⟨1,none⟩,⟨2,none⟩],fV,(sq (rg [gb 9 s0,gm cse,gm bp] [(3,0),(1,1),(2,2)]) (sq (sq (r1 [gk 9 true s3,gx 71 [l0] [[.a,.a,.a,.a,.a,.a,.sl 3 [.sl 4 [.a,.a,.sl 1 [.a],.a],.a,.a],.sl 3 [.a,.a,.a],.sl 2 [.a,.sl 1 [.a]]]],gm l1,ge l2 0,ge l2 1,gm l3,gm l4] 4 5) (sq (r1 [gm s4,cg l0 bp] 5 1) (.cond s5 (sq (rg [gm s4,gm cse,gm l0] [(1,1),(2,2)]) .ret) .skip))) (sq (rg [gk 9 true s3,gx 219 [l0] [[.a,.a,.a,.a,.a,.a,.sl 3 [.sl 4 [.a,.a,.sl 1 [.a],.a],.a,.a],.sl 3 [.a,.a,.a],.sl 2 [.a,.sl 1 [.a]]]],gm l1,gm bp] [(1,2),(2,3)]) .ret)))⟩
def w73 {Y:Ctx}(hm:(Y.at 0).bd)(h71:C71 Y)(h219:Ls Y)(r:Rec)  (hp0:dh r):dd Y Ar (.tup [.str (cP r).1,.int .i64 (cP r).2]) [Rec.D r]:=by
 show bH _ _ _ [⟨_,_⟩,_,_,_,_,_] _;refine ak ?_;refine aU ?_;refine aq (hc:=h71 r hp0) ?_;refine gy ?_;refine cw (fun hc0=>?_) fun hc0=>?_
 ·refine aU ?_;refine bO (aN (aj D.str ?_) (aj (D.int .i64) ?_));all_goals
   simp[cP,hc0]
 refine aA ?_;have hgd:=n3 hc0;refine aS ?_;refine aq (hc:=h219 r ⟨hgd,hp0⟩) ?_;refine aE ?_;refine bO (aN (aj D.str ?_) (aj (D.int .i64) ?_));all_goals
  simp[cP,hc0]
def C73 (Y:Ctx):Prop:=∀(r:Rec),(dh r)->Y.pre 73 [Rec.D r]/\Y.val 73 [Rec.D r]=.tup [.str (cP r).1,.int .i64 (cP r).2]
def Ff:aC:=⟨1,7,[⟨1,none⟩,⟨2,none⟩],fV,(sq (rg [gb 9 s0,gm (iu 0),gm bp] [(3,0),(1,1),(2,2)]) (sq (rg [gk 9 true s3,gx 73 [l0] [[.a,.a,.a,.a,.a,.a,.sl 3 [.sl 4 [.a,.a,.sl 1 [.a],.a],.a,.a],.sl 3 [.a,.a,.a],.sl 2 [.a,.sl 1 [.a]]]],gm l1,ge l2 0,ge l2 1,gm l3,gm l4] [(6,5),(4,6)]) (sq (sq (r1 [gm s4,cg l0 bp] 5 1) (.cond s5 (sq (rg [gm s4,gm (iu 0),gm l0] [(1,1),(2,2)]) .ret) .skip)) (sq (rg [gm s6,gn (.s2b l0),gx 221 [l1] [[.sl 1 [.a]]],gm l2,gm bp] [(1,3),(2,4)]) .ret))))⟩
def w75 {Y:Ctx}(hm:(Y.at 0).bd)(h73:C73 Y)(h221:Oc Y)(r:Rec)  (hp0:dh r):dd Y Ff (.tup [.int .u64 (oL r),.int .i64 (cP r).2]) [Rec.D r]:=by
 show bH _ _ _ [⟨_,_⟩,_,_,_,_,_,_] _;refine ak ?_;refine aF ?_;refine aq (hc:=h73 r hp0) ?_;refine gy ?_;refine cw (fun hc0=>?_) fun hc0=>?_
 ·refine aU ?_;refine bO (aN (aj (D.int .u64) ?_) (aj (D.int .i64) ?_));all_goals
   simp[oL,hc0]
 refine aE ?_;refine aq (hc:=h221 (cP r).1) (ha:=fun _=>aj (fun d=>[d]) (lX (q:=fun b:UInt8=>D.int .u8 b.toNat) (fun _=>rfl) ah)) (hp:=fun _=>⟨j9 (q:=fun b:UInt8=>D.int .u8 b.toNat) (fun _=>rfl) ah,trivial⟩) ?_;refine aE ?_;refine bO (aN (aj (D.int .u64) ?_) (aj (D.int .i64) ?_));all_goals
  simp[oL,hc0]
def C75 (Y:Ctx):Prop:=∀(r:Rec),(dh r)->Y.pre 75 [Rec.D r]/\Y.val 75 [Rec.D r]=.tup [.int .u64 (oL r),.int .i64 (cP r).2]
def Fi:aC:=⟨2,5,[⟨2,none⟩],bM,(sq (rg [gb 5 s0,gb 5 s1,gm dt] [(3,0),(4,1),(2,2)]) (sq (r1 [gk 5 true s3,gx 217 [l0] wg,gm l1,ca 2 (.ld 5 true s4),ca 2 (.call 217 [l3] wg),ew l2 l4,gm l5,ca 6 (.ld 5 true s3),ca 6 (.ld 5 true s4),ca 6 (.call 424 [l7,l8] [[.a,.a,.a,.a,.a],[.a,.a,.a,.a,.a]]),ca 6 (cM l9 bp),ew l6 l10,gm im] 2 12) .ret))⟩
def w501 {Y:Ctx}(hm:(Y.at 0).bd)(h217:D3 Y)(h424:Oq Y)(a:bX)(b:bX)  (hp0:a.sm/\b.sm):dd Y Fi (.bool (uM a b)) [bX.D a,bX.D b]:=by
 show bH _ _ _ [⟨_,_⟩,⟨_,_⟩,_,_,_] _;refine ak ?_;refine aF ?_;refine aq (hc:=h217 a hp0.1) ?_;refine aA ?_;refine dq (hc:=fun hf=>h217 b hp0.2) ?_;refine aE ?_;refine dq (hc:=fun hf=>h424 a b hp0) ?_;refine aI ?_;exact bF rfl
def OT (Y:Ctx):Prop:=∀(a:bX)(b:bX),(a.sm/\b.sm)->Y.pre 501 [bX.D a,bX.D b]/\Y.val 501 [bX.D a,bX.D b]=.bool (uM a b)
def Au:aC:=⟨3,8,[⟨3,none⟩],bM,(sq (rg [gb 5 s2,gm bp] [(6,0),(3,1)]) (sq (sq (r1 [gm bp] 4 0) (.block 0 (.loop (sq (sq (r1 [gm s4,gm s0,gl l1,aP l0 l2] 5 3) (eN s5 0)) (sq (.block 1 (sq (r2 [gm s0,gm s4,ga 11 l0 l1,gf 0 l2,gf 0 l3,gd l4,gm s1,aL l5 l6,gm l7,gmt 8 s0,gmt 8 s4,ca 8 (.ia 11 l9 l10),lr 8 0 im,lr 8 1 js,ca 8 (.ld 5 true ki),ca 8 (.ld 5 true s6),ca 8 (.call 501 [kW,me] [[.a,.a,.a,.a,.a],[.a,.a,.a,.a,.a]]),ew l8 ng] 7 17) (.cond s7 (sq (r1 [gm s4,gm l0] 3 1) .ret) .skip))) (r1 [gm s4,ax l0 cq,gm l1] 4 2)))))) (sq (r1 [gn (.mv (.c (.int .i64 (-1))))] 3 0) .ret)))⟩
def w580 {Y:Ctx}(hm:(Y.at 0).bd)(h501:OT Y)(l:List eu)(nm:au)(v:bX)  (hp0:(∀x∈l,x.r.v.sm)/\v.sm):dd Y Au (.int .i64 (rj l nm v 0)) [.sl 11 (l.map eu.D),.str nm,bX.D v]:=by
 show bH _ _ _ [⟨_,_⟩,⟨_,_⟩,⟨_,_⟩,_,_,_,_,_] _;refine ak ?_;refine aU ?_;refine bh hm (ι:=Nat) (fun i=>[⟨true,.sl 11 (l.map eu.D)⟩,⟨true,.str nm⟩,.un,.un,⟨true,.int .i64 (i:Nat)⟩,.un,⟨true,.ptr 0 5 0 0⟩,.un]) (fun i=>[(0,.buf 5 [bX.D v])]) 3 (fun i=>i<=l.length/\rj l nm v 0=rj l nm v i) (fun i=>l.length-i) 0 ⟨ae,rfl⟩ (dn [(0,0)]) ?_;rintro i ⟨hi,hr⟩;refine aI ?_;intro u0;refine aA ?_;refine cw (fun hc0=>?_) fun hc0=>?_
 ·refine aI ?_;refine cC i ?_;refine aA ?_;refine cy (v:=.str l[i]!.r.name) ?_;refine aI ?_;refine cC i ?_;refine aA ?_;refine cy (v:=bX.D l[i]!.r.v) ?_;refine aS ?_;refine dq (hc:=fun hf=>h501 l[i]!.r.v v ⟨hp0.1 _ (bS ae),hp0.2⟩) ?_;refine aA ?_;refine eP (fun hc1=>?_) fun hc1=>?_
  ·refine aU ?_;refine cL ?_;rw[hr,HP ae (JN hc1)]
  refine bP ?_;exact⟨i+1,⟨ae,by rw[hr,HQ ae (MG hc1)]⟩,ae,(dn [(0,0)])⟩
 refine aF ?_;refine cL ?_;rw[hr,Dz ae]
def O0 (Y:Ctx):Prop:=∀(l:List eu)(nm:au)(v:bX),((∀x∈l,x.r.v.sm)/\v.sm)->Y.pre 580 [.sl 11 (l.map eu.D),.str nm,bX.D v]/\Y.val 580 [.sl 11 (l.map eu.D),.str nm,bX.D v]=.int .i64 (rj l nm v 0)
def Fh:aC:=⟨1,10,fM,bM,(sq (rg [gb 2 s0,gm dt] [(2,0),(1,1)]) (sq (sq (r1 [gf 0 s2,gd l0,gx 216 [l1] bM,jx l2,gm l3,hZ 4 1 s2,iT 4 l5,cl 4 (.len l6),cl 4 (dE l7 (i6 64)),eK l4 l8] 3 9) (jG s3 dt)) (sq (sq (r1 [gm bp] 4 0) (.block 0 (.loop (sq (sq (r1 [gm s4,gf 1 s2,gd l1,gl l2,aP l0 l3] 5 4) (eN s5 0)) (sq (.block 1 (sq (r1 [gf 1 s2,gd l0,gm s4,ga 11 l1 l2,gk 11 true l3,gb 11 (.c (.agg [.str [],.int .i64 0,.int .i64 0,.int .i64 0,.str [],.str [],.aV,.aV,.aV,.int .u64 0,.bool false])),gt 11 l5 l4] 6 5) (sq (rg [gf 0 s6,gk 9 true l0,gx 75 [l1] [[.a,.a,.a,.a,.a,.a,.sl 3 [.sl 4 [.a,.a,.sl 1 [.a],.a],.a,.a],.sl 3 [.a,.a,.a],.sl 2 [.a,.sl 1 [.a]]]],gm l2,ge l3 0,ge l3 1,gm l4,gm l5] [(8,6),(7,7)]) (sq (r1 [gm s7,cg l0 bp,gm l1,eC 2 s8,hZ 2 9 s6,iT 2 l4,cl 2 (eW l3 l5),eK l2 l6,gm l7,hZ 8 1 s2,iT 8 l9,hZ 8 0 s6,hZ 8 0 im,iT 8 js,hZ 8 0 s6,hZ 8 1 kW,cl 8 (.ld 5 true me),cl 8 (.call 580 [l10,ki,ng] [[.sl 11 [.a,.a,.a,.a,.a,.a,.sl 3 [.sl 4 [.a,.a,.sl 1 [.a],.a],.a,.a],.sl 3 [.a,.a,.a],.sl 2 [.a,.sl 1 [.a]],.a,.a]],[.a],[.a,.a,.a,.a,.a]]),eC 8 s4,cl 8 (eW pJ qB),eK l8 rA] 9 20) (jG s9 dt))))) (r1 [gm s4,ax l0 cq,gm l1] 4 2)))))) (te px))))⟩
def w358 {Y:Ctx}(hm:(Y.at 0).bd)(h75:C75 Y)(h216:D2 Y)(h580:O0 Y)(s:fD)  (hp0:∀x∈s.es,dh x.r):dd Y Fh (.bool (nt s)) [fD.D s]:=by
 show bH _ _ _ [⟨_,_⟩,_,_,_,_,_,_,_,_,_] _;refine ak ?_;refine aF ?_;refine bR (v:=.str s.name) ?_;refine aq (hc:=h216 _) ?_;refine aB ?_;refine bR (v:=.sl 11 (s.es.map eu.D)) ?_;refine kd ?_;refine aB ?_;refine aw (fun hc0=>?_) (fun hc0=>?_)
 ·simp only[cu,bB,aR]at hc0;have hf:nt s=false:=by
   unfold nt;rcases hc0 with h|h
   ·rw[h];rfl
   ·rw[show decide (s.es.length<=64)=false from cj ae];simp
  refine aI ?_;refine bF ?_;exact hf.symm
 simp only[dc,bY,bx]at hc0;have hq:nt s=cr (pY s.es) 0 s.es.length:=by unfold nt;rw[hc0.1,bD (show s.es.length<=64 by omega)];simp
 refine aI ?_;refine bh hm (ι:=Nat) (fun i=>[.un,.un,⟨true,.ptr 0 2 0 0⟩,.un,⟨true,.int .i64 (i:Nat)⟩,.un,.un,.un,.un,.un]) (fun i=>[(0,.buf 2 [fD.D s])]) 13 (fun i=>i<=s.es.length/\nt s=cr (pY s.es) i s.es.length) (fun i=>s.es.length-i) 0 ⟨ae,hq⟩ (dn [(0,0)]) ?_;rintro i ⟨hi,hr⟩;refine aE ?_;refine bR (v:=.sl 11 (s.es.map eu.D)) ?_;refine aS ?_;intro u0;refine aA ?_;refine cw (fun hc1=>?_) fun hc1=>?_
 ·refine aB ?_;have hsm:=hp0 _ (bS (show i<s.es.length by omega));refine aS ?_;refine bR (v:=.sl 11 (s.es.map eu.D)) ?_;refine aS ?_;refine cC i ?_;refine cy (v:=eu.D s.es[i]!) ?_;refine aS ?_;refine bL (eu.D s.es[i]!) (he:=bN) ?_;refine aB ?_;refine bR (v:=Rec.D s.es[i]!.r) ?_;refine aq (hc:=h75 s.es[i]!.r hsm) ?_;refine gW ?_;refine bR (v:=.int .u64 s.es[i]!.sum) ?_;refine aE ?_;refine bR (v:=.sl 11 (s.es.map eu.D)) ?_;refine aA ?_;refine bR (v:=.str s.es[i]!.r.name) ?_;refine aA ?_;refine bR (v:=bX.D s.es[i]!.r.v) ?_;refine dq (hc:=fun hf=>h580 s.es s.es[i]!.r.name s.es[i]!.r.v ⟨fun x hx=>(hp0 x hx).1.2,hsm.1.2⟩) ?_;refine aE ?_;refine wp_cond (fun hc2=>?_) (fun hc2=>?_)
  ·have hen:pY s.es i=false:=by
    simp only[cu,bB,aR,bx]at hc2;exact Js ae hc2
   refine aF ?_;refine bF ?_;rw[hr,aK ae,hen];rfl
  have hen:pY s.es i=true:=by
   simp only[dc,bY,aR,bx]at hc2;exact GU ae hc2.1.1 hc2.1.2 hc2.2
  refine bP ?_;exact⟨i+1,⟨ae,by rw[hr,aK ae,hen];rfl⟩,ae,(dn [(0,0)])⟩
 refine aF ?_;refine bF ?_;rw[hr,bV ae]
def Oo (Y:Ctx):Prop:=∀(s:fD),(∀x∈s.es,dh x.r)->Y.pre 358 [fD.D s]/\Y.val 358 [fD.D s]=.bool (nt s)
def Av:aC:=⟨1,12,[⟨1,none⟩,⟨2,none⟩],fV,(sq (rg [gb 2 s0,gm cse,gm bp] [(3,0),(1,1),(2,2)]) (sq (sq (r1 [gk 2 true s3,gx 358 [l0] [[.a,.sl 11 [.a,.a,.a,.a,.a,.a,.sl 3 [.sl 4 [.a,.a,.a,.a],.a,.a],.sl 3 [.a,.a,.a],.sl 2 [.a,.sl 1 [.a]],.a,.a]]],jx l1] 4 2) (.cond s4 (sq (rg [gm cse,gm cq] [(1,0),(2,1)]) .ret) .skip)) (sq (r1 [gf 0 s3,gd l0,ax (cs [115,104,101,108,102,32]) l1,ax l2 (cs [10]),gm l3] 9 4) (sq (sq (r1 [gm bp] 5 0) (.block 0 (.loop (sq (sq (r1 [gm s5,gf 1 s3,gd l1,gl l2,aP l0 l3] 6 4) (eN s6 0)) (sq (.block 1 (sq (r1 [gf 1 s3,gd l0,gm s5,ga 11 l1 l2,gk 11 true l3,gb 11 (.c (.agg [.str [],.int .i64 0,.int .i64 0,.int .i64 0,.str [],.str [],.aV,.aV,.aV,.int .u64 0,.bool false])),gt 11 l5 l4] 7 5) (sq (r1 [gm (cs [32,111,110,10])] 10 0) (sq (sq (r1 [gf 10 s7,gd l0] 8 1) (.cond s8 (r1 [gm (cs [32,111,102,102,10])] 10 0) .skip)) (sq (r1 [gf 0 s7,gk 9 true l0,gx 73 [l1] [[.a,.a,.a,.a,.a,.a,.sl 3 [.sl 4 [.a,.a,.sl 1 [.a],.a],.a,.a],.sl 3 [.a,.a,.a],.sl 2 [.a,.sl 1 [.a]]]],gm l2,ge l3 0,ge l3 1,gm l4,gm l5] 11 6) (r1 [gm s9,ax l0 (cs [101,110,116,114,121,32]),gf 9 s7,gd l2,gx 313 [l3] bM,ax l1 l4,gm iP,ax l5 l6,gm kp,ax l7 l8,gm l9] 9 10)))))) (r1 [gm s5,ax l0 cq,gm l1] 5 2)))))) (sq (rg [gm s9,gm l0,gm bp] [(1,1),(2,2)]) .ret)))))⟩
def R8 {Y:Ctx}(hm:(Y.at 0).bd)(h73:C73 Y)(h313:Oi Y)(h358:Oo Y)(s:fD)  (hp0:∀x∈s.es,dh x.r):dd Y Av (.tup [.str (fj s).1,.int .i64 (fj s).2]) [fD.D s]:=by
 show bH _ _ _ [⟨_,_⟩,_,_,_,_,_,_,_,_,_,_,_] _;refine ak ?_;refine aF ?_;refine ee (d:=fD.D s) ?_;refine aq (hc:=h358 s hp0) ?_;refine aA ?_;refine aw (fun hc0=>?_) (fun hc0=>?_)
 ·simp only[bB]at hc0;refine aF ?_;refine bO (aN (aj D.str ?_) (aj (D.int .i64) ?_));all_goals
   have hps:fj s=([],1):=by unfold fj;rw[av hc0]
   rw[hps];first|done|rfl
 simp only[bY]at hc0;obtain⟨q1,q2⟩:=DN hc0;refine aB ?_;refine bR (v:=.str s.name) ?_;refine eo ?_;refine eo ?_;refine aF ?_;refine bh hm (ι:=Nat) (fun i=>[.un,.un,.un,⟨true,.ptr 0 2 0 0⟩,.un,⟨true,.int .i64 (i:Nat)⟩,.un,.un,.un,⟨true,.str (qC s i)⟩,.un,.un]) (fun i=>[(0,.buf 2 [fD.D s])]) 12 (fun i=>i<=s.es.length) (fun i=>s.es.length-i) 0 ae (bj.to [(0,0)] ah ah (by repeat(first|exact c9.nil|refine c9.un ?_|refine c9.eq ah ?_|refine c9.nl (aj D.str (by rw[ID];rfl)) ah ?_)) nP) ?_;intro i hi;have q3:=yU (s:=s) ae hi;refine aE ?_;refine bR (v:=.sl 11 (s.es.map eu.D)) ?_;refine aS ?_;intro u0;refine aA ?_;refine cw (fun hc1=>?_) fun hc1=>?_
 ·refine aB ?_;have hsm:=hp0 _ (bS (show i<s.es.length by omega));have q4:=qe s.es[i]!.r;have q5:=jQ s.es[i]!.sum;have hxt:=vD (show i<s.es.length by omega);have hee:=yd s.es[i]!;refine aS ?_;refine bR (v:=.sl 11 (s.es.map eu.D)) ?_;refine aS ?_;refine cC i ?_;refine cy (v:=eu.D s.es[i]!) ?_;refine aS ?_;refine bL (eu.D s.es[i]!) (he:=bN) ?_;refine aU ?_;refine bR (v:=.bool s.es[i]!.off) ?_;refine aS ?_;refine cw (fun hc2=>?_) fun hc2=>?_
  ·refine aI ?_;refine bR (v:=Rec.D s.es[i]!.r) ?_;refine aq (hc:=h73 s.es[i]!.r hsm) ?_;refine bP ?_;refine eo ?_;refine aS ?_;refine bR (v:=.int .u64 s.es[i]!.sum) ?_;refine aq (hc:=h313 _) ?_;refine eo ?_;refine aS ?_;refine eo ?_;refine aS ?_;refine eo ?_;refine cU ?_;exact⟨i+1,ae,ae,(bj.to [(0,0)] ah ah (by repeat(first|exact c9.nil|refine c9.un ?_|refine c9.eq ah ?_|refine c9.nl (aj D.str (by rw[hxt,hee,hc2];simp[nA,A4])) ah ?_)) nP)⟩
  refine aB ?_;refine bR (v:=Rec.D s.es[i]!.r) ?_;refine aq (hc:=h73 s.es[i]!.r hsm) ?_;refine bP ?_;refine eo ?_;refine aS ?_;refine bR (v:=.int .u64 s.es[i]!.sum) ?_;refine aq (hc:=h313 _) ?_;refine eo ?_;refine aS ?_;refine eo ?_;refine aS ?_;refine eo ?_;refine cU ?_;exact⟨i+1,ae,ae,(bj.to [(0,0)] ah ah (by repeat(first|exact c9.nil|refine c9.un ?_|refine c9.eq ah ?_|refine c9.nl (aj D.str (by rw[hxt,hee,hc2];simp[nA,NC])) ah ?_)) nP)⟩
 refine aB ?_;have h33:i=s.es.length:=ae;subst h33;have hps:fj s=(qC s s.es.length,0):=by unfold fj;rw[ai (by simp[hc0]),DT]
 refine aI ?_;refine bO (aN (aj D.str ?_) (aj (D.int .i64) ?_));all_goals
  rw[hps];first|done|rfl
def KH (Y:Ctx):Prop:=∀(s:fD),(∀x∈s.es,dh x.r)->Y.pre 1202 [fD.D s]/\Y.val 1202 [fD.D s]=.tup [.str (fj s).1,.int .i64 (fj s).2]
def EM:aC:=⟨1,11,fM,bM,(sq (rg [gb 2 s0,gm dt] [(2,0),(1,1)]) (sq (sq (r1 [gf 1 s2,gd l0,gl l1,cH l2 uy,gm l3,hZ 4 0 s2,iT 4 l5,cl 4 (.lenS l6),cl 4 (dE l7 (i6 60)),eK l4 l8] 3 9) (jG s3 dt)) (sq (sq (r1 [gm bp] 4 0) (.block 0 (.loop (sq (sq (r1 [gm s4,gf 1 s2,gd l1,gl l2,aP l0 l3] 5 4) (eN s5 0)) (sq (.block 1 (sq (r1 [gf 1 s2,gd l0,gm s4,ga 11 l1 l2,gf 0 l3,gk 9 true l4,gb 9 (.c (.agg [.str [],.int .i64 0,.int .i64 0,.int .i64 0,.str [],.str [],.aV,.aV,.aV])),gt 9 l6 l5] 6 6) (sq (sq (r1 [gf 0 s6,gd l0,mE l1,gf 1 s6,gf 3 l3,gd l4,mE l5,ax l2 l6,gf 1 s6,gf 4 l8,gd l9,mE l10,ax l7 im,cH js (i6 200),gm ki,hZ 14 6 s6,iT 14 me,cl 14 (.len ng),cl 14 (dE pJ Bc),eK kW qB,gm rA,hZ 20 7 s6,iT 20 wW,cl 20 (.len yo),cl 20 (dE Bd Bc),eK vT BM,gm EL,hZ 26 8 s6,iT 26 JU,cl 26 (.len K7),cl 26 (dE K8 Bc),eK Hk NL] 7 31) (jG s7 dt)) (sq (r1 [gm bp] 8 0) (.block 2 (.loop (sq (sq (r1 [gm s8,gf 6 s6,gd l1,gl l2,aP l0 l3] 9 4) (eN s9 2)) (sq (.block 3 (sq (r2 [gf 6 s6,gd l0,gm s8,ga 3 l1 l2,gf 0 l3,gd l4,gl l5,cH l6 tg,gm l7,hZ 8 6 s6,iT 8 l9,eC 8 s8,cl 8 (.ia 3 l10 im),hZ 8 1 js,iT 8 ki,cl 8 (.lenS kW),hZ 8 6 s6,iT 8 ng,eC 8 s8,cl 8 (.ia 3 pJ qB),hZ 8 2 rA,iT 8 vT,cl 8 (.lenS wW),cl 8 (Gx me yo),cl 8 (dE Bd (i6 200)),eK l8 BM] 10 25) (jG iP dt))) (r1 [gm s8,ax l0 cq,gm l1] 8 2))))))))) (r1 [gm s4,ax l0 cq,gm l1] 4 2)))))) (te px))))⟩
def R7 {Y:Ctx}(hm:(Y.at 0).bd)  (s:fD)   :dd Y EM (.bool (EB s)) [fD.D s]:=by
 show bH _ _ _ [⟨_,_⟩,_,_,_,_,_,_,_,_,_,_] _;refine ak ?_;refine aF ?_;refine bR (v:=.sl 11 (s.es.map eu.D)) ?_;refine aS ?_;intro u0;refine aB ?_;refine bR (v:=.str s.name) ?_;refine kd ?_;refine aB ?_;refine aw (fun hc0=>?_) (fun hc0=>?_)
 ·simp only[cu,aR]at hc0;refine aI ?_;refine bF ?_;unfold EB;rcases hc0 with h|h
  ·rw[cj (show ¬s.es.length<=6 by omega)];rfl
  ·rw[cj (show ¬s.name.length<=60 by omega)];simp
 simp only[dc,bx]at hc0;refine aI ?_;refine bh hm (ι:=Nat) (fun i=>[.un,⟨true,.bool false⟩,⟨true,.ptr 0 2 0 0⟩,.un,⟨true,.int .i64 (i:Nat)⟩,.un,.un,.un,.un,.un,.un]) (fun i=>[(0,.buf 2 [fD.D s])]) 13 (fun i=>i<=s.es.length/\EB s=cr (fun i=>EA s.es[i]!.r) i s.es.length) (fun i=>s.es.length-i) 0 ⟨ae,by unfold EB;rw[bD (show s.es.length<=6 by omega),bD (show s.name.length<=60 by omega)];rfl⟩ (dn [(0,0)]) ?_;rintro i ⟨hi,hr⟩;refine aE ?_;refine bR (v:=.sl 11 (s.es.map eu.D)) ?_;refine aS ?_;intro u1;refine aA ?_;refine cw (fun hc1=>?_) fun hc1=>?_
 ·refine aE ?_;refine bR (v:=.sl 11 (s.es.map eu.D)) ?_;refine aS ?_;refine cC i (hb:=fun _=>ae) ?_;refine aS ?_;refine cy (v:=Rec.D s.es[i]!.r) (hi:=fun _=>ae) ?_;refine aS ?_;refine bL (Rec.D s.es[i]!.r) (he:=bN) ?_;refine aE ?_;refine bR (v:=.str s.es[i]!.r.name) ?_;refine aS ?_;intro u2;refine aA ?_;refine bR (v:=.str s.es[i]!.r.v.pre) ?_;refine aS ?_;intro u3;refine oB (RI s.es[i]!.r) (hb:=fun _=>rfl) ?_;refine aA ?_;refine bR (v:=.str s.es[i]!.r.v.build) ?_;refine aS ?_;intro u4;refine oB (Kt s.es[i]!.r) (hb:=fun _=>rfl) ?_;refine aB ?_;refine bR (v:=.sl 3 (s.es[i]!.r.needs.map cB.D)) ?_;refine kd ?_;refine aE ?_;refine bR (v:=.sl 3 (s.es[i]!.r.bars.map kJ.D)) ?_;refine kd ?_;refine aE ?_;refine bR (v:=.sl 2 (s.es[i]!.r.feats.map bW.D)) ?_;refine kd ?_;refine aB ?_;refine aw (fun hc2=>?_) (fun hc2=>?_)
  ·simp only[cu,aR]at hc2;refine aU ?_;refine bF ?_;have hG:GY s.es[i]!.r=false:=by
    unfold GY;rcases hc2 with((h|h)|h)|h
    ·rw[bD (show 200<Kt s.es[i]!.r by omega)];rfl
    ·rw[bD (show 9<s.es[i]!.r.needs.length by omega)];simp
    ·rw[bD (show 9<s.es[i]!.r.bars.length by omega)];simp
    ·rw[bD (show 9<s.es[i]!.r.feats.length by omega)];simp
   rw[hr,aK ae];unfold EA;rw[hG];rfl
  simp only[dc,bx]at hc2;have hG:GY s.es[i]!.r=true:=by unfold GY;rw[cj (show ¬200<Kt s.es[i]!.r by omega),cj (show ¬9<s.es[i]!.r.needs.length by omega),cj (show ¬9<s.es[i]!.r.bars.length by omega),cj (show ¬9<s.es[i]!.r.feats.length by omega)];rfl
  refine aE ?_;refine lW hm (ι:=Nat) (fun k=>[.un,⟨true,.bool false⟩,⟨true,.ptr 0 2 0 0⟩,.un,⟨true,.int .i64 (i:Nat)⟩,.un,⟨true,.ptr 1 9 0 0⟩,.un,⟨true,.int .i64 (k:Nat)⟩,.un,.un]) (fun k=>[(0,.buf 2 [fD.D s]),(1,.buf 9 [Rec.D s.es[i]!.r])]) 60 (fun k=>k<=s.es[i]!.r.needs.length/\cr (fun k=>Bz s.es[i]!.r.needs[k]!) 0 s.es[i]!.r.needs.length=cr (fun k=>Bz s.es[i]!.r.needs[k]!) k s.es[i]!.r.needs.length) (fun k=>s.es[i]!.r.needs.length-k) 0 ⟨ae,rfl⟩ (bj.to [(0,0),(24,1)] ah ah dZ (by refine ba.gN ah ah ah ?_;first|(refine ba.gN ah ah ah ?_;exact ba.nil)|(refine ba.nl 24 ah ah rfl ah ?_;exact ba.nil))) ?_;rintro k ⟨hk,hr2⟩;refine aE ?_;refine bR (v:=.sl 3 (s.es[i]!.r.needs.map cB.D)) ?_;refine aS ?_;intro u5;refine aA ?_;refine cw (fun hc3=>?_) fun hc3=>?_
  ·refine aE ?_;refine bR (v:=.sl 3 (s.es[i]!.r.needs.map cB.D)) ?_;refine aS ?_;refine cC k (hb:=fun _=>ae) ?_;refine aS ?_;refine cy (v:=.sl 4 (s.es[i]!.r.needs[k]!.any.map cQ.D)) (hi:=fun _=>ae) ?_;refine kd ?_;refine aB ?_;refine bR (v:=.sl 3 (s.es[i]!.r.needs.map cB.D)) ?_;refine aS ?_;refine cC k (hb:=fun _=>ae) ?_;refine aS ?_;refine cy (v:=.str s.es[i]!.r.needs[k]!.when') (hi:=fun _=>ae) ?_;refine kd ?_;refine aS ?_;refine bR (v:=.sl 3 (s.es[i]!.r.needs.map cB.D)) ?_;refine aS ?_;refine cC k (hb:=fun _=>ae) ?_;refine aS ?_;refine cy (v:=.str s.es[i]!.r.needs[k]!.option) (hi:=fun _=>ae) ?_;refine kd ?_;refine oB (Ny s.es[i]!.r.needs[k]!) (hb:=fun _=>rfl) ?_;refine aB ?_;refine wp_cond (fun hc4=>?_) (fun hc4=>?_)
   ·simp only[cu,aR]at hc4;refine bP ?_;refine bF ?_;have hnk:Bz s.es[i]!.r.needs[k]! =false:=by
     unfold Bz;rcases hc4 with h|h
     ·rw[bD (show 4<s.es[i]!.r.needs[k]!.any.length by omega)];rfl
     ·rw[bD (show 200<Ny s.es[i]!.r.needs[k]! by omega),Bool.or_true];rfl
    rw[hr,aK ae];unfold EA;rw[hG,hr2,aK ae,hnk];rfl
   simp only[dc,bx]at hc4;have hnk:Bz s.es[i]!.r.needs[k]! =true:=by unfold Bz;rw[cj ae,cj ae];rfl
   refine bP ?_;exact⟨k+1,⟨ae,by rw[hr2,aK ae,hnk];rfl⟩,ae,(bj.to [(0,0),(1,1)] ah ah dZ (by refine ba.gN ah ah ah ?_;first|(refine ba.gN ah ah ah ?_;exact ba.nil)|(refine ba.nl 24 ah ah rfl ah ?_;exact ba.nil)))⟩
  refine aE ?_;have hni:EA s.es[i]!.r=true:=by unfold EA;rw[hG,hr2,bV ae];rfl
  refine aI ?_;exact⟨i+1,⟨ae,by rw[hr,aK ae,hni];rfl⟩,ae,(dn [(0,0)])⟩
 refine aF ?_;refine bF ?_;rw[hr,bV ae]
def KG (Y:Ctx):Prop:=∀(s:fD),Y.pre 1201 [fD.D s]/\Y.val 1201 [fD.D s]=.bool (EB s)
def ra:aC:=⟨1,8,fM,bM,(sq (rg [gb 2 s0,gm dt] [(2,0),(1,1)]) (sq (sq (r1 [gk 2 true s2,gx 1201 [l0] [[.a,.sl 11 [.a,.a,.a,.a,.a,.a,.sl 3 [.sl 4 [.a,.a,.a,.a],.a,.a],.sl 3 [.a,.a,.a],.sl 2 [.a,.sl 1 [.a]],.a,.a]]],jx l1] 3 2) (.cond s3 (sq (r1 [gx 85 [] [],gm l0] 1 1) .ret) .skip)) (sq (rg [gk 2 true s2,gx 251 [l0] [[.a,.sl 11 [.a,.a,.a,.a,.a,.a,.sl 3 [.sl 4 [.a,.a,.a,.a],.a,.a],.sl 3 [.a,.a,.a],.sl 2 [.a,.sl 1 [.a]],.a,.a]]],gm l1,ge l2 0,ge l2 1,gm l3,gm l4] [(4,5),(6,6)]) (sq (rg [gk 2 true s2,gx 1202 [l0] [[.a,.sl 11 [.a,.a,.a,.a,.a,.a,.sl 3 [.sl 4 [.a,.a,.a,.a],.a,.a],.sl 3 [.a,.a,.a],.sl 2 [.a,.sl 1 [.a]],.a,.a]]],gm l1,ge l2 0,ge l2 1,gm l3,gm l4] [(5,5),(7,6)]) (sq (r1 [gx 85 [] [],gm l0,gmt 1 s4,gmt 1 s5,ca 1 (cM l2 l3),ew l1 l4,gm l5,gmt 6 s6,gmt 6 s7,ca 6 (cM l7 l8),ew l6 l9,gm l10] 1 11) .ret)))))⟩
def R6 {Y:Ctx}(hm:(Y.at 0).bd)(h85:C85 Y)(h251:Lt Y)(h1201:KG Y)(h1202:KH Y)(s:fD)  (hp0:∀x∈s.es,dh x.r):dd Y ra (.bool true) [fD.D s]:=by
 show bH _ _ _ [⟨_,_⟩,_,_,_,_,_,_,_] _;refine ak ?_;refine aI ?_;refine ee (d:=fD.D s) ?_;refine aq (hc:=h1201 s) ?_;refine aA ?_;refine cw (fun hc0=>?_) fun hc0=>?_
 ·refine aA ?_;refine aq (hc:=h85) ?_;refine aB ?_;exact bF rfl
 refine aA ?_;refine ee (d:=fD.D s) ?_;refine aq (hc:=h251 s hp0) ?_;refine aU ?_;refine ee (d:=fD.D s) ?_;refine aq (hc:=h1202 s hp0) ?_;refine aU ?_;refine aq (hc:=h85) ?_;refine lJ ?_;refine bF ?_;simp
def zG:aC:=⟨1,25,[⟨1,some (2,true)⟩,⟨2,none⟩,⟨3,none⟩],[[.a,.sl 11 [.a,.a,.a,.a,.a,.a,.sl 3 [.sl 4 [.a,.a,.a,.a],.a,.a],.sl 3 [.a,.a,.a],.sl 2 [.a,.sl 1 [.a]],.a,.a]],[.a],[.a]],(sq (rg [gb 2 (.c (.agg [.str [],.aV])),gm bp,gm bp] [(1,0),(2,1),(3,2)]) (sq (sq (r1 [gm s0,mE l0,cH l1 (i6 524288)] 4 2) (.cond s4 (sq (rg [gn (.build [.str [],.aV] []),gt 2 s1 l0,gm ml,gm bp] [(2,2),(3,3)]) .ret) .skip)) (sq (r1 [gm s0,gx 252 [l0] bM,gm l1] 5 2) (sq (sq (r1 [gm s5,gl l0,aL l1 bp] 6 2) (.cond s6 (sq (rg [gn (.build [.str [],.aV] []),gt 2 s1 l0,gm nM,gm cq] [(2,2),(3,3)]) .ret) .skip)) (sq (rg [gm s5,ga 1 l0 bp,gd l1,gx 253 [l2] bM,gm l3,ge l4 0,ge l4 1,gm l5,gm l6] [(7,7),(8,8)]) (sq (rg [gm s7,gx 254 [l0,(cs [115,104,101,108,102,32])] fV,gm l1,ge l2 0,ge l2 1,gm l3,gm l4] [(10,5),(9,6)]) (sq (sq (r1 [gm s8,jx l0,gm l1,eC 2 s9,cl 2 (.un .not l3),eK l2 l4,gm l5,eC 6 iP,cl 6 (.call 208 [l7] bM),cl 6 (.un .not l8),eK l6 l9] 11 10) (.cond kp (sq (rg [gn (.build [.str [],.aV] []),gt 2 s1 l0,gm nM,gm cq] [(2,2),(3,3)]) .ret) .skip)) (sq (r1 [gm iP,gn (.build [.str [],.aV] [(0,1,l0)]),gb 2 (.c (.agg [.str [],.aV])),gt 2 l2 l1] 20 2) (sq (r1 [gm cq] 12 0) (sq .skip (sq (.block 0 (.loop (sq (sq (r1 [gm mS,gm s5,gl l1,aP l0 l2] 13 3) (eN qp 0)) (.block 1 (sq (rg [gm s5,gm mS,ga 1 l0 l1,gd l2,gx 255 [l3] bM,gm l4,ge l5 0,ge l5 1,ge l5 2,gm l6,gm l7,gm l8] [(22,9),(24,10),(14,11)]) (sq (sq (r1 [gm tq,jx l0] 15 1) (.cond wu (sq (rg [gn (.build [.str [],.aV] []),gm mS,ax l1 cq,gt 2 s1 l0,gm nM,gm l2] [(2,4),(3,5)]) .ret) .skip)) (sq (r1 [gm mS,ax l0 cq,gm l1] 16 2) (sq (.block 2 (.loop (sq (sq (r1 [gm Cw,gm s5,gl l1,aP l0 l2,gm l3,gmt 4 s5,gmt 4 Cw,ca 4 (.ia 1 l5 l6),ke 4 l7,ca 4 (.call 256 [l8] bM),ca 4 (.un .not l9),ew l4 l10] 17 11) (eN Cx 2)) (.block 3 (r1 [gm Cw,ax l0 cq,gm l1] 16 2))))) (sq (rg [gm s5,gm mS,ax l1 cq,gm Cw,gn (.slA 1 l0 (some l2) (some l3)),gx 242 [l4,cse] [[.sl 1 [.a]],[.a]],gx 76 [l5] bM,gm l6,ge l7 0,ge l7 1,ge l7 2,gb 9 (.c (.agg [.str [],.int .i64 0,.int .i64 0,.int .i64 0,.str [],.str [],.aV,.aV,.aV])),gt 9 im l8,gm l9,gm l10] [(21,11),(18,13)]) (sq (sq (r1 [gm FB,aL l0 bp] 19 1) (.cond Nt (r1 [gk 2 true DM,gk 9 true NO,gm NP,gx 257 [l0,l1,l2] [[.a,.sl 11 [.a,.a,.a,.a,.a,.a,.sl 3 [.sl 4 [.a,.a,.a,.a],.a,.a],.sl 3 [.a,.a,.a],.sl 2 [.a,.sl 1 [.a]],.a,.a]],[.a,.a,.a,.a,.a,.a,.sl 3 [.sl 4 [.a,.a,.sl 1 [.a],.a],.a,.a],.sl 3 [.a,.a,.a],.sl 2 [.a,.sl 1 [.a]]],[.a]],gm l3] 18 4) .skip)) (sq (sq (r1 [gm FB,cg l0 bp] 23 1) (.cond s23 (sq (rg [gn (.build [.str [],.aV] []),gm FB,gm mS,ax l2 cq,gt 2 s1 l0,gm l1,gm l3] [(2,5),(3,6)]) .ret) .skip)) (sq (rg [gf 1 DM,gd l0,gk 9 true NO,gm NP,gm Nu,gn (.build [.str [],.int .i64 0,.int .i64 0,.int .i64 0,.str [],.str [],.aV,.aV,.aV,.int .u64 0,.bool false] [(0,9,l2),(9,1,l3),(10,1,l4)]),gn (.bsl 11 (.agg [.str [],.int .i64 0,.int .i64 0,.int .i64 0,.str [],.str [],.aV,.aV,.aV,.int .u64 0,.bool false]) 1 [(0,l5)]),gn (.app 11 l1 l6),gf 1 DM,gt 1 l8 l7] []) (sq (r1 [gm Cw,gm l0] 12 1) (.exit 1)))))))))))))) (sq (rg [gk 2 true DM,gt 2 s1 l0,gm bp,gm bp] [(2,2),(3,3)]) .ret))))))))))))⟩
def Sa {Y:Ctx}(hm:(Y.at 0).bd)(h208:D0 Y)(h252:Of Y)(h253:Lu Y)(h254:Lv Y)(h255:Og Y)(s:au)  (hp0:s.length<=1048576)(hp1:Rk s):dd Y zG (.tup [fD.D (mi s).1,.int .i64 (mi s).2.1,.int .i64 (mi s).2.2]) [.str s]:=by
 show bH _ _ _ [⟨_,_⟩,_,_,_,_,_,_,_,_,_,_,_,_,_,_,_,_,_,_,_,_,_,_,_,_] _;refine ak ?_;refine bP ?_;intro u0;refine aA ?_;refine aw (fun hc0=>?_) (fun hc0=>?_)
 ·simp only[fu]at hc0;have hz:=FH (s:=s) ae;refine aA ?_;refine eM _ ?_;refine aI ?_;refine bO (fT ?_ (aj (D.int .i64) ?_) (aj (D.int .i64) ?_));all_goals
   rw[hz];first|done|rfl
 simp only[fu]at hc0;have g0:¬524288<s.length:=ae;refine aB ?_;refine aq (hc:=h252 s hp0) ?_;refine aF ?_;intro u1;refine aA ?_;refine aw (fun hc1=>?_) (fun hc1=>?_)
 ·simp only[fu]at hc1;have hz:=FI g0 ae;refine aA ?_;refine eM _ ?_;refine aI ?_;refine bO (fT ?_ (aj (D.int .i64) ?_) (aj (D.int .i64) ?_));all_goals
   rw[hz];first|done|rfl
 simp only[fu]at hc1;have g1:¬(fh s).length=0:=ae;have g2:=Dy (s:=s) (i:=0) ae;have g3:=qz (fh s)[0]!;refine aB ?_;refine cC 0 (hb:=fun _=>ae) ?_;refine cy (v:=.str (fh s)[0]!) (hi:=fun _=>ae) ?_;refine aq (hc:=h253 (fh s)[0]! ae) ?_;refine bP ?_;refine aq (hc:=h254 (bE (fh s)[0]!).1 [115,104,101,108,102,32] ae aM) ?_;refine vQ ?_;refine dq (hc:=fun hf=>h208 (cO (bE (fh s)[0]!).1 [115,104,101,108,102,32]).1) ?_;refine aB ?_;refine aw (fun hc2=>?_) (fun hc2=>?_)
 ·simp only[fu]at hc2;have hz:=FG g0 g1 (by rintro⟨⟨h1,h2⟩,h3⟩;rcases hc2 with(h|h)|h<;>simp_all);refine aA ?_;refine eM _ ?_;refine aI ?_;refine bO (fT ?_ (aj (D.int .i64) ?_) (aj (D.int .i64) ?_));all_goals
   rw[hz];first|done|rfl
 simp only[fu]at hc2;have hz:=FF g0 g1 hc2;rw[Fy]at hz;refine aB ?_;refine cx (.agg [.str (cO (bE (fh s)[0]!).1 [115,104,101,108,102,32]).1,.aV]) ?_;refine aS ?_;refine bL (.agg [.str (cO (bE (fh s)[0]!).1 [115,104,101,108,102,32]).1,.aV]) (he:=bN) ?_;refine aI ?_;refine bh hm (ι:=Unit) (fun _=>[⟨true,.str s⟩,⟨true,.ptr 0 2 0 0⟩,.un,.un,.un,⟨true,.sl 1 ((fh s).map D.str)⟩,.un,.un,.un,.un,.un,.un,⟨true,.int .i64 1⟩,.un,.un,.un,.un,.un,.un,.un,⟨true,.ptr 1 2 0 0⟩,.un,.un,.un,.un]) (fun _=>[(0,.buf 2 [.agg [.str [],.aV]]),(1,.buf 2 [.agg [.str (cO (bE (fh s)[0]!).1 [115,104,101,108,102,32]).1,.aV]])]) 60 (fun _=>True) (fun _=>0) () trivial (bj.to [(0,0),(41,1)] ah ah dZ (by refine ba.gN ah ah ah ?_;refine ba.nl 41 ah ah rfl ah ?_;exact ba.nil)) ?_;rintro _-
 refine aI ?_;intro u2;refine aA ?_;refine cw (fun hc3=>?_) fun hc3=>?_
 ·refine aB ?_;have g4:=Dy (s:=s) (i:=1) ae;refine aA ?_;refine cC 1 (hb:=fun _=>ae) ?_;refine cy (v:=.str (fh s)[1]!) (hi:=fun _=>ae) ?_;refine aq (hc:=h255 (fh s)[1]! ae) ?_;refine lJ ?_;refine cw (fun hc4=>?_) fun hc4=>?_
  ·refine aA ?_;refine eM _ ?_;refine cU ?_;refine bO (fT ?_ (aj (D.int .i64) ?_) (aj (D.int .i64) ?_));all_goals
    rw[hz,Cu ae (hp1 1 ae ae),GZ aM];first|done|rfl
  exact absurd ((hc4).symm.trans (hp1 1 ae ae)) aM
 refine cU ?_;refine bO (fT ?_ (aj (D.int .i64) ?_) (aj (D.int .i64) ?_));all_goals
  rw[hz,Fz ae];first|done|rfl
end Go.Abs
