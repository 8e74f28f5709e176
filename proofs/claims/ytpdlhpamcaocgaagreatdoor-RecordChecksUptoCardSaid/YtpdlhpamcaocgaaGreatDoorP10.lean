/- A part of the proofs of the statements: RSpec22, Z1, Z2, X1, X2, Z3, C0, C1, CB, SHELF, LLib, LLibR, RBld, RBldS. -/
import Derived.Ground.Names2Prog
import Derived.KernelRfl
import Derived.Lib.CountLaws
import Derived.Lib.IndexMore
import Derived.Lib.ItoaNum
import Derived.Lib.Join
import Derived.Lib.Split
import Derived.Lib.SplitLaws
import Derived.Lib.Strings
import Derived.Lib.TrimByte
import Derived.Shelf.LaysM
import Derived.Shelf.Slices.Clone
import Derived.Shelf.Small.Strs
import Derived.Shelf.Small.Utf8
import Derived.Shelf.Small.Wraps
import Derived.Shelf.Strconv.Itoa0
import Derived.Shelf.Strconv.Itoa1
import Derived.Shelf.Strconv.Itoa2
import Derived.Shelf.Strconv.Itoa3
import Derived.Shelf.Strings.AsciiSet
import Derived.Shelf.Strings.Builder1
import Derived.Shelf.Strings.Builder2
import Derived.Shelf.Strings.Count
import Derived.Shelf.Strings.Cut
import Derived.Shelf.Strings.OnBuilder
import Derived.Shelf.Strings.Prefix
import Derived.Shelf.Strings.Runes
import Derived.Shelf.Strings.Search1
import Derived.Shelf.Strings.Search2
import Derived.Shelf.Strings.Search3
import Derived.Shelf.Strings.Shaped
import Derived.Shelf.Strings.Split
import Derived.Shelf.Strings.SplitShaped
import Derived.Shelf.Strings.Trim
import Derived.Shelf.Unicode.DecodeSlow
import Derived.Test.YtpdlhpamcaocgaaGreatDoorProg
import Derived.Test.YtpdlhpamcaocgaaGreatDoorP09
set_option linter.all false
set_option maxRecDepth 4000
section
namespace Go.Abs
def awT:ah:=[112,97,99,107,97,103,101,32,97,112,112,32,49,46,48,46,48,10,110,101,101,100,10,97,110,121,32,98,32,120,32,102,117,108,108,32,94,49,10,119,104,101,110,32,111,115,32,61,32,120,10,98,97,114,32,99,32,42,10,102,101,97,116,117,114,101,32,121,32,98,47,122,10]
def G6:ah:=[112,97,99,107,97,103,101,32,97,112,112,32,49,46,48,46,48,10,97,110,121,32,98,32,45,32,102,117,108,108,32,42,10]
def D4:Rec:=⟨[97,112,112],⟨1,0,0,[],[]⟩,[⟨[⟨[98],[94,49],[[120]],false⟩],[111,115,32,61,32,120],[]⟩],[⟨[99],[42],[]⟩],[⟨[121],[[98,47,122]]⟩]⟩
set_option maxRecDepth 100000 in
theorem aw1:iw awT=(D4,0,0):=by decide+kernel
set_option maxRecDepth 100000 in
theorem aw3:df D4=(awT,0):=by decide+kernel
set_option maxRecDepth 100000 in
theorem aw2:(iw G6).2=(2,2):=by decide+kernel
def JS:dx D4:=by
 refine⟨⟨by decide,by decide,by decide⟩,fun n hn=>?_,fun b hb=>?_,fun f hf=>?_⟩
 ·simp only[D4,List.mem_singleton]at hn;subst hn;refine⟨fun w hw=>?_,by decide,by decide⟩;simp only[List.mem_singleton]at hw;subst hw;exact⟨⟨by decide,by decide⟩,fun t ht=>by simp only[List.mem_singleton]at ht;subst ht;decide⟩
 ·simp only[D4,List.mem_singleton]at hb;subst hb;exact⟨by decide,by decide,by decide⟩
 ·simp only[D4,List.mem_singleton]at hf;subst hf;exact⟨by decide,by decide,fun t ht=>by simp only[List.mem_singleton]at ht;subst ht;decide⟩
def rO (l:List ah)(i:Nat):Bool:=!(decide (11<i) ||decide (100<(l[i]!).length))
def nQ (l:List ah):Bool:=bJ (rO l) 0 l.length
def IU (w:bN):Bool:=!(decide (100<w.name.length) ||decide (200<w.range.length) ||!nQ w.feats)
def DV (n:bF):Int:=IntKind.i64.wrap ((n.when'.length:Int)+n.option.length)
def H8 (r:Rec):Int:=IntKind.i64.wrap ((r.name.length:Int)+r.v.pre.length)
def Gf (r:Rec):Int:=IntKind.i64.wrap (H8 r+r.v.build.length)
def Gc (n:bF):Bool:=!(decide (6<n.any.length) ||decide (300<DV n))&&bJ (fun k=>IU n.any[k]!) 0 n.any.length
def GG (b:iJ):Bool:=!(decide (100<b.name.length) ||decide (200<b.range.length) ||decide (200<b.when'.length))
def GH (f:bz):Bool:=!(decide (100<f.name.length) ||!nQ f.of)
def Of (r:Rec):Bool:=!(decide (12<r.needs.length) ||decide (12<r.bars.length) ||decide (12<r.feats.length) ||decide (200<Gf r))
def kG (r:Rec):Bool:=Of r&&(bJ (fun i=>Gc r.needs[i]!) 0 r.needs.length&&(bJ (fun i=>GG r.bars[i]!) 0 r.bars.length&&bJ (fun i=>GH r.feats[i]!) 0 r.feats.length))
def D5:Nat:=281474976710656
def xw (r:Rec):Prop:=(r.name.length≤D5∧r.v.pre.length≤D5∧r.v.build.length≤D5)∧∀n∈r.needs,n.when'.length≤D5∧n.option.length≤D5
def wz {l:List ah}(h:nQ l=true):l.length≤12∧∀t∈l,t.length≤100:=by
 unfold nQ at h;rw[dy]at h;refine⟨?_,fun t ht=>?_⟩
 ·rcases Nat.lt_or_ge 12 l.length with h1|h1
  ·have:=h 12 (by omega) h1;simp[rO]at this
  ·exact h1
 ·obtain⟨i,hi,rfl⟩:=j0 ht;have:=h i (by omega) hi;simp only[rO,Bool.not_eq_true',Bool.or_eq_false_iff,decide_eq_false_iff_not]at this;omega
def DR {r:Rec}(hb:xw r)(h:kG r=true):dx r:=by
 obtain⟨⟨b1,b2,b3⟩,bn⟩:=hb;unfold D5 at b1 b2 b3;have hs:Gf r=(r.name.length:Int)+r.v.pre.length+r.v.build.length:=by
  have ha:H8 r=(r.name.length:Int)+r.v.pre.length:=by
   unfold H8;rw[wrap_i64 (by omega) (by omega)]
  unfold Gf;rw[ha,wrap_i64 (by omega) (by omega)]
 unfold kG at h;simp only[Bool.and_eq_true,dy]at h;obtain⟨h0,h1,h2,h3⟩:=h;simp only[Of,Bool.not_eq_true',Bool.or_eq_false_iff,decide_eq_false_iff_not]at h0;refine⟨⟨by omega,by unfold dc.sm;omega⟩,fun n hn=>?_,fun b hb=>?_,fun f hf=>?_⟩
 ·obtain⟨i,hi,rfl⟩:=j0 hn;have:=h1 i (by omega) hi;obtain⟨q1,q2⟩:=bn _ (bw hi);unfold D5 at q1 q2;have hn:DV r.needs[i]! =(r.needs[i]!.when'.length:Int)+r.needs[i]!.option.length:=by
   unfold DV;rw[wrap_i64 (by omega) (by omega)]
  simp only[Gc,Bool.and_eq_true,Bool.not_eq_true',Bool.or_eq_false_iff,decide_eq_false_iff_not,dy]at this;refine⟨fun w hw=>?_,by omega,by omega⟩;obtain⟨k,hk,rfl⟩:=j0 hw;have:=this.2 k (by omega) hk;simp only[IU,Bool.not_eq_true',Bool.or_eq_false_iff,decide_eq_false_iff_not,Bool.not_eq_false']at this;exact⟨⟨by omega,by omega⟩,fun t ht=>by have:=(wz this.2).2 t ht;omega⟩
 ·obtain⟨i,hi,rfl⟩:=j0 hb;have:=h2 i (by omega) hi;simp only[GG,Bool.not_eq_true',Bool.or_eq_false_iff,decide_eq_false_iff_not]at this;exact⟨by omega,by omega,by omega⟩
 ·obtain⟨i,hi,rfl⟩:=j0 hf;have:=h3 i (by omega) hi;simp only[GH,Bool.not_eq_true',Bool.or_eq_false_iff,decide_eq_false_iff_not,Bool.not_eq_false']at this;have ht:=wz this.2;exact⟨by omega,by omega,fun t h=>by have:=ht.2 t h;omega⟩
end Go.Abs
end
section
namespace Go.Abs
open Go
def yK:az:=⟨0,8,[⟨0,none⟩],bL,(sq (r1 [gm cH] 0 0) (sq (rg [gx 76 [(cs [112,97,99,107,97,103,101,32,97,112,112,32,49,46,48,46,48,10,110,101,101,100,10,97,110,121,32,98,32,120,32,102,117,108,108,32,94,49,10,119,104,101,110,32,111,115,32,61,32,120,10,98,97,114,32,99,32,42,10,102,101,97,116,117,114,101,32,121,32,98,47,122,10])] bL,gm l0,ge l1 0,ge l1 1,ge l1 2,gb 9 (.c (.agg [.str [],.int .i64 0,.int .i64 0,.int .i64 0,.str [],.str [],.aF,.aF,.aF])),gt 9 l5 l2,gm l3,gm l4] [(1,5),(2,7),(4,8)]) (sq (rg [gk 9 true s1,gx 72 [l0] [[.a,.a,.a,.a,.a,.a,.sl 3 [.sl 4 [.a,.a,.sl 1 [.a],.a],.a,.a],.sl 3 [.a,.a,.a],.sl 2 [.a,.sl 1 [.a]]]],gm l1,ge l2 0,ge l2 1,gm l3,gm l4] [(5,5),(3,6)]) (sq (rg [gx 76 [(cs [112,97,99,107,97,103,101,32,97,112,112,32,49,46,48,46,48,10,97,110,121,32,98,32,45,32,102,117,108,108,32,42,10])] bL,gm l0,ge l1 0,ge l1 1,ge l1 2,gb 9 (.c (.agg [.str [],.int .i64 0,.int .i64 0,.int .i64 0,.str [],.str [],.aF,.aF,.aF])),gt 9 l5 l2,gm l3,gm l4] [(6,7),(7,8)]) (sq (r1 [gm s2,aH l0 bc,gm l1,gmt 2 s3,bR 2 (bY l3 bc),dG l2 l4,gm l5,gmt 6 s4,bR 6 (bY l7 bc),dG l6 l8,gm l9,kX 10 6 s1,jC 10 gh,bR 10 (.len iq),bR 10 (bY jD bV),dG l10 jZ,gm lz,kX 16 7 s1,jC 16 oC,bR 16 (.len pd),bR 16 (bY qk bV),dG mw tt,gm uU,gmt 22 s5,bR 22 (.lenS zY),bR 22 (bY zZ (i6 73)),dG vJ BW,gm D8,gmt 27 s6,bR 27 (bY HD lM),dG GC HE,gm J7,gmt 31 s7,bR 31 (bY NV lM),dG NU l33,gm l34] 0 35) .ret)))))⟩
def w69 {Γ:Ctx}(hm:(Γ.at 0).aY)(h72:C72 Γ)(h76:C76 Γ)    :c7 Γ yK (.bool true) []:=by
 show bq _ _ _ [_,_,_,_,_,_,_,_] _;refine ai ?_;refine av ?_;refine ak (v:=.tup [Rec.D D4,.int .i64 0,.int .i64 0]) (hc:=by have:=h76 awT;rw[aw1]at this;exact this) ?_;refine aC ?_;refine eS (Rec.D _) ?_;refine av ?_;refine aR (Rec.D D4) (he:=by exact rfl) ?_;refine ax ?_;refine cM (d:=Rec.D D4) ?_;refine ak (v:=.tup [.str awT,.int .i64 0]) (hc:=by have:=h72 D4 JS;rw[aw3]at this;exact this) ?_;refine aQ ?_;refine ak (v:=.tup [Rec.D (iw G6).1,.int .i64 2,.int .i64 2]) (hc:=by have:=h76 G6;rw[aw2]at this;exact this) ?_;refine aC ?_;refine eS (Rec.D _) ?_;refine av ?_;refine aR (Rec.D (iw G6).1) (he:=by exact rfl) ?_;refine uK ?_;refine cX (v:=.sl 3 (D4.needs.map bF.D)) ?_;refine hX ?_;refine ax ?_;refine cX (v:=.sl 3 (D4.bars.map iJ.D)) ?_;refine hX ?_;refine ax ?_;refine hX ?_;refine kN ?_;refine bp ?_;decide
def C69 (Γ:Ctx):Prop:=Γ.pre 69 []∧Γ.val 69 []=.bool true
def yM:az:=⟨1,5,fg,bL,(sq (r1 [gm cH] 1 0) (sq (sq (r1 [gm bc] 2 0) (.block 0 (.loop (sq (sq (r1 [gm s2,gm s0,gl l1,aJ l0 l2] 3 3) (ek s3 0)) (sq (.block 1 (sq (r1 [gm s2,cg l0 (i6 11),gm l1,dt 2 s0,dt 2 s2,bP 2 (.ia 1 l3 l4),hJ 2 l5,bP 2 (.lenS l6),bP 2 (cC l7 (i6 100)),dL l2 l8] 4 9) (jh s4 cH))) (r1 [gm s2,ar l0 bV,gm l1] 2 2)))))) (rU mX)))⟩
def w207 {Γ:Ctx}(hm:(Γ.at 0).aY)  (l:List ah)   :c7 Γ yM (.bool (nQ l)) [.sl 1 (l.map D.str)]:=by
 show bq _ _ _ [⟨_,_⟩,_,_,_,_] _;refine ai ?_;refine aA ?_;refine aV hm (ι:=Nat) (fun i=>[⟨true,.sl 1 (l.map D.str)⟩,⟨true,.bool false⟩,⟨true,.int .i64 (i:Nat)⟩,.un,.un]) (fun i=>[]) 2 (fun i=>i≤l.length∧nQ l=bJ (rO l) i l.length) (fun i=>l.length-i) 0 ⟨by omega,rfl⟩ (cI []) ?_;rintro i ⟨hi,hr⟩;refine aI ?_;intro u0;refine au ?_;refine ca (fun hc0=>?_) fun hc0=>?_
 ·refine bt ?_;refine bO i (hb:=fun _=>by omega) ?_;refine bQ (v:=.str l[i]!) (hi:=fun _=>by omega) ?_;refine hX ?_;refine av ?_;refine wp_cond (fun hc1=>?_) (fun hc1=>?_)
  ·simp only[Bool.or_eq_true,decide_eq_true_eq]at hc1;refine aA ?_;refine bp ?_;rw[hr,aD (by omega),show rO l i=false by unfold rO;rcases hc1 with h|h;(rw[decide_eq_true (show 11<i by omega)];rfl);(rw[decide_eq_true (show 100<(l[i]!).length by omega),Bool.or_true];rfl)];rfl
  simp only[Bool.or_eq_false_iff,decide_eq_false_iff_not]at hc1;refine bt ?_;exact⟨i+1,⟨by omega,by rw[hr,aD (by omega),show rO l i=true by unfold rO;rw[decide_eq_false (by omega),decide_eq_false (by omega)];rfl];rfl⟩,by omega,(cI [])⟩
 refine aA ?_;refine bp ?_;rw[hr,bA (by omega)]
def Ln (Γ:Ctx):Prop:=∀(l:List ah),Γ.pre 207 [.sl 1 (l.map D.str)]∧Γ.val 207 [.sl 1 (l.map D.str)]=.bool (nQ l)
end Go.Abs
end
section
namespace Go.Abs
open Go
def yL:az:=⟨1,18,fg,bL,(sq (rg [gb 9 s0,gm cH] [(2,0),(1,1)]) (sq (r1 [gf 0 s2,gd l0,lG l1,gf 1 s2,gf 3 l3,gd l4,lG l5,ar l2 l6,gf 1 s2,gf 4 l8,gd l9,lG l10,ar l7 gh,gm iq] 3 13) (sq (sq (r1 [gf 6 s2,gd l0,gl l1,cg l2 (i6 12),gm l3,gT 4 7 s2,hJ 4 l5,bP 4 (.len l6),bP 4 (cC l7 (i6 12)),dL l4 l8,gm l9,gT 10 8 s2,hJ 10 gh,bP 10 (.len iq),bP 10 (cC jD (i6 12)),dL l10 jZ,gm lz,dt 16 s3,bP 16 (cC oC (i6 200)),dL mw pd] 4 19) (jh s4 cH)) (sq (sq (r1 [gm bc] 5 0) (.block 0 (.loop (sq (sq (r1 [gm s5,gf 6 s2,gd l1,gl l2,aJ l0 l3] 6 4) (ek s6 0)) (sq (.block 1 (sq (sq (r2 [gf 6 s2,gd l0,gm s5,ga 3 l1 l2,gf 0 l3,gd l4,gl l5,cg l6 tm,gm l7,gT 8 6 s2,hJ 8 l9,dt 8 s5,bP 8 (.ia 3 l10 gh),gT 8 1 iq,hJ 8 jD,bP 8 (.lenS jZ),gT 8 6 s2,hJ 8 mw,dt 8 s5,bP 8 (.ia 3 oC pd),gT 8 2 qk,hJ 8 tt,bP 8 (.lenS uU),bP 8 (EB lz vJ),bP 8 (cC zY (i6 300)),dL l8 zZ] 7 25) (jh s7 cH)) (sq (r1 [gm bc] 8 0) (.block 2 (.loop (sq (sq (r1 [gm s8,gf 6 s2,gd l1,gm s5,ga 3 l2 l3,gf 0 l4,gd l5,gl l6,aJ l0 l7] 9 8) (ek s9 2)) (sq (.block 3 (sq (r1 [gf 6 s2,gd l0,gm s5,ga 3 l1 l2,gf 0 l3,gd l4,gm s8,ga 4 l5 l6,gk 4 true l7,gb 4 (.c (.agg [.str [],.str [],.aF,.bool false])),gt 4 l9 l8] 10 9) (sq (r1 [gf 0 jR,gd l0,lG l1,cg l2 (i6 100),gm l3,gT 4 1 jR,hJ 4 l5,bP 4 (.lenS l6),bP 4 (cC l7 (i6 200)),dL l4 l8,gm l9,gT 10 2 jR,hJ 10 gh,bP 10 (.call 207 [iq] [[.sl 1 [.a]]]),bP 10 (.un .not jD),dL l10 jZ] 11 15) (jh lf cH)))) (r1 [gm s8,ar l0 bV,gm l1] 8 2)))))))) (r1 [gm s5,ar l0 bV,gm l1] 5 2)))))) (sq (sq (r1 [gm bc] 12 0) (.block 4 (.loop (sq (sq (r1 [gm lE,gf 7 s2,gd l1,gl l2,aJ l0 l3] 13 4) (ek oO 4)) (sq (.block 5 (sq (r1 [gf 7 s2,gd l0,gm lE,ga 3 l1 l2,gf 0 l3,gd l4,lG l5,cg l6 (i6 100),gm l7,gT 8 7 s2,hJ 8 l9,dt 8 lE,bP 8 (.ia 3 l10 gh),gT 8 1 iq,hJ 8 jD,bP 8 (.lenS jZ),bP 8 (cC lz (i6 200)),dL l8 mw,gm oC,gT 18 7 s2,hJ 18 qk,dt 18 lE,bP 18 (.ia 3 tt uU),gT 18 2 vJ,hJ 18 zY,bP 18 (.lenS zZ),bP 18 (cC BW (i6 200)),dL pd D8] 14 27) (jh rL cH))) (r1 [gm lE,ar l0 bV,gm l1] 12 2)))))) (sq (sq (r1 [gm bc] 15 0) (.block 6 (.loop (sq (sq (r1 [gm qU,gf 8 s2,gd l1,gl l2,aJ l0 l3] 16 4) (ek z6 6)) (sq (.block 7 (sq (r1 [gf 8 s2,gd l0,gm qU,ga 2 l1 l2,gf 0 l3,gd l4,lG l5,cg l6 (i6 100),gm l7,gT 8 8 s2,hJ 8 l9,dt 8 qU,bP 8 (.ia 2 l10 gh),gT 8 1 iq,hJ 8 jD,bP 8 (.call 207 [jZ] [[.sl 1 [.a]]]),bP 8 (.un .not lz),dL l8 mw] 17 17) (jh zy cH))) (r1 [gm qU,ar l0 bV,gm l1] 15 2)))))) (rU mX)))))))⟩
def w68 {Γ:Ctx}(hm:(Γ.at 0).aY)(h207:Ln Γ)(r:Rec)   :c7 Γ yL (.bool (kG r)) [Rec.D r]:=by
 show bq _ _ _ [⟨_,_⟩,_,_,_,_,_,_,_,_,_,_,_,_,_,_,_,_,_] _;refine ai ?_;refine aQ ?_;intro u0;refine ax ?_;intro u1;refine tT (H8 r) (hb:=fun _=>rfl) ?_;refine ax ?_;intro u2;refine tT (Gf r) (hb:=fun _=>rfl) ?_;refine aQ ?_;intro u3;refine ax ?_;refine hX ?_;refine aI ?_;refine hX ?_;refine aQ ?_;refine aq (fun hc0=>?_) (fun hc0=>?_)
 ·simp only[Bool.or_eq_true,decide_eq_true_eq]at hc0;refine aI ?_;refine bp ?_;unfold kG Of;rcases hc0 with((h|h)|h)|h
  ·rw[decide_eq_true (show 12<r.needs.length by omega)];simp
  ·rw[decide_eq_true (show 12<r.bars.length by omega)];simp
  ·rw[decide_eq_true (show 12<r.feats.length by omega)];simp
  ·rw[decide_eq_true (show 200<Gf r by omega)];simp
 simp only[Bool.or_eq_false_iff,decide_eq_false_iff_not]at hc0;obtain⟨⟨⟨g1,g2⟩,g3⟩,g4⟩:=hc0;have hH:Of r=true:=by unfold Of;rw[decide_eq_false (by omega),decide_eq_false (by omega),decide_eq_false (by omega),decide_eq_false (by omega)];rfl
 refine aI ?_;refine aV hm (ι:=Nat) (fun i=>[.un,⟨true,.bool false⟩,⟨true,.ptr 0 9 0 0⟩,.un,.un,⟨true,.int .i64 (i:Nat)⟩,.un,.un,.un,.un,.un,.un,.un,.un,.un,.un,.un,.un]) (fun i=>[(0,.buf 9 [Rec.D r])]) 37 (fun i=>i≤r.needs.length∧bJ (fun i=>Gc r.needs[i]!) 0 r.needs.length=bJ (fun i=>Gc r.needs[i]!) i r.needs.length) (fun i=>r.needs.length-i) 0 ⟨by omega,rfl⟩ (cI [(0,0)]) ?_;rintro i ⟨hi,hr⟩;refine aA ?_;intro u4;refine au ?_;refine ca (fun hc1=>?_) fun hc1=>?_
 ·refine aQ ?_;refine bO i (hb:=fun _=>by omega) ?_;refine aC ?_;refine bQ (v:=.sl 4 (r.needs[i]!.any.map bN.D)) (hi:=fun _=>by omega) ?_;refine hX ?_;refine aI ?_;refine bO i (hb:=fun _=>by omega) ?_;refine aC ?_;refine bQ (v:=.str r.needs[i]!.when') (hi:=fun _=>by omega) ?_;refine hX ?_;refine av ?_;refine bO i (hb:=fun _=>by omega) ?_;refine aC ?_;refine bQ (v:=.str r.needs[i]!.option) (hi:=fun _=>by omega) ?_;refine hX ?_;refine tT (DV r.needs[i]!) (hb:=fun _=>rfl) ?_;refine av ?_;refine aq (fun hc2=>?_) (fun hc2=>?_)
  ·simp only[Bool.or_eq_true,decide_eq_true_eq]at hc2;refine aQ ?_;refine bp ?_;have hf:Gc r.needs[i]! =false:=by
    unfold Gc;rcases hc2 with h|h
    ·rw[decide_eq_true (show 6<r.needs[i]!.any.length by omega)];rfl
    ·rw[decide_eq_true (show 300<DV r.needs[i]! by omega),Bool.or_true];rfl
   unfold kG;rw[hr,aD (by omega),hf];simp
  simp only[Bool.or_eq_false_iff,decide_eq_false_iff_not]at hc2;have hn0:(!(decide (6<r.needs[i]!.any.length) ||decide (300<DV r.needs[i]!)))=true:=by rw[decide_eq_false (by omega),decide_eq_false (by omega)];rfl
  refine ax ?_;refine ll hm (ι:=Nat) (fun k=>[.un,⟨true,.bool false⟩,⟨true,.ptr 0 9 0 0⟩,.un,.un,⟨true,.int .i64 (i:Nat)⟩,.un,.un,⟨true,.int .i64 (k:Nat)⟩,.un,.un,.un,.un,.un,.un,.un,.un,.un]) (fun k=>[(0,.buf 9 [Rec.D r])]) 69 (fun k=>k≤r.needs[i]!.any.length∧bJ (fun k=>IU r.needs[i]!.any[k]!) 0 r.needs[i]!.any.length=bJ (fun k=>IU r.needs[i]!.any[k]!) k r.needs[i]!.any.length) (fun k=>r.needs[i]!.any.length-k) 0 ⟨by omega,rfl⟩ (cI [(0,0)]) ?_;rintro k ⟨hk,hr2⟩;refine aA ?_;refine bO i (hb:=fun _=>by omega) ?_;refine aC ?_;refine bQ (v:=.sl 4 (r.needs[i]!.any.map bN.D)) (hi:=fun _=>by omega) ?_;refine aC ?_;intro u5;refine au ?_;refine ca (fun hc3=>?_) fun hc3=>?_
  ·refine aA ?_;refine bO i (hb:=fun _=>by omega) ?_;refine aC ?_;refine bQ (v:=.sl 4 (r.needs[i]!.any.map bN.D)) (hi:=fun _=>by omega) ?_;refine aC ?_;refine bO k (hb:=fun _=>by omega) ?_;refine bQ (v:=bN.D r.needs[i]!.any[k]!) (hi:=fun _=>by omega) ?_;refine aC ?_;refine aR (bN.D r.needs[i]!.any[k]!) (he:=by exact rfl) ?_;refine aI ?_;intro u6;refine ax ?_;refine hX ?_;refine ax ?_;refine cX (v:=.sl 1 (r.needs[i]!.any[k]!.feats.map D.str)) ?_;refine ak (hc:=h207 r.needs[i]!.any[k]!.feats) ?_;refine av ?_;refine wp_cond (fun hc4=>?_) (fun hc4=>?_)
   ·simp only[Bool.or_eq_true,decide_eq_true_eq,Bool.not_eq_true']at hc4;refine bt ?_;refine bp ?_;have hf:IU r.needs[i]!.any[k]! =false:=by
     unfold IU;rcases hc4 with(h|h)|h
     ·rw[decide_eq_true (show 100<r.needs[i]!.any[k]!.name.length by omega)];rfl
     ·rw[decide_eq_true (show 200<r.needs[i]!.any[k]!.range.length by omega),Bool.or_true];rfl
     ·rw[h];simp
    have hf2:Gc r.needs[i]! =false:=by unfold Gc;rw[hr2,aD (by omega),hf];simp
    unfold kG;rw[hr,aD (by omega),hf2];simp
   simp only[Bool.or_eq_false_iff,decide_eq_false_iff_not,Bool.not_eq_false']at hc4;have hwi:IU r.needs[i]!.any[k]! =true:=by unfold IU;rw[decide_eq_false (by omega),decide_eq_false (by omega),hc4.2];rfl
   refine bt ?_;exact⟨k+1,⟨by omega,by rw[hr2,aD (by omega),hwi];rfl⟩,by omega,(cI [(0,0)])⟩
  refine ax ?_;have hni:Gc r.needs[i]! =true:=by unfold Gc;rw[hn0,hr2,bA (by omega)];rfl
  refine aI ?_;exact⟨i+1,⟨by omega,by rw[hr,aD (by omega),hni];rfl⟩,by omega,(cI [(0,0)])⟩
 refine ax ?_;have hN:bJ (fun i=>Gc r.needs[i]!) 0 r.needs.length=true:=by rw[hr,bA (by omega)]
 refine au ?_;refine aV hm (ι:=Nat) (fun i=>[.un,⟨true,.bool false⟩,⟨true,.ptr 0 9 0 0⟩,.un,.un,.un,.un,.un,.un,.un,.un,.un,⟨true,.int .i64 (i:Nat)⟩,.un,.un,.un,.un,.un]) (fun i=>[(0,.buf 9 [Rec.D r])]) 43 (fun i=>i≤r.bars.length∧bJ (fun i=>GG r.bars[i]!) 0 r.bars.length=bJ (fun i=>GG r.bars[i]!) i r.bars.length) (fun i=>r.bars.length-i) 0 ⟨by omega,rfl⟩ (cI [(0,0)]) ?_;rintro i ⟨hi,hr⟩;refine aA ?_;intro u7;refine au ?_;refine ca (fun hc5=>?_) fun hc5=>?_
 ·refine aA ?_;refine bO i (hb:=fun _=>by omega) ?_;refine aC ?_;refine bQ (v:=.str r.bars[i]!.name) (hi:=fun _=>by omega) ?_;refine aC ?_;intro u8;refine aI ?_;refine bO i (hb:=fun _=>by omega) ?_;refine au ?_;refine hX ?_;refine aA ?_;refine bO i (hb:=fun _=>by omega) ?_;refine au ?_;refine hX ?_;refine av ?_;refine wp_cond (fun hc6=>?_) (fun hc6=>?_)
  ·simp only[Bool.or_eq_true,decide_eq_true_eq]at hc6;refine aA ?_;refine bp ?_;have hf:GG r.bars[i]! =false:=by
    unfold GG;rcases hc6 with(h|h)|h
    ·rw[decide_eq_true (show 100<r.bars[i]!.name.length by omega)];rfl
    ·rw[decide_eq_true (show 200<r.bars[i]!.range.length by omega),Bool.or_true];rfl
    ·rw[decide_eq_true (show 200<r.bars[i]!.when'.length by omega),Bool.or_true];rfl
   have hz:bJ (fun i=>GG r.bars[i]!) 0 r.bars.length=false:=by rw[hr,aD (by omega),hf];rfl
   unfold kG;rw[hz];simp
  simp only[Bool.or_eq_false_iff,decide_eq_false_iff_not]at hc6;have hbi:GG r.bars[i]! =true:=by unfold GG;rw[decide_eq_false (by omega),decide_eq_false (by omega),decide_eq_false (by omega)];rfl
  refine bt ?_;exact⟨i+1,⟨by omega,by rw[hr,aD (by omega),hbi];rfl⟩,by omega,(cI [(0,0)])⟩
 refine ax ?_;have hB:bJ (fun i=>GG r.bars[i]!) 0 r.bars.length=true:=by rw[hr,bA (by omega)]
 refine au ?_;refine aV hm (ι:=Nat) (fun i=>[.un,⟨true,.bool false⟩,⟨true,.ptr 0 9 0 0⟩,.un,.un,.un,.un,.un,.un,.un,.un,.un,.un,.un,.un,⟨true,.int .i64 (i:Nat)⟩,.un,.un]) (fun i=>[(0,.buf 9 [Rec.D r])]) 49 (fun i=>i≤r.feats.length∧bJ (fun i=>GH r.feats[i]!) 0 r.feats.length=bJ (fun i=>GH r.feats[i]!) i r.feats.length) (fun i=>r.feats.length-i) 0 ⟨by omega,rfl⟩ (cI [(0,0)]) ?_;rintro i ⟨hi,hr⟩;refine aA ?_;intro u9;refine au ?_;refine ca (fun hc7=>?_) fun hc7=>?_
 ·refine aA ?_;refine bO i (hb:=fun _=>by omega) ?_;refine aC ?_;refine bQ (v:=.str r.feats[i]!.name) (hi:=fun _=>by omega) ?_;refine aC ?_;intro u10;refine aI ?_;refine bO i (hb:=fun _=>by omega) ?_;refine aC ?_;refine bQ (v:=.sl 1 (r.feats[i]!.of.map D.str)) (hi:=fun _=>by omega) ?_;refine ak (hc:=h207 r.feats[i]!.of) ?_;refine av ?_;refine wp_cond (fun hc8=>?_) (fun hc8=>?_)
  ·simp only[Bool.or_eq_true,decide_eq_true_eq,Bool.not_eq_true']at hc8;refine aA ?_;refine bp ?_;have hf:GH r.feats[i]! =false:=by
    unfold GH;rcases hc8 with h|h
    ·rw[decide_eq_true (show 100<r.feats[i]!.name.length by omega)];rfl
    ·rw[h];simp
   have hz:bJ (fun i=>GH r.feats[i]!) 0 r.feats.length=false:=by rw[hr,aD (by omega),hf];rfl
   unfold kG;rw[hz];simp
  simp only[Bool.or_eq_false_iff,decide_eq_false_iff_not,Bool.not_eq_false']at hc8;have hfi:GH r.feats[i]! =true:=by unfold GH;rw[decide_eq_false (by omega),hc8.2];rfl
  refine bt ?_;exact⟨i+1,⟨by omega,by rw[hr,aD (by omega),hfi];rfl⟩,by omega,(cI [(0,0)])⟩
 refine aA ?_;refine bp ?_;have hF:bJ (fun i=>GH r.feats[i]!) 0 r.feats.length=true:=by rw[hr,bA (by omega)]
 unfold kG;rw[hH,hN,hB,hF];rfl
def C68 (Γ:Ctx):Prop:=∀(r:Rec),Γ.pre 68 [Rec.D r]∧Γ.val 68 [Rec.D r]=.bool (kG r)
end Go.Abs
end
section
namespace Go.Abs
open Go
end Go.Abs
end
section
namespace Go.Abs
open Go
end Go.Abs
end
section
namespace Go.Abs
open Go
def pe:az:=⟨1,16,fg,bL,(sq (rg [gb 9 s0,gm cH] [(2,0),(1,1)]) (sq (sq (r1 [gk 9 true s2,gx 68 [l0] [[.a,.a,.a,.a,.a,.a,.sl 3 [.sl 4 [.a,.a,.sl 1 [.a],.a],.a,.a],.sl 3 [.a,.a,.a],.sl 2 [.a,.sl 1 [.a]]]],iR l1] 3 2) (.cond s3 (sq (r1 [gx 69 [] [],gm l0] 1 1) .ret) .skip)) (sq (rg [gk 9 true s2,gx 70 [l0] [[.a,.a,.a,.a,.a,.a,.sl 3 [.sl 4 [.a,.a,.sl 1 [.a],.a],.a,.a],.sl 3 [.a,.a,.a],.sl 2 [.a,.sl 1 [.a]]]],gm l1,ge l2 0,ge l2 1,gm l3,gm l4] [(4,5),(6,6)]) (sq (rg [gk 9 true s2,gx 71 [l0] [[.a,.a,.a,.a,.a,.a,.sl 3 [.sl 4 [.a,.a,.sl 1 [.a],.a],.a,.a],.sl 3 [.a,.a,.a],.sl 2 [.a,.sl 1 [.a]]]],gm l1,ge l2 0,ge l2 1,gm l3,gm l4] [(5,5),(7,6)]) (sq (rg [gk 9 true s2,gx 72 [l0] [[.a,.a,.a,.a,.a,.a,.sl 3 [.sl 4 [.a,.a,.sl 1 [.a],.a],.a,.a],.sl 3 [.a,.a,.a],.sl 2 [.a,.sl 1 [.a]]]],gm l1,ge l2 0,ge l2 1,gm l3,gm l4] [(8,5),(10,6)]) (sq (rg [gk 9 true s2,gx 73 [l0] [[.a,.a,.a,.a,.a,.a,.sl 3 [.sl 4 [.a,.a,.sl 1 [.a],.a],.a,.a],.sl 3 [.a,.a,.a],.sl 2 [.a,.sl 1 [.a]]]],gm l1,ge l2 0,ge l2 1,gm l3,gm l4] [(9,5),(11,6)]) (sq (rg [gk 9 true s2,gx 74 [l0] [[.a,.a,.a,.a,.a,.a,.sl 3 [.sl 4 [.a,.a,.sl 1 [.a],.a],.a,.a],.sl 3 [.a,.a,.a],.sl 2 [.a,.sl 1 [.a]]]],gm l1,ge l2 0,ge l2 1,gm l3,gm l4] [(12,5),(14,6)]) (sq (rg [gk 9 true s2,gx 75 [l0] [[.a,.a,.a,.a,.a,.a,.sl 3 [.sl 4 [.a,.a,.sl 1 [.a],.a],.a,.a],.sl 3 [.a,.a,.a],.sl 2 [.a,.sl 1 [.a]]]],gm l1,ge l2 0,ge l2 1,gm l3,gm l4] [(13,5),(15,6)]) (sq (r1 [gx 69 [] [],gm l0,gmt 1 s4,gmt 1 s5,bR 1 (bY l2 l3),dG l1 l4,gm l5,gmt 6 s6,gmt 6 s7,bR 6 (bY l7 l8),dG l6 l9,gm l10,gmt 11 s8,gmt 11 s9,bR 11 (bY iq jD),dG gh jZ,gm lz,gmt 16 jR,gmt 16 lf,bR 16 (bY oC pd),dG mw qk,gm tt,gmt 21 lE,gmt 21 oO,bR 21 (bY vJ zY),dG uU zZ,gm BW,gmt 26 rL,gmt 26 qU,bR 26 (bY GC HD),dG D8 HE,gm J7] 1 31) .ret)))))))))⟩
def w11 {Γ:Ctx}(hm:(Γ.at 0).aY)(h68:C68 Γ)(h69:C69 Γ)(h70:C70 Γ)(h71:C71 Γ)(h72:C72 Γ)(h73:C73 Γ)(h74:C74 Γ)(h75:C75 Γ)(r:Rec)  (hp0:xw r):c7 Γ pe (.bool true) [Rec.D r]:=by
 show bq _ _ _ [⟨_,_⟩,_,_,_,_,_,_,_,_,_,_,_,_,_,_,_] _;refine ai ?_;refine aA ?_;refine ak (hc:=h68 r) ?_;refine au ?_;refine aq (fun hc0=>?_) (fun hc0=>?_)
 ·try simp only[fo]at hc0
  refine au ?_;refine ak (hc:=h69) ?_;refine av ?_;exact bp rfl
 simp only[Bool.not_eq_false']at hc0;have hsm:=DR hp0 hc0;refine av ?_;refine ak (hc:=h70 r hsm) ?_;refine bt ?_;refine ak (hc:=h71 r hsm) ?_;refine bt ?_;refine ak (hc:=h72 r hsm) ?_;refine bt ?_;refine ak (hc:=h73 r hsm) ?_;refine bt ?_;refine ak (hc:=h74 r hsm) ?_;refine bt ?_;refine ak (hc:=h75 r hsm) ?_;refine aQ ?_;refine ak (hc:=h69) ?_;refine OP ?_;refine bp ?_;simp
end Go.Abs
end
section
namespace Go.Abs
def JU:List D→Nat
 |_::.int _ (.ofNat 4)::_=>3
 |_=>1
def A11 (T:RT):Prop:=∀(r:Rec),(xw r)→T [Rec.D r] (.bool true)
def D11:MA (xg A11):=bg
def A68 (T:RT):Prop:=∀(r:Rec),T [Rec.D r] (.bool (kG r))
def A69 (T:RT):Prop:=T [] (.bool true)
def A70 (T:RT):Prop:=∀(r:Rec),(dx r)→T [Rec.D r] (.tup [.int .i64 (bS r).1,.int .i64 (bS r).2])
def A71 (T:RT):Prop:=∀(r:Rec),(dx r)→T [Rec.D r] (.tup [.int .i64 (bS r).1,.int .i64 (bS r).2])
def A72 (T:RT):Prop:=∀(r:Rec),(dx r)→T [Rec.D r] (.tup [.str (df r).1,.int .i64 (df r).2])
def A73 (T:RT):Prop:=∀(r:Rec),(dx r)→T [Rec.D r] (.tup [.str (df r).1,.int .i64 (df r).2])
def A74 (T:RT):Prop:=∀(r:Rec),(dx r)→T [Rec.D r] (.tup [.int .u64 (vc r),.int .i64 (df r).2])
def A75 (T:RT):Prop:=∀(r:Rec),(dx r)→T [Rec.D r] (.tup [.int .u64 (vc r),.int .i64 (df r).2])
def A76 (T:RT):Prop:=∀(s:ah),T [.str s] (.tup [Rec.D (iw s).1,.int .i64 (iw s).2.1,.int .i64 (iw s).2.2])
def Lc (T:RT):Prop:=∀(s:ah)(b:UInt8),(s.length≤1048576)→T [.str s,.str [b]] (.sl 1 ((aj s b.toNat).map D.str))
def Lg (T:RT):Prop:=∀(s:ah),(s.length≤1048576)→T [.str s,.str [124,124]] (.sl 1 ((aw s []).map D.str))
def A124 (T:RT):Prop:=Lc T∧Lg T
def A207 (T:RT):Prop:=∀(l:List ah),T [.sl 1 (l.map D.str)] (.bool (nQ l))
def A208 (T:RT):Prop:=∀(s:ah),T [.str s] (.bool (ey s))
def A209 (T:RT):Prop:=∀(v:dc),(v.sm)→T [dc.D v] (.bool (iD v))
def A210 (T:RT):Prop:=∀(r:Rec)(n:bF),(n.sm)→T [Rec.D r,bF.D n] (.int .i64 (eR r n))
def A211 (T:RT):Prop:=∀(r:Rec)(name:ah)(rng:ah),(rng.length≤1048576)→T [Rec.D r,.str name,.str rng] (.int .i64 (dX r name rng))
def A212 (T:RT):Prop:=∀(s:ah),T [.str s] (.bool (kZ s))
def A213 (T:RT):Prop:=∀(l:List bz),(mj l)→T [.sl 2 (l.map bz.D)] (.bool (eI l))
def A214 (T:RT):Prop:=∀(r:Rec)(s:ah),(s.length≤1048576)→T [Rec.D r,.str s] (.int .i64 (jq r s))
def A215 (T:RT):Prop:=∀(r:Rec),(oM r∧dx r)→T [Rec.D r] (.str (mJ r))
def A216 (T:RT):Prop:=∀(s:ah),T [.str s] (.bool (ey s))
def A217 (T:RT):Prop:=∀(v:dc),(v.sm)→T [dc.D v] (.bool (iD v))
def A218 (T:RT):Prop:=∀(r:Rec),(dx r)→T [Rec.D r] (.tup [.int .i64 (cT r).1,.int .i64 (cT r).2])
def A219 (T:RT):Prop:=∀(r:Rec),(oM r∧dx r)→T [Rec.D r] (.str (mJ r))
def A220 (T:RT):Prop:=∀(s:ah),T [.sl 1 ((s).map fun b=>D.int .u8 b.toNat)] (.int .u64 (xM s))
def A221 (T:RT):Prop:=∀(s:ah),T [.sl 1 ((s).map fun b=>D.int .u8 b.toNat)] (.int .u64 (xM s))
def Lh (T:FT):Prop:=∀(r:Ld),(r.sm)→T (Ld.D r) [] (.tup [Rec.D (fm r.rest).1,.bool (qR r.rest).isSome]) (Ld.D (r.to (fm r.rest).2))
def Mw:sL (lA Lh):=Hf
def A242 (T:RT):Prop:=∀(l:List ah)(sep:ah),(l.length≤1048600)→(sep.length≤4)→(∀t∈l,t.length≤2097200)→T [.sl 1 (l.map D.str),.str sep] (.str (aO sep l))
def A245 (T:RT):Prop:=∀(s:ah)(n:Int),(s.length≤1048576)→(n=-1∨(1≤n∧n≤1000))→T [.str s,.str [32],.int .i64 n] (.sl 1 ((iH n s).map D.str))
def A246 (T:RT):Prop:=∀(l:List ah)(x:ah),T [.sl 1 (l.map D.str),.str x] (.bool (decide (x∈l)))
def A249 (T:RT):Prop:=∀(l:List ah)(x:UInt8),((aO [x] l).length≤1099511627776)→T [.sl 1 (l.map D.str),.int .u8 (x.toNat:Nat)] (.str (aO [x] l))
def A254 (T:RT):Prop:=∀(s:ah)(p:ah),(s.length≤1048576)→(p.length≤1048576)→T [.str s,.str p] (.tup [.str (dq s p).1,.bool (dq s p).2])
def A316 (T:RT):Prop:=∀(v:dc),(v.sm)→T [dc.D v] (.str (kJ v))
def A336 (T:RT):Prop:=∀(n:Int),(0≤n∧n≤9999)→T [.int .i64 n] (.str (cP n.toNat))
def A349 (T:RT):Prop:=∀(s:ah),T [.str s] (.bool (bI s))
def A357 (T:RT):Prop:=∀(s:ah),T [.str s] (.bool (bI s))
def A440 (T:RT):Prop:=∀(n:Int),T [.int .i64 n] (.bool (ko n))
def A441 (T:RT):Prop:=∀(s:ah),(s.length≤1048576)→T [.str s] (.bool (jS s true))
def A442 (T:RT):Prop:=∀(s:ah),(s.length≤1048576)→T [.str s] (.bool (jS s false))
def A443 (T:RT):Prop:=∀(r:Rec)(w:bN)(al:Bool),(w.sm)→T [Rec.D r,bN.D w,.bool al] (.int .i64 (fW r w al))
def A444 (T:RT):Prop:=∀(s:ah),(s.length≤1048576)→T [.str s] (.bool (mC s))
def A445 (T:RT):Prop:=∀(s:ah),T [.str s] (.tup [ew (gz s).1,.int .i64 (gz s).2])
def A446 (T:RT):Prop:=∀(m:Bx),T [ew m] (.str (FD m))
def A447 (T:RT):Prop:=∀(l:List ah),T [.sl 1 (l.map D.str)] (.bool (rising l))
def A448 (T:RT):Prop:=∀(s:ah),(s.length≤1048576)→T [.str s] (.tup [.int .i64 (b6 s).1,.str (b6 s).2.1,.str (b6 s).2.2])
def A449 (T:RT):Prop:=∀(l:List bz)(nm:ah),T [.sl 2 (l.map bz.D),.str nm] (.bool (J3 l nm))
def A451 (T:RT):Prop:=∀(v:dc),(v.sm)→T [dc.D v] (.str (kJ v))
def A453 (T:RT):Prop:=∀(c:Int),T [.int .u8 c] (.bool (fC c))
def A454 (T:RT):Prop:=∀(c:Int),T [.int .u8 c] (.bool (aX c))
def A455 (T:RT):Prop:=∀(n:Int),T [.int .i64 n] (.bool (ko n))
def A456 (T:RT):Prop:=∀(s:ah)(p:Bool),(s.length≤1048576)→T [.str s,.bool p] (.bool (nP s p))
def A457 (T:RT):Prop:=∀(r:Rec)(n:bF),(n.sm)→T [Rec.D r,bF.D n] (.int .i64 (eR r n))
def A458 (T:RT):Prop:=∀(r:Rec)(b:iJ),(b.sm)→T [Rec.D r,iJ.D b] (.int .i64 (mL r b))
def A459 (T:RT):Prop:=∀(l:List bz),(mj l)→T [.sl 2 (l.map bz.D)] (.bool (eI l))
def A460 (T:RT):Prop:=∀(r:Rec)(of:List ah),(∀t∈of,t.length≤1048576)→T [Rec.D r,.sl 1 (of.map D.str)] (.int .i64 (im r of))
def A461 (T:RT):Prop:=∀(w:bN),(w.fit)→T [bN.D w] (.str (fL w))
def A462 (T:RT):Prop:=∀(s:ah),(s.length≤1048576)→T [.str s] (.str (fV s))
def A463 (T:RT):Prop:=∀(h:Int)(k:Nat),(k=13)→T [.int .u64 h,.int .i64 (k:Nat)] (.int .u64 (H4 h k))
def A464 (T:RT):Prop:=∀(h:Int)(n:Nat),(n≤63)→T [.int .u64 h,.int .u64 (n:Nat)] (.int .u64 (H4 h n))
def Li (T:FT):Prop:=∀(r:Ld)(w:ah)(n:Nat)(op:Bool),(r.sm)→(n≤1000)→(op=true→1≤n)→T (Ld.D r) [.str w,.int .i64 (n:Nat),.bool op] (.tup [uX (bM w n op r.rest),.bool (bM w n op r.rest).isSome]) (Ld.D (r.after (bM w n op r.rest)))
def Mx:sL (lA Li):=Hf
def A466 (T:RT):Prop:=∀(s:ah),(s.length≤1048576)→T [.str s] (.tup [dc.D ((mV s).getD iE),.int .i64 (uy s)])
def Lj (T:FT):Prop:=∀(r:Ld),(r.sm)→T (Ld.D r) [] (bF.D (dw r.rest).1) (Ld.D (r.to (dw r.rest).2))
def My:sL (lA Lj):=Hf
def Lk (T:FT):Prop:=∀(r:Ld),(r.sm)→T (Ld.D r) [] (.str (bH r.rest).1) (Ld.D (r.to (bH r.rest).2))
def Mz:sL (lA Lk):=Hf
def A469 (T:RT):Prop:=∀(l:List ah),(l.length≤1048600)→T [.sl 1 (l.map D.str)] (.sl 1 (l.map D.str))
def A470 (T:RT):Prop:=∀(s:ah)(b:Int),(s.length≤1048576)→T [.str s,.int .u8 b] (.sl 1 ((aj s b).map D.str))
def A482 (T:RT):Prop:=∀(c:b9),(c.v.sm)→T [b9.D c] (.str (cD c))
def A487 (T:RT):Prop:=∀(s:ah)(b:UInt8),(s.length≤1048576)→T [.str s,.str [b]] (.tup [.str (eD s b).1,.str (eD s b).2.1,.bool (eD s b).2.2])
def A494 (T:RT):Prop:=∀(l:List ah)(x:ah),T [.sl 1 (l.map D.str),.str x] (.int .i64 (p7 l x 0))
def A495 (T:RT):Prop:=∀(s:ah),(s.length≤1048576)→T [.str s] (.tup [c9 (dV s).1,.int .i64 (dV s).2])
def A496 (T:RT):Prop:=∀(r:oJ),(fh r)→T [c9 r] (.str (nN r))
def A533 (T:RT):Prop:=∀(s:ah)(b:Int),(s.length≤1048576)→T [.str s,.int .u8 b] (.sl 1 ((aj s b).map D.str))
def A554 (T:RT):Prop:=∀(v:dc),(ko v.major=true∧ko v.minor=true∧ko v.patch=true)→T [dc.D v] (.str (cP v.major.toNat++[46]++cP v.minor.toNat++[46]++cP v.patch.toNat))
def A572 (T:RT):Prop:=∀(s:ah),(s.length≤1048576)→T [.str s] (.bool (mC s))
def A658 (T:RT):Prop:=∀(s:ah),T [.str s] (.tup [.int .i64 (dm s),.bool (ea s)])
def A659 (T:RT):Prop:=∀(t:ah),T [.str t] (.bool (dD t))
def A661 (T:RT):Prop:=∀(m:Bx),T [ew m] (.bool (pg m))
def A662 (T:RT):Prop:=∀(l:List Nd),(dM l∧l.length≤15)→T [.sl 5 (l.map Nd.D)] (.str (jL l))
def A663 (T:RT):Prop:=∀(l:List bz)(nm:ah),T [.sl 2 (l.map bz.D),.str nm] (.int .i64 (findF l nm 0))
def A665 (T:RT):Prop:=∀(n:Int),(0≤n∧n≤9999)→T [.int .i64 n] (.str (cP n.toNat))
def A666 (T:RT):Prop:=∀(t:ah),T [.str t] (.bool (mU t))
def A667 (T:RT):Prop:=∀(s:ah),T [.str s] (.tup [.int .i64 (dm s),.bool (ea s)])
def A668 (T:RT):Prop:=∀(t:ah),T [.str t] (.bool (dD t))
def A669 (T:RT):Prop:=∀(r:Rec)(w:bN)(al:Bool),(w.sm)→T [Rec.D r,bN.D w,.bool al] (.int .i64 (fW r w al))
def A670 (T:RT):Prop:=∀(s:ah),T [.str s] (.bool (kZ s))
def A671 (T:RT):Prop:=∀(l:List bz)(of:List ah),(∀t∈of,t.length≤1048576)→T [.sl 2 (l.map bz.D),.sl 1 (of.map D.str)] (.bool (iT l of))
def A672 (T:RT):Prop:=∀(s:ah),(s.length≤1048576)→T [.str s] (.tup [.int .i64 (b6 s).1,.str (b6 s).2.1,.str (b6 s).2.2])
def A673 (T:RT):Prop:=∀(r:Rec)(x:ah),T [Rec.D r,.str x] (.bool (AR r.needs x))
def A674 (T:RT):Prop:=∀(r:Rec)(x:ah),T [Rec.D r,.str x] (.bool (tQ r.needs x))
def A675 (T:RT):Prop:=∀(s:ah)(b:Int),T [.str s,.int .u8 b] (.tup [.str (ep s b).1,.str (ep s b).2])
def A676 (T:RT):Prop:=∀(c:b9),(c.v.sm)→T [b9.D c] (.bool (iO c))
def A678 (T:RT):Prop:=∀(op:Int),T [.int .i64 op] (.str (cj op))
def A682 (T:RT):Prop:=∀(s:ah),(s.length≤1048575)→T [.str s] (.tup [b9.D ((iK s).getD cL),.int .i64 (if(iK s).isSome=true then 0 else 6)])
def A683 (T:RT):Prop:=∀(s:ah)(b:UInt8),(b=32)→(s.length≤1048576)→T [.str s,.str [b]] (.str (cQ s))
def A684 (T:RT):Prop:=∀(r:oJ),(fh r)→T [c9 r] (.tup [.str (if fQ r=true then ug r else []),.bool (fQ r)])
def A685 (T:RT):Prop:=∀(r:oJ),(fh r)→T [c9 r] (.bool (mQ r))
def A734 (T:RT):Prop:=∀(n:Int),(0≤n∧n≤9999)→T [.int .i64 n] (.str (cP n.toNat))
def A744 (T:RT):Prop:=∀(s:ah),(s.length≤1048576)→T [.str s] (.tup [c9 (dV s).1,.int .i64 (dV s).2])
def A745 (T:RT):Prop:=∀(r:oJ),(fh r)→T [c9 r] (.str (nN r))
def A810 (T:RT):Prop:=∀(l:List Nd),T [.sl 5 (l.map Nd.D)] (.bool (decide (l.length≤15)&&jT l))
def A811 (T:RT):Prop:=∀(l:List Nd)(i:Int),(dM l∧l.length≤15∧0≤i∧i<l.length)→T [.sl 5 (l.map Nd.D),.int .i64 i] (.str (gS l i))
def u811:List D→Nat:=fun ds=>2*(match ds.getD 1 .any with| .int _ i=>i.toNat|_=>0)
def A812 (T:RT):Prop:=∀(l:List ah)(al:Bool),T [.sl 1 (l.map D.str),.bool al] (.bool (iG l al))
def A813 (T:RT):Prop:=∀(s:ah),T [.str s] (.tup [ew (gz s).1,.int .i64 (gz s).2])
def A814 (T:RT):Prop:=∀(m:Bx),T [ew m] (.str (FD m))
def A815 (T:RT):Prop:=∀(l:List ah),T [.sl 1 (l.map D.str)] (.bool (rising l))
def A816 (T:RT):Prop:=∀(l:List bz)(nm:ah),T [.sl 2 (l.map bz.D),.str nm] (.bool (J3 l nm))
def A819 (T:RT):Prop:=∀(s:ah),(s.length≤1048576)→T [.str s] (.tup [b9.D ((eg s).getD cL),.bool (eg s).isSome])
def A827 (T:RT):Prop:=∀(c:b9),(c.v.sm)→T [b9.D c] (.bool (iO c))
def A828 (T:RT):Prop:=∀(c:b9),(c.v.sm)→T [b9.D c] (.str (cD c))
def A882 (T:RT):Prop:=∀(n:Nat),(n≤9999)→T [.int .u64 (n:Nat)] (.str (cP n))
def A896 (T:RT):Prop:=∀(s:ah),(s.length≤1048576)→T [.str s] (.sl 1 ((aw s []).map D.str))
def A897 (T:RT):Prop:=∀(s:ah),(s.length≤1048576)→T [.str s] (.tup [b9.D ((cR s).getD cL),.int .i64 (if(cR s).isSome=true then 0 else 6)])
def A898 (T:RT):Prop:=∀(s:ah),T [.str s] (.str (cQ s))
def A899 (T:RT):Prop:=∀(r:oJ),(fh r)→T [c9 r] (.bool (fQ r))
def A900 (T:RT):Prop:=∀(r:oJ),(fQ r=true∧fh r)→T [c9 r] (.str (ug r))
def A901 (T:RT):Prop:=∀(r:oJ),(fh r)→T [c9 r] (.bool (mQ r))
def A946 (T:RT):Prop:=∀(w:List ah)(es:List D)(b:Bool),T [.ref 3 [eO w (.sl 5 es) b] 0 0] (.str (aK w))
def A950 (T:RT):Prop:=T [] (.sl 1 (mI.map D.str))
def A951 (T:RT):Prop:=∀(l:List Nd)(i:Int)(b:Bool),(dM l∧l.length≤15∧0≤i∧i<l.length)→T [.sl 5 (l.map Nd.D),.int .i64 i,.bool b] (.str (gY (gS l i) b))
def u951:List D→Nat:=fun ds=>2*(match ds.getD 1 .any with| .int _ i=>i.toNat|_=>0)+1
def A953 (T:RT):Prop:=∀(m:Bx),T [ew m] (.bool (pg m))
def A954 (T:RT):Prop:=∀(l:List Nd),(dM l∧l.length≤15)→T [.sl 5 (l.map Nd.D)] (.str (jL l))
def A955 (T:RT):Prop:=∀(l:List bz)(nm:ah),T [.sl 2 (l.map bz.D),.str nm] (.int .i64 (findF l nm 0))
def A956 (T:RT):Prop:=∀(s:ah)(w:ah),T [.str s,.str w] (.bool (mM s w))
def A957 (T:RT):Prop:=∀(op:Int),T [.int .i64 op] (.str (cj op))
def K3 (T:RT):Prop:=∀(s:ah),T [.str s] (.tup [.int .i64 (dQ s).1,.str (dQ s).2])
def K4 (T:RT):Prop:=∀(s:ah),T [.str s] (.tup [.str (eE s 0).1,.str (eE s 0).2])
def K5 (T:RT):Prop:=∀(l:List ah),T [.sl 1 (l.map D.str)] (.tup [dc.D (se l),.bool (dp l)])
def K6 (T:RT):Prop:=∀(l:List Nd),(l.length≤15)→T [.sl 5 (l.map Nd.D)] (.bool (jT l))
def K7 (T:RT):Prop:=∀(l:List Nd)(i:Int),(dM l∧l.length≤15∧0≤i∧i<l.length)→T [.sl 5 (l.map Nd.D),.int .i64 i] (.str (gS l i))
def Oj:List D→Nat:=fun ds=>2*(match ds.getD 1 .any with| .int _ i=>i.toNat|_=>0)
def K8 (T:RT):Prop:=∀(s:ah)(w:ah),T [.str s,.str w] (.bool (mM s w))
def K9 (T:RT):Prop:=∀(n:Nd),T [Nd.D n] (.bool (ku n))
def La (T:RT):Prop:=∀(k:Int),(0≤k∧k<3)→T [.int .i64 k] (.str (oB k))
def Lb (T:RT):Prop:=∀(s:ah)(b:Bool),(s.length≤1000000000)→T [.str s,.bool b] (.str (gY s b))
def aS:List (Nat×ox):=[(11,rP 17 A11),(68,rP 2 A68),(69,rP 16 A69),(70,rP 14 A70),(71,rP 14 A71),(72,rP 15 A72),(73,rP 15 A73),(74,rP 16 A74),(75,rP 16 A75),(76,rP 15 A76),(124,rP 1 A124),(207,rP 1 A207),(208,rP 1 A208),(209,rP 4 A209),(210,rP 13 A210),(211,rP 11 A211),(212,rP 6 A212),(213,rP 3 A213),(214,rP 3 A214),(215,rP 6 A215),(216,rP 2 A216),(217,rP 4 A217),(218,rP 13 A218),(219,rP 6 A219),(220,rP 2 A220),(221,rP 2 A221),(222,rF 7 Lh),(242,rP 1 A242),(245,rP 1 A245),(246,rP 2 A246),(249,rP 1 A249),(254,rP 1 A254),(316,rP 5 A316),(336,rP 1 A336),(349,rP 1 A349),(357,rP 2 A357),(440,rP 1 A440),(441,rP 3 A441),(442,rP 2 A442),(443,rP 12 A443),(444,rP 10 A444),(445,rP 5 A445),(446,rP 5 A446),(447,rP 1 A447),(448,rP 2 A448),(449,rP 2 A449),(450,rG 2 I6),(451,rP 5 A451),(452,rG 1 I8),(453,rP 1 A453),(454,rP 1 A454),(455,rP 1 A455),(456,rP 3 A456),(457,rP 12 A457),(458,rP 11 A458),(459,rP 5 A459),(460,rP 4 A460),(461,rP 2 A461),(462,rP 1 A462),(463,rP 1 A463),(464,rP 1 A464),(465,rFG 3 Li Bu),(466,rP 6 A466),(467,rF 5 Lj),(468,rF 4 Lk),(469,rP 1 A469),(470,rP 1 A470),(482,rP 6 A482),(487,rP 1 A487),(489,rG 1 Jc),(494,rP 1 A494),(495,rP 9 A495),(496,rP 8 A496),(533,rP 1 A533),(554,rP 3 A554),(572,rP 10 A572),(658,rP 1 A658),(659,rP 1 A659),(660,rG 4 Je (xi fun _=>4)),(661,rP 4 A661),(662,rP 3 A662),(663,rP 1 A663),(664,rG 1 Jh),(665,rP 2 A665),(666,rP 1 A666),(667,rP 2 A667),(668,rP 1 A668),(669,rP 11 A669),(670,rP 7 A670),(671,rP 4 A671),(672,rP 3 A672),(673,rP 1 A673),(674,rP 1 A674),(675,rP 1 A675),(676,rP 5 A676),(677,rG 3 Jn),(678,rP 1 A678),(682,rP 8 A682),(683,rP 1 A683),(684,rP 7 A684),(685,rP 8 A685),(734,rP 2 A734),(744,rP 8 A744),(745,rP 9 A745),(808,rG 4 C808 (xi JU)),(809,rG 4 C809 (xi fun _=>2)),(810,rP 2 A810),(811,rP 2 A811 u811),(812,rP 3 A812),(813,rP 6 A813),(814,rP 6 A814),(815,rP 1 A815),(816,rP 2 A816),(819,rP 7 A819),(827,rP 5 A827),(828,rP 6 A828),(882,rP 1 A882),(896,rP 1 A896),(897,rP 7 A897),(898,rP 1 A898),(899,rP 6 A899),(900,rP 7 A900),(901,rP 8 A901),(946,rP 1 A946),(947,rG 2 CD),(948,rG 1 En),(949,rG 4 C949 (xi fun _=>0)),(950,rP 1 A950),(951,rP 2 A951 u951),(952,rG 4 Jv (xi fun _=>2)),(953,rP 5 A953),(954,rP 3 A954),(955,rP 1 A955),(956,rP 1 A956),(957,rP 1 A957),(1006,rP 2 K3),(1007,rP 1 K4),(1008,rP 3 K5),(1031,rG 3 Eb),(1032,rG 4 Ll (xi fun _=>1)),(1033,rG 1 ya),(1034,rG 1 vj),(1035,rP 4 K6),(1036,rP 2 K7 Oj),(1079,rP 1 K8),(1097,rG 4 Lm (xi fun _=>0)),(1098,rP 3 K9),(1099,rP 1 La),(1100,rP 1 Lb),(1126,rG 3 Ef),(1141,rG 1 Eg)]
variable {k u v:Nat}
def G68 (hk:2<k:=by decide):C68 (under aS k u):=fun r=>cO bg (.inl hk) fun T hT=>hT r
def G69 (hk:16<k:=by decide):C69 (under aS k u):=cO bg (.inl hk) fun T hT=>hT
def G70 (hk:14<k:=by decide):C70 (under aS k u):=fun r hp0=>cO bg (.inl hk) fun T hT=>hT r hp0
def G71 (hk:14<k:=by decide):C71 (under aS k u):=fun r hp0=>cO bg (.inl hk) fun T hT=>hT r hp0
def G72 (hk:15<k:=by decide):C72 (under aS k u):=fun r hp0=>cO bg (.inl hk) fun T hT=>hT r hp0
def G73 (hk:15<k:=by decide):C73 (under aS k u):=fun r hp0=>cO bg (.inl hk) fun T hT=>hT r hp0
def G74 (hk:16<k:=by decide):C74 (under aS k u):=fun r hp0=>cO bg (.inl hk) fun T hT=>hT r hp0
def G75 (hk:16<k:=by decide):C75 (under aS k u):=fun r hp0=>cO bg (.inl hk) fun T hT=>hT r hp0
def G76 (hk:15<k:=by decide):C76 (under aS k u):=fun s=>cO bg (.inl hk) fun T hT=>hT s
def GY (hk:1<k:=by decide):Eh (under aS k u):=fun s b hp=>cO bg (.inl hk) fun T h=>h.1 s b hp
def Nh (hk:1<k:=by decide):Ip (under aS k u):=fun s hp=>cO bg (.inl hk) fun T h=>h.2 s hp
def G207 (hk:1<k:=by decide):Ln (under aS k u):=fun l=>cO bg (.inl hk) fun T hT=>hT l
def JB (hk:1<k:=by decide):GM (under aS k u):=fun s=>cO bg (.inl hk) fun T hT=>hT s
def GZ (hk:4<k:=by decide):Ei (under aS k u):=fun v hp0=>cO bg (.inl hk) fun T hT=>hT v hp0
def G210 (hk:13<k:=by decide):Lo (under aS k u):=fun r n hp0=>cO bg (.inl hk) fun T hT=>hT r n hp0
def MM (hk:11<k:=by decide):I0 (under aS k u):=fun r name rng hp0=>cO bg (.inl hk) fun T hT=>hT r name rng hp0
def MN (hk:6<k:=by decide):I1 (under aS k u):=fun s=>cO bg (.inl hk) fun T hT=>hT s
def G213 (hk:3<k:=by decide):Lp (under aS k u):=fun l hp0=>cO bg (.inl hk) fun T hT=>hT l hp0
def G214 (hk:3<k:=by decide):Lq (under aS k u):=fun r s hp0=>cO bg (.inl hk) fun T hT=>hT r s hp0
def MO (hk:6<k:=by decide):I2 (under aS k u):=fun r hp0=>cO bg (.inl hk) fun T hT=>hT r hp0
def G0 (hk:2<k:=by decide):Ej (under aS k u):=fun s=>cO bg (.inl hk) fun T hT=>hT s
def JC (hk:4<k:=by decide):GN (under aS k u):=fun v hp0=>cO bg (.inl hk) fun T hT=>hT v hp0
def G218 (hk:13<k:=by decide):Lr (under aS k u):=fun r hp0=>cO bg (.inl hk) fun T hT=>hT r hp0
def MP (hk:6<k:=by decide):I3 (under aS k u):=fun r hp0=>cO bg (.inl hk) fun T hT=>hT r hp0
def G220 (hk:2<k:=by decide):Ls (under aS k u):=fun s=>cO bg (.inl hk) fun T hT=>hT s
def G221 (hk:2<k:=by decide):Lt (under aS k u):=fun s=>cO bg (.inl hk) fun T hT=>hT s
def G222 (hk:7<k:=by decide):Lu (under aS k u):=fun r hp0=>okf Mw hk fun T h=>h r hp0
def JD (hk:1<k:=by decide):GO (under aS k u):=fun l sep hp0 hp1 hp2=>cO bg (.inl hk) fun T hT=>hT l sep hp0 hp1 hp2
def MQ (hk:1<k:=by decide):Lv (under aS k u):=fun s n hp0 hp1=>cO bg (.inl hk) fun T hT=>hT s n hp0 hp1
def MR (hk:2<k:=by decide):Lw (under aS k u):=fun l x=>cO bg (.inl hk) fun T hT=>hT l x
def JE (hk:1<k:=by decide):GP (under aS k u):=fun l x hp0=>cO bg (.inl hk) fun T hT=>hT l x hp0
def G254 (hk:1<k:=by decide):Lx (under aS k u):=fun s p hp0 hp1=>cO bg (.inl hk) fun T hT=>hT s p hp0 hp1
def G316 (hk:5<k:=by decide):Ly (under aS k u):=fun v hp0=>cO bg (.inl hk) fun T hT=>hT v hp0
def G336 (hk:1<k:=by decide):Lz (under aS k u):=fun n hp0=>cO bg (.inl hk) fun T hT=>hT n hp0
def CF (hk:1<k:=by decide):Aa (under aS k u):=fun s=>cO bg (.inl hk) fun T hT=>hT s
def CG (hk:2<k:=by decide):Ab (under aS k u):=fun s=>cO bg (.inl hk) fun T hT=>hT s
def G440 (hk:1<k:=by decide):LA (under aS k u):=fun n=>cO bg (.inl hk) fun T hT=>hT n
def G441 (hk:3<k:=by decide):LB (under aS k u):=fun s hp0=>cO bg (.inl hk) fun T hT=>hT s hp0
def MS (hk:2<k:=by decide):I4 (under aS k u):=fun s hp0=>cO bg (.inl hk) fun T hT=>hT s hp0
def G443 (hk:12<k:=by decide):LC (under aS k u):=fun r w al hp0=>cO bg (.inl hk) fun T hT=>hT r w al hp0
def G444 (hk:10<k:=by decide):LD (under aS k u):=fun s hp0=>cO bg (.inl hk) fun T hT=>hT s hp0
def G445 (hk:5<k:=by decide):LF (under aS k u):=fun s=>cO bg (.inl hk) fun T hT=>hT s
def G446 (hk:5<k:=by decide):LG (under aS k u):=fun m=>cO bg (.inl hk) fun T hT=>hT m
def G447 (hk:1<k:=by decide):LH (under aS k u):=fun l=>cO bg (.inl hk) fun T hT=>hT l
def MT (hk:2<k:=by decide):I5 (under aS k u):=fun s hp0=>cO bg (.inl hk) fun T hT=>hT s hp0
def G449 (hk:2<k:=by decide):LI (under aS k u):=fun l nm=>cO bg (.inl hk) fun T hT=>hT l nm
def G450 (hk:2<k:=by decide):I6 (under aS k u):=fun ws t l lw nx m K h1 h2 h3 h4 h5 hK=>tG (.inl hk) fun T _ h=>h ws t l lw nx m K h1 h2 h3 h4 h5 hK
def MU (hk:5<k:=by decide):I7 (under aS k u):=fun v hp0=>cO bg (.inl hk) fun T hT=>hT v hp0
def G452 (hk:1<k:=by decide):I8 (under aS k u):=fun ds st K h1=>tG (.inl hk) fun T _ h=>h ds st K h1
def MV (hk:1<k:=by decide):I9 (under aS k u):=fun c=>cO bg (.inl hk) fun T hT=>hT c
def JF (hk:1<k:=by decide):GQ (under aS k u):=fun c=>cO bg (.inl hk) fun T hT=>hT c
def G455 (hk:1<k:=by decide):LJ (under aS k u):=fun n=>cO bg (.inl hk) fun T hT=>hT n
def G456 (hk:3<k:=by decide):LK (under aS k u):=fun s p hp0=>cO bg (.inl hk) fun T hT=>hT s p hp0
def G457 (hk:12<k:=by decide):LL (under aS k u):=fun r n hp0=>cO bg (.inl hk) fun T hT=>hT r n hp0
def G458 (hk:11<k:=by decide):LM (under aS k u):=fun r b hp0=>cO bg (.inl hk) fun T hT=>hT r b hp0
def G459 (hk:5<k:=by decide):LN (under aS k u):=fun l hp0=>cO bg (.inl hk) fun T hT=>hT l hp0
def G460 (hk:4<k:=by decide):LO (under aS k u):=fun r of hp0=>cO bg (.inl hk) fun T hT=>hT r of hp0
def G461 (hk:2<k:=by decide):LP (under aS k u):=fun w hp0=>cO bg (.inl hk) fun T hT=>hT w hp0
def G462 (hk:1<k:=by decide):LR (under aS k u):=fun s hp0=>cO bg (.inl hk) fun T hT=>hT s hp0
def G463 (hk:1<k:=by decide):LU (under aS k u):=fun h k hp0=>cO bg (.inl hk) fun T hT=>hT h k hp0
def G464 (hk:1<k:=by decide):LV (under aS k u):=fun h n hp0=>cO bg (.inl hk) fun T hT=>hT h n hp0
def MW (hk:3<k:=by decide):GR (under aS k u):=fun r w n op hp0 hp1 hp2=>okf Mx hk fun T h=>h r w n op hp0 hp1 hp2
def Ni (hk:3<k:=by decide):Bu (under aS k u):=fun r w n op l nx m K h1 h2 h3 h4 hK=>tG (.inl hk) fun T _ h=>h r w n op l nx m K h1 h2 h3 h4 hK
def G466 (hk:6<k:=by decide):LW (under aS k u):=fun s hp0=>cO bg (.inl hk) fun T hT=>hT s hp0
def G467 (hk:5<k:=by decide):Ja (under aS k u):=fun r hp0=>okf My hk fun T h=>h r hp0
def MX (hk:4<k:=by decide):GS (under aS k u):=fun r hp0=>okf Mz hk fun T h=>h r hp0
def G469 (hk:1<k:=by decide):LX (under aS k u):=fun l hp0=>cO bg (.inl hk) fun T hT=>hT l hp0
def Es (hk:1<k:=by decide):CB (under aS k u):=fun s b hp0=>cO bg (.inl hk) fun T hT=>hT s b hp0
def MY (hk:6<k:=by decide):Jb (under aS k u):=fun c hp0=>cO bg (.inl hk) fun T hT=>hT c hp0
def G487 (hk:1<k:=by decide):LY (under aS k u):=fun s b hp0=>cO bg (.inl hk) fun T hT=>hT s b hp0
def G489 (hk:1<k:=by decide):Jc (under aS k u):=fun ds st K h1=>tG (.inl hk) fun T _ h=>h ds st K h1
def G494 (hk:1<k:=by decide):LZ (under aS k u):=fun l x=>cO bg (.inl hk) fun T hT=>hT l x
def G495 (hk:9<k:=by decide):L0 (under aS k u):=fun s hp0=>cO bg (.inl hk) fun T hT=>hT s hp0
def G496 (hk:8<k:=by decide):L1 (under aS k u):=fun r hp0=>cO bg (.inl hk) fun T hT=>hT r hp0
def G1 (hk:1<k:=by decide):Ek (under aS k u):=fun s b hp0=>cO bg (.inl hk) fun T hT=>hT s b hp0
def G554 (hk:3<k:=by decide):L2 (under aS k u):=fun v hp0=>cO bg (.inl hk) fun T hT=>hT v hp0
def MZ (hk:10<k:=by decide):Jd (under aS k u):=fun s hp0=>cO bg (.inl hk) fun T hT=>hT s hp0
def JG (hk:1<k:=by decide):GU (under aS k u):=fun s=>cO bg (.inl hk) fun T hT=>hT s
def G659 (hk:1<k:=by decide):L3 (under aS k u):=fun t=>cO bg (.inl hk) fun T hT=>hT t
def G660 (hk:4<k:=by decide):Je (under aS k u):=fun w nd hp0 nx lp ln m K h1 h2 h3 h4 hK=>tG (.inl hk) fun T _ h=>h w nd hp0 nx lp ln m K h1 h2 h3 h4 hK
def M0 (hv:v≤u):Io (under aS 4 u) v:=fun w nd hp0 hu nx lp ln m K h1 h2 h3 h4 hK=>tG (.inr ⟨rfl,by rw[show(lk aS 660 jQ).muE=xi fun _=>4 from rfl,kB h1];exact Nat.lt_of_lt_of_le hu hv⟩) fun T _ h=>h w nd hp0 nx lp ln m K h1 h2 h3 h4 hK
def M1 (hk:4<k:=by decide):Jf (under aS k u):=fun m=>cO bg (.inl hk) fun T hT=>hT m
def M3 (hk:3<k:=by decide):Jg (under aS k u):=fun l hp0=>cO bg (.inl hk) fun T hT=>hT l hp0
def G663 (hk:1<k:=by decide):L4 (under aS k u):=fun l nm=>cO bg (.inl hk) fun T hT=>hT l nm
def G664 (hk:1<k:=by decide):Jh (under aS k u):=fun ds st K h1=>tG (.inl hk) fun T _ h=>h ds st K h1
def M4 (hk:2<k:=by decide):Ji (under aS k u):=fun n hp0=>cO bg (.inl hk) fun T hT=>hT n hp0
def G666 (hk:1<k:=by decide):L5 (under aS k u):=fun t=>cO bg (.inl hk) fun T hT=>hT t
def M5 (hk:2<k:=by decide):Jj (under aS k u):=fun s=>cO bg (.inl hk) fun T hT=>hT s
def G668 (hk:1<k:=by decide):L6 (under aS k u):=fun t=>cO bg (.inl hk) fun T hT=>hT t
def G669 (hk:11<k:=by decide):L7 (under aS k u):=fun r w al hp0=>cO bg (.inl hk) fun T hT=>hT r w al hp0
def M6 (hk:7<k:=by decide):Jk (under aS k u):=fun s=>cO bg (.inl hk) fun T hT=>hT s
def G671 (hk:4<k:=by decide):L8 (under aS k u):=fun l of hp0=>cO bg (.inl hk) fun T hT=>hT l of hp0
def M7 (hk:3<k:=by decide):Jl (under aS k u):=fun s hp0=>cO bg (.inl hk) fun T hT=>hT s hp0
def G673 (hk:1<k:=by decide):L9 (under aS k u):=fun r x=>cO bg (.inl hk) fun T hT=>hT r x
def G674 (hk:1<k:=by decide):Ma (under aS k u):=fun r x=>cO bg (.inl hk) fun T hT=>hT r x
def G675 (hk:1<k:=by decide):Mb (under aS k u):=fun s b=>cO bg (.inl hk) fun T hT=>hT s b
def M8 (hk:5<k:=by decide):Jm (under aS k u):=fun c hp0=>cO bg (.inl hk) fun T hT=>hT c hp0
def G677 (hk:3<k:=by decide):Jn (under aS k u):=fun c hp0 nx m K hK=>tG (.inl hk) fun T _ h=>h c hp0 nx m K hK
def M9 (hk:1<k:=by decide):Jo (under aS k u):=fun op=>cO bg (.inl hk) fun T hT=>hT op
def G682 (hk:8<k:=by decide):Mc (under aS k u):=fun s hp0=>cO bg (.inl hk) fun T hT=>hT s hp0
def G683 (hk:1<k:=by decide):Md (under aS k u):=fun s b hp0 hp1=>cO bg (.inl hk) fun T hT=>hT s b hp0 hp1
def JH (hk:7<k:=by decide):GV (under aS k u):=fun r hp0=>cO bg (.inl hk) fun T hT=>hT r hp0
def G685 (hk:8<k:=by decide):Me (under aS k u):=fun r hp0=>cO bg (.inl hk) fun T hT=>hT r hp0
def Na (hk:2<k:=by decide):Jp (under aS k u):=fun n hp0=>cO bg (.inl hk) fun T hT=>hT n hp0
def G744 (hk:8<k:=by decide):Mf (under aS k u):=fun s hp0=>cO bg (.inl hk) fun T hT=>hT s hp0
def G745 (hk:9<k:=by decide):Mg (under aS k u):=fun r hp0=>cO bg (.inl hk) fun T hT=>hT r hp0
def Iu (hv:v≤u):El (under aS 4 u) v:=⟨fun w nd hp0 hu nx lp ln m K h1 h2 h3 h4 hK=>tG (.inr ⟨rfl,by rw[show(lk aS 808 jQ).muE=xi JU from rfl,kB h1];exact Nat.lt_of_lt_of_le hu hv⟩) fun T _ h=>h.1 w nd hp0 nx lp ln m K h1 h2 h3 h4 hK,fun w nd hp0 hu nx lp ln m K h1 h2 h3 h4 hK=>tG (.inr ⟨rfl,by rw[show(lk aS 808 jQ).muE=xi JU from rfl,kB h1];exact Nat.lt_of_lt_of_le hu hv⟩) fun T _ h=>h.2 w nd hp0 nx lp ln m K h1 h2 h3 h4 hK⟩
def Nb (hv:v≤u):Mh (under aS 4 u) v:=fun w nd hp0 hu nx lp ln m K h1 h2 h3 h4 hK=>tG (.inr ⟨rfl,by rw[show(lk aS 809 jQ).muE=xi fun _=>2 from rfl,kB h1];exact Nat.lt_of_lt_of_le hu hv⟩) fun T _ h=>h w nd hp0 nx lp ln m K h1 h2 h3 h4 hK
def G810 (hk:2<k:=by decide):Mi (under aS k u):=fun l=>cO bg (.inl hk) fun T hT=>hT l
def G811 (hk:2<k:=by decide):Mj (under aS k u):=fun l i hp0=>cO bg (.inl hk) fun T hT=>hT l i hp0
def Iv (hv:v≤u):Em (under aS 2 u) v:=fun l i hp0 hu=>cO bg (.inr ⟨rfl,Nat.lt_of_lt_of_le hu hv⟩) fun T hT=>hT l i hp0
def G812 (hk:3<k:=by decide):Mk (under aS k u):=fun l al=>cO bg (.inl hk) fun T hT=>hT l al
def G813 (hk:6<k:=by decide):Ml (under aS k u):=fun s=>cO bg (.inl hk) fun T hT=>hT s
def G814 (hk:6<k:=by decide):Mm (under aS k u):=fun m=>cO bg (.inl hk) fun T hT=>hT m
def Nc (hk:1<k:=by decide):Jq (under aS k u):=fun l=>cO bg (.inl hk) fun T hT=>hT l
def G816 (hk:2<k:=by decide):Mn (under aS k u):=fun l nm=>cO bg (.inl hk) fun T hT=>hT l nm
def G819 (hk:7<k:=by decide):Mo (under aS k u):=fun s hp0=>cO bg (.inl hk) fun T hT=>hT s hp0
def JI (hk:5<k:=by decide):GW (under aS k u):=fun c hp0=>cO bg (.inl hk) fun T hT=>hT c hp0
def Nf (hk:6<k:=by decide):Jr (under aS k u):=fun c hp0=>cO bg (.inl hk) fun T hT=>hT c hp0
def G882 (hk:1<k:=by decide):Mp (under aS k u):=fun n hp0=>cO bg (.inl hk) fun T hT=>hT n hp0
def G896 (hk:1<k:=by decide):Mq (under aS k u):=fun s hp0=>cO bg (.inl hk) fun T hT=>hT s hp0
def G897 (hk:7<k:=by decide):Mr (under aS k u):=fun s hp0=>cO bg (.inl hk) fun T hT=>hT s hp0
def G898 (hk:1<k:=by decide):Ms (under aS k u):=fun s=>cO bg (.inl hk) fun T hT=>hT s
def Ng (hk:6<k:=by decide):Js (under aS k u):=fun r hp0=>cO bg (.inl hk) fun T hT=>hT r hp0
def JJ (hk:7<k:=by decide):GX (under aS k u):=fun r hp0=>cO bg (.inl hk) fun T hT=>hT r hp0
def G901 (hk:8<k:=by decide):Mt (under aS k u):=fun r hp0=>cO bg (.inl hk) fun T hT=>hT r hp0
def JK (hk:1<k:=by decide):Jt (under aS k u):=fun w es b=>cO bg (.inl hk) fun T hT=>hT w es b
def G2 (hk:2<k:=by decide):CD (under aS k u):=fun w nd b nx lp ln m K h1 h2 h3 h4 hK=>tG (.inl hk) fun T _ h=>h w nd b nx lp ln m K h1 h2 h3 h4 hK
def G3 (hk:1<k:=by decide):En (under aS k u):=fun x w nd b hp0 nx lp ln m K h1 h2 h3 h4 hK=>tG (.inl hk) fun T _ h=>h x w nd b hp0 nx lp ln m K h1 h2 h3 h4 hK
def Iw (hv:v≤u):Iq (under aS 4 u) v:=fun w nd hp0 hu nx lp ln m K h1 h2 h3 h4 hK=>tG (.inr ⟨rfl,by rw[show(lk aS 949 jQ).muE=xi fun _=>0 from rfl,kB h1];exact Nat.lt_of_lt_of_le hu hv⟩) fun T _ h=>h w nd hp0 nx lp ln m K h1 h2 h3 h4 hK
def Nj (hk:1<k:=by decide):Ju (under aS k u):=cO bg (.inl hk) fun T hT=>hT
def Nk (hv:v≤u):Ir (under aS 2 u) v:=fun l i b hp0 hu=>cO bg (.inr ⟨rfl,Nat.lt_of_lt_of_le hu hv⟩) fun T hT=>hT l i b hp0
def G952 (hk:4<k:=by decide):Jv (under aS k u):=fun W w nd hp0 hp1 nx lp ln m K h1 h2 h3 h4 hK=>tG (.inl hk) fun T _ h=>h W w nd hp0 hp1 nx lp ln m K h1 h2 h3 h4 hK
def Nl (hv:v≤u):Is (under aS 4 u) v:=fun W w nd hp0 hp1 hu nx lp ln m K h1 h2 h3 h4 hK=>tG (.inr ⟨rfl,by rw[show(lk aS 952 jQ).muE=xi fun _=>2 from rfl,ph hp0.1 h1];exact Nat.lt_of_lt_of_le hu hv⟩) fun T _ h=>h W w nd hp0 hp1 nx lp ln m K h1 h2 h3 h4 hK
def Nn (hk:5<k:=by decide):Jw (under aS k u):=fun m=>cO bg (.inl hk) fun T hT=>hT m
def Np (hk:3<k:=by decide):Jx (under aS k u):=fun l hp0=>cO bg (.inl hk) fun T hT=>hT l hp0
def G955 (hk:1<k:=by decide):Mu (under aS k u):=fun l nm=>cO bg (.inl hk) fun T hT=>hT l nm
def G956 (hk:1<k:=by decide):Mv (under aS k u):=fun s w=>cO bg (.inl hk) fun T hT=>hT s w
def Nq (hk:1<k:=by decide):Jy (under aS k u):=fun op=>cO bg (.inl hk) fun T hT=>hT op
def MB (hk:2<k:=by decide):Ie (under aS k u):=fun s=>cO bg (.inl hk) fun T hT=>hT s
def MC (hk:1<k:=by decide):Ig (under aS k u):=fun s=>cO bg (.inl hk) fun T hT=>hT s
def MD (hk:3<k:=by decide):Ih (under aS k u):=fun l=>cO bg (.inl hk) fun T hT=>hT l
def ME (hk:3<k:=by decide):Eb (under aS k u):=fun k w nd b hp0 nx lp ln m K h1 h2 h3 h4 hK=>tG (.inl hk) fun T _ h=>h k w nd b hp0 nx lp ln m K h1 h2 h3 h4 hK
def Jz (hv:v≤u):Ec (under aS 4 u) v:=fun W w nd hp0 hp1 hu nx lp ln m K h1 h2 h3 h4 hK=>tG (.inr ⟨rfl,by rw[show(lk aS 1032 jQ).muE=xi fun _=>1 from rfl,ph hp0.1 h1];exact Nat.lt_of_lt_of_le hu hv⟩) fun T _ h=>h W w nd hp0 hp1 nx lp ln m K h1 h2 h3 h4 hK
def Ep (hk:1<k:=by decide):ya (under aS k u):=fun s W w nd b hp0 nx lp ln m K h1 h2 h3 h4 hK=>tG (.inl hk) fun T _ h=>h s W w nd b hp0 nx lp ln m K h1 h2 h3 h4 hK
def Bv (hk:1<k:=by decide):vj (under aS k u):=fun x W w nd b hp0 nx lp ln m K h1 h2 h3 h4 hK=>tG (.inl hk) fun T _ h=>h x W w nd b hp0 nx lp ln m K h1 h2 h3 h4 hK
def MF (hk:4<k:=by decide):Ii (under aS k u):=fun l hp0=>cO bg (.inl hk) fun T hT=>hT l hp0
def MG (hk:2<k:=by decide):Ij (under aS k u):=fun l i hp0=>cO bg (.inl hk) fun T hT=>hT l i hp0
def JA (hv:v≤u):Ed (under aS 2 u) v:=fun l i hp0 hu=>cO bg (.inr ⟨rfl,Nat.lt_of_lt_of_le hu hv⟩) fun T hT=>hT l i hp0
def MH (hk:1<k:=by decide):Ik (under aS k u):=fun s w=>cO bg (.inl hk) fun T hT=>hT s w
def Er (hv:v≤u):z8 (under aS 4 u) v:=fun W w nd hp0 hp1 hu nx lp ln m K h1 h2 h3 h4 hK=>tG (.inr ⟨rfl,by rw[show(lk aS 1097 jQ).muE=xi fun _=>0 from rfl,ph hp0.1 h1];exact Nat.lt_of_lt_of_le hu hv⟩) fun T _ h=>h W w nd hp0 hp1 nx lp ln m K h1 h2 h3 h4 hK
def MI (hk:3<k:=by decide):Il (under aS k u):=fun n=>cO bg (.inl hk) fun T hT=>hT n
def It (hk:1<k:=by decide):Ee (under aS k u):=fun k hp0=>cO bg (.inl hk) fun T hT=>hT k hp0
def MJ (hk:1<k:=by decide):Im (under aS k u):=fun s b hp0=>cO bg (.inl hk) fun T hT=>hT s b hp0
def MK (hk:3<k:=by decide):Ef (under aS k u):=fun W w nd hp0 hp1 nx lp ln m K h1 h2 h3 h4 hK=>tG (.inl hk) fun T _ h=>h W w nd hp0 hp1 nx lp ln m K h1 h2 h3 h4 hK
def ML (hk:1<k:=by decide):Eg (under aS k u):=fun W w nd b hp0 nx lp ln m K h1 h2 h3 h4 hK=>tG (.inl hk) fun T _ h=>h W w nd b hp0 nx lp ln m K h1 h2 h3 h4 hK
end Go.Abs
end
namespace Go.Abs
def sE:List (Nat×Nat):=[(8,11),(12,69),(13,76),(16,73),(20,70),(21,72),(22,68),(23,71),(24,74),(25,75),(26,220),(28,124),(29,222),(34,219),(41,208),(42,209),(43,210),(44,211),(45,212),(46,213),(47,214),(48,215),(49,207),(50,216),(51,217),(52,218),(53,221),(54,463),(61,465),(62,466),(63,467),(64,468),(65,469),(66,470),(74,316),(75,461),(76,462),(77,249),(80,482),(82,440),(83,441),(84,442),(85,443),(86,349),(87,444),(88,445),(89,446),(90,447),(91,448),(92,449),(93,450),(94,451),(95,242),(96,452),(97,453),(98,454),(99,455),(100,456),(101,457),(102,458),(103,459),(104,460),(105,464),(112,245),(113,246),(114,675),(115,533),(116,658),(118,554),(119,676),(120,677),(121,678),(122,659),(123,495),(124,496),(125,660),(126,661),(127,662),(128,254),(129,487),(130,663),(131,489),(132,664),(133,665),(135,666),(136,667),(137,668),(138,669),(139,670),(140,357),(141,572),(142,671),(143,672),(144,673),(145,674),(150,494),(153,734),(154,682),(155,683),(156,684),(157,685),(158,808),(159,809),(160,810),(161,811),(165,336),(167,812),(168,813),(169,814),(170,744),(171,745),(172,815),(173,816),(179,882),(180,819),(188,827),(189,828),(190,946),(191,947),(192,948),(193,949),(194,950),(195,951),(200,952),(201,953),(202,954),(203,896),(204,897),(205,898),(206,899),(207,900),(208,901),(209,955),(212,956),(213,957),(217,1031),(219,1032),(220,1033),(221,1034),(222,1035),(223,1036),(224,1006),(225,1007),(226,1008),(233,1097),(234,1098),(235,1099),(236,1100),(237,1079),(245,1126),(248,1141)]
def EO:List Nat:=[219,1091,1354,1894,1896,1616,1320,1618,1898,2062,2066,2282,2068,2252,2194,2064,1904,900,931,937,935,445,978,1328,904,942,944,946,952,448,1000000133]
def aZ:(Go.Proofs.Tryz.prog).follows .mixedOrders=true:=by kernel_rfl
abbrev Ow [ct](f n:Nat):Prop:=KV Go.Proofs.Tryz.prog sE EO aS f n
abbrev Cp (f:Nat)(a:az):Prop:=Eo Go.Proofs.Tryz.prog sE EO f a
def ck {f:Nat}{a:az}(h:((Go.Proofs.Tryz.prog).funcs[f]?).map (fun f=>(compile Go.Proofs.Tryz.prog sE EO f,f.name== "runtime.NumGoroutine"))=some (some a,false):=by kernel_rfl):Cp f a:=h
end Go.Abs
section
namespace Go.Proofs
open Go.Shelf
def Tryz.Hb:Go.Shelf.Ren:=⟨fun|166=>131|167=>132|169=>96|240=>164|276=>197|n=>n,fun|70=>131|9=>9|0=>0|72=>133|37=>53|3=>3|5=>5|4=>4|20=>20|75=>172|80=>99|164=>215|127=>177|n=>n,fun|n=>n⟩
def Tryz.BD:Go.Proofs.Lays.n166 Tryz.prog Tryz.Hb:={
 mixed:=by kernel_rfl
 f166:=Tryz.func131.trans (congrArg some (by kernel_rfl))
 f240:=Tryz.func164.trans (congrArg some (by kernel_rfl))
 f276:=Tryz.func197.trans (congrArg some (by kernel_rfl))
 t0:=Tryz.underlying0
 a0:=Tryz.isAgg0
 z0:=Tryz.sizeOf0
 v0:=Tryz.zeroValue0
 t3:=Tryz.underlying3
 a3:=Tryz.isAgg3
 z3:=Tryz.sizeOf3
 v3:=Tryz.zeroValue3
 t4:=Tryz.underlying4
 a4:=Tryz.isAgg4
 z4:=Tryz.sizeOf4
 v4:=Tryz.zeroValue4
 t9:=Tryz.underlying9
 a9:=Tryz.isAgg9
 z9:=Tryz.sizeOf9
 v9:=Tryz.zeroValue9
 t20:=Tryz.underlying20
 a20:=Tryz.isAgg20
 z20:=Tryz.sizeOf20
 v20:=Tryz.zeroValue20
 t37:=Tryz.underlying53
 a37:=Tryz.isAgg53
 z37:=Tryz.sizeOf53
 v37:=Tryz.zeroValue53
 t70:=Tryz.underlying131
 a70:=Tryz.isAgg131
 z70:=Tryz.sizeOf131
 v70:=Tryz.zeroValue131
 t72:=Tryz.underlying133
 a72:=Tryz.isAgg133
 z72:=Tryz.sizeOf133
 v72:=Tryz.zeroValue133
 t75:=Tryz.underlying172
 a75:=Tryz.isAgg172
 z75:=Tryz.sizeOf172
 v75:=Tryz.zeroValue172
 t164:=Tryz.underlying215
 a164:=Tryz.isAgg215
 z164:=Tryz.sizeOf215
 v164:=Tryz.zeroValue215}
def Tryz.BE:Go.Proofs.Lays.n167 Tryz.prog Tryz.Hb:={
 mixed:=by kernel_rfl
 f167:=Tryz.func132.trans (congrArg some (by kernel_rfl))
 f240:=Tryz.func164.trans (congrArg some (by kernel_rfl))
 f276:=Tryz.func197.trans (congrArg some (by kernel_rfl))
 t0:=Tryz.underlying0
 a0:=Tryz.isAgg0
 z0:=Tryz.sizeOf0
 v0:=Tryz.zeroValue0
 t4:=Tryz.underlying4
 a4:=Tryz.isAgg4
 z4:=Tryz.sizeOf4
 v4:=Tryz.zeroValue4
 t5:=Tryz.underlying5
 a5:=Tryz.isAgg5
 z5:=Tryz.sizeOf5
 v5:=Tryz.zeroValue5
 t9:=Tryz.underlying9
 a9:=Tryz.isAgg9
 z9:=Tryz.sizeOf9
 v9:=Tryz.zeroValue9
 t20:=Tryz.underlying20
 a20:=Tryz.isAgg20
 z20:=Tryz.sizeOf20
 v20:=Tryz.zeroValue20
 t37:=Tryz.underlying53
 a37:=Tryz.isAgg53
 z37:=Tryz.sizeOf53
 v37:=Tryz.zeroValue53
 t70:=Tryz.underlying131
 a70:=Tryz.isAgg131
 z70:=Tryz.sizeOf131
 v70:=Tryz.zeroValue131
 t72:=Tryz.underlying133
 a72:=Tryz.isAgg133
 z72:=Tryz.sizeOf133
 v72:=Tryz.zeroValue133
 t75:=Tryz.underlying172
 a75:=Tryz.isAgg172
 z75:=Tryz.sizeOf172
 v75:=Tryz.zeroValue172
 t164:=Tryz.underlying215
 a164:=Tryz.isAgg215
 z164:=Tryz.sizeOf215
 v164:=Tryz.zeroValue215}
def Tryz.BF:Go.Proofs.Lays.n169 Tryz.prog Tryz.Hb:={
 mixed:=by kernel_rfl
 f169:=Tryz.func96.trans (congrArg some (by kernel_rfl))
 t0:=Tryz.underlying0
 a0:=Tryz.isAgg0
 z0:=Tryz.sizeOf0
 v0:=Tryz.zeroValue0
 t3:=Tryz.underlying3
 a3:=Tryz.isAgg3
 z3:=Tryz.sizeOf3
 v3:=Tryz.zeroValue3
 t9:=Tryz.underlying9
 a9:=Tryz.isAgg9
 z9:=Tryz.sizeOf9
 v9:=Tryz.zeroValue9
 t37:=Tryz.underlying53
 a37:=Tryz.isAgg53
 z37:=Tryz.sizeOf53
 v37:=Tryz.zeroValue53
 t70:=Tryz.underlying131
 a70:=Tryz.isAgg131
 z70:=Tryz.sizeOf131
 v70:=Tryz.zeroValue131
 t72:=Tryz.underlying133
 a72:=Tryz.isAgg133
 z72:=Tryz.sizeOf133
 v72:=Tryz.zeroValue133
 t127:=Tryz.underlying177
 a127:=Tryz.isAgg177
 z127:=Tryz.sizeOf177
 v127:=Tryz.zeroValue177}
def Tryz.JT:Builder.Extra Tryz.prog Tryz.Hb:={
 sizeBuilder:=by kernel_rfl
 liesBuilder:=by kernel_rfl
 t5:=Tryz.underlying5
 a5:=Tryz.isAgg5
 z5:=Tryz.sizeOf5
 v5:=Tryz.zeroValue5
 infoByte:=by kernel_rfl
 cellsByte:=by kernel_rfl
 sizeByte:=by kernel_rfl
 neB5:=by decide}
end Go.Proofs
end
section
namespace Go.Proofs
open Go.Shelf
def Tryz.lays156_ren:Go.Shelf.Ren:=⟨fun|156=>95|165=>134|166=>131|169=>96|240=>164|241=>166|276=>197|277=>199|n=>n,fun|31=>55|9=>9|3=>3|4=>4|0=>0|20=>20|72=>133|76=>173|70=>131|37=>53|75=>172|127=>177|164=>215|5=>5|80=>99|n=>n,fun|n=>n⟩
def Tryz.lays156:Go.Proofs.Lays.n156 Tryz.prog Tryz.lays156_ren:={
 mixed:=by kernel_rfl
 f156:=Tryz.func95.trans (congrArg some (by kernel_rfl))
 f165:=Tryz.func134.trans (congrArg some (by kernel_rfl))
 f166:=Tryz.func131.trans (congrArg some (by kernel_rfl))
 f169:=Tryz.func96.trans (congrArg some (by kernel_rfl))
 f240:=Tryz.func164.trans (congrArg some (by kernel_rfl))
 f241:=Tryz.func166.trans (congrArg some (by kernel_rfl))
 f276:=Tryz.func197.trans (congrArg some (by kernel_rfl))
 f277:=Tryz.func199.trans (congrArg some (by kernel_rfl))
 t0:=Tryz.underlying0
 a0:=Tryz.isAgg0
 z0:=Tryz.sizeOf0
 v0:=Tryz.zeroValue0
 t3:=Tryz.underlying3
 a3:=Tryz.isAgg3
 z3:=Tryz.sizeOf3
 v3:=Tryz.zeroValue3
 t4:=Tryz.underlying4
 a4:=Tryz.isAgg4
 z4:=Tryz.sizeOf4
 v4:=Tryz.zeroValue4
 t9:=Tryz.underlying9
 a9:=Tryz.isAgg9
 z9:=Tryz.sizeOf9
 v9:=Tryz.zeroValue9
 t20:=Tryz.underlying20
 a20:=Tryz.isAgg20
 z20:=Tryz.sizeOf20
 v20:=Tryz.zeroValue20
 t31:=Tryz.underlying55
 a31:=Tryz.isAgg55
 z31:=Tryz.sizeOf55
 v31:=Tryz.zeroValue55
 t37:=Tryz.underlying53
 a37:=Tryz.isAgg53
 z37:=Tryz.sizeOf53
 v37:=Tryz.zeroValue53
 t70:=Tryz.underlying131
 a70:=Tryz.isAgg131
 z70:=Tryz.sizeOf131
 v70:=Tryz.zeroValue131
 t72:=Tryz.underlying133
 a72:=Tryz.isAgg133
 z72:=Tryz.sizeOf133
 v72:=Tryz.zeroValue133
 t75:=Tryz.underlying172
 a75:=Tryz.isAgg172
 z75:=Tryz.sizeOf172
 v75:=Tryz.zeroValue172
 t76:=Tryz.underlying173
 a76:=Tryz.isAgg173
 z76:=Tryz.sizeOf173
 v76:=Tryz.zeroValue173
 t127:=Tryz.underlying177
 a127:=Tryz.isAgg177
 z127:=Tryz.sizeOf177
 v127:=Tryz.zeroValue177
 t164:=Tryz.underlying215
 a164:=Tryz.isAgg215
 z164:=Tryz.sizeOf215
 v164:=Tryz.zeroValue215}
def Tryz.Builder_Extra_156:Builder.Extra Tryz.prog Tryz.lays156_ren:={
 sizeBuilder:=by kernel_rfl
 liesBuilder:=by kernel_rfl
 t5:=Tryz.underlying5
 a5:=Tryz.isAgg5
 z5:=Tryz.sizeOf5
 v5:=Tryz.zeroValue5
 infoByte:=by kernel_rfl
 cellsByte:=by kernel_rfl
 sizeByte:=by kernel_rfl
 neB5:=by decide}
open Go.RowKit in
theorem Tryz.strings_Join_none (a:Option Addr)(c:Nat)(sep:ByteArray)(w:World):
  Calls Tryz.prog 95 #[.slice a 0 c,.string sep] w fun e w'=>e=.returned (.string ⟨#[]⟩)∧w'=w:=Any.strings_Join_none Tryz.lays156 Tryz.Builder_Extra_156 a c sep w
open Go.RowKit in
theorem Tryz.strings_Join (bk o c:Nat)(xs:List ByteArray)(sep:ByteArray)(w:World)(hcells:∀(j:Nat) x,xs[j]? =some x→w.cell? ⟨bk,o+j,none⟩=some (.string x))(hbk:bk<w.heap.size)(hN:xs.length≤140737488355328)(hcap:xs.length≤c)(hlen:(Lib.join (xs.map (·.data.toList)) sep.data.toList).length≤140737488355328):
  Calls Tryz.prog 95 #[.slice (some ⟨bk,o,none⟩) xs.length c,.string sep] w fun e w'=>e=.returned (.string ⟨(Lib.join (xs.map (·.data.toList)) sep.data.toList).toArray⟩)∧Below w.heap.size w w':=Any.strings_Join Tryz.lays156 Tryz.Builder_Extra_156 bk o c xs sep w hcells hbk hN hcap hlen
def Tryz.lays160_ren:Go.Shelf.Ren:=⟨fun|160=>155|232=>182|231=>181|227=>183|234=>185|233=>184|236=>187|235=>186|228=>214|271=>216|151=>215|197=>147|120=>228|152=>227|260=>174|137=>238|119=>239|224=>177|225=>176|217=>175|266=>210|n=>n,fun|9=>9|4=>4|3=>3|5=>5|117=>205|116=>204|0=>0|124=>208|21=>21|105=>181|46=>89|119=>222|139=>225|138=>224|n=>n,fun|3=>1|4=>2|n=>n⟩
def Tryz.lays160:Go.Proofs.Lays.n160 Tryz.prog Tryz.lays160_ren:={
 mixed:=by kernel_rfl
 f119:=Tryz.func239.trans (congrArg some (by kernel_rfl))
 f120:=Tryz.func228.trans (congrArg some (by kernel_rfl))
 f137:=Tryz.func238.trans (congrArg some (by kernel_rfl))
 f151:=Tryz.func215.trans (congrArg some (by kernel_rfl))
 f152:=Tryz.func227.trans (congrArg some (by kernel_rfl))
 f160:=Tryz.func155.trans (congrArg some (by kernel_rfl))
 f197:=Tryz.func147.trans (congrArg some (by kernel_rfl))
 f217:=Tryz.func175.trans (congrArg some (by kernel_rfl))
 f224:=Tryz.func177.trans (congrArg some (by kernel_rfl))
 f225:=Tryz.func176.trans (congrArg some (by kernel_rfl))
 f227:=Tryz.func183.trans (congrArg some (by kernel_rfl))
 f228:=Tryz.func214.trans (congrArg some (by kernel_rfl))
 f231:=Tryz.func181.trans (congrArg some (by kernel_rfl))
 f232:=Tryz.func182.trans (congrArg some (by kernel_rfl))
 f233:=Tryz.func184.trans (congrArg some (by kernel_rfl))
 f234:=Tryz.func185.trans (congrArg some (by kernel_rfl))
 f235:=Tryz.func186.trans (congrArg some (by kernel_rfl))
 f236:=Tryz.func187.trans (congrArg some (by kernel_rfl))
 f260:=Tryz.func174.trans (congrArg some (by kernel_rfl))
 f266:=Tryz.func210.trans (congrArg some (by kernel_rfl))
 f271:=Tryz.func216.trans (congrArg some (by kernel_rfl))
 t0:=Tryz.underlying0
 a0:=Tryz.isAgg0
 z0:=Tryz.sizeOf0
 v0:=Tryz.zeroValue0
 t3:=Tryz.underlying3
 a3:=Tryz.isAgg3
 z3:=Tryz.sizeOf3
 v3:=Tryz.zeroValue3
 t4:=Tryz.underlying4
 a4:=Tryz.isAgg4
 z4:=Tryz.sizeOf4
 v4:=Tryz.zeroValue4
 t5:=Tryz.underlying5
 a5:=Tryz.isAgg5
 z5:=Tryz.sizeOf5
 v5:=Tryz.zeroValue5
 t9:=Tryz.underlying9
 a9:=Tryz.isAgg9
 z9:=Tryz.sizeOf9
 v9:=Tryz.zeroValue9
 t21:=Tryz.underlying21
 a21:=Tryz.isAgg21
 z21:=Tryz.sizeOf21
 v21:=Tryz.zeroValue21
 t46:=Tryz.underlying89
 a46:=Tryz.isAgg89
 z46:=Tryz.sizeOf89
 v46:=Tryz.zeroValue89
 t105:=Tryz.underlying181
 a105:=Tryz.isAgg181
 z105:=Tryz.sizeOf181
 v105:=Tryz.zeroValue181
 t116:=Tryz.underlying204
 a116:=Tryz.isAgg204
 z116:=Tryz.sizeOf204
 t117:=Tryz.underlying205
 a117:=Tryz.isAgg205
 z117:=Tryz.sizeOf205
 v117:=Tryz.zeroValue205
 t119:=Tryz.underlying222
 a119:=Tryz.isAgg222
 z119:=Tryz.sizeOf222
 t124:=Tryz.underlying208
 a124:=Tryz.isAgg208
 z124:=Tryz.sizeOf208
 v124:=Tryz.zeroValue208
 t138:=Tryz.underlying224
 a138:=Tryz.isAgg224
 z138:=Tryz.sizeOf224
 v138:=Tryz.zeroValue224
 t139:=Tryz.underlying225
 a139:=Tryz.isAgg225
 z139:=Tryz.sizeOf225
 v139:=Tryz.zeroValue225
 g3:=by kernel_rfl
 g4:=by kernel_rfl}
open Go.RowKit in
theorem Tryz.strings_Trim_one (s:ByteArray)(c:UInt8)(hc:c.toNat<128)(w:World)(hs:s.size≤9223372036854775807):
  Calls Tryz.prog 155 #[.string s,.string ⟨#[c]⟩] w fun e w'=>e=.returned (.string ⟨(Lib.trimB s.data.toList c).toArray⟩)∧(w'=w∨w'=w.drew):=Any.strings_Trim_one Tryz.lays160 s c hc w hs
def Tryz.lays103_ren:Go.Shelf.Ren:=⟨fun|103=>128|210=>162|206=>196|n=>n,fun|9=>9|4=>4|24=>166|3=>3|n=>n,fun|n=>n⟩
def Tryz.lays103:Go.Proofs.Lays.n103 Tryz.prog Tryz.lays103_ren:={
 mixed:=by kernel_rfl
 f103:=Tryz.func128.trans (congrArg some (by kernel_rfl))
 f206:=Tryz.func196.trans (congrArg some (by kernel_rfl))
 f210:=Tryz.func162.trans (congrArg some (by kernel_rfl))
 t3:=Tryz.underlying3
 a3:=Tryz.isAgg3
 z3:=Tryz.sizeOf3
 v3:=Tryz.zeroValue3
 t4:=Tryz.underlying4
 a4:=Tryz.isAgg4
 z4:=Tryz.sizeOf4
 v4:=Tryz.zeroValue4
 t9:=Tryz.underlying9
 a9:=Tryz.isAgg9
 z9:=Tryz.sizeOf9
 v9:=Tryz.zeroValue9
 t24:=Tryz.underlying166
 a24:=Tryz.isAgg166
 z24:=Tryz.sizeOf166
 v24:=Tryz.zeroValue166}
open Go.RowKit in
theorem Tryz.strings_CutPrefix (s p:ByteArray)(w:World):
  Calls Tryz.prog 128 #[.string s,.string p] w fun e w'=>e=.returned (.tuple #[.string ⟨(Lib.trimPrefix s.data.toList p.data.toList).toArray⟩,.bool (Lib.hasPrefix s.data.toList p.data.toList)])∧w'=w:=Any.strings_CutPrefix Tryz.lays103 s p w
def Tryz.laysM171_ren:Go.Shelf.Ren:=⟨fun|171=>165|243=>198|246=>218|283=>229|284=>230|285=>231|286=>232|129=>241|317=>240|318=>242|319=>243|320=>244|337=>246|338=>247|n=>n,fun|3=>3|9=>9|2=>2|4=>4|171=>235|0=>0|53=>49|37=>53|5=>5|173=>238|212=>244|51=>226|20=>20|213=>245|46=>89|232=>248|233=>249|n=>n,fun|17=>3|18=>4|19=>5|n=>n⟩
def Tryz.laysM171:Go.Proofs.LaysM.n171 Tryz.prog Tryz.laysM171_ren:={
 mixed:=by kernel_rfl
 f129:=Tryz.func241.trans (congrArg some (by kernel_rfl))
 f171:=Tryz.func165.trans (congrArg some (by kernel_rfl))
 f243:=Tryz.func198.trans (congrArg some (by kernel_rfl))
 f246:=Tryz.func218.trans (congrArg some (by kernel_rfl))
 f283:=Tryz.func229.trans (congrArg some (by kernel_rfl))
 f284:=Tryz.func230.trans (congrArg some (by kernel_rfl))
 f285:=Tryz.func231.trans (congrArg some (by kernel_rfl))
 f286:=Tryz.func232.trans (congrArg some (by kernel_rfl))
 f317:=Tryz.func240.trans (congrArg some (by kernel_rfl))
 f318:=Tryz.func242.trans (congrArg some (by kernel_rfl))
 f319:=Tryz.func243.trans (congrArg some (by kernel_rfl))
 f320:=Tryz.func244.trans (congrArg some (by kernel_rfl))
 f337:=Tryz.func246.trans (congrArg some (by kernel_rfl))
 f338:=Tryz.func247.trans (congrArg some (by kernel_rfl))
 t0:=Tryz.underlying0
 a0:=Tryz.isAgg0
 z0:=Tryz.sizeOf0
 v0:=Tryz.zeroValue0
 t2:=Tryz.underlying2
 a2:=Tryz.isAgg2
 z2:=Tryz.sizeOf2
 v2:=Tryz.zeroValue2
 t3:=Tryz.underlying3
 a3:=Tryz.isAgg3
 z3:=Tryz.sizeOf3
 v3:=Tryz.zeroValue3
 t4:=Tryz.underlying4
 a4:=Tryz.isAgg4
 z4:=Tryz.sizeOf4
 v4:=Tryz.zeroValue4
 t5:=Tryz.underlying5
 a5:=Tryz.isAgg5
 z5:=Tryz.sizeOf5
 v5:=Tryz.zeroValue5
 t9:=Tryz.underlying9
 a9:=Tryz.isAgg9
 z9:=Tryz.sizeOf9
 v9:=Tryz.zeroValue9
 t20:=Tryz.underlying20
 a20:=Tryz.isAgg20
 z20:=Tryz.sizeOf20
 v20:=Tryz.zeroValue20
 t37:=Tryz.underlying53
 a37:=Tryz.isAgg53
 z37:=Tryz.sizeOf53
 v37:=Tryz.zeroValue53
 t46:=Tryz.underlying89
 a46:=Tryz.isAgg89
 z46:=Tryz.sizeOf89
 v46:=Tryz.zeroValue89
 t51:=Tryz.underlying226
 a51:=Tryz.isAgg226
 z51:=Tryz.sizeOf226
 v51:=Tryz.zeroValue226
 t53:=Tryz.underlying49
 a53:=Tryz.isAgg49
 z53:=Tryz.sizeOf49
 v53:=Tryz.zeroValue49
 t171:=Tryz.underlying235
 a171:=Tryz.isAgg235
 z171:=Tryz.sizeOf235
 v171:=Tryz.zeroValue235
 t173:=Tryz.underlying238
 a173:=Tryz.isAgg238
 z173:=Tryz.sizeOf238
 v173:=Tryz.zeroValue238
 t212:=Tryz.underlying244
 a212:=Tryz.isAgg244
 z212:=Tryz.sizeOf244
 v212:=Tryz.zeroValue244
 t213:=Tryz.underlying245
 a213:=Tryz.isAgg245
 z213:=Tryz.sizeOf245
 t232:=Tryz.underlying248
 a232:=Tryz.isAgg248
 z232:=Tryz.sizeOf248
 v232:=Tryz.zeroValue248
 t233:=Tryz.underlying249
 a233:=Tryz.isAgg249
 z233:=Tryz.sizeOf249
 v233:=Tryz.zeroValue249
 g17:=by kernel_rfl
 g18:=by kernel_rfl
 g19:=by kernel_rfl
 i0:=by kernel_rfl
 i2:=by kernel_rfl
 i3:=by kernel_rfl
 i4:=by kernel_rfl
 i5:=by kernel_rfl
 i9:=by kernel_rfl
 i20:=by kernel_rfl
 i37:=by kernel_rfl
 i46:=by kernel_rfl
 i51:=by kernel_rfl
 i53:=by kernel_rfl
 i171:=by kernel_rfl
 i173:=by kernel_rfl
 i212:=by kernel_rfl
 i232:=by kernel_rfl
 i233:=by kernel_rfl
 m17:=by kernel_rfl
 m18:=by kernel_rfl
 m19:=by kernel_rfl}
open Go.RowKit Go.Sort Go.Lib in
theorem Tryz.strconv_Itoa (n:Int)(h0:-9223372036854775808≤n)(h1:n≤9223372036854775807)(w:World)(htab:Lib.TabIs Tryz.prog w "internal/strconv.uint64pow10" .u64 Lib.pow10Tab):
  Calls Tryz.prog 165 #[.int .i64 n] w fun e w'=>e=.returned (.string ⟨(Lib.itoa n).toArray⟩)∧∃k os,w'=grow (w.drewN k) os:=Any.strconv_Itoa Tryz.laysM171 n h0 h1 w htab
def Tryz.lays145_ren:Go.Shelf.Ren:=⟨fun|145=>129|220=>163|219=>149|217=>175|225=>176|224=>177|267=>178|266=>210|314=>211|n=>n,fun|9=>9|4=>4|59=>168|3=>3|5=>5|46=>89|146=>227|51=>226|n=>n,fun|1=>0|n=>n⟩
def Tryz.lays145:Go.Proofs.Lays.n145 Tryz.prog Tryz.lays145_ren:={
 mixed:=by kernel_rfl
 f145:=Tryz.func129.trans (congrArg some (by kernel_rfl))
 f217:=Tryz.func175.trans (congrArg some (by kernel_rfl))
 f219:=Tryz.func149.trans (congrArg some (by kernel_rfl))
 f220:=Tryz.func163.trans (congrArg some (by kernel_rfl))
 f224:=Tryz.func177.trans (congrArg some (by kernel_rfl))
 f225:=Tryz.func176.trans (congrArg some (by kernel_rfl))
 f266:=Tryz.func210.trans (congrArg some (by kernel_rfl))
 f267:=Tryz.func178.trans (congrArg some (by kernel_rfl))
 f314:=Tryz.func211.trans (congrArg some (by kernel_rfl))
 t3:=Tryz.underlying3
 a3:=Tryz.isAgg3
 z3:=Tryz.sizeOf3
 v3:=Tryz.zeroValue3
 t4:=Tryz.underlying4
 a4:=Tryz.isAgg4
 z4:=Tryz.sizeOf4
 v4:=Tryz.zeroValue4
 t5:=Tryz.underlying5
 a5:=Tryz.isAgg5
 z5:=Tryz.sizeOf5
 v5:=Tryz.zeroValue5
 t9:=Tryz.underlying9
 a9:=Tryz.isAgg9
 z9:=Tryz.sizeOf9
 v9:=Tryz.zeroValue9
 t46:=Tryz.underlying89
 a46:=Tryz.isAgg89
 z46:=Tryz.sizeOf89
 v46:=Tryz.zeroValue89
 t51:=Tryz.underlying226
 a51:=Tryz.isAgg226
 z51:=Tryz.sizeOf226
 v51:=Tryz.zeroValue226
 t59:=Tryz.underlying168
 a59:=Tryz.isAgg168
 z59:=Tryz.sizeOf168
 v59:=Tryz.zeroValue168
 t146:=Tryz.underlying227
 a146:=Tryz.isAgg227
 z146:=Tryz.sizeOf227
 v146:=Tryz.zeroValue227
 g1:=by kernel_rfl}
open Go.RowKit Go.Lib in
theorem Tryz.strings_Cut (s sep:ByteArray)(m:Int)(w:World)(hs:s.size<4294967281)(hm:w.cell? ⟨0,0,none⟩=some (.int .i64 m)):
  Calls Tryz.prog 129 #[.string s,.string sep] w fun e w'=>e=.returned (.tuple #[.string ⟨(Lib.cut s.data.toList sep.data.toList).1.toArray⟩,.string ⟨(Lib.cut s.data.toList sep.data.toList).2.1.toArray⟩,.bool (Lib.cut s.data.toList sep.data.toList).2.2])∧∃n,w'=w.drewN n:=Any.strings_Cut Tryz.lays145 s sep m w hs hm
def Tryz.laysM219_ren:Go.Shelf.Ren:=⟨fun|219=>149|217=>175|225=>176|224=>177|267=>178|266=>210|314=>211|n=>n,fun|9=>9|3=>3|4=>4|5=>5|46=>89|146=>227|51=>226|n=>n,fun|1=>0|n=>n⟩
def Tryz.laysM219:Go.Proofs.LaysM.n219 Tryz.prog Tryz.laysM219_ren:={
 mixed:=by kernel_rfl
 f217:=Tryz.func175.trans (congrArg some (by kernel_rfl))
 f219:=Tryz.func149.trans (congrArg some (by kernel_rfl))
 f224:=Tryz.func177.trans (congrArg some (by kernel_rfl))
 f225:=Tryz.func176.trans (congrArg some (by kernel_rfl))
 f266:=Tryz.func210.trans (congrArg some (by kernel_rfl))
 f267:=Tryz.func178.trans (congrArg some (by kernel_rfl))
 f314:=Tryz.func211.trans (congrArg some (by kernel_rfl))
 t3:=Tryz.underlying3
 a3:=Tryz.isAgg3
 z3:=Tryz.sizeOf3
 v3:=Tryz.zeroValue3
 t4:=Tryz.underlying4
 a4:=Tryz.isAgg4
 z4:=Tryz.sizeOf4
 v4:=Tryz.zeroValue4
 t5:=Tryz.underlying5
 a5:=Tryz.isAgg5
 z5:=Tryz.sizeOf5
 v5:=Tryz.zeroValue5
 t9:=Tryz.underlying9
 a9:=Tryz.isAgg9
 z9:=Tryz.sizeOf9
 v9:=Tryz.zeroValue9
 t46:=Tryz.underlying89
 a46:=Tryz.isAgg89
 z46:=Tryz.sizeOf89
 v46:=Tryz.zeroValue89
 t51:=Tryz.underlying226
 a51:=Tryz.isAgg226
 z51:=Tryz.sizeOf226
 v51:=Tryz.zeroValue226
 t146:=Tryz.underlying227
 a146:=Tryz.isAgg227
 z146:=Tryz.sizeOf227
 v146:=Tryz.zeroValue227
 g1:=by kernel_rfl
 i3:=by kernel_rfl
 i4:=by kernel_rfl
 i5:=by kernel_rfl
 i9:=by kernel_rfl
 i46:=by kernel_rfl
 i51:=by kernel_rfl
 i146:=by kernel_rfl
 m1:=by kernel_rfl
 s1_3:=fun w h=>Go.Proofs.cell_of_shapedOpen_int (zero:=#[.int .i64 0]) (t:=3) h (of_decide_eq_true (by kernel_rfl)) (by kernel_rfl) rfl (by kernel_rfl) (by kernel_rfl) Tryz.underlying3}
def Tryz.lays221_ren:Go.Shelf.Ren:=⟨fun|221=>60|268=>109|138=>110|143=>111|195=>146|197=>147|218=>148|219=>149|260=>174|217=>175|225=>176|224=>177|267=>178|266=>210|314=>211|n=>n,fun|9=>9|3=>3|31=>55|4=>4|0=>0|105=>181|21=>21|5=>5|46=>89|119=>222|139=>225|138=>224|146=>227|51=>226|n=>n,fun|1=>0|3=>1|4=>2|n=>n⟩
def Tryz.lays221:Go.Proofs.Lays.n221 Tryz.prog Tryz.lays221_ren:={
 mixed:=by kernel_rfl
 f138:=Tryz.func110.trans (congrArg some (by kernel_rfl))
 f143:=Tryz.func111.trans (congrArg some (by kernel_rfl))
 f195:=Tryz.func146.trans (congrArg some (by kernel_rfl))
 f197:=Tryz.func147.trans (congrArg some (by kernel_rfl))
 f217:=Tryz.func175.trans (congrArg some (by kernel_rfl))
 f218:=Tryz.func148.trans (congrArg some (by kernel_rfl))
 f219:=Tryz.func149.trans (congrArg some (by kernel_rfl))
 f221:=Tryz.func60.trans (congrArg some (by kernel_rfl))
 f224:=Tryz.func177.trans (congrArg some (by kernel_rfl))
 f225:=Tryz.func176.trans (congrArg some (by kernel_rfl))
 f260:=Tryz.func174.trans (congrArg some (by kernel_rfl))
 f266:=Tryz.func210.trans (congrArg some (by kernel_rfl))
 f267:=Tryz.func178.trans (congrArg some (by kernel_rfl))
 f268:=Tryz.func109.trans (congrArg some (by kernel_rfl))
 f314:=Tryz.func211.trans (congrArg some (by kernel_rfl))
 t0:=Tryz.underlying0
 a0:=Tryz.isAgg0
 z0:=Tryz.sizeOf0
 v0:=Tryz.zeroValue0
 t3:=Tryz.underlying3
 a3:=Tryz.isAgg3
 z3:=Tryz.sizeOf3
 v3:=Tryz.zeroValue3
 t4:=Tryz.underlying4
 a4:=Tryz.isAgg4
 z4:=Tryz.sizeOf4
 v4:=Tryz.zeroValue4
 t5:=Tryz.underlying5
 a5:=Tryz.isAgg5
 z5:=Tryz.sizeOf5
 v5:=Tryz.zeroValue5
 t9:=Tryz.underlying9
 a9:=Tryz.isAgg9
 z9:=Tryz.sizeOf9
 v9:=Tryz.zeroValue9
 t21:=Tryz.underlying21
 a21:=Tryz.isAgg21
 z21:=Tryz.sizeOf21
 v21:=Tryz.zeroValue21
 t31:=Tryz.underlying55
 a31:=Tryz.isAgg55
 z31:=Tryz.sizeOf55
 v31:=Tryz.zeroValue55
 t46:=Tryz.underlying89
 a46:=Tryz.isAgg89
 z46:=Tryz.sizeOf89
 v46:=Tryz.zeroValue89
 t51:=Tryz.underlying226
 a51:=Tryz.isAgg226
 z51:=Tryz.sizeOf226
 v51:=Tryz.zeroValue226
 t105:=Tryz.underlying181
 a105:=Tryz.isAgg181
 z105:=Tryz.sizeOf181
 v105:=Tryz.zeroValue181
 t119:=Tryz.underlying222
 a119:=Tryz.isAgg222
 z119:=Tryz.sizeOf222
 t138:=Tryz.underlying224
 a138:=Tryz.isAgg224
 z138:=Tryz.sizeOf224
 v138:=Tryz.zeroValue224
 t139:=Tryz.underlying225
 a139:=Tryz.isAgg225
 z139:=Tryz.sizeOf225
 v139:=Tryz.zeroValue225
 t146:=Tryz.underlying227
 a146:=Tryz.isAgg227
 z146:=Tryz.sizeOf227
 v146:=Tryz.zeroValue227
 g1:=by kernel_rfl
 g3:=by kernel_rfl
 g4:=by kernel_rfl}
open Go.RowKit Go.Lib in
theorem Tryz.strings_genSplit (s sep:ByteArray)(sv:Nat)(n:Int)(N:Nat)(m:Int)(w:World)(hs:s.size<4294967281)(hm:w.cell? ⟨0,0,none⟩=some (.int .i64 m))(h1:1≤sep.size)(hsv:sv≤sep.size)(hn0:n≠0)(hn63:n≤9223372036854775807)(hN:(N:Int)=min (if n<0 then(Lib.countB s sep:Int)+1 else n) ((s.size:Int)+1)):
  Calls Tryz.prog 60 #[.string s,.string sep,.int .i64 sv,.int .i64 n] w fun e w'=>
   e=.returned (.slice (some ⟨w.heap.size,0,none⟩) (Lib.splitB sep sv (N-1) s).length N)∧w'=w.alloc (.cells (Lib.cellsOf (Lib.splitB sep sv (N-1) s) N) 9):=Any.strings_genSplit Tryz.lays221 (by kernel_rfl) s sep sv n N m w hs hm h1 hsv hn0 hn63 hN
def Tryz.lays146_ren:Go.Shelf.Ren:=⟨fun|146=>28|221=>60|268=>109|138=>110|143=>111|195=>146|197=>147|218=>148|219=>149|260=>174|217=>175|225=>176|224=>177|267=>178|266=>210|314=>211|n=>n,fun|9=>9|31=>55|3=>3|4=>4|0=>0|105=>181|21=>21|5=>5|46=>89|119=>222|139=>225|138=>224|146=>227|51=>226|n=>n,fun|1=>0|3=>1|4=>2|n=>n⟩
def Tryz.lays146:Go.Proofs.Lays.n146 Tryz.prog Tryz.lays146_ren:={
 mixed:=by kernel_rfl
 f138:=Tryz.func110.trans (congrArg some (by kernel_rfl))
 f143:=Tryz.func111.trans (congrArg some (by kernel_rfl))
 f146:=Tryz.func28.trans (congrArg some (by kernel_rfl))
 f195:=Tryz.func146.trans (congrArg some (by kernel_rfl))
 f197:=Tryz.func147.trans (congrArg some (by kernel_rfl))
 f217:=Tryz.func175.trans (congrArg some (by kernel_rfl))
 f218:=Tryz.func148.trans (congrArg some (by kernel_rfl))
 f219:=Tryz.func149.trans (congrArg some (by kernel_rfl))
 f221:=Tryz.func60.trans (congrArg some (by kernel_rfl))
 f224:=Tryz.func177.trans (congrArg some (by kernel_rfl))
 f225:=Tryz.func176.trans (congrArg some (by kernel_rfl))
 f260:=Tryz.func174.trans (congrArg some (by kernel_rfl))
 f266:=Tryz.func210.trans (congrArg some (by kernel_rfl))
 f267:=Tryz.func178.trans (congrArg some (by kernel_rfl))
 f268:=Tryz.func109.trans (congrArg some (by kernel_rfl))
 f314:=Tryz.func211.trans (congrArg some (by kernel_rfl))
 t0:=Tryz.underlying0
 a0:=Tryz.isAgg0
 z0:=Tryz.sizeOf0
 v0:=Tryz.zeroValue0
 t3:=Tryz.underlying3
 a3:=Tryz.isAgg3
 z3:=Tryz.sizeOf3
 v3:=Tryz.zeroValue3
 t4:=Tryz.underlying4
 a4:=Tryz.isAgg4
 z4:=Tryz.sizeOf4
 v4:=Tryz.zeroValue4
 t5:=Tryz.underlying5
 a5:=Tryz.isAgg5
 z5:=Tryz.sizeOf5
 v5:=Tryz.zeroValue5
 t9:=Tryz.underlying9
 a9:=Tryz.isAgg9
 z9:=Tryz.sizeOf9
 v9:=Tryz.zeroValue9
 t21:=Tryz.underlying21
 a21:=Tryz.isAgg21
 z21:=Tryz.sizeOf21
 v21:=Tryz.zeroValue21
 t31:=Tryz.underlying55
 a31:=Tryz.isAgg55
 z31:=Tryz.sizeOf55
 v31:=Tryz.zeroValue55
 t46:=Tryz.underlying89
 a46:=Tryz.isAgg89
 z46:=Tryz.sizeOf89
 v46:=Tryz.zeroValue89
 t51:=Tryz.underlying226
 a51:=Tryz.isAgg226
 z51:=Tryz.sizeOf226
 v51:=Tryz.zeroValue226
 t105:=Tryz.underlying181
 a105:=Tryz.isAgg181
 z105:=Tryz.sizeOf181
 v105:=Tryz.zeroValue181
 t119:=Tryz.underlying222
 a119:=Tryz.isAgg222
 z119:=Tryz.sizeOf222
 t138:=Tryz.underlying224
 a138:=Tryz.isAgg224
 z138:=Tryz.sizeOf224
 v138:=Tryz.zeroValue224
 t139:=Tryz.underlying225
 a139:=Tryz.isAgg225
 z139:=Tryz.sizeOf225
 v139:=Tryz.zeroValue225
 t146:=Tryz.underlying227
 a146:=Tryz.isAgg227
 z146:=Tryz.sizeOf227
 v146:=Tryz.zeroValue227
 g1:=by kernel_rfl
 g3:=by kernel_rfl
 g4:=by kernel_rfl}
open Go.RowKit Go.Lib in
theorem Tryz.strings_Split (s sep:ByteArray)(m:Int)(w:World)(hs:s.size<4294967281)(hm:w.cell? ⟨0,0,none⟩=some (.int .i64 m))(h1:1≤sep.size):
  Calls Tryz.prog 28 #[.string s,.string sep] w fun e w'=>
   e=.returned (.slice (some ⟨w.heap.size,0,none⟩) (Lib.countB s sep+1) (Lib.countB s sep+1))∧w'=w.alloc (.cells ((Lib.splitB sep 0 (Lib.countB s sep) s).map Value.string).toArray 9):=Any.strings_Split Tryz.lays146 (by kernel_rfl) s sep m w hs hm h1
def Tryz.lays147_ren:Go.Shelf.Ren:=⟨fun|147=>112|221=>60|268=>109|138=>110|143=>111|195=>146|197=>147|218=>148|219=>149|260=>174|217=>175|225=>176|224=>177|267=>178|266=>210|314=>211|n=>n,fun|9=>9|3=>3|31=>55|4=>4|0=>0|105=>181|21=>21|5=>5|46=>89|119=>222|139=>225|138=>224|146=>227|51=>226|n=>n,fun|1=>0|3=>1|4=>2|n=>n⟩
def Tryz.lays147:Go.Proofs.Lays.n147 Tryz.prog Tryz.lays147_ren:={
 mixed:=by kernel_rfl
 f138:=Tryz.func110.trans (congrArg some (by kernel_rfl))
 f143:=Tryz.func111.trans (congrArg some (by kernel_rfl))
 f147:=Tryz.func112.trans (congrArg some (by kernel_rfl))
 f195:=Tryz.func146.trans (congrArg some (by kernel_rfl))
 f197:=Tryz.func147.trans (congrArg some (by kernel_rfl))
 f217:=Tryz.func175.trans (congrArg some (by kernel_rfl))
 f218:=Tryz.func148.trans (congrArg some (by kernel_rfl))
 f219:=Tryz.func149.trans (congrArg some (by kernel_rfl))
 f221:=Tryz.func60.trans (congrArg some (by kernel_rfl))
 f224:=Tryz.func177.trans (congrArg some (by kernel_rfl))
 f225:=Tryz.func176.trans (congrArg some (by kernel_rfl))
 f260:=Tryz.func174.trans (congrArg some (by kernel_rfl))
 f266:=Tryz.func210.trans (congrArg some (by kernel_rfl))
 f267:=Tryz.func178.trans (congrArg some (by kernel_rfl))
 f268:=Tryz.func109.trans (congrArg some (by kernel_rfl))
 f314:=Tryz.func211.trans (congrArg some (by kernel_rfl))
 t0:=Tryz.underlying0
 a0:=Tryz.isAgg0
 z0:=Tryz.sizeOf0
 v0:=Tryz.zeroValue0
 t3:=Tryz.underlying3
 a3:=Tryz.isAgg3
 z3:=Tryz.sizeOf3
 v3:=Tryz.zeroValue3
 t4:=Tryz.underlying4
 a4:=Tryz.isAgg4
 z4:=Tryz.sizeOf4
 v4:=Tryz.zeroValue4
 t5:=Tryz.underlying5
 a5:=Tryz.isAgg5
 z5:=Tryz.sizeOf5
 v5:=Tryz.zeroValue5
 t9:=Tryz.underlying9
 a9:=Tryz.isAgg9
 z9:=Tryz.sizeOf9
 v9:=Tryz.zeroValue9
 t21:=Tryz.underlying21
 a21:=Tryz.isAgg21
 z21:=Tryz.sizeOf21
 v21:=Tryz.zeroValue21
 t31:=Tryz.underlying55
 a31:=Tryz.isAgg55
 z31:=Tryz.sizeOf55
 v31:=Tryz.zeroValue55
 t46:=Tryz.underlying89
 a46:=Tryz.isAgg89
 z46:=Tryz.sizeOf89
 v46:=Tryz.zeroValue89
 t51:=Tryz.underlying226
 a51:=Tryz.isAgg226
 z51:=Tryz.sizeOf226
 v51:=Tryz.zeroValue226
 t105:=Tryz.underlying181
 a105:=Tryz.isAgg181
 z105:=Tryz.sizeOf181
 v105:=Tryz.zeroValue181
 t119:=Tryz.underlying222
 a119:=Tryz.isAgg222
 z119:=Tryz.sizeOf222
 t138:=Tryz.underlying224
 a138:=Tryz.isAgg224
 z138:=Tryz.sizeOf224
 v138:=Tryz.zeroValue224
 t139:=Tryz.underlying225
 a139:=Tryz.isAgg225
 z139:=Tryz.sizeOf225
 v139:=Tryz.zeroValue225
 t146:=Tryz.underlying227
 a146:=Tryz.isAgg227
 z146:=Tryz.sizeOf227
 v146:=Tryz.zeroValue227
 g1:=by kernel_rfl
 g3:=by kernel_rfl
 g4:=by kernel_rfl}
open Go.RowKit Go.Lib in
theorem Tryz.strings_SplitN (s sep:ByteArray)(n:Nat)(m:Int)(w:World)(hs:s.size<4294967281)(hm:w.cell? ⟨0,0,none⟩=some (.int .i64 m))(h1:1≤sep.size)(hn:1≤n)(hn63:n≤9223372036854775807):
  Calls Tryz.prog 112 #[.string s,.string sep,.int .i64 n] w fun e w'=>
   e=.returned (.slice (some ⟨w.heap.size,0,none⟩) (Lib.splitB sep 0 (min n (s.size+1) -1) s).length (min n (s.size+1)))∧w'=w.alloc (.cells (Lib.cellsOf (Lib.splitB sep 0 (min n (s.size+1) -1) s) (min n (s.size+1))) 9):=Any.strings_SplitN Tryz.lays147 (by kernel_rfl) s sep n m w hs hm h1 hn hn63
def Tryz.laysNm216_ren:Go.Shelf.Ren:=⟨fun|16=>65|n=>n,fun|24=>55|9=>9|4=>4|n=>n,fun|n=>n⟩
def Tryz.laysNm216:Go.Proofs.Lays2.n16 Tryz.prog Tryz.laysNm216_ren:={
 mixed:=by kernel_rfl
 f16:=Tryz.func65.trans (congrArg some (by kernel_rfl))
 t4:=Tryz.underlying4
 a4:=Tryz.isAgg4
 z4:=Tryz.sizeOf4
 v4:=Tryz.zeroValue4
 t9:=Tryz.underlying9
 a9:=Tryz.isAgg9
 z9:=Tryz.sizeOf9
 v9:=Tryz.zeroValue9
 t24:=Tryz.underlying55
 a24:=Tryz.isAgg55
 z24:=Tryz.sizeOf55
 v24:=Tryz.zeroValue55
 i9:=by kernel_rfl}
open Go.RowKit Go.Lib in
theorem Tryz.slices_Clone_string (b off n c:Nat)(zs:List ByteArray)(w:World)(hz:n≤zs.length)(hbig:n*16≤140737488355328)(hc:∀j,j<zs.length→w.cell? ⟨b,off+j,none⟩=some (.string (zs.getD j ByteArray.empty))):
  Calls Tryz.prog 65 #[.slice (some ⟨b,off,none⟩) n c] w fun e w'=>∃v',e=.returned v'∧w'.ownsRow w.heap.size 9 1 v' n ((zs.take n).map (Value.string))∧v'≠.slice none 0 0∧Below w.heap.size w w':=Any.slices_Clone_string Tryz.laysNm216 b off n c zs w hz hbig hc
open Go.RowKit Go.Lib in
theorem Tryz.slices_Clone_string_nil (n c:Nat)(w:World):
  Calls Tryz.prog 65 #[.slice none n c] w fun e w'=>e=.returned (.slice none 0 0)∧w'=w:=Any.slices_Clone_string_nil Tryz.laysNm216 n c w
open Go.RowKit Go.Lib in
theorem Tryz.slices_Clone_string_zero (a:Addr)(c:Nat)(w:World):
  Calls Tryz.prog 65 #[.slice (some a) 0 c] w fun e w'=>∃v',e=.returned v'∧w'.ownsRow w.heap.size 9 1 v' 0 []∧v'≠.slice none 0 0∧Below w.heap.size w w':=Any.slices_Clone_string_zero Tryz.laysNm216 a c w
end Go.Proofs
end
namespace Go.Abs
def pre1 (b c:UInt8)(r:ah):([b]:ah).isPrefixOf (c::r)=(b==c):=by simp[List.isPrefixOf]
def IH:Option Nat→Int
 |some k=>(k:Int)
 |none=>-1
def tn:∀(s:ah)(b:UInt8),Lib.index s [b]=IH (s.findIdx? (fun c=>c==b))
 |[],b=>rfl
 |c::r,b=>by
  unfold Lib.index;rw[pre1,List.findIdx?_cons,tn r b];by_cases h:c=b
  ·subst h;simp[IH]
  ·have h1:(b==c)=false:=by simp[Ne.symm h]
   have h2:(c==b)=false:=by simp[h]
   simp only[h1,h2,Bool.false_eq_true,if_false];cases r.findIdx? (fun c=>c==b)with
   |none=>rfl
   |some k=>
    simp only[Option.map_some];rw[if_neg (by simp[IH])];simp[IH]
def JV (s:ah)(b:UInt8):Lib.cut s [b]=eD s b:=by
 unfold Lib.cut eD;rw[tn];cases s.findIdx? (fun c=>c==b)with
 |none=>simp[IH]
 |some k=>simp[IH]
def C0 (s p:ah):(Lib.trimPrefix s p,Lib.hasPrefix s p)=dq s p:=by
 unfold Lib.trimPrefix Lib.hasPrefix dq;split<;>rename_i h
 ·rw[h]
 ·simp only[Bool.not_eq_true]at h;rw[h]
def yI (b:ah):∀l,aO b l=Lib.join l b
 |[]=>rfl
 |[t]=>(Lib.join_one t b).symm
 |t::u::r=>by
  rw[fB _ _ _ (by simp),yI b (u::r),Lib.join_cons,Lib.join_cons];simp[Lib.joinTail]
def decDigits_eq (n:Nat):Lib.decDigits n=cP n:=by
 induction n using Nat.strongRecOn with
 |_ n ih=>
  rw[Lib.decDigits];by_cases h:n<10
  ·rw[dif_pos h,n5 h];rfl
  ·rw[dif_neg h,n4 (by omega),ih (n/10) (by omega)];rfl
def HA {n:Int}(h:0≤n):Lib.itoa n=cP n.toNat:=by
 unfold Lib.itoa;rw[if_neg (by omega),decDigits_eq]
def qX (b:UInt8):∀(s cur:ah),s.findIdx? (fun c=>c==b)=none→bD b.toNat s cur=[cur++s]
 |[],cur,_=>by simp[bD]
 |c::r,cur,h=>by
  rw[List.findIdx?_cons]at h;split at h
  ·cases h
  ·rename_i hc;have hr:r.findIdx? (fun c=>c==b)=none:=by
    cases hq:r.findIdx? (fun c=>c==b)with
    |none=>rfl
    |some k=>rw[hq]at h;cases h
   have hne:¬((c.toNat:Int)=(b.toNat:Int)):=fun e=>hc (by
    have:c.toNat=b.toNat:=by omega
    simp[UInt8.toNat_inj.1 this])
   simp only[bD,if_neg hne];rw[qX b r (cur++[c]) hr];simp
def pD (b:UInt8):∀(s cur:ah)(k:Nat),s.findIdx? (fun c=>c==b)=some k→bD b.toNat s cur=(cur++s.take k)::bD b.toNat (s.drop (k+1)) []
 |[],cur,k,h=>by simp at h
 |c::r,cur,k,h=>by
  rw[List.findIdx?_cons]at h;split at h
  ·rename_i hc;have hk:k=0:=by simpa using h.symm
   subst hk;have hcb:c=b:=by simpa using hc
   subst hcb;simp[bD]
  ·rename_i hc;have hne:¬((c.toNat:Int)=(b.toNat:Int)):=fun e=>hc (by
    have:c.toNat=b.toNat:=by omega
    simp[UInt8.toNat_inj.1 this])
   cases hq:r.findIdx? (fun c=>c==b)with
   |none=>rw[hq]at h;cases h
   |some j=>
    rw[hq]at h;have hk:k=j+1:=by simpa using h.symm
    subst hk;simp only[bD,if_neg hne];rw[pD b r (cur++[c]) j hq];simp
def wg (b:UInt8):∀(k:Nat)(s:ByteArray),Lib.countB s ⟨⟨[b]⟩⟩=k→(Lib.splitB ⟨⟨[b]⟩⟩ 0 k s).map (fun t=>t.data.toList)=aj s.data.toList b.toNat:=by
 intro k;induction k with
 |zero=>
  intro s h;rw[Lib.splitB_zero];have hi:Lib.indexB s ⟨⟨[b]⟩⟩=IH (s.data.toList.findIdx? (fun c=>c==b)):=tn _ b;cases hq:s.data.toList.findIdx? (fun c=>c==b)with
  |none=>simp[aj,qX b _ [] hq]
  |some j=>
   rw[hq]at hi;have:=Lib.countB_hit s ⟨⟨[b]⟩⟩ j (Nat.le_refl 1) hi;omega
 |succ k ih=>
  intro s h;have hi:Lib.indexB s ⟨⟨[b]⟩⟩=IH (s.data.toList.findIdx? (fun c=>c==b)):=tn _ b;cases hq:s.data.toList.findIdx? (fun c=>c==b)with
  |none=>
   rw[hq]at hi;have:=Lib.countB_miss s ⟨⟨[b]⟩⟩ hi;omega
  |some j=>
   rw[hq]at hi;have h1:1≤(⟨⟨[b]⟩⟩:ByteArray).size:=Nat.le_refl 1;have hc:=Lib.countB_hit s ⟨⟨[b]⟩⟩ j h1 hi;rw[Lib.splitB_hit _ _ _ _ j hi];simp only[List.map_cons];rw[ih _ (by omega)];have e1:(s.extract 0 (j+0)).data.toList=s.data.toList.take j:=by
    rw[Lib.extract_data];simp
   have e2:(s.extract (j+(⟨⟨[b]⟩⟩:ByteArray).size) s.size).data.toList=s.data.toList.drop (j+1):=by
    rw[Lib.extract_data];exact List.take_of_length_le (by rw[List.length_drop,Lib.size_eq];exact Nat.le_refl _)
   rw[e1,e2];simp only[aj];rw[pD b _ [] j hq];simp
end Go.Abs
section
namespace Go.Abs
open Go.Proofs
def zD (sep:ah)(k:Nat)(s:ah)(h:Lib.index s sep=-1):Lib.splitK sep 0 k s=[s]:=by
 cases k with
 |zero=>rfl
 |succ k=>unfold Lib.splitK;rw[if_pos (beq_iff_eq.2 h)]
def Bm (sep:ah)(k:Nat)(s:ah)(i:Nat)(h:Lib.index s sep=i):Lib.splitK sep 0 (k+1) s=s.take i::Lib.splitK sep 0 k (s.drop (i+sep.length)):=by
 have hm:¬(Lib.index s sep==-1)=true:=fun e=>by have:=beq_iff_eq.1 e;omega
 have e:(Lib.index s sep).toNat=i:=by omega
 rw[Lib.splitK,if_neg hm,e];rfl
def jY (b:UInt8):∀(s cur:ah),aO [b] (bD b.toNat s cur)=cur++s
 |[],cur=>by simp[bD,aO]
 |c::r,cur=>by
  unfold bD;split
  ·rename_i h;have hc:c=b:=by
    have:c.toNat=b.toNat:=by omega
    exact UInt8.toNat_inj.1 this
   have hne:bD b.toNat r []≠[]:=ou r b.toNat;rw[fB _ _ _ hne,jY b r [],hc];simp
  ·rw[jY b r (cur++[c])];simp
def CZ (a:ah){l:List ah}(k:Nat)(hl:l≠[]):oW (k+2) (a::l)=a::oW (k+1) l:=by
 unfold oW;by_cases h:l.length≤k+1
 ·rw[if_pos h,if_pos (by simp only[List.length_cons];omega)]
 ·rw[if_neg h,if_neg (by simp only[List.length_cons];omega)];simp
def DU:∀(k:Nat)(s:ah),Lib.splitK [32] 0 k s=oW (k+1) (aj s 32):=by
 intro k;induction k with
 |zero=>
  intro s;have hj:aO [32] (aj s 32)=s:=by
   have:=jY 32 s [];simpa[aj]using this
  unfold oW;split
  ·rename_i h;show [s]=_;have hne:aj s 32≠[]:=ou _ _
   match hq:aj s 32,hne,h with
   |[t],_,_=>rw[hq]at hj;rw[←hj];rfl
   |_::_::_,_,h=>simp at h
  ·simp only[Nat.zero_add,Nat.sub_self,List.take_zero,List.drop_zero,List.nil_append,hj];rfl
 |succ k ih=>
  intro s;have hi:=tn s 32;cases hq:s.findIdx? (fun c=>c==32)with
  |none=>
   rw[hq]at hi;have hs:aj s 32=[s]:=by have:=qX 32 s [] hq;simpa[aj]using this
   rw[zD _ _ _ hi,hs];rfl
  |some j=>
   rw[hq]at hi;have hs:aj s 32=s.take j::aj (s.drop (j+1)) 32:=by have:=pD 32 s [] j hq;simpa[aj]using this
   rw[Bm _ _ _ j hi,hs,CZ _ _ (ou _ _),ih];rfl
def Bq (n:Nat)(h:1≤n)(s:ah):Lib.splitK [32] 0 (min n (s.length+1) -1) s=iH (n:Int) s:=by
 have hl:=cG s 32;rw[DU];unfold iH;rw[if_neg (by omega),Int.toNat_natCast];by_cases hn:n≤s.length+1
 ·rw[show min n (s.length+1) -1+1=n by omega]
 ·rw[show min n (s.length+1) -1+1=s.length+1 by omega];unfold oW;rw[if_pos hl,if_pos (by omega)]
def N0 (c d:UInt8)(r:ah):([124,124]:ah).isPrefixOf (c::d::r)=(decide (c=124)&&decide (d=124)):=by
 have e:∀x:UInt8,((124:UInt8)==x)=decide (x=124):=fun x=>by
  by_cases h:x=124
  ·subst h;rfl
  ·rw[decide_eq_false h];exact beq_eq_false_iff_ne.2 (Ne.symm h)
 simp only[List.isPrefixOf,Bool.and_true,e]
def wi:∀(s cur:ah),Lib.index s [124,124]=-1→aw s cur=[cur++s]
 |[],cur,_=>by simp[aw]
 |[c],cur,_=>rfl
 |c::d::r,cur,h=>by
  unfold Lib.index at h;rw[N0]at h;by_cases h2:c=124∧d=124
  ·simp[h2.1,h2.2]at h
  ·have h3:(decide (c=124)&&decide (d=124))=false:=by rw[←Bool.decide_and];exact decide_eq_false h2
   rw[h3,if_neg (by simp)]at h;have h4:Lib.index (d::r) [124,124]=-1:=by
    have:=Lib.index_ge (d::r) [124,124];split at h
    ·rename_i h5;exact beq_iff_eq.1 h5
    ·omega
   rw[aw,if_neg h2,wi (d::r) _ h4];simp
def wh:∀(s cur:ah)(i:Nat),Lib.index s [124,124]=i→aw s cur=(cur++s.take i)::aw (s.drop (i+2)) []
 |[],cur,i,h=>by simp[Lib.index]at h
 |[c],cur,i,h=>by simp[Lib.index,List.isPrefixOf]at h
 |c::d::r,cur,i,h=>by
  unfold Lib.index at h;rw[N0]at h;by_cases h2:c=124∧d=124
  ·rw[h2.1,h2.2]at h;have hi:i=0:=by simp at h;omega
   subst hi;rw[aw,if_pos h2];simp
  ·have h3:(decide (c=124)&&decide (d=124))=false:=by rw[←Bool.decide_and];exact decide_eq_false h2
   rw[h3,if_neg (by simp)]at h;split at h
   ·omega
   ·obtain⟨j,rfl⟩:∃j,i=j+1:=⟨i-1,by
     have:=Lib.index_ge (d::r) [124,124];rename_i h5;have:Lib.index (d::r) [124,124]≠-1:=fun e=>h5 (beq_iff_eq.2 e)
     omega⟩
    rw[aw,if_neg h2,wh (d::r) _ j (by omega)];simp
def DT:∀(k:Nat)(s:ByteArray),Lib.countB s ⟨⟨[124,124]⟩⟩=k→(Lib.splitB ⟨⟨[124,124]⟩⟩ 0 k s).map (fun t=>t.data.toList)=aw s.data.toList []:=by
 intro k;induction k with
 |zero=>
  intro s h;rcases Lib.indexB_cases s ⟨⟨[124,124]⟩⟩with hi|⟨i,hi,_⟩
  ·rw[Lib.splitB_zero];rw[wi _ _ (show Lib.index s.data.toList [124,124]=-1 from hi)];rfl
  ·have:=Lib.countB_hit s ⟨⟨[124,124]⟩⟩ i (by decide) hi;omega
 |succ k ih=>
  intro s h;rcases Lib.indexB_cases s ⟨⟨[124,124]⟩⟩with hi|⟨i,hi,_⟩
  ·rw[Lib.countB_miss _ _ hi]at h;omega
  ·have hc:=Lib.countB_hit s ⟨⟨[124,124]⟩⟩ i (by decide) hi;rw[Lib.splitB_hit _ _ _ _ i hi,List.map_cons,ih _ (by omega),wh _ _ i (show Lib.index s.data.toList [124,124]=i from hi),Lib.extract_from_zero,Lib.extract_to_end];rfl
def wy {p:UInt8→Bool}:∀(l:ah),∀x∈l.takeWhile p,p x=true
 |[],x,h=>by cases h
 |a::r,x,h=>by
  rw[List.takeWhile_cons]at h;split at h
  ·rename_i ha;rcases List.mem_cons.1 h with rfl|h
   ·exact ha
   ·exact wy r x h
  ·cases h
def qx {p:UInt8→Bool}:∀(l:ah),(∀x∈l,p x=true)→l.dropWhile p=[]
 |[],_=>rfl
 |a::r,h=>by
  rw[List.dropWhile_cons,if_pos (h a (.head _))];exact qx r fun x hx=>h x (.tail _ hx)
def sP:∀s,ib s=s.dropWhile (· ==32)
 |[]=>rfl
 |c::r=>by
  unfold ib;by_cases h:c=32
  ·rw[if_pos h,sP r];simp[h]
  ·rw[if_neg h,List.dropWhile_cons,if_neg (by simpa using h)]
def ED (s:ah):Lib.trimB s 32=cQ s:=by
 unfold Lib.trimB Lib.trimLeftB Lib.trimRightB cQ;rw[sP,sP];generalize hp:(fun c:UInt8=>c==32)=p;have hs:s=s.takeWhile p++s.dropWhile p:=(List.takeWhile_append_dropWhile).symm;generalize ha:s.takeWhile p=a at hs;generalize hm:s.dropWhile p=m at hs;have hall:∀x∈a,p x=true:=by rw[←ha];exact wy s
 subst hs;rw[List.reverse_append,List.dropWhile_append];cases m with
 |nil=>
  simp only[List.reverse_nil,List.dropWhile_nil,List.isEmpty_nil,if_true];rw[qx a.reverse (fun x hx=>hall x (List.mem_reverse.1 hx))];rfl
 |cons c r=>
  have hc:p c=false:=by
   have:=List.head_dropWhile_not p (l:=a++c::r) (by rw[hm];simp);simpa[hm]using this
  have hne:((c::r).reverse.dropWhile p)≠[]:=by
   rw[List.reverse_cons,List.dropWhile_append];split
   ·simp[hc]
   ·simp
  rw[if_neg (by simpa using hne),List.reverse_append,List.reverse_reverse,List.dropWhile_append,qx _ hall];simp only[List.isEmpty_nil,if_true];rw[List.reverse_cons,List.dropWhile_append];split
  ·simp[hc]
  ·simp[hc]
end Go.Abs
namespace Go.Proofs
open Go.Shelf Go.RowKit Go.Lib
set_option maxHeartbeats 1000000 in
/--strings.SplitN into all -/
theorem Bn {P:Program}{ρ:Ren}(L:Lays.n147 P ρ)(hi9:(P.info? (ρ.t 9)).map (fun i=>(i.zero,i.size,i.bytes))=some (some (.string ByteArray.empty),1,16))(s sep:ByteArray)(m:Int)(w:World)
  (hs:s.size<4294967281) (hm:w.cell? ⟨(ρ.g 1),0,none⟩=some (.int .i64 m)) (h1:1≤sep.size):
  Calls P (ρ.f 147) #[.string s,.string sep,.int .i64 (-1)] w fun e w'=>
   e=.returned (.slice (some ⟨w.heap.size,0,none⟩) (Lib.splitB sep 0 (Lib.countB s sep) s).length (Lib.countB s sep+1))∧w'=w.alloc (.cells (Lib.cellsOf (Lib.splitB sep 0 (Lib.countB s sep) s) (Lib.countB s sep+1)) (ρ.t 9)):=by
 have hle:=Lib.countB_le sep h1 s.size s (Nat.le_refl _);have c:=Any.strings_genSplit {L with} hi9 s sep 0 (-1) (Lib.countB s sep+1) m w hs hm h1 (Nat.zero_le _) (by decide) (by decide) (by rw[if_pos (by decide)];omega);rw[Nat.add_sub_cancel]at c;have t3:=L.t3;have t9:=L.t9;have t31:=L.t31;have a3:=L.a3;have a9:=L.a9;have a31:=L.a31;have z3:=L.z3;have v3:=L.v3;have z9:=L.z9;have v9:=L.v9;have z31:=L.z31;have v31:=L.v31;have e221:∀args w,(callFunc (ρ.f 221) args).run P w=.ok (.enter (ρ.f 221) args) w:=enters_of L.f221 (by kernel_rfl) rfl
 go_enter L.f147,Body.n147_ntmps ρ
 go_wp2_with (go_at_fn (ρ.f 221);refine c.mono ?_;rintro e w' ⟨rfl,hw⟩;rw[hw])
 go_ret
 exact⟨rfl,rfl⟩
end Go.Proofs
end
section
namespace Go.Abs
open Go.Proofs Go.Shelf Go.RowKit
section
variable [ct] {P:Program}
def jM (U:TypeId)(w:World)(v:Value)(s:List UInt8):Prop:=
 (v=.slice none 0 0∧s=[])∨∃g t c,v=.slice (some ⟨g,0,none⟩) s.length t∧w.heap[g]? =some (.cells c U (0,0))∧c.size=t∧t≤maxLen∧s.length≤t∧∀i,i<s.length→c.getD i undef=.int .u8 (s.getD i 0).toNat
def dz (s:List UInt8):List Value:=s.map fun b=>Value.int .u8 b.toNat
def fq (s:List UInt8):(dz s).length=s.length:=by simp[dz]
def oT (s:List UInt8)(i:Nat)(h:i<s.length):(dz s).getD i undef=.int .u8 (s.getD i 0).toNat:=by simp[dz,List.getD,h]
def sV (s:List UInt8):∀u∈dz s,u.oneCell'=true:=by
 intro u hu;obtain⟨b,_,rfl⟩:=List.mem_map.1 hu;rfl
def B5 {x y:List UInt8}{zs:Array Value}(i:Nat)(hi:i<(x++y).length):(((dz x++dz y).toArray++zs).getD i undef)=.int .u8 ((x++y).getD i 0).toNat:=by
 rw[←bx];simp only[Array.toList_append];rw[cb,if_pos (by simpa[dz]using hi)];have:dz x++dz y=dz (x++y):=by simp[dz]
 rw[this,oT _ _ hi]
def G5 {U t u ty:TypeId}{i:TypeInfo}{w:World}(ht:P.underlying t=some (.slice U))(hi:P.info? U=some i)(hz:i.zero=some (.int .u8 0))(hs:i.size=1)(hby:i.bytes=1){v xv:Value}{s s2:List UInt8}
  (hv:jM U w v s) (h0:s2≠[]) (hsrc:Go.Src P 1 u xv s2.length (dz s2) w) (hle:s.length+s2.length≤1099511627776):
  ∃g' t' w',(Builtin.append_ #[t,u] ty #[v,xv]).run P w=.ok (.slice (some ⟨g',0,none⟩) (s++s2).length t') w'∧jM U w' (.slice (some ⟨g',0,none⟩) (s++s2).length t') (s++s2)∧w.grownBy w' v.ownBlock∧(v.ownBlock=some g'∨w.heap.size≤g')∧g'<w'.heap.size:=by
 have hp:0<s2.length:=List.length_pos_iff.2 h0;have hm:maxLen=9223372036854775807:=rfl;rw[←hs]at hsrc;rcases hv with⟨rfl,rfl⟩|⟨g,cap,c,rfl,hg,hcs,hcm,hle2,hc⟩
 ·have hr:=run_append_grow_src (P:=P) w t u ty U i _ ht hi hz none 0 0 [] (by simp[Builtin.firstCells,loadCells,loadCellsFrom]) xv s2.length (dz s2) hsrc (by omega) (by simp only[List.length_nil]at hle;omega) (by rw[hby];exact growslice_fits (by omega) (by simp only[List.length_nil]at hle;omega));have hge:=grownCap_ge w (0+s2.length) 0 U;have hcm2:grownCap w (0+s2.length) 0 U≤maxLen:=grownCap_le_maxLen w (0+s2.length) 0 U (by simp only[List.length_nil]at hle;omega);simp only[Nat.zero_add,List.nil_append]at hr hge hcm2;refine⟨w.heap.size,_,_,hr,.inr ⟨w.heap.size,_,_,rfl,cZ w.drew _, ?_,hcm2,hge,fun j hj=>?_⟩,⟨rfl,rfl,rfl, ?_,fun k hk _=>ji w.drew _ k hk⟩,.inr (Nat.le_refl _), ?_⟩
  ·have hz1:(Value.int IntKind.u8 0).cells.size=1:=rfl;simp only[List.nil_append,Array.size_append,List.size_toArray,fq,size_zeroCells,hz1];omega
  ·exact B5 (x:=[]) j hj
  ·show w.heap.size≤(w.drew.heap.push _).size;rw[Array.size_push];exact Nat.le_succ _
  ·show w.heap.size<(w.drew.heap.push _).size;rw[Array.size_push];exact Nat.lt_succ_self _
 ·by_cases hroom:s.length+s2.length≤cap
  ·have hr:=run_append_room_src (P:=P) w t u ty U i ht hi g 0 s.length cap xv s2.length (dz s2) hsrc hroom (fun j hj=>by
    rw[hs,cell_of_heap hg (by rw[fq]at hj;omega)];rfl) (fun j hj=>by simp[World.frozen?,hg])
   obtain⟨c',s1,s3,s4⟩:=jk g (dz s2) (0+s.length*i.size) w c U (0,0) hg (by rw[fq,hs];omega);obtain⟨f1,f2,f3,f4⟩:=iB g (dz s2) (0+s.length*i.size) w;have hlt:g<w.heap.size:=by
    rcases Nat.lt_or_ge g w.heap.size with h|h
    ·exact h
    ·simp[Array.getElem?_eq_none h]at hg
   refine⟨g,cap,_,by simpa using hr,.inr ⟨g,cap,c',by simp,s1,by omega,hcm,by rw[List.length_append];exact hroom,fun j hj=>?_⟩,⟨f1,f2,f3,by omega,fun k _ hk=>iC g _ _ _ k (fun e=>hk (by simp[Value.ownBlock,e]))⟩,.inl rfl,by omega⟩;rw[s4,fq,hs];rw[List.length_append]at hj;by_cases hj2:j<s.length
   ·rw[if_neg (by omega),hc j hj2,cb,if_pos hj2]
   ·rw[if_pos (by omega),oT _ _ (by omega),cb,if_neg hj2];congr 4;omega
  ·have hold:(Builtin.firstCells i.size s.length (.slice (some ⟨g,0,none⟩) s.length cap)).run P w.drew=.ok (dz s).toArray w.drew:=by
    refine run_firstCells_some w.drew i.size s.length _ s.length cap _ (by simp[fq,hs]) (fun j u' hj=>?_);have hj2:j<s.length:=by
     have:=(List.getElem?_eq_some_iff.1 hj).1;rwa [fq]at this
    have hg':w.drew.heap[g]? =some (.cells c U (0,0)):=hg;rw[Addr.rS,cell_of_heap hg' (by omega),Nat.zero_add,hc j hj2,←oT s j hj2];simp[List.getD,hj]
   have hr:=run_append_grow_src (P:=P) w t u ty U i _ ht hi hz (some ⟨g,0,none⟩) s.length cap (dz s) hold xv s2.length (dz s2) hsrc (by omega) (by omega) (by rw[hby];exact growslice_fits (by omega) (by omega));have hge:=grownCap_ge w (s.length+s2.length) cap U;have hcm2:grownCap w (s.length+s2.length) cap U≤maxLen:=grownCap_le_maxLen w (s.length+s2.length) cap U (by omega);refine⟨w.heap.size,_,_,by simpa using hr,.inr ⟨w.heap.size,_,_,by simp,cZ w.drew _, ?_,hcm2,by simpa using hge,fun j hj=>?_⟩,⟨rfl,rfl,rfl, ?_,fun k hk _=>ji w.drew _ k hk⟩,.inr (Nat.le_refl _), ?_⟩
   ·have hz1:(Value.int IntKind.u8 0).cells.size=1:=rfl;simp only[Array.size_append,List.size_toArray,List.length_append,fq,size_zeroCells,hz1];omega
   ·exact B5 j hj
   ·show w.heap.size≤(w.drew.heap.push _).size;rw[Array.size_push];exact Nat.le_succ _
   ·show w.heap.size<(w.drew.heap.push _).size;rw[Array.size_push];exact Nat.lt_succ_self _
def uE {ops:Array Oper}{rest:List Oper}{o:Oper}{a:Act}{Q:Exit→Act→World→Prop}(hgd:o.guard=none)(sl x:Operand)(t u:TypeId)
  (ho:o.op=.call {callee:=.builtin .append,args:=#[sl,x],argTypes:=#[t,u]}) {U:TypeId} {i:TypeInfo} {w:World}
  (ht:P.underlying t=some (.slice U)) (hi:P.info? U=some i) (hz:i.zero=some (.int .u8 0)) (hsz:i.size=1) (hby:i.bytes=1) {v xv:Value} {s s2:List UInt8} (hs:a.eval sl=v) (hx:a.eval x=xv)
  (hv:jM U w v s) (h0:s2≠[]) (hsrc:Go.Src P 1 u xv s2.length (dz s2) w) (hle:s.length+s2.length≤1099511627776)
  (h:∀g' t' w',jM U w' (.slice (some ⟨g',0,none⟩) (s++s2).length t') (s++s2)→w.grownBy w' v.ownBlock→(v.ownBlock=some g'∨w.heap.size≤g')→g'<w'.heap.size→wpList P ops Q rest (a.put o.dst (.slice (some ⟨g',0,none⟩) (s++s2).length t')) w'):wpList P ops Q (o::rest) a w:=by
 refine wpList_plain hgd fun K hK=>?_
 obtain⟨g',t',w',hr,h2,h3,h4,h5⟩:=G5 (P:=P) (ty:=o.type) ht hi hz hsz hby hv h0 hsrc hle;unfold Oper.wp execOp;simp only[ho,resolve,invoke,builtin,Sem.run_bind,Sem.run_pure,Result.andThen_ok,List.map_toArray,List.map_cons,List.map_nil,hs,hx,hr];exact hK _ _ (h g' t' w' h2 h3 h4 h5)
def Ay (w:World)(g n:Nat):(w.drew.freeze ⟨g,0,none⟩ n).os=w.os∧(w.drew.freeze ⟨g,0,none⟩ n).tape=w.tape∧(w.drew.freeze ⟨g,0,none⟩ n).output=w.output∧(w.drew.freeze ⟨g,0,none⟩ n).heap.size=w.heap.size∧∀k,k≠g→(w.drew.freeze ⟨g,0,none⟩ n).heap[k]? =w.heap[k]? :=by
 unfold World.freeze;split
 ·exact⟨rfl,rfl,rfl,rfl,fun _ _=>rfl⟩
 ·refine⟨rfl,rfl,rfl,by simp,fun k hk=>?_⟩;simp only[Array.getElem?_modify];rw[if_neg (fun e=>hk e.symm)];rfl
def oy (b:Nat)(u:Bool)(v:Value)(T:TypeId):Obj:=.cells #[.pointer (if u=true then some ⟨b,0,none⟩else none),v] T (0,0)
variable {ρ:Ren}
def vv (L:Lays.n240 P ρ)(X:Builder.X72 P ρ){b:Nat}{u:Bool}{v:Value}{w:World}(h:w.heap[b]? =some (oy b u v (ρ.t 72))):
  Calls P (ρ.f 240) #[.pointer (some ⟨b,0,none⟩)] w fun e w'=>e=.returned (.tuple #[])∧w'.heap[b]? =some (oy b true v (ρ.t 72))∧w.grownBy w' (some b):=by
 unfold oy at h;cases u with
 |true=>
  refine(Any.Builder_copyCheck_used L X b w (by rw[Lib.cell_of_heap h];rfl)).mono ?_;rintro e w' ⟨rfl,rfl⟩;exact⟨rfl,h,⟨rfl,rfl,rfl,Nat.le_refl _,fun _ _ _=>rfl⟩⟩
 |false=>
  refine(Any.Builder_copyCheck_fresh L X b w (by rw[Lib.cell_of_heap h];rfl) (by simp[World.shape?,h]) (Lib.frozen_of_heap h 0)).mono ?_;rintro e w' ⟨rfl,rfl⟩;exact⟨rfl,by simp[World.setCell,Array.getElem?_modify,h,oy],⟨rfl,rfl,rfl,by simp[World.setCell],fun k _ hk=>Below.heap_setCell _ _ _ _ (fun e=>hk (by simp[e]))⟩⟩
def yg (T U:TypeId)(b:Nat)(g:Option Nat)(s:List UInt8)(w w':World):Prop:=
 ∃g' t',w'.heap[b]? =some (oy b true (.slice (some ⟨g',0,none⟩) s.length t') T)∧jM U w' (.slice (some ⟨g',0,none⟩) s.length t') s∧(g=some g'∨w.heap.size≤g')∧g'<w'.heap.size∧g'≠b∧
  w'.os=w.os∧w'.tape=w.tape∧w'.output=w.output∧w.heap.size≤w'.heap.size∧∀k,k<w.heap.size→k≠b→some k≠g→w'.heap[k]? =w.heap[k]?
def jM.mr {U:TypeId}{w w':World}{v:Value}{s:List UInt8}(h:jM U w v s)(hk:∀g,v.ownBlock=some g→w'.heap[g]? =w.heap[g]?):jM U w' v s:=by
 rcases h with h|⟨g,t,c,rfl,hg,r⟩
 ·exact .inl h
 ·exact .inr ⟨g,t,c,rfl,(hk g rfl).trans hg,r⟩
def jM.lt {U:TypeId}{w:World}{v:Value}{s:List UInt8}(h:jM U w v s){g:Nat}(hg:v.ownBlock=some g):g<w.heap.size∧∃c,w.heap[g]? =some (.cells c U (0,0)):=by
 rcases h with⟨rfl,_⟩|⟨g',t,c,rfl,hg',r⟩
 ·cases hg
 ·simp only[Value.ownBlock,Option.some.injEq]at hg;subst hg;refine⟨?_,c,hg'⟩;rcases Nat.lt_or_ge g' w.heap.size with h|h
  ·exact h
  ·simp[Array.getElem?_eq_none h]at hg'
set_option maxHeartbeats 2000000 in
set_option maxRecDepth 100000 in
theorem rT (L:Lays.n166 P ρ)(X:Builder.Extra P ρ){b:Nat}{u:Bool}{v:Value}{s s2:List UInt8}{w:World}(h:w.heap[b]? =some (oy b u v (ρ.t 72)))(hv:jM (ρ.t 5) w v s)(h0:s2≠[])(hm2:s2.length≤maxLen)(hle:s.length+s2.length≤1099511627776):
  Calls P (ρ.f 166) #[.pointer (some ⟨b,0,none⟩),.string ⟨⟨s2⟩⟩] w fun e w'=>(∃r,e=.returned r)∧yg (ρ.t 72) (ρ.t 5) b v.ownBlock (s++s2) w w':=by
 obtain⟨i0,hi,hz0,hz1,hz2⟩:=info_parts X.infoByte;have mixed:=L.mixed;have t72:=L.t72;have a72:=L.a72;have z72:=L.z72;have v72:=L.v72;have u72:=run_underlying L.t72;have t70:=L.t70;have a70:=L.a70;have z70:=L.z70;have v70:=L.v70;have u70:=run_underlying L.t70;have t37:=L.t37;have a37:=L.a37;have z37:=L.z37;have v37:=L.v37;have u37:=run_underlying L.t37;have t3:=L.t3;have a3:=L.a3;have z3:=L.z3;have v3:=L.v3;have u3:=run_underlying L.t3;have t9:=L.t9;have a9:=L.a9;have z9:=L.z9;have v9:=L.v9;have u9:=run_underlying L.t9;have t4:=L.t4;have a4:=L.a4;have z4:=L.z4;have v4:=L.v4;have u4:=run_underlying L.t4;have t164:=L.t164;have a164:=L.a164;have z164:=L.z164;have v164:=L.v164;have u164:=run_underlying L.t164;have t5:=X.t5;have a5:=X.a5;have z5:=X.z5;have v5:=X.v5;have u5:=run_underlying X.t5;have e240:∀args w,(callFunc (ρ.f 240) args).run P w=.ok (.enter (ρ.f 240) args) w:=enters_of L.f240 (by kernel_rfl) rfl
 have hne:∀g,v.ownBlock=some g→g≠b:=by
  rintro g hg rfl;obtain⟨_,c,hc⟩:=hv.lt hg;rw[h]at hc;simp only[oy,Option.some.injEq,Obj.cells.injEq]at hc;exact X.neB5 hc.2.1
 go_enter L.f166,Body.n166_ntmps ρ
 go_wp2_with (go_at_fn (ρ.f 240);refine(vv {L with} X.toX72 h).mono ?_)
 rintro e w1 ⟨rfl,h1,hb1⟩;have hv1:jM (ρ.t 5) w1 v s:=hv.mr fun g hg=>hb1.block g (hv.lt hg).1 (fun e=>hne g hg (Option.some.inj e))
 have c0:w1.cell? ⟨b,0,none⟩=some (.pointer (some ⟨b,0,none⟩)):=by rw[Lib.cell_of_heap h1];rfl
 have c1:w1.cell? ⟨b,1,none⟩=some v:=by rw[Lib.cell_of_heap h1];rfl
 have hsrc:Go.Src P 1 (ρ.t 9) (.string ⟨⟨s2⟩⟩) s2.length (dz s2) w1:=⟨.inr L.t9,fun _=>rfl,firstCells_string _ _,firstCells_string _ _,by rw[fq,Nat.mul_one],sV s2⟩;have key:=fun ops rest o a Q hgd ho hs hx h=>uE (P:=P) (ops:=ops) (rest:=rest) (o:=o) (a:=a) (Q:=Q) hgd (.tmp 12) (.tmp 13) (ρ.t 37) (ρ.t 9) ho L.t37 hi hz0 hz1 hz2 (v:=v) (xv:=.string ⟨⟨s2⟩⟩) hs hx hv1 h0 hsrc hle h
 go_wp2_with (at_builtin;refine key _ _ _ _ _ rfl rfl rfl rfl ?_)
 clear key;intro g' t' w2 hown' hgrow hg' hlt';have hlt:b<w1.heap.size:=by
  rcases Nat.lt_or_ge b w1.heap.size with h'|h'
  ·exact h'
  ·simp[Array.getElem?_eq_none h']at h1
 have gL:w2.heap[b]? =some (oy b true v (ρ.t 72)):=by
  rw[hgrow.block b hlt (fun e=>hne b e.symm rfl)];exact h1
 have hgb:g'≠b:=by
  rcases hg' with h'|h'
  ·exact hne g' h'
  ·omega
 have d0:w2.cell? ⟨b,0,none⟩=some (.pointer (some ⟨b,0,none⟩)):=by rw[Lib.cell_of_heap gL];rfl
 have d1:w2.cell? ⟨b,1,none⟩=some v:=by rw[Lib.cell_of_heap gL];rfl
 have f1:w2.frozen? ⟨b,1,none⟩=false:=Lib.frozen_of_heap gL 1
 go_wp2
 go_ret2
 have hsz:=hb1.size;refine⟨⟨_,rfl⟩, ?_⟩;unfold yg;simp only[List.length_append]at hown'⊢;refine⟨g',t',by simp[World.setCell,Array.getElem?_modify,gL,oy],hown'.mr fun g hg=>Below.heap_setCell w2 ⟨b,1,none⟩ _ g (fun e=>hgb ((Option.some.inj hg).trans e)),hg'.imp id (fun h=>by omega),by simpa[World.setCell]using hlt',hgb,hgrow.os.trans hb1.os,hgrow.tape.trans hb1.tape,hgrow.output.trans hb1.output,by have:=hgrow.size;simp[World.setCell];omega,fun k hk h1' h2'=>?_⟩;rw[Below.heap_setCell w2 ⟨b,1,none⟩ _ k h1',hgrow.block k (by omega) h2',hb1.block k hk (fun e=>h1' (Option.some.inj e))]
set_option maxHeartbeats 2000000 in
set_option maxRecDepth 100000 in
theorem uO (L:Lays.n167 P ρ)(X:Builder.Extra P ρ){b:Nat}{u:Bool}{v:Value}{s:List UInt8}{c:UInt8}{w:World}(h:w.heap[b]? =some (oy b u v (ρ.t 72)))(hv:jM (ρ.t 5) w v s)(hle:s.length+1≤1099511627776):
  Calls P (ρ.f 167) #[.pointer (some ⟨b,0,none⟩),.int .u8 c.toNat] w fun e w'=>(∃r,e=.returned r)∧yg (ρ.t 72) (ρ.t 5) b v.ownBlock (s++[c]) w w':=by
 obtain⟨i0,hi,hz0,hz1,hz2⟩:=info_parts X.infoByte;have mixed:=L.mixed;have t72:=L.t72;have a72:=L.a72;have z72:=L.z72;have v72:=L.v72;have u72:=run_underlying L.t72;have t70:=L.t70;have a70:=L.a70;have z70:=L.z70;have v70:=L.v70;have u70:=run_underlying L.t70;have t37:=L.t37;have a37:=L.a37;have z37:=L.z37;have v37:=L.v37;have u37:=run_underlying L.t37;have t9:=L.t9;have a9:=L.a9;have z9:=L.z9;have v9:=L.v9;have u9:=run_underlying L.t9;have t4:=L.t4;have a4:=L.a4;have z4:=L.z4;have v4:=L.v4;have u4:=run_underlying L.t4;have t164:=L.t164;have a164:=L.a164;have z164:=L.z164;have v164:=L.v164;have u164:=run_underlying L.t164;have t5:=L.t5;have a5:=L.a5;have z5:=L.z5;have v5:=L.v5;have u5:=run_underlying L.t5;have e240:∀args w,(callFunc (ρ.f 240) args).run P w=.ok (.enter (ρ.f 240) args) w:=enters_of L.f240 (by kernel_rfl) rfl
 have hne:∀g,v.ownBlock=some g→g≠b:=by
  rintro g hg rfl;obtain⟨_,c,hc⟩:=hv.lt hg;rw[h]at hc;simp only[oy,Option.some.injEq,Obj.cells.injEq]at hc;exact X.neB5 hc.2.1
 go_enter L.f167,Body.n167_ntmps ρ
 go_wp2_with (go_at_fn (ρ.f 240);refine(vv {L with} X.toX72 h).mono ?_)
 rintro e w1 ⟨rfl,h1,hb1⟩;have hv1:jM (ρ.t 5) w1 v s:=hv.mr fun g hg=>hb1.block g (hv.lt hg).1 (fun e=>hne g hg (Option.some.inj e))
 have c0:w1.cell? ⟨b,0,none⟩=some (.pointer (some ⟨b,0,none⟩)):=by rw[Lib.cell_of_heap h1];rfl
 have c1:w1.cell? ⟨b,1,none⟩=some v:=by rw[Lib.cell_of_heap h1];rfl
 have key:=fun ob ops rest o a Q sl x hgd ho hs hx hv2 hsrc h=>uE (P:=P) (w:=w1.alloc ob) (ops:=ops) (rest:=rest) (o:=o) (a:=a) (Q:=Q) hgd sl x (ρ.t 37) (ρ.t 37) ho L.t37 hi hz0 hz1 hz2 (v:=v) (xv:=.slice (some ⟨w1.heap.size,0,none⟩) 1 1) (s:=s) (s2:=[c]) hs hx hv2 (List.cons_ne_nil _ _) hsrc hle h
 go_wp2_with (at_builtin;refine key _ _ _ _ _ _ _ _ rfl rfl rfl rfl (hv1.mr fun g hg=>Lib.alloc_old w1 _ g (hv1.lt hg).1) ?hs ?_)
 case hs=>
  refine Go.Src.ofSlice _ L.t37 ⟨w1.heap.size,0,none⟩ 1 1 _ rfl (fun j u hj=>?_) (sV [c])
  match j,hj with
  |0,hj=>simp[dz]at hj;subst hj;simp[Addr.add]
 clear key;intro g' t' w2 hown' hgrow hg' hlt';have hlt:b<w1.heap.size:=by
  rcases Nat.lt_or_ge b w1.heap.size with h'|h'
  ·exact h'
  ·simp[Array.getElem?_eq_none h']at h1
 have gL:w2.heap[b]? =some (oy b true v (ρ.t 72)):=by
  rw[hgrow.block b (by simp;omega) (fun e=>hne b e.symm rfl),Lib.alloc_old w1 _ b hlt];exact h1
 have hgb:g'≠b:=by
  rcases hg' with h'|h'
  ·exact hne g' h'
  ·omega
 have d0:w2.cell? ⟨b,0,none⟩=some (.pointer (some ⟨b,0,none⟩)):=by rw[Lib.cell_of_heap gL];rfl
 have d1:w2.cell? ⟨b,1,none⟩=some v:=by rw[Lib.cell_of_heap gL];rfl
 have f1:w2.frozen? ⟨b,1,none⟩=false:=Lib.frozen_of_heap gL 1
 go_wp2
 go_ret
 have hsz:=hb1.size;refine⟨⟨_,rfl⟩, ?_⟩;unfold yg;simp only[List.length_append]at hown'⊢;refine⟨g',t',by simp[World.setCell,Array.getElem?_modify,gL,oy],hown'.mr fun g hg=>Below.heap_setCell w2 ⟨b,1,none⟩ _ g (fun e=>hgb ((Option.some.inj hg).trans e)),hg'.imp id (fun h=>by omega),by simpa[World.setCell]using hlt',hgb,hgrow.os.trans hb1.os,hgrow.tape.trans hb1.tape,hgrow.output.trans hb1.output,by have:=hgrow.size;simp at this;simp[World.setCell];omega,fun k hk h1' h2'=>?_⟩;rw[Below.heap_setCell w2 ⟨b,1,none⟩ _ k h1',hgrow.block k (by simp;omega) h2',Lib.alloc_old w1 _ k (by omega),hb1.block k hk (fun e=>h1' (Option.some.inj e))]
set_option maxHeartbeats 1000000 in
set_option maxRecDepth 100000 in
theorem Ap (L:Lays.n169 P ρ)(X:Builder.Extra P ρ){b g t:Nat}{u:Bool}{s:List UInt8}{w:World}(h:w.heap[b]? =some (oy b u (.slice (some ⟨g,0,none⟩) s.length t) (ρ.t 72)))(hv:jM (ρ.t 5) w (.slice (some ⟨g,0,none⟩) s.length t) s)(h0:s≠[]):
  Calls P (ρ.f 169) #[.pointer (some ⟨b,0,none⟩)] w fun e w'=>e=.returned (.string ⟨⟨s⟩⟩)∧w'.os=w.os∧w'.tape=w.tape∧w'.output=w.output∧w'.heap.size=w.heap.size∧∀k,k≠g→w'.heap[k]? =w.heap[k]? :=by
 have hl0:s.length≠0:=by simpa using h0
 obtain⟨c,hg,hcs,hcm,hle,hc⟩:∃c,w.heap[g]? =some (.cells c (ρ.t 5) (0,0))∧c.size=t∧t≤maxLen∧s.length≤t∧∀i,i<s.length→c.getD i undef=.int .u8 (s.getD i 0).toNat:=by
  rcases hv with⟨h1,_⟩|⟨g',t',c,h1,r⟩
  ·cases h1
  ·simp only[Value.slice.injEq,Option.some.injEq,Addr.mk.injEq]at h1;obtain⟨⟨rfl,_⟩,_,rfl⟩:=h1;exact⟨c,r⟩
 have c1:w.drew.cell? ⟨b,1,none⟩=some (.slice (some ⟨g,0,none⟩) s.length t):=by
  have:w.drew.heap[b]? =some (oy b u (.slice (some ⟨g,0,none⟩) s.length t) (ρ.t 72)):=h;rw[Lib.cell_of_heap this];rfl
 have hSD:(Builtin.unsafeSliceData_ #[(ρ.t 37)] (ρ.t 127) #[.slice (some ⟨g,0,none⟩) s.length t]).run P w.drew=.ok (.pointer (some ⟨g,0,none⟩)) w.drew:=
  Lib.run_unsafeSliceData_row _ _ _ _ _ _ (by omega)
 have hUS:(Builtin.unsafeString_ #[(ρ.t 127),(ρ.t 3)] (ρ.t 9) #[.pointer (some ⟨g,0,none⟩),.int .i64 s.length]).run P w.drew=.ok (.string ⟨s.toArray⟩) (w.drew.freeze ⟨g,0,none⟩ s.length):=by
  refine Lib.run_unsafeString_row w.drew (ρ.t 127) (ρ.t 3) (ρ.t 9) (ρ.t 5) L.t127 X.cellsByte g c.size (by have hg':w.drew.heap[g]? =some (.cells c (ρ.t 5) (0,0)):=hg;simp[World.shape?,hg']) s h0 (by omega) (by unfold maxLen at hcm;omega) ?_;intro j x hx;have hj:=(List.getElem?_eq_some_iff.1 hx).1;have hg':w.drew.heap[g]? =some (.cells c (ρ.t 5) (0,0)):=hg;rw[Addr.rS,cell_of_heap hg' (by omega),Nat.zero_add,hc j hj];simp[List.getD,hx]
 have mixed:=L.mixed;have t72:=L.t72;have a72:=L.a72;have z72:=L.z72;have v72:=L.v72;have u72:=run_underlying L.t72;have t70:=L.t70;have a70:=L.a70;have z70:=L.z70;have v70:=L.v70;have u70:=run_underlying L.t70;have t37:=L.t37;have a37:=L.a37;have z37:=L.z37;have v37:=L.v37;have u37:=run_underlying L.t37;have t127:=L.t127;have a127:=L.a127;have z127:=L.z127;have v127:=L.v127;have u127:=run_underlying L.t127;have t3:=L.t3;have a3:=L.a3;have z3:=L.z3;have v3:=L.v3;have u3:=run_underlying L.t3;have t9:=L.t9;have a9:=L.a9;have z9:=L.z9;have v9:=L.v9;have u9:=run_underlying L.t9;have t5:=X.t5;have a5:=X.a5;have z5:=X.z5;have v5:=X.v5;have u5:=run_underlying X.t5
 go_enter L.f169,Body.n169_ntmps ρ
 go_wp2
 go_region_o
 all_goals (go_wp2;go_ret;exact⟨rfl,Ay _ _ _⟩)
end
end Go.Abs
end
section
namespace Go.Abs
open Go.Proofs Go.Shelf Go.RowKit
section
variable [ct] {P:Program} {ν:List (Nat×Nat)} {bT:List Nat} {Γ:Ctx} {x:X}
def Ao {m:List (Nat×bj)}{l:Nat}{t:List UInt8}{v:Value}(hs:dK ν x (look m))(hb:oH m l t)(hv:RD ν x v (.ptr l 2 0 0)):
  ∃b tot u w,v=.pointer (some ⟨b,0,none⟩)∧x.β l=some (b,0,tot)∧¬x.I b∧x.w.heap[b]? =some (oy b u w ct.tB)∧jM ct.tU x.w w t∧
   (w.ownBlock=none∧dP m l=m∨∃l2 g t2,w=.slice (some ⟨g,0,none⟩) t.length t2∧x.β l2=some (g,0,t2)∧¬x.I g∧look m l2=some (.row t)∧l2≠l∧dP m l=cd m l2):=by
 cases hv with
 |ptr _ _ _ _ b base tot at_ hβ hat=>
  rcases hb with⟨u,h1,rfl⟩|⟨l2,u,h1,h2⟩
  ·obtain⟨o1,rfl,w,o2,_,rfl⟩:=hs.own l _ b base tot h1 hβ;simp only[Nat.zero_mul,Nat.add_zero]at hat;subst hat;exact⟨b,tot,u,_,rfl,hβ,o1,o2,.inl ⟨rfl,rfl⟩,.inl ⟨rfl,by simp only[dP,h1]⟩⟩
  ·obtain⟨o1,rfl,w,o2,g,t2,rfl,o3,o4⟩:=hs.own l _ b base tot h1 hβ;simp only[Nat.zero_mul,Nat.add_zero]at hat;subst hat;obtain⟨p1,_,c,p2,p3,p4,p5,p6⟩:=hs.own l2 _ g 0 t2 h2 o4;have hne:l2≠l:=by rintro rfl;rw[h1]at h2;cases h2
   exact⟨b,tot,u,_,rfl,hβ,o1,o2,.inr ⟨g,t2,c,rfl,p2,p3,p4,p5,p6⟩,.inr ⟨l2,g,t2,rfl,o4,p1,h2,hne,by simp only[dP,h1]⟩⟩
def wE {st:St}{l:Nat}{t s:List UInt8}{b tot:Nat}{w:Value}{w':World}(hs:dK ν x (look st.m))(hf:dI st x)(hlive:look st.m l≠none)(hl:l<st.nx)
  (hβ:x.β l=some (b,0,tot)) (hI:¬x.I b)
  (hrow:w.ownBlock=none∧dP st.m l=st.m∨∃l2 g t2,w=.slice (some ⟨g,0,none⟩) t.length t2∧x.β l2=some (g,0,t2)∧¬x.I g∧look st.m l2=some (.row t)∧l2≠l∧dP st.m l=cd st.m l2)
  (hw:yg ct.tB ct.tU b w.ownBlock s x.w w'):
  ∃x':X,x'.w=w'∧Step x x'∧dK ν x' (look (nj st.m l st.nx s))∧dI ⟨st.nx+1,nj st.m l st.nx s⟩ x':=by
 obtain⟨g',t',h1,h2,h3,h4,h5,k1,k2,k3,k4,k5⟩:=hw;have hn:=hf.β st.nx (Nat.le_refl _)

 have hg:∀g,w.ownBlock=some g→∃l2 t2,x.β l2=some (g,0,t2)∧¬x.I g∧look st.m l2=some (.row t)∧l2≠l∧dP st.m l=cd st.m l2:=by
  intro g hg;rcases hrow with⟨h,_⟩|⟨l2,g0,t2,rfl,q⟩
  ·rw[h]at hg;cases hg
  ·obtain rfl:=Option.some.inj hg;exact⟨l2,t2,q⟩
 have hlook:∀l' blk,l'≠l→look (dP st.m l) l'=some blk→look st.m l'=some blk∧∀g,w.ownBlock=some g→∀p,x.β l'=some p→p.1≠g:=by
  intro l' blk hl' hk;rcases hrow with⟨h,e⟩|⟨l2,g0,t2,rfl,q1,q2,q3,q4,e⟩
  ·rw[e]at hk;exact⟨hk,fun g hg=>by rw[h]at hg;cases hg⟩
  ·rw[e,eu]at hk;split at hk
   ·cases hk
   ·rename_i hne;refine⟨hk,fun g hg p hp e=>?_⟩;obtain rfl:=Option.some.inj hg;obtain⟨b',base',tot'⟩:=p;simp only at e;subst e;exact hne (hs.inj l' l2 _ _ _ _ _ (by rw[hk];simp) (by rw[q3];simp) hp q1)
 have hbg:∀l' p,x.β l'=some p→p.1<x.w.heap.size:=fun l' ⟨b',base',tot'⟩ hp=>hs.de l' b' base' tot' hp
 have hkeep:∀k,k<x.w.heap.size→k≠b→some k≠w.ownBlock→w'.heap[k]? =x.w.heap[k]? :=k5
 let x':X:=⟨w',x.I,cV x.β st.nx (g',0,t')⟩
 have hst:Step x x':=by
  refine⟨k1,k2,k3,k4,fun _ h=>h,fun k hk=>hkeep k (hs.imm k hk) (fun e=>hI (e▸hk)) (fun e=>?_),fun l' p hp=>?_,fun k hk hn'=>hkeep k hk (fun e=>hn' l _ hβ e.symm) (fun e=>?_),fun _ h=>.inl h,fun l' p hp=>?_⟩
  ·obtain⟨l2,t2,q1,q2,_⟩:=hg k e.symm;exact q2 hk
  ·have:l'≠st.nx:=fun e=>by rw[e,hn]at hp;cases hp
   simp[x',cV,this,hp]
  ·obtain⟨l2,t2,q1,_⟩:=hg k e.symm;exact hn' l2 _ q1 rfl
  ·by_cases e1:l'=st.nx
   ·simp only[x',cV,e1,if_true,Option.some.injEq]at hp;subst hp;rcases h3 with h3|h3
    ·obtain⟨l2,t2,q1,_⟩:=hg g' h3;exact .inr (.inr ⟨l2,_,q1,rfl⟩)
    ·exact .inr (.inl h3)
   ·simp only[x',cV,e1,if_false]at hp;exact .inl hp
 have hle:=hst.le;have hlm:∀l',look (nj st.m l st.nx s) l'=if l'=st.nx then some (.row s)else if l'=l then some (.bld (some st.nx) s.length true)else look (dP st.m l) l':=by
  intro l';simp only[nj,look];by_cases e:l'=st.nx
  ·rw[if_pos e.symm,if_pos e]
  ·rw[if_neg (fun h=>e h.symm),if_neg e,bG]
 have hfr:∀l' p,l'≠st.nx→x.β l'=some p→l'≠l→look (dP st.m l) l'≠none→p.1≠g':=by
  intro l' p hl' hp hne hk e;cases hq:look (dP st.m l) l' with
  |none=>exact hk hq
  |some blk=>
   rcases h3 with h3|h3
   ·exact(hlook l' blk hne hq).2 g' h3 p hp e
   ·have:=hbg l' p hp;omega
 refine⟨x',rfl,hst,⟨fun l' blk b' base' tot' e1 e2=>?_,fun l1 l2 b' base1 tot1 base2 tot2 e1 e2 e3 e4=>?_,fun k hk=>Nat.lt_of_lt_of_le (hs.imm k hk) k4,fun l' b' base' tot' e=>?_,nA hle hs.gd⟩,⟨fun l' hl'=>?_,fun l' hl'=>?_⟩⟩
 ·rw[hlm]at e1;by_cases c1:l'=st.nx
  ·rw[if_pos c1]at e1;simp only[x',cV,if_pos c1,Option.some.injEq,Prod.mk.injEq]at e2;obtain⟨rfl,rfl,rfl⟩:=e2;obtain rfl:=Option.some.inj e1;refine⟨fun h=>?_,rfl, ?_⟩
   ·rcases h3 with h3|h3
    ·obtain⟨l2,t2,_,q2,_⟩:=hg g' h3;exact q2 h
    ·have:=hs.imm g' h;omega
   ·rcases h2 with⟨h2,_⟩|⟨g2,t2,c,h2,r⟩
    ·cases h2
    ·simp only[Value.slice.injEq,Option.some.injEq,Addr.mk.injEq]at h2;obtain⟨⟨rfl,_⟩,_,rfl⟩:=h2;exact⟨c,r⟩
  ·rw[if_neg c1]at e1;simp only[x',cV,if_neg c1]at e2;by_cases c2:l'=l
   ·subst c2;rw[if_pos rfl]at e1;rw[hβ]at e2;simp only[Option.some.injEq,Prod.mk.injEq]at e2;obtain⟨rfl,rfl,rfl⟩:=e2;obtain rfl:=Option.some.inj e1;refine⟨hI,rfl,_,h1,g',t',rfl, ?_,by simp[x',cV]⟩;rcases h2 with⟨h2,_⟩|⟨g2,t2,c,h2,_,_,_,r,_⟩
    ·cases h2
    ·simp only[Value.slice.injEq]at h2;obtain⟨_,_,rfl⟩:=h2;exact r
   ·rw[if_neg c2]at e1;obtain⟨q1,q2⟩:=hlook l' blk c2 e1;obtain⟨o1,o2⟩:=hs.own l' blk b' base' tot' q1 e2;refine⟨o1,o2.mono hle (hkeep b' (hs.de _ _ _ _ e2) (fun e=>?_) (fun e=>q2 b' e.symm _ e2 rfl))⟩;subst e;exact c2 (hs.inj l' l _ _ _ _ _ (by rw[q1];simp) hlive e2 hβ)
 ·rw[hlm]at e1 e2;by_cases c1:l1=st.nx
  ·by_cases c2:l2=st.nx
   ·rw[c1,c2]
   ·exfalso;rw[if_neg c2]at e2;simp only[x',cV,if_pos c1,Option.some.injEq,Prod.mk.injEq]at e3;simp only[x',cV,if_neg c2]at e4;obtain⟨rfl,_⟩:=e3;by_cases c3:l2=l
    ·subst c3;rw[hβ]at e4;simp only[Option.some.injEq,Prod.mk.injEq]at e4;exact h5 e4.1.symm
    ·rw[if_neg c3]at e2;exact hfr l2 _ c2 e4 c3 e2 rfl
  ·rw[if_neg c1]at e1;simp only[x',cV,if_neg c1]at e3;by_cases c2:l2=st.nx
   ·exfalso;simp only[x',cV,if_pos c2,Option.some.injEq,Prod.mk.injEq]at e4;obtain⟨rfl,_⟩:=e4;by_cases c3:l1=l
    ·subst c3;rw[hβ]at e3;simp only[Option.some.injEq,Prod.mk.injEq]at e3;exact h5 e3.1.symm
    ·rw[if_neg c3]at e1;exact hfr l1 _ c1 e3 c3 e1 rfl
   ·rw[if_neg c2]at e2;simp only[x',cV,if_neg c2]at e4;have live:∀l',(if l'=l then some (bj.bld (some st.nx) s.length true)else look (dP st.m l) l')≠none→look st.m l'≠none:=by
     intro l' h;by_cases c:l'=l
     ·rw[c];exact hlive
     ·rw[if_neg c]at h;cases hq:look (dP st.m l) l' with
      |none=>exact absurd hq h
      |some blk=>rw[(hlook l' blk c hq).1];simp
    exact hs.inj l1 l2 b' base1 tot1 base2 tot2 (live l1 e1) (live l2 e2) e3 e4
 ·by_cases c1:l'=st.nx
  ·simp only[x',cV,if_pos c1,Option.some.injEq,Prod.mk.injEq]at e;obtain⟨rfl,_⟩:=e;exact h4
  ·simp only[x',cV,if_neg c1]at e;exact Nat.lt_of_lt_of_le (hs.de _ _ _ _ e) k4
 ·have hl':st.nx+1≤l':=hl';simp only[x',cV,if_neg (show ¬l'=st.nx by omega)];exact hf.β l' (by omega)
 ·show l'<st.nx+1;simp only[hlm]at hl';by_cases c1:l'=st.nx
  ·omega
  ·rw[if_neg c1]at hl';by_cases c2:l'=l
   ·omega
   ·rw[if_neg c2]at hl';cases hq:look (dP st.m l) l' with
    |none=>exact absurd hq hl'
    |some blk=>have:=hf.m l' (by rw[(hlook l' blk c2 hq).1];simp);omega
def oH.live {m:List (Nat×bj)}{l:Nat}{t:List UInt8}(h:oH m l t):look m l≠none:=by
 rcases h with⟨u,h,_⟩|⟨l2,u,h,_⟩<;>rw[h]<;>simp
variable {ρ:Ren}
def Ey {args:Array Value}(h:args.size=2):args=#[args.getD 0 undef,args.getD 1 undef]:=by
 apply Array.ext
 ·simpa using h
 ·intro i h1 h2
  match i,h1 with
  |0,h1=>simp[Array.getD,h1]
  |1,h1=>simp[Array.getD,h1]
  |i+2,h1=>omega
def JR {args:Array Value}(h:args.size=1):args=#[args.getD 0 undef]:=by
 apply Array.ext
 ·simpa using h
 ·intro i h1 h2
  match i,h1 with
  |0,h1=>simp[Array.getD,h1]
  |i+1,h1=>omega
def Hq (hB:ct.tB=ρ.t 72)(hU:ct.tU=ρ.t 5)(L:Lays.n166 P ρ)(X':Builder.Extra P ρ)(hen:∀args w,(callFunc (ρ.f 166) args).run P w=.ok (.enter (ρ.f 166) args) w):Et P ν Γ bT Oi (ρ.f 166):=by
 rintro ds st K ⟨s,l,t,rfl,hb,hl,h0,hle,hK⟩ hok x args hl2 hargs hs hf;obtain⟨b,tot,u,w,e0,hβ,hI,hh,hv,hrow⟩:=Ao hs hb (hargs 0 (by simp));have h1:=hargs 1 (by simp);simp only[List.getD_cons_succ,List.getD_cons_zero]at h1;obtain⟨e1,hm⟩:=h1.gE;rw[hB]at hh;rw[hU]at hv;refine .inr ⟨ρ.f 166,args,hen args x.w, ?_⟩;rw[Ey (args:=args) (by simpa using hl2),e0,e1];refine(rT L X' hh hv h0 hm hle).mono ?_;rintro e w' ⟨⟨r,rfl⟩,hw⟩;rw[←hB,←hU]at hw;obtain⟨x',q1,q2,q3,q4⟩:=wE hs hf hb.live hl hβ hI hrow hw;exact⟨x',q1,.any,_,hK,q2,.any _,q3,q4⟩
def Hp (hB:ct.tB=ρ.t 72)(hU:ct.tU=ρ.t 5)(L:Lays.n167 P ρ)(X':Builder.Extra P ρ)(hen:∀args w,(callFunc (ρ.f 167) args).run P w=.ok (.enter (ρ.f 167) args) w):Et P ν Γ bT Oh (ρ.f 167):=by
 rintro ds st K ⟨c,l,t,rfl,hb,hl,h0,hle,hK⟩ hok x args hl2 hargs hs hf;obtain⟨b,tot,u,w,e0,hβ,hI,hh,hv,hrow⟩:=Ao hs hb (hargs 0 (by simp));have h1:=hargs 1 (by simp);simp only[List.getD_cons_succ,List.getD_cons_zero]at h1;have e1:=h1.cJ;rw[hB]at hh;rw[hU]at hv;refine .inr ⟨ρ.f 167,args,hen args x.w, ?_⟩;rw[Ey (args:=args) (by simpa using hl2),e0,e1];refine(uO L X' hh hv hle).mono ?_;rintro e w' ⟨⟨r,rfl⟩,hw⟩;rw[←hB,←hU]at hw;obtain⟨x',q1,q2,q3,q4⟩:=wE hs hf hb.live hl hβ hI hrow hw;exact⟨x',q1,.any,_,hK,q2,.any _,q3,q4⟩
def Ho (hB:ct.tB=ρ.t 72)(hU:ct.tU=ρ.t 5)(L:Lays.n169 P ρ)(X':Builder.Extra P ρ)(hen:∀args w,(callFunc (ρ.f 169) args).run P w=.ok (.enter (ρ.f 169) args) w):Et P ν Γ bT Og (ρ.f 169):=by
 rintro ds st K ⟨l,t,rfl,hb,h0,hK⟩ hok x args hl2 hargs hs hf;obtain⟨b,tot,u,w,e0,hβ,hI,hh,hv,hrow⟩:=Ao hs hb (hargs 0 (by simp));rcases hrow with⟨hn,_⟩|⟨l2,g,t2,rfl,q1,q2,q3,q4,q5⟩
 ·exfalso;rcases hv with⟨_,h⟩|⟨g,t',c,rfl,_⟩
  ·exact h0 h
  ·cases hn
 rw[hB]at hh;rw[hU]at hv;have htm:t.length≤maxLen:=by
  rcases hv with⟨_,rfl⟩|⟨g',t',c,h1,_,_,h4,h5,_⟩
  ·exact absurd rfl h0
  ·omega
 refine .inr ⟨ρ.f 169,args,hen args x.w, ?_⟩;rw[JR (args:=args) (by simpa using hl2),e0];refine(Ap L X' hh hv h0).mono ?_;rintro e w' ⟨rfl,k1,k2,k3,k4,k5⟩;have hkeep:∀k,(∀l' p,look (cd (dP st.m l) l) l'≠none→x.β l'=some p→p.1=k→False)→True:=fun _ _=>trivial
 have hst:Step x ⟨w',x.I,x.β⟩:=⟨k1,k2,k3,Nat.le_of_eq k4.symm,fun _ h=>h,fun k hk=>k5 k (fun e=>q2 (e▸hk)),fun _ _ h=>h,fun k hk hn=>k5 k (fun e=>hn l2 _ q1 e.symm),fun _ h=>.inl h,fun _ _ h=>.inl h⟩;have hlm:∀l',look (cd (dP st.m l) l) l'=if l'=l then none else if l'=l2 then none else look st.m l':=fun l'=>by rw[eu,q5,eu]
 refine⟨⟨w',x.I,x.β⟩,rfl,.str t,_,hK,hst,.str t htm,⟨fun l' blk b' base' tot' e1 e2=>?_,fun l1 l3 b' base1 tot1 base2 tot2 e1 e2 e3 e4=>?_,fun k hk=>by show k<w'.heap.size;rw[k4];exact hs.imm k hk,fun l' b' base' tot' e=>by show b'<w'.heap.size;rw[k4];exact hs.de _ _ _ _ e,nA hst.le hs.gd⟩,⟨hf.β,fun l' hl'=>?_⟩⟩
 ·rw[hlm]at e1;split at e1
  ·cases e1
  split at e1
  ·cases e1
  rename_i c1 c2;obtain⟨o1,o2⟩:=hs.own l' blk b' base' tot' e1 e2;refine⟨o1,o2.mono hst.le (k5 b' (fun e=>c2 ?_))⟩;subst e;exact hs.inj l' l2 _ _ _ _ _ (by rw[e1];simp) (by rw[q3];simp) e2 q1
 ·have live:∀l',look (cd (dP st.m l) l) l'≠none→look st.m l'≠none:=by
   intro l' h;rw[hlm]at h;split at h
   ·exact absurd rfl h
   split at h
   ·exact absurd rfl h
   ·exact h
  exact hs.inj l1 l3 b' base1 tot1 base2 tot2 (live l1 e1) (live l3 e2) e3 e4
 ·simp only[hlm]at hl';split at hl'
  ·exact absurd rfl hl'
  split at hl'
  ·exact absurd rfl hl'
  ·exact hf.m l' hl'
end
end Go.Abs
end
