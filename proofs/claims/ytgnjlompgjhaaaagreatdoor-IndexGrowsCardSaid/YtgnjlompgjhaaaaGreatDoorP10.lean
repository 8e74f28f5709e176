/- A part of the proofs. -/
import Derived.KernelRfl
import Derived.Shelf.Strings.Builder2
import Derived.Test.YtgnjlompgjhaaaaGreatDoorProg
import Derived.Test.YtgnjlompgjhaaaaGreatDoorP09
set_option linter.all false
set_option maxRecDepth 4000
namespace Go.Abs
variable {Y:Ctx}(hm:(Y.at 0).bU)
def Mp:aD:=⟨2,5,[⟨2,none⟩],bR,(sq (rg [gb 5 s0,gb 5 s1,gm dJ] [(3,0),(4,1),(2,2)]) (sq (r1 [gk 5 true s3,gx 209 [l0] zZ,gm l1,bT 2 (.ld 5 true s4),bT 2 (.call 209 [l3] zZ),ei l2 l4,gm l5,bT 6 (.ld 5 true s3),bT 6 (.ld 5 true s4),bT 6 (.call 295 [l7,l8] [[.a,.a,.a,.a,.a],[.a,.a,.a,.a,.a]]),bT 6 (cB l9 bm),ei l6 l10,gm gF] 2 12) .ret))⟩
def w701 {Y:Ctx}(hm:(Y.at 0).bU)(h209:Kq Y)(h295:Wg Y)(a:c9)(b:c9)  (hp0:a.sm/\b.sm):cZ Y Mp (.bool (Cn a b)) [c9.D a,c9.D b]:=by
 show bB _ _ _ [⟨_,_⟩,⟨_,_⟩,_,_,_] _;refine ak ?_;refine aH ?_;refine aj (hc:=h209 a hp0.1) ?_;refine ay ?_;refine df (hc:=fun hf=>h209 b hp0.2) ?_;refine aF ?_;refine df (hc:=fun hf=>h295 a b hp0) ?_;refine aJ ?_;exact bQ rfl
def xM (T:List D->D->Prop):Prop:=∀(a:c9) (b:c9),(a.sm/\b.sm)->T [c9.D a,c9.D b] (.bool (Cn a b))
def Xa (Y:Ctx):Prop:=xM (bq Y 701)
def Ai:aD:=⟨3,5,[⟨3,none⟩],bR,(sq (rg [gb 11 s0,gm dJ] [(4,0),(3,1)]) (sq (r1 [gf 0 s4,gf 0 l0,gd l1,gd s1,aL l2 l3,gm l4,m4 5 0 s4,m4 5 1 l6,bT 5 (.ld 5 true l7),bT 5 (.ld 5 true s2),bT 5 (.call 701 [l8,l9] [[.a,.a,.a,.a,.a],[.a,.a,.a,.a,.a]]),ei l5 l10,gm gF] 3 12) .ret))⟩
def w700 {Y:Ctx}(hm:(Y.at 0).bU)(h701:Xa Y)(x:dm)(nm:au)(v:c9)  (hp0:x.r.v.sm/\v.sm):cZ Y Ai (.bool (DV nm v x)) [dm.D x,.ref 1 [.str nm] 0 0,.ref 5 [c9.D v] 0 0]:=by
 show bB _ _ _ [⟨_,_⟩,⟨_,_⟩,⟨_,_⟩,_,_] _;refine ak ?_;refine aH ?_;refine bD (v:=.str x.r.name) ?_;refine fe (v:=.str nm) ?_;refine aF ?_;refine bD (v:=c9.D x.r.v) ?_;refine fe (v:=c9.D v) ?_;refine df (hc:=fun hf=>h701 x.r.v v hp0) ?_;refine aF ?_;exact bQ rfl
def J9 (T:List D->D->Prop):Prop:=∀(x:dm) (nm:au) (v:c9),(x.r.v.sm/\v.sm)->T [dm.D x,.ref 1 [.str nm] 0 0,.ref 5 [c9.D v] 0 0] (.bool (DV nm v x))
def W9 (Y:Ctx):Prop:=J9 (bq Y 700)
def pf:aD:=⟨2,8,[⟨2,none⟩],bR,(sq (r1 [gm bm] 2 0) (sq (sq (rg [gm s0,gl l0,gm bm] [(4,1),(3,2)]) (.block 0 (.loop (sq (r1 [aP s3 s4] 5 0) (sq (eO s5 0) (sq (.block 1 (sq (r1 [gm s3,gm l0] 6 1) (sq (r1 [gm s1,gm s0,gm s6,ga 11 l1 l2,gk 11 true l3,gn (.callv l0 [l4] [[.a,.a,.a,.a,.a,.a,.sl 3 [.sl 4 [.a,.a,.sl 1 [.a],.a],.a,.a],.sl 3 [.a,.a,.a],.sl 2 [.a,.sl 1 [.a]],.a,.a]])] 7 5) (.cond s7 (sq (r1 [gm s6,gm l0] 2 1) .ret) .skip)))) (r1 [av s3 b7,gm l0] 3 1))))))) (sq (r1 [gn (.mv (.c (.int .i64 (-1))))] 2 0) .ret)))⟩
def w699 (h700:W9 Y)(l:List dm)(nm:au)(v:c9)  (hp0:(∀x∈l,x.r.v.sm)/\v.sm):cZ Y pf (.int .i64 (qn l nm v 0)) [.sl 11 (l.map dm.D),.fn 700 [.ref 1 [.str nm] 0 0,.ref 5 [c9.D v] 0 0]]:=by
 show bB _ _ _ [⟨_,_⟩,⟨_,_⟩,_,_,_,_,_,_] _;refine ak ?_;refine aH ?_;intro u0;refine ay ?_;refine bc hm (ι:=Nat) (fun i=>[⟨true,.sl 11 (l.map dm.D)⟩,⟨true,.fn 700 [.ref 1 [.str nm] 0 0,.ref 5 [c9.D v] 0 0]⟩,.un,⟨true,.int .i64 (i:Nat)⟩,⟨true,.int .i64 (l.length:Nat)⟩,.un,.un,.un]) (fun i=>[]) 4 (fun i=>i<=l.length/\qn l nm v 0=qn l nm v i) (fun i=>l.length-i) 0 ⟨ae,rfl⟩ (dF []) ?_;rintro i ⟨hi,hr⟩;refine aB ?_;refine cC (fun hc0=>?_) fun hc0=>?_
 .refine fW ?_;first|refine cE (v:=(dm.D _)) ?_|refine fe (v:=(dm.D _)) ?_
  refine RU (hc:=fun _=>h700 l[i]! nm v ⟨hp0.1 _ (bw ae),hp0.2⟩) ?_;refine aE ?_;refine eV (fun hc1=>?_) fun hc1=>?_
  .refine aW ?_;refine cN ?_;rw[hr,Pa ae hc1]
  refine aW ?_;exact⟨i+1,⟨ae,by rw[hr,Pc ae hc1]⟩,ae,(dF [])⟩
 refine aH ?_;refine cN ?_;rw[hr,Iy ae]
def J8 (T:List D->D->Prop):Prop:=∀(l:List dm) (nm:au) (v:c9),((∀x∈l,x.r.v.sm)/\v.sm)->T [.sl 11 (l.map dm.D),.fn 700 [.ref 1 [.str nm] 0 0,.ref 5 [c9.D v] 0 0]] (.int .i64 (qn l nm v 0))
def W8 (Y:Ctx):Prop:=J8 (bq Y 699)
def EY:aD:=⟨3,6,[⟨3,none⟩],bR,(sq (rg [gb 1 s1,gb 5 s2,gm bm] [(4,0),(5,1),(3,2)]) (sq (r1 [gm s0,gn (.mkf 700 [s4,s5]),gx 699 [l0,l1] [[.sl 11 [.a,.a,.a,.a,.a,.a,.sl 3 [.sl 4 [.a,.a,.sl 1 [.a],.a],.a,.a],.sl 3 [.a,.a,.a],.sl 2 [.a,.sl 1 [.a]],.a,.a]],[.a]],gm l2] 3 3) .ret))⟩
def w511 {Y:Ctx}(hm:(Y.at 0).bU)(h699:W8 Y)(l:List dm)(nm:au)(v:c9)  (hp0:(∀x∈l,x.r.v.sm)/\v.sm):cZ Y EY (.int .i64 (qn l nm v 0)) [.sl 11 (l.map dm.D),.str nm,c9.D v]:=by
 show bB _ _ _ [⟨_,_⟩,⟨_,_⟩,⟨_,_⟩,_,_,_] _;refine ak ?_;refine aF ?_;refine fV 0 ?_;refine fV 1 ?_;refine ay ?_;refine Zn [.ref 1 [.str nm] 0 0,.ref 5 [c9.D v] 0 0] ?_;refine aj (hc:=h699 l nm v hp0) ?_;refine aB ?_;exact cN rfl
def xw (T:List D->D->Prop):Prop:=∀(l:List dm) (nm:au) (v:c9),((∀x∈l,x.r.v.sm)/\v.sm)->T [.sl 11 (l.map dm.D),.str nm,c9.D v] (.int .i64 (qn l nm v 0))
def Ty (Y:Ctx):Prop:=xw (bq Y 511)
def Mn:aD:=⟨1,13,fY,bR,(sq (rg [gb 2 s0,gm dJ] [(2,0),(1,1)]) (sq (sq (r1 [gf 0 s2,gd l0,gx 208 [l1] bR,kD l2,gm l3,jQ 4 1 s2,lN 4 l5,cF 4 (.len l6),cF 4 (dY l7 (i6 64)),fC l4 l8] 3 9) (lM s3 dJ)) (sq (sq (rg [gf 1 s2,gd l0,gl l1,gm bm] [(7,1),(5,2),(4,3)]) (.block 0 (.loop (sq (r1 [aP s4 s5] 6 0) (sq (eO s6 0) (sq (.block 1 (sq (rg [gm s4,ga 11 s7 s4,gk 11 true l1,gb 11 (.c (.agg [.str [],.int .i64 0,.int .i64 0,.int .i64 0,.str [],.str [],.aA,.aA,.aA,.int .u64 0,.bool false])),gm l0,gt 11 l3 l2] [(8,3),(11,4)]) (sq (rg [gf 0 s8,gk 9 true l0,gx 74 [l1] [[.a,.a,.a,.a,.a,.a,.sl 3 [.sl 4 [.a,.a,.sl 1 [.a],.a],.a,.a],.sl 3 [.a,.a,.a],.sl 2 [.a,.sl 1 [.a]]]],gm l2,ge l3 0,ge l3 1,gm l4,gm l5] [(10,6),(9,7)]) (sq (r2 [gm s9,cj l0 bm,gm l1,eW 2 iQ,jQ 2 9 s8,lN 2 l4,cF 2 (fo l3 l5),fC l2 l6,gm l7,jQ 8 1 s2,lN 8 l9,eW 8 kH,eW 8 kH,cF 8 (.slX 11 l10 gF iU),jQ 8 0 s8,jQ 8 0 kE,lN 8 me,jQ 8 0 s8,jQ 8 1 rF,cF 8 (.ld 5 true sY),cF 8 (.call 511 [jR,nC,uc] [[.sl 11 [.a,.a,.a,.a,.a,.a,.sl 3 [.sl 4 [.a,.a,.sl 1 [.a],.a],.a,.a],.sl 3 [.a,.a,.a],.sl 2 [.a,.sl 1 [.a]],.a,.a]],[.a],[.a,.a,.a,.a,.a]]),cF 8 (rS zO bm),fC l8 AV] 12 22) (lM mS dJ))))) (r1 [av s4 b7,gm l0] 4 1))))))) (wV rV))))⟩
def w353 (h74:C74 Y)(h208:Ko Y)(h511:Ty Y)(s:fm)  (hp0:∀x∈s.es,ew x.r):cZ Y Mn (.bool (iR s)) [fm.D s]:=by
 show bB _ _ _ [⟨_,_⟩,_,_,_,_,_,_,_,_,_,_,_,_] _;refine ak ?_;refine aH ?_;refine bD (v:=.str s.name) ?_;refine aj (hc:=h208 _) ?_;refine aB ?_;refine bD (v:=.sl 11 (s.es.map dm.D)) ?_;refine lL ?_;refine aB ?_;refine aw (fun hc0=>?_) (fun hc0=>?_)
 .simp only[c8,bK,aY]at hc0;have hf:iR s=false:=by
   unfold iR;rcases hc0 with h|h
   .rw[h];rfl
   .rw[show decide (s.es.length<=64)=false from dr ae];simp
  refine aJ ?_;refine bQ ?_;exact hf.symm
 simp only[dR,ct,bA]at hc0;have hq:iR s=cI (nQ s.es) 0 s.es.length:=by unfold iR;rw[hc0.1,cv (show s.es.length<=64 by omega)];simp
 refine aF ?_;refine bD (v:=.sl 11 (s.es.map dm.D)) ?_;refine aE ?_;intro u0;refine ay ?_;refine bc hm (ι:=Nat) (fun i=>[.un,.un,⟨true,.ptr 0 2 0 0⟩,.un,⟨true,.int .i64 (i:Nat)⟩,⟨true,.int .i64 (s.es.length:Nat)⟩,.un,⟨true,.sl 11 (s.es.map dm.D)⟩,.un,.un,.un,.un,.un]) (fun i=>[(0,.buf 2 [fm.D s])]) 16 (fun i=>i<=s.es.length/\iR s=cI (nQ s.es) i s.es.length) (fun i=>s.es.length-i) 0 ⟨ae,hq⟩ (dF [(0,0)]) ?_;rintro i ⟨hi,hr⟩;refine aB ?_;refine cC (fun hc1=>?_) fun hc1=>?_
 .refine aB ?_;have hsm:=hp0 _ (bw (show i<s.es.length by omega));refine aE ?_;refine cM i ?_;refine cE (v:=dm.D s.es[i]!) ?_;refine ay ?_;refine a7 (dm.D s.es[i]!) (he:=bg) ?_;refine aB ?_;refine bD (v:=Rec.D s.es[i]!.r) ?_;refine aj (hc:=h74 s.es[i]!.r hsm) ?_;refine gJ ?_;refine bD (v:=.int .u64 s.es[i]!.sum) ?_;refine aF ?_;refine bD (v:=.sl 11 (s.es.map dm.D)) ?_;refine ay ?_;refine Vw (q:=dm.D) i (hj:=fun _=>rfl) (hb:=fun _=>ae) ?_;refine ay ?_;refine bD (v:=.str s.es[i]!.r.name) ?_;refine ay ?_;refine bD (v:=c9.D s.es[i]!.r.v) ?_;refine df (hc:=fun hf=>h511 (s.es.take i) s.es[i]!.r.name s.es[i]!.r.v ⟨fun x hx=>(hp0 x (qP hx)).1.2,hsm.1.2⟩) ?_;refine aB ?_;refine wp_cond (fun hc2=>?_) (fun hc2=>?_)
  .have hen:nQ s.es i=false:=by
    unfold nQ;simp only[c8,bK,aY,bA]at hc2;simp only[dI,bA];rcases hc2 with(h|h)|h
    .exact .inl (.inl h)
    .exact .inl (.inr h)
    .exact .inr ae
   refine aH ?_;refine bQ ?_;rw[hr,aR ae,hen];rfl
  have hen:nQ s.es i=true:=by
   unfold nQ;simp only[dR,ct,aY,bA]at hc2;simp only[bp,aY];exact⟨hc2.1,ae⟩
  refine aW ?_;exact⟨i+1,⟨ae,by rw[hr,aR ae,hen];rfl⟩,ae,(dF [(0,0)])⟩
 refine aH ?_;refine bQ ?_;rw[hr,ch ae]
def xn (T:List D->D->Prop):Prop:=∀(s:fm),(∀x∈s.es,ew x.r)->T [fm.D s] (.bool (iR s))
def Tr (Y:Ctx):Prop:=xn (bq Y 353)
def sR:aD:=⟨2,3,[⟨2,none⟩],[[.sl 1 [.a]]],(sq (r1 [gm (.c (.aA))] 2 0) (sq (r1 [gm s0,gm s1,gm s1,px l2,gn (.call 331 [l0,l1,l3,(.c (.int .i64 (-1)))] hb4),gm l4] 2 5) .ret))⟩
def w239 {Y:Ctx}(hm:(Y.at 0).bU)(h331:Wi Y)(s:au)  (hp0:s.length<=1048576):cZ Y sR (.sl 1 ((iP s).map D.str)) [.str s,.str [10]]:=by
 show bB _ _ _ [⟨_,_⟩,⟨_,_⟩,_] _;refine ak ?_;refine aW ?_;intro u0;refine aj (hc:=h331 s hp0) ?_;refine aB ?_;refine bE (?_);rfl
def Jq (T:List D->D->Prop):Prop:=∀(s:au),(s.length<=1048576)->T [.str s,.str [10]] (.sl 1 ((iP s).map D.str))
def Wc (Y:Ctx):Prop:=Jq (bq Y 239)
def DS:aD:=⟨1,4,fY,[[.sl 1 [.a]]],(sq (r1 [gm (.c (.aA))] 1 0) (sq (r1 [gm s0,gx 239 [l0,(cs [10])] gA,gm l1] 2 2) (sq (sq (r1 [gm s2,gm s2,gl l1,ek l2 b7,ga 1 l0 l3,gd l4,aL l5 cse] 3 6) (.cond s3 (r1 [gm s2,gm s2,gl l1,ek l2 b7,gn (.slA 1 l0 none (some l3)),gm l4] 2 5) .skip)) (sq (r1 [gm s2,gm l0] 1 1) .ret))))⟩
def w252 {Y:Ctx}(hm:(Y.at 0).bU)(h239:Wc Y)(s:au)  (hp0:s.length<=1048576):cZ Y DS (.sl 1 ((eE s).map D.str)) [.str s]:=by
 show bB _ _ _ [⟨_,_⟩,_,_,_] _;have hpl:=O7 s;have hpz:eE s=if(iP s)[(iP s).length-1]! =[]then(iP s).take ((iP s).length-1)else iP s:=O8 s
 refine ak ?_;refine aF ?_;refine aj (hc:=h239 s hp0) ?_;refine aW ?_;intro u0;refine aE ?_;refine cM ((iP s).length-1) ?_;refine cE (v:=.str (iP s)[(iP s).length-1]!) ?_;refine ay ?_;refine cC (fun hc0=>?_) fun hc0=>?_
 .refine aF ?_;intro u1;refine aE ?_;refine tN ((iP s).length-1) ?_;refine aW ?_;refine bE (?_);rw[hpz,ax hc0];rfl
 refine aH ?_;refine bE (?_);rw[hpz,ai hc0];rfl
def Jv (T:List D->D->Prop):Prop:=∀(s:au),(s.length<=1048576)->T [.str s] (.sl 1 ((eE s).map D.str))
def We (Y:Ctx):Prop:=Jv (bq Y 252)
def DT:aD:=⟨1,3,[⟨1,none⟩,⟨2,none⟩],gA,(sq (rg [gm cse,gm dJ] [(1,0),(2,1)]) (sq (rg [gm s0,gx 244 [l0,(cs [10])] gA,ge l1 0,ge l1 1,gm l2,gm l3] [(1,4),(2,5)]) .ret))⟩
def w253 {Y:Ctx}(hm:(Y.at 0).bU)(h244:Wd Y)(s:au)  (hp0:s.length<=1048576):cZ Y DT (.tup [.str (bP s).1,.bool (bP s).2]) [.str s]:=by
 show bB _ _ _ [⟨_,_⟩,_,_] _;refine ak ?_;refine aJ ?_;refine aj (hc:=h244 s hp0) ?_;refine aH ?_;refine bE (aN (ar D.str ?_) (ar D.bool ?_));all_goals rfl
def Jw (T:List D->D->Prop):Prop:=∀(s:au),(s.length<=1048576)->T [.str s] (.tup [.str (bP s).1,.bool (bP s).2])
def Tp (Y:Ctx):Prop:=Jw (bq Y 253)
def DR:aD:=⟨1,9,[⟨1,none⟩,⟨2,none⟩,⟨3,none⟩],VT,(sq (rg [gm (iu 0),gm dJ,gm dJ] [(1,0),(2,1),(3,2)]) (sq (rg [gm s0,gx 253 [l0] bR,gm l1,ge l2 0,ge l2 1,gm l3,gm l4] [(4,5),(5,6)]) (sq (r1 [gm s4,gx 124 [l0,(cs [32])] gA,gm l1] 6 2) (sq (sq (r1 [gm s5,kD l0,gm l1,eW 2 s6,cF 2 (.len l3),cF 2 (fo l4 k9),fC l2 l5,gm l6,eW 7 s6,cF 7 (.ia 1 l8 bm),lN 7 l9,cF 7 (fo l10 (cs [101,110,116,114,121])),fC l7 gF,gm iU,eW 13 s6,cF 13 (.ia 1 kE lQ),lN 13 me,cF 13 (fo nC (cs [111,110])),eW 13 rF,gmt 18 s6,bT 18 (.ia 1 uc lQ),kZ 18 zO,bT 18 (fo AV (cs [111,102,102])),DK 13 sY Da,fC jR Gu] 7 24) (.cond s7 (sq (rg [gm (iu 0),gm dJ,gm dJ] [(1,0),(2,1),(3,2)]) .ret) .skip)) (sq (rg [gm s6,ga 1 l0 b7,gd l1,gx 499 [l2] bR,gm l3,ge l4 0,ge l4 1,gm l5,gm l6] [(8,7),(5,8)]) (sq (rt [gm s8,gm s6,ga 1 l1 lQ,gd l2,aL l3 (cs [111,102,102]),gm s5,gm l0,gm l4,gm l5] [(1,6),(2,7),(3,8)]) .ret))))))⟩
def w255 {Y:Ctx}(hm:(Y.at 0).bU)(h124:Qs Y)(h253:Tp Y)(h499:WN Y)(s:au)  (hp0:s.length<=1048576):cZ Y DR (.tup [.int .u64 (rC s).1,.bool (rC s).2.1,.bool (rC s).2.2]) [.str s]:=by
 show bB _ _ _ [⟨_,_⟩,_,_,_,_,_,_,_,_] _;refine ak ?_;refine aH ?_;refine aj (hc:=h253 s hp0) ?_;refine aW ?_;have hwl:=sU s;refine aE ?_;refine aj (v:=.sl 1 ((aq (bP s).1 32).map D.str)) (hc:=h124 (bP s).1 32 ae) ?_;refine bM ?_;refine lL ?_;refine aF ?_;refine cM 0 (hb:=fun hf=>by simp at hf;omega) ?_;refine cE (v:=.str (aq (bP s).1 32)[0]!) (hi:=fun hf=>by simp at hf;omega) ?_;refine aF ?_;refine cM 2 (hb:=fun hf=>by simp at hf;omega) ?_;refine cE (v:=.str (aq (bP s).1 32)[2]!) (hi:=fun hf=>by simp at hf;omega) ?_;refine aB ?_;refine cM 2 (hb:=fun hf=>by simp at hf;omega) ?_;refine cE (v:=.str (aq (bP s).1 32)[2]!) (hi:=fun hf=>by simp at hf;omega) ?_;refine aF ?_;refine aw (fun hc0=>?_) (fun hc0=>?_)
 .simp only[eh]at hc0;have hz:=UB hc0;refine aW ?_;refine bE (gW (ar (D.int .u64) ?_) (ar D.bool ?_) (ar D.bool ?_));all_goals
   rw[rC,ai hz];first|done|rfl
 simp only[eh]at hc0;obtain⟨hz,hl3⟩:=QY hc0;refine aB ?_;refine cM 1 (hb:=fun _=>ae) ?_;refine cE (v:=.str (aq (bP s).1 32)[1]!) (hi:=fun _=>ae) ?_;refine aj (hc:=h499 (aq (bP s).1 32)[1]!) ?_;refine cU ?_;refine cM 2 (hb:=fun _=>ae) ?_;refine cE (v:=.str (aq (bP s).1 32)[2]!) (hi:=fun _=>ae) ?_;refine aW ?_;refine bE (gW (ar (D.int .u64) ?_) (ar D.bool ?_) (ar D.bool ?_));all_goals
  rw[rC,ax hz];first|done|rfl
def Jy (T:List D->D->Prop):Prop:=∀(s:au),(s.length<=1048576)->T [.str s] (.tup [.int .u64 (rC s).1,.bool (rC s).2.1,.bool (rC s).2.2])
def Wf (Y:Ctx):Prop:=Jy (bq Y 255)
def DQ:aD:=⟨1,14,[⟨1,none⟩,⟨2,none⟩],gA,(sq (rg [gb 2 s0,gm cse,gm bm] [(3,0),(1,1),(2,2)]) (sq (sq (r1 [gk 2 true s3,gx 353 [l0] [[.a,.sl 11 [.a,.a,.a,.a,.a,.a,.sl 3 [.sl 4 [.a,.a,.a,.a],.a,.a],.sl 3 [.a,.a,.a],.sl 2 [.a,.sl 1 [.a]],.a,.a]]],kD l1] 4 2) (.cond s4 (sq (rg [gm cse,gm b7] [(1,0),(2,1)]) .ret) .skip)) (sq (r1 [⟨.mkB,none⟩] 5 0) (sq (rg [gf 0 s3,gd l0,av (cs [115,104,101,108,102,32]) l1,av l2 (cs [10]),gn (.callM 489 [s5,l3])] []) (sq (sq (rg [gf 1 s3,gd l0,gl l1,gm bm] [(9,1),(7,2),(6,3)]) (.block 0 (.loop (sq (r1 [aP s6 s7] 8 0) (sq (eO s8 0) (sq (.block 1 (sq (r1 [ga 11 s9 s6,gk 11 true l0,gb 11 (.c (.agg [.str [],.int .i64 0,.int .i64 0,.int .i64 0,.str [],.str [],.aA,.aA,.aA,.int .u64 0,.bool false])),gt 11 l2 l1] 10 2) (sq (r1 [gm (cs [32,111,110,10])] 12 0) (sq (sq (r1 [gf 10 iQ,gd l0] 11 1) (.cond kH (r1 [gm (cs [32,111,102,102,10])] 12 0) .skip)) (sq (r1 [gf 0 iQ,gk 9 true l0,gx 72 [l1] [[.a,.a,.a,.a,.a,.a,.sl 3 [.sl 4 [.a,.a,.sl 1 [.a],.a],.a,.a],.sl 3 [.a,.a,.a],.sl 2 [.a,.sl 1 [.a]]]],gm l2,ge l3 0,ge l3 1,gm l4,gm l5] 13 6) (rg [gf 9 iQ,gd l0,gx 497 [l1] bR,av (cs [101,110,116,114,121,32]) l2,gm mS,av l3 l4,gm rJ,av l5 l6,gn (.callM 489 [s5,l7])] [])))))) (r1 [av s6 b7,gm l0] 6 1))))))) (sq (rg [gn (.callM 452 [s5]),gm l0,gm bm] [(1,1),(2,2)]) .ret))))))⟩
def w251 (h72:C72 Y)(h353:Tr Y)(h452:Qv Y)(h489:Qz Y)(h497:WM Y)(s:fm)  (hp0:∀x∈s.es,ew x.r):cZ Y DQ (.tup [.str (gp s).1,.int .i64 (gp s).2]) [fm.D s]:=by
 show bB _ _ _ [⟨_,_⟩,_,_,_,_,_,_,_,_,_,_,_,_,_] _;refine ak ?_;refine aH ?_;refine cH (d:=fm.D s) ?_;refine aj (hc:=h353 s hp0) ?_;refine ay ?_;refine aw (fun hc0=>?_) (fun hc0=>?_)
 .simp only[bK]at hc0;refine aH ?_;refine bE (aN (ar D.str ?_) (ar (D.int .i64) ?_));all_goals
   have hps:gp s=([],1):=by unfold gp;rw[ax hc0]
   rw[hps];first|done|rfl
 simp only[ct]at hc0;obtain⟨q1,q2⟩:=IZ hc0;refine aH ?_;refine bD (v:=.str s.name) ?_;refine cP (hb:=fun _=>by simp only[az,aC];omega) ?_;refine fh ?_;refine b8 (nx':=8) (v:=.any) (m':=[(11,.row (ud s 0)),(0,.buf 2 [fm.D s]),(6,.bld (some 11) (ud s 0).length true)]) (hc:=fun K' hK=>h489 _ _ K' ⟨([115,104,101,108,102,32]++s.name)++[10],6,[],rfl,.inl ⟨false,bg,rfl⟩,by simp only[az,aC];omega,aQ,by simp only[bJ,az,aC];omega,by rw[show []++(([115,104,101,108,102,32]++s.name)++[10])=ud s 0 from by rw[S7];rfl];exact hK⟩) (hn:=aG) ?_;refine aF ?_;refine bD (v:=.sl 11 (s.es.map dm.D)) ?_;refine aE ?_;intro u0;refine ay ?_;refine bc hm (ι:=Nat) (fun i=>[.un,.un,.un,⟨true,.ptr 0 2 0 0⟩,.un,⟨true,.ptr 6 2 0 0⟩,⟨true,.int .i64 (i:Nat)⟩,⟨true,.int .i64 (s.es.length:Nat)⟩,.un,⟨true,.sl 11 (s.es.map dm.D)⟩,.un,.un,.un,.un]) (fun i=>[(0,.buf 2 [fm.D s]),(6,.bld (some 7) (ud s i).length true),(7,.row (ud s i))]) 20 (fun i=>i<=s.es.length) (fun i=>s.es.length-i) 0 ae (aU.to [(0,0),(6,6),(11,7)] ah ah dV (by refine bh.gE ah ah ah ?_;refine bh.bl 6 ah ah ah (ar List.length (rfl)) rfl ?_;refine bh.rw 11 ah ah (rfl) ?_;exact bh.nil)) ?_;intro i hi;have q3:=CT (s:=s) ae hi;refine aB ?_;refine cC (fun hc1=>?_) fun hc1=>?_
 .refine aB ?_;have hsm:=hp0 _ (bw (show i<s.es.length by omega));have q4:=zc s.es[i]!.r;have q5:=jF s.es[i]!.sum;have hxt:=Fb (show i<s.es.length by omega);have hee:=B0 s.es[i]!;refine cM i ?_;refine cE (v:=dm.D s.es[i]!) ?_;refine aE ?_;refine a7 (dm.D s.es[i]!) (he:=bg) ?_;refine aW ?_;refine bD (v:=.bool s.es[i]!.off) ?_;refine aE ?_;refine cC (fun hc2=>?_) fun hc2=>?_
  .refine aJ ?_;refine bD (v:=Rec.D s.es[i]!.r) ?_;refine aj (hc:=h72 s.es[i]!.r hsm) ?_;refine bM ?_;refine bD (v:=.int .u64 s.es[i]!.sum) ?_;refine aj (hc:=h497 _) ?_;refine fh ?_;refine aE ?_;refine fh ?_;refine aE ?_;refine fh ?_;refine b8 (nx':=38) (v:=.any) (m':=[(45,.row (ud s (i+1))),(0,.buf 2 [fm.D s]),(6,.bld (some 45) (ud s (i+1)).length true),(23,.buf 11 [dm.D s.es[i]!])]) (hc:=fun K' hK=>h489 _ _ K' ⟨(([101,110,116,114,121,32]++fU s.es[i]!.sum)++[32,111,102,102,10])++(cL s.es[i]!.r).1,6,ud s i,rfl,.inr ⟨7,true,bg,bg⟩,by simp only[az,aC];omega,aQ,by simp only[bJ,az,aC];omega,by rw[show ud s i++((([101,110,116,114,121,32]++fU s.es[i]!.sum)++[32,111,102,102,10])++(cL s.es[i]!.r).1)=ud s (i+1)from by rw[hxt,hee,hc2];rfl];exact hK⟩) (hn:=aG) ?_;refine aW ?_;exact⟨i+1,ae,ae,(aU.to [(0,0),(6,6),(45,7)] ah ah dV (by refine bh.gE ah ah ah ?_;refine bh.bl 6 ah ah ah (ar List.length (rfl)) rfl ?_;refine bh.rw 45 ah ah (rfl) ?_;exact bh.nil))⟩
  refine aB ?_;refine bD (v:=Rec.D s.es[i]!.r) ?_;refine aj (hc:=h72 s.es[i]!.r hsm) ?_;refine bM ?_;refine bD (v:=.int .u64 s.es[i]!.sum) ?_;refine aj (hc:=h497 _) ?_;refine fh ?_;refine aE ?_;refine fh ?_;refine aE ?_;refine fh ?_;refine b8 (nx':=37) (v:=.any) (m':=[(44,.row (ud s (i+1))),(0,.buf 2 [fm.D s]),(6,.bld (some 44) (ud s (i+1)).length true),(23,.buf 11 [dm.D s.es[i]!])]) (hc:=fun K' hK=>h489 _ _ K' ⟨(([101,110,116,114,121,32]++fU s.es[i]!.sum)++[32,111,110,10])++(cL s.es[i]!.r).1,6,ud s i,rfl,.inr ⟨7,true,bg,bg⟩,by simp only[az,aC];omega,aQ,by simp only[bJ,az,aC];omega,by rw[show ud s i++((([101,110,116,114,121,32]++fU s.es[i]!.sum)++[32,111,110,10])++(cL s.es[i]!.r).1)=ud s (i+1)from by rw[hxt,hee,hc2];rfl];exact hK⟩) (hn:=aG) ?_;refine aW ?_;exact⟨i+1,ae,ae,(aU.to [(0,0),(6,6),(44,7)] ah ah dV (by refine bh.gE ah ah ah ?_;refine bh.bl 6 ah ah ah (ar List.length (rfl)) rfl ?_;refine bh.rw 44 ah ah (rfl) ?_;exact bh.nil))⟩
 refine aB ?_;have h33:i=s.es.length:=ae;subst h33;have hne:ud s s.es.length≠[]:=by unfold ud bV;simp[aT,fg]
 have hps:gp s=(ud s s.es.length,0):=by unfold gp;rw[ai (by simp[hc0]),I6]
 refine b8 (nx':=21) (v:=.str (ud s s.es.length)) (m':=[(0,.buf 2 [fm.D s])]) (hc:=fun K' hK=>h452 _ _ K' ⟨6,ud s s.es.length,rfl,.inr ⟨7,true,bg,bg⟩,hne,hK⟩) (hn:=aG) ?_;refine aF ?_;refine bE (aN (ar D.str ?_) (ar (D.int .i64) ?_));all_goals
  rw[hps];first|done|rfl
def Ju (T:List D->D->Prop):Prop:=∀(s:fm),(∀x∈s.es,ew x.r)->T [fm.D s] (.tup [.str (gp s).1,.int .i64 (gp s).2])
def To (Y:Ctx):Prop:=Ju (bq Y 251)
def D1:aD:=⟨0,8,[⟨0,none⟩],bR,(sq (r1 [gm dJ] 0 0) (sq (rg [gn (.build [.str [],.aA] [(0,1,(cs [111,110,101]))]),gx 251 [l0] [[.a,.sl 11 [.a,.a,.a,.a,.a,.a,.sl 3 [.sl 4 [.a,.a,.a,.a],.a,.a],.sl 3 [.a,.a,.a],.sl 2 [.a,.sl 1 [.a]],.a,.a]]],gm l1,ge l2 0,ge l2 1,gm l3,gm l4] [(2,5),(1,6)]) (sq (rg [gx 86 [(cs [115,104,101,108,102,32,111,110,101,10])] bR,gm l0,ge l1 0,ge l1 1,ge l1 2,gb 2 (.c (.agg [.str [],.aA])),gt 2 l5 l2,gm l3,gm l4] [(5,5),(3,7),(4,8)]) (sq (rg [gx 86 [(cs [115,104,101,108,102,32,111,110,101,10,101,110,116,114,121,32,48,32,111,110,10])] bR,gm l0,ge l1 0,ge l1 1,ge l1 2,gb 2 (.c (.agg [.str [],.aA])),gt 2 l5 l2,gm l3,gm l4] [(6,7),(7,8)]) (sq (r1 [gm s1,aL l0 bm,gm l1,gmt 2 s2,bT 2 (cB l3 (cs [115,104,101,108,102,32,111,110,101,10])),ei l2 l4,gm l5,gmt 6 s3,bT 6 (cB l7 bm),ei l6 l8,gm l9,gmt 10 s4,bT 10 (cB gF bm),ei l10 iU,gm jR,m4 14 0 s5,kZ 14 me,bT 14 (cB nC (cs [111,110,101])),ei kE rF,gm sY,gmt 19 s6,bT 19 (cB zO lQ),ei uc AV,gm Da,gmt 23 s7,bT 23 (cB Ic lQ),ei Gu Lk,gm Om] 0 27) .ret)))))⟩
def w85 {Y:Ctx}(hm:(Y.at 0).bU)(h251:To Y)(h9086:Sv Y)    :cZ Y D1 (.bool true) []:=by
 show bB _ _ _ [_,_,_,_,_,_,_,_] _;refine ak ?_;refine aB ?_;refine bI (.agg [.str uT,.aA]) ?_;refine aj (v:=.tup [.str KE,.int .i64 0]) (hc:=by have:=h251 ⟨uT,[]⟩ aQ;rw[YU]at this;exact this) ?_;refine aW ?_;refine aj (v:=.tup [fm.D ⟨uT,[]⟩,.int .i64 0,.int .i64 0]) (hc:=by have:=h9086 KE aG Us;rw[YT]at this;exact this) ?_;refine aE ?_;refine kG (fm.D _) ?_;refine aB ?_;refine a7 (fm.D ⟨uT,[]⟩) (he:=bg) ?_;refine aF ?_;refine aj (v:=.tup [fm.D (nv FW).1,.int .i64 2,.int .i64 2]) (hc:=by have:=h9086 FW aG Ut;rw[ar Prod.fst SK,ar Prod.snd SK]at this;exact this) ?_;refine aE ?_;refine kG (fm.D _) ?_;refine aB ?_;refine a7 (fm.D (nv FW).1) (he:=bg) ?_;refine Td ?_;refine bD (v:=.str uT) ?_;refine nM ?_;refine bQ ?_;decide
def Qk (T:List D->D->Prop):Prop:=T [] (.bool true)
def C85 (Y:Ctx):Prop:=Qk (bq Y 85)
def Ma:aD:=⟨2,5,[⟨2,none⟩],bR,(sq (r1 [gm bm] 2 0) (sq (.block 0 (sq (r1 [gm s0,gm s1,aP l0 l1,gm l2] 3 3) (.cond s3 (sq (r1 [gn (.mv (.c (.int .i64 (-1))))] 2 0) .ret) (sq (r1 [gm s0,gm s1,cR l0 l1,gm l2] 4 3) (.cond s4 (sq (r1 [gm b7] 2 0) .ret) .skip))))) (sq (r1 [gm bm] 2 0) .ret)))⟩
def w630 {Y:Ctx}(hm:(Y.at 0).bU)  (a:Int)(b:Int)   :cZ Y Ma (.int .i64 (eG a b)) [.int .i64 a,.int .i64 b]:=by
 show bB _ _ _ [⟨_,_⟩,⟨_,_⟩,_,_,_] _;refine ak ?_;refine cU ?_;refine eV (fun hc0=>?_) fun hc0=>?_
 .refine aJ ?_;refine cN ?_;unfold eG;rw[ax hc0]
 refine aH ?_;refine eV (fun hc1=>?_) fun hc1=>?_
 .refine aJ ?_;refine cN ?_;unfold eG;rw[ai hc0,ax hc1]
 refine aH ?_;refine cN ?_;unfold eG;rw[ai hc0,ai hc1]
def QA (Y:Ctx):Prop:=xy (bq Y 630)
def Hd:aD:=⟨2,5,[⟨2,none⟩],bR,(sq (r1 [gm bm] 2 0) (sq (.block 0 (sq (r1 [gm s0,gm s1,aP l0 l1,gm l2] 3 3) (.cond s3 (sq (r1 [gn (.mv (.c (.int .i64 (-1))))] 2 0) .ret) (sq (r1 [gm s0,gm s1,cR l0 l1,gm l2] 4 3) (.cond s4 (sq (r1 [gm b7] 2 0) .ret) .skip))))) (sq (r1 [gm bm] 2 0) .ret)))⟩
def w927 {Y:Ctx}(hm:(Y.at 0).bU)  (a:au)(b:au)   :cZ Y Hd (.int .i64 (zS a b)) [.str a,.str b]:=by
 show bB _ _ _ [⟨_,_⟩,⟨_,_⟩,_,_,_] _;refine ak ?_;refine cU ?_;refine eV (fun hc0=>?_) fun hc0=>?_
 .refine aJ ?_;refine cN ?_;simp[zS,hc0]
 refine aH ?_;refine eV (fun hc1=>?_) fun hc1=>?_
 .refine aJ ?_;refine cN ?_;simp_all[zS]
 refine aH ?_;refine cN ?_;simp_all[zS]
def Xt (Y:Ctx):Prop:=xx (bq Y 927)
def PG:aD:=⟨2,10,[⟨2,none⟩],bR,(sq (r1 [gm bm] 2 0) (sq (rg [gm s0,gx 668 [l0] bR,gm s1,gx 668 [l2] bR,gm l1,gm l3] [(3,4),(4,5)]) (sq (.block 0 (sq (r1 [gm s3,gm l0,gmt 1 s4,ei l1 l2,gm l3] 5 4) (.cond s5 (sq (r1 [gm s0,gx 667 [l0] bR,gm l1,ge l2 0,ge l2 1,gm l3,gm l4] 6 5) (sq (r1 [gm s1,gx 667 [l0] bR,gm l1,ge l2 0,ge l2 1,gm l3,gm l4] 7 5) (sq (r1 [gm s6,gm s7,gx 630 [l0,l1] gA,gm l2] 2 3) .ret))) (sq (r1 [gm s3,gm l0] 8 1) (.cond s8 (sq (r1 [gn (.mv (.c (.int .i64 (-1))))] 2 0) .ret) (sq (r1 [gm s4,gm l0] 9 1) (.cond s9 (sq (r1 [gm b7] 2 0) .ret) .skip))))))) (sq (r1 [gm s0,gm s1,gx 927 [l0,l1] gA,gm l2] 2 3) .ret))))⟩
def w783 {Y:Ctx}(hm:(Y.at 0).bU)(h630:QA Y)(h667:QC Y)(h668:TI Y)(h927:Xt Y)(a:au)(b:au)   :cZ Y PG (.int .i64 (rL a b)) [.str a,.str b]:=by
 show bB _ _ _ [⟨_,_⟩,⟨_,_⟩,_,_,_,_,_,_,_,_] _;refine ak ?_;refine aF ?_;refine aj (hc:=h668 _) ?_;refine aE ?_;refine aj (hc:=h668 _) ?_;refine fW ?_;refine eV (fun hc0=>?_) fun hc0=>?_
 .refine ay ?_;refine aj (hc:=h667 _) ?_;refine bM ?_;refine aj (hc:=h667 _) ?_;refine cU ?_;refine aj (hc:=h630 _ _) ?_;refine aF ?_;refine cN ?_;unfold rL;rw[ax hc0]
 refine aF ?_;refine eV (fun hc1=>?_) fun hc1=>?_
 .refine aJ ?_;refine cN ?_;have hn:¬(cD a=true/\cD b=true):=by rintro⟨h1,h2⟩;simp[h1,h2]at hc0
  unfold rL;rw[ai hn];rw[ax hc1]
 refine aF ?_;refine eV (fun hc2=>?_) fun hc2=>?_
 .refine aJ ?_;refine cN ?_;have hn:¬(cD a=true/\cD b=true):=by rintro⟨h1,h2⟩;simp[h1,h2]at hc0
  unfold rL;rw[ai hn];rw[ai (by simp[hc1]),ax hc2]
 refine aJ ?_;refine aj (hc:=h927 _ _) ?_;refine aB ?_;refine cN ?_;have hn:¬(cD a=true/\cD b=true):=by rintro⟨h1,h2⟩;simp[h1,h2]at hc0
 unfold rL;rw[ai hn];rw[ai (by simp[hc1]),ai (by simp[hc2])]
def Xf (Y:Ctx):Prop:=xA (bq Y 783)
def Mb:aD:=⟨2,12,[⟨2,none⟩],bR,(sq (r1 [gm bm] 2 0) (sq (.block 0 (sq (r1 [gm s0,gm s1,aL l0 l1,gm l2] 3 3) (.cond s3 (sq (r1 [gm bm] 2 0) .ret) (sq (r1 [gm s0,aL l0 cse,gm l1] 4 2) (.cond s4 (sq (r1 [gm b7] 2 0) .ret) (sq (r1 [gm s1,aL l0 cse,gm l1] 5 2) (.cond s5 (sq (r1 [gn (.mv (.c (.int .i64 (-1))))] 2 0) .ret) .skip))))))) (sq (rg [gm s0,gx 470 [l0,(i8 46)] gA,gm s1,gx 470 [l2,(i8 46)] gA,gm l1,gm l3] [(7,4),(8,5)]) (sq (sq (r1 [gm bm] 6 0) (.block 1 (.loop (sq (sq (r1 [gm s6,gm s7,gl l1,aP l0 l2,gm l3,gmt 4 s6,gmt 4 s8,bT 4 (.len l6),bT 4 (po l5 l7),ei l4 l8] 9 9) (eO s9 1)) (sq (.block 2 (sq (r2 [gm s7,gm s6,ga 1 l0 l1,gd l2,gm s8,gm s6,ga 1 l4 l5,gd l6,gx 783 [l3,l7] gA,gm l8] 10 9) (sq (r1 [gm iQ,cj l0 bm] 11 1) (.cond kH (sq (r1 [gm iQ,gm l0] 2 1) .ret) .skip)))) (r1 [gm s6,av l0 b7,gm l1] 6 2)))))) (sq (r1 [gm s7,gl l0,gm s8,gl l2,gx 630 [l1,l3] gA,gm l4] 2 5) .ret)))))⟩
def w631 (h470:FO Y)(h630:QA Y)(h783:Xf Y)(a:au)(b:au)  (hp0:a.length<=1048576/\b.length<=1048576):cZ Y Mb (.int .i64 (uX a b)) [.str a,.str b]:=by
 show bB _ _ _ [⟨_,_⟩,⟨_,_⟩,_,_,_,_,_,_,_,_,_,_] _;refine ak ?_;refine cU ?_;refine eV (fun hc0=>?_) fun hc0=>?_
 .refine aJ ?_;refine cN ?_;unfold uX;rw[ax hc0]
 refine aJ ?_;refine eV (fun hc1=>?_) fun hc1=>?_
 .refine aJ ?_;refine cN ?_;unfold uX;rw[ai hc0,ax hc1]
 refine aJ ?_;refine eV (fun hc2=>?_) fun hc2=>?_
 .refine aJ ?_;refine cN ?_;unfold uX;rw[ai hc0,ai hc1,ax hc2]
 refine aF ?_;refine aj (hc:=h470 a 46 hp0.1) ?_;refine aE ?_;refine aj (hc:=h470 b 46 hp0.2) ?_;refine aW ?_;refine bc hm (ι:=Nat) (fun i=>[.un,.un,.un,.un,.un,.un,⟨true,.int .i64 (i:Nat)⟩,⟨true,.sl 1 ((aq a 46).map D.str)⟩,⟨true,.sl 1 ((aq b 46).map D.str)⟩,.un,.un,.un]) (fun i=>[]) 18 (fun i=>(i<=(aq a 46).length/\i<=(aq b 46).length)/\uX a b=r5 (aq a 46) (aq b 46) i) (fun i=>(aq a 46).length-i) 0 ⟨⟨ae,ae⟩,by unfold uX;rw[ai hc0,ai hc1,ai hc2]⟩ (dF []) ?_;rintro i ⟨hi,hr⟩;refine aJ ?_;intro u0;refine aF ?_;refine lL ?_;refine aB ?_;refine cC (fun hc3=>?_) fun hc3=>?_
 .refine aJ ?_;refine cM i (hb:=fun _=>ae) ?_;refine cE (v:=.str (aq a 46)[i]!) (hi:=fun _=>ae) ?_;refine ay ?_;refine cM i (hb:=fun _=>ae) ?_;refine cE (v:=.str (aq b 46)[i]!) (hi:=fun _=>ae) ?_;refine aj (hc:=h783 _ _) ?_;refine aH ?_;refine eV (fun hc4=>?_) fun hc4=>?_
  .refine aW ?_;refine cN ?_;rw[hr,Bu ae hc4]
  refine bM ?_;exact⟨i+1,⟨⟨ae,ae⟩,by rw[hr,E3 ae hc4]⟩,ae,(dF [])⟩
 refine aJ ?_;intro u1;refine ay ?_;intro u2;refine aj (hc:=h630 _ _) ?_;refine aB ?_;refine cN ?_;rw[hr,Bt ae]
def JZ (T:List D->D->Prop):Prop:=∀(a:au) (b:au),(a.length<=1048576/\b.length<=1048576)->T [.str a,.str b] (.int .i64 (uX a b))
def WX (Y:Ctx):Prop:=JZ (bq Y 631)
def CF:aD:=⟨2,12,[⟨2,none⟩],bR,(sq (rg [gb 5 s0,gb 5 s1,gm bm] [(3,0),(4,1),(2,2)]) (sq (sq (r1 [gk 5 true s3,gx 217 [l0] zZ,kD l1,gm l2,cF 3 (.ld 5 true s4),cF 3 (.call 217 [l4] zZ),cF 3 (.un .not l5),fC l3 l6] 5 7) (.cond s5 (sq (r1 [gm bm] 2 0) .ret) .skip)) (sq (sq (r1 [gf 0 s3,gd l0,gf 0 s4,gd l2,gx 630 [l1,l3] gA,gm l4] 6 5) (sq (r1 [gm s6,cj l0 bm] 7 1) (.cond s7 (sq (r1 [gm s6,gm l0] 2 1) .ret) .skip))) (sq (sq (r1 [gf 1 s3,gd l0,gf 1 s4,gd l2,gx 630 [l1,l3] gA,gm l4] 8 5) (sq (r1 [gm s8,cj l0 bm] 9 1) (.cond s9 (sq (r1 [gm s8,gm l0] 2 1) .ret) .skip))) (sq (sq (r1 [gf 2 s3,gd l0,gf 2 s4,gd l2,gx 630 [l1,l3] gA,gm l4] 10 5) (sq (r1 [gm iQ,cj l0 bm] 11 1) (.cond kH (sq (r1 [gm iQ,gm l0] 2 1) .ret) .skip))) (sq (r1 [gf 3 s3,gd l0,gf 3 s4,gd l2,gx 631 [l1,l3] gA,gm l4] 2 5) .ret))))))⟩
def w424 {Y:Ctx}(hm:(Y.at 0).bU)(h217:Ks Y)(h630:QA Y)(h631:WX Y)(a:c9)(b:c9)  (hp0:a.sm/\b.sm):cZ Y CF (.int .i64 (oP a b)) [c9.D a,c9.D b]:=by
 show bB _ _ _ [⟨_,_⟩,⟨_,_⟩,_,_,_,_,_,_,_,_,_,_] _;refine ak ?_;refine aW ?_;refine aj (hc:=h217 a hp0.1) ?_;refine aB ?_;refine df (hc:=fun hf=>h217 b hp0.2) ?_;refine aB ?_;refine aw (fun hc0=>?_) (fun hc0=>?_)
 .simp only[c8,bK]at hc0;refine aJ ?_;refine cN ?_;unfold oP;rw[ax hc0]
 simp only[dR,ct]at hc0;have hv:¬(eH a=false\/eH b=false):=by simp only[not_or,Bool.not_eq_false];first|exact hc0|exact hc0.1
 refine aW ?_;refine aj (hc:=h630 _ _) ?_;refine aW ?_;refine cC (fun hc1=>?_) fun hc1=>?_
 .refine aH ?_;refine cN ?_;unfold oP;rw[ai hv,ax hc1]
 refine aW ?_;refine aj (hc:=h630 _ _) ?_;refine aW ?_;refine cC (fun hc2=>?_) fun hc2=>?_
 .refine aH ?_;refine cN ?_;unfold oP;rw[ai hv,ai (by simpa using hc1),ax hc2]
 refine aW ?_;refine aj (hc:=h630 _ _) ?_;refine aW ?_;refine cC (fun hc3=>?_) fun hc3=>?_
 .refine aH ?_;refine cN ?_;unfold oP;rw[ai hv,ai (by simpa using hc1),ai (by simpa using hc2),ax hc3]
 refine aH ?_;refine aj (hc:=h631 a.pre b.pre ⟨hp0.1.1,hp0.2.1⟩) ?_;refine aB ?_;refine cN ?_;unfold oP;rw[ai hv,ai (by simpa using hc1),ai (by simpa using hc2),ai (by simpa using hc3)]
def Wl (Y:Ctx):Prop:=xl (bq Y 424)
def CE:aD:=⟨1,7,fY,bR,(sq (rg [gb 4 s0,gm cse] [(2,0),(1,1)]) (sq (rg [gm (cs [45]),gm (cs [102,117,108,108])] [(5,0),(6,1)]) (sq (sq (r1 [gf 2 s2,gd l0,gl l1,cR l2 bm] 3 3) (.cond s3 (r1 [gf 2 s2,gd l0,gx 249 [l1,(i8 44)] [[.sl 1 [.a]],[.a]],gm l2] 5 3) .skip)) (sq (sq (r1 [gf 3 s2,gd l0] 4 1) (.cond s4 (r1 [gm (cs [98,97,114,101])] 6 0) .skip)) (sq (r1 [gf 0 s2,gd l0,av (cs [97,110,121,32]) l1,av l2 (cs [32]),gm s5,av l3 l4,av l5 (cs [32]),gm s6,av l6 l7,av l8 (cs [32]),gf 1 s2,gd l10,av l9 gF,av iU (cs [10]),gm jR] 1 14) .ret)))))⟩
def w461 {Y:Ctx}(hm:(Y.at 0).bU)(h249:Qu Y)(w:cg)  (hp0:w.fit):cZ Y CE (.str (iX w)) [cg.D w]:=by
 show bB _ _ _ [⟨_,_⟩,_,_,_,_,_,_] _;have q1:=zF hp0;have q2:=hp0.1.1.1;have q3:=hp0.1.1.2;refine ak ?_;refine gJ ?_;intro u0;refine ay ?_;refine cC (fun hc0=>?_) fun hc0=>?_
 .refine aB ?_;refine aj (hc:=h249 w.feats 44 ae) ?_;refine aW ?_;refine cC (fun hc1=>?_) fun hc1=>?_
  .refine aH ?_;refine fh ?_;refine fh ?_;refine aE ?_;refine fh ?_;refine fh ?_;refine aE ?_;refine fh ?_;refine fh ?_;refine ay ?_;refine fh ?_;refine fh ?_;refine aB ?_;refine cG ?_;all_goals
    simp only[iX,bV,iv,aT,kB,jH,iV];first|rw[ax (show w.feats.length=0 by omega)]|rw[ai (show ¬w.feats.length=0 by omega)]
    simp[hc1]
  refine aF ?_;refine fh ?_;refine fh ?_;refine aE ?_;refine fh ?_;refine fh ?_;refine aE ?_;refine fh ?_;refine fh ?_;refine ay ?_;refine fh ?_;refine fh ?_;refine aB ?_;refine cG ?_;all_goals
   simp only[iX,bV,iv,aT,kB,jH,iV];first|rw[ax (show w.feats.length=0 by omega)]|rw[ai (show ¬w.feats.length=0 by omega)]
   simp[hc1]
 refine aH ?_;refine cC (fun hc1=>?_) fun hc1=>?_
 .refine aH ?_;refine fh ?_;refine fh ?_;refine aE ?_;refine fh ?_;refine fh ?_;refine aE ?_;refine fh ?_;refine fh ?_;refine ay ?_;refine fh ?_;refine fh ?_;refine aB ?_;refine cG ?_;all_goals
   simp only[iX,bV,iv,aT,kB,jH,iV];first|rw[ax (show w.feats.length=0 by omega)]|rw[ai (show ¬w.feats.length=0 by omega)]
   simp[hc1]
 refine aF ?_;refine fh ?_;refine fh ?_;refine aE ?_;refine fh ?_;refine fh ?_;refine aE ?_;refine fh ?_;refine fh ?_;refine ay ?_;refine fh ?_;refine fh ?_;refine aB ?_;refine cG ?_;all_goals
  simp only[iX,bV,iv,aT,kB,jH,iV];first|rw[ax (show w.feats.length=0 by omega)]|rw[ai (show ¬w.feats.length=0 by omega)]
  simp[hc1]
def JH (T:List D->D->Prop):Prop:=∀(w:cg),(w.fit)->T [cg.D w] (.str (iX w))
def WB (Y:Ctx):Prop:=JH (bq Y 461)
def G7:aD:=⟨1,3,fY,bR,(sq (r1 [gm cse] 1 0) (sq (sq (r1 [gm s0,aL l0 cse] 2 1) (lM s2 cse)) (sq (r1 [gm s0,av (cs [119,104,101,110,32]) l0,av l1 (cs [10]),gm l2] 1 3) .ret)))⟩
def w462 {Y:Ctx}(hm:(Y.at 0).bU)  (s:au)  (hp0:s.length<=1048576):cZ Y G7 (.str (gI s)) [.str s]:=by
 show bB _ _ _ [⟨_,_⟩,_,_] _;refine ak ?_;refine aW ?_;refine cC (fun hc0=>?_) fun hc0=>?_
 .refine aJ ?_;refine cG ?_;rw[gI,ax hc0]
 refine aB ?_;refine fh ?_;refine fh ?_;refine aB ?_;refine cG ?_;rw[gI,ai hc0];simp[bV,aT,ir]
def JI (T:List D->D->Prop):Prop:=∀(s:au),(s.length<=1048576)->T [.str s] (.str (gI s))
def WC (Y:Ctx):Prop:=JI (bq Y 462)
def G6:aD:=⟨1,13,fY,bR,(sq (rg [gb 9 s0,gm cse] [(2,0),(1,1)]) (sq (r2 [gf 0 s2,gd l0,av (cs [112,97,99,107,97,103,101,32]) l1,av l2 (cs [32]),gf 1 s2,gk 5 true l4,gx 316 [l5] zZ,av l3 l6,av l7 (cs [10]),gm l8] 5 9) (sq (sq (r1 [gm bm] 3 0) (.block 0 (.loop (sq (sq (r1 [gm s3,gf 6 s2,gd l1,gl l2,aP l0 l3] 4 4) (eO s4 0)) (sq (.block 1 (sq (r1 [gm s5,av l0 (cs [110,101,101,100,10]),gm l1] 5 2) (sq (sq (r1 [gm bm] 6 0) (.block 2 (.loop (sq (sq (r1 [gm s6,gf 6 s2,gd l1,gm s3,ga 3 l2 l3,gf 0 l4,gd l5,gl l6,aP l0 l7] 7 8) (eO s7 2)) (sq (.block 3 (r1 [gm s5,gf 6 s2,gd l1,gm s3,ga 3 l2 l3,gf 0 l4,gd l5,gm s6,ga 4 l6 l7,gk 4 true l8,gx 461 [l9] [[.a,.a,.sl 1 [.a],.a]],av l0 l10,gm gF] 5 12)) (r1 [gm s6,av l0 b7,gm l1] 6 2)))))) (sq (r1 [gm s5,gf 6 s2,gd l1,gm s3,ga 3 l2 l3,gf 1 l4,gd l5,gx 462 [l6] bR,av l0 l7,gm l8] 5 9) (sq (r1 [gf 6 s2,gd l0,gm s3,ga 3 l1 l2,gf 2 l3,gd l4,cj l5 cse] 8 6) (.cond s8 (r1 [gm s5,av l0 (cs [111,112,116,105,111,110,32]),gf 6 s2,gd l2,gm s3,ga 3 l3 l4,gf 2 l5,gd l6,av l1 l7,av l8 (cs [10]),gm l9] 5 10) .skip)))))) (r1 [gm s3,av l0 b7,gm l1] 3 2)))))) (sq (sq (r1 [gm bm] 9 0) (.block 4 (.loop (sq (sq (r1 [gm s9,gf 7 s2,gd l1,gl l2,aP l0 l3] 10 4) (eO iQ 4)) (sq (.block 5 (r2 [gm s5,av l0 (cs [98,97,114,32]),gf 7 s2,gd l2,gm s9,ga 3 l3 l4,gf 0 l5,gd l6,av l1 l7,av l8 (cs [32]),gf 7 s2,gd l10,gm s9,ga 3 gF iU,gf 1 jR,gd kE,av l9 me,av nC (cs [10]),gf 7 s2,gd sY,gm s9,ga 3 uc zO,gf 2 AV,gd Da,gx 462 [Gu] bR,av rF Ic,gm Lk] 5 26)) (r1 [gm s9,av l0 b7,gm l1] 9 2)))))) (sq (sq (r1 [gm bm] 11 0) (.block 6 (.loop (sq (sq (r1 [gm kH,gf 8 s2,gd l1,gl l2,aP l0 l3] 12 4) (eO mS 6)) (sq (.block 7 (r2 [gm s5,gf 8 s2,gd l1,gm kH,ga 2 l2 l3,gf 0 l4,gd l5,gn (.bsl 1 (.str []) 2 [(0,(cs [102,101,97,116,117,114,101])),(1,l6)]),gf 8 s2,gd l8,gm kH,ga 2 l9 l10,gf 1 gF,gd iU,gn (.app 1 l7 jR),gx 249 [kE,(i8 32)] [[.sl 1 [.a]],[.a]],av l0 me,av nC (cs [10]),gm rF] 5 18)) (r1 [gm kH,av l0 b7,gm l1] 11 2)))))) (sq (r1 [gm s5,gm l0] 1 1) .ret))))))⟩
def w219 (h249:Qu Y)(h316:Wh Y)(h461:WB Y)(h462:WC Y)(r:Rec)  (hp0:vQ r/\ew r):cZ Y G6 (.str (fq r)) [Rec.D r]:=by
 show bB _ _ _ [⟨_,_⟩,_,_,_,_,_,_,_,_,_,_,_,_] _;have hft:=rb hp0;have q0:=hft.nm;have q00:=zD r.v hft.v;refine ak ?_;refine aH ?_;refine fh ?_;refine fh ?_;refine aE ?_;refine bD (v:=c9.D r.v) ?_;refine aj (hc:=h316 r.v hft.v) ?_;refine fh ?_;refine fh ?_;refine aH ?_;refine bc hm (ι:=Nat) (fun i=>[.un,.un,⟨true,.ptr 0 9 0 0⟩,⟨true,.int .i64 (i:Nat)⟩,.un,⟨true,.str (jS r i)⟩,.un,.un,.un,.un,.un,.un,.un]) (fun i=>[(0,.buf 9 [Rec.D r])]) 13 (fun i=>i<=r.needs.length) (fun i=>r.needs.length-i) 0 ae (aU.to [(0,0)] ah ah (by repeat(first|exact dn.nil|refine dn.un ?_|refine dn.eq ah ?_|refine dn.nl (ar D.str (by rw[P6];simp[py,bV,aT,jk])) ah ?_)) qt) ?_;intro i hi;have q1:=CR hft i hi;refine aH ?_;intro u0;refine ay ?_;refine cC (fun hc0=>?_) fun hc0=>?_
 .refine aB ?_;have hnf:=hft.n _ (bw (show i<r.needs.length by omega));have hn3:=hnf.1.1;refine aE ?_;refine fh ?_;refine aH ?_;refine bc hm (ι:=Nat) (fun j=>[.un,.un,⟨true,.ptr 0 9 0 0⟩,⟨true,.int .i64 (i:Nat)⟩,.un,⟨true,.str (jS r i++dG r.needs[i]! j)⟩,⟨true,.int .i64 (j:Nat)⟩,.un,.un,.un,.un,.un,.un]) (fun j=>[(0,.buf 9 [Rec.D r])]) 22 (fun j=>j<=r.needs[i]!.any.length) (fun j=>r.needs[i]!.any.length-j) 0 ae (aU.to [(0,0)] ah ah (by repeat(first|exact dn.nil|refine dn.un ?_|refine dn.eq ah ?_|refine dn.nl (ar D.str (by rw[RB])) ah ?_)) qt) ?_;intro j hj;have q2:=AZ hnf j ae;refine iw ?_;intro u1;refine ay ?_;refine cC (fun hc1=>?_) fun hc1=>?_
  .refine aB ?_;have hwf:=hnf.1.2 _ (bw (show j<r.needs[i]!.any.length by omega));have q3:=vy hwf;refine cU ?_;first|refine cE (v:=(cg.D _)) ?_|refine fe (v:=(cg.D _)) ?_
   refine aj (hc:=h461 r.needs[i]!.any[j]! hwf) ?_;refine fh ?_;refine cU ?_;exact⟨j+1,ae,ae,(aU.to [(0,0)] ah ah (by repeat(first|exact dn.nil|refine dn.un ?_|refine dn.eq ah ?_|refine dn.nl (ar D.str (by rw[m8 ae,dx])) ah ?_)) qt)⟩
  refine aB ?_;have q4:=mU hnf.2.1;have q5:=hnf.2.2;refine aW ?_;refine aj (hc:=h462 r.needs[i]!.when' hnf.2.1) ?_;refine fh ?_;refine fW ?_;refine eV (fun hc2=>?_) fun hc2=>?_
  .refine ay ?_;refine fh ?_;refine aH ?_;refine fh ?_;refine fh ?_;refine cU ?_;have hq:jS r (i+1)=jS r i++(dG r.needs[i]! j++gI r.needs[i]!.when'++pG r.needs[i]!.option):=by rw[lI ae,uO (j:=j) ae]
   have ho:pG r.needs[i]!.option=[111,112,116,105,111,110,32]++r.needs[i]!.option++[10]:=by rw[pG,ai hc2];simp[bV,aT,eQ]
   exact⟨i+1,ae,ae,(aU.to [(0,0)] ah ah (by repeat(first|exact dn.nil|refine dn.un ?_|refine dn.eq ah ?_|refine dn.nl (ar D.str (by rw[hq,ho];simp only[dx])) ah ?_)) qt)⟩
  refine bM ?_;have hq:jS r (i+1)=jS r i++(dG r.needs[i]! j++gI r.needs[i]!.when'++pG r.needs[i]!.option):=by rw[lI ae,uO (j:=j) ae]
  have ho:pG r.needs[i]!.option=[]:=by rw[pG,ax hc2]
  exact⟨i+1,ae,ae,(aU.to [(0,0)] ah ah (by repeat(first|exact dn.nil|refine dn.un ?_|refine dn.eq ah ?_|refine dn.nl (ar D.str (by rw[hq,ho];simp only[dx,jy])) ah ?_)) qt)⟩
 refine aF ?_;have h33:i=r.needs.length:=ae;subst h33;refine ay ?_;refine bc hm (ι:=Nat) (fun i=>[.un,.un,⟨true,.ptr 0 9 0 0⟩,.un,.un,⟨true,.str (zA r i)⟩,.un,.un,.un,⟨true,.int .i64 (i:Nat)⟩,.un,.un,.un]) (fun i=>[(0,.buf 9 [Rec.D r])]) 19 (fun i=>i<=r.bars.length) (fun i=>r.bars.length-i) 0 ae (aU.to [(0,0)] ah ah (by repeat(first|exact dn.nil|refine dn.un ?_|refine dn.eq ah ?_|refine dn.nl (ar D.str (by rw[P7])) ah ?_)) qt) ?_;intro i hi;have q1:=CS hft i hi;refine aH ?_;intro u2;refine ay ?_;refine cC (fun hc3=>?_) fun hc3=>?_
 .refine aB ?_;have q4:=hft.b _ (bw (show i<r.bars.length by omega));have q5:=q4.1;have q6:=q4.2.1;have q7:=mU q4.2.2;refine aE ?_;refine fh ?_;refine aH ?_;refine fh ?_;refine fh ?_;refine aH ?_;refine fh ?_;refine fh ?_;refine aH ?_;refine aj (hc:=h462 r.bars[i]!.when' q4.2.2) ?_;refine fh ?_;refine cU ?_;have hq:=Fa (r:=r) (i:=i) ae;exact⟨i+1,ae,ae,(aU.to [(0,0)] ah ah (by repeat(first|exact dn.nil|refine dn.un ?_|refine dn.eq ah ?_|refine dn.nl (ar D.str (by rw[hq];simp[tf,bV,aT,jO])) ah ?_)) qt)⟩
 refine aF ?_;have h33:i=r.bars.length:=ae;subst h33;refine ay ?_;refine bc hm (ι:=Nat) (fun i=>[.un,.un,⟨true,.ptr 0 9 0 0⟩,.un,.un,⟨true,.str (By r i)⟩,.un,.un,.un,.un,.un,⟨true,.int .i64 (i:Nat)⟩,.un]) (fun i=>[(0,.buf 9 [Rec.D r])]) 25 (fun i=>i<=r.feats.length) (fun i=>r.feats.length-i) 0 ae (aU.to [(0,0)] ah ah (by repeat(first|exact dn.nil|refine dn.un ?_|refine dn.eq ah ?_|refine dn.nl (ar D.str (by rw[P8])) ah ?_)) qt) ?_;intro i hi;have q1:=I7 hft i hi;refine aH ?_;intro u3;refine ay ?_;refine cC (fun hc4=>?_) fun hc4=>?_
 .refine aB ?_;have q4:=hft.f _ (bw (show i<r.feats.length by omega));have q5:=AF q4;have q6:=q4.2;simp only[pw,bV,bJ,az,aC]at q5;refine aW ?_;refine cS [(.str _),(.str _)] ?_;refine aH ?_;refine Po (xs:=[dC,r.feats[i]!.name]) (ys:=r.feats[i]!.of) (he:=pJ.sl) (hb:=by simp only[az,aC];omega) ?_;refine aj (hc:=h249 ([dC,r.feats[i]!.name]++r.feats[i]!.of) 32 ae) (ha:=fun _=>ar (fun d=>[d,D.int .u8 32]) (nL (q:=D.str) (fun _=>rfl) ah)) (hp:=fun _=>⟨lK (q:=D.str) (fun _=>rfl) ah,rfl,trivial⟩) ?_;refine cP (hb:=fun _=>by first|omega|(simp only[bJ,az,aC];omega)) ?_;refine cP (hb:=fun _=>by first|omega|(simp only[bJ,az,aC];omega)) ?_;refine cU ?_;have hq:=Fc (r:=r) (i:=i) ae;exact⟨i+1,ae,ae,(aU.to [(0,0)] ah ah (by repeat(first|exact dn.nil|refine dn.un ?_|refine dn.eq ah ?_|refine dn.nl (ar D.str (by rw[hq];simp[pw,bV])) ah ?_)) qt)⟩
 refine aB ?_;have h33:i=r.feats.length:=ae;subst h33;refine aF ?_;refine cG ?_;exact CU r
def ED:aD:=⟨1,6,[⟨1,none⟩,⟨2,none⟩],gA,(sq (rg [gb 9 s0,gm cse,gm bm] [(3,0),(1,1),(2,2)]) (sq (sq (r1 [gk 9 true s3,gx 71 [l0] [[.a,.a,.a,.a,.a,.a,.sl 3 [.sl 4 [.a,.a,.sl 1 [.a],.a],.a,.a],.sl 3 [.a,.a,.a],.sl 2 [.a,.sl 1 [.a]]]],gm l1,ge l2 0,ge l2 1,gm l3,gm l4] 4 5) (sq (r1 [gm s4,cj l0 bm] 5 1) (.cond s5 (sq (rg [gm s4,gm cse,gm l0] [(1,1),(2,2)]) .ret) .skip))) (sq (rg [gk 9 true s3,gx 219 [l0] [[.a,.a,.a,.a,.a,.a,.sl 3 [.sl 4 [.a,.a,.sl 1 [.a],.a],.a,.a],.sl 3 [.a,.a,.a],.sl 2 [.a,.sl 1 [.a]]]],gm l1,gm bm] [(1,2),(2,3)]) .ret)))⟩
def w73 {Y:Ctx}(hm:(Y.at 0).bU)(h71:C71 Y)(h219:Tk Y)(r:Rec)  (hp0:ew r):cZ Y ED (.tup [.str (cL r).1,.int .i64 (cL r).2]) [Rec.D r]:=by
 show bB _ _ _ [⟨_,_⟩,_,_,_,_,_] _;refine ak ?_;refine aW ?_;refine aj (hc:=h71 r hp0) ?_;refine fW ?_;refine cC (fun hc0=>?_) fun hc0=>?_
 .refine aW ?_;refine bE (aN (ar D.str ?_) (ar (D.int .i64) ?_));all_goals
   simp[cL,hc0]
 refine ay ?_;have hgd:=lj hc0;refine aE ?_;refine aj (hc:=h219 r ⟨hgd,hp0⟩) ?_;refine aF ?_;refine bE (aN (ar D.str ?_) (ar (D.int .i64) ?_));all_goals
  simp[cL,hc0]
def C73 (Y:Ctx):Prop:=C2 (bq Y 73)
def L3:aD:=⟨1,7,[⟨1,none⟩,⟨2,none⟩],gA,(sq (rg [gb 9 s0,gm (iu 0),gm bm] [(3,0),(1,1),(2,2)]) (sq (rg [gk 9 true s3,gx 73 [l0] [[.a,.a,.a,.a,.a,.a,.sl 3 [.sl 4 [.a,.a,.sl 1 [.a],.a],.a,.a],.sl 3 [.a,.a,.a],.sl 2 [.a,.sl 1 [.a]]]],gm l1,ge l2 0,ge l2 1,gm l3,gm l4] [(6,5),(4,6)]) (sq (sq (r1 [gm s4,cj l0 bm] 5 1) (.cond s5 (sq (rg [gm s4,gm (iu 0),gm l0] [(1,1),(2,2)]) .ret) .skip)) (sq (rg [gm s6,gn (.s2b l0),gx 221 [l1] [[.sl 1 [.a]]],gm l2,gm bm] [(1,3),(2,4)]) .ret))))⟩
def w75 {Y:Ctx}(hm:(Y.at 0).bU)(h73:C73 Y)(h221:V9 Y)(r:Rec)  (hp0:ew r):cZ Y L3 (.tup [.int .u64 (ju r),.int .i64 (cL r).2]) [Rec.D r]:=by
 show bB _ _ _ [⟨_,_⟩,_,_,_,_,_,_] _;refine ak ?_;refine aH ?_;refine aj (hc:=h73 r hp0) ?_;refine fW ?_;refine cC (fun hc0=>?_) fun hc0=>?_
 .refine aW ?_;refine bE (aN (ar (D.int .u64) ?_) (ar (D.int .i64) ?_));all_goals
   simp[ju,hc0]
 refine aF ?_;refine aj (hc:=h221 (cL r).1) (ha:=fun _=>ar (fun d=>[d]) (nL (q:=fun b:UInt8=>D.int .u8 b.toNat) (fun _=>rfl) ah)) (hp:=fun _=>⟨lK (q:=fun b:UInt8=>D.int .u8 b.toNat) (fun _=>rfl) ah,trivial⟩) ?_;refine aF ?_;refine bE (aN (ar (D.int .u64) ?_) (ar (D.int .i64) ?_));all_goals
  simp[ju,hc0]
def C75 (Y:Ctx):Prop:=C3 (bq Y 75)
def L6:aD:=⟨2,5,[⟨2,none⟩],bR,(sq (rg [gb 5 s0,gb 5 s1,gm dJ] [(3,0),(4,1),(2,2)]) (sq (r1 [gk 5 true s3,gx 217 [l0] zZ,gm l1,bT 2 (.ld 5 true s4),bT 2 (.call 217 [l3] zZ),ei l2 l4,gm l5,bT 6 (.ld 5 true s3),bT 6 (.ld 5 true s4),bT 6 (.call 424 [l7,l8] [[.a,.a,.a,.a,.a],[.a,.a,.a,.a,.a]]),bT 6 (cB l9 bm),ei l6 l10,gm gF] 2 12) .ret))⟩
def w501 {Y:Ctx}(hm:(Y.at 0).bU)(h217:Ks Y)(h424:Wl Y)(a:c9)(b:c9)  (hp0:a.sm/\b.sm):cZ Y L6 (.bool (Cn a b)) [c9.D a,c9.D b]:=by
 show bB _ _ _ [⟨_,_⟩,⟨_,_⟩,_,_,_] _;refine ak ?_;refine aH ?_;refine aj (hc:=h217 a hp0.1) ?_;refine ay ?_;refine df (hc:=fun hf=>h217 b hp0.2) ?_;refine aF ?_;refine df (hc:=fun hf=>h424 a b hp0) ?_;refine aJ ?_;exact bQ rfl
def WO (Y:Ctx):Prop:=xM (bq Y 501)
def EG:aD:=⟨3,8,[⟨3,none⟩],bR,(sq (rg [gb 5 s2,gm bm] [(6,0),(3,1)]) (sq (sq (r1 [gm bm] 4 0) (.block 0 (.loop (sq (sq (r1 [gm s4,gm s0,gl l1,aP l0 l2] 5 3) (eO s5 0)) (sq (.block 1 (sq (r2 [gm s0,gm s4,ga 11 l0 l1,gf 0 l2,gf 0 l3,gd l4,gm s1,aL l5 l6,gm l7,gmt 8 s0,gmt 8 s4,bT 8 (.ia 11 l9 l10),m4 8 0 gF,m4 8 1 iU,bT 8 (.ld 5 true jR),bT 8 (.ld 5 true s6),bT 8 (.call 501 [kE,me] [[.a,.a,.a,.a,.a],[.a,.a,.a,.a,.a]]),ei l8 nC] 7 17) (.cond s7 (sq (r1 [gm s4,gm l0] 3 1) .ret) .skip))) (r1 [gm s4,av l0 b7,gm l1] 4 2)))))) (sq (r1 [gn (.mv (.c (.int .i64 (-1))))] 3 0) .ret)))⟩
def w580 (h501:WO Y)(l:List dm)(nm:au)(v:c9)  (hp0:(∀x∈l,x.r.v.sm)/\v.sm):cZ Y EG (.int .i64 (qn l nm v 0)) [.sl 11 (l.map dm.D),.str nm,c9.D v]:=by
 show bB _ _ _ [⟨_,_⟩,⟨_,_⟩,⟨_,_⟩,_,_,_,_,_] _;refine ak ?_;refine aW ?_;refine bc hm (ι:=Nat) (fun i=>[⟨true,.sl 11 (l.map dm.D)⟩,⟨true,.str nm⟩,.un,.un,⟨true,.int .i64 (i:Nat)⟩,.un,⟨true,.ptr 0 5 0 0⟩,.un]) (fun i=>[(0,.buf 5 [c9.D v])]) 3 (fun i=>i<=l.length/\qn l nm v 0=qn l nm v i) (fun i=>l.length-i) 0 ⟨ae,rfl⟩ (dF [(0,0)]) ?_;rintro i ⟨hi,hr⟩;refine aJ ?_;intro u0;refine ay ?_;refine cC (fun hc0=>?_) fun hc0=>?_
 .refine aJ ?_;refine cM i ?_;refine ay ?_;refine cE (v:=.str l[i]!.r.name) ?_;refine aJ ?_;refine cM i ?_;refine ay ?_;refine cE (v:=c9.D l[i]!.r.v) ?_;refine aE ?_;refine df (hc:=fun hf=>h501 l[i]!.r.v v ⟨hp0.1 _ (bw ae),hp0.2⟩) ?_;refine ay ?_;refine eV (fun hc1=>?_) fun hc1=>?_
  .refine aW ?_;refine cN ?_;rw[hr,Pa ae (Ro hc1)]
  refine bM ?_;exact⟨i+1,⟨ae,by rw[hr,Pc ae (UO hc1)]⟩,ae,(dF [(0,0)])⟩
 refine aH ?_;refine cN ?_;rw[hr,Iy ae]
def TB (Y:Ctx):Prop:=xw (bq Y 580)
def L5:aD:=⟨1,10,fY,bR,(sq (rg [gb 2 s0,gm dJ] [(2,0),(1,1)]) (sq (sq (r1 [gf 0 s2,gd l0,gx 216 [l1] bR,kD l2,gm l3,jQ 4 1 s2,lN 4 l5,cF 4 (.len l6),cF 4 (dY l7 (i6 64)),fC l4 l8] 3 9) (lM s3 dJ)) (sq (sq (r1 [gm bm] 4 0) (.block 0 (.loop (sq (sq (r1 [gm s4,gf 1 s2,gd l1,gl l2,aP l0 l3] 5 4) (eO s5 0)) (sq (.block 1 (sq (r1 [gf 1 s2,gd l0,gm s4,ga 11 l1 l2,gk 11 true l3,gb 11 (.c (.agg [.str [],.int .i64 0,.int .i64 0,.int .i64 0,.str [],.str [],.aA,.aA,.aA,.int .u64 0,.bool false])),gt 11 l5 l4] 6 5) (sq (rg [gf 0 s6,gk 9 true l0,gx 75 [l1] [[.a,.a,.a,.a,.a,.a,.sl 3 [.sl 4 [.a,.a,.sl 1 [.a],.a],.a,.a],.sl 3 [.a,.a,.a],.sl 2 [.a,.sl 1 [.a]]]],gm l2,ge l3 0,ge l3 1,gm l4,gm l5] [(8,6),(7,7)]) (sq (r1 [gm s7,cj l0 bm,gm l1,eW 2 s8,jQ 2 9 s6,lN 2 l4,cF 2 (fo l3 l5),fC l2 l6,gm l7,jQ 8 1 s2,lN 8 l9,jQ 8 0 s6,jQ 8 0 gF,lN 8 iU,jQ 8 0 s6,jQ 8 1 kE,cF 8 (.ld 5 true me),cF 8 (.call 580 [l10,jR,nC] [[.sl 11 [.a,.a,.a,.a,.a,.a,.sl 3 [.sl 4 [.a,.a,.sl 1 [.a],.a],.a,.a],.sl 3 [.a,.a,.a],.sl 2 [.a,.sl 1 [.a]],.a,.a]],[.a],[.a,.a,.a,.a,.a]]),eW 8 s4,cF 8 (fo rF sY),fC l8 uc] 9 20) (lM s9 dJ))))) (r1 [gm s4,av l0 b7,gm l1] 4 2)))))) (wV rV))))⟩
def w358 (h75:C75 Y)(h216:Kr Y)(h580:TB Y)(s:fm)  (hp0:∀x∈s.es,ew x.r):cZ Y L5 (.bool (iR s)) [fm.D s]:=by
 show bB _ _ _ [⟨_,_⟩,_,_,_,_,_,_,_,_,_] _;refine ak ?_;refine aH ?_;refine bD (v:=.str s.name) ?_;refine aj (hc:=h216 _) ?_;refine aB ?_;refine bD (v:=.sl 11 (s.es.map dm.D)) ?_;refine lL ?_;refine aB ?_;refine aw (fun hc0=>?_) (fun hc0=>?_)
 .simp only[c8,bK,aY]at hc0;have hf:iR s=false:=by
   unfold iR;rcases hc0 with h|h
   .rw[h];rfl
   .rw[show decide (s.es.length<=64)=false from dr ae];simp
  refine aJ ?_;refine bQ ?_;exact hf.symm
 simp only[dR,ct,bA]at hc0;have hq:iR s=cI (nQ s.es) 0 s.es.length:=by unfold iR;rw[hc0.1,cv (show s.es.length<=64 by omega)];simp
 refine aJ ?_;refine bc hm (ι:=Nat) (fun i=>[.un,.un,⟨true,.ptr 0 2 0 0⟩,.un,⟨true,.int .i64 (i:Nat)⟩,.un,.un,.un,.un,.un]) (fun i=>[(0,.buf 2 [fm.D s])]) 13 (fun i=>i<=s.es.length/\iR s=cI (nQ s.es) i s.es.length) (fun i=>s.es.length-i) 0 ⟨ae,hq⟩ (dF [(0,0)]) ?_;rintro i ⟨hi,hr⟩;refine aF ?_;refine bD (v:=.sl 11 (s.es.map dm.D)) ?_;refine aE ?_;intro u0;refine ay ?_;refine cC (fun hc1=>?_) fun hc1=>?_
 .refine aB ?_;have hsm:=hp0 _ (bw (show i<s.es.length by omega));refine aE ?_;refine bD (v:=.sl 11 (s.es.map dm.D)) ?_;refine aE ?_;refine cM i ?_;refine cE (v:=dm.D s.es[i]!) ?_;refine aE ?_;refine a7 (dm.D s.es[i]!) (he:=bg) ?_;refine aB ?_;refine bD (v:=Rec.D s.es[i]!.r) ?_;refine aj (hc:=h75 s.es[i]!.r hsm) ?_;refine gJ ?_;refine bD (v:=.int .u64 s.es[i]!.sum) ?_;refine aF ?_;refine bD (v:=.sl 11 (s.es.map dm.D)) ?_;refine ay ?_;refine bD (v:=.str s.es[i]!.r.name) ?_;refine ay ?_;refine bD (v:=c9.D s.es[i]!.r.v) ?_;refine df (hc:=fun hf=>h580 s.es s.es[i]!.r.name s.es[i]!.r.v ⟨fun x hx=>(hp0 x hx).1.2,hsm.1.2⟩) ?_;refine aF ?_;refine wp_cond (fun hc2=>?_) (fun hc2=>?_)
  .have hen:nQ s.es i=false:=by
    simp only[c8,bK,aY,bA]at hc2;exact QW ae hc2
   refine aH ?_;refine bQ ?_;rw[hr,aR ae,hen];rfl
  have hen:nQ s.es i=true:=by
   simp only[dR,ct,aY,bA]at hc2;exact NL ae hc2.1.1 hc2.1.2 hc2.2
  refine bM ?_;exact⟨i+1,⟨ae,by rw[hr,aR ae,hen];rfl⟩,ae,(dF [(0,0)])⟩
 refine aH ?_;refine bQ ?_;rw[hr,ch ae]
def Wk (Y:Ctx):Prop:=xn (bq Y 358)
def ve:aD:=⟨2,12,[⟨2,some (2,true)⟩,⟨3,none⟩],[[.a,.sl 11 [.a,.a,.a,.a,.a,.a,.sl 3 [.sl 4 [.a,.a,.a,.a],.a,.a],.sl 3 [.a,.a,.a],.sl 2 [.a,.sl 1 [.a]],.a,.a]],[.a]],(sq (rg [gb 2 s0,gb 9 s1,gb 2 (.c (.agg [.str [],.aA])),gm bm] [(4,0),(6,1),(2,2),(3,3)]) (sq (sq (r1 [gk 2 true s4,gx 358 [l0] [[.a,.sl 11 [.a,.a,.a,.a,.a,.a,.sl 3 [.sl 4 [.a,.a,.a,.a],.a,.a],.sl 3 [.a,.a,.a],.sl 2 [.a,.sl 1 [.a]],.a,.a]]],kD l1] 5 2) (.cond s5 (sq (r1 [gn (.build [.str [],.aA] []),gt 2 s2 l0,gm b7] 3 2) .ret) .skip)) (sq (rg [gk 9 true s6,gx 75 [l0] [[.a,.a,.a,.a,.a,.a,.sl 3 [.sl 4 [.a,.a,.sl 1 [.a],.a],.a,.a],.sl 3 [.a,.a,.a],.sl 2 [.a,.sl 1 [.a]]]],gm l1,ge l2 0,ge l2 1,gm l3,gm l4] [(11,5),(7,6)]) (sq (.block 0 (sq (r1 [gm s7,cj l0 bm,gm l1] 8 2) (.cond s8 (sq (r1 [gn (.build [.str [],.aA] []),gm s7,gt 2 s2 l0,gm l1] 3 3) .ret) (sq (r1 [gf 1 s4,gd l0,gf 0 s6,gd l2,gf 1 s6,gk 5 true l4,gx 580 [l1,l3,l5] [[.sl 11 [.a,.a,.a,.a,.a,.a,.sl 3 [.sl 4 [.a,.a,.sl 1 [.a],.a],.a,.a],.sl 3 [.a,.a,.a],.sl 2 [.a,.sl 1 [.a]],.a,.a]],[.a],[.a,.a,.a,.a,.a]],fN l6 bm,gm l7] 9 8) (.cond s9 (sq (r1 [gn (.build [.str [],.aA] []),gt 2 s2 l0,gm C7] 3 2) .ret) (sq (r1 [gf 1 s4,gd l0,gl l1,fN l2 (i6 64),gm l3] 10 4) (.cond iQ (sq (r1 [gn (.build [.str [],.aA] []),gt 2 s2 l0,gm (i6 10)] 3 2) .ret) .skip))))))) (sq (r2 [gf 0 s4,gn (.ldI 1 false l0),gf 1 s4,gd l2,gn (.appN 11 l3),gk 9 true s6,gm kH,gn (.build [.str [],.int .i64 0,.int .i64 0,.int .i64 0,.str [],.str [],.aA,.aA,.aA,.int .u64 0,.bool false] [(0,9,l5),(9,1,l6)]),gn (.bsl 11 (.agg [.str [],.int .i64 0,.int .i64 0,.int .i64 0,.str [],.str [],.aA,.aA,.aA,.int .u64 0,.bool false]) 1 [(0,l7)]),gn (.app 11 l4 l8),gn (.build [.str [],.aA] [(0,1,l1),(1,1,l9)]),gt 2 s2 l10,gm bm] 3 12) .ret)))))⟩
def w504 {Y:Ctx}(hm:(Y.at 0).bU)(s:fm)(r:Rec)(h75:C75 Y)(h358:Wk Y)(h580:TB Y)(hp0:(∀x∈s.es,ew x.r)/\ew r):bB (Y.at 0) ve.body (jT ve (YO s r):Ex->List bL->St->Prop) (fM ve [fm.D s,Rec.D r]) ⟨0,[]⟩:=by
 show bB _ _ _ [⟨_,_⟩,⟨_,_⟩,_,_,_,_,_,_,_,_,_,_] _;refine ak ?_;refine aW ?_;refine cH (d:=fm.D s) ?_;refine aj (hc:=h358 s hp0.1) ?_;refine ay ?_;refine aw (fun hc0=>?_) (fun hc0=>?_)
 .simp only[bK]at hc0;have hz:ey s r=(mE,1):=by unfold ey;rw[ax hc0]
  refine ay ?_;refine cW _ ?_;refine aF ?_;refine cn trivial Af (cO ah (aN ?_ (ar (D.int .i64) ?_))) ah (.inl ⟨by rw[hz];decide,rfl⟩);all_goals first|rfl|(rw[hz];done)|(rw[hz];rfl)
 simp only[ct]at hc0;have hq0:¬iR s=false:=by simp[hc0]
 refine ay ?_;refine cH (d:=Rec.D r) ?_;refine aj (hc:=h75 r hp0.2) ?_;refine gJ ?_;refine wp_cond (fun hc1=>?_) (fun hc1=>?_)
 .simp only[bK,bA]at hc1;have hz:ey s r=(mE,(cL r).2):=by unfold ey;rw[ai hq0,ax hc1]
  refine aE ?_;refine cW _ ?_;refine aH ?_;refine cn trivial Af (cO ah (aN ?_ (ar (D.int .i64) ?_))) ah (.inl ⟨by rw[hz];exact hc1,rfl⟩);all_goals first|rfl|(rw[hz];done)|(rw[hz];rfl)
 simp only[ct,aY]at hc1;have hq1:¬¬(cL r).2=0:=fun h=>h hc1
 refine ay ?_;refine bD (v:=.sl 11 (s.es.map dm.D)) ?_;refine aE ?_;refine bD (v:=.str r.name) ?_;refine aE ?_;refine bD (v:=c9.D r.v) ?_;refine aj (hc:=h580 s.es r.name r.v ⟨fun x hx=>(hp0.1 x hx).1.2,hp0.2.1.2⟩) ?_;refine aB ?_;refine wp_cond (fun hc2=>?_) (fun hc2=>?_)
 .simp only[aY]at hc2;have hz:ey s r=(mE,8):=by unfold ey;rw[ai hq0,ai hq1,ax hc2]
  refine aE ?_;refine cW _ ?_;refine aJ ?_;refine cn trivial Af (cO ah (aN ?_ (ar (D.int .i64) ?_))) ah (.inl ⟨by rw[hz];decide,rfl⟩);all_goals first|rfl|(rw[hz];done)|(rw[hz];rfl)
 simp only[bA]at hc2;refine ay ?_;refine bD (v:=.sl 11 (s.es.map dm.D)) ?_;refine aE ?_;intro u0;refine aB ?_;refine wp_cond (fun hc3=>?_) (fun hc3=>?_)
 .simp only[aY]at hc3;have hz:ey s r=(mE,10):=by unfold ey;rw[ai hq0,ai hq1,ai hc2,ax ae]
  refine aE ?_;refine cW _ ?_;refine aJ ?_;refine cn trivial Af (cO ah (aN ?_ (ar (D.int .i64) ?_))) ah (.inl ⟨by rw[hz];decide,rfl⟩);all_goals first|rfl|(rw[hz];done)|(rw[hz];rfl)
 simp only[bA]at hc3;have hz:ey s r=(⟨s.name,j4 s r⟩,0):=by unfold ey;rw[ai hq0,ai hq1,ai hc2,ai ae];rfl
 refine ay ?_;refine fV 0 ?_;refine ay ?_;refine Vo (v:=.str s.name) ?_;refine aE ?_;refine fe (v:=.sl 11 (s.es.map dm.D)) ?_;refine IC (he:=pJ.sl) (n:=s.es.length) (hn:=aQ) (hb:=ae) ?_;refine cH (d:=Rec.D r) ?_;refine aE ?_;refine bI (dm.D (⟨r,ju r,false⟩:dm)) ?_;refine cS [dm.D (⟨r,ju r,false⟩:dm)] ?_;refine nb (q:=dm.D) (xs:=s.es) (e:=(⟨r,ju r,false⟩:dm)) (hb:=ae) ?_;refine bI (.agg [.str s.name,.own 40 11 0 (j4 s r).length]) ?_;refine a7 (.agg [.str s.name,.own 40 11 0 (j4 s r).length]) (he:=bg) ?_;refine aB ?_;refine cn trivial Af (cO ah (aN ?_ (ar (D.int .i64) ?_))) ah (.inr ⟨by rw[hz],40,rfl,bg⟩);all_goals rfl
def Tx (Y:Ctx):Prop:=∀(s:fm) (r:Rec),((∀x∈s.es,ew x.r)/\ew r)->∀(nx:Nat) (m:List (Nat×bG)) (K:D->St->Prop),(¬(ey s r).2=0->K (.tup [.agg [.str [],.aA],.int .i64 (ey s r).2]) ⟨nx,m⟩)->((ey s r).2=0->K (.tup [.agg [.str s.name,.own nx 11 0 (j4 s r).length],.int .i64 0]) ⟨nx+1,(nx,.buf 11 ((j4 s r).map dm.D))::m⟩)->Y.tr 504 [fm.D s,Rec.D r] ⟨nx,m⟩ K
def Gy:aD:=⟨4,12,[⟨4,some (2,true)⟩],[[.a,.sl 11 [.a,.a,.a,.a,.a,.a,.sl 3 [.sl 4 [.a,.a,.a,.a],.a,.a],.sl 3 [.a,.a,.a],.sl 2 [.a,.sl 1 [.a]],.a,.a]]],(sq (r1 [gb 2 (.c (.agg [.str [],.aA]))] 4 0) (sq (r1 [gm s2,gn (.build [.str [],.aA] [(0,1,l0)]),gb 2 (.c (.agg [.str [],.aA])),gt 2 l2 l1] 7 2) (sq (sq (r1 [gm bm] 5 0) (.block 0 (.loop (sq (sq (r1 [gm s5,gm s3,aP l0 l1,gm l2,gmt 3 s5,gmt 3 s0,gmt 3 s1,gmt 3 s3,bT 3 (vE l7 b7),bT 3 (.call 228 [l5,l6,l8] [[.sl 1 [.a]],[.a],[.a]]),bT 3 (po l4 l9),ei l3 l10] 6 11) (eO s6 0)) (sq (.block 1 (sq (r1 [gm s0,gm s1,av l1 b7,gm s5,gn (.bin .mul (i6 82) l3),av l2 l4,gm s0,gm s1,av l7 b7,gm s5,gn (.bin .mul (i6 82) l9),av l8 l10,av gF (i6 80),gx 228 [l6,iU,rX] [[.sl 1 [.a]],[.a],[.a]],av b7 jR,gx 79 [l0,l5,kE] [[.sl 1 [.a]],[.a],[.a]],gb 9 (.c (.agg [.str [],.int .i64 0,.int .i64 0,.int .i64 0,.str [],.str [],.aA,.aA,.aA])),gt 9 nC me] 8 16) (sq (rg [gk 2 true s7,gk 9 true s8,gn (.callM 504 [l0,l1]),gm l2,ge l3 0,ge l3 1,gb 2 (.c (.agg [.str [],.aA])),gt 2 l6 l4,gm l5] [(11,6),(9,8)]) (sq (r1 [gm s9,aL l0 bm] 10 1) (.cond iQ (sq (rg [gk 2 true kH,gt 2 s7 l0] []) (rt [gf 1 s7,gd l0,gf 1 s7,gd l2,gl l3,ek l4 b7,gm s0,gm s1,av l7 b7,gm s5,gn (.bin .mul (i6 82) l9),av l8 l10,av gF (i6 81),gx 228 [l6,iU,C8] [[.sl 1 [.a]],[.a],[.a]],aL jR b7,ga 11 l1 l5,gf 10 me,gt 1 nC kE] [])) .skip))))) (r1 [gm s5,av l0 b7,gm l1] 5 2)))))) (sq (rg [gk 2 true s7,gt 2 s4 l0] []) .ret))))⟩
def ZR (h79:C79 Y)(h228:FL Y)(h504:Tx Y)(l:List Int)(i:Int)(nm:au)(most:Nat)  (hp0:(0<=i/\i<=100000)/\most<=60/\du nm=true):cZ Y Gy (fm.D (Qn l i nm most)) [.sl 1 (l.map (D.int .i64)),.int .i64 i,.str nm,.int .i64 (most:Nat)]:=by
 show bB _ _ _ [⟨_,_⟩,⟨_,_⟩,⟨_,_⟩,⟨_,_⟩,_,_,_,_,_,_,_,_] _;refine ak ?_;refine aF ?_;refine bI (.agg [.str nm,.aA]) ?_;refine aE ?_;refine a7 (.agg [.str nm,.aA]) (he:=bg) ?_;refine aE ?_;refine Jd [(0,.buf 2 [.agg [.str [],.aA]]),(3,.buf 2 [.agg [.str nm,.sl 11 []]])] (.id ah (.bf ah (.cons (.ag (.cons (.refl _) (.cons (.nil 11) .nil))) .nil) .nil)) ?_;refine aF ?_;refine bc hm (ι:=(Nat×List dm)) (fun p=>[⟨true,.sl 1 (l.map (D.int .i64))⟩,⟨true,.int .i64 i⟩,⟨true,.str nm⟩,⟨true,.int .i64 (most:Nat)⟩,⟨true,.ptr 0 2 0 0⟩,⟨true,.int .i64 (p.1:Nat)⟩,.un,⟨true,.ptr 1 2 0 0⟩,.un,.un,.un,.un]) (fun p=>[(0,.buf 2 [.agg [.str [],.aA]]),(1,.buf 2 [fm.D ⟨nm,p.2⟩])]) 20 (fun p=>p.1<=(eY l i ((most:Int)+1)).toNat/\p.2=wx l i p.1) (fun p=>(eY l i ((most:Int)+1)).toNat-p.1) (0,[]) ⟨Nat.zero_le _,rfl⟩ (aU.to [(0,0),(3,1)] ah ah dV (by refine bh.gE ah ah ah ?_;refine bh.nl 3 ah ah rfl ah ?_;exact bh.nil)) ?_;rintro⟨k,es⟩ ⟨hk,he⟩;dsimp only at hk he⊢;have hfr:=dh l i ((most:Int)+1) ae;have hk60:k<=60:=ae;have hel:es.length<=k:=by rw[he];exact tD l i k
 have heg:∀x∈es,xW x:=by rw[he];exact wS l i k
 refine fW ?_;refine df (hc:=fun hf=>h228 l i ((most:Nat)+1) ae) ?_;refine aB ?_;refine aw (fun hc0=>?_) (fun hc0=>?_)
 .simp only[bp,aY]at hc0;refine aB ?_;have ho:=dh l (i+1+82*(k:Nat)+80) 4 aG;have hgr:=B4 l i k;refine aF ?_;refine nH ?_;refine aJ ?_;refine nH ?_;refine ay ?_;refine aj (hc:=h228 l (i+1+82*(k:Nat)+80) 4 aG) ?_;refine aE ?_;refine aj (hc:=h79 l (i+1+82*(k:Nat)) (1+eY l (i+1+82*(k:Nat)+80) 4) ae ae) ?_;refine aE ?_;refine a7 (Rec.D (og l i k)) (he:=bg) ?_;refine ay ?_;by_cases hput:(ey ⟨nm,es⟩ (og l i k)).2=0
  .refine cH (d:=fm.D ⟨nm,es⟩) ?_;refine cH (d:=Rec.D (og l i k)) ?_;refine b8 (nx':=51) (v:=.tup [.agg [.str nm,.own 52 11 0 (j4 ⟨nm,es⟩ (og l i k)).length],.int .i64 0]) (m':=[(52,.buf 11 ((j4 ⟨nm,es⟩ (og l i k)).map dm.D)),(0,.buf 2 [.agg [.str [],.aA]]),(1,.buf 2 [fm.D ⟨nm,es⟩]),(48,.buf 9 [Rec.D (og l i k)])]) (hc:=fun K' hK=>h504 ⟨nm,es⟩ (og l i k) ⟨fun x hx=>(heg x hx).m,hgr.2.2.2.2⟩ _ _ K' (fun h=>absurd hput h) (fun _=>hK)) (hn:=aG) ?_;refine aE ?_;refine kG _ ?_;refine ay ?_;refine a7 (.agg [.str nm,.own 52 11 0 (j4 ⟨nm,es⟩ (og l i k)).length]) (he:=bg) ?_;refine aH ?_;refine wp_cond (fun hc1=>?_) (fun hc1=>?_)
   .try simp only[eh]at hc1
    refine aE ?_;refine cH (d:=.agg [.str nm,.own 52 11 0 (j4 ⟨nm,es⟩ (og l i k)).length]) ?_;refine a7 (.agg [.str nm,.own 52 11 0 (j4 ⟨nm,es⟩ (og l i k)).length]) (he:=bg) ?_;refine aB ?_;refine bD (v:=.own 52 11 0 (j4 ⟨nm,es⟩ (og l i k)).length) ?_;refine aE ?_;refine bD (v:=.own 52 11 0 (j4 ⟨nm,es⟩ (og l i k)).length) ?_;refine lL ?_;refine IK (hb:=fun _=>by simp only[j4,bJ,az,aC];omega) ?_;refine aF ?_;refine nH ?_;refine ay ?_;refine aj (hc:=h228 l (i+1+82*(k:Nat)+81) 9 aG) ?_;refine aE ?_;refine im es.length (hj:=fun _=>by simp[j4]) (hb:=fun _=>by simp[j4]) ?_;refine aE ?_;refine tQ ((es++[(⟨(og l i k),ju (og l i k),YW l i k⟩:dm)]).map dm.D) (hi:=by simp[j4]) (he:=by rw[cd];exact stY es _ _) ?_;refine bM ?_;rw[show(j4 ⟨nm,es⟩ (og l i k)).length=(es++[(⟨(og l i k),ju (og l i k),YW l i k⟩:dm)]).length by simp[j4]];exact⟨(k+1,es++[⟨(og l i k),ju (og l i k),YW l i k⟩]),⟨dP,by dsimp only;rw[he]at hput⊢;exact(Ra hp0.2.2 ae hput).symm⟩,dP,(aU.fz 52 ah dW (by simp only[sX,mJ,oe,uy,yu,dy,Nat.reduceEqDiff,bo,br,fR,dS,dT,fP,fQ,cd,cb,aS,de,bX,reduceCtorEq,az,aC,Nat.reduceAdd,Nat.reduceLeDiff];exact rfl) (by simp only[sX,mJ,oe,uy,yu,dy,Nat.reduceEqDiff,bo,br,fR,dS,dT,fP,fQ,cd,cb,aS,de,bX,reduceCtorEq,az,aC,Nat.reduceAdd,Nat.reduceLeDiff];exact rfl) (aU.to [(0,0),(1,1)] ah ah dV (by refine bh.gE ah ah ah ?_;refine bh.gE ah ah ah ?_;exact bh.nil)))⟩
   exact absurd hc1 aG
  .refine cH (d:=fm.D ⟨nm,es⟩) ?_;refine cH (d:=Rec.D (og l i k)) ?_;refine b8 (nx':=50) (v:=.tup [.agg [.str [],.aA],.int .i64 (ey ⟨nm,es⟩ (og l i k)).2]) (m':=[(0,.buf 2 [.agg [.str [],.aA]]),(1,.buf 2 [fm.D ⟨nm,es⟩]),(48,.buf 9 [Rec.D (og l i k)])]) (hc:=fun K' hK=>h504 ⟨nm,es⟩ (og l i k) ⟨fun x hx=>(heg x hx).m,hgr.2.2.2.2⟩ _ _ K' (fun _=>hK) (fun h=>absurd h hput)) (hn:=aG) ?_;refine aE ?_;refine kG _ ?_;refine ay ?_;refine a7 (.agg [.str [],.aA]) (he:=bg) ?_;refine aH ?_;refine wp_cond (fun hc1=>?_) (fun hc1=>?_)
   .exact absurd (of_decide_eq_true hc1) hput
   try simp only[eh]at hc1
   refine bM ?_;exact⟨(k+1,es),⟨dP,by dsimp only;rw[he]at hput⊢;exact(UI hp0.2.2 ae hput).symm⟩,dP,(aU.to [(0,0),(1,1)] ah ah dV (by refine bh.gE ah ah ah ?_;refine bh.gE ah ah ah ?_;exact bh.nil))⟩
 simp only[dI,bA]at hc0;have hkf:k=(eY l i ((most:Int)+1)).toNat:=ae;refine aB ?_;refine cH (d:=fm.D ⟨nm,es⟩) ?_;refine a7 (fm.D ⟨nm,es⟩) (he:=bg) ?_;refine ay ?_;refine bE (?_);rw[he,hkf];rfl
def Fy (T:List D->D->Prop):Prop:=∀(l:List Int) (i:Int) (nm:au) (most:Nat),((0<=i/\i<=100000)/\most<=60/\du nm=true)->T [.sl 1 (l.map (D.int .i64)),.int .i64 i,.str nm,.int .i64 (most:Nat)] (fm.D (Qn l i nm most))
def Ss (Y:Ctx):Prop:=Fy (bq Y 1203)
def T4 (k:Nat)(es:List D):D->List (Nat×bG)->Prop:=fun d m=>∃j,d=.own j k 0 es.length/\look m j=some (.buf k es)
def MP (l:List bS)(i w:Nat):List D:=(l.map bS.D).set i (.agg [.own w 4 0 l[i]!.any.length,.str l[i]!.when',.str l[i]!.option])
def Ci (l:List bS)(i w:Nat):(MP l i w).length=l.length:=by simp[MP]
def Ch {l:List bS}{i w:Nat}(h:i<l.length):nU ((MP l i w).getD i .any) 3 1 0 false=.own w 4 0 l[i]!.any.length:=by
 unfold MP;rw[List.getD_eq_getElem?_getD,List.getElem?_set_self (by simpa using h)];rfl
def getM {α:Type} [Inhabited α]{q:α->D}{l:List α}{i:Nat}(h:i<l.length):(l.map q).getD i .any=q l[i]! :=by
 simp[h]
def stN {l:List bS}{i w:Nat}(h:i<l.length):(l.map bS.D).set i (qG ((l.map bS.D).getD i .any) 3 1 0 (.own w 4 0 l[i]!.any.length))=MP l i w:=by
 rw[getM h];rfl
def VD {α:Type} [Inhabited α]{q:α->D}{l:List α}{i:Nat}(h:i<l.length):(l.map q).set i (q l[i]!)=l.map q:=by
 refine List.ext_getElem aQ fun j h1 h2=>?_
 rw[List.getElem_set];split
 .rename_i e;subst e;simp[h]
 .rfl
def stW {l:List cg}{i:Nat}(h:i<l.length):(l.map cg.D).set i (qG ((l.map cg.D).getD i .any) 4 1 2 (.sl 1 (l[i]!.feats.map D.str)))=l.map cg.D:=by
 rw[getM h];exact VD h
def stFt {l:List bW}{i:Nat}(h:i<l.length):(l.map bW.D).set i (qG ((l.map bW.D).getD i .any) 2 1 1 (.sl 1 (l[i]!.of.map D.str)))=l.map bW.D:=by
 rw[getM h];exact VD h
def OE {lo w w':Nat}{σ:List (Nat×Nat)}{l:List bS}{i:Nat}(hw:mC lo σ w=some w'):nu lo σ (MP l i w)=some (MP l i w'):=by
 unfold MP;generalize l[i]!.any.length=n;generalize l[i]!.when'=a;generalize l[i]!.option=b;have h0:∀l:List bS,nu lo σ (l.map bS.D)=some (l.map bS.D):=by
  intro l;induction l with
  |nil=>rfl
  |cons x r ih=>simp only[List.map_cons,nu,ih];rfl
 induction l generalizing i with
 |nil=>rfl
 |cons x r ih=>
  cases i with
  |zero=>simp[List.set_cons_zero,nu,h0,qA,CJ,hw]
  |succ i=>
   have:=ih (i:=i);simp only[List.map_cons,List.set_cons_succ,nu,this];rfl
def OD {l:List bS}{i w:Nat}(h:i<l.length):oe w 4 (l[i]!.any.map cg.D) (MP l i w)=l.map bS.D:=by
 have h0:∀(es:List D) (l:List bS),oe w 4 es (l.map bS.D)=l.map bS.D:=by
  intro es l;induction l with
  |nil=>rfl
  |cons x r ih=>simp only[List.map_cons,oe,ih];rfl
 have h1:∀(es:List D) (l:List bS) (i:Nat) (d:D),oe w 4 es ((l.map bS.D).set i d)=(l.map bS.D).set i (mJ w 4 es d):=by
  intro es l;induction l with
  |nil=>intros;rfl
  |cons x r ih=>
   intro i d;cases i with
   |zero=>simp only[List.map_cons,List.set_cons_zero,oe,h0]
   |succ i=>simp only[List.map_cons,List.set_cons_succ,oe,ih];rfl
 unfold MP;rw[h1];have e:mJ w 4 (l[i]!.any.map cg.D) (.agg [.own w 4 0 l[i]!.any.length,.str l[i]!.when',.str l[i]!.option])=bS.D l[i]! :=by
  simp only[mJ,oe,dS,cd,cb,aS,bo,de];rw[dM aQ];rfl
 rw[e];exact VD h
def pT (r:Rec):Prop:=(r.needs.length<=1048576/\r.bars.length<=1048576/\r.feats.length<=1048576)/\(∀n∈r.needs,n.any.length<=1048576/\∀w∈n.any,w.feats.length<=1048576)/\∀f∈r.feats,f.of.length<=1048576
def ND {r:Rec}(h:r.fit):pT r:=by
 refine⟨⟨by have:=h.ns;omega,by have:=h.bs;omega,by have:=h.fs;omega⟩,fun n hn=>?_,fun f hf=>?_⟩
 .have:=h.n n hn;exact⟨by have:=this.1.1;omega,fun w hw=>by have:=(this.1.2 w hw).2.1;omega⟩
 .have:=(h.f f hf).2;omega
def AgaQ (s:fm):D->List (Nat×bG)->Prop:=fun d m=>∃j,d=.agg [.str s.name,.own j 11 0 s.es.length]/\look m j=some (.buf 11 (s.es.map dm.D))
def mD (l:List Int):fm:=Qn l 0 uT 5
def rZ (m:List Int):Rec:=yB m 0 2
def VQ:au:=[101,110,116,114,121,32]
def Oa (l m:List Int):((∀x∈(mD l).es,ew x.r)/\∀x∈(mD l).es,pT x.r)/\ew (rZ m)/\pT (rZ m):=by
 have ha:∀x∈(mD l).es,xW x:=fun x hx=>wU x hx
 have hm:=(tF m 0 2);exact⟨⟨fun x hx=>(ha x hx).m,fun x hx=>ND (rb ⟨lj (by rw[(ha x hx).c]),(ha x hx).m⟩)⟩,hm.sm,ND (rb ⟨lj (by rw[show cw (rZ m)=(0,0)from hm.check]),hm.sm⟩)⟩
def Gl (l m:List Int):(∀x∈(ey (mD l) (rZ m)).1.es,ew x.r)/\(¬(ey (mD l) (rZ m)).2=0->(ey (mD l) (rZ m)).2=8/\(gp (ey (mD l) (rZ m)).1).2=1)/\
  ((ey (mD l) (rZ m)).2=0->(gp (ey (mD l) (rZ m)).1).2=0/\(gp (ey (mD l) (rZ m)).1).1.length<=524288/\∃u,(gp (ey (mD l) (rZ m)).1).1=gH (mD l)++(VQ++u)):=by
 have hs:iR (mD l)=true:=ra uU aG;have hl:(mD l).es.length<=5:=HX;have hr:(cL (rZ m)).2=0:=by rw[rZ,(tF m 0 2).print]
 have hm:ew (rZ m):=(tF m 0 2).sm;have ha:∀x∈(mD l).es,ew x.r:=fun x hx=>(wU x hx).m
 have e:ey (mD l) (rZ m)=if 0<=qn (mD l).es (rZ m).name (rZ m).v 0 then(mE,8)else(⟨(mD l).name,j4 (mD l) (rZ m)⟩,0):=by
  unfold ey;rw[ai (by rw[hs];simp),ai (by rw[hr];simp)];split
  .rfl
  .rw[ai ae];rfl
 rw[e];split
 .exact⟨fun x hx=>(by cases hx),fun _=>⟨rfl,by decide+kernel⟩,fun h=>(by cases h)⟩
 .rename_i h1;have h2:iR ⟨(mD l).name,j4 (mD l) (rZ m)⟩=true:=Be (nm:=(mD l).name) (es:=(mD l).es) hs hr rfl (show qn (mD l).es (rZ m).name (rZ m).v 0<0 by omega) ae;have h3:=A6 h2;refine⟨fun x hx=>?_,fun h=>absurd rfl h,fun _=>⟨by rw[h3],by rw[h3];exact vo h2, ?_⟩⟩
  .rcases List.mem_append.1 hx with hx|hx
   .exact ha x hx
   .rw[cz.1 hx];exact hm
  .rw[h3];obtain⟨u,hu⟩:∃u,zV (⟨rZ m,ju (rZ m),false⟩:dm)=VQ++u:=by
    rw[B0];exact⟨_,by simp only[dx];rfl⟩
   refine⟨u, ?_⟩;show gH ⟨(mD l).name,j4 (mD l) (rZ m)⟩=_;unfold gH j4;rw[List.map_append,List.flatten_append,dx];simp only[List.map_cons,List.map_nil,List.flatten_cons,List.flatten_nil,jy,hu]
section
section
variable {Y:Ctx} {draw:Bool} {r:List GI} {env rs:List bL} {nx:Nat} {m:List (Nat×bG)} {K:List bL->St->Prop} {g:Option (Nat×Bool)} {f:Bool}
def Cw {x:Src}{d:D}(h:∀b,Zc d b->aK Y draw r env (⟨true,.bool b⟩::rs) nx m K)(hx:cx env rs x=⟨true,d⟩:=by exact rfl)(hs:Zu d:=by exact trivial):aK Y draw (⟨.isNl x,none⟩::r) env rs nx m K:=by
 unfold aK;show none=none/\(Src.ev env rs.reverse x).ok=true/\Zu (Src.ev env rs.reverse x).d/\∀b,Zc (Src.ev env rs.reverse x).d b->_
 rw[kY,hx];refine⟨rfl,rfl,hs,fun b hb=>?_⟩;have:=h b hb;unfold aK at this;simpa using this
end
end
def kj:aD:=⟨1,3,fY,[[.sl 3 [.sl 4 [.a,.a,.sl 1 [.a],.a],.a,.a]]],(sq (r1 [gm (.c (.aA))] 1 0) (sq (sq (r1 [gm s0,gn (.isNl l0)] 2 1) (.cond s2 (sq (r1 [gm (.c (.aA))] 1 0) .ret) .skip)) (sq (r1 [gn (.bsl 3 (.agg [.aA,.str [],.str []]) 0 []),gm s0,gn (.app 3 l0 l1),gm l2] 1 3) .ret)))⟩
def w862 {Y:Ctx}(hm:(Y.at 0).bU)(l:List bS)  (hp0:l.length<=1048576):bB (Y.at 0) kj.body (jT kj (T4 3 (l.map bS.D)):Ex->List bL->St->Prop) (fM kj [.sl 3 (l.map bS.D)]) ⟨0,[]⟩:=by
 show bB _ _ _ [⟨_,_⟩,_,_] _;refine ak ?_;refine aJ ?_;refine Cw (fun b hb=>?_);refine aE ?_;refine aw (fun hc0=>?_) (fun hc0=>?_)
 .obtain rfl:l=[]:=List.map_eq_nil_iff.1 (hb hc0);refine aF ?_;refine eX (env':=[.un,⟨true,.own 0 3 0 0⟩,.un]) (st':=⟨60,[(0,.buf 3 [])]⟩) (aU.to [] ah ah (.un (.ni (.inr ⟨_,_,_,rfl⟩) (.un .nil))) (.mt ah ah ah ah .nil)) ?_;refine aE ?_;refine cn trivial gu (cO ah (?_)) ah ⟨0,rfl,rfl⟩;all_goals rfl
 refine ay ?_;refine cS [] ?_;refine aE ?_;refine qu (l.map bS.D) (ha:=aS _) (he:=pJ.sl) (hz:=rfl) (hn:=by simp;rfl) (hb:=ae) ?_;refine aB ?_;refine cn trivial gu (cO ah (?_)) ah ⟨5,by rw[cb],bg⟩;all_goals rfl
def TU (Y:Ctx):Prop:=∀(l:List bS),l.length<=1048576->∀(nx:Nat) (m:List (Nat×bG)) (K:D->St->Prop),K (.own nx 3 0 l.length) ⟨nx+1,(nx,.buf 3 (l.map bS.D))::m⟩->Y.tr 862 [.sl 3 (l.map bS.D)] ⟨nx,m⟩ K
def kl:aD:=⟨1,3,fY,[[.sl 4 [.a,.a,.sl 1 [.a],.a]]],(sq (r1 [gm (.c (.aA))] 1 0) (sq (sq (r1 [gm s0,gn (.isNl l0)] 2 1) (.cond s2 (sq (r1 [gm (.c (.aA))] 1 0) .ret) .skip)) (sq (r1 [gn (.bsl 4 (.agg [.str [],.str [],.aA,.bool false]) 0 []),gm s0,gn (.app 4 l0 l1),gm l2] 1 3) .ret)))⟩
def w863 {Y:Ctx}(hm:(Y.at 0).bU)(l:List cg)  (hp0:l.length<=1048576):bB (Y.at 0) kl.body (jT kl (T4 4 (l.map cg.D)):Ex->List bL->St->Prop) (fM kl [.sl 4 (l.map cg.D)]) ⟨0,[]⟩:=by
 show bB _ _ _ [⟨_,_⟩,_,_] _;refine ak ?_;refine aJ ?_;refine Cw (fun b hb=>?_);refine aE ?_;refine aw (fun hc0=>?_) (fun hc0=>?_)
 .obtain rfl:l=[]:=List.map_eq_nil_iff.1 (hb hc0);refine aF ?_;refine eX (env':=[.un,⟨true,.own 0 4 0 0⟩,.un]) (st':=⟨60,[(0,.buf 4 [])]⟩) (aU.to [] ah ah (.un (.ni (.inr ⟨_,_,_,rfl⟩) (.un .nil))) (.mt ah ah ah ah .nil)) ?_;refine aE ?_;refine cn trivial gu (cO ah (?_)) ah ⟨0,rfl,rfl⟩;all_goals rfl
 refine ay ?_;refine cS [] ?_;refine aE ?_;refine qu (l.map cg.D) (ha:=aS _) (he:=pJ.sl) (hz:=rfl) (hn:=by simp;rfl) (hb:=ae) ?_;refine aB ?_;refine cn trivial gu (cO ah (?_)) ah ⟨5,by rw[cb],bg⟩;all_goals rfl
def TV (Y:Ctx):Prop:=∀(l:List cg),l.length<=1048576->∀(nx:Nat) (m:List (Nat×bG)) (K:D->St->Prop),K (.own nx 4 0 l.length) ⟨nx+1,(nx,.buf 4 (l.map cg.D))::m⟩->Y.tr 863 [.sl 4 (l.map cg.D)] ⟨nx,m⟩ K
def ki:aD:=⟨1,3,fY,[[.sl 2 [.a,.sl 1 [.a]]]],(sq (r1 [gm (.c (.aA))] 1 0) (sq (sq (r1 [gm s0,gn (.isNl l0)] 2 1) (.cond s2 (sq (r1 [gm (.c (.aA))] 1 0) .ret) .skip)) (sq (r1 [gn (.bsl 2 (.agg [.str [],.aA]) 0 []),gm s0,gn (.app 2 l0 l1),gm l2] 1 3) .ret)))⟩
def w864 {Y:Ctx}(hm:(Y.at 0).bU)(l:List bW)  (hp0:l.length<=1048576):bB (Y.at 0) ki.body (jT ki (T4 2 (l.map bW.D)):Ex->List bL->St->Prop) (fM ki [.sl 2 (l.map bW.D)]) ⟨0,[]⟩:=by
 show bB _ _ _ [⟨_,_⟩,_,_] _;refine ak ?_;refine aJ ?_;refine Cw (fun b hb=>?_);refine aE ?_;refine aw (fun hc0=>?_) (fun hc0=>?_)
 .obtain rfl:l=[]:=List.map_eq_nil_iff.1 (hb hc0);refine aF ?_;refine eX (env':=[.un,⟨true,.own 0 2 0 0⟩,.un]) (st':=⟨60,[(0,.buf 2 [])]⟩) (aU.to [] ah ah (.un (.ni (.inr ⟨_,_,_,rfl⟩) (.un .nil))) (.mt ah ah ah ah .nil)) ?_;refine aE ?_;refine cn trivial gu (cO ah (?_)) ah ⟨0,rfl,rfl⟩;all_goals rfl
 refine ay ?_;refine cS [] ?_;refine aE ?_;refine qu (l.map bW.D) (ha:=aS _) (he:=pJ.sl) (hz:=rfl) (hn:=by simp;rfl) (hb:=ae) ?_;refine aB ?_;refine cn trivial gu (cO ah (?_)) ah ⟨5,by rw[cb],bg⟩;all_goals rfl
def TW (Y:Ctx):Prop:=∀(l:List bW),l.length<=1048576->∀(nx:Nat) (m:List (Nat×bG)) (K:D->St->Prop),K (.own nx 2 0 l.length) ⟨nx+1,(nx,.buf 2 (l.map bW.D))::m⟩->Y.tr 864 [.sl 2 (l.map bW.D)] ⟨nx,m⟩ K
def vj:aD:=⟨1,3,fY,[[.sl 3 [.a,.a,.a]]],(sq (r1 [gm (.c (.aA))] 1 0) (sq (sq (r1 [gm s0,gn (.isNl l0)] 2 1) (.cond s2 (sq (r1 [gm (.c (.aA))] 1 0) .ret) .skip)) (sq (r1 [gn (.bsl 3 (.agg [.str [],.str [],.str []]) 0 []),gm s0,gn (.app 3 l0 l1),gm l2] 1 3) .ret)))⟩
def w577 {Y:Ctx}(hm:(Y.at 0).bU)  (l:List iT)  (hp0:l.length<=1048576):cZ Y vj (.sl 3 (l.map iT.D)) [.sl 3 (l.map iT.D)]:=by
 show bB _ _ _ [⟨_,_⟩,_,_] _;refine ak ?_;refine aJ ?_;refine Cw (fun b hb=>?_);refine aE ?_;refine aw (fun hc0=>?_) (fun hc0=>?_)
 .obtain rfl:l=[]:=List.map_eq_nil_iff.1 (hb hc0);refine aJ ?_;refine bE (?_);rfl
 refine ay ?_;refine cS [] ?_;refine aE ?_;refine qu (l.map iT.D) (ha:=aS _) (he:=pJ.sl) (hz:=rfl) (hn:=by simp;rfl) (hb:=ae) ?_;refine ay ?_;refine fV 5 ?_;refine aE ?_;refine bE (?_);rfl
def JY (T:List D->D->Prop):Prop:=∀(l:List iT),(l.length<=1048576)->T [.sl 3 (l.map iT.D)] (.sl 3 (l.map iT.D))
def WW (Y:Ctx):Prop:=JY (bq Y 577)
def CN:aD:=⟨1,16,[⟨1,some (9,true)⟩],[[.a,.a,.a,.a,.a,.a,.sl 3 [.sl 4 [.a,.a,.sl 1 [.a],.a],.a,.a],.sl 3 [.a,.a,.a],.sl 2 [.a,.sl 1 [.a]]]],(sq (rg [gb 9 s0,gb 9 (.c (.agg [.str [],.int .i64 0,.int .i64 0,.int .i64 0,.str [],.str [],.aA,.aA,.aA]))] [(2,0),(1,1)]) (sq (rg [gf 6 s2,gd l0,gn (.callM 862 [l1]),gf 6 s2,gt 1 l3 l2] []) (sq (sq (rg [gf 6 s2,gd l0,gl l1,gm bm] [(4,2),(3,3)]) (.block 0 (.loop (sq (r1 [aP s3 s4] 5 0) (sq (eO s5 0) (sq (.block 1 (sq (r1 [gm s3,gm l0] 6 1) (sq (r1 [gf 6 s2,gd l0,gm s6,ga 3 l1 l2,gm l3] 7 4) (sq (rg [gm s7,gm s7,gc l1,gf 0 l2,gd l3,gn (.callM 863 [l4]),gc l0,gf 0 l6,gt 1 l7 l5] []) (sq (rg [gm s7,gc l0,gf 0 l1,gd l2,gl l3,gm bm] [(9,4),(8,5)]) (.block 2 (.loop (sq (r1 [aP s8 s9] 10 0) (sq (eO iQ 2) (sq (.block 3 (sq (r1 [gm s8,gm l0] 11 1) (rt [gm s7,gc l0,gf 0 l1,gd l2,gm kH,gm s7,gc l5,gf 0 l6,gd l7,gm kH,ga 4 l8 l9,gf 2 l10,gd gF,gx 469 [iU] [[.sl 1 [.a]]],ga 4 l3 l4,gf 2 kE,gt 1 me jR] []))) (r1 [av s8 b7,gm l0] 8 1))))))))))) (r1 [av s3 b7,gm l0] 3 1))))))) (sq (rg [gf 7 s2,gd l0,gx 577 [l1] [[.sl 3 [.a,.a,.a]]],gf 7 s2,gt 1 l3 l2] []) (sq (rg [gf 8 s2,gd l0,gn (.callM 864 [l1]),gf 8 s2,gt 1 l3 l2] []) (sq (sq (rg [gf 8 s2,gd l0,gl l1,gm bm] [(13,2),(12,3)]) (.block 4 (.loop (sq (r1 [aP mS rJ] 14 0) (sq (eO rK 4) (sq (.block 5 (sq (r1 [gm mS,gm l0] 15 1) (rt [gf 8 s2,gd l0,gm xa,gf 8 s2,gd l3,gm xa,ga 2 l4 l5,gf 1 l6,gd l7,gx 469 [l8] [[.sl 1 [.a]]],ga 2 l1 l2,gf 1 l10,gt 1 gF l9] []))) (r1 [av mS b7,gm l0] 12 1))))))) (sq (rg [gk 9 true s2,gt 9 s1 l0] []) .ret)))))))⟩
def w716 (h469:WG Y)(h577:WW Y)(h862:TU Y)(h863:TV Y)(h864:TW Y)(r:Rec)  (hp0:pT r):cZ Y CN (Rec.D r) [Rec.D r]:=by
 show bB _ _ _ [⟨_,_⟩,_,_,_,_,_,_,_,_,_,_,_,_,_,_,_] _;obtain⟨⟨hn,hbs,hfs⟩,hna,hfo⟩:=hp0;refine ak ?_;refine aJ ?_;refine bD (v:=.sl 3 (r.needs.map bS.D)) ?_;refine b8 (nx':=3) (v:=.own 4 3 0 r.needs.length) (m':=[(4,.buf 3 (r.needs.map bS.D)),(0,.buf 9 [Rec.D r]),(1,.buf 9 [.agg [.str [],.int .i64 0,.int .i64 0,.int .i64 0,.str [],.str [],.aA,.aA,.aA]])]) (hc:=fun K' hK=>h862 r.needs (hn) _ _ K' hK) (hn:=aG) ?_;refine aE ?_;refine a7 (.agg [.str r.name,.int .i64 r.v.major,.int .i64 r.v.minor,.int .i64 r.v.patch,.str r.v.pre,.str r.v.build,.own 4 3 0 r.needs.length,.sl 3 (r.bars.map iT.D),.sl 2 (r.feats.map bW.D)]) (he:=bg) ?_;refine aF ?_;refine bD (v:=.own 4 3 0 r.needs.length) ?_;refine aE ?_;intro u0;refine ay ?_;refine bc hm (ι:=Nat) (fun i=>[.un,⟨true,.ptr 1 9 0 0⟩,⟨true,.ptr 0 9 0 0⟩,⟨true,.int .i64 (i:Nat)⟩,⟨true,.int .i64 (r.needs.length:Nat)⟩,.un,.un,.un,.un,.un,.un,.un,.un,.un,.un,.un]) (fun i=>[(0,.buf 9 [.agg [.str r.name,.int .i64 r.v.major,.int .i64 r.v.minor,.int .i64 r.v.patch,.str r.v.pre,.str r.v.build,.own 2 3 0 r.needs.length,.sl 3 (r.bars.map iT.D),.sl 2 (r.feats.map bW.D)]]),(1,.buf 9 [.agg [.str [],.int .i64 0,.int .i64 0,.int .i64 0,.str [],.str [],.aA,.aA,.aA]]),(2,.buf 3 (r.needs.map bS.D))]) 60 (fun i=>i<=r.needs.length) (fun i=>r.needs.length-i) 0 (Nat.zero_le _) (aU.to [(0,0),(1,1),(4,2)] ah ah dV (by refine bh.C9 ah ah ah ?_;refine bh.gE ah ah ah ?_;first|(refine bh.nl 4 ah ah rfl (bH (fun _=>rfl) _) ?_;exact bh.nil)|(refine bh.gE ah ah (bH (fun _=>rfl) _) ?_;exact bh.nil))) ?_;rintro i hi;refine aB ?_;refine cC (fun hc0=>?_) fun hc0=>?_
 .refine bM ?_;refine bD (v:=.own 2 3 0 r.needs.length) ?_;refine aE ?_;refine im i (hb:=fun _=>ae) ?_;refine aB ?_;have hai:=hna _ (bw (show i<r.needs.length by omega));refine aF ?_;refine nG (q:=bS.D) (xs:=r.needs) (v:=.sl 4 (r.needs[i]!.any.map cg.D)) (hi:=fun _=>ae) (hv:=fun _=>by rw[cd];rfl) ?_;refine b8 (nx':=69) (v:=.own 73 4 0 r.needs[i]!.any.length) (m':=[(73,.buf 4 (r.needs[i]!.any.map cg.D)),(0,.buf 9 [.agg [.str r.name,.int .i64 r.v.major,.int .i64 r.v.minor,.int .i64 r.v.patch,.str r.v.pre,.str r.v.build,.own 2 3 0 r.needs.length,.sl 3 (r.bars.map iT.D),.sl 2 (r.feats.map bW.D)]]),(1,.buf 9 [.agg [.str [],.int .i64 0,.int .i64 0,.int .i64 0,.str [],.str [],.aA,.aA,.aA]]),(2,.buf 3 (r.needs.map bS.D))]) (hc:=fun K' hK=>h863 r.needs[i]!.any (hai.1) _ _ K' hK) (hn:=aG) ?_;refine ay ?_;refine tQ (MP r.needs i 73) (hi:=by rw[cb];omega) (he:=by rw[cd];exact stN ae) ?_;refine aJ ?_;refine IH (v:=.own 73 4 0 r.needs[i]!.any.length) (hi:=fun _=>by rw[Ci];omega) (hv:=fun _=>by rw[cd];exact Ch ae) ?_;refine aE ?_;intro u1;refine ay ?_;refine nK hm (ι:=Nat) (fun k=>[.un,⟨true,.ptr 1 9 0 0⟩,⟨true,.ptr 0 9 0 0⟩,⟨true,.int .i64 (i:Nat)⟩,⟨true,.int .i64 (r.needs.length:Nat)⟩,.un,.un,⟨true,.ptr 2 3 (0+i) 0⟩,⟨true,.int .i64 (k:Nat)⟩,⟨true,.int .i64 (r.needs[i]!.any.length:Nat)⟩,.un,.un,.un,.un,.un,.un]) (fun k=>[(0,.buf 9 [.agg [.str r.name,.int .i64 r.v.major,.int .i64 r.v.minor,.int .i64 r.v.patch,.str r.v.pre,.str r.v.build,.own 2 3 0 r.needs.length,.sl 3 (r.bars.map iT.D),.sl 2 (r.feats.map bW.D)]]),(1,.buf 9 [.agg [.str [],.int .i64 0,.int .i64 0,.int .i64 0,.str [],.str [],.aA,.aA,.aA]]),(2,.buf 3 (MP r.needs i 3)),(3,.buf 4 (r.needs[i]!.any.map cg.D))]) 90 (fun k=>k<=r.needs[i]!.any.length) (fun k=>r.needs[i]!.any.length-k) 0 (Nat.zero_le _) (aU.to [(0,0),(1,1),(2,2),(73,3)] ah ah dV (by refine bh.C9 ah ah ah ?_;refine bh.gE ah ah ah ?_;refine bh.eq 2 ah ah (OE rfl) ?_;first|(refine bh.nl 73 ah ah rfl (bH (fun _=>rfl) _) ?_;exact bh.nil)|(refine bh.gE ah ah (bH (fun _=>rfl) _) ?_;exact bh.nil))) ?_;rintro k hk;refine aB ?_;refine cC (fun hc1=>?_) fun hc1=>?_
  .refine aW ?_;have hkf:=hai.2 _ (bw (show k<r.needs[i]!.any.length by omega));refine aB ?_;refine IH (v:=.own 3 4 0 r.needs[i]!.any.length) (hi:=fun _=>by rw[Ci];omega) (hv:=fun _=>by rw[cd];exact Ch ae) ?_;refine aF ?_;refine IH (v:=.own 3 4 0 r.needs[i]!.any.length) (hi:=fun _=>by rw[Ci];omega) (hv:=fun _=>by rw[cd];exact Ch ae) ?_;refine aE ?_;refine im k (hb:=fun _=>ae) ?_;refine aE ?_;refine nG (q:=cg.D) (xs:=r.needs[i]!.any) (v:=.sl 1 (r.needs[i]!.any[k]!.feats.map D.str)) (hi:=fun _=>ae) (hv:=fun _=>by rw[cd];rfl) ?_;refine aj (hc:=h469 r.needs[i]!.any[k]!.feats ae) ?_;refine im k (hb:=fun _=>ae) ?_;refine aE ?_;refine tQ (r.needs[i]!.any.map cg.D) (hi:=by rw[cb];omega) (he:=by rw[cd];exact stW ae) ?_;refine aW ?_;exact⟨k+1,ae,ae,(aU.to [(0,0),(1,1),(2,2),(3,3)] ah ah dV (by refine bh.C9 ah ah ah ?_;refine bh.gE ah ah ah ?_;refine bh.eq 2 ah ah (OE rfl) ?_;first|(refine bh.nl 73 ah ah rfl (bH (fun _=>rfl) _) ?_;exact bh.nil)|(refine bh.gE ah ah (bH (fun _=>rfl) _) ?_;exact bh.nil)))⟩
  refine aB ?_;have hil:i<r.needs.length:=ae;refine fV 3 ?_ (he:=by simp only[sX,mJ,oe,uy,yu,dy,Nat.reduceEqDiff,bo,br,fR,dS,dT,fP,fQ,cd,cb,aS,de,bX,reduceCtorEq,az,aC,Nat.reduceAdd,Nat.reduceLeDiff,OD hil];exact rfl) (hm:=by simp only[sX,mJ,oe,uy,yu,dy,Nat.reduceEqDiff,bo,br,fR,dS,dT,fP,fQ,cd,cb,aS,de,bX,reduceCtorEq,az,aC,Nat.reduceAdd,Nat.reduceLeDiff,OD hil];exact rfl);refine aJ ?_;exact⟨i+1,ae,ae,(aU.to [(0,0),(1,1),(2,2)] ah ah dV (by refine bh.C9 ah ah ah ?_;refine bh.gE ah ah ah ?_;first|(refine bh.nl 4 ah ah rfl (bH (fun _=>rfl) _) ?_;exact bh.nil)|(refine bh.gE ah ah (bH (fun _=>rfl) _) ?_;exact bh.nil)))⟩
 refine ay ?_;refine fV 2 ?_;refine ay ?_;refine bD (v:=.sl 3 (r.bars.map iT.D)) ?_;refine aj (hc:=h577 r.bars hbs) ?_;refine aE ?_;refine a7 (Rec.D r) (he:=bg) ?_;refine aB ?_;refine bD (v:=.sl 2 (r.feats.map bW.D)) ?_;refine b8 (nx':=67) (v:=.own 68 2 0 r.feats.length) (m':=[(68,.buf 2 (r.feats.map bW.D)),(0,.buf 9 [Rec.D r]),(1,.buf 9 [.agg [.str [],.int .i64 0,.int .i64 0,.int .i64 0,.str [],.str [],.aA,.aA,.aA]])]) (hc:=fun K' hK=>h864 r.feats (hfs) _ _ K' hK) (hn:=aG) ?_;refine aE ?_;refine a7 (.agg [.str r.name,.int .i64 r.v.major,.int .i64 r.v.minor,.int .i64 r.v.patch,.str r.v.pre,.str r.v.build,.sl 3 (r.needs.map bS.D),.sl 3 (r.bars.map iT.D),.own 68 2 0 r.feats.length]) (he:=bg) ?_;refine aF ?_;refine bD (v:=.own 68 2 0 r.feats.length) ?_;refine aE ?_;intro u2;refine ay ?_;refine bc hm (ι:=Nat) (fun j=>[.un,⟨true,.ptr 1 9 0 0⟩,⟨true,.ptr 0 9 0 0⟩,.un,.un,.un,.un,.un,.un,.un,.un,.un,⟨true,.int .i64 (j:Nat)⟩,⟨true,.int .i64 (r.feats.length:Nat)⟩,.un,.un]) (fun j=>[(0,.buf 9 [.agg [.str r.name,.int .i64 r.v.major,.int .i64 r.v.minor,.int .i64 r.v.patch,.str r.v.pre,.str r.v.build,.sl 3 (r.needs.map bS.D),.sl 3 (r.bars.map iT.D),.own 2 2 0 r.feats.length]]),(1,.buf 9 [.agg [.str [],.int .i64 0,.int .i64 0,.int .i64 0,.str [],.str [],.aA,.aA,.aA]]),(2,.buf 2 (r.feats.map bW.D))]) 90 (fun j=>j<=r.feats.length) (fun j=>r.feats.length-j) 0 (Nat.zero_le _) (aU.to [(0,0),(1,1),(68,2)] ah ah dV (by refine bh.C9 ah ah ah ?_;refine bh.gE ah ah ah ?_;first|(refine bh.nl 68 ah ah rfl (bH (fun _=>rfl) _) ?_;exact bh.nil)|(refine bh.gE ah ah (bH (fun _=>rfl) _) ?_;exact bh.nil))) ?_;rintro j hj;refine aB ?_;refine cC (fun hc2=>?_) fun hc2=>?_
 .refine aW ?_;have hjf:=hfo _ (bw (show j<r.feats.length by omega));refine aE ?_;refine bD (v:=.own 2 2 0 r.feats.length) ?_;refine ay ?_;refine bD (v:=.own 2 2 0 r.feats.length) ?_;refine aE ?_;refine im j (hb:=fun _=>ae) ?_;refine aE ?_;refine nG (q:=bW.D) (xs:=r.feats) (v:=.sl 1 (r.feats[j]!.of.map D.str)) (hi:=fun _=>ae) (hv:=fun _=>by rw[cd];rfl) ?_;refine aj (hc:=h469 r.feats[j]!.of ae) ?_;refine im j (hb:=fun _=>ae) ?_;refine aE ?_;refine tQ (r.feats.map bW.D) (hi:=by rw[cb];omega) (he:=by rw[cd];exact stFt ae) ?_;refine aW ?_;exact⟨j+1,ae,ae,(aU.to [(0,0),(1,1),(2,2)] ah ah dV (by refine bh.C9 ah ah ah ?_;refine bh.gE ah ah ah ?_;first|(refine bh.nl 68 ah ah rfl (bH (fun _=>rfl) _) ?_;exact bh.nil)|(refine bh.gE ah ah (bH (fun _=>rfl) _) ?_;exact bh.nil)))⟩
 refine ay ?_;refine fV 2 ?_;refine aE ?_;refine cH (d:=Rec.D r) ?_;refine a7 (Rec.D r) (he:=bg) ?_;refine ay ?_;refine bE (?_);rfl
def Kc (T:List D->D->Prop):Prop:=∀(r:Rec),(pT r)->T [Rec.D r] (Rec.D r)
def TP (Y:Ctx):Prop:=Kc (bq Y 716)
def qC:aD:=⟨1,9,[⟨1,some (2,true)⟩],[[.a,.sl 11 [.a,.a,.a,.a,.a,.a,.sl 3 [.sl 4 [.a,.a,.a,.a],.a,.a],.sl 3 [.a,.a,.a],.sl 2 [.a,.sl 1 [.a]],.a,.a]]],(sq (rg [gb 2 s0,gb 2 (.c (.agg [.str [],.aA]))] [(2,0),(1,1)]) (sq (r1 [gf 0 s2,gd l0,gn (.build [.str [],.aA] [(0,1,l1)]),gb 2 (.c (.agg [.str [],.aA])),gt 2 l3 l2] 7 3) (sq (sq (rg [gf 1 s2,gd l0,gl l1,gm bm] [(6,1),(4,2),(3,3)]) (.block 0 (.loop (sq (r1 [aP s3 s4] 5 0) (sq (eO s5 0) (sq (.block 1 (sq (r1 [ga 11 s6 s3,gk 11 true l0,gb 11 (.c (.agg [.str [],.int .i64 0,.int .i64 0,.int .i64 0,.str [],.str [],.aA,.aA,.aA,.int .u64 0,.bool false])),gt 11 l2 l1] 8 2) (rt [gf 1 s7,gd l0,gf 0 s8,gk 9 true l2,gx 716 [l3] [[.a,.a,.a,.a,.a,.a,.sl 3 [.sl 4 [.a,.a,.sl 1 [.a],.a],.a,.a],.sl 3 [.a,.a,.a],.sl 2 [.a,.sl 1 [.a]]]],gf 9 s8,gd l5,gf 10 s8,gd l7,gn (.build [.str [],.int .i64 0,.int .i64 0,.int .i64 0,.str [],.str [],.aA,.aA,.aA,.int .u64 0,.bool false] [(0,9,l4),(9,1,l6),(10,1,l8)]),gn (.bsl 11 (.agg [.str [],.int .i64 0,.int .i64 0,.int .i64 0,.str [],.str [],.aA,.aA,.aA,.int .u64 0,.bool false]) 1 [(0,l9)]),gn (.app 11 l1 l10),gf 1 s7,gt 1 iU gF] []))) (r1 [av s3 b7,gm l0] 3 1))))))) (sq (rg [gk 2 true s7,gt 2 s1 l0] []) .ret))))⟩
def w715 (s:fm)(h716:TP Y)(hp0:s.es.length<=64/\∀x∈s.es,pT x.r):bB (Y.at 0) qC.body (jT qC (AgaQ s):Ex->List bL->St->Prop) (fM qC [fm.D s]) ⟨0,[]⟩:=by
 show bB _ _ _ [⟨_,_⟩,_,_,_,_,_,_,_,_] _;refine ak ?_;refine aJ ?_;refine bD (v:=.str s.name) ?_;refine bI (.agg [.str s.name,.aA]) ?_;refine aE ?_;refine a7 (.agg [.str s.name,.aA]) (he:=bg) ?_;refine aF ?_;refine bD (v:=.sl 11 (s.es.map dm.D)) ?_;refine aE ?_;intro u0;refine ay ?_;refine bc hm (ι:=Nat) (fun i=>[.un,⟨true,.ptr 1 2 0 0⟩,⟨true,.ptr 0 2 0 0⟩,⟨true,.int .i64 (i:Nat)⟩,⟨true,.int .i64 (s.es.length:Nat)⟩,.un,⟨true,.sl 11 (s.es.map dm.D)⟩,⟨true,.ptr 2 2 0 0⟩,.un]) (fun i=>[(0,.buf 2 [fm.D s]),(1,.buf 2 [.agg [.str [],.aA]]),(2,.buf 2 [.agg [.str s.name,.own 3 11 0 (s.es.take i).length]]),(3,.buf 11 ((s.es.take i).map dm.D))]) 60 (fun i=>i<=s.es.length) (fun i=>s.es.length-i) 0 (Nat.zero_le _) (aU.to [(0,0),(1,1),(5,2)] ah ah nW (by refine bh.gE ah ah ah ?_;refine bh.gE ah ah ah ?_;refine bh.ni 5 ah ah (by exact⟨_,_,rfl,⟨_,rfl,⟨_,_,rfl,⟨rfl,rfl⟩,⟨_,_,rfl,Or.inr ⟨_,_,_,rfl⟩,rfl⟩⟩⟩,rfl⟩) ?_;refine bh.mt ah ah ah ah ?_;exact bh.nil)) ?_;rintro i hi;refine aB ?_;refine cC (fun hc0=>?_) fun hc0=>?_
 .refine aB ?_;refine cM i (hb:=fun _=>ae) ?_;refine cE (v:=dm.D s.es[i]!) (hi:=fun _=>ae) ?_;refine aE ?_;refine a7 (dm.D s.es[i]!) (he:=bg) ?_;refine ay ?_;have hti:(s.es.take i).length=i:=by rw[fA];omega
  have hcp:=hp0.2 _ (bw (show i<s.es.length by omega));refine aE ?_;refine bD (v:=.own 3 11 0 (s.es.take i).length) ?_;refine aE ?_;refine bD (v:=Rec.D s.es[i]!.r) ?_;refine aj (hc:=h716 s.es[i]!.r hcp) ?_;refine aF ?_;refine bI (dm.D s.es[i]!) ?_;refine cS [dm.D s.es[i]!] ?_;refine nb (q:=dm.D) (xs:=s.es.take i) (e:=s.es[i]!) (hb:=ae) ?_;refine aE ?_;refine a7 (.agg [.str s.name,.own 76 11 0 (s.es.take i++[s.es[i]!]).length]) (he:=bg) ?_;refine aW ?_;have hts:s.es.take i++[s.es[i]!]=s.es.take (i+1):=by rw[List.take_add_one,List.getElem?_eq_getElem ae,getElem!_pos s.es i ae];rfl
  rw[hts];exact⟨i+1,ae,ae,(aU.to [(0,0),(1,1),(2,2),(76,3)] ah ah nW (by refine bh.gE ah ah ah ?_;refine bh.gE ah ah ah ?_;refine bh.C9 ah ah ah ?_;refine bh.nl 76 ah ah rfl (bH (fun _=>rfl) _) ?_;exact bh.nil))⟩
 refine aB ?_;obtain rfl:i=s.es.length:=ae;rw[List.take_length];refine cH (d:=.agg [.str s.name,.own 3 11 0 s.es.length]) ?_;refine a7 (.agg [.str s.name,.own 3 11 0 s.es.length]) (he:=bg) ?_;refine ay ?_;refine cn trivial Af (cO ah (?_)) ah ⟨3,rfl,bg⟩;rfl
def TO (Y:Ctx):Prop:=∀(s:fm),(s.es.length<=64/\∀x∈s.es,pT x.r)->∀(nx:Nat) (m:List (Nat×bG)) (K:D->St->Prop),K (.agg [.str s.name,.own nx 11 0 s.es.length]) ⟨nx+1,(nx,.buf 11 (s.es.map dm.D))::m⟩->Y.tr 715 [fm.D s] ⟨nx,m⟩ K
def Mo:aD:=⟨2,13,[⟨2,some (2,true)⟩,⟨3,none⟩],[[.a,.sl 11 [.a,.a,.a,.a,.a,.a,.sl 3 [.sl 4 [.a,.a,.a,.a],.a,.a],.sl 3 [.a,.a,.a],.sl 2 [.a,.sl 1 [.a]],.a,.a]],[.a]],(sq (rg [gb 2 s0,gb 9 s1,gb 2 (.c (.agg [.str [],.aA])),gm bm] [(4,0),(6,1),(2,2),(3,3)]) (sq (sq (r1 [gk 2 true s4,gx 353 [l0] [[.a,.sl 11 [.a,.a,.a,.a,.a,.a,.sl 3 [.sl 4 [.a,.a,.a,.a],.a,.a],.sl 3 [.a,.a,.a],.sl 2 [.a,.sl 1 [.a]],.a,.a]]],kD l1] 5 2) (.cond s5 (sq (r1 [gn (.build [.str [],.aA] []),gt 2 s2 l0,gm b7] 3 2) .ret) .skip)) (sq (rg [gk 9 true s6,gx 74 [l0] [[.a,.a,.a,.a,.a,.a,.sl 3 [.sl 4 [.a,.a,.sl 1 [.a],.a],.a,.a],.sl 3 [.a,.a,.a],.sl 2 [.a,.sl 1 [.a]]]],gm l1,ge l2 0,ge l2 1,gm l3,gm l4] [(12,5),(7,6)]) (sq (.block 0 (sq (r1 [gm s7,cj l0 bm,gm l1] 8 2) (.cond s8 (sq (r1 [gn (.build [.str [],.aA] []),gm s7,gt 2 s2 l0,gm l1] 3 3) .ret) (sq (r1 [gf 1 s4,gd l0,gf 0 s6,gd l2,gf 1 s6,gk 5 true l4,gx 511 [l1,l3,l5] [[.sl 11 [.a,.a,.a,.a,.a,.a,.sl 3 [.sl 4 [.a,.a,.sl 1 [.a],.a],.a,.a],.sl 3 [.a,.a,.a],.sl 2 [.a,.sl 1 [.a]],.a,.a]],[.a],[.a,.a,.a,.a,.a]],fN l6 bm,gm l7] 9 8) (.cond s9 (sq (r1 [gn (.build [.str [],.aA] []),gt 2 s2 l0,gm C7] 3 2) .ret) (sq (r1 [gf 1 s4,gd l0,gl l1,fN l2 (i6 64),gm l3] 10 4) (.cond iQ (sq (r1 [gn (.build [.str [],.aA] []),gt 2 s2 l0,gm (i6 10)] 3 2) .ret) .skip))))))) (sq (r1 [gk 2 true s4,gn (.callM 715 [l0]),gb 2 (.c (.agg [.str [],.aA])),gt 2 l2 l1] 11 2) (sq (rt [gf 1 kH,gd l0,gk 9 true s6,gx 716 [l2] [[.a,.a,.a,.a,.a,.a,.sl 3 [.sl 4 [.a,.a,.sl 1 [.a],.a],.a,.a],.sl 3 [.a,.a,.a],.sl 2 [.a,.sl 1 [.a]]]],gm mS,gn (.build [.str [],.int .i64 0,.int .i64 0,.int .i64 0,.str [],.str [],.aA,.aA,.aA,.int .u64 0,.bool false] [(0,9,l3),(9,1,l4)]),gn (.bsl 11 (.agg [.str [],.int .i64 0,.int .i64 0,.int .i64 0,.str [],.str [],.aA,.aA,.aA,.int .u64 0,.bool false]) 1 [(0,l5)]),gn (.app 11 l1 l6),gf 1 kH,gt 1 l8 l7] []) (sq (r1 [gk 2 true kH,gt 2 s2 l0,gm bm] 3 2) .ret)))))))⟩
def w538 {Y:Ctx}(hm:(Y.at 0).bU)(h74:C74 Y)(h353:Tr Y)(h511:Ty Y)(h715:TO Y)(h716:TP Y)(s:fm)(r:Rec)  (hp0:((∀x∈s.es,ew x.r)/\∀x∈s.es,pT x.r)/\ew r/\pT r):cZ Y Mo (.tup [fm.D (ey s r).1,.int .i64 (ey s r).2]) [fm.D s,Rec.D r]:=by
 show bB _ _ _ [⟨_,_⟩,⟨_,_⟩,_,_,_,_,_,_,_,_,_,_,_] _;refine ak ?_;refine aW ?_;refine cH (d:=fm.D s) ?_;refine aj (hc:=h353 s hp0.1.1) ?_;refine ay ?_;refine aw (fun hc0=>?_) (fun hc0=>?_)
 .simp only[eh]at hc0;have hz:ey s r=(mE,1):=by unfold ey;rw[ax hc0]
  refine ay ?_;refine cW _ ?_;refine aF ?_;refine bE (aN ?_ (ar (D.int .i64) ?_));all_goals first|rfl|(rw[hz];done)|(rw[hz];rfl)
 simp only[eh]at hc0;have hq0:¬iR s=false:=by rw[hc0];simp
 refine ay ?_;refine cH (d:=Rec.D r) ?_;refine aj (hc:=h74 r hp0.2.1) ?_;refine gJ ?_;refine wp_cond (fun hc1=>?_) (fun hc1=>?_)
 .simp only[eh]at hc1;have hz:ey s r=(mE,(cL r).2):=by unfold ey;rw[ai hq0,ax hc1]
  refine aE ?_;refine cW _ ?_;refine aH ?_;refine bE (aN ?_ (ar (D.int .i64) ?_));all_goals first|rfl|(rw[hz];done)|(rw[hz];rfl)
 simp only[eh]at hc1;have hq1:¬¬(cL r).2=0:=fun h=>h hc1
 refine ay ?_;refine bD (v:=.sl 11 (s.es.map dm.D)) ?_;refine aE ?_;refine bD (v:=.str r.name) ?_;refine aE ?_;refine bD (v:=c9.D r.v) ?_;refine aj (hc:=h511 s.es r.name r.v ⟨fun x hx=>(hp0.1.1 x hx).1.2,hp0.2.1.1.2⟩) ?_;refine aB ?_;refine wp_cond (fun hc2=>?_) (fun hc2=>?_)
 .simp only[eh]at hc2;have hz:ey s r=(mE,8):=by unfold ey;rw[ai hq0,ai hq1,ax hc2]
  refine aE ?_;refine cW _ ?_;refine aJ ?_;refine bE (aN ?_ (ar (D.int .i64) ?_));all_goals first|rfl|(rw[hz];done)|(rw[hz];rfl)
 simp only[eh]at hc2;refine ay ?_;refine bD (v:=.sl 11 (s.es.map dm.D)) ?_;refine aE ?_;intro u0;refine aB ?_;refine wp_cond (fun hc3=>?_) (fun hc3=>?_)
 .simp only[eh]at hc3;have hz:ey s r=(mE,10):=by unfold ey;rw[ai hq0,ai hq1,ai hc2,ax ae]
  refine aE ?_;refine cW _ ?_;refine aJ ?_;refine bE (aN ?_ (ar (D.int .i64) ?_));all_goals first|rfl|(rw[hz];done)|(rw[hz];rfl)
 simp only[eh]at hc3;have hz:ey s r=(⟨s.name,j4 s r⟩,0):=by unfold ey;rw[ai hq0,ai hq1,ai hc2,ai ae];rfl
 refine aB ?_;refine cH (d:=fm.D s) ?_;refine b8 (nx':=32) (v:=.agg [.str s.name,.own 32 11 0 s.es.length]) (m':=[(32,.buf 11 (s.es.map dm.D)),(0,.buf 2 [fm.D s]),(1,.buf 9 [Rec.D r]),(2,.buf 2 [.agg [.str [],.aA]])]) (hc:=fun K' hK=>h715 s ⟨ae,hp0.1.2⟩ _ _ K' hK) (hn:=aG) ?_;refine aE ?_;refine a7 (.agg [.str s.name,.own 32 11 0 s.es.length]) (he:=bg) ?_;refine aB ?_;refine bD (v:=.own 32 11 0 s.es.length) ?_;refine cH (d:=Rec.D r) ?_;refine aj (hc:=h716 r hp0.2.2) ?_;refine aE ?_;refine bI (dm.D (⟨r,ju r,false⟩:dm)) ?_;refine cS [dm.D (⟨r,ju r,false⟩:dm)] ?_;refine nb (q:=dm.D) (xs:=s.es) (e:=(⟨r,ju r,false⟩:dm)) (hb:=ae) ?_;refine aE ?_;refine a7 (.agg [.str s.name,.own 43 11 0 (s.es++[(⟨r,ju r,false⟩:dm)]).length]) (he:=bg) ?_;refine aE ?_;refine fV 43 ?_;refine aE ?_;refine cH (d:=fm.D ⟨s.name,j4 s r⟩) ?_;refine a7 (fm.D ⟨s.name,j4 s r⟩) (he:=bg) ?_;refine aB ?_;refine bE (aN ?_ (ar (D.int .i64) ?_));all_goals first|rfl|(rw[hz];done)|(rw[hz];rfl)
def JW (T:List D->D->Prop):Prop:=∀(s:fm) (r:Rec),(((∀x∈s.es,ew x.r)/\∀x∈s.es,pT x.r)/\ew r/\pT r)->T [fm.D s,Rec.D r] (.tup [fm.D (ey s r).1,.int .i64 (ey s r).2])
def WU (Y:Ctx):Prop:=JW (bq Y 538)
def uL:aD:=⟨2,11,[⟨2,none⟩],bR,(sq (r1 [gm dJ] 2 0) (sq (r1 [gm s0,gx 1203 [l0,bm,(cs [111,110,101]),Lg] [[.sl 1 [.a]],[.a],[.a],[.a]],gb 2 (.c (.agg [.str [],.aA])),gt 2 l2 l1] 3 2) (sq (rt [gk 2 true s3,gm s1,gx 79 [l1,bm,lQ] [[.sl 1 [.a]],[.a],[.a]],gx 538 [l0,l2] [[.a,.sl 11 [.a,.a,.a,.a,.a,.a,.sl 3 [.sl 4 [.a,.a,.a,.a],.a,.a],.sl 3 [.a,.a,.a],.sl 2 [.a,.sl 1 [.a]],.a,.a]],[.a,.a,.a,.a,.a,.a,.sl 3 [.sl 4 [.a,.a,.sl 1 [.a],.a],.a,.a],.sl 3 [.a,.a,.a],.sl 2 [.a,.sl 1 [.a]]]],gm l3,ge l4 0,ge l4 1,gb 2 (.c (.agg [.str [],.aA])),gt 2 l7 l5,gm l6] [(4,7),(5,9)]) (sq (rg [gk 2 true s3,gx 251 [l0] [[.a,.sl 11 [.a,.a,.a,.a,.a,.a,.sl 3 [.sl 4 [.a,.a,.a,.a],.a,.a],.sl 3 [.a,.a,.a],.sl 2 [.a,.sl 1 [.a]],.a,.a]]],gm l1,ge l2 0,ge l2 1,gm l3,gm l4] [(10,5),(7,6)]) (sq (rg [gk 2 true s4,gx 251 [l0] [[.a,.sl 11 [.a,.a,.a,.a,.a,.a,.sl 3 [.sl 4 [.a,.a,.a,.a],.a,.a],.sl 3 [.a,.a,.a],.sl 2 [.a,.sl 1 [.a]],.a,.a]]],gm l1,ge l2 0,ge l2 1,gm l3,gm l4] [(9,5),(8,6)]) (sq (sq (r1 [gm s5,cj l0 bm] 6 1) (.cond s6 (sq (r1 [gx 85 [] [],gm l0,gmt 1 s5,bT 1 (cB l2 C7),ei l1 l3,gm l4,gmt 5 s7,bT 5 (cB l6 bm),ei l5 l7,gm l8,gmt 9 s8,bT 9 (cB l10 b7),ei l9 gF,gm iU] 2 13) .ret) .skip)) (sq (r1 [gx 85 [] [],gm l0,gmt 1 s7,bT 1 (cB l2 bm),ei l1 l3,gm l4,gmt 5 s8,bT 5 (cB l6 bm),ei l5 l7,gm l8,gmt 9 s9,bT 9 (.lenS l10),gmt 9 iQ,bT 9 (.lenS iU),bT 9 (dY gF jR),ei l9 kE,gm me,gmt 16 s9,gmt 16 iQ,bT 16 (.lenS sY),bT 16 (.slS rF none (some uc)),gmt 16 iQ,bT 16 (cB zO AV),ei nC Da,gm Gu,gmt 24 s9,gmt 24 iQ,bT 24 (.lenS Om),gmt 24 iQ,bT 24 (.lenS SX),bT 24 (vE SY uE),bT 24 (.slS Lk (some Rv) (some VV)),bT 24 (cB Za (cs [101,110,116,114,121,32])),ei Ic Zb,gm l33] 2 34) .ret)))))))⟩
def ZQ {Y:Ctx}(hm:(Y.at 0).bU)(h79:C79 Y)(h85:C85 Y)(h251:To Y)(h538:WU Y)(h1203:Ss Y)(l:List Int)(m:List Int)   :cZ Y uL (.bool true) [.sl 1 (l.map (D.int .i64)),.sl 1 (m.map (D.int .i64))]:=by
 show bB _ _ _ [⟨_,_⟩,⟨_,_⟩,_,_,_,_,_,_,_,_,_] _;refine ak ?_;refine aF ?_;refine aj (v:=fm.D (mD l)) (hc:=h1203 l 0 uT 5 (by refine⟨ae,ae,uU⟩)) ?_;refine aE ?_;refine a7 (fm.D (mD l)) (he:=bg) ?_;refine aE ?_;have hg:=YY l 0 (n:=5) aG;obtain⟨g1,g2,g3⟩:=Gl l m;refine aE ?_;refine cH (d:=fm.D (mD l)) ?_;refine aE ?_;refine aj (v:=Rec.D (rZ m)) (hc:=h79 m 0 2 ae ae) ?_;refine aj (hc:=h538 (mD l) (rZ m) (Oa l m)) ?_;refine aE ?_;refine kG (fm.D _) ?_;refine ay ?_;refine a7 (fm.D (ey (mD l) (rZ m)).1) (he:=bg) ?_;refine aB ?_;refine cH (d:=fm.D (mD l)) ?_;refine aj (v:=.tup [.str (gH (mD l)),.int .i64 0]) (hc:=by have:=h251 (mD l) hg.m;rw[show gp (mD l)=(gH (mD l),0)from hg.p]at this;exact this) ?_;refine aW ?_;refine cH (d:=fm.D (ey (mD l) (rZ m)).1) ?_;refine aj (hc:=h251 (ey (mD l) (rZ m)).1 g1) ?_;refine fW ?_;refine aw (fun hc0=>?_) (fun hc0=>?_)
 .simp only[eh]at hc0;obtain⟨e1,e2⟩:=g2 hc0;refine ay ?_;refine aj (hc:=h85) ?_;refine wj ?_;refine bQ ?_;simp[e1,e2]
 simp only[eh]at hc0;obtain⟨e1,e2,u,e3⟩:=g3 hc0;have hb:(gH (mD l)).length+6<=(gp (ey (mD l) (rZ m)).1).1.length:=by rw[e3];simp only[bJ,VQ,az,aC];omega
 refine ay ?_;refine aj (hc:=h85) ?_;refine iw ?_;refine lL ?_;refine aE ?_;refine lL ?_;refine aJ ?_;refine lL ?_;refine oC (gH (mD l)).length (hb:=fun _=>ae) ?_;refine aH ?_;refine lL ?_;refine aE ?_;refine lL ?_;refine IB (hb:=fun _=>ae) ?_;refine tP (gH (mD l)).length ((gH (mD l)).length+6) ?_;refine aJ ?_;refine bQ ?_;have q1:(gp (ey (mD l) (rZ m)).1).1.take (gH (mD l)).length=gH (mD l):=by rw[e3,List.take_left]
 have q2:((gp (ey (mD l) (rZ m)).1).1.take ((gH (mD l)).length+6)).drop (gH (mD l)).length=VQ:=by rw[e3,<-dx,List.take_left' (by simp[VQ]),List.drop_left]
 simp[e2,q1,q2,VQ];omega
def Fx (T:List D->D->Prop):Prop:=∀(l:List Int) (m:List Int),T [.sl 1 (l.map (D.int .i64)),.sl 1 (m.map (D.int .i64))] (.bool true)
def DP:aD:=⟨1,25,[⟨1,some (2,true)⟩,⟨2,none⟩,⟨3,none⟩],[[.a,.sl 11 [.a,.a,.a,.a,.a,.a,.sl 3 [.sl 4 [.a,.a,.a,.a],.a,.a],.sl 3 [.a,.a,.a],.sl 2 [.a,.sl 1 [.a]],.a,.a]],[.a],[.a]],(sq (rg [gb 2 (.c (.agg [.str [],.aA])),gm bm,gm bm] [(1,0),(2,1),(3,2)]) (sq (sq (r1 [gm s0,px l0,cR l1 (i6 524288)] 4 2) (.cond s4 (sq (rg [gn (.build [.str [],.aA] []),gt 2 s1 l0,gm k9,gm bm] [(2,2),(3,3)]) .ret) .skip)) (sq (r1 [gm s0,gx 252 [l0] bR,gm l1] 5 2) (sq (sq (r1 [gm s5,gl l0,aL l1 bm] 6 2) (.cond s6 (sq (rg [gn (.build [.str [],.aA] []),gt 2 s1 l0,gm lQ,gm b7] [(2,2),(3,3)]) .ret) .skip)) (sq (rg [gm s5,ga 1 l0 bm,gd l1,gx 253 [l2] bR,gm l3,ge l4 0,ge l4 1,gm l5,gm l6] [(7,7),(8,8)]) (sq (rg [gm s7,gx 254 [l0,(cs [115,104,101,108,102,32])] gA,gm l1,ge l2 0,ge l2 1,gm l3,gm l4] [(10,5),(9,6)]) (sq (sq (r1 [gm s8,kD l0,gm l1,eW 2 s9,cF 2 (.un .not l3),fC l2 l4,gm l5,eW 6 iQ,cF 6 (.call 208 [l7] bR),cF 6 (.un .not l8),fC l6 l9] 11 10) (.cond kH (sq (rg [gn (.build [.str [],.aA] []),gt 2 s1 l0,gm lQ,gm b7] [(2,2),(3,3)]) .ret) .skip)) (sq (r1 [gm iQ,gn (.build [.str [],.aA] [(0,1,l0)]),gb 2 (.c (.agg [.str [],.aA])),gt 2 l2 l1] 20 2) (sq (r1 [gm b7] 12 0) (sq .skip (sq (.block 0 (.loop (sq (sq (r1 [gm mS,gm s5,gl l1,aP l0 l2] 13 3) (eO rJ 0)) (.block 1 (sq (rg [gm s5,gm mS,ga 1 l0 l1,gd l2,gx 255 [l3] bR,gm l4,ge l5 0,ge l5 1,ge l5 2,gm l6,gm l7,gm l8] [(22,9),(24,10),(14,11)]) (sq (sq (r1 [gm rK,kD l0] 15 1) (.cond xa (sq (rg [gn (.build [.str [],.aA] []),gm mS,av l1 b7,gt 2 s1 l0,gm lQ,gm l2] [(2,4),(3,5)]) .ret) .skip)) (sq (r1 [gm mS,av l0 b7,gm l1] 16 2) (sq (.block 2 (.loop (sq (sq (r1 [gm FI,gm s5,gl l1,aP l0 l2,gm l3,gmt 4 s5,gmt 4 FI,bT 4 (.ia 1 l5 l6),kZ 4 l7,bT 4 (.call 256 [l8] bR),bT 4 (.un .not l9),ei l4 l10] 17 11) (eO ET 2)) (.block 3 (r1 [gm FI,av l0 b7,gm l1] 16 2))))) (sq (rg [gm s5,gm mS,av l1 b7,gm FI,gn (.slA 1 l0 (some l2) (some l3)),gx 242 [l4,cse] [[.sl 1 [.a]],[.a]],gx 76 [l5] bR,gm l6,ge l7 0,ge l7 1,ge l7 2,gb 9 (.c (.agg [.str [],.int .i64 0,.int .i64 0,.int .i64 0,.str [],.str [],.aA,.aA,.aA])),gt 9 gF l8,gm l9,gm l10] [(21,11),(18,13)]) (sq (sq (r1 [gm Ml,aL l0 bm] 19 1) (.cond VB (r1 [gk 2 true IW,gk 9 true VZ,gm V0,gx 257 [l0,l1,l2] [[.a,.sl 11 [.a,.a,.a,.a,.a,.a,.sl 3 [.sl 4 [.a,.a,.a,.a],.a,.a],.sl 3 [.a,.a,.a],.sl 2 [.a,.sl 1 [.a]],.a,.a]],[.a,.a,.a,.a,.a,.a,.sl 3 [.sl 4 [.a,.a,.sl 1 [.a],.a],.a,.a],.sl 3 [.a,.a,.a],.sl 2 [.a,.sl 1 [.a]]],[.a]],gm l3] 18 4) .skip)) (sq (sq (r1 [gm Ml,cj l0 bm] 23 1) (.cond s23 (sq (rg [gn (.build [.str [],.aA] []),gm Ml,gm mS,av l2 b7,gt 2 s1 l0,gm l1,gm l3] [(2,5),(3,6)]) .ret) .skip)) (sq (rg [gf 1 IW,gd l0,gk 9 true VZ,gm V0,gm VC,gn (.build [.str [],.int .i64 0,.int .i64 0,.int .i64 0,.str [],.str [],.aA,.aA,.aA,.int .u64 0,.bool false] [(0,9,l2),(9,1,l3),(10,1,l4)]),gn (.bsl 11 (.agg [.str [],.int .i64 0,.int .i64 0,.int .i64 0,.str [],.str [],.aA,.aA,.aA,.int .u64 0,.bool false]) 1 [(0,l5)]),gn (.app 11 l1 l6),gf 1 IW,gt 1 l8 l7] []) (sq (r1 [gm FI,gm l0] 12 1) (.exit 1)))))))))))))) (sq (rg [gk 2 true IW,gt 2 s1 l0,gm bm,gm bm] [(2,2),(3,3)]) .ret))))))))))))⟩
def ZT (h208:Ko Y)(h252:We Y)(h253:Tp Y)(h254:Tq Y)(h255:Wf Y)(s:au)  (hp0:s.length<=1048576)(hp1:noE s):cZ Y DP (.tup [fm.D (nv s).1,.int .i64 (nv s).2.1,.int .i64 (nv s).2.2]) [.str s]:=by
 show bB _ _ _ [⟨_,_⟩,_,_,_,_,_,_,_,_,_,_,_,_,_,_,_,_,_,_,_,_,_,_,_,_] _;refine ak ?_;refine bM ?_;intro u0;refine ay ?_;refine aw (fun hc0=>?_) (fun hc0=>?_)
 .simp only[eh]at hc0;have hz:=Ms (s:=s) ae;refine ay ?_;refine cW _ ?_;refine aJ ?_;refine bE (gW ?_ (ar (D.int .i64) ?_) (ar (D.int .i64) ?_));all_goals
   rw[hz];first|done|rfl
 simp only[eh]at hc0;have g0:¬524288<s.length:=ae;refine aB ?_;refine aj (hc:=h252 s hp0) ?_;refine aH ?_;intro u1;refine ay ?_;refine aw (fun hc1=>?_) (fun hc1=>?_)
 .simp only[eh]at hc1;have hz:=Mt g0 ae;refine ay ?_;refine cW _ ?_;refine aJ ?_;refine bE (gW ?_ (ar (D.int .i64) ?_) (ar (D.int .i64) ?_));all_goals
   rw[hz];first|done|rfl
 simp only[eh]at hc1;have g1:¬(eE s).length=0:=ae;have g2:=Ix (s:=s) (i:=0) ae;have g3:=sU (eE s)[0]!;refine aB ?_;refine cM 0 (hb:=fun _=>ae) ?_;refine cE (v:=.str (eE s)[0]!) (hi:=fun _=>ae) ?_;refine aj (hc:=h253 (eE s)[0]! ae) ?_;refine bM ?_;refine aj (hc:=h254 (bP (eE s)[0]!).1 [115,104,101,108,102,32] ae aG) ?_;refine zK ?_;refine df (hc:=fun hf=>h208 (cQ (bP (eE s)[0]!).1 [115,104,101,108,102,32]).1) ?_;refine aB ?_;refine aw (fun hc2=>?_) (fun hc2=>?_)
 .simp only[eh]at hc2;have hz:=Mr g0 g1 (by rintro⟨⟨h1,h2⟩,h3⟩;rcases hc2 with(h|h)|h<;>simp_all);refine ay ?_;refine cW _ ?_;refine aJ ?_;refine bE (gW ?_ (ar (D.int .i64) ?_) (ar (D.int .i64) ?_));all_goals
   rw[hz];first|done|rfl
 simp only[eh]at hc2;have hz:=Mq g0 g1 hc2;rw[Mj]at hz;refine aB ?_;refine bI (.agg [.str (cQ (bP (eE s)[0]!).1 [115,104,101,108,102,32]).1,.aA]) ?_;refine aE ?_;refine a7 (.agg [.str (cQ (bP (eE s)[0]!).1 [115,104,101,108,102,32]).1,.aA]) (he:=bg) ?_;refine aJ ?_;refine bc hm (ι:=Unit) (fun _=>[⟨true,.str s⟩,⟨true,.ptr 0 2 0 0⟩,.un,.un,.un,⟨true,.sl 1 ((eE s).map D.str)⟩,.un,.un,.un,.un,.un,.un,⟨true,.int .i64 1⟩,.un,.un,.un,.un,.un,.un,.un,⟨true,.ptr 1 2 0 0⟩,.un,.un,.un,.un]) (fun _=>[(0,.buf 2 [.agg [.str [],.aA]]),(1,.buf 2 [.agg [.str (cQ (bP (eE s)[0]!).1 [115,104,101,108,102,32]).1,.aA]])]) 60 (fun _=>True) (fun _=>0) () trivial (aU.to [(0,0),(41,1)] ah ah dV (by refine bh.gE ah ah ah ?_;refine bh.nl 41 ah ah rfl ah ?_;exact bh.nil)) ?_;rintro _-
 refine aJ ?_;intro u2;refine ay ?_;refine cC (fun hc3=>?_) fun hc3=>?_
 .refine aB ?_;have g4:=Ix (s:=s) (i:=1) ae;refine ay ?_;refine cM 1 (hb:=fun _=>ae) ?_;refine cE (v:=.str (eE s)[1]!) (hi:=fun _=>ae) ?_;refine aj (hc:=h255 (eE s)[1]! ae) ?_;refine nM ?_;refine cC (fun hc4=>?_) fun hc4=>?_
  .refine ay ?_;refine cW _ ?_;refine cU ?_;refine bE (gW ?_ (ar (D.int .i64) ?_) (ar (D.int .i64) ?_));all_goals
    rw[hz,Hk ae (hp1 1 ae ae),NT aG];first|done|rfl
  exact absurd ((hc4).symm.trans (hp1 1 ae ae)) aG
 refine cU ?_;refine bE (gW ?_ (ar (D.int .i64) ?_) (ar (D.int .i64) ?_));all_goals
  rw[hz,Mk ae];first|done|rfl
def bt {p:Prop}(h:p:=by((repeat intro _);exact VY F8 (.inl (by assumption)) fun T hT=>(by apply hT<;>assumption))):p:=h
def bd {t:List (Nat×pM)}{key u q:Nat}:((under t key u).at q).bU:=wg t key u q
section
def Uv:List D->Nat
 |_::.int _ (.ofNat 4)::_=>3
 |_=>1
def A124 (T:RT):Prop:=Jg T/\FA T
def u811:List D->Nat:=fun ds=>2*(match ds.getD 1 .any with| .int _ i=>i.toNat|_=>0)
def u951:List D->Nat:=fun ds=>2*(match ds.getD 1 .any with| .int _ i=>i.toNat|_=>0)+1
def Zy:List D->Nat:=fun ds=>2*(match ds.getD 1 .any with| .int _ i=>i.toNat|_=>0)
def Xw:Xx (Cd Fx):=F8
def aX:List (Nat×pM):=[(70,rP 14 C1),(71,rP 14 C1),(72,rP 15 C2),(73,rP 15 C2),(74,rP 16 C3),(75,rP 16 C3),(79,rP 10 Qj),(85,rP 19 Qk),(124,rP 1 A124),(208,rP 1 xf),(209,rP 4 xg),(210,rP 13 xh),(211,rP 11 Jh),(212,rP 6 xi),(213,rP 3 xu),(214,rP 3 Ji),(215,rP 6 xj),(216,rP 2 xf),(217,rP 4 xg),(218,rP 13 Jj),(219,rP 6 xj),(220,rP 2 xk),(221,rP 2 xk),(227,rP 2 Jk),(228,rP 2 Jl),(229,rP 9 Jm),(230,rP 7 Jn),(231,rP 3 Jo),(232,rP 2 Jp),(239,rP 2 Jq),(242,rP 1 Jr),(244,rP 1 Js),(249,rP 1 Jt),(251,rP 18 Ju),(252,rP 3 Jv),(253,rP 2 Jw),(254,rP 1 Jx),(255,rP 3 Jy),(295,rP 5 xl),(316,rP 5 xt),(331,rP 1 Jz),(336,rP 1 ry),(349,rP 1 xm),(353,rP 17 xn),(357,rP 2 xm),(358,rP 17 xn),(424,rP 5 xl),(440,rP 1 xo),(441,rP 3 JA),(442,rP 2 JB),(443,rP 12 xp),(444,rP 10 xB),(445,rP 5 xq),(446,rP 5 xr),(447,rP 1 xQ),(448,rP 2 xI),(449,rP 2 xR),(450,rG 2 Tu),(451,rP 5 xt),(452,rG 1 Qv),(453,rP 1 JC),(454,rP 1 JD),(455,rP 1 xo),(456,rP 3 JE),(457,rP 12 xh),(458,rP 11 JF),(459,rP 5 xu),(460,rP 4 JG),(461,rP 2 JH),(462,rP 1 JI),(463,rP 1 JJ),(464,rP 1 JK),(469,rP 1 JL),(470,rP 1 xz),(478,rP 1 JM),(479,rP 1 JN),(480,rP 8 JO),(481,rP 2 JP),(482,rP 6 xS),(483,rP 1 JQ),(487,rP 1 JR),(489,rG 1 Qz),(495,rP 9 xN),(496,rP 8 xO),(497,rP 2 JS),(499,rP 1 JT),(501,rP 6 xM),(504,rG 18 Tx),(511,rP 9 xw),(516,rP 2 xx),(530,rP 1 JU),(531,rP 1 JV),(532,rP 2 xy),(533,rP 1 xz),(534,rP 3 xA),(538,rP 18 JW),(554,rP 3 JX),(572,rP 10 xB),(577,rP 1 JY),(580,rP 7 xw),(630,rP 1 xy),(631,rP 4 JZ),(658,rP 1 xD),(659,rP 1 xE),(660,rG 4 TD (Cf fun _=>4)),(661,rP 4 xF),(662,rP 3 xG),(663,rP 1 xU),(664,rG 1 TG),(665,rP 2 ry),(666,rP 1 J0),(667,rP 2 xD),(668,rP 1 xE),(669,rP 11 xp),(670,rP 7 xi),(671,rP 4 J1),(672,rP 3 xI),(673,rP 1 J2),(674,rP 1 J3),(676,rP 5 xJ),(677,rG 3 TM),(678,rP 1 xK),(682,rP 8 J4),(683,rP 1 J5),(684,rP 7 J6),(685,rP 8 xT),(686,rP 1 J7),(699,rP 8 J8),(700,rP 7 J9),(701,rP 6 xM),(704,rP 1 Ka),(714,rP 1 Kb),(715,rG 3 TO),(716,rP 2 Kc),(734,rP 2 ry),(744,rP 8 xN),(745,rP 9 xO),(783,rP 3 xA),(808,rG 4 C808 (Cf Uv)),(809,rG 4 C809 (Cf fun _=>2)),(810,rP 2 Kd),(811,rP 2 xP u811),(812,rP 3 Ke),(813,rP 6 xq),(814,rP 6 xr),(815,rP 1 xQ),(816,rP 2 xR),(819,rP 7 Kf),(827,rP 5 xJ),(828,rP 6 xS),(862,rG 1 TU),(863,rG 1 TV),(864,rG 1 TW),(882,rP 1 Kg),(896,rP 1 Kh),(897,rP 7 Ki),(898,rP 1 Kj),(899,rP 6 Kk),(900,rP 7 Kl),(901,rP 8 xT),(927,rP 1 xx),(946,rP 1 Km),(947,rG 2 Kt),(948,rG 1 M3),(949,rG 4 C949 (Cf fun _=>0)),(950,rP 1 Kn),(951,rP 2 Sj u951),(952,rG 4 T0 (Cf fun _=>2)),(953,rP 5 xF),(954,rP 3 xG),(955,rP 1 xU),(956,rP 1 ua),(957,rP 1 xK),(1006,rP 2 Fp),(1007,rP 1 Fq),(1008,rP 3 Fs),(1031,rG 3 MS),(1032,rG 4 V2 (Cf fun _=>1)),(1033,rG 1 Db),(1034,rG 1 Al),(1035,rP 4 Ft),(1036,rP 2 xP Zy),(1079,rP 1 ua),(1097,rG 4 V3 (Cf fun _=>0)),(1098,rP 3 Fu),(1099,rP 1 Fv),(1100,rP 1 Fw),(1126,rG 3 MW),(1141,rG 1 MX),(1200,rP 20 Fx),(1203,rP 19 Fy),(86,rP 4 Fz)]
variable {k u v:Nat}
def G70 (hk:14<k:=by decide):C70 (under aX k u):=bt
def G71 (hk:14<k:=by decide):C71 (under aX k u):=bt
def G72 (hk:15<k:=by decide):C72 (under aX k u):=bt
def G73 (hk:15<k:=by decide):C73 (under aX k u):=bt
def G74 (hk:16<k:=by decide):C74 (under aX k u):=bt
def G75 (hk:16<k:=by decide):C75 (under aX k u):=bt
def G79 (hk:10<k:=by decide):C79 (under aX k u):=bt
def G85 (hk:19<k:=by decide):C85 (under aX k u):=bt
def T7 (hk:1<k:=by decide):Qs (under aX k u):=fun s b hp=>VY F8 (.inl hk) fun T h=>h.1 s b hp
def Yn (hk:1<k:=by decide):Sw (under aX k u):=fun s hp=>VY F8 (.inl hk) fun T h=>h.2 s hp
def M7 (hk:1<k:=by decide):Ko (under aX k u):=bt
def M8 (hk:4<k:=by decide):Kq (under aX k u):=bt
def G210 (hk:13<k:=by decide):V4 (under aX k u):=bt
def XL (hk:11<k:=by decide):Th (under aX k u):=bt
def XM (hk:6<k:=by decide):Ti (under aX k u):=bt
def G213 (hk:3<k:=by decide):V5 (under aX k u):=bt
def G214 (hk:3<k:=by decide):V6 (under aX k u):=bt
def XN (hk:6<k:=by decide):Tj (under aX k u):=bt
def M9 (hk:2<k:=by decide):Kr (under aX k u):=bt
def Na (hk:4<k:=by decide):Ks (under aX k u):=bt
def G218 (hk:13<k:=by decide):V7 (under aX k u):=bt
def XO (hk:6<k:=by decide):Tk (under aX k u):=bt
def G220 (hk:2<k:=by decide):V8 (under aX k u):=bt
def G221 (hk:2<k:=by decide):V9 (under aX k u):=bt
def XP (hk:2<k:=by decide):Tl (under aX k u):=bt
def Kv (hk:2<k:=by decide):FL (under aX k u):=bt
def G229 (hk:9<k:=by decide):Wa (under aX k u):=bt
def XQ (hk:7<k:=by decide):Tm (under aX k u):=bt
def XR (hk:3<k:=by decide):Tn (under aX k u):=bt
def G232 (hk:2<k:=by decide):Wb (under aX k u):=bt
def G239 (hk:2<k:=by decide):Wc (under aX k u):=bt
def T8 (hk:1<k:=by decide):Qt (under aX k u):=bt
def G244 (hk:1<k:=by decide):Wd (under aX k u):=bt
def T9 (hk:1<k:=by decide):Qu (under aX k u):=bt
def XS (hk:18<k:=by decide):To (under aX k u):=bt
def G252 (hk:3<k:=by decide):We (under aX k u):=bt
def XT (hk:2<k:=by decide):Tp (under aX k u):=bt
def XU (hk:1<k:=by decide):Tq (under aX k u):=bt
def G255 (hk:3<k:=by decide):Wf (under aX k u):=bt
def G295 (hk:5<k:=by decide):Wg (under aX k u):=bt
def G316 (hk:5<k:=by decide):Wh (under aX k u):=bt
def G331 (hk:1<k:=by decide):Wi (under aX k u):=bt
def G336 (hk:1<k:=by decide):Wj (under aX k u):=bt
def Kw (hk:1<k:=by decide):FM (under aX k u):=bt
def XV (hk:17<k:=by decide):Tr (under aX k u):=bt
def Kx (hk:2<k:=by decide):FN (under aX k u):=bt
def G358 (hk:17<k:=by decide):Wk (under aX k u):=bt
def G424 (hk:5<k:=by decide):Wl (under aX k u):=bt
def G440 (hk:1<k:=by decide):Wm (under aX k u):=bt
def G441 (hk:3<k:=by decide):Wn (under aX k u):=bt
def XW (hk:2<k:=by decide):Ts (under aX k u):=bt
def G443 (hk:12<k:=by decide):Wo (under aX k u):=bt
def G444 (hk:10<k:=by decide):Wp (under aX k u):=bt
def G445 (hk:5<k:=by decide):Wq (under aX k u):=bt
def G446 (hk:5<k:=by decide):Wr (under aX k u):=bt
def G447 (hk:1<k:=by decide):Ws (under aX k u):=bt
def XX (hk:2<k:=by decide):Tt (under aX k u):=bt
def G449 (hk:2<k:=by decide):Wt (under aX k u):=bt
def G450 (hk:2<k:=by decide):Tu (under aX k u):=fun ws t l lw nx m K h1 h2 h3 h4 h5 hK=>uS (.inl hk) fun T _ h=>h ws t l lw nx m K h1 h2 h3 h4 h5 hK
def G451 (hk:5<k:=by decide):Wu (under aX k u):=bt
def XY (hk:1<k:=by decide):Qv (under aX k u):=fun ds st K h1=>uS (.inl hk) fun T _ h=>h ds st K h1
def XZ (hk:1<k:=by decide):Tv (under aX k u):=bt
def Ua (hk:1<k:=by decide):Qw (under aX k u):=bt
def G455 (hk:1<k:=by decide):Wv (under aX k u):=bt
def G456 (hk:3<k:=by decide):Ww (under aX k u):=bt
def G457 (hk:12<k:=by decide):Wx (under aX k u):=bt
def G458 (hk:11<k:=by decide):Wy (under aX k u):=bt
def G459 (hk:5<k:=by decide):Wz (under aX k u):=bt
def G460 (hk:4<k:=by decide):WA (under aX k u):=bt
def G461 (hk:2<k:=by decide):WB (under aX k u):=bt
def G462 (hk:1<k:=by decide):WC (under aX k u):=bt
def G463 (hk:1<k:=by decide):WD (under aX k u):=bt
def G464 (hk:1<k:=by decide):WE (under aX k u):=bt
def G469 (hk:1<k:=by decide):WG (under aX k u):=bt
def Ky (hk:1<k:=by decide):FO (under aX k u):=bt
def QG (hk:1<k:=by decide):MY (under aX k u):=bt
def Ub (hk:1<k:=by decide):Qx (under aX k u):=bt
def G480 (hk:8<k:=by decide):WH (under aX k u):=bt
def X0 (hk:2<k:=by decide):Tw (under aX k u):=bt
def Uc (hk:6<k:=by decide):Qy (under aX k u):=bt
def G483 (hk:1<k:=by decide):WI (under aX k u):=bt
def G487 (hk:1<k:=by decide):WJ (under aX k u):=bt
def X1 (hk:1<k:=by decide):Qz (under aX k u):=fun ds st K h1=>uS (.inl hk) fun T _ h=>h ds st K h1
def G495 (hk:9<k:=by decide):WK (under aX k u):=bt
def G496 (hk:8<k:=by decide):WL (under aX k u):=bt
def G497 (hk:2<k:=by decide):WM (under aX k u):=bt
def G499 (hk:1<k:=by decide):WN (under aX k u):=bt
def G501 (hk:6<k:=by decide):WO (under aX k u):=bt
def G504 (hk:18<k:=by decide):Tx (under aX k u):=fun s r hp0 nx m K hK1 hK2=>uS (.inl hk) fun T _ h=>h s r hp0 nx m K hK1 hK2
def X2 (hk:9<k:=by decide):Ty (under aX k u):=bt
def G516 (hk:2<k:=by decide):WQ (under aX k u):=bt
def G530 (hk:1<k:=by decide):WR (under aX k u):=bt
def G531 (hk:1<k:=by decide):WS (under aX k u):=bt
def X3 (hk:2<k:=by decide):Tz (under aX k u):=bt
def QH (hk:1<k:=by decide):MZ (under aX k u):=bt
def G534 (hk:3<k:=by decide):WT (under aX k u):=bt
def G538 (hk:18<k:=by decide):WU (under aX k u):=bt
def G554 (hk:3<k:=by decide):WV (under aX k u):=bt
def X4 (hk:10<k:=by decide):TA (under aX k u):=bt
def G577 (hk:1<k:=by decide):WW (under aX k u):=bt
def X5 (hk:7<k:=by decide):TB (under aX k u):=bt
def Ud (hk:1<k:=by decide):QA (under aX k u):=bt
def G631 (hk:4<k:=by decide):WX (under aX k u):=bt
def Ue (hk:1<k:=by decide):QB (under aX k u):=bt
def X6 (hk:1<k:=by decide):TC (under aX k u):=bt
def G660 (hk:4<k:=by decide):TD (under aX k u):=fun w nd hp0 nx lp ln m K h1 h2 h3 h4 hK=>uS (.inl hk) fun T _ h=>h w nd hp0 nx lp ln m K h1 h2 h3 h4 hK
def X7 (hv:v<=u):Su (under aX 4 u) v:=fun w nd hp0 hu nx lp ln m K h1 h2 h3 h4 hK=>uS (.inr ⟨rfl,by rw[show(lk aX 660 nt).muE=Cf fun _=>4 from rfl,m7 h1];exact eF hu hv⟩) fun T _ h=>h w nd hp0 nx lp ln m K h1 h2 h3 h4 hK
def X8 (hk:4<k:=by decide):TE (under aX k u):=bt
def X9 (hk:3<k:=by decide):TF (under aX k u):=bt
def G663 (hk:1<k:=by decide):WY (under aX k u):=bt
def G664 (hk:1<k:=by decide):TG (under aX k u):=fun ds st K h1=>uS (.inl hk) fun T _ h=>h ds st K h1
def Ya (hk:2<k:=by decide):TH (under aX k u):=bt
def G666 (hk:1<k:=by decide):WZ (under aX k u):=bt
def Uf (hk:2<k:=by decide):QC (under aX k u):=bt
def Yb (hk:1<k:=by decide):TI (under aX k u):=bt
def G669 (hk:11<k:=by decide):W0 (under aX k u):=bt
def Yc (hk:7<k:=by decide):TJ (under aX k u):=bt
def G671 (hk:4<k:=by decide):W1 (under aX k u):=bt
def Yd (hk:3<k:=by decide):TK (under aX k u):=bt
def G673 (hk:1<k:=by decide):W2 (under aX k u):=bt
def G674 (hk:1<k:=by decide):W3 (under aX k u):=bt
def Ye (hk:5<k:=by decide):TL (under aX k u):=bt
def G677 (hk:3<k:=by decide):TM (under aX k u):=fun c hp0 nx m K hK=>uS (.inl hk) fun T _ h=>h c hp0 nx m K hK
def Yf (hk:1<k:=by decide):TN (under aX k u):=bt
def G682 (hk:8<k:=by decide):W4 (under aX k u):=bt
def G683 (hk:1<k:=by decide):W5 (under aX k u):=bt
def Ug (hk:7<k:=by decide):QD (under aX k u):=bt
def G685 (hk:8<k:=by decide):W6 (under aX k u):=bt
def G686 (hk:1<k:=by decide):W7 (under aX k u):=bt
def G699 (hk:8<k:=by decide):W8 (under aX k u):=bt
def G700 (hk:7<k:=by decide):W9 (under aX k u):=bt
def G701 (hk:6<k:=by decide):Xa (under aX k u):=bt
def G704 (hk:1<k:=by decide):Xb (under aX k u):=bt
def G714 (hk:1<k:=by decide):Xc (under aX k u):=bt
def G715 (hk:3<k:=by decide):TO (under aX k u):=fun s hp0 nx m K hK=>uS (.inl hk) fun T _ h=>h s hp0 nx m K hK
def Yg (hk:2<k:=by decide):TP (under aX k u):=bt
def Yh (hk:2<k:=by decide):TQ (under aX k u):=bt
def G744 (hk:8<k:=by decide):Xd (under aX k u):=bt
def G745 (hk:9<k:=by decide):Xe (under aX k u):=bt
def G783 (hk:3<k:=by decide):Xf (under aX k u):=bt
def SB (hv:v<=u):M0 (under aX 4 u) v:=⟨fun w nd hp0 hu nx lp ln m K h1 h2 h3 h4 hK=>uS (.inr ⟨rfl,by rw[show(lk aX 808 nt).muE=Cf Uv from rfl,m7 h1];exact eF hu hv⟩) fun T _ h=>h.1 w nd hp0 nx lp ln m K h1 h2 h3 h4 hK,fun w nd hp0 hu nx lp ln m K h1 h2 h3 h4 hK=>uS (.inr ⟨rfl,by rw[show(lk aX 808 nt).muE=Cf Uv from rfl,m7 h1];exact eF hu hv⟩) fun T _ h=>h.2 w nd hp0 nx lp ln m K h1 h2 h3 h4 hK⟩
def Yi (hv:v<=u):Xg (under aX 4 u) v:=fun w nd hp0 hu nx lp ln m K h1 h2 h3 h4 hK=>uS (.inr ⟨rfl,by rw[show(lk aX 809 nt).muE=Cf fun _=>2 from rfl,m7 h1];exact eF hu hv⟩) fun T _ h=>h w nd hp0 nx lp ln m K h1 h2 h3 h4 hK
def G810 (hk:2<k:=by decide):Xh (under aX k u):=bt
def G811 (hk:2<k:=by decide):Xi (under aX k u):=bt
def SC (hv:v<=u):M1 (under aX 2 u) v:=fun l i hp0 hu=>VY F8 (.inr ⟨rfl,eF hu hv⟩) fun T hT=>hT l i hp0
def G812 (hk:3<k:=by decide):Xj (under aX k u):=bt
def G813 (hk:6<k:=by decide):Xk (under aX k u):=bt
def G814 (hk:6<k:=by decide):Xl (under aX k u):=bt
def Yj (hk:1<k:=by decide):TR (under aX k u):=bt
def G816 (hk:2<k:=by decide):Xm (under aX k u):=bt
def G819 (hk:7<k:=by decide):Xn (under aX k u):=bt
def Uh (hk:5<k:=by decide):QE (under aX k u):=bt
def Yk (hk:6<k:=by decide):TS (under aX k u):=bt
def G862 (hk:1<k:=by decide):TU (under aX k u):=fun l hp0 nx m K hK=>uS (.inl hk) fun T _ h=>h l hp0 nx m K hK
def G863 (hk:1<k:=by decide):TV (under aX k u):=fun l hp0 nx m K hK=>uS (.inl hk) fun T _ h=>h l hp0 nx m K hK
def G864 (hk:1<k:=by decide):TW (under aX k u):=fun l hp0 nx m K hK=>uS (.inl hk) fun T _ h=>h l hp0 nx m K hK
def G882 (hk:1<k:=by decide):Xo (under aX k u):=bt
def G896 (hk:1<k:=by decide):Xp (under aX k u):=bt
def G897 (hk:7<k:=by decide):Xq (under aX k u):=bt
def G898 (hk:1<k:=by decide):Xr (under aX k u):=bt
def Yl (hk:6<k:=by decide):TX (under aX k u):=bt
def Ui (hk:7<k:=by decide):QF (under aX k u):=bt
def G901 (hk:8<k:=by decide):Xs (under aX k u):=bt
def G927 (hk:1<k:=by decide):Xt (under aX k u):=bt
def Uj (hk:1<k:=by decide):TY (under aX k u):=bt
def QI (hk:2<k:=by decide):Kt (under aX k u):=fun w nd b nx lp ln m K h1 h2 h3 h4 hK=>uS (.inl hk) fun T _ h=>h w nd b nx lp ln m K h1 h2 h3 h4 hK
def QJ (hk:1<k:=by decide):M3 (under aX k u):=fun x w nd b hp0 nx lp ln m K h1 h2 h3 h4 hK=>uS (.inl hk) fun T _ h=>h x w nd b hp0 nx lp ln m K h1 h2 h3 h4 hK
def SD (hv:v<=u):Sx (under aX 4 u) v:=fun w nd hp0 hu nx lp ln m K h1 h2 h3 h4 hK=>uS (.inr ⟨rfl,by rw[show(lk aX 949 nt).muE=Cf fun _=>0 from rfl,m7 h1];exact eF hu hv⟩) fun T _ h=>h w nd hp0 nx lp ln m K h1 h2 h3 h4 hK
def Yo (hk:1<k:=by decide):TZ (under aX k u):=bt
def Yp (hv:v<=u):Sy (under aX 2 u) v:=fun l i b hp0 hu=>VY F8 (.inr ⟨rfl,eF hu hv⟩) fun T hT=>hT l i b hp0
def G952 (hk:4<k:=by decide):T0 (under aX k u):=fun W w nd hp0 hp1 nx lp ln m K h1 h2 h3 h4 hK=>uS (.inl hk) fun T _ h=>h W w nd hp0 hp1 nx lp ln m K h1 h2 h3 h4 hK
def Yq (hv:v<=u):Sz (under aX 4 u) v:=fun W w nd hp0 hp1 hu nx lp ln m K h1 h2 h3 h4 hK=>uS (.inr ⟨rfl,by rw[show(lk aX 952 nt).muE=Cf fun _=>2 from rfl,sA hp0.1 h1];exact eF hu hv⟩) fun T _ h=>h W w nd hp0 hp1 nx lp ln m K h1 h2 h3 h4 hK
def Yr (hk:5<k:=by decide):T1 (under aX k u):=bt
def Ys (hk:3<k:=by decide):T2 (under aX k u):=bt
def G955 (hk:1<k:=by decide):Xu (under aX k u):=bt
def G956 (hk:1<k:=by decide):Xv (under aX k u):=bt
def Yt (hk:1<k:=by decide):T3 (under aX k u):=bt
def Xz (hk:2<k:=by decide):Sk (under aX k u):=bt
def XA (hk:1<k:=by decide):Sl (under aX k u):=bt
def XB (hk:3<k:=by decide):Sm (under aX k u):=bt
def XC (hk:3<k:=by decide):MS (under aX k u):=fun k w nd b hp0 nx lp ln m K h1 h2 h3 h4 hK=>uS (.inl hk) fun T _ h=>h k w nd b hp0 nx lp ln m K h1 h2 h3 h4 hK
def T5 (hv:v<=u):MT (under aX 4 u) v:=fun W w nd hp0 hp1 hu nx lp ln m K h1 h2 h3 h4 hK=>uS (.inr ⟨rfl,by rw[show(lk aX 1032 nt).muE=Cf fun _=>1 from rfl,sA hp0.1 h1];exact eF hu hv⟩) fun T _ h=>h W w nd hp0 hp1 nx lp ln m K h1 h2 h3 h4 hK
def M5 (hk:1<k:=by decide):Db (under aX k u):=fun s W w nd b hp0 nx lp ln m K h1 h2 h3 h4 hK=>uS (.inl hk) fun T _ h=>h s W w nd b hp0 nx lp ln m K h1 h2 h3 h4 hK
def HD (hk:1<k:=by decide):Al (under aX k u):=fun x W w nd b hp0 nx lp ln m K h1 h2 h3 h4 hK=>uS (.inl hk) fun T _ h=>h x W w nd b hp0 nx lp ln m K h1 h2 h3 h4 hK
def XD (hk:4<k:=by decide):Sn (under aX k u):=bt
def XE (hk:2<k:=by decide):So (under aX k u):=bt
def T6 (hv:v<=u):MU (under aX 2 u) v:=fun l i hp0 hu=>VY F8 (.inr ⟨rfl,eF hu hv⟩) fun T hT=>hT l i hp0
def XF (hk:1<k:=by decide):Sp (under aX k u):=bt
def M6 (hv:v<=u):FK (under aX 4 u) v:=fun W w nd hp0 hp1 hu nx lp ln m K h1 h2 h3 h4 hK=>uS (.inr ⟨rfl,by rw[show(lk aX 1097 nt).muE=Cf fun _=>0 from rfl,sA hp0.1 h1];exact eF hu hv⟩) fun T _ h=>h W w nd hp0 hp1 nx lp ln m K h1 h2 h3 h4 hK
def XG (hk:3<k:=by decide):Sq (under aX k u):=bt
def SA (hk:1<k:=by decide):MV (under aX k u):=bt
def XH (hk:1<k:=by decide):Sr (under aX k u):=bt
def XI (hk:3<k:=by decide):MW (under aX k u):=fun W w nd hp0 hp1 nx lp ln m K h1 h2 h3 h4 hK=>uS (.inl hk) fun T _ h=>h W w nd hp0 hp1 nx lp ln m K h1 h2 h3 h4 hK
def XJ (hk:1<k:=by decide):MX (under aX k u):=fun W w nd b hp0 nx lp ln m K h1 h2 h3 h4 hK=>uS (.inl hk) fun T _ h=>h W w nd b hp0 nx lp ln m K h1 h2 h3 h4 hK
def XK (hk:19<k:=by decide):Ss (under aX k u):=bt
def Ym (hk:4<k:=by decide):Sv (under aX k u):=bt
end
def wC:List (Nat×Nat):=[(8,1200),(10,85),(11,251),(13,86),(16,1203),(17,478),(18,538),(19,79),(20,353),(21,489),(22,72),(23,497),(24,452),(25,358),(26,73),(28,252),(29,253),(30,254),(31,208),(32,255),(33,256),(34,76),(35,242),(36,257),(44,228),(45,504),(46,74),(47,511),(48,715),(49,716),(50,227),(51,229),(52,230),(53,231),(54,232),(56,70),(57,215),(58,686),(59,216),(60,75),(61,580),(62,71),(63,219),(64,239),(65,244),(67,124),(68,499),(69,487),(72,295),(73,470),(76,501),(77,249),(79,479),(80,220),(81,699),(82,700),(83,701),(84,862),(85,863),(86,469),(87,577),(88,864),(89,480),(90,481),(91,482),(92,483),(94,209),(95,210),(96,211),(97,212),(98,213),(99,214),(100,450),(101,451),(102,453),(103,454),(104,221),(105,217),(106,218),(107,316),(108,461),(109,462),(110,331),(119,530),(120,531),(121,532),(122,533),(123,534),(126,424),(129,463),(130,676),(131,677),(132,678),(133,440),(134,441),(135,442),(136,443),(137,349),(138,444),(139,445),(140,446),(141,447),(142,448),(143,449),(144,664),(145,665),(146,464),(147,455),(148,456),(149,457),(150,458),(151,459),(152,460),(153,554),(162,658),(164,714),(165,659),(166,516),(173,630),(174,631),(176,734),(177,495),(178,496),(179,660),(180,661),(181,662),(182,663),(183,336),(184,666),(185,667),(186,668),(187,669),(188,670),(189,357),(190,572),(191,671),(192,672),(193,673),(194,674),(203,704),(205,783),(206,882),(207,682),(208,683),(209,684),(210,685),(211,808),(212,809),(213,810),(214,811),(216,812),(217,813),(218,814),(219,744),(220,745),(221,815),(222,816),(228,927),(229,819),(237,827),(238,828),(239,946),(240,947),(241,948),(242,949),(243,950),(244,951),(246,952),(247,953),(248,954),(249,896),(250,897),(251,898),(252,899),(253,900),(254,901),(255,955),(256,956),(257,957),(261,1031),(266,1032),(267,1033),(268,1034),(269,1035),(270,1036),(271,1006),(272,1007),(273,1008),(281,1097),(282,1098),(283,1099),(284,1100),(285,1079),(290,1126),(291,1141)]
def NJ:List Nat:=[219,1091,1354,1894,1896,1616,1320,1618,1898,2062,2066,2282,2068,2252,2194,2064,1904,900,931,937,935,445,978,1328,904,942,944,946,952,448,522,1008,1724,1726,1728,1430,1000000060]
def ba:(Go.Proofs.Tryz.prog).follows .mixedOrders=true:=oI
abbrev Ow [dt](f n:Nat):Prop:=YN Go.Proofs.Tryz.prog wC NJ aX f n
abbrev Cp (f:Nat)(a:aD):Prop:=MM Go.Proofs.Tryz.prog wC NJ f a
def ck {f:Nat}{a:aD}(h:((Go.Proofs.Tryz.prog).funcs[f]?).map (fun f=>(compile Go.Proofs.Tryz.prog wC NJ f,f.name== "runtime.NumGoroutine"))=some (some a,false):=by kernel_rfl):Cp f a:=h
end Go.Abs
section
namespace Go.Proofs
open Go.Shelf
def Tryz.QQ:Go.Shelf.Ren:=⟨fun|166=>21|167=>144|169=>24|240=>55|276=>93|n=>n,fun|70=>58|9=>9|0=>0|72=>60|37=>39|3=>3|5=>5|4=>4|20=>20|75=>62|80=>67|164=>146|127=>104|n=>n,fun|n=>n⟩
def Tryz.HL:Go.Proofs.Lays.n166 Tryz.prog Tryz.QQ:={
 mixed:=by kernel_rfl
 f166:=Tryz.func21.trans (congrArg some (by kernel_rfl))
 f240:=Tryz.func55.trans (congrArg some (by kernel_rfl))
 f276:=Tryz.func93.trans (congrArg some (by kernel_rfl))
 t0:=Tryz.underlying0
 a0:=Tryz.isAgg0
 z0:=Tryz.sizeOf0
 v0:=Tryz.zeroValue0
 t3:=Tryz.underlying3
 a3:=Tryz.isAgg3
 z3:=Tryz.sizeOf3
 v3:=Tryz.zeroValue3
 t4:=Tryz.underlying4
 a4:=Tryz.isAgg4
 z4:=Tryz.sizeOf4
 v4:=Tryz.zeroValue4
 t9:=Tryz.underlying9
 a9:=Tryz.isAgg9
 z9:=Tryz.sizeOf9
 v9:=Tryz.zeroValue9
 t20:=Tryz.underlying20
 a20:=Tryz.isAgg20
 z20:=Tryz.sizeOf20
 v20:=Tryz.zeroValue20
 t37:=Tryz.underlying39
 a37:=Tryz.isAgg39
 z37:=Tryz.sizeOf39
 v37:=Tryz.zeroValue39
 t70:=Tryz.underlying58
 a70:=Tryz.isAgg58
 z70:=Tryz.sizeOf58
 v70:=Tryz.zeroValue58
 t72:=Tryz.underlying60
 a72:=Tryz.isAgg60
 z72:=Tryz.sizeOf60
 v72:=Tryz.zeroValue60
 t75:=Tryz.underlying62
 a75:=Tryz.isAgg62
 z75:=Tryz.sizeOf62
 v75:=Tryz.zeroValue62
 t164:=Tryz.underlying146
 a164:=Tryz.isAgg146
 z164:=Tryz.sizeOf146
 v164:=Tryz.zeroValue146}
def Tryz.HM:Go.Proofs.Lays.n167 Tryz.prog Tryz.QQ:={
 mixed:=by kernel_rfl
 f167:=Tryz.func144.trans (congrArg some (by kernel_rfl))
 f240:=Tryz.func55.trans (congrArg some (by kernel_rfl))
 f276:=Tryz.func93.trans (congrArg some (by kernel_rfl))
 t0:=Tryz.underlying0
 a0:=Tryz.isAgg0
 z0:=Tryz.sizeOf0
 v0:=Tryz.zeroValue0
 t4:=Tryz.underlying4
 a4:=Tryz.isAgg4
 z4:=Tryz.sizeOf4
 v4:=Tryz.zeroValue4
 t5:=Tryz.underlying5
 a5:=Tryz.isAgg5
 z5:=Tryz.sizeOf5
 v5:=Tryz.zeroValue5
 t9:=Tryz.underlying9
 a9:=Tryz.isAgg9
 z9:=Tryz.sizeOf9
 v9:=Tryz.zeroValue9
 t20:=Tryz.underlying20
 a20:=Tryz.isAgg20
 z20:=Tryz.sizeOf20
 v20:=Tryz.zeroValue20
 t37:=Tryz.underlying39
 a37:=Tryz.isAgg39
 z37:=Tryz.sizeOf39
 v37:=Tryz.zeroValue39
 t70:=Tryz.underlying58
 a70:=Tryz.isAgg58
 z70:=Tryz.sizeOf58
 v70:=Tryz.zeroValue58
 t72:=Tryz.underlying60
 a72:=Tryz.isAgg60
 z72:=Tryz.sizeOf60
 v72:=Tryz.zeroValue60
 t75:=Tryz.underlying62
 a75:=Tryz.isAgg62
 z75:=Tryz.sizeOf62
 v75:=Tryz.zeroValue62
 t164:=Tryz.underlying146
 a164:=Tryz.isAgg146
 z164:=Tryz.sizeOf146
 v164:=Tryz.zeroValue146}
def Tryz.HN:Go.Proofs.Lays.n169 Tryz.prog Tryz.QQ:={
 mixed:=by kernel_rfl
 f169:=Tryz.func24.trans (congrArg some (by kernel_rfl))
 t0:=Tryz.underlying0
 a0:=Tryz.isAgg0
 z0:=Tryz.sizeOf0
 v0:=Tryz.zeroValue0
 t3:=Tryz.underlying3
 a3:=Tryz.isAgg3
 z3:=Tryz.sizeOf3
 v3:=Tryz.zeroValue3
 t9:=Tryz.underlying9
 a9:=Tryz.isAgg9
 z9:=Tryz.sizeOf9
 v9:=Tryz.zeroValue9
 t37:=Tryz.underlying39
 a37:=Tryz.isAgg39
 z37:=Tryz.sizeOf39
 v37:=Tryz.zeroValue39
 t70:=Tryz.underlying58
 a70:=Tryz.isAgg58
 z70:=Tryz.sizeOf58
 v70:=Tryz.zeroValue58
 t72:=Tryz.underlying60
 a72:=Tryz.isAgg60
 z72:=Tryz.sizeOf60
 v72:=Tryz.zeroValue60
 t127:=Tryz.underlying104
 a127:=Tryz.isAgg104
 z127:=Tryz.sizeOf104
 v127:=Tryz.zeroValue104}
def Tryz.Uu:Builder.Extra Tryz.prog Tryz.QQ:={
 sizeBuilder:=by kernel_rfl
 liesBuilder:=by kernel_rfl
 t5:=Tryz.underlying5
 a5:=Tryz.isAgg5
 z5:=Tryz.sizeOf5
 v5:=Tryz.zeroValue5
 infoByte:=by kernel_rfl
 cellsByte:=by kernel_rfl
 sizeByte:=by kernel_rfl
 neB5:=by decide}
end Go.Proofs
end
