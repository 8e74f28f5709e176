/- For every list of numbers, the lock made of a solution of the world that the numbers make may be, has the chosen packages alone, each with its version, and Keeps has those that come from shelves: the statement answers true. -/
import Derived.Deep.DeepHandedRow
import Derived.Lib.LaidTab
import Derived.Test.YtkllcniplomebaaGreatDoorCards
import Derived.Test.YtkllcniplomebaaGreatDoorTie
import Derived.Test.YtkllcniplomebaaGreatDoorP25
import Derived.Test.YtkllcniplomebaaGreatDoorP26
import Derived.Test.YtkllcniplomebaaGreatDoorP27
import Derived.Test.YtkllcniplomebaaGreatDoorP24
import Derived.Test.YtkllcniplomebaaGreatDoorP19
set_option linter.all false
set_option maxRecDepth 60000
set_option maxHeartbeats 2000000
section
set_option maxRecDepth 8000
namespace Go.Abs
def AllG:List (Nat×Nat)->Prop
 |[]=>True
 |p::r=>Ow p.1 p.2/\AllG r
def AllG.mem:∀{l:List (Nat×Nat)},AllG l->∀p∈l,Ow p.1 p.2
 |p::r,h,q,hq=>by
  rcases bU.1 hq with rfl|hq
  .exact h.1
  .exact h.2.mem q hq
def allYq:AllG Av:=⟨H1219,H119,H28,H90,H29,H91,H98,H315,H294,H101,H312,H309,H313,H221,H314,H110,H112,H109,H111,H135,H136,H266,H25,H147,H114,H267,H268,H269,H175,H142,H138,H273,H176,H274,H553,H528,H529,H548,H549,H497,H220,H545,H546,E254,E491,H499,H547,H464,H550,H551,H552,H296,H297,H298,H159,H71,H344,H345,H503,H504,H143,H145,H144,H360,H361,H362,H505,H46,H506,H408,H209,H295,H409,H353,H354,H355,H349,H510,H410,H511,H208,H451,E242,H686,H463,E487,E124,H733,H466,H486,H535,H536,H216,H217,H218,H219,H572,H358,H580,H75,H356,H359,H357,H581,H582,H583,H692,H693,H694,H183,H158,H170,H629,H531,H516,H440,H441,H442,H530,H532,H533,H534,H622,H74,H623,H624,H699,H700,H701,H665,E489,E452,H675,H658,H453,H454,H455,H456,H457,H458,H459,H460,H316,H461,H462,H249,H744,H745,H501,H73,H748,H749,H750,H751,H752,H753,H754,H755,H829,H184,H830,H831,H415,H381,H169,H627,H704,H659,H714,H780,H72,H712,E336,H470,H666,H667,H668,H669,H670,H671,H672,H673,H674,H554,H896,H897,H898,H899,H900,H901,H424,H902,H903,H156,H816,H904,H905,H906,H907,H908,H909,H416,H403,H770,H782,H924,H925,H70,H215,H861,H812,H813,H814,H815,H734,H1006,H1007,H1008,H482,H676,H630,H631,H375,H376,H377,H378,H379,H955,H1009,H1010,H1011,H1012,H1013,H1014,H1015,H617,H618,H916,H917,H926,H1023,H1024,H210,H211,H212,H213,H214,H450,H980,H952,H953,H954,H882,H678,H1079,H677,H783,H599,H600,H601,H602,H603,H1080,H1081,H1082,H1083,H1084,H374,H1085,H777,H778,H1019,H1020,H1025,H1087,H443,H444,H445,H446,H447,H448,H449,E664,H1055,H1032,H1033,H1034,H1035,H1036,H927,H769,H1118,H604,H1119,H1120,H1121,H598,H1122,H1086,H495,H496,H660,H661,H662,H663,H1097,H1098,H1099,H1100,H771,H1137,H1138,H1139,H919,H920,H921,H682,E683,H684,H685,H808,H809,H810,H811,H1126,H918,H1144,H772,H1145,H1021,H819,H827,H828,H946,H947,H948,H949,H950,H951,H1141,H1147,H1148,H956,H957,H1031,trivial⟩
def yE:∀{l:List (Nat×Nat)}{k q:Nat},dK l k=some q->(k,q)∈l
 |[],_,_,h=>by cases h
 |(a,b)::r,k,q,h=>by
  simp only[dK]at h;split at h
  .rename_i e;subst e;obtain rfl:=bc h;exact .head _
  .exact .tail _ (yE h)
def okYq:Ok (Go.Proofs.Tryz.prog) Av O0 (Fe aA):=okA (λfid n hn=>(show ∀p∈Av,p.2<1000000 by decide+kernel) _ (yE hn)) (λt ht=>by simp[O0]at ht;show t=247;omega) (λg ⟨hg,hl⟩=>by simp[O0]at hg;show g=1;omega) λfid n hn=>allYq.mem (fid,n) (yE hn)
end Go.Abs
end
namespace Go.Proofs.YtkllcniplomebaaGreatDoor
variable{W:World}
open Go.Abs Go.ChangeShapes Go.WideShapes Go.ChangeAt Go.RowKit Go.Proofs
def own:ownKnob Tryz.prog.godebug=none:=by kernel_rfl
def Yl:laidOutB Tryz.prog=true:=by kernel_rfl
def jr {P:Program}{y:String×DataW Unit}{l:List (String×DataW Unit)}(h:laidMet P (y::l) W):laidMet P l W:=by
 obtain⟨ps,⟨g,t,cs,fuel,p,q,_,_,_,_,h1,rfl⟩,h2,h3⟩:=h;refine⟨q,h1,(List.nodup_append.1 h2).2.1,λb off hm=>h3 b off (by simp[hm])⟩
def HN {b:Nat}{o:Nat}{v:Value}(h:W.cell? ⟨b,o,none⟩=some v):b<W.heap.size:=by
 unfold World.cell? at h;split at h
 .rename_i h2;exact(Array.getElem?_eq_some_iff.mp h2).1
 .cases h
def agf (P:Program)(t i s:TypeId):Bool:=match P.underlying t with
 |some (.struct fs)=>fs.toList.map (λf=>(f.type,f.offset))==[(i,0),(i,1),(i,2),(s,3),(s,4)]
 |_=>false
def VG {H:Type}{enc:TypeId×Value->H}{P:Program}{w:World}{base:Nat}{sp:Nat->Bool}{held:Bool}{fuel:Nat}{t i s:TypeId}{cs:List Value}{p:List MemPlace}(hty:agf P t i s=true)(hi:P.underlying i=some (.int .i64))(hci:P.cellsOf i=1)(hs:P.underlying s=some .string)(hcs:P.cellsOf s=1)(hct:P.cellsOf t=5)(h:DataW.trod enc P w base sp held fuel t cs=some (.agg [.lit (.int .i64 0),.lit (.int .i64 0),.lit (.int .i64 0),.lit (.string []),.lit (.string [])],p)):∀j,j<5->cs[j]? =some (zVv j):=by
 obtain⟨fs,ht,hf⟩:∃fs,P.underlying t=some (.struct fs)/\fs.toList.map (λf=>(f.type,f.offset))=[(i,0),(i,1),(i,2),(s,3),(s,4)]:=by
  unfold agf at hty;split at hty
  .rename_i fs e;exact⟨fs,e,by simpa using hty⟩
  .cases hty
 obtain⟨xs,n,rfl,hx,hl,hxl,hat⟩:=DataW.trod_struct ht h;have hx1:xs.map (λx=>x.1)=[.lit (.int .i64 0),.lit (.int .i64 0),.lit (.int .i64 0),.lit (.string []),.lit (.string [])]:=(DataW.agg.inj (Prod.mk.inj hx).1).symm;have hg:∀j:Nat,∀q:TypeId×Nat,[(i,0),(i,1),(i,2),(s,3),(s,4)][j]? =some q->∃f,fs[j]? =some f/\f.type=q.1/\f.offset=q.2:=by
  intro j q hq;rw[<-hf,List.getElem?_map,Option.map_eq_some_iff]at hq;obtain⟨f,h1,rfl⟩:=hq;exact⟨f,by simpa using h1,rfl,rfl⟩
 have hd:∀j:Nat,(xs[j]?).map (λx=>x.1)=[DataW.lit (.int .i64 0),.lit (.int .i64 0),.lit (.int .i64 0),.lit (.string []),.lit (.string [])][j]? :=λj=>by rw[<-hx1,List.getElem?_map]
 have hint:∀j,j<3->cs[j]? =some (.int .i64 0):=by
  intro j hj;obtain⟨f,hf1,hf2,hf3⟩:=hg j (i,j) (by match j,hj with|0,_|1,_|2,_=>rfl);have h1:=hat j f hf1;have h2:=hd j;rw[<-h1,hf2,hf3,hci]at h2;have h3:[DataW.lit (.int .i64 0),.lit (.int .i64 0),.lit (.int .i64 0),.lit (.string []),(.lit (.string []):DataW H)][j]? =some (.lit (.int .i64 0)):=by match j,hj with|0,_|1,_|2,_=>rfl
  rw[h3,Option.map_eq_some_iff]at h2;obtain⟨x,h4,h5⟩:=h2;obtain⟨m,e1,rfl,_⟩:=DataW.trod_int hi h4;obtain rfl:m=0:=by simpa using h5
  have:=congrArg (·[0]?) e1;simpa[List.getElem?_take,List.getElem?_drop]using this
 have hstr:∀j,3<=j->j<5->cs[j]? =some (.string ⟨⟨[]⟩⟩):=by
  intro j h3 hj;have hj2:j=3\/j=4:=by omega
  obtain⟨f,hf1,hf2,hf3⟩:=hg j (s,j) (by rcases hj2 with rfl|rfl<;>rfl);have h1:=hat j f hf1;have h2:=hd j;rw[<-h1,hf2,hf3,hcs]at h2;have h3:[DataW.lit (.int .i64 0),.lit (.int .i64 0),.lit (.int .i64 0),.lit (.string []),(.lit (.string []):DataW H)][j]? =some (.lit (.string [])):=by rcases hj2 with rfl|rfl<;>rfl
  rw[h3,Option.map_eq_some_iff]at h2;obtain⟨x,h4,h5⟩:=h2;obtain⟨⟨⟨m⟩⟩,e1,rfl,_⟩:=DataW.trod_string hs h4;obtain rfl:m=[]:=by simpa using h5
  have:=congrArg (·[0]?) e1;simpa[List.getElem?_take,List.getElem?_drop]using this
 intro j hj;unfold zVv;split
 .rename_i h;exact hint j h
 .exact hstr j (by omega) hj
def Ai:Tryz.prog.globalNamed "linchpin/set.first" =some CG:=by kernel_rfl
def gd_of (hL:laidMetH Tryz.prog Rows.lockWholeRow.laid W)(hsh:W.ShapedOpen Tryz.prog):cI.gd (BC W):=by
 have hL':laidMet Tryz.prog Rows.lockWholeRow.laid W:=hL;have htab:Lib.TabIs Tryz.prog W "internal/strconv.uint64pow10" .u64 Lib.pow10Tab:=
  Lib.tabIs_of_head (g:=4) (t:=417) (e:=54) (n:=20) (by kernel_rfl) (by kernel_rfl) (by kernel_rfl) (by kernel_rfl) (by kernel_rfl) (by kernel_rfl) (jr (jr hL'))
 obtain⟨m,hm⟩:∃m,W.cell? ⟨0,0,none⟩=some (.int .i64 m):=Go.Proofs.cell_of_shapedOpen_int (zero:=#[.int .i64 0]) (t:=3) hsh (of_decide_eq_true (by kernel_rfl)) (by kernel_rfl) rfl (by kernel_rfl) (by kernel_rfl) Tryz.underlying3
 have h3:=htab.cell Az 0 (by decide);obtain⟨ps,⟨g',t',cs,fuel,p,q,hg',ht',hvar,hd,_,_⟩,_⟩:=jr (jr (jr (jr hL')));obtain rfl:=Option.some.inj (Ai.symm.trans hg');obtain rfl:t'=49:=Option.some.inj (ht'.symm.trans (by kernel_rfl));have hc:=VG (t:=49) (i:=3) (s:=9) (by kernel_rfl) (by kernel_rfl) (by kernel_rfl) (by kernel_rfl) (by kernel_rfl) (by kernel_rfl) hd;have hcell:∀j,j<5->W.cell? ⟨CG,j,none⟩=some (zVv j):=λj hj=>by
  rw[World.var?_cell Ai hvar j];simpa using hc j hj
 exact⟨⟨HN hm,m,hm⟩,HN h3,htab,HN (hcell 0 (by decide)),hcell⟩
mutual
def LG {H:Type}:DataW H->List Value
 | .lit (.int k n)=>[.int k n]
 | .agg ps=>W4 ps
 |_=>[]
def W4 {H:Type}:List (DataW H)->List Value
 |[]=>[]
 |d::r=>LG d++W4 r
end
def put (d:DataW Unit):Obj->Obj
 | .cells _ t frozen=>.cells (LG d).toArray t frozen
 |o=>o
noncomputable def y0 (os:Os):World:=
 {World.holding Tryz.prog os ⟨#[],#[],[]⟩with heap:=(((((World.holding Tryz.prog os ⟨#[],#[],[]⟩).heap.modify 2 (put Rows.laid_unicode_utf8_first)).modify 3 (put Rows.laid_unicode_utf8_acceptRanges)).modify 4 (put Rows.laid_internal_strconv_uint64pow10)).modify 5 (put Rows.laid_math_bits_deBruijn32tab)).modify 6 (put Rows.laid_math_bits_deBruijn64tab)}
end Go.Proofs.YtkllcniplomebaaGreatDoor
section
set_option maxRecDepth 8000
namespace Go.Proofs.YtkllcniplomebaaGreatDoor
variable(os:Os)
open Go.Abs Go.ChangeShapes Go.WideShapes Go.ChangeAt Go.RowKit Go.Proofs
def kC:Array Value:=#[.slice none 0 0,.slice none 0 0,.slice none 0 0,.int .i64 0]
def vK:laidMet Tryz.prog Rows.lockWholeRow.laid ((y0 os).forCall (λ_ _=>0) ⟨#[],kC,[]⟩).memory:=
 laidMet_of_run' 8 (by kernel_rfl) (by kernel_rfl)
def zB:qe Tryz.prog 20 Tryz.f3.params.toList=some [(false,[.sl false 1 [.int .i64]]),(false,[.sl false 1 [.int .i64]]),(false,[.sl false 1 [.int .i64]]),(false,[.int .i64])]:=by kernel_rfl
def Fw {W:World}{es:List D}{n:Nat}(h:BG [(false,[.sl false 1 [.int .i64]]),(false,[.sl false 1 [.int .i64]]),(false,[.sl false 1 [.int .i64]]),(false,[.int .i64])] es n)(hr:∀i,i<es.length->∃v,RD Av (BC W) v (es.getD i .any)):(Fe aA).pre 1219 es/\(Fe aA).val 1219 es=.bool true:=by
 obtain⟨d1,_,n1,m1,rfl,a1,h1,d2,_,n2,m2,rfl,a2,h2,d3,_,n3,m3,rfl,a3,h3,d4,_,n4,m4,rfl,a4,h4,rfl⟩:=h;obtain⟨v1,rfl,k1⟩:=C0 (BX h1);obtain⟨v2,rfl,k2⟩:=C0 (BX h2);obtain⟨v3,rfl,k3⟩:=C0 (BX h3);obtain⟨v4,rfl⟩:=adL (BX h4);exact ctxp D1219 λT h=>h v1 v2 v3 v4
def Bu {H:Type}(enc:TypeId×Value->H):∃places,DataW.whole enc Tryz.prog ((y0 os).forCall (λ_ _=>0) ⟨#[],kC,[]⟩).memory Tryz.f3.params.toList Rows.lockWholeSpec.vars false kC.toList 8=
  some ([.nil,.nil,.nil,.lit (.int .i64 0)],[],places):=
 ⟨[],by kernel_rfl⟩
set_option maxRecDepth 100000 in
theorem y1 (started:os.Started)(H:Type)(enc:TypeId×Value->H)(F:Stop.Interp):
  ReturnsInHanded {} Tryz.checked os 3 .any ((OpenSpec.ofChange Rows.lockWholeSpec).preRow enc Tryz.prog Tryz.f3 Rows.lockWholeRow.domain false Rows.lockWholeRow.laid) (((OpenSpec.ofChange Rows.lockWholeSpec).at F).post enc Tryz.prog Tryz.f3 false true false false):=by
 obtain⟨places,hx⟩:=Bu os enc;refine returnsInHanded_of_row (C:=Tryz.checked) (s:=OpenSpec.ofChange Rows.lockWholeSpec) own started (by kernel_rfl) Tryz.func3
  (witness_row_at (enc:=enc) (C:=Tryz.checked) false (y0 os) kC rfl (by kernel_rfl) (by kernel_rfl) (by kernel_rfl)
    (OpenSpec.preRow_of_cond 8 hx (by kernel_rfl) (λk hk=>by cases hk) (by kernel_rfl) (vK os))) ?_
 intro W base args ds gs before Bh hW _ _ _ hL hsh _;refine Pm (n:=1219) (k:=20) (s:=(OpenSpec.ofChange Rows.lockWholeSpec).at F) (tb:=4) okYq Tryz.func3 (by kernel_rfl) (by kernel_rfl) (by kernel_rfl) Yl (by kernel_rfl) zB (by kernel_rfl) (by kernel_rfl) rfl (λxs hx=>?_) (gd_of hL hsh)
  (λes he hr=>Fw he hr) Bh hW
 match xs,hx with
 |[a,b,c,d],_=>rfl
def Hx:Tryz.prog.inPlace 3=Rows.lockWholeRow.inPlace:=by kernel_rfl
def Hy:Tryz.prog.unfollowed 3=Rows.lockWholeRow.unfollowed:=by kernel_rfl
def Hz:Tryz.prog.recurses 3=Rows.lockWholeRow.recurses:=by kernel_rfl
def HA:Tryz.prog.varsNamed 3=Rows.lockWholeRow.named:=by kernel_rfl
def yJ:joinedFacts Tryz.prog 3 Tryz.f3 (OpenSpec.ofChange Rows.lockWholeSpec).bare Rows.lockWholeRow=true:=by
 unfold joinedFacts;rw[Hx,Hy,Hz,HA]
 kernel_rfl
def D9:Rows.LockWholeSaid:=
 OpenClaim.holds_of_cond 3 Tryz.f3 rfl rfl rfl rfl rfl rfl rfl ⟨rfl,rfl,rfl,rfl,rfl⟩ rfl rfl rfl rfl rfl (by kernel_rfl) Tryz.func3 yJ
  (of_decide_eq_true (by kernel_rfl)) (by unfold Func.isWrapper;first|(rw[if_pos (by decide+kernel)];kernel_rfl)|(rw[if_neg (by decide+kernel)];exact⟨rfl,rfl⟩))
  (λos started H enc _ F=>by rw[OpenClaim.pre_eq_preRow];exact y1 os started H enc F)
def Bq (f:FuncId)(fn:Func)(hf:Tryz.pinned.checked.prog.funcNamed "linchpin/linchpinlaw33.LockWhole" =some f)(hfn:Tryz.pinned.checked.prog.funcs[f]? =some fn):
  false=Tryz.pinned.checked.prog.looks []/\∀(j:Nat) t,fn.params[j]? =some t->Tryz.pinned.checked.prog.wantsStandIn t=false:=by
 obtain rfl:f=3:=Option.some.inj ((show Tryz.prog.funcNamed "linchpin/linchpinlaw33.LockWhole" =some 3 by kernel_rfl).symm.trans hf) |>.symm
 obtain rfl:fn=Tryz.f3:=(Option.some.inj (Tryz.func3.symm.trans hfn)).symm;refine⟨by kernel_rfl,λj t ht=>?_⟩;have hall:(Tryz.f3.params.toList.all λt=>!Tryz.prog.wantsStandIn t)=true:=by kernel_rfl
 have:=List.all_eq_true.1 hall t (by simpa using Array.mem_of_getElem? ht);show Tryz.prog.wantsStandIn t=false;simpa using this
theorem card_lockWhole:Rows.LockWholeCardSaid:=
 Claim7.holds_tied_plain_at .later [] _ _ _ _ D9 (λ_ h=>by cases h) (by kernel_rfl) (λ_ h=>by cases h) lockWhole_row_tie rfl ⟨rfl,rfl⟩ (by kernel_rfl) rfl Bq (T8 rfl (by kernel_rfl))
end Go.Proofs.YtkllcniplomebaaGreatDoor
end
#print axioms Go.Proofs.YtkllcniplomebaaGreatDoor.card_lockWhole
