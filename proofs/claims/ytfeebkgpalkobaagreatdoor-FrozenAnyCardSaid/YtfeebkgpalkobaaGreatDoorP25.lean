/- For generated locks and worlds, Choice and Check return what the reference returns. -/
import Derived.Deep.DeepHandedRow
import Derived.Lib.LaidTab
import Derived.Test.YtfeebkgpalkobaaGreatDoorCards
import Derived.Test.YtfeebkgpalkobaaGreatDoorTie
import Derived.Test.YtfeebkgpalkobaaGreatDoorP22
import Derived.Test.YtfeebkgpalkobaaGreatDoorP23
import Derived.Test.YtfeebkgpalkobaaGreatDoorP24
import Derived.Test.YtfeebkgpalkobaaGreatDoorP09
import Derived.Test.YtfeebkgpalkobaaGreatDoorP21
set_option linter.all false
set_option maxRecDepth 60000
set_option maxHeartbeats 2000000
section
set_option maxRecDepth 8000
namespace Go.Abs
def O5:List (Nat×Nat)->Prop
 |[]=>True
 |p::r=>Ow p.1 p.2/\O5 r
def O5.mem:∀{l:List (Nat×Nat)},O5 l->∀p∈l,Ow p.1 p.2
 |p::r,h,q,hq=>by
  rcases cM.1 hq with rfl|hq
  .exact h.1
  .exact h.2.mem q hq
def allY:O5 uP:=⟨Zf,H89,H36,H90,H160,H94,H29,H264,H265,H154,H155,H156,H109,H157,H266,H111,H112,H271,H272,H153,H25,H175,H142,H138,H315,H502,H410,H217,H375,H376,H377,H378,H379,H159,H380,H503,H504,H110,H169,H145,H144,H189,H509,H52,H186,H408,H209,H295,H409,H353,H354,H355,H349,H553,H689,H690,H274,H691,H273,H623,H624,H455,H456,H599,H600,H601,H602,H603,H604,H374,H605,H358,H580,H75,H296,H297,H135,H298,H403,H359,H357,H418,H696,H697,H698,H170,H417,H531,H516,H440,H441,H442,H530,H532,H533,H534,H622,H208,H74,H511,H510,H712,H470,H666,H667,H668,H769,H770,H771,H598,H772,H216,H501,H73,H221,H535,H536,H617,H618,H424,H453,H454,H508,H628,H629,H704,H658,H659,H714,H780,H72,H220,H699,H700,H701,H861,H916,H917,H918,H919,H920,H921,H71,H219,H464,H777,H778,H630,H631,H695,H627,H924,H925,H70,H215,H463,H980,YT,YU,YV,H218,H316,H461,H462,H249,H783,H782,YW,YX,H210,H211,H212,H213,H214,H450,H451,E242,E452,Y5,Y7,H457,H458,H459,H460,H554,H927,H926,Y8,H443,H444,H445,H446,H447,H448,H449,E489,E664,H665,H669,H670,H572,H671,H672,H673,H674,H734,YY,H495,H496,E124,H660,H661,H662,E254,E487,H663,E336,H812,H813,H814,H744,H745,H815,H816,H882,H682,E683,H684,H685,H808,H809,H810,H811,H952,H953,H954,H896,H897,H898,H899,H900,H901,H955,H819,H827,H828,H946,H947,H948,H949,H950,H951,Y0,Y1,Y2,Y3,Y4,YQ,YR,YS,H482,H676,H956,H957,YZ,Y9,Za,Zb,Zc,H678,Y6,H677,Zd,Ze,trivial⟩
def okY:Ok (Go.Proofs.Tryz.prog) uP Fi (yU a8):=okA (fun fid n hn=>(show ∀p∈uP,p.2<1000000 by decide+kernel) _ (mR hn)) (fun t ht=>by simp[Fi]at ht;show t=216;omega) (fun g ⟨hg,hl⟩=>by simp[Fi]at hg;show g=0;omega) fun fid n hn=>allY.mem (fid,n) (mR hn)
end Go.Abs
end
section
namespace Go.Proofs.YtfeebkgpalkobaaGreatDoor
open Go.Abs Go.ChangeShapes Go.WideShapes Go.ChangeAt Go.RowKit Go.Proofs
def own:ownKnob Tryz.prog.godebug=none:=by kernel_rfl
def MN:laidOutB Tryz.prog=true:=by kernel_rfl
def iK {P:Program}{W:World}{y:String×DataW Unit}{l:List (String×DataW Unit)}(h:laidMet P (y::l) W):laidMet P l W:=by
 obtain⟨ps,⟨g,t,cs,fuel,p,q,_,_,_,_,h1,rfl⟩,h2,h3⟩:=h;refine⟨q,h1,(List.nodup_append.1 h2).2.1,fun b off hm=>h3 b off (by simp[hm])⟩
def Bk {W:World}{b:Nat}{o:Nat}{v:Value}(h:W.cell? ⟨b,o,none⟩=some v):b<W.heap.size:=by
 unfold World.cell? at h;split at h
 .rename_i h2;exact(Array.getElem?_eq_some_iff.mp h2).1
 .cases h
def RO (P:Program)(t i s:TypeId):Bool:=match P.underlying t with
 |some (.struct fs)=>fs.toList.map (fun f=>(f.type,f.offset))==[(i,0),(i,1),(i,2),(s,3),(s,4)]
 |_=>false
def K2 {H:Type}{enc:TypeId×Value->H}{P:Program}{w:World}{base:Nat}{sp:Nat->Bool}{held:Bool}{fuel:Nat}{t i s:TypeId}{cs:List Value}{p:List MemPlace}
  (hty:RO P t i s=true) (hi:P.underlying i=some (.int .i64)) (hci:P.cellsOf i=1) (hs:P.underlying s=some .string) (hcs:P.cellsOf s=1) (hct:P.cellsOf t=5)
  (h:DataW.trod enc P w base sp held fuel t cs=some (.agg [.lit (.int .i64 0),.lit (.int .i64 0),.lit (.int .i64 0),.lit (.string []),.lit (.string [])],p)):∀j,j<5->cs[j]? =some (RQ j):=by
 obtain⟨fs,ht,hf⟩:∃fs,P.underlying t=some (.struct fs)/\fs.toList.map (fun f=>(f.type,f.offset))=[(i,0),(i,1),(i,2),(s,3),(s,4)]:=by
  unfold RO at hty;split at hty
  .rename_i fs e;exact⟨fs,e,by simpa using hty⟩
  .cases hty
 obtain⟨xs,n,rfl,hx,hl,hxl,hat⟩:=DataW.trod_struct ht h;have hx1:xs.map (fun x=>x.1)=[.lit (.int .i64 0),.lit (.int .i64 0),.lit (.int .i64 0),.lit (.string []),.lit (.string [])]:=(DataW.agg.inj (Prod.mk.inj hx).1).symm;have hg:∀j:Nat,∀q:TypeId×Nat,[(i,0),(i,1),(i,2),(s,3),(s,4)][j]? =some q->∃f,fs[j]? =some f/\f.type=q.1/\f.offset=q.2:=by
  intro j q hq;rw[<-hf,List.getElem?_map,Option.map_eq_some_iff]at hq;obtain⟨f,h1,rfl⟩:=hq;exact⟨f,by simpa using h1,rfl,rfl⟩
 have hd:∀j:Nat,(xs[j]?).map (fun x=>x.1)=[DataW.lit (.int .i64 0),.lit (.int .i64 0),.lit (.int .i64 0),.lit (.string []),.lit (.string [])][j]? :=fun j=>by rw[<-hx1,List.getElem?_map]
 have hint:∀j,j<3->cs[j]? =some (.int .i64 0):=by
  intro j hj;obtain⟨f,hf1,hf2,hf3⟩:=hg j (i,j) (by match j,hj with|0,_|1,_|2,_=>rfl);have h1:=hat j f hf1;have h2:=hd j;rw[<-h1,hf2,hf3,hci]at h2;have h3:[DataW.lit (.int .i64 0),.lit (.int .i64 0),.lit (.int .i64 0),.lit (.string []),(.lit (.string []):DataW H)][j]? =some (.lit (.int .i64 0)):=by match j,hj with|0,_|1,_|2,_=>rfl
  rw[h3,Option.map_eq_some_iff]at h2;obtain⟨x,h4,h5⟩:=h2;obtain⟨m,e1,rfl,_⟩:=DataW.trod_int hi h4;obtain rfl:m=0:=by simpa using h5
  have:=congrArg (·[0]?) e1;simpa[List.getElem?_take,List.getElem?_drop]using this
 have hstr:∀j,3<=j->j<5->cs[j]? =some (.string ⟨⟨[]⟩⟩):=by
  intro j h3 hj;have hj2:j=3\/j=4:=by omega
  obtain⟨f,hf1,hf2,hf3⟩:=hg j (s,j) (by rcases hj2 with rfl|rfl<;>rfl);have h1:=hat j f hf1;have h2:=hd j;rw[<-h1,hf2,hf3,hcs]at h2;have h3:[DataW.lit (.int .i64 0),.lit (.int .i64 0),.lit (.int .i64 0),.lit (.string []),(.lit (.string []):DataW H)][j]? =some (.lit (.string [])):=by rcases hj2 with rfl|rfl<;>rfl
  rw[h3,Option.map_eq_some_iff]at h2;obtain⟨x,h4,h5⟩:=h2;obtain⟨⟨⟨m⟩⟩,e1,rfl,_⟩:=DataW.trod_string hs h4;obtain rfl:m=[]:=by simpa using h5
  have:=congrArg (·[0]?) e1;simpa[List.getElem?_take,List.getElem?_drop]using this
 intro j hj;unfold RQ;split
 .rename_i h;exact hint j h
 .exact hstr j (by omega) hj
def tZ:Tryz.prog.globalNamed "linchpin/set.first" =some wT:=by kernel_rfl
def ZF {W:World}(hL:laidMetH Tryz.prog Rows.frozenAnyRow.laid W)(hsh:W.ShapedOpen Tryz.prog):di.gd (uZ W):=by
 have hL':laidMet Tryz.prog Rows.frozenAnyRow.laid W:=hL;have htab:Lib.TabIs Tryz.prog W "internal/strconv.uint64pow10" .u64 Lib.pow10Tab:=
  Lib.tabIs_of_head (g:=2) (t:=326) (e:=54) (n:=20) (by kernel_rfl) (by kernel_rfl) (by kernel_rfl) (by kernel_rfl) (by kernel_rfl) (by kernel_rfl) (iK (iK hL'))
 obtain⟨m,hm⟩:∃m,W.cell? ⟨1,0,none⟩=some (.int .i64 m):=Go.Proofs.cell_of_shapedOpen_int (zero:=#[.int .i64 0]) (t:=3) hsh (of_decide_eq_true (by kernel_rfl)) (by kernel_rfl) rfl (by kernel_rfl) (by kernel_rfl) Tryz.underlying3
 have h3:=htab.cell uh 0 (by decide);obtain⟨ps,⟨g',t',cs,fuel,p,q,hg',ht',hvar,hd,_,_⟩,_⟩:=iK (iK (iK (iK hL')));obtain rfl:=Option.some.inj (tZ.symm.trans hg');obtain rfl:t'=41:=Option.some.inj (ht'.symm.trans (by kernel_rfl));have hc:=K2 (t:=41) (i:=3) (s:=9) (by kernel_rfl) (by kernel_rfl) (by kernel_rfl) (by kernel_rfl) (by kernel_rfl) (by kernel_rfl) hd;have hcell:∀j,j<5->W.cell? ⟨wT,j,none⟩=some (RQ j):=fun j hj=>by
  rw[World.var?_cell tZ hvar j];simpa using hc j hj
 exact⟨⟨Bk hm,m,hm⟩,Bk h3,htab,Bk (hcell 0 (by decide)),hcell⟩
mutual
def CG {H:Type}:DataW H->List Value
 | .lit (.int k n)=>[.int k n]
 | .agg ps=>L2 ps
 |_=>[]
def L2 {H:Type}:List (DataW H)->List Value
 |[]=>[]
 |d::r=>CG d++L2 r
end
def put (d:DataW Unit):Obj->Obj
 | .cells _ t frozen=>.cells (CG d).toArray t frozen
 |o=>o
noncomputable def td (os:Os):World:=
 {World.holding Tryz.prog os ⟨#[],#[],[]⟩with heap:=(((((World.holding Tryz.prog os ⟨#[],#[],[]⟩).heap.modify 3 (put Rows.laid_unicode_utf8_first)).modify 4 (put Rows.laid_unicode_utf8_acceptRanges)).modify 2 (put Rows.laid_internal_strconv_uint64pow10)).modify 5 (put Rows.laid_math_bits_deBruijn32tab)).modify 6 (put Rows.laid_math_bits_deBruijn64tab)}
end Go.Proofs.YtfeebkgpalkobaaGreatDoor
end
section
set_option maxRecDepth 8000
namespace Go.Proofs.YtfeebkgpalkobaaGreatDoor
open Go.Abs Go.ChangeShapes Go.WideShapes Go.ChangeAt Go.RowKit Go.Proofs
def jA:Array Value:=#[.slice none 0 0,.slice none 0 0,.slice none 0 0,.int .i64 0]
def qR (os:Os):laidMet Tryz.prog Rows.frozenAnyRow.laid ((td os).forCall (fun _ _=>0) ⟨#[],jA,[]⟩).memory:=
 laidMet_of_run' 8 (by kernel_rfl) (by kernel_rfl)
def tF:nr Tryz.prog 20 Tryz.f3.params.toList=some [(false,[.sl false 1 [.int .i64]]),(false,[.sl false 1 [.int .i64]]),(false,[.sl false 1 [.int .i64]]),(false,[.int .i64])]:=by kernel_rfl
def y3 {W:World}{es:List D}{n:Nat}(h:ve [(false,[.sl false 1 [.int .i64]]),(false,[.sl false 1 [.int .i64]]),(false,[.sl false 1 [.int .i64]]),(false,[.int .i64])] es n)(hr:∀i,i<es.length->∃v,RD uP (uZ W) v (es.getD i .any)):(yU a8).pre 1215 es/\(yU a8).val 1215 es=.bool true:=by
 obtain⟨d1,_,n1,m1,rfl,a1,h1,d2,_,n2,m2,rfl,a2,h2,d3,_,n3,m3,rfl,a3,h3,d4,_,n4,m4,rfl,a4,h4,rfl⟩:=h;obtain⟨v1,rfl,k1⟩:=xd (vz h1);obtain⟨v2,rfl,k2⟩:=xd (vz h2);obtain⟨v3,rfl,k3⟩:=xd (vz h3);obtain⟨v4,rfl⟩:=Qb (vz h4);exact ctxp X3 fun T h=>h v1 v2 v3 v4
def uT (os:Os){H:Type}(enc:TypeId×Value->H):∃places,DataW.whole enc Tryz.prog ((td os).forCall (fun _ _=>0) ⟨#[],jA,[]⟩).memory Tryz.f3.params.toList Rows.frozenAnySpec.vars false jA.toList 8=
  some ([.nil,.nil,.nil,.lit (.int .i64 0)],[],places):=
 ⟨[],by kernel_rfl⟩
set_option maxRecDepth 100000 in
theorem te (os:Os)(started:os.Started)(H:Type)(enc:TypeId×Value->H)(F:Stop.Interp):
  ReturnsInHanded {} Tryz.checked os 3 .any ((OpenSpec.ofChange Rows.frozenAnySpec).preRow enc Tryz.prog Tryz.f3 Rows.frozenAnyRow.domain false Rows.frozenAnyRow.laid) (((OpenSpec.ofChange Rows.frozenAnySpec).at F).post enc Tryz.prog Tryz.f3 false true false false):=by
 obtain⟨places,hx⟩:=uT os enc;refine returnsInHanded_of_row (C:=Tryz.checked) (s:=OpenSpec.ofChange Rows.frozenAnySpec) own started (by kernel_rfl) Tryz.func3
  (witness_row_at (enc:=enc) (C:=Tryz.checked) false (td os) jA rfl (by kernel_rfl) (by kernel_rfl) (by kernel_rfl)
    (OpenSpec.preRow_of_cond 8 hx (by kernel_rfl) (fun k hk=>by cases hk) (by kernel_rfl) (qR os))) ?_
 intro W base args ds gs before mJ hW _ _ _ hL hsh _;refine FB (n:=1215) (k:=20) (s:=(OpenSpec.ofChange Rows.frozenAnySpec).at F) (tb:=4) okY Tryz.func3 (by kernel_rfl) (by kernel_rfl) (by kernel_rfl) MN (by kernel_rfl) tF (by kernel_rfl) (by kernel_rfl) rfl (fun xs hx=>?_) (ZF hL hsh)
  (fun es he hr=>y3 he hr) mJ hW
 match xs,hx with
 |[a,b,c,d],_=>rfl
def A3:Tryz.prog.inPlace 3=Rows.frozenAnyRow.inPlace:=by kernel_rfl
def A4:Tryz.prog.unfollowed 3=Rows.frozenAnyRow.unfollowed:=by kernel_rfl
def A5:Tryz.prog.recurses 3=Rows.frozenAnyRow.recurses:=by kernel_rfl
def A6:Tryz.prog.varsNamed 3=Rows.frozenAnyRow.named:=by kernel_rfl
def sO:joinedFacts Tryz.prog 3 Tryz.f3 (OpenSpec.ofChange Rows.frozenAnySpec).bare Rows.frozenAnyRow=true:=by
 unfold joinedFacts;rw[A3,A4,A5,A6]
 kernel_rfl
def yo:Rows.FrozenAnySaid:=
 OpenClaim.holds_of_cond 3 Tryz.f3 rfl rfl rfl rfl rfl rfl rfl ⟨rfl,rfl,rfl,rfl,rfl⟩ rfl rfl rfl rfl rfl (by kernel_rfl) Tryz.func3 sO
  (of_decide_eq_true (by kernel_rfl)) (by unfold Func.isWrapper;first|(rw[if_pos (by decide+kernel)];kernel_rfl)|(rw[if_neg (by decide+kernel)];exact⟨rfl,rfl⟩))
  (fun os started H enc _ F=>by rw[OpenClaim.pre_eq_preRow];exact te os started H enc F)
def uR (f:FuncId)(fn:Func)(hf:Tryz.pinned.checked.prog.funcNamed "linchpin/linchpinlaw34.FrozenAny" =some f)(hfn:Tryz.pinned.checked.prog.funcs[f]? =some fn):
  false=Tryz.pinned.checked.prog.looks []/\∀(j:Nat) t,fn.params[j]? =some t->Tryz.pinned.checked.prog.wantsStandIn t=false:=by
 obtain rfl:f=3:=Option.some.inj ((show Tryz.prog.funcNamed "linchpin/linchpinlaw34.FrozenAny" =some 3 by kernel_rfl).symm.trans hf) |>.symm
 obtain rfl:fn=Tryz.f3:=(Option.some.inj (Tryz.func3.symm.trans hfn)).symm;refine⟨by kernel_rfl,fun j t ht=>?_⟩;have hall:(Tryz.f3.params.toList.all fun t=>!Tryz.prog.wantsStandIn t)=true:=by kernel_rfl
 have:=List.all_eq_true.1 hall t (by simpa using Array.mem_of_getElem? ht);show Tryz.prog.wantsStandIn t=false;simpa using this
theorem card_frozenAny:Rows.FrozenAnyCardSaid:=
 Claim7.holds_tied_plain_at .later [] _ _ _ _ yo (fun _ h=>by cases h) (by kernel_rfl) (fun _ h=>by cases h) frozenAny_row_tie rfl ⟨rfl,rfl⟩ (by kernel_rfl) rfl uR (by kernel_rfl)
end Go.Proofs.YtfeebkgpalkobaaGreatDoor
end
#print axioms Go.Proofs.YtfeebkgpalkobaaGreatDoor.card_frozenAny
