/- A proof for one world is no proof for another world that has a solution, for all numbers. -/
import Derived.Deep.DeepHandedRow
import Derived.Lib.LaidTab
import Derived.Test.YtaeimnechonnmaaGreatDoorCards
import Derived.Test.YtaeimnechonnmaaGreatDoorTie
import Derived.Test.YtaeimnechonnmaaGreatDoorP22
import Derived.Test.YtaeimnechonnmaaGreatDoorP23
import Derived.Test.YtaeimnechonnmaaGreatDoorP24
import Derived.Test.YtaeimnechonnmaaGreatDoorP08
import Derived.Test.YtaeimnechonnmaaGreatDoorP21
set_option linter.all false
set_option maxRecDepth 4000
namespace Go.Abs
def Kl:List (Nat×Nat)->Prop
 |[]=>True
 |p::r=>Ow p.1 p.2/\Kl r
def Kl.mem:∀{l:List (Nat×Nat)},Kl l->∀p∈l,Ow p.1 p.2
 |p::r,h,q,hq=>by
  rcases dx.1 hq with rfl|hq
  .exact h.1
  .exact h.2.mem q hq
def allY:Kl Om:=⟨Rx,H63,H36,H198,H65,H66,H25,H46,H267,H197,H154,H155,H156,H109,H157,H158,H159,H425,H406,H175,H203,H204,H205,H183,H184,H185,H505,H374,H112,H217,H375,H376,H377,H378,H379,H380,H381,H632,H633,H634,H635,H636,H637,H408,H209,H295,H409,H434,H435,H436,H437,H438,H439,H415,H416,H692,H693,H694,H598,H455,H456,H599,H600,H601,H602,H603,H604,H605,H615,H784,H785,H531,H516,H440,H441,H442,H530,H532,H533,H534,H622,H424,H654,H655,H656,H657,H627,H829,H830,H831,H470,H666,H667,H668,H769,H770,H771,H772,H928,H929,H930,H931,H932,H933,H934,H704,H658,H659,H714,H780,H630,H631,H782,H454,H916,H917,H918,H919,H920,H921,Rn,Ro,Rp,H924,H925,H783,H926,Rh,Ri,Rj,H712,Rk,Rl,H927,Rm,Rr,H861,Rs,H980,Rq,Rt,Ru,Rv,Rw,KG,KH,KI,KJ,trivial⟩
def okY:Ok (Go.Proofs.Tryz.prog) Om F2 (wH bD):=okA (fun fid n hn=>(show ∀p∈Om,p.2<1000000 by decide+kernel) _ (ml hn)) (fun t ht=>by simp[F2]at ht;omega) (fun g hg=>by simp[F2]at hg;show g=0;omega) fun fid n hn=>allY.mem (fid,n) (ml hn)
end Go.Abs
section
namespace Go.Proofs.YtaeimnechonnmaaGreatDoor
open Go.Abs Go.ChangeShapes Go.WideShapes Go.ChangeAt Go.RowKit Go.Proofs
def own:ownKnob Tryz.prog.godebug=none:=by kernel_rfl
def Is:laidOutB Tryz.prog=true:=by kernel_rfl
def Lg {W:World}{b:Nat}{o:Nat}{v:Value}(h:W.cell? ⟨b,o,none⟩=some v):b<W.heap.size:=by
 unfold World.cell? at h;split at h
 .rename_i h2;exact(Array.getElem?_eq_some_iff.mp h2).1
 .cases h
def MX (P:Program)(t i s:TypeId):Bool:=match P.underlying t with
 |some (.struct fs)=>fs.toList.map (fun f=>(f.type,f.offset))==[(i,0),(i,1),(i,2),(s,3),(s,4)]
 |_=>false
def GX {H:Type}{enc:TypeId×Value->H}{P:Program}{w:World}{base:Nat}{sp:Nat->Bool}{held:Bool}{fuel:Nat}{t i s:TypeId}{cs:List Value}{p:List MemPlace}
  (hty:MX P t i s=true) (hi:P.underlying i=some (.int .i64)) (hci:P.cellsOf i=1) (hs:P.underlying s=some .string) (hcs:P.cellsOf s=1) (hct:P.cellsOf t=5)
  (h:DataW.trod enc P w base sp held fuel t cs=some (.agg [.lit (.int .i64 0),.lit (.int .i64 0),.lit (.int .i64 0),.lit (.string []),.lit (.string [])],p)):∀j,j<5->cs[j]? =some (MY j):=by
 obtain⟨fs,ht,hf⟩:∃fs,P.underlying t=some (.struct fs)/\fs.toList.map (fun f=>(f.type,f.offset))=[(i,0),(i,1),(i,2),(s,3),(s,4)]:=by
  unfold MX at hty;split at hty
  .rename_i fs e;exact⟨fs,e,by simpa using hty⟩
  .cases hty
 obtain⟨xs,n,rfl,hx,hl,hxl,hat⟩:=DataW.trod_struct ht h;have hx1:xs.map (fun x=>x.1)=[.lit (.int .i64 0),.lit (.int .i64 0),.lit (.int .i64 0),.lit (.string []),.lit (.string [])]:=(DataW.agg.inj (Prod.mk.inj hx).1).symm;have hg:∀j:Nat,∀q:TypeId×Nat,[(i,0),(i,1),(i,2),(s,3),(s,4)][j]? =some q->∃f,fs[j]? =some f/\f.type=q.1/\f.offset=q.2:=by
  intro j q hq;rw[<-hf,List.getElem?_map,Option.map_eq_some_iff]at hq;obtain⟨f,h1,rfl⟩:=hq;exact⟨f,by simpa using h1,rfl,rfl⟩
 have hd:∀j:Nat,(xs[j]?).map (fun x=>x.1)=[DataW.lit (.int .i64 0),.lit (.int .i64 0),.lit (.int .i64 0),.lit (.string []),.lit (.string [])][j]? :=fun j=>by rw[<-hx1,List.getElem?_map]
 have hint:∀j,j<3->cs[j]? =some (.int .i64 0):=by
  intro j hj;obtain⟨f,hf1,hf2,hf3⟩:=hg j (i,j) (by match j,hj with|0,_|1,_|2,_=>rfl);have h1:=hat j f hf1;have h2:=hd j;rw[<-h1,hf2,hf3,hci]at h2;have h3:[DataW.lit (.int .i64 0),.lit (.int .i64 0),.lit (.int .i64 0),.lit (.string []),(.lit (.string []):DataW H)][j]? =some (.lit (.int .i64 0)):=by match j,hj with|0,_|1,_|2,_=>rfl
  rw[h3,Option.map_eq_some_iff]at h2;obtain⟨x,h4,h5⟩:=h2;obtain⟨m,e1,rfl,_⟩:=DataW.trod_int hi h4;obtain rfl:m=0:=by simpa using h5
  have:=congrArg (·[0]?) e1;simpa[List.getElem?_take,List.getElem?_drop]using this
 have hstr:∀j,3<=j->j<5->cs[j]? =some (.string ⟨⟨[]⟩⟩):=by
  intro j h3 hj;have hj2:j=3\/j=4:=by omega
  obtain⟨f,hf1,hf2,hf3⟩:=hg j (s,j) (by rcases hj2 with rfl|rfl<;>rfl);have h1:=hat j f hf1;have h2:=hd j;rw[<-h1,hf2,hf3,hcs]at h2;have h3:[DataW.lit (.int .i64 0),.lit (.int .i64 0),.lit (.int .i64 0),.lit (.string []),(.lit (.string []):DataW H)][j]? =some (.lit (.string [])):=by rcases hj2 with rfl|rfl<;>rfl
  rw[h3,Option.map_eq_some_iff]at h2;obtain⟨x,h4,h5⟩:=h2;obtain⟨⟨⟨m⟩⟩,e1,rfl,_⟩:=DataW.trod_string hs h4;obtain rfl:m=[]:=by simpa using h5
  have:=congrArg (·[0]?) e1;simpa[List.getElem?_take,List.getElem?_drop]using this
 intro j hj;unfold MY;split
 .rename_i h;exact hint j h
 .exact hstr j (by omega) hj
def sO:Tryz.prog.globalNamed "linchpin/set.first" =some uJ:=by kernel_rfl
def RM {W:World}(hL:laidMetH Tryz.prog Rows.judgeOtherRow.laid W)(hsh:W.ShapedOpen Tryz.prog):dq.gd (tE W):=by
 have hL':laidMet Tryz.prog Rows.judgeOtherRow.laid W:=hL;obtain⟨ps,⟨g',t',cs,fuel,p,q,hg',ht',hvar,hd,_,_⟩,_⟩:=hL';obtain rfl:=Option.some.inj (sO.symm.trans hg');obtain rfl:t'=70:=Option.some.inj (ht'.symm.trans (by kernel_rfl));have hc:=GX (t:=70) (i:=3) (s:=9) (by kernel_rfl) (by kernel_rfl) (by kernel_rfl) (by kernel_rfl) (by kernel_rfl) (by kernel_rfl) hd;have hcell:∀j,j<5->W.cell? ⟨uJ,j,none⟩=some (MY j):=fun j hj=>by
  rw[World.var?_cell sO hvar j];simpa using hc j hj
 exact⟨Lg (hcell 0 (by decide)),hcell⟩
noncomputable def rY (os:Os):World:=World.holding Tryz.prog os ⟨#[],#[],[]⟩
end Go.Proofs.YtaeimnechonnmaaGreatDoor
end
section
namespace Go.Proofs.YtaeimnechonnmaaGreatDoor
open Go.Abs Go.ChangeShapes Go.WideShapes Go.ChangeAt Go.RowKit Go.Proofs
def iC:Array Value:=#[.slice none 0 0,.slice none 0 0]
def ph (os:Os):laidMet Tryz.prog Rows.judgeOtherRow.laid ((rY os).forCall (fun _ _=>0) ⟨#[],iC,[]⟩).memory:=
 laidMet_of_run' 8 (by kernel_rfl) (by kernel_rfl)
def q9:mG Tryz.prog 20 Tryz.f6.params.toList=some [(false,[.sl false 1 [.int .i64]]),(false,[.sl false 1 [.int .i64]])]:=by kernel_rfl
def vL {W:World}{es:List D}{n:Nat}(h:tJ [(false,[.sl false 1 [.int .i64]]),(false,[.sl false 1 [.int .i64]])] es n)(hr:∀i,i<es.length->∃v,RD Om (tE W) v (es.getD i .any)):(wH bD).pre 1212 es/\(wH bD).val 1212 es=.bool true:=by
 obtain⟨d1,_,n1,m1,rfl,a1,h1,d2,_,n2,m2,rfl,a2,h2,rfl⟩:=h;obtain⟨v1,rfl,k1⟩:=zY (DS h1);obtain⟨v2,rfl,k2⟩:=zY (DS h2);exact ctxp Qz fun T h=>h v1 v2
def sj (os:Os){H:Type}(enc:TypeId×Value->H):∃places,DataW.whole enc Tryz.prog ((rY os).forCall (fun _ _=>0) ⟨#[],iC,[]⟩).memory Tryz.f6.params.toList Rows.judgeOtherSpec.vars false iC.toList 8=
  some ([.nil,.nil],[],places):=
 ⟨[],by kernel_rfl⟩
set_option maxRecDepth 100000 in
theorem qV (os:Os)(started:os.Started)(H:Type)(enc:TypeId×Value->H)(F:Stop.Interp):
  ReturnsInHanded {} Tryz.checked os 6 .any ((OpenSpec.ofChange Rows.judgeOtherSpec).preRow enc Tryz.prog Tryz.f6 Rows.judgeOtherRow.domain false Rows.judgeOtherRow.laid) (((OpenSpec.ofChange Rows.judgeOtherSpec).at F).post enc Tryz.prog Tryz.f6 false true false false):=by
 obtain⟨places,hx⟩:=sj os enc;refine returnsInHanded_of_row (C:=Tryz.checked) (s:=OpenSpec.ofChange Rows.judgeOtherSpec) own started (by kernel_rfl) Tryz.func6
  (witness_row_at (enc:=enc) (C:=Tryz.checked) false (rY os) iC rfl (by kernel_rfl) (by kernel_rfl) (by kernel_rfl)
    (OpenSpec.preRow_of_cond 8 hx (by kernel_rfl) (fun k hk=>by cases hk) (by kernel_rfl) (ph os))) ?_
 intro W base args ds gs before lU hW _ _ _ hL hsh _;refine B6 (n:=1212) (k:=20) (s:=(OpenSpec.ofChange Rows.judgeOtherSpec).at F) (tb:=4) okY Tryz.func6 (by kernel_rfl) (by kernel_rfl) (by kernel_rfl) Is (by kernel_rfl) q9 (by kernel_rfl) (by kernel_rfl) rfl (fun xs hx=>?_) (RM hL hsh)
  (fun es he hr=>vL he hr) lU hW
 match xs,hx with
 |[a,b],_=>rfl
def wJ:Tryz.prog.inPlace 6=Rows.judgeOtherRow.inPlace:=by kernel_rfl
def wK:Tryz.prog.unfollowed 6=Rows.judgeOtherRow.unfollowed:=by kernel_rfl
def wL:Tryz.prog.recurses 6=Rows.judgeOtherRow.recurses:=by kernel_rfl
def wM:Tryz.prog.varsNamed 6=Rows.judgeOtherRow.named:=by kernel_rfl
def qF:joinedFacts Tryz.prog 6 Tryz.f6 (OpenSpec.ofChange Rows.judgeOtherSpec).bare Rows.judgeOtherRow=true:=by
 unfold joinedFacts;rw[wJ,wK,wL,wM]
 kernel_rfl
def tw:Rows.JudgeOtherSaid:=
 OpenClaim.holds_of_cond 6 Tryz.f6 rfl rfl rfl rfl rfl rfl rfl ⟨rfl,rfl,rfl,rfl,rfl⟩ rfl rfl rfl rfl rfl (by kernel_rfl) Tryz.func6 qF
  (of_decide_eq_true (by kernel_rfl)) (by unfold Func.isWrapper;first|(rw[if_pos (by decide+kernel)];kernel_rfl)|(rw[if_neg (by decide+kernel)];exact⟨rfl,rfl⟩))
  (fun os started H enc _ F=>by rw[OpenClaim.pre_eq_preRow];exact qV os started H enc F)
def sc (f:FuncId)(fn:Func)(hf:Tryz.pinned.checked.prog.funcNamed "linchpin/linchpinlaw30.JudgeOther" =some f)(hfn:Tryz.pinned.checked.prog.funcs[f]? =some fn):
  true=Tryz.pinned.checked.prog.looks []/\∀(j:Nat) t,fn.params[j]? =some t->Tryz.pinned.checked.prog.wantsStandIn t=false:=by
 obtain rfl:f=6:=Option.some.inj ((show Tryz.prog.funcNamed "linchpin/linchpinlaw30.JudgeOther" =some 6 by kernel_rfl).symm.trans hf) |>.symm
 obtain rfl:fn=Tryz.f6:=(Option.some.inj (Tryz.func6.symm.trans hfn)).symm;refine⟨by kernel_rfl,fun j t ht=>?_⟩;have hall:(Tryz.f6.params.toList.all fun t=>!Tryz.prog.wantsStandIn t)=true:=by kernel_rfl
 have:=List.all_eq_true.1 hall t (by simpa using Array.mem_of_getElem? ht);show Tryz.prog.wantsStandIn t=false;simpa using this
theorem card_judgeOther:Rows.JudgeOtherCardSaid:=
 Claim7.holds_tied_plain_at .later [] _ _ _ _ tw (fun _ h=>by cases h) (by kernel_rfl) (fun _ h=>by cases h) judgeOther_row_tie rfl ⟨rfl,rfl⟩ (by kernel_rfl) rfl sc (by kernel_rfl)
end Go.Proofs.YtaeimnechonnmaaGreatDoor
end
#print axioms Go.Proofs.YtaeimnechonnmaaGreatDoor.card_judgeOther
