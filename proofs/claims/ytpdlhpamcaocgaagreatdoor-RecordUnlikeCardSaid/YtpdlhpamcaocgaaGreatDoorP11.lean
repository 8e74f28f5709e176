/- linchpin: RecordUnlike answers true for every list of numbers. -/
import Derived.Test.YtpdlhpamcaocgaaGreatDoorP10
set_option linter.all false
set_option maxRecDepth 4000
section
namespace Go.Proofs.YtpdlhpamcaocgaaGreatDoor
open Go.Abs Go.ChangeShapes Go.WideShapes Go.ChangeAt Go.RowKit Go.Proofs
def eC:Array Value:=#[.slice none 0 0,.slice none 0 0]
def me (os:Os):laidMet Tryz.prog Rows.recordUnlikeRow.laid ((qR os).forCall (fun _ _=>0) ⟨#[],eC,[]⟩).memory:=
 laidMet_of_run' 8 (by kernel_rfl) (by kernel_rfl)
def n8:lh Tryz.prog 20 Tryz.f11.params.toList=some [(false,[.sl false 1 [.int .i64]]),(false,[.sl false 1 [.int .i64]])]:=by kernel_rfl
def qZ {W:World}{es:List D}{n:Nat}(h:sN [(false,[.sl false 1 [.int .i64]]),(false,[.sl false 1 [.int .i64]])] es n)(hr:∀i,i<es.length→∃v,RD sz (sI W) v (es.getD i .any)):(vl a8).pre 13 es∧(vl a8).val 13 es=.bool true:=by
 obtain⟨d1,_,n1,m1,rfl,a1,h1,d2,_,n2,m2,rfl,a2,h2,rfl⟩:=h;obtain⟨v1,rfl,k1⟩:=y5 (Ca h1);obtain⟨v2,rfl,k2⟩:=y5 (Ca h2);exact ctxp D13 fun T h=>h v1 v2
def o9 (os:Os){H:Type}(enc:TypeId×Value→H):∃places,DataW.whole enc Tryz.prog ((qR os).forCall (fun _ _=>0) ⟨#[],eC,[]⟩).memory Tryz.f11.params.toList Rows.recordUnlikeSpec.vars false eC.toList 8=
  some ([.nil,.nil],[],places):=
 ⟨[],by kernel_rfl⟩
set_option maxRecDepth 100000 in
theorem n5 (os:Os)(started:os.Started)(H:Type)(enc:TypeId×Value→H)(F:Stop.Interp):
  ReturnsInHanded {} Tryz.checked os 11 .any ((OpenSpec.ofChange Rows.recordUnlikeSpec).preRow enc Tryz.prog Tryz.f11 Rows.recordUnlikeRow.domain false Rows.recordUnlikeRow.laid) (((OpenSpec.ofChange Rows.recordUnlikeSpec).at F).post enc Tryz.prog Tryz.f11 false true false false):=by
 obtain⟨places,hx⟩:=o9 os enc;refine returnsInHanded_of_row (C:=Tryz.checked) (s:=OpenSpec.ofChange Rows.recordUnlikeSpec) own started (by kernel_rfl) Tryz.func11
  (witness_row_at (enc:=enc) (C:=Tryz.checked) false (qR os) eC rfl (by kernel_rfl) (by kernel_rfl) (by kernel_rfl)
    (OpenSpec.preRow_of_cond 8 hx (by kernel_rfl) (fun k hk=>by cases hk) (by kernel_rfl) (me os))) ?_
 intro W base args ds gs before si hW _ _ _ hL hsh _;refine AW (n:=13) (k:=20) (s:=(OpenSpec.ofChange Rows.recordUnlikeSpec).at F) (tb:=4) okY Tryz.func11 (by kernel_rfl) (by kernel_rfl) (by kernel_rfl) Fq (by kernel_rfl) n8 (by kernel_rfl) (by kernel_rfl) rfl (fun xs hx=>?_) (NG hL hsh)
  (fun es he hr=>qZ he hr) si hW
 match xs,hx with
 |[a,b],_=>rfl
def sj:Tryz.prog.inPlace 11=Rows.recordUnlikeRow.inPlace:=by kernel_rfl
def sk:Tryz.prog.unfollowed 11=Rows.recordUnlikeRow.unfollowed:=by kernel_rfl
def sn:Tryz.prog.recurses 11=Rows.recordUnlikeRow.recurses:=by kernel_rfl
def sr:Tryz.prog.varsNamed 11=Rows.recordUnlikeRow.named:=by kernel_rfl
def nY:joinedFacts Tryz.prog 11 Tryz.f11 (OpenSpec.ofChange Rows.recordUnlikeSpec).bare Rows.recordUnlikeRow=true:=by
 unfold joinedFacts;rw[sj,sk,sn,sr]
 kernel_rfl
def qd:Rows.RecordUnlikeSaid:=
 OpenClaim.holds_of_cond 11 Tryz.f11 rfl rfl rfl rfl rfl rfl rfl ⟨rfl,rfl,rfl,rfl,rfl⟩ rfl rfl rfl rfl rfl (by kernel_rfl) Tryz.func11 nY
  (of_decide_eq_true (by kernel_rfl)) (by unfold Func.isWrapper;first|(rw[if_pos (by decide+kernel)];kernel_rfl)|(rw[if_neg (by decide+kernel)];exact⟨rfl,rfl⟩))
  (fun os started H enc _ F=>by rw[OpenClaim.pre_eq_preRow];exact n5 os started H enc F)
def oW (f:FuncId)(fn:Func)(hf:Tryz.pinned.checked.prog.funcNamed "linchpin/linchpinlaw12.RecordUnlike" =some f)(hfn:Tryz.pinned.checked.prog.funcs[f]? =some fn):
  false=Tryz.pinned.checked.prog.looks []∧∀(j:Nat) t,fn.params[j]? =some t→Tryz.pinned.checked.prog.wantsStandIn t=false:=by
 obtain rfl:f=11:=Option.some.inj ((show Tryz.prog.funcNamed "linchpin/linchpinlaw12.RecordUnlike" =some 11 by kernel_rfl).symm.trans hf) |>.symm
 obtain rfl:fn=Tryz.f11:=(Option.some.inj (Tryz.func11.symm.trans hfn)).symm;refine⟨by kernel_rfl,fun j t ht=>?_⟩;have hall:(Tryz.f11.params.toList.all fun t=>!Tryz.prog.wantsStandIn t)=true:=by kernel_rfl
 have:=List.all_eq_true.1 hall t (by simpa using Array.mem_of_getElem? ht);show Tryz.prog.wantsStandIn t=false;simpa using this
theorem card_recordUnlike:Rows.RecordUnlikeCardSaid:=
 Claim7.holds_tied_plain_at .later [] _ _ _ _ qd (fun _ h=>by cases h) (by kernel_rfl) (fun _ h=>by cases h) recordUnlike_row_tie rfl ⟨rfl,rfl⟩ (by kernel_rfl) rfl oW (by kernel_rfl)
end Go.Proofs.YtpdlhpamcaocgaaGreatDoor
end
#print axioms Go.Proofs.YtpdlhpamcaocgaaGreatDoor.card_recordUnlike
