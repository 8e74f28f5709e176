/- For any text of at most five hundred bytes the program's Parse of manifests answers as the reference's. -/
import Derived.Deep.DeepHandedRow
import Derived.Lib.LaidTab
import Derived.Test.YtfijeeijkndliaaGreatDoorCards
import Derived.Test.YtfijeeijkndliaaGreatDoorTie
import Derived.Test.YtfijeeijkndliaaGreatDoorP34
import Derived.Test.YtfijeeijkndliaaGreatDoorP35
import Derived.Test.YtfijeeijkndliaaGreatDoorP36
import Derived.Test.YtfijeeijkndliaaGreatDoorP33
import Derived.Test.YtfijeeijkndliaaGreatDoorP09
set_option linter.all false
set_option maxRecDepth 60000
set_option maxHeartbeats 2000000
namespace Go.Abs
def sB:List (Nat×Nat)->Prop
 |[]=>True
 |p::r=>Ow p.1 p.2/\sB r
def sB.mem:∀{l:List (Nat×Nat)},sB l->∀p∈l,Ow p.1 p.2
 |p::r,h,q,hq=>by
  rcases ca.1 hq with rfl|hq
  .exact h.1
  .exact h.2.mem q hq
def RR:sB fB:=⟨H14,H81,P9,Zi,P4,H82,H83,H84,H70,PQ,QK,QL,H71,Zl,Zm,H72,P5,P6,P7,H76,N5,N6,N7,N8,P8,H223,H248,Qa,H77,H250,H78,P2,PS,PT,PU,PV,PW,PX,PY,N4,Rc,Oi,Rd,Re,PZ,P0,P1,QP,Oa,Oe,PN,P3,Of,Oc,QH,Og,QI,QJ,QF,H224,Zj,Zk,QG,Qb,Qz,QA,Qf,Qg,Qh,Qi,Qd,Qj,Qk,Ql,Qm,Qn,Qo,Qp,Qq,Rr,Rs,Rt,Qr,Qs,Qt,Qu,Qv,Qw,Qx,Qy,Rg,Rh,Qc,QB,QC,QD,QE,Od,QO,H471,H472,H473,H474,H475,H476,Zn,Q9,Ra,Rb,QN,QM,QQ,QR,QS,QT,QU,N9,QV,Oh,QW,RN,RO,QX,QY,QZ,Q0,Q3,Qe,Q4,Q5,Q6,Q7,Rv,Rw,Rx,Ry,Rz,RA,Q8,H568,Rf,Ri,Rj,Rk,Rl,Ob,Rm,Rn,Ro,Rp,Rq,Ec,Ed,Ee,H741,H742,Ru,RB,RC,RE,RF,RG,RH,RI,RJ,RL,RM,El,Ef,Eg,Eh,Ei,Ej,Ek,Em,En,Eo,Ep,Er,Es,trivial⟩
def gk:∀{l:List (Nat×Nat)}{a b:Nat},dI l a=some b->(a,b)∈l
 |[],_,_,h=>by simp[dI]at h
 |(c,d)::r,a,b,h=>by
  simp only[dI]at h;split at h
  .rename_i e;simp_all
  .exact .tail _ (gk h)
def okY:Ok (Go.Proofs.Tryz.prog) fB qk (sT aq):=okA (fun fid n hn=>(show ∀p∈fB,p.2<1000000 by decide+kernel) _ (gk hn)) (fun t ht=>by simp[qk]at ht;show t=130;omega) fun fid n hn=>RR.mem (fid,n) (gk hn)
end Go.Abs
section
namespace Go.Proofs.YtfijeeijkndliaaGreatDoor
open Go.Abs Go.ChangeShapes Go.WideShapes Go.ChangeAt Go.RowKit Go.Proofs
def own:ownKnob Tryz.prog.godebug=none:=by kernel_rfl
def qx:laidOutB Tryz.prog=true:=by kernel_rfl
def fO {P:Program}{W:World}{y:String×DataW Unit}{l:List (String×DataW Unit)}(h:laidMet P (y::l) W):laidMet P l W:=by
 obtain⟨ps,⟨g,t,cs,fuel,p,q,_,_,_,_,h1,rfl⟩,h2,h3⟩:=h;refine⟨q,h1,(List.nodup_append.1 h2).2.1,fun b off hm=>h3 b off (by simp[hm])⟩
def ml {W:World}{b:Nat}{o:Nat}{v:Value}(h:W.cell? ⟨b,o,none⟩=some v):b<W.heap.size:=by
 unfold World.cell? at h;split at h
 .rename_i h2;exact(Array.getElem?_eq_some_iff.mp h2).1
 .cases h
def E7 {W:World}(hL:laidMetH Tryz.prog Rows.manifestReadsRow.laid W)(hsh:W.ShapedOpen Tryz.prog):df.gd (vA W):=by
 have hL':laidMet Tryz.prog Rows.manifestReadsRow.laid W:=hL;have htab:Lib.TabIs Tryz.prog W "internal/strconv.uint64pow10" .u64 Lib.pow10Tab:=
  Lib.tabIs_of_head (g:=3) (t:=261) (e:=58) (n:=20) (by kernel_rfl) (by kernel_rfl) (by kernel_rfl) (by kernel_rfl) (by kernel_rfl) (by kernel_rfl) (fO (fO hL'))
 obtain⟨m,hm⟩:∃m,W.cell? ⟨0,0,none⟩=some (.int .i64 m):=Go.Proofs.cell_of_shapedOpen_int (zero:=#[.int .i64 0]) (t:=3) hsh (of_decide_eq_true (by kernel_rfl)) (by kernel_rfl) rfl (by kernel_rfl) (by kernel_rfl) Tryz.underlying3
 have h3:=htab.cell gC 0 (by decide);exact⟨⟨ml hm,m,hm⟩,ml h3,htab⟩
def vR {H:Type}:(∀d:DataW H,dB d<=Rows.uptoBulk d)/\(∀ds:List (DataW H),Ck ds<=Rows.uptoBulkAll ds):=by
 have key:∀n,(∀d:DataW H,SizeOf.sizeOf d<=n->dB d<=Rows.uptoBulk d)/\(∀ds:List (DataW H),SizeOf.sizeOf ds<=n->Ck ds<=Rows.uptoBulkAll ds):=by
  intro n;induction n with
  |zero=>
   refine⟨fun d h=>?_,fun ds h=>?_⟩
   .cases d<;>simp at h<;>omega
   .cases ds<;>simp at h<;>omega
  |succ n ih=>
   refine⟨fun d h=>?_,fun ds h=>?_⟩
   .cases d with
    |lit l=>cases l<;>simp[dB,Rows.uptoBulk]
    |slice es sp=>
     have:=ih.2 es (by simp at h;omega);simp only[dB,Rows.uptoBulk];omega
    |agg ps=>
     have:=ih.2 ps (by simp at h;omega);simp only[dB,Rows.uptoBulk];omega
    |_=>simp[dB,Rows.uptoBulk]
   .cases ds with
    |nil=>simp[Ck]
    |cons d r=>
     have h1:=ih.1 d (by simp at h;omega);have h2:=ih.2 r (by simp at h;omega);simp only[Ck,Rows.uptoBulkAll];omega
 exact⟨fun d=>(key _).1 d (Nat.le_refl _),fun ds=>(key _).2 ds (Nat.le_refl _)⟩
mutual
def kd {H:Type}:DataW H->List Value
 | .lit (.int k n)=>[.int k n]
 | .agg ps=>qj ps
 |_=>[]
def qj {H:Type}:List (DataW H)->List Value
 |[]=>[]
 |d::r=>kd d++qj r
end
def put (d:DataW Unit):Obj->Obj
 | .cells _ t frozen=>.cells (kd d).toArray t frozen
 |o=>o
noncomputable def gm (os:Os):World:=
 {World.holding Tryz.prog os ⟨#[],#[],[]⟩with heap:=(((((World.holding Tryz.prog os ⟨#[],#[],[]⟩).heap.modify 1 (put Rows.laid_unicode_utf8_first)).modify 2 (put Rows.laid_unicode_utf8_acceptRanges)).modify 3 (put Rows.laid_internal_strconv_uint64pow10)).modify 4 (put Rows.laid_math_bits_deBruijn32tab)).modify 5 (put Rows.laid_math_bits_deBruijn64tab)}
def Nh:Value:=.string ⟨#[]⟩
end Go.Proofs.YtfijeeijkndliaaGreatDoor
end
section
namespace Go.Proofs.YtfijeeijkndliaaGreatDoor
open Go.Abs Go.ChangeShapes Go.WideShapes Go.ChangeAt Go.RowKit Go.Proofs
def jh:Array Value:=#[Nh]
def ta (os:Os):laidMet Tryz.prog Rows.manifestReadsRow.laid ((gm os).forCall (fun _ _=>0) ⟨#[],jh,[]⟩).memory:=
 laidMet_of_run' 8 (by kernel_rfl) (by kernel_rfl)
def vk:mN Tryz.prog 20 Tryz.f4.params.toList=some [(false,[.str])]:=by kernel_rfl
def zp {W:World}{es:List D}{n:Nat}(h:sK [(false,[.str])] es n)(hr:∀i,i<es.length->∃v,RD fB (vA W) v (es.getD i .any)):(sT aq).pre 14 es/\(sT aq).val 14 es=.bool true:=by
 obtain⟨d1,_,n1,m1,rfl,a1,h1,rfl⟩:=h;obtain⟨v1,rfl,k1⟩:=UP (wv h1);exact ctxp D14 fun T h=>h v1
def wT (os:Os){H:Type}(enc:TypeId×Value->H):∃places,DataW.whole enc Tryz.prog ((gm os).forCall (fun _ _=>0) ⟨#[],jh,[]⟩).memory Tryz.f4.params.toList Rows.manifestReadsSpec.vars false jh.toList 8=
  some ([.lit (.string [])],[],places):=
 ⟨[],by kernel_rfl⟩
set_option maxRecDepth 100000 in
theorem uK (os:Os)(started:os.Started)(H:Type)(enc:TypeId×Value->H)(F:Stop.Interp):
  ReturnsInHanded {} Tryz.checked os 4 .any ((OpenSpec.ofChange Rows.manifestReadsSpec).preRow enc Tryz.prog Tryz.f4 Rows.manifestReadsRow.domain false Rows.manifestReadsRow.laid) (((OpenSpec.ofChange Rows.manifestReadsSpec).at F).post enc Tryz.prog Tryz.f4 false true false false):=by
 obtain⟨places,hx⟩:=wT os enc;refine returnsInHanded_of_row (C:=Tryz.checked) (s:=OpenSpec.ofChange Rows.manifestReadsSpec) own started (by kernel_rfl) Tryz.func4
  (witness_row_at (enc:=enc) (C:=Tryz.checked) false (gm os) jh rfl (by kernel_rfl) (by kernel_rfl) (by kernel_rfl)
    (OpenSpec.preRow_of_cond 8 hx (by kernel_rfl) (fun k hk=>by cases hk) (by kernel_rfl) (ta os))) ?_
 intro W base args ds gs before tJ hW _ _ _ hL hsh _;refine td (n:=14) (k:=20) (s:=(OpenSpec.ofChange Rows.manifestReadsSpec).at F) (tb:=4) okY Tryz.func4 (by kernel_rfl) (by kernel_rfl) (by kernel_rfl) qx (by kernel_rfl) vk (by kernel_rfl) (by kernel_rfl) rfl (fun xs hx=>?_) (E7 hL hsh)
  (fun es he hr=>zp he hr) tJ hW
 match xs,hx with
 |[a],_=>rfl
def AZ:Tryz.prog.inPlace 4=Rows.manifestReadsRow.inPlace:=by kernel_rfl
def A0:Tryz.prog.unfollowed 4=Rows.manifestReadsRow.unfollowed:=by kernel_rfl
def A1:Tryz.prog.recurses 4=Rows.manifestReadsRow.recurses:=by kernel_rfl
def A2:Tryz.prog.varsNamed 4=Rows.manifestReadsRow.named:=by kernel_rfl
def uj:joinedFacts Tryz.prog 4 Tryz.f4 (OpenSpec.ofChange Rows.manifestReadsSpec).bare Rows.manifestReadsRow=true:=by
 unfold joinedFacts;rw[AZ,A0,A1,A2]
 kernel_rfl
def yp:Rows.ManifestReadsSaid:=
 OpenClaim.holds_of_cond 4 Tryz.f4 rfl rfl rfl rfl rfl rfl rfl ⟨rfl,rfl,rfl,rfl,rfl⟩ rfl rfl rfl rfl rfl (by kernel_rfl) Tryz.func4 uj
  (of_decide_eq_true (by kernel_rfl)) (by unfold Func.isWrapper;first|(rw[if_pos (by decide+kernel)];kernel_rfl)|(rw[if_neg (by decide+kernel)];exact⟨rfl,rfl⟩))
  (fun os started H enc _ F=>by rw[OpenClaim.pre_eq_preRow];exact uK os started H enc F)
def wS (f:FuncId)(fn:Func)(hf:Tryz.pinned.checked.prog.funcNamed "linchpin/linchpinlaw16.ManifestReads" =some f)(hfn:Tryz.pinned.checked.prog.funcs[f]? =some fn):
  false=Tryz.pinned.checked.prog.looks []/\∀(j:Nat) t,fn.params[j]? =some t->Tryz.pinned.checked.prog.wantsStandIn t=false:=by
 obtain rfl:f=4:=Option.some.inj ((show Tryz.prog.funcNamed "linchpin/linchpinlaw16.ManifestReads" =some 4 by kernel_rfl).symm.trans hf) |>.symm
 obtain rfl:fn=Tryz.f4:=(Option.some.inj (Tryz.func4.symm.trans hfn)).symm;refine⟨by kernel_rfl,fun j t ht=>?_⟩;have hall:(Tryz.f4.params.toList.all fun t=>!Tryz.prog.wantsStandIn t)=true:=by kernel_rfl
 have:=List.all_eq_true.1 hall t (by simpa using Array.mem_of_getElem? ht);show Tryz.prog.wantsStandIn t=false;simpa using this
theorem card_manifestReads:Rows.ManifestReadsCardSaid:=
 Claim7.holds_tied_plain_at .later [] _ _ _ _ yp (fun _ h=>by cases h) (by kernel_rfl) (fun _ h=>by cases h) manifestReads_row_tie rfl ⟨rfl,rfl⟩ (by kernel_rfl) rfl wS (by kernel_rfl)
end Go.Proofs.YtfijeeijkndliaaGreatDoor
end
#print axioms Go.Proofs.YtfijeeijkndliaaGreatDoor.card_manifestReads
