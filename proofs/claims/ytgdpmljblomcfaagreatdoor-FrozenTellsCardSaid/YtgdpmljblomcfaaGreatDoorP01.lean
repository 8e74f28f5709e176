/- A part of the proofs. -/
import Derived.Attr
import Derived.ChangeKeysEq
import Derived.Deep.AppendSrc
import Derived.Deep.DeepAppendWide
import Derived.Great.BuildSlice
import Derived.KernelRfl
import Derived.Laws.Cover4
import Derived.Laws.IdiomStrings
import Derived.Laws.MakeOwn
import Derived.Lib.Strings
import Derived.MapKept
import Derived.Orders
import Derived.Test.YtgdpmljblomcfaaGreatDoorProg
import Derived.WalkKit
import Derived.WideKeyArr
import GoSem.Dispatch
import GoSem.Step
set_option linter.all false
set_option maxRecDepth 60000
set_option maxHeartbeats 2000000
namespace Go.Abs
def bE:=@List.length_cons
def b7:=@List.length_nil
def cK:=@decide_eq_false_iff_not
def bn:=@decide_eq_true_eq
def aD:=@Option.some.injEq
def ai:=@if_neg
def ak:=@if_pos
def aN:=@Bool.and_eq_true
def ct:=@List.length_append
def dH:=@Bool.not_eq_false'
def cG:=@Bool.not_eq_true'
def aP:=@Nat.le_refl
def aW:=@Option.some.inj
def bj:=@List.length_map
def aU:=@if_false
def aZ:=@if_true
def cT:=@List.drop_zero
def bz:=@decide_eq_true
def b8:=@Nat.zero_add
def gC:=@Bool.or_eq_false_iff
def dr:=@List.forall_mem_cons
def eo:=@Bool.and_eq_false_iff
def dd:=@Option.map_eq_some_iff
def bI:=@decide_eq_false
def dI:=@Bool.or_eq_true
def eU:=@List.take_of_length_le
def eg:=@List.length_take
def fj:=@List.append_assoc
def aC:=@List.mem_singleton
def iD:=@Bool.false_eq_true
def di:=@Prod.mk.injEq
def fH:=@Nat.mul_le_mul_right
def eJ:=@Nat.le_trans
def jj:=@Nat.lt_of_lt_of_le
def qZ:=@List.nil_append
def lI:=@List.eq_nil_of_length_eq_zero
def eV:=@List.drop_eq_getElem_cons
def sX:=@List.cons_append
def b9:=@List.mem_cons
def dJ:=@true_and
def dj:=@and_true
def fI:=@false_and
def fR:=@and_false
def fS:=@and_self
def cU:=@Eq.trans
def aw:=@congrArg
def j4:=@List.drop_eq_nil_of_le
def gD:=@List.append_nil
def j5:=@List.length_drop
def cV:=@List.not_mem_nil
def px:=@UInt8.toNat_inj
def iQ:=@List.getD_cons_zero
def fT:=@Bool.true_and
def gQ:=@Bool.and_true
def cC:=@List.mem_map
def sY:=@List.cons.injEq
def Z5:=@List.length_eq_zero_iff
def zG:=@List.mem_of_mem_take
def lJ:=@decide_eq_decide
def eh:=@Nat.lt_or_ge
def ae {p:Prop}(h:p:=by omega):p:=h
def ep {p:Prop}(h:p:=by simp only[List.length_cons,List.length_nil];omega):p:=h
def aT {p:Prop}(h:p:=by decide):p:=h
def yz {p:Prop}(h:p:=by kernel_rfl):p:=h
def aG {p:Prop}(h:p:=by simp):p:=h
def mw {p:Prop}(h:p:=by dsimp only;omega):p:=h
def dN {p:Prop}(h:p:=by simp;omega):p:=h
def cW {p:Prop}(h:p:=by exact rfl):p:=h
def ll {p:Prop}(h:p:=by simp only[uR,iA,lg,xg,A1,cQ,Nat.reduceEqDiff,aZ,aU,fS,dJ,dj,fI,fR,b8,bj,aP,cT,bw,reduceCtorEq,bE,b7,Nat.reduceAdd,Nat.reduceLeDiff,xh,br.fz,Key.fz,Rec.fz,Env.fz,cy.fz,de.fz,gV.fz,my.fz,jv.fz,Ct,List.take_succ_cons,List.take_zero];exact rfl):p:=h
def eD {p:Prop}(h:p:=by repeat(first|exact fk.nil|refine fk.un ?_|refine fk.eq ah ?_|refine fk.nl ah ah ?_|refine fk.ni (Or.inr ⟨_,_,_,rfl⟩) ?_)):p:=h
def lq {p:Prop}(h:p:=by simp only[uR,iA,lg,xg,A1,cQ,Nat.reduceEqDiff,aZ,aU,fS,dJ,dj,fI,fR,b8,bj,aP,cT,bw,reduceCtorEq,bE,b7,Nat.reduceAdd,Nat.reduceLeDiff,Ib,List.length_set];exact rfl):p:=h
def mZ {p:Prop}(h:p:=by simp only[uR,iA,lg,xg,A1,cQ,Nat.reduceEqDiff,aZ,aU,fS,dJ,dj,fI,fR,b8,bj,aP,cT,bw,reduceCtorEq,bE,b7,Nat.reduceAdd,Nat.reduceLeDiff,aiq,ack,WH,acj];exact rfl):p:=h
def cr {p:Prop}(h:p:=by first|omega|(simp at hf;omega)):p:=h
def jD {p:Prop}(h:p:=by first|assumption|omega|(grind [Cut.sm,Span.sm,cy.sm,zN,aq,Want.sm,ei.sm,c9.sm,b6.sm])):p:=h
def aaq {p:Prop}(h:p:=by repeat(first|exact bo.nil|refine bo.vI ah ah dV ?_|refine bo.Kr ah ah ah ?_|refine bo.Nr ah ah ah ah ?_|refine bo.vI ah ah (by exact jg _ _) ?_|refine bo.nl 3 ah ah ah (by first|exact rfl|exact jg _ _|exact bH (fun _=>rfl) _) ?_|refine bo.eq 3 ah ah ah ?_|refine bo.nl 5 ah ah ah (by first|exact rfl|exact jg _ _|exact bH (fun _=>rfl) _) ?_|refine bo.eq 5 ah ah ah ?_|refine bo.nl 6 ah ah ah (by first|exact rfl|exact jg _ _|exact bH (fun _=>rfl) _) ?_|refine bo.eq 6 ah ah ah ?_|refine bo.nl 10 ah ah ah (by first|exact rfl|exact jg _ _|exact bH (fun _=>rfl) _) ?_|refine bo.eq 10 ah ah ah ?_)):p:=h
def Gz {p:Prop}(h:p:=by simp only[uR,iA,lg,xg,A1,cQ,Nat.reduceEqDiff,aZ,aU,fS,dJ,dj,fI,fR,b8,bj,aP,cT,bw,reduceCtorEq,bE,b7,Nat.reduceAdd,Nat.reduceLeDiff,xh,br.fz,Key.fz,Rec.fz,Env.fz,cy.fz,de.fz,gV.fz,my.fz,jv.fz,Ct,List.take_succ_cons,List.take_zero,BS,eF,nj,nd];exact rfl):p:=h
def AQ {p:Prop}(h:p:=by simp only[uR,iA,lg,xg,A1,cQ,Nat.reduceEqDiff,aZ,aU,fS,dJ,dj,fI,fR,b8,bj,aP,cT,bw,reduceCtorEq,bE,b7,Nat.reduceAdd,Nat.reduceLeDiff,List.take_succ_cons,List.take_zero];exact rfl):p:=h
def dw {p:Prop}(h:p:=by simp[ho,Op.operands,Call.operands]):p:=h
def wv {p:Prop}(h:p:=by simp only[uR,iA,lg,xg,A1,cQ,Nat.reduceEqDiff,aZ,aU,fS,dJ,dj,fI,fR,b8,bj,aP,cT,bw,reduceCtorEq,bE,b7,Nat.reduceAdd,Nat.reduceLeDiff,fz_bq hkn];exact rfl):p:=h
def iE {p:Prop}(h:p:=by first|omega|(simp only[Gs.aS];omega)|(simp only[oZ,Gs.aS]at*;omega)):p:=h
def q9 {p:Prop}(h:p:=by first|exact rfl|exact jg _ _|exact bH (fun _=>rfl) _):p:=h
def J7 {p:Prop}(h:p:=by simp only[uR,iA,lg,xg,A1,cQ,Nat.reduceEqDiff,aZ,aU,fS,dJ,dj,fI,fR,b8,bj,aP,cT,bw,reduceCtorEq,bE,b7,Nat.reduceAdd,Nat.reduceLeDiff,ai0,acn,Q0,NV];exact rfl):p:=h
def zH {p:Prop}(h:p:=by repeat(first|exact bo.nil|refine bo.vI ah ah dV ?_|refine bo.Kr ah ah ah ?_|refine bo.Nr ah ah ah ah ?_|refine bo.mp 1 ah ah ah ?_)):p:=h
def J8 {p:Prop}(h:p:=by simp only[uR,iA,lg,xg,A1,cQ,Nat.reduceEqDiff,aZ,aU,fS,dJ,dj,fI,fR,b8,bj,aP,cT,bw,reduceCtorEq,bE,b7,Nat.reduceAdd,Nat.reduceLeDiff,acm,Q0];exact rfl):p:=h
def J9 {p:Prop}(h:p:=by simp only[uR,iA,lg,xg,A1,cQ,Nat.reduceEqDiff,aZ,aU,fS,dJ,dj,fI,fR,b8,bj,aP,cT,bw,reduceCtorEq,bE,b7,Nat.reduceAdd,Nat.reduceLeDiff,aco,jv.fz];exact rfl):p:=h
def sZ {p:Prop}(h:p:=by refine⟨?_, ?_, ?_⟩<;>first|exact rfl|(rw[nj];exact rfl)|(rw[nd];exact rfl)):p:=h
def Ka {p:Prop}(h:p:=by simp only[uR,iA,lg,xg,A1,cQ,Nat.reduceEqDiff,aZ,aU,fS,dJ,dj,fI,fR,b8,bj,aP,cT,bw,reduceCtorEq,bE,b7,Nat.reduceAdd,Nat.reduceLeDiff,WE];exact rfl):p:=h
def gR {p:Prop}(h:p:=by simp[ax.ey,hx,hy,kx hf,ky hf,AX]):p:=h
def Kb {p:Prop}(h:p:=by repeat(first|exact fk.nil|refine fk.un ?_|refine fk.eq ah ?_|refine fk.nl ah ah ?_|refine fk.ni (Or.inr ⟨_,_,_,rfl⟩) ?_|refine fk.nl (aw (D.int .i64) (by push_cast;omega)) ah ?_)):p:=h
def Z6 {p:Prop}(h:p:=by simp only[uR,iA,lg,xg,A1,cQ,Nat.reduceEqDiff,aZ,aU,fS,dJ,dj,fI,fR,b8,bj,aP,cT,bw,reduceCtorEq,bE,b7,Nat.reduceAdd,Nat.reduceLeDiff,xh,br.fz,Key.fz,Rec.fz,Env.fz,cy.fz,de.fz,gV.fz,my.fz,jv.fz,Ct,List.take_succ_cons,List.take_zero,BS,eF,nj,nd,NV,akK];exact rfl):p:=h
def Z7 {p:Prop}(h:p:=by simp only[uR,iA,lg,xg,A1,cQ,Nat.reduceEqDiff,aZ,aU,fS,dJ,dj,fI,fR,b8,bj,aP,cT,bw,reduceCtorEq,bE,b7,Nat.reduceAdd,Nat.reduceLeDiff,xh,br.fz,Key.fz,Rec.fz,Env.fz,cy.fz,de.fz,gV.fz,my.fz,jv.fz,Ct,List.take_succ_cons,List.take_zero,BS,eF,nj,nd,NV];exact rfl):p:=h
def Z8 {p:Prop}(h:p:=by simp only[uR,iA,lg,xg,A1,cQ,Nat.reduceEqDiff,aZ,aU,fS,dJ,dj,fI,fR,b8,bj,aP,cT,bw,reduceCtorEq,bE,b7,Nat.reduceAdd,Nat.reduceLeDiff,xh,br.fz,Key.fz,Rec.fz,Env.fz,cy.fz,de.fz,gV.fz,my.fz,jv.fz,Ct,List.take_succ_cons,List.take_zero,BS,eF];exact rfl):p:=h
def Z9 {p:Prop}(h:p:=by rw[show pj g nm v most=(⟨nm,v,(nS nm g.aS (g.val (most+1)).toNat).1,(eA (nS nm g.aS (g.val (most+1)).toNat).2 nm).1,(kZ (eA (nS nm g.aS (g.val (most+1)).toNat).2 nm).2 (nS nm g.aS (g.val (most+1)).toNat).1).1⟩,(kZ (eA (nS nm g.aS (g.val (most+1)).toNat).2 nm).2 (nS nm g.aS (g.val (most+1)).toNat).1).2)from rfl,hF];exact rfl):p:=h
def Qb {p:Prop}(h:p:=by repeat(first|exact bo.nil|refine bo.vI ah ah dV ?_|refine bo.Kr ah ah ah ?_|refine bo.Nr ah ah ah ah ?_|refine bo.nl 0 ah ah ah dV ?_|refine bo.nl 1 ah ah ah dV ?_)):p:=h
def lK {p:Prop}(h:p:=by simp only[bE,b7,sX,qZ];omega):p:=h
def mJ {p:Prop}(h:p:=by first|omega|(simp only[ct,b7];omega)):p:=h
def wx {p:Prop}(h:p:=by have hf:0<=c[j]! :=(by simpa only[fT,beq_iff_eq,bn]using hf);omega):p:=h
def aaa {p:Prop}(h:p:=by simp only[uR,iA,lg,xg,A1,cQ,Nat.reduceEqDiff,aZ,aU,fS,dJ,dj,fI,fR,b8,bj,aP,cT,bw,reduceCtorEq,bE,b7,Nat.reduceAdd,Nat.reduceLeDiff,WD,air (L:=22) (L':=3) aT,ais];exact rfl):p:=h
def Qc {p:Prop}(h:p:=by rcases hg2 with h|⟨_,_,_,h,_⟩|⟨_,_,h,_⟩|⟨_,_,_,_,h,_⟩|⟨_,_,_,h|h,_⟩|⟨_,_,_,_,h,_⟩;exact h;cases h;cases h;cases h;cases h;cases h;cases h):p:=h
def Qd {p:Prop}(h:p:=by have hf2:0<=w.us[j]!.cands[k]!.sh/\w.us[j]!.cands[k]!.sh<(shop.length:Int):=(by revert hf;generalize w.us[j]!.cands[k]!.sh=z;intro hf;simp at hf;omega);omega):p:=h
def Kd {p:Prop}(h:p:=by simpa only[fT,beq_iff_eq,bn]using hf):p:=h
def Qe {p:Prop}(h:p:=by refine bo.nl 0 ah ah ah dV ?_;refine bo.nl 1 ah ah ah dV ?_;refine bo.eq 2 ah ah ah ?_;refine bo.nl 3 ah ah ah dV ?_;exact bo.nil):p:=h
def aab {p:Prop}(h:p:=by simp only[uR,iA,lg,xg,A1,cQ,Nat.reduceEqDiff,aZ,aU,fS,dJ,dj,fI,fR,b8,bj,aP,cT,bw,reduceCtorEq,bE,b7,Nat.reduceAdd,Nat.reduceLeDiff,dm.fz,WG];exact rfl):p:=h
def aac {p:Prop}(h:p:=by simp only[uR,iA,lg,xg,A1,cQ,Nat.reduceEqDiff,aZ,aU,fS,dJ,dj,fI,fR,b8,bj,aP,cT,bw,reduceCtorEq,bE,b7,Nat.reduceAdd,Nat.reduceLeDiff,WE,bN.fz];exact rfl):p:=h
def py {p:Prop}(h:p:=by simp only[ax.val,hx,hy,ED];rw[hb hf]):p:=h
def aad {p:Prop}(h:p:=by simp only[uR,iA,lg,xg,A1,cQ,Nat.reduceEqDiff,aZ,aU,fS,dJ,dj,fI,fR,b8,bj,aP,cT,bw,reduceCtorEq,bE,b7,Nat.reduceAdd,Nat.reduceLeDiff,bN.fz];exact rfl):p:=h
def aae {p:Prop}(h:p:=by simp only[uR,iA,lg,xg,A1,cQ,Nat.reduceEqDiff,aZ,aU,fS,dJ,dj,fI,fR,b8,bj,aP,cT,bw,reduceCtorEq,bE,b7,Nat.reduceAdd,Nat.reduceLeDiff,Rec.fz];exact rfl):p:=h
def ca {p:Prop}(h:p:=by cases h):p:=h
def aaf {p:Prop}(h:p:=by repeat(first|exact bo.nil|refine bo.vI ah ah dV ?_|refine bo.Kr ah ah ah ?_|refine bo.Nr ah ah ah ah ?_|refine bo.nl 3 ah ah ah dV ?_|refine bo.nl 11 ah ah ah dV ?_)):p:=h
def aag {p:Prop}(h:p:=by repeat(first|exact bo.nil|refine bo.vI ah ah dV ?_|refine bo.Kr ah ah ah ?_|refine bo.Nr ah ah ah ah ?_|refine bo.mp 1 ah ah ah ?_|refine bo.eq 2 ah ah ah ?_)):p:=h
def aah {p:Prop}(h:p:=by first|assumption|omega|exact⟨hns.2 _ (aq ae),hp0.1.2.2.1 _ (aq ae)⟩|exact⟨(hp0.1.2.2.1 _ (aq ae)).2.1,hp0.2⟩|exact((hp0.1.2.2.1 _ (aq ae)).1 _ (aq ae)).1.2):p:=h
def zI {p:Prop}(h:p:=by have hl'':st.nx+(k+1)<=l':=hl';show st.nx+k<=l';omega):p:=h
def aai {p:Prop}(h:p:=by repeat(first|exact fk.nil|refine fk.un ?_|refine fk.eq ah ?_|refine fk.nl ah ah ?_|refine fk.ni (Or.inr ⟨_,_,_,rfl⟩) ?_|refine fk.nl (aw (D.int .u64) hsv) ah ?_)):p:=h
def zJ {p:Prop}(h:p:=by first|assumption|exact hp0.1|exact hp0.2.1|exact hp0.2.2):p:=h
def Ev {p:Prop}(h:p:=by simp only[ho,Op.operands,Call.operands];simp at ho'⊢;exact .inr ho'):p:=h
def aaj {p:Prop}(h:p:=by repeat(first|exact bo.nil|refine bo.vI ah ah dV ?_|refine bo.Kr ah ah ah ?_|refine bo.Nr ah ah ah ah ?_|refine bo.nl 1 ah ah ah dV ?_)):p:=h
def aak {p:Prop}(h:p:=by refine bo.nl 0 ah ah ah dV ?_;refine bo.nl 1 ah ah ah dV ?_;refine bo.nl 2 ah ah ah dV ?_;refine bo.nl 3 ah ah ah dV ?_;exact bo.nil):p:=h
def aal {p:Prop}(h:p:=by simp only[ax.ey,hx,hy];exact⟨kx hf,ky hf,by have:=hj hf;omega,by have:=hj hf;have:=hb hf;omega⟩):p:=h
def aam {p:Prop}(h:p:=by refine bo.nl 0 ah ah ah dV ?_;refine bo.nl 1 ah ah ah dV ?_;refine bo.eq 7 ah ah ah ?_;refine bo.nl 5 ah ah ah dV ?_;exact bo.nil):p:=h
def Qf {p:Prop}(h:p:=by first|assumption|omega|exact eJ (hp0.1.2 _ (aq ae)) aT|exact(hp0.2.1 _ (aq ae)).1.2):p:=h
def Ke {p:Prop}(h:p:=by first|assumption|omega|exact hp0.1|exact hp0.2.1|exact⟨hp0.2.1,hp0.2.2⟩):p:=h
def Qg {p:Prop}(h:p:=by first|assumption|omega|exact hp0.1|exact hp0.2.1 _ (aq ae)|exact hp0.2.2 _ (aq ae)):p:=h
def aan {p:Prop}(h:p:=by simp only[ji,hc3];revert hc4;generalize cP (bd s 46)[i]! =a;generalize oc (bd s 46)[i]! =b;cases p<;>cases a<;>cases b<;>simp):p:=h
def aao {p:Prop}(h:p:=by simp only[ax.ey,hx,dW,aH,hl,iQ,(dz _ _ _).1,ha];exact⟨trivial,ho,hn,trivial,trivial,⟨trivial,aG⟩,aG,hd,hc.1⟩):p:=h
def ox {p:Prop}(h:p:=by simp[ax.ey,hx,kx hf]):p:=h
def aap {p:Prop}(h:p:=by first|assumption|omega|exact hp0.1.1|exact⟨hp0.1.1,hcs.2.1 _ (aq ae),hfw.2.2 _ (aq ae)⟩|exact⟨hp0.1.1,hcs.2.2,hfw.2.1⟩):p:=h
def aar {p:Prop}(h:p:=by repeat(first|exact fk.nil|refine fk.un ?_|refine fk.eq ah ?_|refine fk.nl ah ah ?_|refine fk.ni (Or.inr ⟨0,1,0,rfl⟩) ?_)):p:=h
def ta {p:Prop}(h:p:=by rintro _ rfl;simp[ho,Op.operands]):p:=h
def j6 {p:Prop}(h:p:=by rw[bj];omega):p:=h
def aas {p:Prop}(h:p:=by have hcu:0<=c[u]! :=Decidable.byContradiction fun hn=>(by rw[bI hn]at hf;revert hf;decide);have:=(hfu hcu).1;omega):p:=h
def Kf {p:Prop}(h:p:=by repeat' first|exact rfl|exact trivial|refine And.intro ?_ ?_):p:=h
def Ew {p:Prop}(h:p:=by first|(rw[ct];rfl)|(simp only[ct];rfl)):p:=h
def aat {p:Prop}(h:p:=by simp only[ax.val,hx,Ln];rw[getD_map (hi hf)];exact hv hf):p:=h
def zK {p:Prop}(h:p:=by simp only[ax.val,hx,hy,ED,QA]):p:=h
def aau {p:Prop}(h:p:=by first|assumption|omega|exact hp0.1|exact hp0.2.1 _ (aq (by first|omega|(simp at hf;omega)))|exact hp0.2.2):p:=h
def aav {p:Prop}(h:p:=by first|assumption|omega|exact⟨(hp0.1.2.2.2.1 _ (aq ae)).2.2,hp0.2⟩|exact(hp0.1.2.2.2.1 _ (aq ae)).2.1):p:=h
def aaw {p:Prop}(h:p:=by rw[Oe hc0];exact(by refine⟨?_, ?_, ?_⟩<;>first|exact rfl|(rw[nj];exact rfl)|(rw[nd];exact rfl))):p:=h
def aax {p:Prop}(h:p:=by simp only[ax.ey,hx,Lm,bj];exact⟨kx hf,hi hf,ho⟩):p:=h
def zL {p:Prop}(h:p:=by simp only[ax.val,hx,hy,ED]<;>rfl):p:=h
def Kg {p:Prop}(h:p:=by have:=kJ (tot:=tot) (show i<tot by omega) hj;omega):p:=h
def mK {p:Prop}(h:p:=by simpa using hc1):p:=h
def aay {p:Prop}(h:p:=by first|(rw[rV,KM hc0 (i:=i) ae ae];done)|(rw[rV,KM hc0 (i:=i) ae ae];exact rfl)):p:=h
def Ey {p:Prop}(h:p:=by have:=hf.m l' hl';simp only at this⊢;omega):p:=h
def akS {p:Prop}(h:p:=by simp only[ct,List.length_singleton];omega):p:=h
def ra {p:Prop}(h:p:=by simpa using h):p:=h
def Kh {p:Prop}(h:p:=by first|assumption|(simp only[oZ,Gs.aS]at*;omega)):p:=h
def Ki {p:Prop}(h:p:=by simp only[fT,beq_iff_eq,aN,bn]at h;omega):p:=h
def Kj {p:Prop}(h:p:=by simp only[ax.val,hx,hy];rw[hj hf];rfl):p:=h
def Qh {p:Prop}(h:p:=by simp only[ax.ey,hx,Lm];exact⟨kx hf,hi hf,ho⟩):p:=h
def Qi {p:Prop}(h:p:=by simp only[ct,eg,j5,bE,b7];omega):p:=h
def Qj {p:Prop}(h:p:=by have:=hj hf;have:=hb hf;omega):p:=h
def jF {p:Prop}(h:p:=by simp[hc0]):p:=h
def Qk {p:Prop}(h:p:=by simp only[ax.val,hx,hy,ED];rw[wrap_i64 (hb hf).1 (hb hf).2]):p:=h
def Kk {p:Prop}(h:p:=by rw[ct,List.length_singleton];omega):p:=h
def zM {p:Prop}(h:p:=by simp only[eg];omega):p:=h
def pz {p:Prop}(h:p:=by simp[cF];omega):p:=h
def rb {p:Prop}(h:p:=by simp[ho,Op.operands]):p:=h
def Ql {p:Prop}(h:p:=by first|assumption|omega|exact hp0.1.p.1.1|exact hp0.1.p.1.2):p:=h
def Kl {p:Prop}(h:p:=by simp[ax.ey,hx,hy,kx hf,ky hf,AX,hn hf]):p:=h
def rh {p:Prop}(h:p:=by simp only;omega):p:=h
def Qm {p:Prop}(h:p:=by simp only[ax.val,hx,Ln,aH,hl hf,iQ];exact hv hf):p:=h
def Ez {p:Prop}(h:p:=by simp only[ct,bE,b7];omega):p:=h
def Qn {p:Prop}(h:p:=by have:=ha hf;subst hd;simpa[ax.Kn,hx,kx hf]using this):p:=h
def e8 {p:Prop}(h:p:=by simp at h):p:=h
def lQ {p:Prop}(h:p:=by simp[ax.val,hx]):p:=h
def J0 {p:Prop}(h:p:=by first|assumption|omega|exact hp0.1.1|exact hp0.1.2):p:=h
def SI {p:Prop}(h:p:=by rintro⟨h1,h2⟩;rcases hc1 with h|h;omega;exact h h2):p:=h
def lR {p:Prop}(h:p:=by simpa using hi):p:=h
def ju {p:Prop}(h:p:=by rw[h];simp):p:=h
def SJ {p:Prop}(h:p:=by simp only[ax.ey,hx,hy];exact⟨kx hf,ky hf,h1 hf⟩):p:=h
def J1 {p:Prop}(h:p:=by simp only[ho,Op.operands,cC];exact⟨p,hp,rfl⟩):p:=h
def J2 {p:Prop}(h:p:=by simp only[ax.val,hx,Ln];exact hv hf):p:=h
def J3 {p:Prop}(h:p:=by refine bo.nl 0 ah ah ah dV ?_;exact bo.nil):p:=h
def BT {p:Prop}(h:p:=by simp at hf;omega):p:=h
def J4 {p:Prop}(h:p:=by rw[xk _ _ _ ae];exact List.getElem_mem _):p:=h
def uw {p:Prop}(h:p:=by simp only[bE];omega):p:=h
def fV {p:Prop}(h:p:=by simp[h]):p:=h
def J5 {p:Prop}(h:p:=by simp[rN,R0,mz]):p:=h
def yA {p:Prop}(h:p:=by rw[IntKind.wrap_u64];omega):p:=h
def yB {p:Prop}(h:p:=by rw[cT,Gi];rfl):p:=h
def nE {p:Prop}(h:p:=by simpa using hj):p:=h
def yC {p:Prop}(h:p:=by simpa[D.aR]using hn):p:=h
def J6 {p:Prop}(h:p:=by have:=hj hf;omega):p:=h
def oW {p:Prop}(h:p:=by simpa using hc5):p:=h
def yD {p:Prop}(h:p:=by rw[tl];exact hl'):p:=h
def ux {p:Prop}(h:p:=by rwa [tl]at hi):p:=h
def uy {p:Prop}(h:p:=by rw[b8];rfl):p:=h
def uz {p:Prop}(h:p:=by simp[j2];omega):p:=h
def yE {p:Prop}(h:p:=by simpa using hc3):p:=h
def lS {p:Prop}(h:p:=by simp[hw0]):p:=h
def nF {p:Prop}(h:p:=by simp[eQ]):p:=h
inductive D where
 |any
 |bool (b:Bool)
 |int (k:IntKind) (n:Int)
 |str (s:List UInt8)
 |agg (cs:List D)
 |tup (ds:List D)
 |aJ
 |sl (k:Nat) (es:List D)
 |ref (k:Nat) (es:List D) (i o:Nat)
 |ptr (l k i o:Nat)
 |own (l k i n:Nat)
 |nilp
 |fn (f:Nat) (caps:List D)
 |nilf
 |it (l:Nat)
 deriving Inhabited
inductive Src where
 |s (n:Nat)
 |l (p:Nat)
 |c (d:D)
 deriving Inhabited
inductive Sh where
 |a
 |sl (k:Nat) (cs:List Sh)
 |pt (cs:List Sh)
 |kp (cs:List Sh)
 deriving Inhabited
inductive CK where
 |b|i (k:IntKind)|s
 deriving Inhabited
inductive ax where
 |mv (x:Src)
 |pick (c a b:Src)
 |box (k:Nat) (x:Src)
 |build (z:List D) (parts:List (Nat×Nat×Src))
 |bsl (k:Nat) (z:D) (n:Nat) (parts:List (Nat×Src))
 |ld (n:Nat) (ag:Bool) (p:Src)
 |st (n:Nat) (p v:Src)
 |stU (n:Nat) (p v:Src) (qs:List Src)
 |nilck (x:Src)
 |bin (op:BinOp) (x y:Src)
 |eqA (neg ag:Bool) (ks:List CK) (x y:Src)
 |un (op:UnOp) (x:Src)
 |cvi (k:IntKind) (x:Src)
 |mn (g:Bool) (x y:Src)
 |s2b (x:Src)
 |b2s (x:Src)
 |mkf (f:Nat) (caps:List Src)
 |mks (k:Nat) (z:D) (ln cp:Src)
 |slS (x:Src) (lo hi:Option Src)
 |slA (k:Nat) (x:Src) (lo hi:Option Src)
 |slX (k:Nat) (x hi mx:Src)
 |fa (off:Nat) (p:Src)
 |fld (off n:Nat) (ag:Bool) (x:Src)
 |ia (k:Nat) (x i:Src)
 |iaP (n k:Nat) (x i:Src)
 |ixS (x i:Src)
 |ixA (n k:Nat) (ag:Bool) (x i:Src)
 |ext (x:Src) (i:Nat)
 |len (x:Src)
 |lenS (x:Src)
 |app (k:Nat) (x y:Src)
 |call (f:Nat) (args:List Src) (sh:List (List Sh))
 |callv (f:Src) (args:List Src) (sh:List (List Sh))
 |callM (f:Nat) (args:List Src)
 |callvM (f:Src) (args:List Src)
 |ldI (n:Nat) (ag:Bool) (p:Src)
 |ldU (n:Nat) (ag:Bool) (p:Src)
 |ldW (n:Nat) (ag:Bool) (p:Src)
 |callF (f:Nat) (r:Src) (args:List Src) (sh:List (List Sh))
 |appN (k:Nat) (y:Src)
 |bslI (k:Nat) (z:D) (n:Nat) (parts:List (Nat×Src))
 |rng (x:Src)
 |aS (x:Src)
 |mkB
 |mkM
 |upM (x k v:Src)
 |lkM (z:D) (x k:Src)
 |isNl (x:Src) (neg:Bool)
 deriving Inhabited
structure GI where
 i:ax
 g:Option (Nat×Bool)
 deriving Inhabited
inductive AC where
 |reg (draw:Bool) (ins:List GI) (cm:List (Nat×Nat))
 |seq (a b:AC)
 |cond (c:Src) (a b:AC)
 |block (id:Nat) (a:AC)
 |loop (a:AC)
 |exit (id:Nat)
 |ret
 |skip
 deriving Inhabited
structure GA where
 s:Nat
 mem:Option (Nat×Bool)
 deriving Inhabited
structure aj where
 np:Nat
 ns:Nat
 res:List GA
 rsh:List (List Sh)
 body:AC
 deriving Inhabited
@[go_sem] def D.cells:D->List D
 | .agg cs=>cs
 | .any=>[]
 | .tup _=>[]
 |d=>[d]
@[go_sem] def D.isBool:D->Bool
 | .bool _=>true
 |_=>false
@[go_sem] def D.isAgg:D->Bool
 | .agg _=>true
 |_=>false
mutual
@[go_sem] def D.aR:D->Bool
 | .agg cs=>aL cs
 | .tup cs=>aL cs
 | .fn _ cs=>aL cs
 | .ptr .. =>false
 | .own .. =>false
 | .it _=>false
 |_=>true
@[go_sem] def aL:List D->Bool
 |[]=>true
 |d::r=>d.aR&&aL r
end
mutual
@[go_sem] def D.e7:D->Bool
 | .agg cs=>nY cs
 | .tup cs=>nY cs
 | .fn n cs=>!(Nat.ble 2000000 n)&&nY cs
 | .ptr .. =>false
 | .own .. =>false
 | .it _=>false
 | .sl .. =>false
 | .ref .. =>false
 |_=>true
@[go_sem] def nY:List D->Bool
 |[]=>true
 |d::r=>d.e7&&nY r
end
inductive bm where
 |buf (k:Nat) (es:List D)
 |iter (s:List UInt8) (pos:Nat)
 |row (s:List UInt8)
 |bld (o:Option Nat) (n:Nat) (u:Bool)
 |mpb (kvs:List D)
 deriving Inhabited
structure St where
 nx:Nat
 m:List (Nat×bm)
@[go_sem] def look:List (Nat×bm)->Nat->Option bm
 |[],_=>none
 |(a,b)::r,l=>if a=l then some b else look r l
@[go_sem] def cL:List (Nat×bm)->Nat->bm->List (Nat×bm)
 |[],l,b=>[(l,b)]
 |(a,x)::r,l,b=>if a=l then(a,b)::r else(a,x)::cL r l b
@[go_sem] def cQ:List (Nat×bm)->Nat->List (Nat×bm)
 |[],_=>[]
 |(a,x)::r,l=>if a=l then cQ r l else(a,x)::cQ r l
structure aX where
 ok:Bool
 d:D
@[go_sem] def aX.un:aX:=⟨true,.any⟩
@[go_sem] def Src.ev (env vs:List aX):Src->aX
 | .s n=>env.getD n .un
 | .l p=>vs.getD p .un
 | .c d=>⟨true,d⟩
structure Ctx where
 pre:Nat->List D->Prop
 val:Nat->List D->D
 tr:Nat->List D->St->(D->St->Prop)->Prop
 fp:Nat->D->List D->Prop
 fv:Nat->D->List D->D
 fs:Nat->D->List D->D
 lo:Nat
@[go_sem] def aH (m:List (Nat×bm))(l:Nat):List D:=match look m l with
 |some (.buf _ es)=>es
 |_=>[]
@[go_sem] def dW (m:List (Nat×bm))(l k n:Nat):Prop:=match look m l with
 |some (.buf k' es)=>k=k'/\n<=es.length
 |_=>False
@[go_sem] def qn (m:List (Nat×bm)):D->List D
 | .sl _ es=>es
 | .own l _ i n=>((aH m l).drop i).take n
 | .str s=>s.map fun b=>.int .u8 b.toNat
 |_=>[]
@[go_sem] def Cc (m:List (Nat×bm))(k:Nat):D->Prop
 | .sl k' _=>k'=k
 | .own l k' i n=>k'=k/\dW m l k (i+n)
 | .str _=>k=1
 | .aJ=>True
 |_=>False
mutual
@[go_sem] def kM (m:List (Nat×bm)):Sh->D->D
 | .a,d=>match d with
  | .aJ=>.sl 0 []
  |d=>d
 | .sl k cs,d=>match d with
  | .aJ=>.sl k []
  | .own l k' i c=>.sl k' ((((aH m l).drop i).take c).map (iX m cs))
  |d=>d
 | .pt cs,d=>match d with
  | .ptr l k i o=>.ref k ((aH m l).map (iX m cs)) i o
  |d=>d
 | .kp cs,d=>match d with
  | .own l k' i c=>.sl k' ((((aH m l).drop i).take c).map (iX m cs))
  |d=>d
@[go_sem] def iX (m:List (Nat×bm)):List Sh->D->D
 |[],d=>d
 |s::r,d=>match d with
  | .agg cs=>.agg (nv m (s::r) cs)
  |d=>kM m s d
@[go_sem] def nv (m:List (Nat×bm)):List Sh->List D->List D
 |[],ds=>ds
 |s::r,ds=>match ds with
  |[]=>[]
  |d::ds=>kM m s d::nv m r ds
end
mutual
@[go_sem] def iv (m:List (Nat×bm)):Sh->D->Prop
 | .a,d=>d.aR=true
 | .sl _ cs,d=>match d with
  | .own l k' i c=>dW m l k' (i+c)/\∀e∈((aH m l).drop i).take c,gL m cs e
  |d=>d.aR=true
 | .pt cs,d=>match d with
  | .ptr l k _ _=>dW m l k 0/\∀e∈aH m l,gL m cs e
  |d=>d.aR=true
 | .kp cs,d=>match d with
  | .own l k' i c=>dW m l k' (i+c)/\∀e∈((aH m l).drop i).take c,gL m cs e
  |d=>d.aR=true
@[go_sem] def gL (m:List (Nat×bm)):List Sh->D->Prop
 |[],d=>d.aR=true
 |s::r,d=>match d with
  | .agg cs=>kf m (s::r) cs
  |d=>iv m s d
@[go_sem] def kf (m:List (Nat×bm)):List Sh->List D->Prop
 |[],ds=>aL ds=true
 |s::r,ds=>match ds with
  |[]=>True
  |d::ds=>iv m s d/\kf m r ds
end
@[go_sem] def ED (op:BinOp):D->D->D
 | .int k a,.int _ b=>match op with
  | .add=>.int k (k.wrap (a+b))
  | .sub=>.int k (k.wrap (a-b))
  | .mul=>.int k (k.wrap (a*b))
  | .quo=>.int k (k.wrap (a.tdiv b))
  | .rem=>.int k (a.tmod b)
  | .eql=>.bool (a==b)| .neq=>.bool (a !=b)| .lss=>.bool (decide (a<b))| .leq=>.bool (decide (a<=b))| .gtr=>.bool (decide (b<a))| .geq=>.bool (decide (b<=a))
  | .shl=>.int k (k.wrap (a*2^(min b.toNat k.bits)))
  | .shr=>.int k (a.fdiv (2^(min b.toNat k.bits)))
  | .and=>.int k (k.wrap (((BitVec.ofInt k.bits a)&&&(BitVec.ofInt k.bits b)).toNat))
  | .or=>.int k (k.wrap (((BitVec.ofInt k.bits a) |||(BitVec.ofInt k.bits b)).toNat))
  | .xor=>.int k (k.wrap (((BitVec.ofInt k.bits a)^^^(BitVec.ofInt k.bits b)).toNat))
  | .andNot=>.int k (k.wrap (((BitVec.ofInt k.bits a)&&& ~~~(BitVec.ofInt k.bits b)).toNat))
 | .str a,.str b=>match op with
  | .add=>.str (a++b)
  | .eql=>.bool (a==b)| .neq=>.bool (!(a==b))| .lss=>.bool (Op.bytesLess a b)| .geq=>.bool (!(Op.bytesLess a b))
  | .leq=>.bool (Op.bytesLess a b ||a==b)| .gtr=>.bool (!(Op.bytesLess a b ||a==b))
  |_=>.any
 |_,_=>.any
@[go_sem] def AX (op:BinOp):D->D->Prop
 | .int k a,.int k' b=>match op with
  | .quo=>k=k'/\b≠0
  | .rem=>k=k'/\b≠0
  | .shl=>0<=b
  | .shr=>0<=b
  |_=>k=k'
 | .str a,.str b=>match op with
  | .add=>a.length+b.length<=9223372036854775807
  | .eql=>True| .neq=>True| .lss=>True| .geq=>True| .leq=>True| .gtr=>True
  |_=>False
 |_,_=>False
@[go_sem] def D.pick (b:Bool):D->D->D
 | .bool x,.bool y=>.bool (bif b then x else y)
 |x,y=>bif b then x else y
@[go_sem] def cut (cs:List D)(o n:Nat)(ag:Bool):D:=bif ag then .agg ((cs.drop o).take n)else cs.getD o .any
@[go_sem] def kK (e:D)(k n o:Nat)(ag:Bool):D:=bif (n==k)&&(e.isAgg==ag)then e else cut e.cells o n ag
@[go_sem] def Ln (m:List (Nat×bm))(n:Nat)(ag:Bool):D->D
 | .ptr l k i o=>kK ((aH m l).getD i .any) k n o ag
 | .ref k es i o=>kK (es.getD i .any) k n o ag
 | .fn _ es=>kK (es.getD 0 .any) 1 n 0 ag
 |_=>.any
@[go_sem] def Lm (m:List (Nat×bm))(n:Nat):D->Prop
 | .ptr l k i o=>dW m l k (i+1)/\o+n<=k
 | .ref k es i o=>i<es.length/\o+n<=k
 | .fn q es=>q=3000000/\n=1/\es.length=1/\(es.getD 0 .any).cells=[es.getD 0 .any]
 |_=>False
mutual
@[go_sem] def eqD:D->D->Bool
 | .bool a,.bool b=>a==b
 | .int _ a,.int _ b=>a==b
 | .str a,.str b=>a==b
 |_,_=>false
@[go_sem] def hR:List D->List D->Bool
 |[],[]=>true
 |a::r,b::s=>eqD a b&&hR r s
 |_,_=>false
end
@[go_sem] def CK.fits:CK->D->Prop
 | .b,.bool _=>True
 | .i k,.int k' _=>k'=k
 | .s,.str _=>True
 |_,_=>False
@[go_sem] def fu:List CK->List D->Prop
 |[],[]=>True
 |c::r,d::s=>c.fits d/\fu r s
 |_,_=>False
@[go_sem] def over (cs:List D)(o:Nat)(new:List D):List D:=cs.take o++(new++cs.drop (o+new.length))
@[go_sem] def qb (e:D)(k n o:Nat)(v:D):D:=bif (n==k)&&(v.isAgg ||!e.isAgg)then v else .agg (over e.cells o v.cells)
@[go_sem] def Ch (J:Src->aX)(cs:List D):List (Nat×Nat×Src)->List D
 |[]=>cs
 |(o,_,s)::r=>Ch J (over cs o (J s).d.cells) r
@[go_sem] def zX (J:Src->aX)(len:Nat):List (Nat×Nat×Src)->Prop
 |[]=>True
 |(o,n,s)::r=>(J s).ok=true/\(J s).d.cells.length=n/\o+n<=len/\zX J len r
@[go_sem] def lV (J:Src->aX)(es:List D):List (Nat×Src)->List D
 |[]=>es
 |(i,s)::r=>lV J (es.set i (J s).d) r
@[go_sem] def qz (J:Src->aX)(k n:Nat):List (Nat×Src)->Prop
 |[]=>True
 |(i,s)::r=>i<n/\(J s).ok=true/\(J s).d.cells.length=k/\qz J k n r
@[go_sem] def D.nat:D->Nat
 | .int _ n=>n.toNat
 |_=>0
@[go_sem] def dZ (o:Option D)(dflt:Nat):Nat:=match o with
 |some (.int _ n)=>n.toNat
 |_=>dflt
@[go_sem] def m9 (o:Option D)(hi:Nat):Prop:=match o with
 |none=>True
 |some (.int _ n)=>0<=n/\n<=hi
 |_=>False
@[go_sem] def LG (J:Src->aX):Option Src->Prop
 |none=>True
 |some s=>(J s).ok=true
@[go_sem] def dO (J:Src->aX):Option Src->Option D
 |none=>none
 |some s=>some (J s).d
@[go_sem] def BJ (J:Src->aX):List Src->Prop
 |[]=>True
 |s::r=>(J s).ok=true/\BJ J r
@[go_sem] def iM (J:Src->aX):List Src->List D
 |[]=>[]
 |s::r=>(J s).d::iM J r
@[go_sem] def D.u8:D->UInt8
 | .int _ n=>UInt8.ofNat n.toNat
 |_=>0
@[go_sem] def D.Tw:D->Prop
 | .int k n=>k=.u8/\0<=n/\n<256
 |_=>False
def yM (s:List UInt8)(pos:Nat):Nat×Nat:=Utf8.decode ⟨⟨s⟩⟩ pos
@[go_sem] def iB (m:List (Nat×bm)):List (List Sh)->List D->List D
 |_,[]=>[]
 |[],d::r=>iX m [.a] d::iB m [] r
 |s::ss,d::r=>iX m s d::iB m ss r
@[go_sem] def je (m:List (Nat×bm)):List (List Sh)->List D->Prop
 |_,[]=>True
 |[],d::r=>gL m [.a] d/\je m [] r
 |s::ss,d::r=>gL m s d/\je m ss r
@[go_sem] def vK:D->Bool
 | .agg [.str _,.str _]=>true
 |_=>false
@[go_sem] def pQ:D->D->Bool
 | .agg [.str a,.str b],.agg [.str c,.str d]=>a==c&&b==d
 |_,_=>false
@[go_sem] def xA:List D->Bool
 |[]=>true
 |k::_::r=>vK k&&xA r
 |[_]=>false
@[go_sem] def Ns (k:D):List D->Option D
 |a::v::r=>bif pQ a k then some v else Ns k r
 |_=>none
@[go_sem] def Ae (k v:D):List D->List D
 |a::w::r=>bif pQ a k then a::v::r else a::w::Ae k v r
 |_=>[k,v]
@[go_sem] def CU:D->List Nat
 | .fn _ [.it l]=>[l]
 |_=>[]
@[go_sem] def TJ (m:List (Nat×bm)):D->List D
 | .fn _ [.it l]=>match look m l with
  |some (.mpb kvs)=>kvs
  |_=>[]
 |_=>[]
@[go_sem] def mpO (m:List (Nat×bm)):D->Prop
 | .fn n [.it l]=>n=5000000/\match look m l with
  |some (.mpb kvs)=>xA kvs=true
  |_=>False
 |_=>False
@[go_sem] def ax.val (Y:Ctx)(J:Src->aX)(m:List (Nat×bm))(L:Nat):ax->D
 | .mv x=>(J x).d
 | .pick c a b=>match(J c).d with| .bool t=>D.pick t (J a).d (J b).d|_=>.any
 | .box k _=>.ptr L k 0 0
 | .build z ps=>.agg (Ch J z ps)
 | .bsl k _ n _=>.own L k 0 n
 | .ld n ag p=>Ln m n ag (J p).d
 | .st _ _ _=>.any
 | .stU _ _ _ _=>.any
 | .nilck x=>(J x).d
 | .bin op x y=>ED op (J x).d (J y).d
 | .eqA neg _ _ x y=>.bool (bif neg then !(hR (J x).d.cells (J y).d.cells)else hR (J x).d.cells (J y).d.cells)
 | .un op x=>match op,(J x).d with
  | .not,.bool b=>.bool (!b)
  | .neg,.int k n=>.int k (k.wrap (0-n))
  |_,_=>.any
 | .cvi k x=>match(J x).d with| .int _ n=>.int k (k.wrap n)|_=>.any
 | .mn g x y=>match(J x).d,(J y).d with| .int k a,.int _ b=>.int k (if g=true then(if b>a then b else a)else if b<a then b else a)|_,_=>.any
 | .s2b x=>match(J x).d with| .str s=>.own L 1 0 s.length|_=>.any
 | .b2s x=>.str ((qn m (J x).d).map D.u8)
 | .mkf f caps=>.fn f (iM J caps)
 | .mks k _ ln _=>.own L k 0 (J ln).d.nat
 | .slS x lo hi=>match(J x).d with
  | .str s=>.str ((s.take (dZ (dO J hi) s.length)).drop (dZ (dO J lo) 0))
  |_=>.any
 | .slA _ x lo hi=>match(J x).d with
  | .sl k es=>.sl k ((es.take (dZ (dO J hi) es.length)).drop (dZ (dO J lo) 0))
  | .own l k i n=>.own l k (i+dZ (dO J lo) 0) (dZ (dO J hi) n-dZ (dO J lo) 0)
  | .aJ=>.aJ
  |_=>.any
 | .slX _ x hi _=>match(J x).d,(J hi).d with
  | .sl k es,.int _ h=>.sl k (es.take h.toNat)
  | .own l k i _,.int _ h=>.own l k i h.toNat
  | .aJ,_=>.aJ
  |_,_=>.any
 | .fa off p=>match(J p).d with
  | .ptr l k i o=>.ptr l k i (o+off)
  | .ref k es i o=>.ref k es i (o+off)
  |_=>.any
 | .fld off n ag x=>cut (J x).d.cells off n ag
 | .ia _ x i=>match(J x).d,(J i).d with
  | .sl k es,.int _ n=>.ref k es n.toNat 0
  | .own l k j _,.int _ n=>.ptr l k (j+n.toNat) 0
  |_,_=>.any
 | .iaP _ k x i=>match(J x).d,(J i).d with
  | .ptr l k' j o,.int _ n=>.ptr l k' j (o+n.toNat*k)
  | .ref k' es j o,.int _ n=>.ref k' es j (o+n.toNat*k)
  |_,_=>.any
 | .ixS x i=>match(J x).d,(J i).d with
  | .str s,.int _ n=>.int .u8 (s.getD n.toNat 0).toNat
  |_,_=>.any
 | .ixA _ k ag x i=>match(J i).d with
  | .int _ n=>cut (J x).d.cells (n.toNat*k) k ag
  |_=>.any
 | .ext x i=>match(J x).d with| .tup ds=>ds.getD i .any|_=>.any
 | .len x=>match(J x).d with
  | .sl _ es=>.int .i64 es.length
  | .own _ _ _ n=>.int .i64 n
  | .aJ=>.int .i64 0
  |_=>.any
 | .lenS x=>match(J x).d with
  | .str s=>.int .i64 s.length
  |_=>.any
 | .app k x y=>match(J x).d with
  | .own _ _ _ n=>.own L k 0 (n+(qn m (J y).d).length)
  |_=>.own L k 0 (qn m (J y).d).length
 | .call f args sh=>Y.val f (iB m sh (iM J args))
 | .callv f args sh=>match(J f).d with
  | .fn n caps=>Y.val n (iB m sh (iM J args++caps))
  |_=>.any
 | .callM _ _=>.any
 | .callvM _ _=>.any
 | .ldU n ag p=>Ln m n ag (J p).d
 | .ldW n ag p=>Ln m n ag (J p).d
 | .ldI n ag p=>match(J p).d with
  | .ref k es i o=>kK (es.getD i .any) k n o ag
  | .fn _ es=>kK (es.getD 0 .any) 1 n 0 ag
  |_=>.any
 | .appN k y=>.own L k 0 (qn m (J y).d).length
 | .bslI k z n ps=>.sl k (lV J (List.replicate n z) ps)
 | .callF f r args sh=>match(J r).d with
  | .ptr l _ _ _=>Y.fv f ((aH m l).getD 0 .any) (iB [] sh (iM J args))
  |_=>.any
 | .rng _=>.it L
 | .mkB=>.ptr L 2 0 0
 | .mkM=>.fn 5000000 [.it L]
 | .upM .. =>.any
 | .lkM z x k=>match Ns (J k).d (TJ m (J x).d)with
  |some v=>.tup [v,.bool true]
  |none=>.tup [z,.bool false]
 | .isNl .. =>.any
 | .aS x=>match(J x).d with
  | .it l=>match look m l with
   |some (.iter s pos)=>bif decide (pos<s.length)then .tup [.bool true,.int .i64 pos,.int .i32 (yM s pos).1]else .tup [.bool false]
   |_=>.any
  |_=>.any
@[go_sem] def cq:D->List Nat
 | .ptr l _ _ _=>[l]
 | .own l _ _ _=>[l]
 | .it l=>[l]
 |_=>[]
@[go_sem] def qu (args:List D)(r:D):Bool:=aL args ||r.e7
@[go_sem] def ax.ey (Y:Ctx)(J:Src->aX)(m:List (Nat×bm)):ax->Prop
 | .mv x=>(J x).ok=true
 | .pick c a b=>(J c).ok=true/\match(J c).d with
  | .bool t=>(t=true->(J a).ok=true)/\(t=false->(J b).ok=true)
  |_=>False
 | .box k x=>(J x).ok=true/\(J x).d.cells.length=k
 | .build z ps=>zX J z.length ps
 | .bsl k z n ps=>z.cells.length=k/\qz J k n ps
 | .ld n _ p=>(J p).ok=true/\Lm m n (J p).d
 | .st n p v=>(J p).ok=true/\(J v).ok=true/\(J v).d.cells.length=n/\match(J p).d with
  | .ptr l k i o=>dW m l k (i+1)/\o+n<=k
  |_=>False
 | .stU n p v qs=>(J p).ok=true/\(J v).ok=true/\(J v).d.cells.length=n/\match(J p).d with
  | .ptr l k i o=>dW m l k (i+1)/\o+n<=k/\(k<=4\/∀q∈qs,l∉cq (J q).d)
  |_=>False
 | .nilck x=>(J x).ok=true/\match(J x).d with| .ptr .. =>True| .ref .. =>True|_=>False
 | .bin op x y=>(J x).ok=true/\(J y).ok=true/\AX op (J x).d (J y).d
 | .eqA _ ag ks x y=>(J x).ok=true/\(J y).ok=true/\(J x).d.isAgg=ag/\(J y).d.isAgg=ag/\fu ks (J x).d.cells/\fu ks (J y).d.cells
 | .un op x=>(J x).ok=true/\match op,(J x).d with
  | .not,.bool _=>True
  | .neg,.int _ _=>True
  |_,_=>False
 | .cvi _ x=>(J x).ok=true/\match(J x).d with| .int _ _=>True|_=>False
 | .mn g x y=>(J x).ok=true/\(J y).ok=true/\match(J x).d,(J y).d with| .int _ _,.int _ _=>True|_,_=>False
 | .s2b x=>(J x).ok=true/\match(J x).d with| .str _=>True|_=>False
 | .b2s x=>(J x).ok=true/\(match(J x).d with| .str _=>False|_=>True)/\Cc m 1 (J x).d/\∀e∈qn m (J x).d,e.Tw
 | .mkf _ caps=>BJ J caps
 | .mks k z ln cp=>(J ln).ok=true/\(J cp).ok=true/\z.cells.length=k/\match(J ln).d,(J cp).d with
  | .int _ n,.int _ c=>0<=n/\n<=c/\c<=1073741824
  |_,_=>False
 | .slS x lo hi=>(J x).ok=true/\LG J lo/\LG J hi/\match(J x).d with
  | .str s=>m9 (dO J hi) s.length/\m9 (dO J lo) (dZ (dO J hi) s.length)
  |_=>False
 | .slA k x lo hi=>(J x).ok=true/\LG J lo/\LG J hi/\match(J x).d with
  | .sl k' es=>k'=k/\m9 (dO J hi) es.length/\m9 (dO J lo) (dZ (dO J hi) es.length)
  | .own _ k' _ n=>k'=k/\m9 (dO J hi) n/\m9 (dO J lo) (dZ (dO J hi) n)
  | .aJ=>m9 (dO J hi) 0/\m9 (dO J lo) 0
  |_=>False
 | .slX k x hi mx=>(J x).ok=true/\(J hi).ok=true/\(J mx).ok=true/\match(J hi).d,(J mx).d with
  | .int _ h,.int _ m=>0<=h/\h<=m/\(match(J x).d with
    | .sl k' es=>k'=k/\m<=es.length
    | .own _ k' _ n=>k'=k/\m<=n
    | .aJ=>m=0
    |_=>False)
  |_,_=>False
 | .fa off p=>(J p).ok=true/\match(J p).d with| .ptr .. =>True| .ref .. =>True|_=>False
 | .fld off n ag x=>(J x).ok=true/\match(J x).d with| .agg cs=>off+n<=cs.length/\(ag=false->n=1)|_=>False
 | .ia k x i=>(J x).ok=true/\(J i).ok=true/\match(J x).d,(J i).d with
  | .sl k' es,.int _ n=>k'=k/\0<=n/\n<es.length
  | .own _ k' _ c,.int _ n=>k'=k/\0<=n/\n<c
  |_,_=>False
 | .iaP n k x i=>(J x).ok=true/\(J i).ok=true/\match(J x).d,(J i).d with
  | .ptr ..,.int _ c=>0<=c/\c<n
  | .ref ..,.int _ c=>0<=c/\c<n
  |_,_=>False
 | .ixS x i=>(J x).ok=true/\(J i).ok=true/\match(J x).d,(J i).d with
  | .str s,.int _ n=>0<=n/\n<s.length
  |_,_=>False
 | .ixA n k ag x i=>(J x).ok=true/\(J i).ok=true/\(ag=false->k=1)/\match(J x).d,(J i).d with
  | .agg cs,.int _ c=>0<=c/\c<n/\cs.length=n*k
  |_,_=>False
 | .ext x i=>(J x).ok=true/\match(J x).d with| .tup ds=>i<ds.length|_=>False
 | .len x=>(J x).ok=true/\match(J x).d with| .sl _ _=>True| .own .. =>True| .aJ=>True|_=>False
 | .lenS x=>(J x).ok=true/\match(J x).d with| .str _=>True|_=>False
 | .app k x y=>(J x).ok=true/\(J y).ok=true/\Cc m k (J y).d/\match(J x).d with
  | .own l k' i n=>k'=k/\dW m l k (i+n)/\n+(qn m (J y).d).length<=1073741824
  | .aJ=>(qn m (J y).d).length<=1073741824
  |_=>False
 | .call f args sh=>BJ J args/\je m sh (iM J args)/\Y.pre f (iB m sh (iM J args))/\qu (iM J args) (Y.val f (iB m sh (iM J args)))=true
 | .callv f args sh=>(J f).ok=true/\BJ J args/\match(J f).d with
  | .fn n caps=>n<1000000/\je m sh (iM J args++caps)/\Y.pre n (iB m sh (iM J args++caps))/\qu (iM J args++caps) (Y.val n (iB m sh (iM J args++caps)))=true
  |_=>False
 | .callM _ args=>BJ J args
 | .callvM _ args=>BJ J args
 | .ldW n _ p=>(J p).ok=true/\match(J p).d with
  | .ptr l k i o=>(dW m l k (i+1)/\o+n<=k)/\4<k
  | .ref k es i o=>i<es.length/\o+n<=k
  |_=>False
 | .ldU n _ p=>(J p).ok=true/\match(J p).d with
  | .ptr l k i o=>(dW m l k (i+1)/\o+n<=k)/\aL (aH m l)=false
  | .ref k es i o=>i<es.length/\o+n<=k
  |_=>False
 | .ldI n _ p=>(J p).ok=true/\match(J p).d with
  | .ref k es i o=>i<es.length/\o+n<=k
  | .fn q es=>q=3000000/\n=1/\es.length=1/\(es.getD 0 .any).cells=[es.getD 0 .any]
  |_=>False
 | .appN k y=>(J y).ok=true/\Cc m k (J y).d/\(qn m (J y).d).length<=1073741824
 | .bslI k z n ps=>z.cells.length=k/\qz J k n ps/\aL (lV J (List.replicate n z) ps)=true
 | .callF f r args sh=>(J r).ok=true/\BJ J args/\aL (iM J args)=true/\match(J r).d with
  | .ptr l k i o=>i=0/\o=0/\dW m l k 1/\(aH m l).length=1/\((aH m l).getD 0 .any).aR=true/\Y.fp f ((aH m l).getD 0 .any) (iB [] sh (iM J args))
  |_=>False
 | .rng x=>(J x).ok=true/\match(J x).d with| .str _=>True|_=>False
 | .mkB=>True
 | .mkM=>True
 | .upM x k v=>(J x).ok=true/\(J k).ok=true/\(J v).ok=true/\mpO m (J x).d/\vK (J k).d=true/\∃q n,(J v).d=.int q n
 | .lkM _ x k=>(J x).ok=true/\(J k).ok=true/\mpO m (J x).d/\vK (J k).d=true
 | .isNl .. =>True
 | .aS x=>(J x).ok=true/\match(J x).d with
  | .it l=>match look m l with
   |some (.iter _ _)=>True
   |_=>False
  |_=>False
@[go_sem] def Src.Fx:Src->Bool
 | .s _=>true
 |_=>false
@[go_sem] def ax.Kn (draw:Bool)(J:Src->aX):ax->Prop
 | .len x=>bif draw&& !x.Fx then True else(J x).ok=true->match(J x).d with
  | .sl _ es=>es.length<=9223372036854775807
  | .own _ _ _ n=>n<=9223372036854775807
  |_=>True
 | .lenS x=>bif draw&& !x.Fx then True else(J x).ok=true->match(J x).d with
  | .str s=>s.length<=9223372036854775807
  |_=>True
 |_=>True
@[go_sem] def ax.bP (Y:Ctx)(J:Src->aX)(m:List (Nat×bm))(L:Nat):ax->List (Nat×bm)
 | .box k x=>cL m L (.buf k [(J x).d])
 | .bsl k z n ps=>cL m L (.buf k (lV J (List.replicate n z) ps))
 | .mks k z ln _=>cL m L (.buf k (List.replicate (J ln).d.nat z))
 | .s2b x=>match(J x).d with
  | .str s=>cL m L (.buf 1 (s.map fun b=>.int .u8 b.toNat))
  |_=>m
 | .st n p v=>match(J p).d with
  | .ptr l k i o=>cL m l (.buf k ((aH m l).set i (qb ((aH m l).getD i .any) k n o (J v).d)))
  |_=>m
 | .stU n p v _=>match(J p).d with
  | .ptr l k i o=>cL m l (.buf k ((aH m l).set i (qb ((aH m l).getD i .any) k n o (J v).d)))
  |_=>m
 | .app k x y=>match(J x).d with
  | .own l k' i n=>cL (cQ m l) L (.buf k ((((aH m l).drop i).take n)++qn m (J y).d))
  |_=>cL m L (.buf k (qn m (J y).d))
 | .appN k y=>cL m L (.buf k (qn m (J y).d))
 | .callF f r args sh=>match(J r).d with
  | .ptr l k _ _=>cL m l (.buf k [Y.fs f ((aH m l).getD 0 .any) (iB [] sh (iM J args))])
  |_=>m
 | .rng x=>match(J x).d with
  | .str s=>cL m L (.iter s 0)
  |_=>m
 | .mkB=>cL m L (.bld none 0 false)
 | .mkM=>cL m L (.mpb [])
 | .upM x k v=>match(J x).d with
  | .fn _ [.it l]=>cL m l (.mpb (Ae (J k).d (J v).d (TJ m (J x).d)))
  |_=>m
 | .aS x=>match(J x).d with
  | .it l=>match look m l with
   |some (.iter s pos)=>bif decide (pos<s.length)then cL m l (.iter s (pos+(yM s pos).2))else m
   |_=>m
  |_=>m
 |_=>m
@[go_sem] def ax.mX (J:Src->aX):ax->Option (List Nat)
 | .ld _ _ p=>some (cq (J p).d)
 | .ldU _ _ p=>some (cq (J p).d)
 | .ldW _ _ p=>some (cq (J p).d)
 | .st _ p _=>some (cq (J p).d)
 | .stU _ p _ _=>some (cq (J p).d)
 | .b2s x=>some (cq (J x).d)
 | .app _ x y=>some (cq (J x).d++cq (J y).d)
 | .aS x=>some (cq (J x).d)
 | .call _ args _=>bif aL (iM J args)then some []else none
 | .callv f args _=>match(J f).d with
  | .fn _ caps=>bif aL (iM J args++caps)then some []else none
  |_=>none
 | .callM _ _=>none
 | .callvM _ _=>none
 | .isNl .. =>none
 | .callF _ r _ _=>some (cq (J r).d)
 | .upM x _ _=>some (CU (J x).d)
 | .lkM _ x _=>some (CU (J x).d)
 | .appN _ y=>some (cq (J y).d)
 |_=>some []
@[go_sem] def ax.wr (J:Src->aX)(L:Nat):ax->List Nat
 | .box .. =>[L]
 | .bsl .. =>[L]
 | .mks .. =>[L]
 | .s2b _=>[L]
 | .rng _=>[L]
 | .mkB=>[L]
 | .mkM=>[L]
 | .upM x _ _=>CU (J x).d
 | .st _ p _=>cq (J p).d
 | .stU _ p _ _=>cq (J p).d
 | .app _ x _=>L::cq (J x).d
 | .aS x=>cq (J x).d
 | .callF _ r _ _=>cq (J r).d
 | .appN .. =>[L]
 |_=>[]
@[go_sem] def ax.calm:ax->Bool
 | .st .. =>false
 | .stU .. =>false
 | .app .. =>false
 | .aS .. =>false
 | .callM .. =>false
 | .callvM .. =>false
 | .isNl .. =>false
 | .callF .. =>false
 | .upM .. =>false
 |_=>true
@[go_sem] def flag (vs:List aX):Option (Nat×Bool)->Bool
 |none=>true
 |some (j,w)=>(vs.getD j .un).ok&&match(vs.getD j .un).d with
  | .bool b=>b==w
  |_=>false
@[go_sem] def UT (vs:List aX)(i:ax):Option (Nat×Bool)->Prop
 |none=>True
 |some (j,_)=>i.calm=true/\((vs.getD j .un).ok=true->(vs.getD j .un).d.isBool=true)
@[go_sem] def ax.k9 (draw:Bool)(g:Option (Nat×Bool))(i:ax):Bool:=!draw&&(!i.calm&&g.isSome)
@[go_sem] def yT (vs:List aX):Option (Nat×Bool)->Prop
 |none=>True
 |some (j,_)=>(vs.getD j .un).ok=true->(vs.getD j .un).d.isBool=true
@[go_sem] def nlB (d:D)(b:Bool):Prop:=match d with
 | .aJ=>b=true
 | .sl _ es=>b=true->es=[]
 | .own _ _ _ n=>b=true->n=0
 |_=>True
@[go_sem] def slB:D->Prop
 | .aJ=>True
 | .sl .. =>True
 | .own .. =>True
 |_=>False
@[go_sem] def NP (n:Nat):Nat:=if n<1000000 then n else n-1000000
@[go_sem] def NO (n:Nat)(aE4 caps:List D):List D:=if n<1000000 then aE4++caps else caps++aE4
def eM (Y:Ctx)(draw:Bool):List GI->(env vs:List aX)->St->(List aX->St->Prop)->Prop
 |[],_,vs,st,K=>K vs {st with nx:=st.nx+vs.length}
 |⟨.callM f args,g⟩::r,env,vs,st,K=>
  yT vs g/\(flag vs g=true->BJ (Src.ev env vs) args/\
   Y.tr f (iM (Src.ev env vs) args) {st with nx:=st.nx+vs.length} fun d st'=>st.nx+vs.length<=st'.nx/\eM Y draw r env (vs++[⟨true,d⟩]) {st' with nx:=st'.nx-vs.length} K)/\
   (flag vs g=false->eM Y draw r env (vs++[⟨false,.any⟩]) st K)
 |⟨.callvM f args,g⟩::r,env,vs,st,K=>
  yT vs g/\(flag vs g=true->(Src.ev env vs f).ok=true/\BJ (Src.ev env vs) args/\match(Src.ev env vs f).d with
   | .fn n caps=>n<2000000/\Y.tr (NP n) (NO n (iM (Src.ev env vs) args) caps) {st with nx:=st.nx+vs.length} fun d st'=>st.nx+vs.length<=st'.nx/\eM Y draw r env (vs++[⟨true,d⟩]) {st' with nx:=st'.nx-vs.length} K
   |_=>False)/\
   (flag vs g=false->eM Y draw r env (vs++[⟨false,.any⟩]) st K)
 |⟨.isNl x ng,g⟩::r,env,vs,st,K=>
  yT vs g/\(flag vs g=true->(Src.ev env vs x).ok=true/\slB (Src.ev env vs x).d/\∀b,nlB (Src.ev env vs x).d b->eM Y draw r env (vs++[⟨true,.bool (bif ng then !b else b)⟩]) st K)/\
   (flag vs g=false->eM Y draw r env (vs++[⟨false,.any⟩]) st K)
 |⟨i,g⟩::r,env,vs,st,K=>
  if i.k9 draw g=true then
   yT vs g/\(flag vs g=true->i.ey Y (Src.ev env vs) st.m/\
     eM Y draw r env (vs++[⟨true,i.val Y (Src.ev env vs) st.m (st.nx+vs.length)⟩]) {st with m:=i.bP Y (Src.ev env vs) st.m (st.nx+vs.length)} K)/\
    (flag vs g=false->eM Y draw r env (vs++[⟨false,.any⟩]) st K)
  else
  UT vs i g/\(flag vs g=true->i.ey Y (Src.ev env vs) st.m)/\
   ((flag vs g=true->i.Kn draw (Src.ev env vs))->∃d,(flag vs g=true->i.val Y (Src.ev env vs) st.m (st.nx+vs.length)=d)/\
     eM Y draw r env (vs++[⟨flag vs g,d⟩]) {st with m:=i.bP Y (Src.ev env vs) st.m (st.nx+vs.length)} K)
mutual
@[go_sem] def iA (l k:Nat)(es:List D):D->D
 | .own l' k' i n=>if l'=l/\k'=k/\i+n<=es.length then .sl k ((es.drop i).take n)else .own l' k' i n
 | .ptr l' k' i o=>if l'=l/\k'=k then .ref k es i o else .ptr l' k' i o
 | .agg cs=>.agg (lg l k es cs)
 | .tup cs=>.tup (lg l k es cs)
 | .fn f cs=>.fn f (lg l k es cs)
 | .any=>.any
 | .bool b=>.bool b
 | .int k n=>.int k n
 | .str s=>.str s
 | .aJ=>.aJ
 | .sl k es=>.sl k es
 | .ref k es i o=>.ref k es i o
 | .nilp=>.nilp
 | .nilf=>.nilf
 | .it l=>.it l
@[go_sem] def lg (l k:Nat)(es:List D):List D->List D
 |[]=>[]
 |d::r=>iA l k es d::lg l k es r
end
@[go_sem] def A1 (l k:Nat)(es:List D):bm->bm
 | .buf k' es'=>.buf k' (lg l k es es')
 |b=>b
@[go_sem] def xg (l k:Nat)(es:List D):List (Nat×bm)->List (Nat×bm)
 |[]=>[]
 |(a,b)::r=>(a,A1 l k es b)::xg l k es r
@[go_sem] def uR (l k:Nat)(es:List D):List aX->List aX
 |[]=>[]
 |⟨ok,d⟩::r=>⟨ok,iA l k es d⟩::uR l k es r
@[go_sem] def UQ (l:Nat)(s:List aX×List (Nat×bm)):List aX×List (Nat×bm):=match look s.2 l with
 |some (.buf k es)=>bif aL es then(uR l k es s.1,xg l k es (cQ s.2 l))else s
 |_=>s
@[go_sem] def frzs:List Nat->List aX×List (Nat×bm)->List aX×List (Nat×bm)
 |[],s=>s
 |l::r,s=>frzs r (UQ l s)
inductive Ex where
 |normal|exit (id:Nat)|ret
@[go_sem] def iy (env vs:List aX):List (Nat×Nat)->List aX
 |[]=>env
 |(s,p)::r=>iy (env.set s (vs.getD p .un)) vs r
@[go_sem] def mz (lo:Nat)(σ:List (Nat×Nat))(l:Nat):Option Nat:=match σ with
 |[]=>bif Nat.blt l lo then some l else none
 |(a,b)::r=>bif Nat.beq a l then some b else mz lo r l
@[go_sem] def R0 (lo:Nat)(σ:List (Nat×Nat))(l:Nat)(f:Nat->D):Option D:=match mz lo σ l with
 |some l'=>some (f l')
 |none=>none
mutual
@[go_sem] def rN (lo:Nat)(σ:List (Nat×Nat)):D->Option D
 | .own l k i n=>R0 lo σ l fun l=>.own l k i n
 | .ptr l k i o=>R0 lo σ l fun l=>.ptr l k i o
 | .it l=>R0 lo σ l fun l=>.it l
 | .agg cs=>match oo lo σ cs with
  |some cs=>some (.agg cs)
  |none=>none
 | .tup cs=>match oo lo σ cs with
  |some cs=>some (.tup cs)
  |none=>none
 | .fn f cs=>match oo lo σ cs with
  |some cs=>some (.fn f cs)
  |none=>none
 | .any=>some .any
 | .bool b=>some (.bool b)
 | .int k n=>some (.int k n)
 | .str s=>some (.str s)
 | .aJ=>some .aJ
 | .sl k es=>some (.sl k es)
 | .ref k es i o=>some (.ref k es i o)
 | .nilp=>some .nilp
 | .nilf=>some .nilf
@[go_sem] def oo (lo:Nat)(σ:List (Nat×Nat)):List D->Option (List D)
 |[]=>some []
 |d::r=>match rN lo σ d,oo lo σ r with
  |some d,some r=>some (d::r)
  |_,_=>none
end
mutual
def wy:D->D->Prop
 | .aJ,d'=>d'=.aJ\/∃l k i,d'=.own l k i 0
 | .agg a,d'=>∃b,d'=.agg b/\NC a b
 |d,d'=>d'=d/\d.aR=true
def NC:List D->List D->Prop
 |[],b=>b=[]
 |d::r,b=>∃d' r',b=d'::r'/\wy d d'/\NC r r'
end
def RnD (lo:Nat)(σ:List (Nat×Nat))(d d':D):Prop:=d'=d/\d.aR=true\/rN lo σ d=some d'\/wy d d'
def pB (lo:Nat)(σ:List (Nat×Nat)):bm->bm->Prop
 | .buf k es,.buf k' es'=>k'=k/\(es'=es/\aL es=true\/oo lo σ es=some es'\/NC es es')
 | .iter s p,.iter s' p'=>s'=s/\p'=p
 | .row s,.row s'=>s'=s
 | .mpb s,.mpb s'=>s'=s
 | .bld o n u,.bld o' n' u'=>(match o with
  |none=>o'=none
  |some l=>∃l',mz lo σ l=some l'/\o'=some l')/\n'=n/\u'=u
 |_,_=>False
def fk (lo:Nat)(σ:List (Nat×Nat)):List aX->List aX->Prop
 |[],[]=>True
 |a::r,b::s=>(b.ok=a.ok/\RnD lo σ a.d b.d\/b=.un)/\fk lo σ r s
 |_,_=>False
def bo (lo c:Nat)(σ:List (Nat×Nat))(m:List (Nat×bm)):List (Nat×bm)->Prop
 |[]=>True
 |(l',b')::r=>((∃l b,mz lo σ l=some l'/\look m l=some b/\pB lo σ b b')\/(Nat.ble lo l'=true/\Nat.blt l' c=true/\σ.all (fun p=>!Nat.beq p.2 l')=true/\∃k,b'=.buf k []))/\bo lo c σ m r
def fX (lo c:Nat):List (Nat×Nat)->Bool
 |[]=>Nat.ble lo c
 |(a,b)::r=>(Nat.ble lo b&&(Nat.blt b c&&(r.all (fun p=>!Nat.beq p.1 a&& !Nat.beq p.2 b)&&fX lo c r)))
@[go_sem] def leE:List aX->List aX->Prop
 |[],[]=>True
 |a::r,b::s=>(b=a\/b=.un)/\leE r s
 |_,_=>False
@[go_sem] def Zv (m:List (Nat×bm)):List (Nat×bm)->Prop
 |[]=>True
 |(l,b)::r=>look m l=some b/\Zv m r
inductive EB:D->D->Prop
 |refl (d:D):EB d d
 |nil (k:Nat):EB .aJ (.sl k [])
 |agg (a b:List D) (hl:b.length=a.length) (h:∀i,EB (a.getD i .any) (b.getD i .any)):EB (.agg a) (.agg b)
 |sl (k:Nat) (a b:List D) (hl:b.length=a.length) (h:∀i,EB (a.getD i .any) (b.getD i .any)):EB (.sl k a) (.sl k b)
def Qs (a b:List D):Prop:=b.length=a.length/\∀i,EB (a.getD i .any) (b.getD i .any)
def WkB:bm->bm->Prop
 | .buf k es,.buf k' es'=>k'=k/\Qs es es'
 |b,b'=>b'=b
def WkE:List aX->List aX->Prop
 |[],[]=>True
 |a::r,b::s=>(b.ok=a.ok/\EB a.d b.d)/\WkE r s
 |_,_=>False
def Qt (m:List (Nat×bm)):List (Nat×bm)->Prop
 |[]=>True
 |(l,b')::r=>(∃b,look m l=some b/\WkB b b')/\Qt m r
inductive aV (lo:Nat):List aX->St->List aX->St->Prop
 |refl (env:List aX) (st:St):aV lo env st env st
 |UQ (l:Nat) (env:List aX) (st:St):aV lo env st (UQ l (env,st.m)).1 ⟨st.nx,(UQ l (env,st.m)).2⟩
 |ren (σ:List (Nat×Nat)) (c:Nat) (env env':List aX) (nx:Nat) (m m':List (Nat×bm)) (h:fX lo c σ=true) (he:fk lo σ env env') (hm:bo lo c σ m m'):aV lo env ⟨nx,m⟩ env' ⟨c,m'⟩
 |wk (env env':List aX) (nx:Nat) (m m':List (Nat×bm)) (he:leE env env') (hm:Zv m m'):aV lo env ⟨nx,m⟩ env' ⟨nx,m'⟩
 |nz (env env':List aX) (nx:Nat) (m m':List (Nat×bm)) (he:WkE env env') (hm:Qt m m'):aV lo env ⟨nx,m⟩ env' ⟨nx,m'⟩
 |trans (env1 env2 env3:List aX) (st1 st2 st3:St) (h:aV lo env1 st1 env2 st2) (h':aV lo env2 st2 env3 st3):aV lo env1 st1 env3 st3
def Gh (lo:Nat)(p:List aX->St->Prop)(env:List aX)(st:St):Prop:=∃env' st',aV lo env st env' st'/\p env' st'
def dp (Y:Ctx):AC->(Ex->List aX->St->Prop)->List aX->St->Prop
 | .reg draw ins cm,Q=>Gh Y.lo fun env st=>eM Y draw ins env [] st fun vs st'=>Q .normal (iy env vs cm) st'
 | .seq a b,Q=>Gh Y.lo (dp Y a (fun e env st=>match e with
   | .normal=>dp Y b Q env st
   |e=>Q e env st))
 | .cond c a b,Q=>Gh Y.lo fun env st=>(c.ev env []).ok=true/\match(c.ev env []).d with
  | .bool t=>(t=true->dp Y a Q env st)/\(t=false->dp Y b Q env st)
  |_=>False
 | .block id a,Q=>Gh Y.lo (dp Y a (fun e env st=>match e with
   | .exit j=>if j=id then Q .normal env st else Q (.exit j) env st
   |e=>Q e env st))
 | .loop a,Q=>Gh Y.lo fun env st=>∃(I:List aX->St->Prop) (μ:List aX->St->Nat),
   I env st/\∀env st,I env st->
   dp Y a (fun e env' st'=>match e with
    | .normal=>∃env2 st2,aV Y.lo env' st' env2 st2/\I env2 st2/\μ env2 st2<μ env st
    |e=>Q e env' st') env st
 | .exit id,Q=>Gh Y.lo (Q (.exit id))
 | .ret,Q=>Gh Y.lo (Q .ret)
 | .skip,Q=>Gh Y.lo (Q .normal)
def Ctx.at (Y:Ctx)(n:Nat):Ctx:={Y with lo:=n}
@[go_sem] def H2 (m:List (Nat×bm))(env:List aX)(r:GA):D:=match r.mem with
 |none=>(env.getD r.s .un).d
 |some (n,ag)=>Ln m n ag (env.getD r.s .un).d
@[go_sem] def om (m:List (Nat×bm))(env:List aX):List GA->Prop
 |[]=>True
 |r::rs=>(env.getD r.s .un).ok=true/\(match r.mem with
   |none=>True
   |some (n,_)=>Lm m n (env.getD r.s .un).d)/\om m env rs
@[go_sem] def qQ (m:List (Nat×bm))(env:List aX):List GA->List D
 |[]=>[]
 |r::rs=>H2 m env r::qQ m env rs
@[go_sem] def j3 (a:aj)(env:List aX)(st:St):D:=match a.res with
 |[r]=>H2 st.m env r
 |rs=>.tup (qQ st.m env rs)
@[go_sem] def Zd (a:aj)(env:List aX)(st:St):D:=match a.res with
 |[r]=>iX st.m (a.rsh.getD 0 []) (H2 st.m env r)
 |rs=>.tup (iB st.m a.rsh (qQ st.m env rs))
@[go_sem] def MB (a:aj)(env:List aX)(st:St):Prop:=match a.res with
 |[r]=>gL st.m (a.rsh.getD 0 []) (H2 st.m env r)
 |rs=>je st.m a.rsh (qQ st.m env rs)
@[go_sem] def Ex.home:Ex->Prop
 | .exit _=>False
 |_=>True
@[go_sem] def fq (a:aj)(ds:List D):List aX:=(ds.map fun d=>⟨true,d⟩)++List.replicate (a.ns-a.np) .un
def trOf (Y:Ctx)(a:aj)(ds:List D)(st:St)(K:D->St->Prop):Prop:=
 ds.length=a.np/\dp (Y.at st.nx) a.body (fun e env st=>e.home/\om st.m env a.res/\K (j3 a env st) st) (fq a ds) st
mutual
def fL:Value->Option D
 | .bool b=>some (.bool b)
 | .int k n=>some (.int k n)
 | .string s=>if s.size<=9223372036854775807 then some (.str s.data.toList)else none
 | .pointer none=>some .nilp
 | .slice none 0 0=>some .aJ
 | .nilFunc=>some .nilf
 | .map none=>some (.fn 5100000 [])
 | .agg ⟨cs⟩=>if wS cs then(tf cs).map .agg else none
 |_=>none
def tf:List Value->Option (List D)
 |[]=>some []
 |v::r=>match fL v,tf r with
  |some d,some ds=>some (d::ds)
  |_,_=>none
def wS:List Value->Bool
 |[]=>true
 |v::r=>(match v with
  | .agg _=>false
  | .tuple _=>false
  |_=>true)&&wS r
end
def H6 (P:Program):Nat->TypeId->List Sh
 |0,_=>[.a]
 |d+1,t=>match P.underlying t with
  |some (.struct fs)=>(fs.toList.map fun f=>H6 P d f.type).flatten
  |some (.array n e)=>(List.replicate n (H6 P d e)).flatten
  |some (.slice e)=>[.sl (P.cellsOf e) (H6 P d e)]
  |some (.pointer e)=>[.pt (H6 P d e)]
  |_=>[.a]
def aiR:List Sh->List Sh
 |[.sl _ cs]=>[.kp cs]
 |l=>l
def keepN (fn:Func):Nat:=100000000+fn.endLine*10000+fn.ntmps
structure CC where
 P:Program
 ν:List (Nat×Nat)
 bP:List Nat
 slots:List Nat
 ntmps:Nat
 vm:Bool
def dY:List (Nat×Nat)->Nat->Option Nat
 |[],_=>none
 |(a,b)::r,l=>if a=l then some b else dY r l
def A3:List Nat->Nat->Option Nat
 |[],_=>none
 |a::r,t=>if a=t then some 0 else(A3 r t).map (· +1)
def posOf (t:Nat):List (Option Nat)->Option Nat
 |[]=>none
 |a::r=>if a=some t then some 0 else(posOf t r).map (· +1)
def CC.src (C:CC)(defs:List (Option Nat)):Operand->Option Src
 | .tmp t=>match posOf t defs with
  |some p=>some (.l p)
  |none=>(A3 C.slots t).map .s
 | .const v=>(fL v).map .c
 | .func f=>(dY C.ν f).map fun n=>.c (.fn n [])
 | .global _=>none
def CC.wj (C:CC)(defs:List (Option Nat)):List Operand->Option (List Src)
 |[]=>some []
 |x::r=>match C.src defs x,C.wj defs r with
  |some a,some l=>some (a::l)
  |_,_=>none
def CC.opt (C:CC)(defs:List (Option Nat)):Option Operand->Option (Option Src)
 |none=>some none
 |some x=>(C.src defs x).map some
def cg (P:Program)(t:TypeId):Bool:=match P.underlying t with
 |some (.struct _)=>true
 |some (.array ..)=>true
 |_=>false
def ma (P:Program)(k:TypeId->Option (List CK)):Nat->List Field->Option (List CK)
 |_,[]=>some []
 |off,f::r=>if f.name= "_" \/f.offset≠off then none else
  match k f.type,ma P k (off+P.cellsOf f.type) r with
  |some a,some b=>if a.length=P.cellsOf f.type/\a.length≠0/\(P.underlying f.type).isNone=false then some (a++b)else none
  |_,_=>none
def gW (P:Program):Nat->TypeId->Option (List CK)
 |0,_=>none
 |d+1,t=>match P.underlying t with
  |some .bool=>some [.b]
  |some (.int k)=>some [.i k]
  |some .string=>some [.s]
  |some (.struct fs)=>if P.stoodInHeld t then none else ma P (fun t=>gW P d t) 0 fs.toList
  |some (.array n e)=>match gW P d e with
   |some l=>if l.length=P.cellsOf e/\l.length≠0/\(P.underlying e).isNone=false then some (List.replicate n l).flatten else none
   |none=>none
  |_=>none
def CC.parts (C:CC)(defs:List (Option Nat))(place:Nat->Option (Nat×Nat)):List (Nat×Operand)->Option (List (Nat×Nat×Src))
 |[]=>some []
 |(i,x)::r=>match place i,C.src defs x,C.parts defs place r with
  |some (o,n),some s,some l=>if n=0 then none else some ((o,n,s)::l)
  |_,_,_=>none
def CC.za (C:CC)(defs:List (Option Nat)):List (Nat×Operand)->Option (List (Nat×Src))
 |[]=>some []
 |(i,x)::r=>match C.src defs x,C.za defs r with
  |some s,some l=>some ((i,s)::l)
  |_,_=>none
def sW (P:Program)(t:TypeId):Option D:=((P.info? t).bind (·.zero)).bind fL
def zVD:D:=.agg [.int .i64 0,.int .i64 0,.int .i64 0,.str [],.str []]
def CC.WL (C:CC)(t:TypeId):Operand->Option D
 | .global g=>if(C.bP.contains (500000000+g)=true/\g<400000000)/\C.P.cellsOf t=5/\cg C.P t=true/\(C.P.underlying t).isNone=false then some zVD else none
 |_=>none
def qh (P:Program)(t:TypeId):Bool:=match sW P t with
 |some z=>z.cells.length==P.cellsOf t
 |none=>false
def Of (P:Program)(k:TypeId):Bool:=match P.underlying k with
 |some (.array 2 e)=>(match P.underlying e with
  |some .string=>P.cellsOf e==1&&(P.cellsOf k==2&& !(P.types.size==0))
  |_=>false)
 |_=>false
def CC.op (C:CC)(defs:List (Option Nat))(o:Oper):Option ax:=
 match o.op with
 | .move x=>(C.src defs x).map .mv
 | .assign x=>(C.src defs x).map .mv
 | .pick c a b=>match C.src defs c,C.src defs a,C.src defs b with
  |some c,some a,some b=>some (.pick c a b)
  |_,_,_=>none
 | .alloc t=>match sW C.P t with
  |some z=>if C.P.cellsOf t=0 then none else if C.bP.contains (1000000000+t)then(match z with
   | .agg [.nilp,.aJ]=>some .mkB
   |_=>none)else some (.box (C.P.cellsOf t) (.c z))
  |none=>none
 | .box t x=>match C.src defs x with
  |some s=>if C.P.cellsOf t=0 then none else some (.box (C.P.cellsOf t) s)
  |none=>none
 | .build t ps=>match sW C.P t,C.P.underlying t with
  |some (.agg z),some (.struct fs)=>if fs.toList.all (fun f=>(C.P.info? f.type).isSome)then(C.parts defs (fun i=>(fs[i]?).map fun f=>(f.offset,C.P.cellsOf f.type)) ps.toList).map (.build z)else none
  |some (.agg z),some (.array _ e)=>if C.P.cellsOf e=0 then none else(C.parts defs (fun i=>some (i*C.P.cellsOf e,C.P.cellsOf e)) ps.toList).map (.build z)
  |_,_=>none
 | .buildSlice t n ps=>match C.P.underlying t with
  |some (.slice e)=>match sW C.P e,C.za defs ps.toList with
   |some z,some l=>if C.P.cellsOf e=0\/n*C.P.cellsOf e>16777216 then none else some (.bsl (C.P.cellsOf e) z n l)
   |_,_=>none
  |_=>none
 | .load t a=>match C.WL t a with
  |some d=>some (.mv (.c d))
  |none=>match C.src defs a with
  |some s=>if C.P.cellsOf t=0\/(C.P.underlying t).isNone\/(cg C.P t=false/\C.P.cellsOf t≠1)then none else some (.ld (C.P.cellsOf t) (cg C.P t) s)
  |none=>none
 | .store t a x=>match C.src defs a,C.src defs x with
  |some a,some x=>if C.P.cellsOf t=0 then none else some (.st (C.P.cellsOf t) a x)
  |_,_=>none
 | .nilCheck x=>(C.src defs x).map .nilck
 | .binOp op t x y _=>match C.src defs x,C.src defs y with
  |some a,some b=>match C.P.underlying t with
   |some (.int _)=>some (.bin op a b)
   |some .string=>some (.bin op a b)
   |_=>if C.P.eqGuardType C.P.depth t then none else match gW C.P 30 t,op with
    |some ks,.eql=>some (.eqA false (cg C.P t) ks a b)
    |some ks,.neq=>some (.eqA true (cg C.P t) ks a b)
    |none,.eql=>match C.P.underlying t,b with
     |some (.slice _),.c .aJ=>some (.isNl a false)
     |_,_=>none
    |none,.neq=>match C.P.underlying t,b with
     |some (.slice _),.c .aJ=>some (.isNl a true)
     |_,_=>none
    |_,_=>none
  |_,_=>none
 | .unOp op _ x=>(C.src defs x).map (.un op)
 | .convert s d x=>match C.P.underlying s,C.P.underlying d,C.src defs x with
  |some (.int _),some (.int k),some a=>some (.cvi k a)
  |some .string,some (.slice e),some a=>match C.P.underlying e with
   |some (.int .u8)=>some (.s2b a)
   |_=>none
  |some (.slice e),some .string,some a=>match C.P.underlying e with
   |some (.int .u8)=>some (.b2s a)
   |_=>none
  |_,_,_=>none
 | .makeFunc (.func f) first caps=>match dY C.ν f,C.wj defs caps.toList with
  |some n,some l=>if first.isEmpty then some (.mkf n l)else if l.isEmpty then(C.wj defs first.toList).map (.mkf (n+1000000))else none
  |_,_=>none
 | .makeSlice t l c=>match C.P.underlying t with
  |some (.slice e)=>match sW C.P e,C.src defs l,C.src defs c with
   |some z,some l,some c=>if C.P.cellsOf e=0\/C.P.bytesOf e>65536 then none else some (.mks (C.P.cellsOf e) z l c)
   |_,_,_=>none
  |_=>none
 | .slice t x lo hi mx=>match C.P.underlying t,C.src defs x,C.opt defs lo,C.opt defs hi,mx with
  |some .string,some a,some l,some h,none=>some (.slS a l h)
  |some (.slice e),some a,some l,some h,none=>if C.P.cellsOf e=0 then none else some (.slA (C.P.cellsOf e) a l h)
  |some (.slice e),some a,some none,some (some h),some m=>match C.src defs m with
   |some m=>if C.P.cellsOf e=0 then none else some (.slX (C.P.cellsOf e) a h m)
   |none=>none
  |_,_,_,_,_=>none
 | .fieldAddr t x f=>match C.P.underlying t,C.src defs x with
  |some (.struct fs),some a=>match fs[f]? with
   |some f=>if C.P.cellsOf f.type=0 then none else some (.fa f.offset a)
   |none=>none
  |_,_=>none
 | .field t x f=>match C.P.underlying t,C.src defs x with
  |some (.struct fs),some a=>match fs[f]? with
   |some f=>if C.P.cellsOf f.type=0\/(C.P.underlying f.type).isNone then none else some (.fld f.offset (C.P.cellsOf f.type) (cg C.P f.type) a)
   |none=>none
  |_,_=>none
 | .indexAddr t x i=>match C.P.underlying t,C.src defs x,C.src defs i with
  |some (.slice e),some a,some b=>if C.P.cellsOf e=0 then none else some (.ia (C.P.cellsOf e) a b)
  |some (.array n e),some a,some b=>if C.P.cellsOf e=0 then none else some (.iaP n (C.P.cellsOf e) a b)
  |_,_,_=>none
 | .index t x i=>match C.P.underlying t,C.src defs x,C.src defs i with
  |some .string,some a,some b=>some (.ixS a b)
  |some (.array n e),some a,some b=>if C.P.cellsOf e=0\/(C.P.underlying e).isNone then none else some (.ixA n (C.P.cellsOf e) (cg C.P e) a b)
  |_,_,_=>none
 | .lookup t x y true=>match C.src defs x,C.src defs y,C.P.underlying t with
  |some a,some b,some (.map k e)=>match sW C.P e with
   |some z=>if Of C.P k=true then some (.lkM z a b)else none
   |none=>none
  |_,_,_=>none
 | .makeMap t none=>match C.P.underlying t with
  |some (.map k _)=>if Of C.P k=true then some .mkM else none
  |_=>none
 | .mapUpdate t x y v=>match C.src defs x,C.src defs y,C.src defs v with
  |some a,some b,some c=>match C.P.underlying t with
   |some (.map k _)=>if Of C.P k=true then some (.upM a b c)else none
   |_=>none
  |_,_,_=>none
 | .range t x=>match C.P.underlying t,C.src defs x with
  |some .string,some a=>some (.rng a)
  |_,_=>none
 | .next it true=>(C.src defs it).map .aS
 | .extract t i=>(C.src defs t).map fun s=>.ext s i
 | .call c=>match c.callee with
  | .builtin .len=>match c.args.toList,c.argTypes.toList with
   |[x],[t]=>match C.src defs x,C.P.underlying t with
    |some a,some .string=>some (.lenS a)
    |some a,some (.slice _)=>some (.len a)
    |_,_=>none
   |_,_=>none
  | .builtin .min=>match c.args.toList with
   |[x,y]=>match C.src defs x,C.src defs y with
    |some a,some b=>some (.mn false a b)
    |_,_=>none
   |_=>none
  | .builtin .max=>match c.args.toList with
   |[x,y]=>match C.src defs x,C.src defs y with
    |some a,some b=>some (.mn true a b)
    |_,_=>none
   |_=>none
  | .builtin .append=>match c.args.toList,c.argTypes.toList with
   |[x,y],[t,u]=>match C.src defs x,C.src defs y,C.P.underlying t,C.P.underlying u with
    |some a,some b,some (.slice e),some (.slice _)=>if C.P.cellsOf e=0\/C.P.bytesOf e>65536\/C.P.bytesOf e=0\/qh C.P e=false then none else some (.app (C.P.cellsOf e) a b)
    |some a,some b,some (.slice e),some .string=>if C.P.cellsOf e=0\/C.P.bytesOf e>65536\/C.P.bytesOf e=0\/qh C.P e=false then none else some (.app (C.P.cellsOf e) a b)
    |_,_,_,_=>none
   |_,_=>none
  | .value (.func f)=>match dY C.ν f,C.wj defs c.args.toList with
   |some n,some l=>if C.bP.contains (2*n)then some (.callM n l)else if C.bP.contains (2*n+1)then(match l with
     |r::rest=>some (.callF n r rest ((c.argTypes.toList.map (H6 C.P 8)).drop 1))
     |[]=>none)else some (.call n l (c.argTypes.toList.map (H6 C.P 8)))
   |_,_=>none
  | .value (.tmp t)=>match C.src defs (.tmp t),C.wj defs c.args.toList with
   |some s,some l=>if C.vm then some (.callvM s l)else some (.callv s l (c.argTypes.toList.map (H6 C.P 8)))
   |_,_=>none
  |_=>none
 |_=>none
def CC.guard (defs:List (Option Nat)):Option (Nat×Bool)->Option (Option (Nat×Bool))
 |none=>some none
 |some (j,w)=>match defs[j]? with
  |some (some _)=>some (some (j,w))
  |_=>none
def CC.ops (C:CC):(defs:List (Option Nat))->List Oper->Option (List GI)
 |_,[]=>some []
 |defs,o::r=>match C.op defs o,CC.guard defs o.guard,C.ops (defs++[o.dst]) r with
  |some i,some g,some l=>if o.dst.all (fun d=>d<C.ntmps&& !defs.contains (some d))then some (⟨i,g⟩::l)else none
  |_,_,_=>none
def CC.iz (C:CC):Nat->List Oper->List (Nat×Nat)
 |_,[]=>[]
 |p,o::r=>match o.dst.bind (A3 C.slots)with
  |some s=>(s,p)::C.iz (p+1) r
  |none=>C.iz (p+1) r
def ri (acc:List Nat):List Edge->Nat
 |[]=>0
 |e::r=>if Region.binds .any e then(2^e.on |||acc.getD e.on 0) |||ri acc r else ri acc r
def pF:List Nat->List Oper->List Nat
 |acc,[]=>acc
 |acc,o::r=>pF (acc++[ri acc o.after.toList]) r
def tmpsOf (ops:List Oper)(o:Oper):List Nat:=
 (o.op.operands.toList.filterMap fun
   | .tmp t=>some t
   |_=>none)++(match o.guard with
   |some (g,_)=>((ops[g]?).bind (·.dst)).toList
   |none=>[])
def RW (ops:List Oper)(bs:List Nat):Bool:=
 (List.range ops.length).all fun j=>(List.range ops.length).all fun p=>match ops[j]?,ops[p]? with
   |some oj,some op=>match op.dst with
    |some t=>p==j ||!(tmpsOf ops oj).contains t ||(bs.getD (max j p) 0).testBit (min j p)
    |none=>true
   |_,_=>false
def ax.pure:ax->Bool
 | .mv _=>true
 | .pick .. =>true
 | .build .. =>true
 | .nilck _=>true
 | .bin .. =>true
 | .eqA .. =>true
 | .un .. =>true
 | .cvi .. =>true
 | .mn .. =>true
 | .mkf .. =>true
 | .slS .. =>true
 | .slA .. =>true
 | .slX .. =>true
 | .fa .. =>true
 | .fld .. =>true
 | .ia .. =>true
 | .iaP .. =>true
 | .ixS .. =>true
 | .ixA .. =>true
 | .ext .. =>true
 | .len _=>true
 | .lenS _=>true
 | .ldI .. =>true
 | .bslI .. =>true
 |_=>false
def Sh.isA:Sh->Bool
 | .a=>true
 |_=>false
def ax.free:ax->Bool
 | .call _ _ sh=>sh.all fun s=>s.all Sh.isA
 |i=>i.pure
def ax.jN:ax->Bool
 | .box .. =>true
 | .bsl .. =>true
 | .mks .. =>true
 | .s2b .. =>true
 | .rng .. =>true
 | .mkB=>true
 | .mkM=>true
 |_=>false
def ax.isApp:ax->Bool
 | .app .. =>true
 |_=>false
def ax.nr:ax->Bool
 | .callF .. =>true
 |_=>false
def ax.nt:ax->Bool
 | .ldU .. =>true
 | .ldW .. =>true
 |_=>false
def ax.isUU:ax->Bool
 | .ldU .. =>true
 |_=>false
def Src.same:Src->Src->Bool
 | .s a,.s b=>Nat.beq a b
 | .l a,.l b=>Nat.beq a b
 |_,_=>false
def ax.narrow (p:Src):ax->Bool
 | .app k _ _=>Nat.ble k 4
 | .stU _ _ _ qs=>qs.any fun q=>p.same q
 |_=>false
def ax.Ra:ax->Src
 | .ldW _ _ p=>p
 |_=>.c .any
def ax.isW:ax->Bool
 | .ldW .. =>true
 |_=>false
def exU (l:List GI)(gj gi:ax)(j i:Nat):Bool:=gi.nt&&((gj.isApp&&decide (j<i)) ||(gi.isUU&&(gj.nr&&(decide (i<j)&&(List.range j).all fun q=>decide (q<=i) ||match l[q]? with
 |some g=>g.i.calm ||g.i.nr
 |none=>true))) ||(gi.isW&&(gj.narrow gi.Ra&&(decide (i<j)&&(List.range j).all fun q=>decide (q<=i) ||match l[q]? with
 |some g=>g.i.calm ||g.i.narrow gi.Ra
 |none=>true))))
def aeE (l:List GI)(bs:List Nat):Bool:=
 (List.range l.length).all fun j=>(List.range l.length).all fun i=>match l[j]?,l[i]? with
   |some gj,some gi=>gj.i.calm ||gi.i.free ||(gi.i.jN&&(!gj.i.isApp ||decide (j<i))) ||i==j ||(bs.getD (max j i) 0).testBit (min j i) ||exU l gj.i gi.i j i
   |_,_=>false
def ax.cO:ax->Bool
 | .callM .. =>true
 | .callvM .. =>true
 | .isNl .. =>true
 |_=>false
def Bz:Nat->List Oper->Bool
 |_,[]=>true
 |p,o::r=>o.after.toList.all (fun e=>!Region.binds .any e ||decide (e.on<p))&&Bz (p+1) r
def sufG:GI->Bool
 |⟨.mv _,none⟩=>true
 |⟨.un ..,_⟩=>true
 |⟨.pick ..,none⟩=>true
 |⟨.ext ..,none⟩=>true
 |_=>false
def Sa:List GI->Bool
 |⟨.callM ..,_⟩::r=>r.all sufG
 |⟨.callvM ..,_⟩::r=>r.all sufG
 |_=>false
def Ak (o:Oper):Option Operand:=match o.op,o.guard with
 | .move x,none=>some x
 | .assign x,none=>some x
 | .extract x _,none=>some x
 |_,_=>none
def OL (x:Operand)(d:Option Nat):Bool:=match x,d with
 | .tmp t,some d=>t !=d
 |_,_=>true
def Oc (o p:Oper):Bool:=match Ak o,Ak p with
 |some x,some y=>OL x p.dst&&(OL y o.dst&&(match o.dst,p.dst with
  |some a,some b=>a !=b
  |_,_=>true))
 |_,_=>false
def Q9 (ops:List Oper)(l:List GI)(bs:List Nat):Bool:=
 let n:=l.findIdx fun g=>g.i.cO
 Sa (l.drop n)&&((l.take n).all (fun g=>!g.i.cO)&&(List.range (l.length-n)).all fun q=>(List.range (n+q)).all fun p=>(bs.getD (n+q) 0).testBit p ||(match ops[n+q]?,ops[p]? with
  |some o,some o'=>Oc o o'
  |_,_=>false))
def Cb (ops:List Oper)(l:List GI):Bool:=
 let bs:=pF [] ops
 RW ops bs&&(aeE l bs&&(((l.all fun g=>!g.i.cO) ||Q9 ops l bs)&&Bz 0 ops))
def ax.toN:ax->ax
 | .app k (.c .aJ) y=>.appN k y
 |i=>i
def looseAt (bs:List Nat)(l:List GI)(i:Nat):Bool:=
 (List.range l.length).any fun j=>match l[j]? with
   |some gj=>!(gj.i.toN.calm ||i==j ||(bs.getD (max j i) 0).testBit (min j i))
   |none=>false
def Oo (bs:List Nat)(l:List GI)(i:Nat):Bool:=
 (List.range l.length).all fun j=>match l[j]? with
   |some gj=>gj.i.toN.calm ||i==j ||(bs.getD (max j i) 0).testBit (min j i) ||(gj.i.isApp&&decide (j<i)) ||(gj.i.nr&&(decide (i<j)&&(List.range j).all fun q=>decide (q<=i) ||match l[q]? with
    |some g=>g.i.toN.calm ||g.i.nr
    |none=>true))
   |none=>true
def Src.isFa (l:List GI):Src->Bool
 | .l q=>match l[q]? with
  |some ⟨.fa _ (.s _),_⟩=>true
  |_=>false
 |_=>false
def ai3 (bs:List Nat)(l:List GI)(i:Nat):Bool:=
 (match l[i]? with
   |some ⟨.ld ..,_⟩=>true
   |_=>false)&&(looseAt bs l i&&(!Oo bs l i&&(List.range l.length).all fun j=>match l[j]? with
   |some gj=>gj.i.toN.calm ||i==j ||(bs.getD (max j i) 0).testBit (min j i) ||(match gj.i with
    | .st n _ _=>Nat.ble 5 n&&decide (i<j)
    |_=>false)
   |none=>true))
def ai2 (bs:List Nat)(l:List GI)(i:Nat):Bool:=
 (match l[i]? with
   |some ⟨.ld _ _ x,_⟩=>x.isFa l
   |_=>false)&&(looseAt bs l i&&(!Oo bs l i&&(((List.range l.length).all fun j=>match l[j]? with
   |some gj=>gj.i.toN.calm ||i==j ||(bs.getD (max j i) 0).testBit (min j i) ||(match gj.i with
    | .app k _ _=>Nat.ble k 4
    | .st n _ _=>Nat.ble n 4&&decide (i<j)
    |_=>false)
   |none=>true)&&(List.range l.length).any fun j=>decide (i<j)&&(match l[j]? with
   |some ⟨.app _ (.l _) _,_⟩=>!(bs.getD (max j i) 0).testBit (min j i)
   |_=>false))))
def Xr (bs:List Nat)(l:List GI)(i:Nat):Bool:=ai2 bs l i ||ai3 bs l i
def Xq (bs:List Nat)(l:List GI):List Src:=(List.range l.length).filterMap fun i=>if Xr bs l i=true then(match l[i]? with
 |some ⟨.ld _ _ x,_⟩=>some x
 |_=>none)else none
def aiH (bs:List Nat)(l:List GI)(p:Nat):Bool:=
 (List.range l.length).any fun j=>match l[j]? with
   |some ⟨.ia _ (.l q) _,_⟩=>Nat.beq q p&&(List.range l.length).any fun i=>match l[i]? with
    |some ⟨.ld _ _ (.l r),_⟩=>Nat.beq r j&&looseAt bs l i
    |_=>false
   |_=>false
def argAt (l:List GI)(p:Nat):Bool:=l.any fun g=>match g.i with
 | .call _ args _=>args.any fun s=>match s with
  | .l q=>Nat.beq q p
  |_=>false
 |_=>false
def mD (bs:List Nat)(l0:List GI):Nat->List GI->List GI
 |_,[]=>[]
 |p,g::r=>(match g.i with
  | .ld n ag x=>if looseAt bs l0 p then(if Oo bs l0 p then⟨.ldU n ag x,g.g⟩else if Xr bs l0 p then⟨.ldW n ag x,g.g⟩else⟨.ldI n ag x,g.g⟩)else g
  | .st n x y=>if(Xq bs l0).isEmpty=true then g else⟨.stU n x y (Xq bs l0),g.g⟩
  | .bsl k z n ps=>if(aiH bs l0 p ||(Nat.ble 2 k&&argAt l0 p))=true then⟨.bslI k z n ps,g.g⟩else g
  |i=>⟨i.toN,g.g⟩)::mD bs l0 (p+1) r
def ice (bP:List Nat)(l:List GI):List GI:=l.map fun g=>match g.i with
 | .bsl k z n ps=>if bP.contains (950000000+100*k+n)then⟨.bslI k z n ps,g.g⟩else g
 |_=>g
def CC.code (C:CC):Code->Option AC
 | .skip=>some .skip
 | .region _ ops draw=>match C.ops [] ops.toList with
  |some l=>if draw then
    if Cb ops.toList (mD (pF [] ops.toList) l 0 l)then some (.reg true (mD (pF [] ops.toList) l 0 l) (C.iz 0 ops.toList))else none
   else some (.reg false (ice C.bP l) (C.iz 0 ops.toList))
  |none=>none
 | .seq a b=>match C.code a,C.code b with
  |some a,some b=>some (.seq a b)
  |_,_=>none
 | .cond c a b=>match C.src [] c,C.code a,C.code b with
  |some c,some a,some b=>some (.cond c a b)
  |_,_,_=>none
 | .block id a=>(C.code a).map (.block id)
 | .loop a=>(C.code a).map .loop
 | .exit id=>some (.exit id)
 | .ret=>some .ret
 | .scope a=>C.code a
 | .label _=>some .skip
 |_=>none
def Sj:(defs:List (Option Nat))->List Oper->List Nat
 |_,[]=>[]
 |defs,o::r=>(o.op.operands.toList.filterMap fun
   | .tmp t=>if(posOf t defs).isNone then some t else none
   |_=>none)++Sj (defs++[o.dst]) r
def Ea:Code->List Nat
 | .region _ ops _=>Sj [] ops.toList
 | .seq a b=>Ea a++Ea b
 | .cond c a b=>(match c with
  | .tmp t=>[t]
  |_=>[])++Ea a++Ea b
 | .block _ a=>Ea a
 | .loop a=>Ea a
 | .scope a=>Ea a
 |_=>[]
def tv:List ResultVar->List Nat
 |[]=>[]
 | .tmp t::r=>t::tv r
 | .cell t _::r=>t::tv r
def dedup:List Nat->List Nat->List Nat
 |acc,[]=>acc.reverse
 |acc,a::r=>if acc.contains a then dedup acc r else dedup (a::acc) r
def ym (P:Program)(sl:List Nat):List ResultVar->Option (List GA)
 |[]=>some []
 | .tmp t::r=>match A3 sl t,ym P sl r with
  |some a,some l=>some (⟨a,none⟩::l)
  |_,_=>none
 | .cell t ty::r=>match A3 sl t,ym P sl r with
  |some a,some l=>if P.cellsOf ty=0\/(P.underlying ty).isNone\/(cg P ty=false/\P.cellsOf ty≠1)then none else some (⟨a,some (P.cellsOf ty,cg P ty)⟩::l)
  |_,_=>none
def slotsOf (fn:Func):List Nat:=dedup [] (List.range (fn.params.size+fn.nfree)++tv fn.results.toList++Ea (fn.body.getD .skip))
def vmOps (P:Program)(ops:List Oper):Bool:=ops.any fun o=>match o.op with
 | .makeFunc _ first _=>!first.isEmpty
 | .lookup t _ _ _=>(match P.underlying t with
  |some (.map _ e)=>(match P.underlying e with
   |some (.func ..)=>true
   |_=>false)
  |_=>false)
 | .call c=>(match c.callee with
  | .value (.tmp _)=>c.argTypes.toList.any fun t=>match P.underlying t with
   |some (.pointer _)=>true
   |_=>false
  |_=>false)
 |_=>false
def Nb (P:Program):Code->Bool
 | .region _ ops _=>vmOps P ops.toList
 | .seq a b=>Nb P a ||Nb P b
 | .cond _ a b=>Nb P a ||Nb P b
 | .block _ a=>Nb P a
 | .loop a=>Nb P a
 | .scope a=>Nb P a
 |_=>false
def PT (P:Program)(fn:Func):Bool:=Nb P (fn.body.getD .skip)
def compile (P:Program)(ν:List (Nat×Nat))(bP:List Nat)(fn:Func):Option aj:=
 match fn.body with
 |some body=>
  match CC.code {P,ν,bP,slots:=slotsOf fn,ntmps:=fn.ntmps,vm:=PT P fn} body,ym P (slotsOf fn) fn.results.toList with
  |some a,some res=>
   if fn.params.size+fn.nfree<=fn.ntmps then some {np:=fn.params.size+fn.nfree,ns:=(slotsOf fn).length,res,rsh:=fn.resultTypes.toList.map fun t=>bif bP.contains (keepN fn)then aiR (H6 P 8 t)else H6 P 8 t,body:=a}else none
  |_,_=>none
 |none=>none
def A8:List (Nat×Nat):=[(3,16),(4,89),(5,28),(6,90),(7,29),(8,91),(9,92),(10,93),(11,94),(12,264),(13,265),(14,110),(15,112),(16,109),(17,111),(18,135),(19,136),(20,266),(21,25),(22,147),(23,114),(24,267),(25,268),(26,269),(27,270),(28,271),(29,272),(30,153),(31,175),(32,142),(33,138),(34,315),(35,502),(36,410),(37,296),(38,297),(39,298),(40,159),(41,71),(42,344),(43,345),(44,503),(45,504),(46,143),(47,145),(48,144),(49,360),(50,361),(51,362),(52,505),(53,46),(54,506),(55,169),(56,170),(57,52),(58,507),(59,508),(60,189),(61,509),(62,186),(63,408),(64,209),(65,295),(66,409),(67,353),(68,354),(69,355),(70,349),(71,553),(72,689),(73,690),(74,274),(75,691),(76,273),(77,623),(78,624),(79,535),(80,536),(81,216),(82,217),(83,218),(84,219),(85,572),(86,358),(87,580),(88,75),(89,356),(90,359),(91,357),(92,581),(93,582),(94,583),(95,692),(96,693),(97,694),(98,183),(99,158),(100,629),(101,403),(102,695),(103,418),(104,696),(105,697),(106,698),(107,417),(108,531),(109,516),(110,440),(111,441),(112,442),(113,530),(114,532),(115,533),(116,534),(117,622),(118,208),(119,74),(120,511),(121,510),(122,712),(123,453),(124,454),(125,455),(126,456),(127,457),(128,458),(129,459),(130,460),(131,316),(132,461),(133,462),(134,249),(135,744),(136,745),(137,501),(138,73),(139,221),(140,748),(141,749),(142,750),(143,751),(144,752),(145,753),(146,754),(147,755),(148,829),(149,184),(150,830),(151,831),(152,415),(153,381),(154,627),(155,617),(156,618),(157,424),(158,628),(159,704),(160,658),(161,659),(162,714),(163,780),(164,72),(165,220),(166,699),(167,700),(168,701),(169,861),(170,470),(171,666),(172,667),(173,668),(174,669),(175,670),(176,671),(177,672),(178,673),(179,674),(180,554),(181,896),(182,897),(183,898),(184,899),(185,900),(186,901),(187,464),(188,902),(189,903),(190,156),(191,816),(192,904),(193,905),(194,906),(195,907),(196,908),(197,909),(198,416),(199,770),(200,782),(201,777),(202,778),(203,630),(204,631),(205,924),(206,925),(207,70),(208,215),(209,463),(210,980),(211,812),(212,813),(213,814),(214,815),(215,734),(216,1006),(217,1007),(218,1008),(219,482),(220,676),(221,375),(222,376),(223,377),(224,378),(225,379),(226,955),(227,1009),(228,1010),(229,1011),(230,1012),(231,1013),(232,1014),(233,1015),(234,916),(235,917),(236,926),(237,783),(238,1023),(239,1024),(240,210),(241,211),(242,212),(243,213),(244,214),(245,450),(246,451),(247,242),(248,452),(249,1055),(250,952),(251,953),(252,954),(253,882),(254,678),(255,1079),(256,677),(257,599),(258,600),(259,601),(260,602),(261,603),(262,1080),(263,1081),(264,1082),(265,1083),(266,1084),(267,374),(268,1085),(269,1019),(270,1020),(271,1025),(272,927),(273,1087),(274,443),(275,444),(276,445),(277,446),(278,447),(279,448),(280,449),(281,489),(282,664),(283,665),(285,1032),(286,1033),(287,1034),(288,1035),(289,1036),(290,769),(291,1118),(292,604),(293,1119),(294,1120),(295,1121),(296,598),(297,1122),(298,1086),(299,495),(300,496),(301,124),(302,660),(303,661),(304,662),(305,254),(306,487),(307,663),(309,336),(311,1097),(312,1098),(313,1099),(314,1100),(315,771),(316,1137),(317,1138),(318,1139),(319,919),(320,920),(321,921),(322,682),(323,683),(324,684),(325,685),(327,808),(328,809),(329,810),(330,811),(336,1126),(337,918),(338,1144),(339,772),(340,1145),(341,1021),(342,819),(350,827),(351,828),(355,946),(356,947),(357,948),(358,949),(359,950),(360,951),(364,1141),(365,1147),(366,1148),(367,956),(368,957),(375,1031)]
def NY:List Nat:=[219,1091,1354,1894,1896,1616,1320,1618,1898,2062,2066,2282,2068,2252,2194,2064,1904,900,931,937,935,445,978,1328,904,942,944,946,952,448,522,1724,1726,1728,1430,486,500,1842,760,314,310,308,1836,872,870,406,410,412,103920080,104450022,104360064,595,1071,593,597,221,533,1004,1018,1510,1504,1496,1164,1166,724,1818,1502,950000702,1838,1544,1000000341,500000000]
noncomputable def cfY (f:Nat):Option aj:=((Go.Proofs.Tryz.prog).funcs[f]?).bind (compile Go.Proofs.Tryz.prog A8 NY)
def zofN (n:Nat):Int.ofNat (no_index (@OfNat.ofNat Nat n (instOfNatNat n)))=@OfNat.ofNat Int n (@instOfNat n):=rfl
def zofU (n:Nat)(h:n<2^8):UInt8.ofBitVec (BitVec.ofFin (Fin.mk (no_index (@OfNat.ofNat Nat n (instOfNatNat n))) h))=(OfNat.ofNat n:UInt8):=px.1 (by show n=(UInt8.ofNat n).toNat;rw[UInt8.toNat_ofNat'];exact(Nat.mod_eq_of_lt h).symm)
def zofM:Int.negSucc 0=-1:=rfl
noncomputable def bc (f:Nat)(s:{a:aj//cfY f=some a}:=by refine⟨?_, ?_⟩;rotate_left;conv=>lhs;reduce;dsimp only[zofN,zofM];try simp only[zofU]):aj:=s.1
section
structure X where
 w:World
 I:Nat->Prop
 β:Nat->Option (Nat×Nat×Nat)
def TK (es:List MapEntry)(i:Nat):Value:=match es[i/2]? with
 |some e=>if i%2=0 then e.key else e.val
 |none=>undef
inductive RD (ν:List (Nat×Nat))(x:X):Value->D->Prop
 |any (v:Value):RD ν x v .any
 |bool (b:Bool):RD ν x (.bool b) (.bool b)
 |int (k:IntKind) (n:Int):RD ν x (.int k n) (.int k n)
 |str (s:List UInt8) (h:s.length<=maxLen):RD ν x (.string ⟨⟨s⟩⟩) (.str s)
 |agg (cs:Array Value) (ds:List D) (hl:cs.size=ds.length) (h1:∀i,i<ds.length->(cs.getD i undef).oneCell'=true)
   (h:∀i,i<ds.length->RD ν x (cs.getD i undef) (ds.getD i .any)):RD ν x (.agg cs) (.agg ds)
 |tup (cs:Array Value) (ds:List D) (hl:cs.size=ds.length)
   (h:∀i,i<ds.length->RD ν x (cs.getD i undef) (ds.getD i .any)):RD ν x (.tuple cs) (.tup ds)
 |aJ:RD ν x (.slice none 0 0) .aJ
 |sl (a:Option Addr) (b off len cap k:Nat) (es:List D) (c:Nat->Nat->Value) (hlen:len=es.length)
   (ha:es=[]\/(a=some ⟨b,off,none⟩/\x.I b)) (hcap:len<=cap) (hm:cap<=maxLen)
   (hk:∀i,i<len->(es.getD i .any).cells.length=k) (hn:∀i,i<len->(es.getD i .any).aR=true)
   (hc:∀i j,i<len->j<k->x.w.cell? ⟨b,off+i*k+j,none⟩=some (c i j))
   (h1:∀i j,i<len->j<k->(c i j).oneCell'=true)
   (h:∀i j,i<len->j<k->RD ν x (c i j) ((es.getD i .any).cells.getD j .any)):RD ν x (.slice a len cap) (.sl k es)
 |ref (b off k i o at_:Nat) (es:List D) (c:Nat->Nat->Value) (hI:x.I b) (hat:at_=off+i*k+o)
   (hk:∀i,i<es.length->(es.getD i .any).cells.length=k) (hn:∀i,i<es.length->(es.getD i .any).aR=true)
   (hc:∀i j,i<es.length->j<k->x.w.cell? ⟨b,off+i*k+j,none⟩=some (c i j))
   (h1:∀i j,i<es.length->j<k->(c i j).oneCell'=true)
   (h:∀i j,i<es.length->j<k->RD ν x (c i j) ((es.getD i .any).cells.getD j .any)):RD ν x (.pointer (some ⟨b,at_,none⟩)) (.ref k es i o)
 |ptr (l k i o b base tot at_:Nat) (hβ:x.β l=some (b,base,tot)) (hat:at_=base+i*k+o):RD ν x (.pointer (some ⟨b,at_,none⟩)) (.ptr l k i o)
 |own (l k i n b base tot cap:Nat) (a:Addr) (hβ:x.β l=some (b,base,tot)) (ha:0<cap->a=⟨b,base+i*k,none⟩)
   (hcap:n<=cap) (hm:cap<=maxLen) (ht:i+cap<=tot):RD ν x (.slice (some a) n cap) (.own l k i n)
 |own0 (l k i:Nat) (a:Option Addr):RD ν x (.slice a 0 0) (.own l k i 0)
 |nilp:RD ν x (.pointer none) .nilp
 |fn (fid n:Nat) (cs:Array Value) (ds:List D) (hν:dY ν fid=some n) (hl:cs.size=ds.length)
   (h:∀i,i<ds.length->RD ν x (cs.getD i undef) (ds.getD i .any)):RD ν x (.func (.func fid) #[] cs) (.fn n ds)
 |dZ (fid n:Nat) (fs:Array Value) (ds:List D) (hν:dY ν fid=some n) (hl:fs.size=ds.length)
   (h:∀i,i<ds.length->RD ν x (fs.getD i undef) (ds.getD i .any)):RD ν x (.func (.func fid) fs #[]) (.fn (n+1000000) ds)
 |nilf:RD ν x .nilFunc .nilf
 |bx (b at_:Nat) (ds:List D) (v:Value) (hI:x.I b) (hc:x.w.cell? ⟨b,at_,none⟩=some v) (h1:v.oneCell'=true) (hl:ds.length=1)
   (h:∀i,i<ds.length->RD ν x v (ds.getD i .any)):RD ν x (.pointer (some ⟨b,at_,none⟩)) (.fn 3000000 ds)
 |mpn:RD ν x (.map none) (.fn 5100000 [])
 |im (l b base tot:Nat) (hβ:x.β l=some (b,base,tot)):RD ν x (.map (some b)) (.fn 5000000 [.it l])
 |it (l b base tot:Nat) (hβ:x.β l=some (b,base,tot)):RD ν x (.pointer (some ⟨b,0,none⟩)) (.it l)
section
variable {ν:List (Nat×Nat)} {x x':X}
structure Le (x x':X):Prop where
 I:∀b,x.I b->x'.I b
 pd:∀b,x.I b->x'.w.heap[b]? =x.w.heap[b]?
 β:∀l p,x.β l=some p->x'.β l=some p
theorem iI {w w':World}{b o:Nat}{v:Value}(h:w'.heap[b]? =w.heap[b]?)(hc:w.cell? ⟨b,o,none⟩=some v):w'.cell? ⟨b,o,none⟩=some v:=by
 rw[<-hc];unfold World.cell?;simp only[h]
def Le.refl (x:X):Le x x:=⟨fun _ h=>h,fun _ _=>rfl,fun _ _ h=>h⟩
def Le.trans {x'':X}(h:Le x x')(h':Le x' x''):Le x x'':=
 ⟨fun b hb=>h'.I b (h.I b hb),fun b hb=>(h'.pd b (h.I b hb)).trans (h.pd b hb),fun l p hp=>h'.β l p (h.β l p hp)⟩
def RD.mono {v:Value}{d:D}(h:RD ν x v d)(hl:Le x x'):RD ν x' v d:=by
 induction h with
 |any v=>exact .any v
 |bool b=>exact .bool b
 |int k n=>exact .int k n
 |str s h=>exact .str s h
 |agg cs ds hl' h1 _ ih=>exact .agg cs ds hl' h1 ih
 |tup cs ds hl' _ ih=>exact .tup cs ds hl' ih
 |aJ=>exact .aJ
 |sl a b off len cap k es c hlen ha hcap hm hk hn hc h1 _ ih=>
  refine .sl a b off len cap k es c hlen (ha.imp id fun⟨p,q⟩=>⟨p,hl.I _ q⟩) hcap hm hk hn (fun i j hi hj=>?_) h1 ih;rcases ha with rfl|⟨_,hI⟩
  .simp at hlen;omega
  .exact iI (hl.pd _ hI) (hc i j hi hj)
 |ref b off k i o at_ es c hI hat hk hn hc h1 _ ih=>
  exact .ref b off k i o at_ es c (hl.I _ hI) hat hk hn (fun i j hi hj=>iI (hl.pd _ hI) (hc i j hi hj)) h1 ih
 |ptr l k i o b base tot at_ hβ hat=>exact .ptr l k i o b base tot at_ (hl.β _ _ hβ) hat
 |own l k i n b base tot cap a hβ ha hcap hm ht=>exact .own l k i n b base tot cap a (hl.β _ _ hβ) ha hcap hm ht
 |own0 l k i a=>exact .own0 l k i a
 |nilp=>exact .nilp
 |fn fid n cs ds hν hl' _ ih=>exact .fn fid n cs ds hν hl' ih
 |dZ fid n cs ds hν hl' _ ih=>exact .dZ fid n cs ds hν hl' ih
 |nilf=>exact .nilf
 |bx b at_ ds v hI hc h1 hl' _ ih=>exact .bx b at_ ds v (hl.I _ hI) (iI (hl.pd _ hI) hc) h1 hl' ih
 |mpn=>exact .mpn
 |im l b base tot hβ=>exact .im l b base tot (hl.β _ _ hβ)
 |it l b base tot hβ=>exact .it l b base tot (hl.β _ _ hβ)
def cY:∀{ds:List D},aL ds=true->∀i,(ds.getD i .any).aR=true
 |[],_,i=>by simp[D.aR]
 |d::r,h,0=>by simp[aL]at h;simpa using h.1
 |d::r,h,i+1=>by simp[aL]at h;simpa using cY h.2 i
def jO:∀{ds:List D},nY ds=true->∀i,(ds.getD i .any).e7=true
 |[],_,i=>by simp[D.e7]
 |d::r,h,0=>by simp[nY]at h;simpa using h.1
 |d::r,h,i+1=>by simp[nY]at h;simpa using jO h.2 i
def sA:∀{ds:List D},(∀i,i<ds.length->(ds.getD i .any).aR=true)->aL ds=true
 |[],_=>rfl
 |d::r,h=>by
  simp only[aL,aN];exact⟨by simpa using h 0 aG,sA fun i hi=>by simpa using h (i+1) dN⟩
def lC {d:D}(h:d.aR=true)(j:Nat):(d.cells.getD j .any).aR=true:=by
 cases d<;>simp only[D.cells]<;>first
  |(simp only[D.aR]at h;exact cY h j)
  |(cases j<;>simp_all[D.aR])
def RD.aR {v:Value}{d:D}(h:RD ν x v d)(hn:d.aR=true)(hI:∀b,x.I b->x'.I b)(hk:∀b,x.I b->x'.w.heap[b]? =x.w.heap[b]?):RD ν x' v d:=by
 induction h with
 |any v=>exact .any v
 |bool b=>exact .bool b
 |int k n=>exact .int k n
 |str s h=>exact .str s h
 |agg cs ds hl' h1 _ ih=>exact .agg cs ds hl' h1 fun i hi=>ih i hi (cY yC i)
 |tup cs ds hl' _ ih=>exact .tup cs ds hl' fun i hi=>ih i hi (cY yC i)
 |aJ=>exact .aJ
 |sl a b off len cap k es c hlen ha hcap hm hk' hn' hc h1 _ ih=>
  refine .sl a b off len cap k es c hlen (ha.imp id fun⟨p,q⟩=>⟨p,hI _ q⟩) hcap hm hk' hn' (fun i j hi hj=>?_) h1 fun i j hi hj=>ih i j hi hj (lC (hn' i hi) j)
  grind [iI]
 |ref b off k i o at_ es c hIb hat hk' hn' hc h1 _ ih=>
  exact .ref b off k i o at_ es c (hI _ hIb) hat hk' hn' (fun i j hi hj=>iI (hk _ hIb) (hc i j hi hj)) h1 fun i j hi hj=>ih i j hi hj (lC (hn' i hi) j)
 |ptr=>simp[D.aR]at hn
 |own=>simp[D.aR]at hn
 |own0=>simp[D.aR]at hn
 |nilp=>exact .nilp
 |fn fid n cs ds hν hl' _ ih=>exact .fn fid n cs ds hν hl' fun i hi=>ih i hi (cY yC i)
 |dZ fid n cs ds hν hl' _ ih=>exact .dZ fid n cs ds hν hl' fun i hi=>ih i hi (cY yC i)
 |nilf=>exact .nilf
 |bx b at_ ds v hIr hc h1 hl' _ ih=>exact .bx b at_ ds v (hI _ hIr) (iI (hk _ hIr) hc) h1 hl' fun i hi=>ih i hi (cY yC i)
 |mpn=>exact .mpn
 |im=>simp[D.aR,aL]at hn
 |it=>simp[D.aR]at hn
def RD.e7 {v:Value}{d:D}(h:RD ν x v d)(hn:d.e7=true):RD ν x' v d:=by
 induction h with
 |any v=>exact .any v
 |bool b=>exact .bool b
 |int k n=>exact .int k n
 |str s h=>exact .str s h
 |agg cs ds hl' h1 _ ih=>exact .agg cs ds hl' h1 fun i hi=>ih i hi (jO (by simpa[D.e7]using hn) i)
 |tup cs ds hl' _ ih=>exact .tup cs ds hl' fun i hi=>ih i hi (jO (by simpa[D.e7]using hn) i)
 |aJ=>exact .aJ
 |sl=>simp[D.e7]at hn
 |ref=>simp[D.e7]at hn
 |ptr=>simp[D.e7]at hn
 |own=>simp[D.e7]at hn
 |own0=>simp[D.e7]at hn
 |nilp=>exact .nilp
 |fn fid n cs ds hν hl' _ ih=>exact .fn fid n cs ds hν hl' fun i hi=>ih i hi (jO (by simp[D.e7]at hn;exact hn.2) i)
 |dZ fid n cs ds hν hl' _ ih=>exact .dZ fid n cs ds hν hl' fun i hi=>ih i hi (jO (by simp[D.e7]at hn;exact hn.2) i)
 |nilf=>exact .nilf
 |bx=>simp[D.e7]at hn
 |mpn=>exact .mpn
 |im=>simp[D.e7]at hn
 |it=>simp[D.e7]at hn
theorem RD.cells {v:Value}{d:D}(h:RD ν x v d)(hd:0<d.cells.length):
  v.cells.size=d.cells.length/\∀j,j<d.cells.length->(v.cells.getD j undef).oneCell'=true/\RD ν x (v.cells.getD j undef) (d.cells.getD j .any):=by
 cases h with
 |any=>simp[D.cells]at hd
 |tup=>simp[D.cells]at hd
 |agg cs ds hl h1 h=>exact⟨hl,fun j hj=>⟨h1 j hj,h j hj⟩⟩
 |bool b=>exact⟨rfl,fun j hj=>by simp[D.cells]at hj;subst hj;exact⟨rfl,.bool b⟩⟩
 |int k n=>exact⟨rfl,fun j hj=>by simp[D.cells]at hj;subst hj;exact⟨rfl,.int k n⟩⟩
 |str s h=>exact⟨rfl,fun j hj=>by simp[D.cells]at hj;subst hj;exact⟨rfl,.str s h⟩⟩
 |aJ=>exact⟨rfl,fun j hj=>by simp[D.cells]at hj;subst hj;exact⟨rfl,.aJ⟩⟩
 |sl a b off len cap k es c hlen ha hcap hm hk hn hc h1 h=>exact⟨rfl,fun j hj=>by simp[D.cells]at hj;subst hj;exact⟨rfl,.sl a b off len cap k es c hlen ha hcap hm hk hn hc h1 h⟩⟩
 |ref b off k i o at_ es c hI hat hk hn hc h1 h=>exact⟨rfl,fun j hj=>by simp[D.cells]at hj;subst hj;exact⟨rfl,.ref b off k i o at_ es c hI hat hk hn hc h1 h⟩⟩
 |ptr l k i o b base tot at_ hβ hat=>exact⟨rfl,fun j hj=>by simp[D.cells]at hj;subst hj;exact⟨rfl,.ptr l k i o b base tot at_ hβ hat⟩⟩
 |own l k i n b base tot cap a hβ ha hcap hm ht=>exact⟨rfl,fun j hj=>by simp[D.cells]at hj;subst hj;exact⟨rfl,.own l k i n b base tot cap a hβ ha hcap hm ht⟩⟩
 |own0 l k i a=>exact⟨rfl,fun j hj=>by simp[D.cells]at hj;subst hj;exact⟨rfl,.own0 l k i a⟩⟩
 |nilp=>exact⟨rfl,fun j hj=>by simp[D.cells]at hj;subst hj;exact⟨rfl,.nilp⟩⟩
 |fn fid n cs ds hν hl h=>exact⟨rfl,fun j hj=>by simp[D.cells]at hj;subst hj;exact⟨rfl,.fn fid n cs ds hν hl h⟩⟩
 |dZ fid n cs ds hν hl h=>exact⟨rfl,fun j hj=>by simp[D.cells]at hj;subst hj;exact⟨rfl,.dZ fid n cs ds hν hl h⟩⟩
 |nilf=>exact⟨rfl,fun j hj=>by simp[D.cells]at hj;subst hj;exact⟨rfl,.nilf⟩⟩
 |bx b at_ ds v hI hc h1 hl h=>exact⟨rfl,fun j hj=>by simp[D.cells]at hj;subst hj;exact⟨rfl,.bx b at_ ds v hI hc h1 hl h⟩⟩
 |mpn=>exact⟨rfl,fun j hj=>by simp[D.cells]at hj;subst hj;exact⟨rfl,.mpn⟩⟩
 |im l b base tot hβ=>exact⟨rfl,fun j hj=>by simp[D.cells]at hj;subst hj;exact⟨rfl,.im l b base tot hβ⟩⟩
 |it l b base tot hβ=>exact⟨rfl,fun j hj=>by simp[D.cells]at hj;subst hj;exact⟨rfl,.it l b base tot hβ⟩⟩
end
end
section
section
variable {ν:List (Nat×Nat)} {x x':X}
def zVv (j:Nat):Value:=if j<3 then .int .i64 0 else .string ⟨⟨[]⟩⟩
class cN where
 tB:TypeId:=0
 tU:TypeId:=0
 gd:X->Prop
 le:∀x x':X,(∀b,x.I b->x'.I b)->(∀b,x.I b->x'.w.heap[b]? =x.w.heap[b]?)->gd x->gd x'
 gz:Nat->Prop:=fun _=>False
 gzr:∀(x:X) (g:Nat),gd x->gz g->∀j,j<5->x.w.cell? ⟨g,j,none⟩=some (zVv j):=by exact fun _ _ _ h=>h.elim
variable [cN]
def oX (ν:List (Nat×Nat))(x:X)(b base tot:Nat):bm->Prop
 | .buf k es=>0<k/\es.length<=tot/\∃c T fr,x.w.heap[b]? =some (.cells c T fr)/\base+tot*k<=c.size/\
   (∀o,o<c.size->¬(fr.1<=o/\o<fr.2))/\
   ∀i,i<es.length->(es.getD i .any).cells.length=k/\∀j,j<k->
    (c.getD (base+i*k+j) undef).oneCell'=true/\RD ν x (c.getD (base+i*k+j) undef) ((es.getD i .any).cells.getD j .any)
 | .iter s pos=>x.w.heap[b]? =some (.stringIter ⟨⟨s⟩⟩ pos)/\s.length<=maxLen
 | .row s=>base=0/\∃c,x.w.heap[b]? =some (.cells c cN.tU (0,0))/\c.size=tot/\tot<=maxLen/\s.length<=tot/\∀i,i<s.length->c.getD i undef=.int .u8 (s.getD i 0).toNat
 | .bld o n u=>base=0/\∃v,x.w.heap[b]? =some (.cells #[.pointer (if u=true then some ⟨b,0,none⟩else none),v] cN.tB (0,0))/\
   match o with
   |none=>n=0/\v=.slice none 0 0
   |some l=>∃g t,v=.slice (some ⟨g,0,none⟩) n t/\n<=t/\x.β l=some (g,0,t)
 | .mpb kvs=>aL kvs=true/\∃es cl,x.w.heap[b]? =some (.map es cl)/\2*es.size=kvs.length/\(es.toList.map (·.key)).Nodup/\∀i,i<kvs.length->RD ν x (TK es.toList i) (kvs.getD i .any)
def rp (h:Le x x')(hg:cN.gd x):cN.gd x':=cN.le x x' h.I h.pd hg
structure fm (ν:List (Nat×Nat))(x:X)(f:Nat->Option bm):Prop where
 own:∀l blk b base tot,f l=some blk->x.β l=some (b,base,tot)->¬x.I b/\oX ν x b base tot blk
 inj:∀l l' b base tot base' tot',f l≠none->f l'≠none->x.β l=some (b,base,tot)->x.β l'=some (b,base',tot')->l=l'
 imm:∀b,x.I b->b<x.w.heap.size
 dZ:∀l b base tot,x.β l=some (b,base,tot)->b<x.w.heap.size
 gd:cN.gd x
structure Step (x x':X):Prop where
 os:x'.w.os=x.w.os
 tape:x'.w.tape=x.w.tape
 output:x'.w.output=x.w.output
 size:x.w.heap.size<=x'.w.heap.size
 I:∀b,x.I b->x'.I b
 pd:∀b,x.I b->x'.w.heap[b]? =x.w.heap[b]?
 β:∀l p,x.β l=some p->x'.β l=some p
 old:∀b,b<x.w.heap.size->(∀l p,x.β l=some p->p.1≠b)->x'.w.heap[b]? =x.w.heap[b]?
 newI:∀b,x'.I b->x.I b\/x.w.heap.size<=b\/∃l p,x.β l=some p/\p.1=b
 newβ:∀l p,x'.β l=some p->x.β l=some p\/x.w.heap.size<=p.1\/∃l' p',x.β l'=some p'/\p'.1=p.1
def Step.le (h:Step x x'):Le x x':=⟨h.I,h.pd,h.β⟩
def Step.refl (x:X):Step x x:=⟨rfl,rfl,rfl,aP _,fun _ h=>h,fun _ _=>rfl,fun _ _ h=>h,fun _ _ _=>rfl,fun _ h=>.inl h,fun _ _ h=>.inl h⟩
def Step.trans {x'':X}(h:Step x x')(h':Step x' x''):Step x x'':=by
 refine⟨h'.os.trans h.os,h'.tape.trans h.tape,h'.output.trans h.output,eJ h.size h'.size,fun b hb=>h'.I b (h.I b hb),
  fun b hb=>(h'.pd b (h.I b hb)).trans (h.pd b hb),fun l p hp=>h'.β l p (h.β l p hp), ?_, ?_, ?_⟩
 .intro b hb hn;refine(h'.old b (jj hb h.size) ?_).trans (h.old b hb hn);intro l p hp e;rcases h.newβ l p hp with h1|h1|⟨l',p',h1,h2⟩
  .exact hn l p h1 e
  .omega
  .exact hn l' p' h1 (h2.trans e)
 .intro b hb;rcases h'.newI b hb with h1|h1|⟨l,p,h1,h2⟩
  .exact h.newI b h1
  .exact .inr (.inl (eJ h.size h1))
  .rcases h.newβ l p h1 with h3|h3|⟨l',p',h3,h4⟩
   .exact .inr (.inr ⟨l,p,h3,h2⟩)
   .exact .inr (.inl (h2▸h3))
   .exact .inr (.inr ⟨l',p',h3,h4.trans h2⟩)
 .intro l p hp;rcases h'.newβ l p hp with h1|h1|⟨l',p',h1,h2⟩
  .exact h.newβ l p h1
  .exact .inr (.inl (eJ h.size h1))
  .rcases h.newβ l' p' h1 with h3|h3|⟨l'',p'',h3,h4⟩
   .exact .inr (.inr ⟨l',p',h3,h2⟩)
   .exact .inr (.inl (h2▸h3))
   .exact .inr (.inr ⟨l'',p'',h3,h4.trans h2⟩)
def oX.mono {b base tot:Nat}{blk:bm}(h:oX ν x b base tot blk)(hl:Le x x')(hb:x'.w.heap[b]? =x.w.heap[b]?):oX ν x' b base tot blk:=by
 cases blk with
 |buf k es=>
  obtain⟨hk,ht,c,T,fr,h1,h2,h3,h4⟩:=h;exact⟨hk,ht,c,T,fr,hb.trans h1,h2,h3,fun i hi=>⟨(h4 i hi).1,fun j hj=>⟨((h4 i hi).2 j hj).1,((h4 i hi).2 j hj).2.mono hl⟩⟩⟩
 |iter s pos=>exact⟨hb.trans h.1,h.2⟩
 |row s=>
  obtain⟨h0,c,h1,h2⟩:=h;exact⟨h0,c,hb.trans h1,h2⟩
 |mpb kvs=>
  obtain⟨h0,es,cl,h1,h2,h3,h4⟩:=h;exact⟨h0,es,cl,hb.trans h1,h2,h3,fun i hi=>(h4 i hi).mono hl⟩
 |bld o n u=>
  obtain⟨h0,v,h1,h2⟩:=h;refine⟨h0,v,hb.trans h1, ?_⟩;cases o with
  |none=>exact h2
  |some l=>
   obtain⟨g,t,h3,h4,h5⟩:=h2;exact⟨g,t,h3,h4,hl.β _ _ h5⟩
structure iw (w w':World):Prop where
 os:w'.os=w.os
 tape:w'.tape=w.tape
 output:w'.output=w.output
 size:w.heap.size<=w'.heap.size
 old:∀b,b<w.heap.size->w'.heap[b]? =w.heap[b]?
def iw.refl (w:World):iw w w:=⟨rfl,rfl,rfl,aP _,fun _ _=>rfl⟩
def lN (w:World)(o:Obj)(b:Nat)(hb:b<w.heap.size):(w.alloc o).heap[b]? =w.heap[b]? :=by
 simp only[World.alloc,Array.getElem?_push];rw[ai ae]
def dS (w:World)(o:Obj):(w.alloc o).heap[w.heap.size]? =some o:=by show(w.heap.push o)[w.heap.size]? =some o;simp
def iw.alloc (w:World)(o:Obj):iw w (w.alloc o):=⟨rfl,rfl,rfl,aG,fun b hb=>lN w o b hb⟩
def iw.trans {w w' w'':World}(h:iw w w')(h':iw w' w''):iw w w'':=
 ⟨h'.os.trans h.os,h'.tape.trans h.tape,h'.output.trans h.output,eJ h.size h'.size,fun b hb=>(h'.old b (jj hb h.size)).trans (h.old b hb)⟩
def iw.drew (w:World):iw w w.drew:=⟨rfl,rfl,rfl,aP _,fun _ _=>rfl⟩
def Step.grow {w':World}(hw:iw x.w w')(himm:∀b,x.I b->b<x.w.heap.size):Step x ⟨w',x.I,x.β⟩:=
 ⟨hw.os,hw.tape,hw.output,hw.size,fun _ h=>h,fun b hb=>hw.old b (himm b hb),fun _ _ h=>h,fun b hb _=>hw.old b hb,fun _ h=>.inl h,fun _ _ h=>.inl h⟩
def fm.grow {f:Nat->Option bm}{w':World}(h:fm ν x f)(hw:iw x.w w'):fm ν ⟨w',x.I,x.β⟩ f:=
 ⟨fun l blk b base tot h1 h2=>⟨(h.own l blk b base tot h1 h2).1,(h.own l blk b base tot h1 h2).2.mono (Step.grow hw h.imm).le (hw.old b (h.dZ l b base tot h2))⟩,
  h.inj,fun b hb=>jj (h.imm b hb) hw.size,fun l b base tot hb=>jj (h.dZ l b base tot hb) hw.size,rp (Step.grow hw h.imm).le h.gd⟩
def eQ (β:Nat->Option (Nat×Nat×Nat))(L:Nat)(p:Nat×Nat×Nat):Nat->Option (Nat×Nat×Nat):=fun l=>if l=L then some p else β l
def jt (f:Nat->Option bm)(L:Nat)(b:Option bm):Nat->Option bm:=fun l=>if l=L then b else f l
def D1 {w':World}{L n base tot:Nat}(hw:iw x.w w')(hn:x.w.heap.size<=n)(hL:x.β L=none)(himm:∀b,x.I b->b<x.w.heap.size):
  Step x ⟨w',x.I,eQ x.β L (n,base,tot)⟩:=by
 refine⟨hw.os,hw.tape,hw.output,hw.size,fun _ h=>h,fun b hb=>hw.old b (himm b hb),fun l p hp=>?_,fun b hb _=>hw.old b hb,fun _ h=>.inl h,fun l p hp=>?_⟩
 .grind [eQ]
 grind [eQ]
def adP {f:Nat->Option bm}{w':World}{L n base tot:Nat}{blk:bm}(h:fm ν x f)(hw:iw x.w w')(hn:x.w.heap.size<=n)(hnw:n<w'.heap.size)(hL:x.β L=none)
  (hb:oX ν ⟨w',x.I,eQ x.β L (n,base,tot)⟩ n base tot blk):fm ν ⟨w',x.I,eQ x.β L (n,base,tot)⟩ (jt f L (some blk)):=by
 have hle:=(D1 (base:=base) (tot:=tot) hw hn hL h.imm).le;refine⟨fun l blk' b base' tot' h1 h2=>?_,fun l l' b base' tot' base'' tot'' h1 h1' h2 h2'=>?_,fun b hb=>jj (h.imm b hb) hw.size,fun l b base' tot' h2=>?_,rp hle h.gd⟩
 .by_cases e:l=L
  .subst e;simp only[eQ,aZ,aD,di]at h2;simp only[jt,aZ,aD]at h1;obtain⟨rfl,rfl,rfl⟩:=h2;subst h1;exact⟨fun hI=>by have:=h.imm _ hI;omega,hb⟩
  .simp only[eQ,e,aU]at h2;simp only[jt,e,aU]at h1;obtain⟨a1,a2⟩:=h.own l blk' b base' tot' h1 h2;exact⟨a1,a2.mono hle (hw.old b (h.dZ l b base' tot' h2))⟩
 .by_cases e:l=L<;>by_cases e':l'=L
  .exact e.trans e'.symm
  .simp only[eQ,e,aZ,aD,di]at h2;simp only[eQ,e',aU]at h2';have:=h.dZ l' b base'' tot'' h2';obtain⟨h2,_,_⟩:=h2;omega
  .simp only[eQ,e',aZ,aD,di]at h2';simp only[eQ,e,aU]at h2;have:=h.dZ l b base' tot' h2;obtain⟨h2',_,_⟩:=h2';omega
  .simp only[eQ,e,aU]at h2;simp only[eQ,e',aU]at h2';simp only[jt,e,aU]at h1;simp only[jt,e',aU]at h1';exact h.inj l l' b base' tot' base'' tot'' h1 h1' h2 h2'
 .by_cases e:l=L
  .simp only[eQ,e,aZ,aD,di]at h2;obtain⟨h2,_,_⟩:=h2;show b<w'.heap.size;omega
  .simp only[eQ,e,aU]at h2;exact jj (h.dZ l b base' tot' h2) hw.size
variable {P:Program} {w:World}
def o9 {t:TypeId}(h:P.cellsOf t≠0):∃i,P.info? t=some i/\i.size=P.cellsOf t:=by
 unfold Program.cellsOf at h⊢;cases hi:P.info? t with
 |none=>simp[hi]at h
 |some i=>exact⟨i,rfl,aG⟩
def dF {t:TypeId}(h:P.cellsOf t≠0):(sizeOf t).run P w=.ok (P.cellsOf t) w:=by
 obtain⟨i,hi,hs⟩:=o9 h;simp[sizeOf,typeInfo,hi,hs]
def vZ {t:TypeId}(h:(P.underlying t).isNone=false):(isAgg t).run P w=.ok (cg P t) w:=by
 cases hu:P.underlying t with
 |none=>simp[hu]at h
 |some d=>unfold isAgg cg;rw[Sem.run_bind,run_underlying hu w];simp only[hu,Result.andThen];cases d<;>rfl
theorem Addr.AW (b o n:Nat):(⟨b,o,none⟩:Addr).add n=⟨b,o+n,none⟩:=by unfold Addr.add;split<;>simp_all
end
end
section
variable [cN]
section
variable {ν:List (Nat×Nat)} {x:X} {f:Nat->Option bm} {P:Program}
mutual
theorem na:∀(v:Value) (d:D),fL v=some d->RD ν x v d
 | .bool b,d,h=>by simp[fL]at h;subst h;exact .bool b
 | .int k n,d,h=>by simp[fL]at h;subst h;exact .int k n
 | .string ⟨⟨s⟩⟩,d,h=>by
  simp only[fL]at h;split at h
  .rename_i hs;simp only[aD]at h;subst h;exact .str s (by simpa[maxLen,ByteArray.size]using hs)
  .cases h
 | .pointer none,d,h=>by simp[fL]at h;subst h;exact .nilp
 | .slice none 0 0,d,h=>by simp[fL]at h;subst h;exact .aJ
 | .nilFunc,d,h=>by simp[fL]at h;subst h;exact .nilf
 | .map none,d,h=>by simp[fL]at h;subst h;exact .mpn
 | .agg ⟨cs⟩,d,h=>by
  simp only[fL]at h;split at h
  .rename_i hone;cases hc:tf cs with
   |none=>simp[hc]at h
   |some ds=>
    simp[hc]at h;subst h;obtain⟨hl,hr⟩:=uP cs ds hc;refine .agg ⟨cs⟩ ds (by simpa using hl) (fun i hi=>?_) (fun i hi=>by simpa using hr i hi);have:=rW cs hone i ae;simpa using this
  .cases h
 | .float _ _,d,h=>by simp[fL]at h
 | .complex _ _ _,d,h=>by simp[fL]at h
 | .pointer (some _),d,h=>by simp[fL]at h
 | .slice (some _) _ _,d,h=>by simp[fL]at h
 | .slice none (_+1) _,d,h=>by simp[fL]at h
 | .slice none 0 (_+1),d,h=>by simp[fL]at h
 | .map (some _),d,h=>by simp[fL]at h
 | .chan _,d,h=>by simp[fL]at h
 | .func _ _ _,d,h=>by simp[fL]at h
 | .iface _ _,d,h=>by simp[fL]at h
 | .tuple _,d,h=>by simp[fL]at h
theorem uP:∀(vs:List Value) (ds:List D),tf vs=some ds->vs.length=ds.length/\∀i,i<ds.length->RD ν x (vs.getD i undef) (ds.getD i .any)
 |[],ds,h=>by simp[tf]at h;subst h;simp
 |v::r,ds,h=>by
  simp only[tf]at h;split at h
  .rename_i d ds' h1 h2;simp only[aD]at h;subst h;have a:=na v d h1;obtain⟨b1,b2⟩:=uP r ds' h2;refine⟨by simp[b1],fun i hi=>?_⟩;cases i with
   |zero=>simpa using a
   |succ i=>simpa using b2 i lR
  .cases h
theorem rW:∀(vs:List Value),wS vs=true->∀i,i<vs.length->(vs.getD i undef).oneCell'=true
 |[],_,i,hi=>by simp at hi
 |v::r,h,i,hi=>by
  simp only[wS,aN]at h;cases i with
  |zero=>simp;cases v<;>simp_all[Value.oneCell']
  |succ i=>simpa using rW r h.2 i lR
end
def Br (ν:List (Nat×Nat))(x:X)(f:Nat->Option bm)(L:Nat)(d:D)(r:Result Next):Prop:=
 ∃v x',(r=.ok (.value v) x'.w\/r=.ok .skip x'.w/\v=undef)/\Step x x'/\RD ν x' v d/\fm ν x' f/\∀l,l≠L->x'.β l=x.β l
def nN {L:Nat}{d:D}{v:Value}{r:Result Next}(hs:fm ν x f)(hr:r=.ok (.value v) x.w)(hd:RD ν x v d):Br ν x f L d r:=
 ⟨v,x,.inl hr,.refl x,hd,hs,fun _ _=>rfl⟩
def vu (C:CC)(defs:List (Option Nat))(J:Src->aX)(ev:Operand->Value)(x:X)(os:List Operand):Prop:=
 ∀o,o∈os->∀s,C.src defs o=some s->(J s).ok=true->RD C.ν x (ev o) (J s).d
def RD.jH {v:Value}{b:Bool}(h:RD ν x v (.bool b)):v=.bool b:=by cases h;rfl
def RD.dt {v:Value}{k:IntKind}{n:Int}(h:RD ν x v (.int k n)):v=.int k n:=by cases h;rfl
def RD.jW {v:Value}{s:List UInt8}(h:RD ν x v (.str s)):v=.string ⟨⟨s⟩⟩/\s.length<=maxLen:=by cases h;exact⟨rfl,‹_›⟩
def RD.pick {b:Bool}{u v:Value}{d e:D}(h1:b=true->RD ν x u d)(h2:b=false->RD ν x v e):RD ν x (if b then u else v) (D.pick b d e):=by
 cases b
 .have:=h2 rfl;simp only[iD,aU];cases d<;>cases e<;>simp only[D.pick,cond_false]<;>exact this
 .have:=h1 rfl;simp only[aZ];cases d<;>cases e<;>simp only[D.pick,cond_true]<;>exact this
def MJ {op:BinOp}{t:TypeId}{k k':IntKind}{a b:Int}(w:World)(hb:AX op (.int k a) (.int k' b)):
  ∃v,(binOp op t (.int k a) (.int k' b)).run P w=.ok v w/\RD ν x v (ED op (.int k a) (.int k' b)):=by
 cases op<;>simp only[AX]at hb<;>simp only[binOp,ED,ne_eq]
 case shl=>exact⟨_,by simp[Op.shift,show ¬b<0 by omega],.int _ _⟩
 case shr=>exact⟨_,by simp[Op.shift,show ¬b<0 by omega],.int _ _⟩
 case quo=>obtain⟨rfl,hb⟩:=hb;exact⟨_,by simp[Op.intDiv,hb],.int _ _⟩
 case rem=>obtain⟨rfl,hb⟩:=hb;exact⟨_,by simp[Op.intDiv,hb],.int _ _⟩
 case and=>subst hb;exact⟨_,by simp[Op.intBits],.int _ _⟩
 case or=>subst hb;exact⟨_,by simp[Op.intBits],.int _ _⟩
 case xor=>subst hb;exact⟨_,by simp[Op.intBits],.int _ _⟩
 case andNot=>subst hb;exact⟨_,by simp[Op.intBits],.int _ _⟩
 case add=>subst hb;exact⟨_,by simp[Op.intArith],.int _ _⟩
 case sub=>subst hb;exact⟨_,by simp[Op.intArith],.int _ _⟩
 case mul=>subst hb;exact⟨_,by simp[Op.intArith],.int _ _⟩
 case eql=>subst hb;exact⟨_,by simp[Op.intCmp],.bool _⟩
 case neq=>subst hb;exact⟨_,by simp[Op.intCmp],.bool _⟩
 case lss=>subst hb;exact⟨_,by simp[Op.intCmp],.bool _⟩
 case leq=>subst hb;exact⟨_,by simp[Op.intCmp],.bool _⟩
 case gtr=>subst hb;exact⟨_,by simp[Op.intCmp],.bool _⟩
 case geq=>subst hb;exact⟨_,by simp[Op.intCmp],.bool _⟩
def GS (a b:List UInt8):(⟨⟨a⟩⟩:ByteArray)++⟨⟨b⟩⟩=⟨⟨a++b⟩⟩:=by
 have h:((⟨⟨a⟩⟩:ByteArray)++⟨⟨b⟩⟩).data=(⟨a++b⟩:Array UInt8):=by
  rw[ByteArray.data_append];simp
 exact aw ByteArray.mk h
def MK {op:BinOp}{t:TypeId}{a b:List UInt8}(w:World)(hb:AX op (.str a) (.str b)):
  ∃v,(binOp op t (.string ⟨⟨a⟩⟩) (.string ⟨⟨b⟩⟩)).run P w=.ok v w/\RD ν x v (ED op (.str a) (.str b)):=by
 have hs:∀l:List UInt8,(⟨⟨l⟩⟩:ByteArray).size=l.length:=fun _=>rfl
 cases op<;>simp only[AX]at hb<;>simp only[binOp,ED]
 case add=>
  refine⟨.string ⟨⟨a++b⟩⟩, ?_,.str _ (by simp[maxLen];omega)⟩;have:¬(((⟨⟨a⟩⟩:ByteArray).size+(⟨⟨b⟩⟩:ByteArray).size:Nat):Int)>IntKind.i64.max:=by
   rw[hs,hs];simp only[IntKind.max,IntKind.signed,IntKind.bits,aZ];omega
  simp only[Op.stringOp,this,aU,Sem.run_pure,GS]
 all_goals
  refine⟨_,by simp only[Op.stringOp,Sem.run_pure];rfl, ?_⟩;simp only[ByteArray.toList_eq];exact .bool _
def oI (op:BinOp)(t:TypeId)(p q:Operand){u v:Value}(h:(∀cs,u≠.agg cs)/\u≠.nilIface)(w:World):(eqGuard op t p q u v).run P w=.ok () w:=by
 obtain⟨h1,h2⟩:=h;unfold eqGuard;cases op<;>simp<;>(split<;>first|rfl|simp_all)
def ec {α:Type}(l:List α)(o n:Nat)(d:α)(j:Nat)(hj:j<n):((l.drop o).take n).getD j d=l.getD (o+j) d:=by
 grind
def hZ {α:Type}(l:List α)(o n:Nat)(h:o+n<=l.length):((l.drop o).take n).length=n:=by
 simp;omega
theorem bT (cs:Array Value)(i:Nat)(d:Value):cs.toList.getD i d=cs.getD i d:=by
 simp[List.getD,Array.getD];split<;>simp_all
def p8 {t:TypeId}{cs:Array Value}{ds:List D}{off n:Nat}{ag:Bool}(w:World)(hv:RD ν x (.agg cs) (.agg ds))(ht:P.cellsOf t≠0)(hu:(P.underlying t).isNone=false)
  (hn:n=P.cellsOf t) (hag:ag=cg P t) (hle:off+n<=ds.length) (h1:ag=false->n=1):
  ∃v,(part t cs off).run P w=.ok v w/\RD ν x v (cut ds off n ag):=by
 cases hv with
 |agg _ _ hl hone h=>
  unfold part;rw[Sem.run_bind,vZ hu];subst hag;cases hb:cg P t
  .have hn1:=h1 (by rw[hb]);have hlt:off<cs.size:=ae;refine⟨cs.getD off undef, ?_, ?_⟩
   .simp[Result.andThen,Array.getElem?_eq_getElem hlt,Array.getD,hlt]
   .simp only[cut,cond_false];exact h off ae
  .refine⟨.agg (cs.extract off (off+n)), ?_, ?_⟩
   .simp[Result.andThen,dF ht,hn]
   .simp only[cut,cond_true];refine .agg _ _ ?_ ?_ ?_
    .simp;omega
    .intro i hi;simp at hi;have:=hone (off+i) ae;rw[<-this];congr 1;simp[Array.getD,show off+i<cs.size by omega,show i<min (off+n) cs.size-off by omega]
    .intro i hi;simp at hi;rw[ec _ _ _ _ _ ae];have:=h (off+i) ae;have e:(cs.extract off (off+n)).getD i undef=cs.getD (off+i) undef:=by
      simp[Array.getD,show off+i<cs.size by omega,show i<min (off+n) cs.size-off by omega]
     rw[e];exact this
end
end
section
variable [cN]
section
variable {x:X} {f:Nat->Option bm} {C:CC} {defs:List (Option Nat)} {J:Src->aX} {ev:Operand->Value} {Y:Ctx} {m:List (Nat×bm)} {L:Nat}
def iC {os':List Operand}(hρ:vu C defs J ev x os'):∀(os:List Operand) (ss:List Src),(∀o∈os,o∈os')->C.wj defs os=some ss->BJ J ss->
  os.length=ss.length/\(iM J ss).length=os.length/\∀i,i<(iM J ss).length->RD C.ν x ((os.map ev).getD i undef) ((iM J ss).getD i .any)
 |[],ss,_,h,_=>by simp[CC.wj]at h;subst h;simp[iM]
 |o::r,ss,hm,h,hk=>by
  simp only[CC.wj]at h;split at h
  .rename_i a l h1 h2;simp only[aD]at h;subst h;simp only[BJ]at hk;obtain⟨b1,b2,b3⟩:=iC hρ r l (fun o ho=>hm o (.tail _ ho)) h2 hk.2;refine⟨by simp[b1],by simp[iM,b2],fun i hi=>?_⟩;cases i with
   |zero=>simpa[iM]using hρ o (hm o (.head _)) a h1 hk.1
   |succ i=>simpa[iM]using b3 i (by simpa[iM]using hi)
  .cases h
def Cr (off:Nat):∀(new:List Value) (st:Nat) (acc:Array Value),off+st+new.length<=acc.size->
  ((new.zipIdx st).foldl (fun cs (c,j)=>cs.setIfInBounds (off+j) c) acc).size=acc.size/\
  ∀q,((new.zipIdx st).foldl (fun cs (c,j)=>cs.setIfInBounds (off+j) c) acc)[q]? =if off+st<=q/\q<off+st+new.length then new[q-(off+st)]? else acc[q]?
 |[],st,acc,_=>⟨aG,fun q=>dN⟩
 |c::r,st,acc,hb=>by
  simp only[bE]at hb;obtain⟨h1,h2⟩:=Cr off r (st+1) (acc.setIfInBounds (off+st) c) dN;refine⟨by simpa[List.zipIdx_cons]using h1,fun q=>?_⟩;rw[List.zipIdx_cons,List.foldl_cons,h2 q]
  grind
def sB {os':List Operand}(hρ:vu C defs J ev x os')(place:Nat->Option (Nat×Nat))(len:Nat):∀(ps:List (Nat×Operand)) (ss:List (Nat×Nat×Src)),
  (∀p∈ps,p.2∈os')->C.parts defs place ps=some ss->zX J len ss->∀(cs:Array Value) (ds:List D),cs.size=len->RD C.ν x (.agg cs) (.agg ds)->
  ∃cs',Instr.fill place cs (ps.map fun(i,o)=>(i,ev o))=some cs'/\RD C.ν x (.agg cs') (.agg (Ch J ds ss))
 |[],ss,_,h,_,cs,ds,_,hr=>by simp[CC.parts]at h;subst h;exact⟨cs,by simp[Instr.fill],by simpa[Ch]using hr⟩
 |(i,o)::r,ss,hm,h,hk,cs,ds,hlen,hr=>by
  simp only[CC.parts]at h;split at h
  .rename_i off n s l h1 h2 h3;split at h
   .cases h
   rename_i hn0;simp only[aD]at h;subst h;simp only[zX]at hk;obtain⟨k1,k2,k3,k4⟩:=hk;have hn:0<n:=ae;have hv:=hρ o (hm _ (.head _)) s h2 k1;obtain⟨c1,c2⟩:=hv.cells ae;have hsz:(ev o).cells.size=n:=ae;cases hr with
   |agg _ _ hl hone hh=>
   let cs1:Array Value:=((ev o).cells.toList.zipIdx 0).foldl (fun cs (c,j)=>cs.setIfInBounds (off+j) c) cs
   have harr:(ev o).cells.zipIdx.foldl (fun cs (c,j)=>cs.setIfInBounds (off+j) c) cs=cs1:=by
    rw[<-Array.foldl_toList];simp[cs1]
   have hcs1:=harr;obtain⟨hsz1,hgq⟩:=Cr off (ev o).cells.toList 0 cs dN;have hget:∀q,q<cs.size->cs1.getD q undef=if q<off then cs.getD q undef else if q<off+n then(ev o).cells.getD (q-off) undef else cs.getD q undef:=by
    intro q hq;have:=hgq q;rw[<-bT,<-bT cs,<-bT (ev o).cells];simp only[List.getD,Array.getElem?_toList];rw[show cs1[q]? =_ from this];simp only[Array.length_toList,hsz,Nat.add_zero];by_cases q1:q<off
    .rw[ak q1,ai ae]
    .rw[ai q1];by_cases q2:q<off+n
     .rw[ak q2,ak ae];simp
     .rw[ai q2,ai ae]
   have hsz1:cs1.size=cs.size:=hsz1;have hdlen:(over ds off (J s).d.cells).length=ds.length:=by simp[over];omega
   have hdget:∀q,q<ds.length->(over ds off (J s).d.cells).getD q .any=if q<off then ds.getD q .any else if q<off+n then(J s).d.cells.getD (q-off) .any else ds.getD q .any:=by
    intro q hq;simp only[over,List.getD,List.getElem?_append,eg];by_cases q1:q<off
    .rw[ak ae,ak q1];simp[List.getElem?_take,q1]
    .rw[ai ae,ai q1,show q-min off ds.length=q-off by omega];by_cases q2:q<off+n
     .rw[ak q2,ak ae]
     .rw[ai q2,ai ae];simp only[List.getElem?_drop];congr 3;omega
   have hr1:RD C.ν x (.agg cs1) (.agg (over ds off (J s).d.cells)):=by
    refine .agg _ _ ae (fun q hq=>?_) (fun q hq=>?_)
    .rw[hdlen]at hq;rw[hget q ae];split
     .exact hone q hq
     .split
      .exact(c2 (q-off) ae).1
      .exact hone q hq
    .rw[hdlen]at hq;rw[hget q ae,hdget q hq];split
     .exact hh q hq
     .split
      .exact(c2 (q-off) ae).2
      .exact hh q hq
   obtain⟨cs',g1,g2⟩:=sB hρ place len r l (fun p hp=>hm p (.tail _ hp)) h3 k4 cs1 _ ae hr1;refine⟨cs', ?_,by simpa[Ch]using g2⟩;simp only[List.map_cons,Instr.fill,h1];rw[ai (by simp[hsz];omega),hcs1];exact g1
  .cases h
end
section
variable {ν:List (Nat×Nat)} {x:X} {P:Program}
def jn:∀(ks:List CK) (ds:List D),fu ks ds->ds.length=ks.length
 |[],[],_=>rfl
 |[],_::_,h=>by simp[fu]at h
 |_::_,[],h=>by simp[fu]at h
 |c::r,d::ds,h=>by have:=jn r ds (by simp[fu]at h;exact h.2);simp;omega
def kF:∀(a b:List CK) (ds:List D),fu (a++b) ds->fu a (ds.take a.length)/\fu b (ds.drop a.length)
 |[],b,ds,h=>by simpa[fu]using h
 |c::r,b,[],h=>by simp[fu]at h
 |c::r,b,d::ds,h=>by
  simp only[sX,fu]at h;obtain⟨h1,h2⟩:=kF r b ds h.2
  grind [fu]
def vC:∀(n:Nat) (ds es:List D),ds.length=es.length->hR ds es=(hR (ds.take n) (es.take n)&&hR (ds.drop n) (es.drop n))
 |0,ds,es,_=>by simp[hR]
 |n+1,[],[],_=>by simp[hR]
 |n+1,[],_::_,h=>by simp at h
 |n+1,_::_,[],h=>by simp at h
 |n+1,d::ds,e::es,h=>by
  simp only[hR,List.take_succ_cons,List.drop_succ_cons];rw[vC n ds es ra,Bool.and_assoc]
def K0 {c:CK}{d:D}(h:c.fits d):d.cells=[d]/\d.isAgg=false:=by
 cases c<;>cases d<;>simp_all[CK.fits,D.cells,D.isAgg]
def lW {c:CK}{d:D}(h:fu [c] d.cells)(ha:d.isAgg=false):c.fits d:=by
 cases d<;>simp_all[D.cells,D.isAgg,fu]
def tg {ds:List D}{off n:Nat}{ag:Bool}{ks:List CK}(h:fu ks ((ds.drop off).take n))(hn:ag=false->n=1)(hle:off+n<=ds.length):
  (cut ds off n ag).cells=(ds.drop off).take n/\(cut ds off n ag).isAgg=ag:=by
 cases ag
 .have:=hn rfl;subst this;have hlt:off<ds.length:=ae;have e:(ds.drop off).take 1=[ds.getD off .any]:=by
   rw[eV hlt];simp[List.getD,hlt,List.take]
  rw[e]at h⊢;cases ks with
  |nil=>simp[fu]at h
  |cons c r=>
   simp only[fu]at h;exact K0 h.1
 .exact⟨rfl,rfl⟩
def Nx (ν:List (Nat×Nat))(x:X)(P:Program)(n:Nat)(t:TypeId)(ks:List CK):Prop:=
 ∀u v d e (w:World),RD ν x u d->RD ν x v e->d.isAgg=cg P t->e.isAgg=cg P t->fu ks d.cells->fu ks e.cells->
  (Op.equalIn n t u v).run P w=.ok (hR d.cells e.cells) w
def CH {n:Nat}{t:TypeId}{ks:List CK}(h:gW P n t=some ks)(ha:cg P t=false):ks.length=1:=by
 cases n with
 |zero=>simp[gW]at h
 |succ n=>
  grind [gW,cg]
def wY (n depth:Nat)(ih:∀t ks,gW P depth t=some ks->Nx ν x P n t ks)(xs ys:Array Value)(ds es:List D)(h1:RD ν x (.agg xs) (.agg ds))(h2:RD ν x (.agg ys) (.agg es))(w:World):
  ∀(fs:List Field) (off:Nat) (ks:List CK),ma P (fun t=>gW P depth t) off fs=some ks->off<=ds.length->off<=es.length->fu ks (ds.drop off)->fu ks (es.drop off)->
  (Op.eqFields n xs ys fs).run P w=.ok (hR (ds.drop off) (es.drop off)) w
 |[],off,ks,hk,_,_,f1,f2=>by
  simp[ma]at hk;subst hk;have a:=jn _ _ f1;have b:=jn _ _ f2;have a':ds.drop off=[]:=lI a;have b':es.drop off=[]:=lI b;rw[a',b'];simp[Op.eqFields,hR]
 |f::fs,off,ks,hk,l1,l2,f1,f2=>by
  simp only[ma]at hk;split at hk
  .cases hk
  .rename_i hne;have hname:f.name≠ "_" :=fun e=>hne (.inl e)
   have hoff:f.offset=off:=by
    rcases Nat.decEq f.offset off with h|h
    .exact absurd (.inr h) hne
    .exact h
   split at hk
   .rename_i a b ha hb;split at hk
    .rename_i hlen;obtain⟨hlen,hnz,hund⟩:=hlen;simp only[aD]at hk;subst hk;obtain⟨fa1,fb1⟩:=kF a b _ f1;obtain⟨fa2,fb2⟩:=kF a b _ f2;have la:=jn _ _ f1;have lb:=jn _ _ f2;simp only[j5,ct]at la lb;have hag:cg P f.type=false->P.cellsOf f.type=1:=fun e=>by rw[<-hlen];exact CH ha e
     obtain⟨u,r1,r2⟩:=p8 (P:=P) (off:=off) (n:=P.cellsOf f.type) (ag:=cg P f.type) w h1 ae hund rfl rfl ae hag;obtain⟨v,s1,s2⟩:=p8 (P:=P) (off:=off) (n:=P.cellsOf f.type) (ag:=cg P f.type) w h2 ae hund rfl rfl ae hag;rw[hlen]at fa1 fa2 fb1 fb2;obtain⟨c1,c2⟩:=tg (ag:=cg P f.type) fa1 hag ae;obtain⟨d1,d2⟩:=tg (ag:=cg P f.type) fa2 hag ae;have he:=ih f.type a ha u v _ _ w r2 s2 c2 d2 (by rw[c1];exact fa1) (by rw[d1];exact fa2);rw[List.drop_drop]at fb1 fb2;have hrest:=wY n depth ih xs ys ds es h1 h2 w fs (off+P.cellsOf f.type) b hb ae ae fb1 fb2;rw[vC (P.cellsOf f.type) (ds.drop off) (es.drop off) dN];simp only[Op.eqFields,hname,ne_eq,not_false_eq_true,aZ,Sem.run_bind,hoff,r1,s1,he,Result.andThen_ok,Sem.run_ite,hrest];rw[c1,d1,List.drop_drop,List.drop_drop];cases hR ((ds.drop off).take (P.cellsOf f.type)) ((es.drop off).take (P.cellsOf f.type))<;>simp
    .cases hk
   .cases hk
def zU (n:Nat)(e:TypeId)(l:List CK)(ih:Nx ν x P n e l)(hc:l.length=P.cellsOf e)(hnz:l.length≠0)(hund:(P.underlying e).isNone=false)(hag:cg P e=false->P.cellsOf e=1)
  (xs ys:Array Value) (ds es:List D) (h1:RD ν x (.agg xs) (.agg ds)) (h2:RD ν x (.agg ys) (.agg es)) (w:World):
  ∀(len j:Nat),j*P.cellsOf e<=ds.length->j*P.cellsOf e<=es.length->fu (List.replicate len l).flatten (ds.drop (j*P.cellsOf e))->fu (List.replicate len l).flatten (es.drop (j*P.cellsOf e))->
  (Op.eqItems n e (P.cellsOf e) xs ys (List.range' j len)).run P w=.ok (hR (ds.drop (j*P.cellsOf e)) (es.drop (j*P.cellsOf e))) w
 |0,j,_,_,f1,f2=>by
  have a:=jn _ _ f1;have b:=jn _ _ f2;have a':ds.drop (j*P.cellsOf e)=[]:=lI (by simpa using a);have b':es.drop (j*P.cellsOf e)=[]:=lI (by simpa using b);rw[a',b'];simp[Op.eqItems,hR]
 |len+1,j,l1,l2,f1,f2=>by
  simp only[List.replicate_succ,List.flatten_cons]at f1 f2;obtain⟨fa1,fb1⟩:=kF _ _ _ f1;obtain⟨fa2,fb2⟩:=kF _ _ _ f2;have la:=jn _ _ f1;have lb:=jn _ _ f2;simp only[j5,ct]at la lb;have hj:(j+1)*P.cellsOf e=j*P.cellsOf e+P.cellsOf e:=Nat.succ_mul _ _;obtain⟨u,r1,r2⟩:=p8 (P:=P) (off:=j*P.cellsOf e) (n:=P.cellsOf e) (ag:=cg P e) w h1 ae hund rfl rfl ae hag;obtain⟨v,s1,s2⟩:=p8 (P:=P) (off:=j*P.cellsOf e) (n:=P.cellsOf e) (ag:=cg P e) w h2 ae hund rfl rfl ae hag;rw[hc]at fa1 fa2 fb1 fb2;obtain⟨c1,c2⟩:=tg (ag:=cg P e) fa1 hag ae;obtain⟨d1,d2⟩:=tg (ag:=cg P e) fa2 hag ae;have he:=ih u v _ _ w r2 s2 c2 d2 (by rw[c1];exact fa1) (by rw[d1];exact fa2);rw[List.drop_drop,<-hj]at fb1 fb2;have hrest:=zU n e l ih hc hnz hund hag xs ys ds es h1 h2 w len (j+1) ae ae fb1 fb2;rw[vC (P.cellsOf e) (ds.drop (j*P.cellsOf e)) (es.drop (j*P.cellsOf e)) dN];simp only[List.range'_succ,Op.eqItems,Sem.run_bind,r1,s1,he,Result.andThen_ok,Sem.run_ite,hrest];rw[c1,d1,List.drop_drop,List.drop_drop,<-hj];cases hR ((ds.drop (j*P.cellsOf e)).take (P.cellsOf e)) ((es.drop (j*P.cellsOf e)).take (P.cellsOf e))<;>simp
def r7:∀(depth:Nat) (t:TypeId) (ks:List CK),gW P depth t=some ks->∀n,depth<=n->Nx ν x P n t ks
 |0,t,ks,h,_,_=>by simp[gW]at h
 |depth+1,t,ks,h,n,hn=>by
  obtain⟨n,rfl⟩:∃k,n=k+1:=⟨n-1,ae⟩
  intro u v d e w r1 r2 a1 a2 f1 f2;simp only[gW]at h;split at h
  .rename_i hu;simp only[aD]at h;subst h;have hag:cg P t=false:=by simp[cg,hu]
   rw[hag]at a1 a2;have g1:=lW f1 a1;have g2:=lW f2 a2;cases d<;>simp only[CK.fits]at g1;cases e<;>simp only[CK.fits]at g2;rw[r1.jH,r2.jH,run_equalIn_bool w n t _ _ hu];simp[D.cells,hR,eqD]
  .rename_i k hu;simp only[aD]at h;subst h;have hag:cg P t=false:=by simp[cg,hu]
   rw[hag]at a1 a2;have g1:=lW f1 a1;have g2:=lW f2 a2;cases d<;>simp only[CK.fits]at g1;cases e<;>simp only[CK.fits]at g2;subst g1;subst g2;rw[r1.dt,r2.dt,run_equalIn_int w n t _ _ _ _ hu];simp[D.cells,hR,eqD]
  .rename_i hu;simp only[aD]at h;subst h;have hag:cg P t=false:=by simp[cg,hu]
   rw[hag]at a1 a2;have g1:=lW f1 a1;have g2:=lW f2 a2;cases d<;>simp only[CK.fits]at g1;cases e<;>simp only[CK.fits]at g2;rw[r1.jW.1,r2.jW.1,run_equalIn_string w n t _ _ hu];simp[D.cells,hR,eqD,ByteArray.toList_eq]
  .rename_i fs hu;split at h
   .cases h
   .rename_i hst;have hag:cg P t=true:=by simp[cg,hu]
    rw[hag]at a1 a2;cases d<;>simp only[D.isAgg,iD]at a1;cases e<;>simp only[D.isAgg,iD]at a2;have hf:P.fieldsOf t=fs:=by simp[Program.fieldsOf,hu]
    cases r1 with
    |agg xs _ p1 p2 p3=>
     cases r2 with
     |agg ys _ q1 q2 q3=>
      rw[run_equalIn_struct w n t xs ys (by rw[hf];exact hu) (by simpa using hst),hf];have:=wY (ν:=ν) (x:=x) n depth (fun t ks hk=>r7 depth t ks hk n ae) xs ys _ _ (.agg xs _ p1 p2 p3) (.agg ys _ q1 q2 q3) w fs.toList 0 ks h aG aG (by simpa[D.cells]using f1) (by simpa[D.cells]using f2);simpa[D.cells]using this
  .rename_i len e' hu;split at h
   .rename_i l hl;split at h
    .rename_i hc;obtain⟨hc,hnz,hund⟩:=hc;simp only[aD]at h;subst h;have hag:cg P t=true:=by simp[cg,hu]
     rw[hag]at a1 a2;cases d<;>simp only[D.isAgg,iD]at a1;cases e<;>simp only[D.isAgg,iD]at a2;obtain⟨i,hi,_⟩:=o9 (P:=P) (t:=e') ae;cases r1 with
     |agg xs _ p1 p2 p3=>
      cases r2 with
      |agg ys _ q1 q2 q3=>
       rw[run_equalIn_array w n xs ys hu hi,List.range_eq_range'];have:=zU (ν:=ν) (x:=x) n e' l (r7 depth e' l hl n ae) hc hnz hund (fun e=>by rw[<-hc];exact CH hl e) xs ys _ _ (.agg xs _ p1 p2 p3) (.agg ys _ q1 q2 q3) w len 0 aG aG (by simpa[D.cells]using f1) (by simpa[D.cells]using f2);simpa[D.cells]using this
    .cases h
   .cases h
  .cases h
end
end
section
variable [cN]
section
variable {ν:List (Nat×Nat)} {x:X} {P:Program}
def qD {e:D}{k n o b at0:Nat}{ag:Bool}{ty:TypeId}{c:Nat->Value}(hk:e.cells.length=k)(hle:o+n<=k)
  (hc:∀j,j<k->x.w.cell? ⟨b,at0+j,none⟩=some (c j)/\(c j).oneCell'=true/\RD ν x (c j) (e.cells.getD j .any))
  (hn:n=P.cellsOf ty) (hn0:P.cellsOf ty≠0) (hu:(P.underlying ty).isNone=false) (hag:ag=cg P ty) (h1:ag=false->n=1):
  ∃v,(loadVar ty ⟨b,at0+o,none⟩).run P x.w=.ok v x.w/\RD ν x v (kK e k n o ag):=by
 have hcut:∃v,(loadVar ty ⟨b,at0+o,none⟩).run P x.w=.ok v x.w/\RD ν x v (cut e.cells o n ag)/\(ag=true->v=.agg ((List.range n).map fun j=>c (o+j)).toArray)/\(ag=false->v=c o):=by
  cases hb:ag
  .have hn1:=h1 hb;refine⟨c o, ?_,by simp only[cut,cond_false];exact(hc o ae).2.2,aG,fun _=>rfl⟩;rw[hb]at hag;unfold loadVar;rw[Sem.run_bind,vZ hu,<-hag];simp[Result.andThen,(hc o ae).1]
  .rw[hb]at hag;refine⟨.agg ((List.range n).map fun j=>c (o+j)).toArray, ?_, ?_,fun _=>rfl,aG⟩
   .unfold loadVar;rw[Sem.run_bind,vZ hu,<-hag];have:=run_loadCells (P:=P) x.w ⟨b,at0+o,none⟩ n (fun j=>c (o+j)) (fun j hj=>by rw[Addr.AW,Nat.add_assoc];exact(hc (o+j) ae).1);simp[Result.andThen,dF hn0,<-hn,this]
   .simp only[cut,cond_true];refine .agg _ _ dN (fun i hi=>?_) (fun i hi=>?_)
    .simp at hi;have:=(hc (o+i) ae).2.1;simpa[Array.getD,show i<n by omega]using this
    .simp at hi;rw[ec _ _ _ _ _ ae];have:=(hc (o+i) ae).2.2;simpa[Array.getD,show i<n by omega]using this
 obtain⟨v,r1,r2,r3,r4⟩:=hcut;refine⟨v,r1, ?_⟩;unfold kK;cases hb:(n==k)&&(e.isAgg==ag)
 .simpa using r2
 .simp only[aN,beq_iff_eq]at hb;obtain⟨hnk,hea⟩:=hb;simp only[cond_true];have ho:o=0:=ae;subst ho;cases hb:ag
  .rw[hb]at hea;have hv:=r4 hb;have hn1:=h1 hb;have hcell:=(hc 0 ae).2.2;rw[hv];cases e<;>simp only[D.cells,D.isAgg,b7,bE]at hk hea hcell<;>first|omega|exact absurd hea aT|exact hcell
  .rw[hb]at hea;cases e<;>simp only[D.isAgg,iD]at hea;rename_i ds;rw[r3 hb];simp only[D.cells]at hk hc;refine .agg _ _ dN (fun i hi=>?_) (fun i hi=>?_)
   .have:=(hc i ae).2.1;simpa[Array.getD,show i<n by omega]using this
   .have:=(hc i ae).2.2;simpa[Array.getD,show i<n by omega]using this
end
section
variable {x:X} {f:Nat->Option bm} {C:CC} {defs:List (Option Nat)} {J:Src->aX} {ev:Operand->Value} {Y:Ctx} {m:List (Nat×bm)} {L:Nat}
def Gy {t:TypeId}{z:List D}(h:sW C.P t=some (.agg z)):∃i cs,C.P.info? t=some i/\i.zero=some (.agg cs)/\RD C.ν x (.agg cs) (.agg z):=by
 unfold sW at h;cases hi:C.P.info? t with
 |none=>simp[hi]at h
 |some i=>
  cases hz:i.zero with
  |none=>simp[hi,hz]at h
  |some v=>
   simp only[hi,hz,Option.bind_some]at h;have hr:RD C.ν x v (.agg z):=na v _ h;cases v with
   |agg cs=>exact⟨i,cs,rfl,hz,hr⟩
   |_=>cases hr
def qg {t:TypeId}{z:D}(h:sW C.P t=some z):∃i v,C.P.info? t=some i/\i.zero=some v/\RD C.ν x v z:=by
 unfold sW at h;cases hi:C.P.info? t with
 |none=>simp[hi]at h
 |some i=>
  cases hz:i.zero with
  |none=>simp[hi,hz]at h
  |some v=>
   grind [na]
def AL {P:Program}(w:World):∀(fs:List Field),(∀f∈fs,(P.info? f.type).isSome=true)->
  (fs.mapM (fun f=>(do pure (f.offset,<-sizeOf f.type):Sem (Nat×Nat)))).run P w=.ok (fs.map fun f=>(f.offset,P.cellsOf f.type)) w
 |[],_=>aG
 |f::r,h=>by
  have hf:=h f aG;cases hi:P.info? f.type with
  |none=>simp[hi]at hf
  |some i=>
   have hr:=AL w r (fun g hg=>h g (by simp[hg]));simp only[List.mapM_cons,Sem.run_bind,run_sizeOf w hi,Result.andThen_ok,Sem.run_pure,hr];simp
def NL {op:BinOp}{d e:D}(h:AX op d e):(∃k a k' b,d=.int k a/\e=.int k' b)\/(∃a b,d=.str a/\e=.str b):=by
 cases d<;>cases e<;>first|exact .inl ⟨_,_,_,_,rfl,rfl⟩|exact .inr ⟨_,_,rfl,rfl⟩|(simp only[AX]at h)
def r9 {op:BinOp}{t u:TypeId}{p q:Operand}{o:Oper}{v:Value}{w:World}{P:Program}(ho:o.op=.binOp op t p q u)(hg:(eqGuard op t p q (ev p) (ev q)).run P w=.ok () w)
  (hr:(binOp op t (ev p) (ev q)).run P w=.ok v w):(execOp ev o).run P w=.ok (.value v) w:=by
 simp[execOp,ho,hg,hr]
def GP (op:BinOp)(hop:op=.eql\/op=.neq)(t:TypeId)(xs ys:Array Value)(b:Bool)(w:World)(P:Program)(h:(Op.equalIn 10000 t (.agg xs) (.agg ys)).run P w=.ok b w):
  (binOp op t (.agg xs) (.agg ys)).run P w=.ok (.bool (if op=.neq then !b else b)) w:=by
 rcases hop with rfl|rfl
 .rw[run_eql_struct,h];rfl
 .rw[run_neq_struct,h];rfl
def akv {a:Option Addr}{len cap k:Nat}{es:List D}{l h:Nat}(hv:RD C.ν x (.slice a len cap) (.sl k es))(h1:l<=h)(h2:h<=es.length):
  RD C.ν x (.slice (if cap=l then a else a.map (·.add (l*k))) (h-l) (cap-l)) (.sl k ((es.take h).drop l)):=by
 cases hv with
 |sl _ b off _ _ _ _ c hlen ha hcap hm hk hn hc hone hh=>
  have hl':((es.take h).drop l).length=h-l:=dN;have hg:∀i,i<h-l->((es.take h).drop l).getD i .any=es.getD (l+i) .any:=by
   intro i hi;simp[List.getD,List.getElem?_drop,List.getElem?_take,show l+i<h by omega]
  refine .sl _ b (off+l*k) (h-l) (cap-l) k _ (fun i j=>c (l+i) j) hl'.symm ?_ ae ae (fun i hi=>?_) (fun i hi=>?_) (fun i j hi hj=>?_) (fun i j hi hj=>hone _ _ ae hj) (fun i j hi hj=>?_)
  .grind [Addr.AW]
  .rw[hg i hi];exact hk _ ae
  .rw[hg i hi];exact hn _ ae
  .have:=hc (l+i) j ae hj;rw[<-this];congr 2;rw[Nat.add_mul];omega
  .rw[hg i hi];exact hh _ _ ae hj
def akt {a:Option Addr}{len cap k:Nat}{es:List D}{h m:Nat}(hv:RD C.ν x (.slice a len cap) (.sl k es))(h1:h<=m)(h2:m<=es.length):
  RD C.ν x (.slice (if m=0 then a else a.map (·.add (0*k))) h m) (.sl k (es.take h)):=by
 cases hv with
 |sl _ b off _ _ _ _ c hlen ha hcap hm hk hn hc hone hh=>
  have hl':(es.take h).length=h:=dN;have hg:∀i,i<h->(es.take h).getD i .any=es.getD i .any:=by
   intro i hi;simp[List.getD,List.getElem?_take,hi]
  refine .sl _ b off h m k _ (fun i j=>c i j) hl'.symm ?_ h1 ae (fun i hi=>?_) (fun i hi=>?_) (fun i j hi hj=>hc i j ae hj) (fun i j hi hj=>hone _ _ ae hj) (fun i j hi hj=>?_)
  .by_cases he:h=0
   .left;exact lI ae
   .right;rw[ai ae];rcases ha with rfl|⟨rfl,hI⟩
    .simp at h2;omega
    .exact⟨by simp[Addr.add],hI⟩
  .rw[hg i hi];exact hk _ ae
  .rw[hg i hi];exact hn _ ae
  .rw[hg i hi];exact hh _ _ ae hj
def adf {v:Value}{L' k i n:Nat}(hv:RD C.ν x v (.own L' k i n)):
  ∃a cap,v=.slice a n cap/\n<=cap/\∀h m,h<=m->m<=n->RD C.ν x (.slice (if m=0 then a else a.map (·.add (0*k))) h m) (.own L' k i h):=by
 cases hv with
 |own _ _ _ _ b base tot cap a hβ ha hcap hm ht=>
  refine⟨some a,cap,rfl,hcap,fun h m h1 h2=>?_⟩;have e:(if m=0 then some a else(some a).map (·.add (0*k)))=some a:=by simp[Addr.add]
  rw[e];exact .own L' k i h b base tot m a hβ (fun hp=>ha ae) h1 ae ae
 |own0 _ _ _ a=>
  refine⟨a,0,rfl,aP _,fun h m h1 h2=>?_⟩;obtain rfl:m=0:=ae;obtain rfl:h=0:=ae;exact .own0 _ _ _ _
def vB {vh vm:Value}{kh km:IntKind}{h m:Int}{len cap:Nat}(e1:vh=.int kh h)(e2:vm=.int km m)(h0:0<=h)(h1:h<=m)(h2:m<=cap):
  (Instr.sliceBounds true len cap none (some vh) (some vm)).run C.P x.w=.ok (0,h.toNat,m.toNat) x.w:=by
 subst e1;subst e2;simp[Instr.sliceBounds,run_sliceBound x.w km m cap .slice3Acap ae h2,run_sliceBound x.w kh h m.toNat .slice3B h0 ae]
def adg {v:Value}{L' k i n:Nat}(hv:RD C.ν x v (.own L' k i n)):
  ∃a cap,v=.slice a n cap/\n<=cap/\∀l h,l<=h->h<=n->RD C.ν x (.slice (if cap=l then a else a.map (·.add (l*k))) (h-l) (cap-l)) (.own L' k (i+l) (h-l)):=by
 cases hv with
 |own _ _ _ _ b base tot cap a hβ ha hcap hm ht=>
  refine⟨some a,cap,rfl,hcap,fun l h h1 h2=>?_⟩;have e:(if cap=l then some a else(some a).map (·.add (l*k)))=some (if cap=l then a else a.add (l*k)):=by split<;>rfl
  rw[e];refine .own L' k (i+l) (h-l) b base tot (cap-l) _ hβ (fun hp=>?_) ae ae ae
  grind [Addr.AW]
 |own0 _ _ _ a=>
  refine⟨a,0,rfl,aP _,fun l h h1 h2=>?_⟩;obtain rfl:h=0:=ae;obtain rfl:l=0:=ae;exact .own0 _ _ _ _
def E7 (s:List UInt8)(l h:Nat):(⟨⟨s⟩⟩:ByteArray).extract l h=⟨⟨(s.take h).drop l⟩⟩:=by
 rw[Lib.extract_eq,List.drop_take]
def C8 {lo:Option Operand}(h:C.opt defs lo=some none):lo=none:=by
 cases lo with
 |none=>rfl
 |some o=>simp[CC.opt]at h
def C9 {lo:Option Operand}{s:Src}(h:C.opt defs lo=some (some s)):∃o,lo=some o/\C.src defs o=some s:=by
 cases lo with
 |none=>simp[CC.opt]at h
 |some o=>simp only[CC.opt,dd,aD]at h;obtain⟨a,h1,rfl⟩:=h;exact⟨o,rfl,h1⟩
def qt {os':List Operand}(hρ:vu C defs J ev x os'){lo hi:Option Operand}(hml:∀o,lo=some o->o∈os')(hmh:∀o,hi=some o->o∈os'){l h:Option Src}(hl:C.opt defs lo=some l)(hh:C.opt defs hi=some h)(k1:LG J l)(k2:LG J h)(Fx:Bool)(len cap:Nat)
  (hcap:Fx=false->len=cap) (hle:len<=cap) (b2:m9 (dO J h) len) (b1:m9 (dO J l) (dZ (dO J h) len)):
  (Instr.sliceBounds Fx len cap (lo.map ev) (hi.map ev) none).run C.P x.w=.ok (dZ (dO J l) 0,dZ (dO J h) len,cap) x.w/\dZ (dO J l) 0<=dZ (dO J h) len/\dZ (dO J h) len<=len:=by
 have hh':∃code,(match hi.map ev with|some v=>Instr.sliceBound v cap code|none=>pure len:Sem Nat).run C.P x.w=.ok (dZ (dO J h) len) x.w/\dZ (dO J h) len<=len/\code=(if Fx then BoundsCode.sliceAcap else .sliceAlen):=by
  cases h with
  |none=>
   obtain rfl:=C8 hh;exact⟨_,by simp[dO,dZ],by simp[dO,dZ],rfl⟩
  |some s=>
   obtain⟨o,rfl,h1⟩:=C9 hh;have hv:=hρ o (hmh o rfl) s  h1 k2;simp only[dO]at b2;cases hd:(J s).d<;>simp only[hd,m9]at b2;rename_i kk n;rw[hd]at hv;refine⟨_, ?_, ?_,rfl⟩
   .simp only[Option.map_some,dO,dZ,hd];rw[hv.dt,run_sliceBound x.w kk n cap _ b2.1 ae]
   .simp only[dO,dZ,hd];omega
 obtain⟨code,g1,g2,rfl⟩:=hh';generalize dZ (dO J h) len=B at*
 have hl':(match lo.map ev with|some v=>Instr.sliceBound v B .sliceB|none=>pure 0:Sem Nat).run C.P x.w=.ok (dZ (dO J l) 0) x.w/\dZ (dO J l) 0<=B:=by
  cases l with
  |none=>
   obtain rfl:=C8 hl;exact⟨by simp[dO,dZ],by simp[dO,dZ]⟩
  |some s=>
   obtain⟨o,rfl,h1⟩:=C9 hl;have hv:=hρ o (hml o rfl) s  h1 k1;simp only[dO]at b1;cases hd:(J s).d<;>simp only[hd,m9]at b1;rename_i kk n;rw[hd]at hv;refine⟨?_, ?_⟩
   .simp only[Option.map_some,dO,dZ,hd];rw[hv.dt,run_sliceBound x.w kk n _ _ b1.1 b1.2]
   .simp only[dO,dZ,hd];omega
 obtain⟨f1,f2⟩:=hl';refine⟨?_,f2,g2⟩;cases lo with
 |none=>
  simp only[Option.map_none,Sem.run_pure,Result.ok.injEq,dj]at f1;cases hi with
  |none=>
   simp only[Option.map_none,Sem.run_pure,Result.ok.injEq,dj]at g1;rw[<-f1,<-g1];simp[Instr.sliceBounds]
  |some v=>
   simp only[Option.map_some]at g1;rw[<-f1];simp[Instr.sliceBounds,g1]
 |some u=>
  have f1':(Instr.sliceBound (ev u) B .sliceB).run C.P x.w=.ok (dZ (dO J l) 0) x.w:=f1;clear f1;generalize dZ (dO J l) 0=A at*
  cases hi with
  |none=>
   simp only[Option.map_none,Sem.run_pure,Result.ok.injEq,dj]at g1;subst g1;simp only[Instr.sliceBounds,Option.map_some,Option.map_none,Sem.run_bind,Sem.run_pure,Result.andThen_ok,Option.isSome_none,iD,aU,f1']
  |some v=>
   have g1':(Instr.sliceBound (ev v) cap (if Fx then BoundsCode.sliceAcap else .sliceAlen)).run C.P x.w=.ok B x.w:=g1;simp only[Instr.sliceBounds,Option.map_some,Option.map_none,Sem.run_bind,Sem.run_pure,Result.andThen_ok,Option.isSome_none,iD,aU,g1',f1']
def Ha {P:Program}{t:TypeId}{ks:List CK}{d:Nat}(ha:cg P t=false)(h1:∀k,P.underlying t=some (.int k)->False)(h2:P.underlying t=some .string->False)(h:gW P (d+1) t=some ks):P.underlying t=some .bool:=by
 grind [cg,gW]
def A5 {P:Program}{t:TypeId}{d:Nat}(h:P.underlying t=some .bool):gW P (d+1) t=some [.b]:=by
 unfold gW;simp[h]
def Nw (ν:List (Nat×Nat))(x:X)(d:D)(r:Result Next):Prop:=∃v,(r=.ok (.value v) x.w\/r=.ok .skip x.w/\v=undef)/\RD ν x v d
def gN {ν:List (Nat×Nat)}{d:D}{v:Value}{r:Result Next}(hr:r=.ok (.value v) x.w)(hd:RD ν x v d):Nw ν x d r:=⟨v,.inl hr,hd⟩
def Nw.did {ν:List (Nat×Nat)}{d:D}{r:Result Next}(h:Nw ν x d r)(hs:fm ν x f):Br ν x f L d r:=by
 obtain⟨v,h1,h2⟩:=h;exact⟨v,x,h1,.refl x,h2,hs,fun _ _=>rfl⟩
def XW {o:Oper}{i:ax}(hgz:∀g,C.bP.contains (500000000+g)=true/\g<400000000->cN.gz g)(hcst:∀d,J (.c d)=⟨true,d⟩)(hsm:∀fid n,dY C.ν fid=some n->n<1000000)(hc:C.op defs o=some i)(hp:i.pure=true)(hρ:vu C defs J ev x o.op.operands.toList)(hob:i.ey Y J m)(hs:fm C.ν x f)(hgl:∀g,ev (.global g)=.pointer (some ⟨g,0,none⟩)):
  Nw C.ν x (i.val Y J m L) ((execOp ev o).run C.P x.w):=by
 cases ho:o.op with
 |move p=>
  simp only[CC.op,ho,dd]at hc;obtain⟨s,h1,rfl⟩:=hc;exact gN (by simp[execOp,ho]) (hρ p dw s h1 hob)
 |assign p=>
  simp only[CC.op,ho,dd]at hc;obtain⟨s,h1,rfl⟩:=hc;exact gN (by simp[execOp,ho]) (hρ p dw s h1 hob)
 |pick c a b=>
  simp only[CC.op,ho]at hc;split at hc
  .rename_i c' a' b' h1 h2 h3;simp only[aD]at hc;subst hc;obtain⟨k1,k2⟩:=hob;have hcv:=hρ c dw c' h1 k1;cases hd:(J c').d<;>simp only[hd]at k2;rename_i t;rw[hd]at hcv;simp only[ax.val,hd];refine gN ?_ (RD.pick (fun ht=>hρ a dw a' h2 (k2.1 ht)) (fun ht=>hρ b dw b' h3 (k2.2 ht)));simp[execOp,ho,hcv.jH,asBool]
  .cases hc
 |build t ps=>
  simp only[CC.op,ho]at hc;split at hc
  .rename_i z fs hz hu;split at hc;rotate_left
   .cases hc
   rename_i hplaces;simp only[dd]at hc;obtain⟨ss,h1,rfl⟩:=hc;obtain⟨ti,cs,hi,hzv,hr⟩:=Gy (x:=x) hz;have hsz:cs.size=z.length:=by cases hr with|agg _ _ hl _ _=>exact hl
   obtain⟨cs',g1,g2⟩:=sB hρ _ z.length ps.toList ss (fun p hp=>J1) h1 hob cs z hsz hr;refine gN ?_ g2;have hpl:=AL (P:=C.P) x.w fs.toList (fun f hf=>(List.all_eq_true.1 hplaces) f hf);have hpl':(fs.mapM (fun f:Field=>(do pure (f.offset,<-sizeOf f.type):Sem (Nat×Nat)))).run C.P x.w=.ok (fs.map fun f:Field=>(f.offset,C.P.cellsOf f.type)) x.w:=by
    rw[Array.mapM_eq_mapM_toList,Sem.run_map,hpl];simp[Result.andThen,List.map_toArray];apply Array.ext';simp
   have hg:Instr.fill (fun i:Nat=>(fs.map fun f:Field=>(f.offset,C.P.cellsOf f.type))[i]?) cs (ps.map fun(i,o)=>(i,ev o)).toList=some cs':=by
    have e:(fun i:Nat=>(fs.map fun f:Field=>(f.offset,C.P.cellsOf f.type))[i]?)=(fun i=>(fs[i]?).map fun f:Field=>(f.offset,C.P.cellsOf f.type)):=by
     funext q;simp
    rw[e,Array.toList_map];exact g1
   simp only[execOp,ho,Instr.build,Sem.run_bind,zeroValue,run_typeInfo x.w hi,Result.andThen_ok,hzv,Sem.run_pure,run_underlying hu,hpl',Value.cells,hg]
  .rename_i z n e hz hu;split at hc
   .cases hc
   rename_i hce;simp only[dd]at hc;obtain⟨ss,h1,rfl⟩:=hc;obtain⟨ti,cs,hi,hzv,hr⟩:=Gy (x:=x) hz;have hsz:cs.size=z.length:=by cases hr with|agg _ _ hl _ _=>exact hl
   obtain⟨cs',g1,g2⟩:=sB hρ _ z.length ps.toList ss (fun p hp=>J1) h1 hob cs z hsz hr;refine gN ?_ g2;have hg:Instr.fill (fun i=>some (i*C.P.cellsOf e,C.P.cellsOf e)) cs (ps.map fun(i,o)=>(i,ev o)).toList=some cs':=by
    rw[Array.toList_map];exact g1
   simp only[execOp,ho,Instr.build,Sem.run_bind,zeroValue,run_typeInfo x.w hi,Result.andThen_ok,hzv,Sem.run_pure,run_underlying hu,dF hce,Value.cells,hg]
  .cases hc
 |nilCheck p=>
  simp only[CC.op,ho,dd]at hc;obtain⟨s,h1,rfl⟩:=hc;obtain⟨k1,k2⟩:=hob;have hv:=hρ p dw s h1 k1;refine gN ?_ hv;cases hd:(J s).d<;>simp only[hd]at k2<;>rw[hd]at hv<;>generalize he:ev p=vp at hv<;>cases hv<;>simp[execOp,ho,he]
 |binOp op t p q u=>
  simp only[CC.op,ho]at hc;split at hc
  .rename_i a b h1 h2;have hbin:∀(i':ax),i'=.bin op a b->i'.ey Y J m->Nw C.ν x (i'.val Y J m L) ((execOp ev o).run C.P x.w):=by
    rintro _ rfl ⟨k1,k2,k3⟩;have hv:=hρ p dw a h1 k1;have hw:=hρ q dw b h2 k2;rcases NL k3 with⟨kk,n,kk',n',e1,e2⟩|⟨s,s',e1,e2⟩
    .rw[e1]at hv k3;rw[e2]at hw k3;obtain⟨v,r1,r2⟩:=MJ (ν:=C.ν) (x:=x) (P:=C.P) (t:=t) x.w k3;refine gN (r9 ho (oI _ _ _ _ (by rw[hv.dt];exact⟨aG,aG⟩) _) (by rw[hv.dt,hw.dt];exact r1)) ?_;simp only[ax.val,e1,e2];exact r2
    .rw[e1]at hv k3;rw[e2]at hw k3;obtain⟨v,r1,r2⟩:=MK (ν:=C.ν) (x:=x) (P:=C.P) (t:=t) x.w k3;refine gN (r9 ho (oI _ _ _ _ (by rw[hv.jW.1];exact⟨aG,aG⟩) _) (by rw[hv.jW.1,hw.jW.1];exact r1)) ?_;simp only[ax.val,e1,e2];exact r2
   split at hc
   .simp only[aD]at hc;exact hc▸hbin _ rfl (hc▸hob)
   .simp only[aD]at hc;exact hc▸hbin _ rfl (hc▸hob)
   .rename_i hu1 hu2;split at hc
    .cases hc
    .rename_i hge;have hge':C.P.eqGuardType C.P.depth t=false:=by simpa using hge
     have heq:∀(neg:Bool) (ks:List CK),gW C.P 30 t=some ks->op=(if neg then .neq else .eql)->i=.eqA neg (cg C.P t) ks a b->Nw C.ν x (i.val Y J m L) ((execOp ev o).run C.P x.w):=by
      rintro neg ks hks hop rfl;obtain⟨k1,k2,a1,a2,f1,f2⟩:=hob;have hv:=hρ p dw a h1 k1;have hw:=hρ q dw b h2 k2;have hrun:=r7 (ν:=C.ν) (x:=x) (P:=C.P) 30 t ks hks 10000 ae (ev p) (ev q) _ _ x.w hv hw a1 a2 f1 f2;cases hag:cg C.P t
      .rw[hag]at a1 a2

       have hub:C.P.underlying t=some .bool:=Ha (d:=29) hag hu1 hu2 hks;rw[A5 (d:=29) hub,aD]at hks;subst hks;have g1:=lW f1 a1;have g2:=lW f2 a2;cases e1:(J a).d<;>simp only[e1,CK.fits]at g1;cases e2:(J b).d<;>simp only[e2,CK.fits]at g2;rename_i b1 b2;rw[e1]at hv;rw[e2]at hw;refine gN (v:=.bool (if neg then !(b1==b2)else b1==b2)) (r9 ho (oI _ _ _ _ (by rw[hv.jH];exact⟨aG,aG⟩) _) ?_) ?_
       .rw[hv.jH,hw.jH,hop];cases neg
        .simpa using run_eql_bool x.w t b1 b2 hub
        .simpa using run_neq_bool x.w t b1 b2 hub
       .simp only[ax.val,e1,e2,D.cells,hR,eqD,gQ];cases neg<;>exact .bool _
      .rw[hag]at a1 a2;cases e1:(J a).d<;>simp only[e1,D.isAgg,iD]at a1;cases e2:(J b).d<;>simp only[e2,D.isAgg,iD]at a2;rw[e1]at hv;rw[e2]at hw;rw[e1,e2]at hrun;generalize hep:ev p=vp at*
       generalize heq':ev q=vq at*
       cases hv with
       |agg xs _ p1 p2 p3=>
        cases hw with
        |agg ys _ q1 q2 q3=>
         refine gN (r9 (v:=.bool (if op=.neq then !(hR (D.agg _).cells (D.agg _).cells)else hR (D.agg _).cells (D.agg _).cells)) ho (by rw[hep,heq'];exact run_eqGuard_agg x.w _ _ _ _ _ _ hge') (by rw[hep,heq'];exact GP op (by cases neg<;>simp[hop]) t xs ys _ x.w C.P hrun)) ?_;simp only[ax.val,e1,e2];cases neg<;>simp only[hop,aZ,aU,iD,cond_true,cond_false,reduceCtorEq]<;>exact .bool _
     split at hc
     .rename_i ks hks;simp only[aD]at hc;exact heq false ks hks rfl hc.symm
     .rename_i ks hks;simp only[aD]at hc;exact heq true ks hks rfl hc.symm
     .split at hc
      .simp only[aD]at hc;subst hc;simp[ax.pure]at hp
      .cases hc
     .split at hc
      .simp only[aD]at hc;subst hc;simp[ax.pure]at hp
      .cases hc
     .cases hc
  .cases hc
 |store t p q=>simp only[CC.op,ho]at hc;(repeat' split at hc)<;>simp_all[ax.pure]<;>(subst hc;simp at hp)
 |unOp op t p=>
  simp only[CC.op,ho,dd]at hc;obtain⟨s,h1,rfl⟩:=hc;obtain⟨k1,k2⟩:=hob;have hv:=hρ p dw s h1 k1;cases op<;>cases hd:(J s).d<;>simp only[hd]at k2<;>rw[hd]at hv<;>simp only[ax.val,hd]
  .exact gN (by simp[execOp,ho,hv.dt,Op.unary,Op.intArith]) (.int _ _)
  .exact gN (by simp[execOp,ho,hv.jH,Op.unary]) (.bool _)
 |convert s d p=>
  simp only[CC.op,ho]at hc;split at hc
  .rename_i ks k a hu1 hu2 h1;simp only[aD]at hc;subst hc;obtain⟨k1,k2⟩:=hob;have hv:=hρ p dw a h1 k1;cases hd:(J a).d<;>simp only[hd]at k2;rw[hd]at hv;simp only[ax.val,hd];exact gN (by simp[execOp,ho,hv.dt,convert,run_underlying hu1,run_underlying hu2,Conv.intToInt]) (.int _ _)
  .split at hc
   .simp only[aD]at hc;subst hc;simp[ax.pure]at hp
   .cases hc
  .split at hc
   .simp only[aD]at hc;subst hc;simp[ax.pure]at hp
   .cases hc
  .cases hc
 |makeFunc fn first caps=>
  cases fn with
  |func fid=>
   simp only[CC.op,ho]at hc;split at hc
   .rename_i n l h1 h2;split at hc
    .rename_i hfe;simp only[aD]at hc;subst hc;obtain⟨e1,e2,e3⟩:=iC hρ caps.toList l (fun o' ho'=>by simp only[ho,Op.operands,Array.toList_append,List.mem_append];exact .inr ho') h2 hob;have hf0:first=#[]:=by simpa using hfe
     refine gN (v:=.func (.func fid) #[] (caps.map ev)) (by simp[execOp,ho,Instr.makeFunc,hf0]) ?_;refine .fn fid n _ _ h1 (by simp[e2]) (fun i hi=>?_);have:=e3 i hi;rw[<-bT,Array.toList_map];exact this
    .split at hc
     .rename_i hle;simp only[dd]at hc;obtain⟨l1,hl1,rfl⟩:=hc;obtain⟨e1,e2,e3⟩:=iC hρ first.toList l1 (fun o' ho'=>by simp only[ho,Op.operands,Array.toList_append,List.mem_append];exact .inl ho') hl1 hob
      obtain⟨_,q2,_⟩:=iC hρ caps.toList l (fun o' ho'=>by simp only[ho,Op.operands,Array.toList_append,List.mem_append];exact .inr ho') h2 (by rw[List.isEmpty_iff.1 hle];trivial);have hf0:caps=#[]:=by
       rw[List.isEmpty_iff.1 hle]at q2;exact Array.eq_empty_of_size_eq_zero (by simpa[iM]using q2.symm)
      refine gN (v:=.func (.func fid) (first.map ev) #[]) (by simp[execOp,ho,Instr.makeFunc,hf0]) ?_;refine .dZ fid n _ _ h1 (by simp[e2]) (fun i hi=>?_);have:=e3 i hi;rw[<-bT,Array.toList_map];exact this
     .cases hc
   .cases hc
  |_=>simp[CC.op,ho]at hc
 |lookup t p q ok=>
  cases ok with
  |true=>simp only[CC.op,ho]at hc;(repeat' split at hc)<;>simp_all[ax.pure]<;>(subst hc;simp_all[ax.pure])
  |false=>simp[CC.op,ho]at hc
 |slice t p lo hi mx=>
  simp only[CC.op,ho]at hc;split at hc
  .rename_i a l h hu h1 hl hh;simp only[aD]at hc;subst hc;obtain⟨k1,k2,k3,k4⟩:=hob;have hv:=hρ p dw a h1 k1;cases hd:(J a).d<;>simp only[hd]at k4;rename_i s;rw[hd]at hv;obtain⟨e1,e2⟩:=hv.jW;obtain⟨b1,b2,b3⟩:=qt hρ ta ta hl hh k2 k3 false s.length s.length (fun _=>rfl) (aP _) k4.1 k4.2;simp only[ax.val,hd];have hsz:(⟨⟨s⟩⟩:ByteArray).size=s.length:=rfl;refine gN (v:=.string ⟨⟨(s.take (dZ (dO J h) s.length)).drop (dZ (dO J l) 0)⟩⟩) ?_ (.str _ dN);simp[execOp,ho,e1,Instr.sliceAt,Instr.slice,run_underlying hu,hsz,b1,E7]
  .rename_i e a l h hu h1 hl hh;split at hc
   .cases hc
   rename_i hce;simp only[aD]at hc;subst hc;obtain⟨k1,k2,k3,k4⟩:=hob;have hv:=hρ p dw a h1 k1;cases hd:(J a).d<;>simp only[hd]at k4
   ·
    rw[hd]at hv;obtain⟨b1,b2,b3⟩:=qt hρ ta ta hl hh k2 k3 true 0 0 (fun e=>by simp at e) (aP _) k4.1 (by
     have:dZ (dO J h) 0=0:=by
      have:=k4.1;cases hdh:dO J h with
      |none=>rfl
      |some d=>rw[hdh]at this;cases d<;>simp_all[m9,dZ]
     rw[this];exact k4.2)
    simp only[ax.val,hd];have e0:ev p=.slice none 0 0:=by generalize ev p=vp at hv;cases hv;rfl
    refine gN (v:=.slice none 0 0) ?_ .aJ;have z1:dZ (dO J l) 0=0:=ae;have z2:dZ (dO J h) 0=0:=ae;rw[z1,z2]at b1;simp[execOp,ho,e0,Instr.sliceAt,Instr.slice,run_underlying hu,b1,dF hce]
   .rename_i k es;rw[hd]at hv;simp only[ax.val,hd];generalize hep:ev p=vp at hv;have hv2:=hv;cases hv with
    |sl aa b off len cap _ _ c hlen ha hcap hm hk hn hc' hone hh'=>
     subst hlen;obtain⟨b1,b2,b3⟩:=qt hρ ta ta hl hh k2 k3 true es.length cap (fun e=>by simp at e) hcap k4.2.1 k4.2.2;refine gN (v:=.slice (if cap=dZ (dO J l) 0 then aa else aa.map (·.add (dZ (dO J l) 0*C.P.cellsOf e))) (dZ (dO J h) es.length-dZ (dO J l) 0) (cap-dZ (dO J l) 0)) ?_ ?_
     .simp[execOp,ho,hep,Instr.sliceAt,Instr.slice,run_underlying hu,b1,dF hce]
     .rw[<-k4.1];exact akv hv2 b2 b3
   .rename_i L' k i n;rw[hd]at hv;simp only[ax.val,hd];obtain⟨k5,k6,k7⟩:=k4;obtain⟨aa,cap,he,hle0,hr⟩:=adg hv;obtain⟨b1,b2,b3⟩:=qt hρ ta ta hl hh k2 k3 true n cap (fun e=>by simp at e) hle0 k6 k7;refine gN ?_ (hr _ _ b2 b3);simp only[execOp,ho,he,Instr.sliceAt,Instr.slice,run_underlying hu,Sem.run_bind,Result.andThen_ok,Option.map_none,b1,dF hce,Sem.run_pure,k5]
  .rename_i e a h mo hu h1 hl hh;obtain rfl:=C8 hl;obtain⟨oh,rfl,hh1⟩:=C9 hh;split at hc;rotate_left
   .cases hc
   rename_i ms hms;split at hc
   .cases hc
   rename_i hce;simp only[aD]at hc;subst hc;obtain⟨k1,k2,k3,k4⟩:=hob;have hv:=hρ p dw a h1 k1;have hvh:=hρ oh rb h hh1 k2;have hvm:=hρ mo rb ms hms k3;cases hdh:(J h).d<;>simp only[hdh]at k4;cases hdm:(J ms).d<;>simp only[hdm]at k4;rename_i kh nh km nm;rw[hdh]at hvh;rw[hdm]at hvm;obtain⟨p1,p2,p3⟩:=k4;cases hd:(J a).d<;>simp only[hd]at p3
   ·
    rw[hd]at hv;simp only[ax.val,hd,hdh];have e0:ev p=.slice none 0 0:=by generalize ev p=vp at hv;cases hv;rfl
    have b1:=vB (C:=C) (x:=x) (len:=0) (cap:=0) hvh.dt hvm.dt p1 p2 ae;refine gN (v:=.slice none 0 0) ?_ .aJ;have z1:nh.toNat=0:=ae;have z2:nm.toNat=0:=ae;rw[z1,z2]at b1;simp[execOp,ho,e0,Instr.sliceAt,Instr.slice,run_underlying hu,b1,dF hce]
   .rename_i k es;rw[hd]at hv;simp only[ax.val,hd,hdh];generalize hep:ev p=vp at hv;have hv2:=hv;cases hv with
    |sl aa b off len cap _ _ c hlen ha hcap hm hk hn hc' hone hh'=>
     subst hlen;have b1:=vB (C:=C) (x:=x) (len:=es.length) (cap:=cap) hvh.dt hvm.dt p1 p2 ae;refine gN (v:=.slice (if nm.toNat=0 then aa else aa.map (·.add (0*C.P.cellsOf e))) nh.toNat nm.toNat) ?_ ?_
     .simp[execOp,ho,hep,Instr.sliceAt,Instr.slice,run_underlying hu,b1,dF hce]
     .rw[<-p3.1];exact akt hv2 ae ae
   .rename_i L' k i n;rw[hd]at hv;simp only[ax.val,hd,hdh];obtain⟨k5,k6⟩:=p3;obtain⟨aa,cap,he,hle0,hr⟩:=adf hv;have b1:=vB (C:=C) (x:=x) (len:=n) (cap:=cap) hvh.dt hvm.dt p1 p2 ae;refine gN ?_ (hr nh.toNat nm.toNat ae ae);simp only[execOp,ho,he,Instr.sliceAt,Instr.slice,run_underlying hu,Sem.run_bind,Result.andThen_ok,Option.map_none,Option.map_some,b1,dF hce,Sem.run_pure,k5,Nat.sub_zero]
  .cases hc
 |fieldAddr t p fi=>
  simp only[CC.op,ho]at hc;split at hc
  .rename_i fs a hu h1;split at hc
   .rename_i fl hfl;split at hc
    .cases hc
    rename_i hce;simp only[aD]at hc;subst hc;obtain⟨k1,k2⟩:=hob;have hv:=hρ p dw a h1 k1;have hrun:∀(b c:Nat),ev p=.pointer (some ⟨b,c,none⟩)->(execOp ev o).run C.P x.w=.ok (.value (.pointer (some ⟨b,c+fl.offset,none⟩))) x.w:=by
     intro b c he;simp[execOp,ho,he,Instr.fieldAt,run_underlying hu,hfl,Instr.sureAddr,fieldPlace,dF hce,hce,Addr.AW]
    cases hd:(J a).d<;>simp only[hd]at k2
    .rename_i k es i o';rw[hd]at hv;simp only[ax.val,hd];generalize hep:ev p=vp at hv;cases hv with
     |ref b off _ _ _ at_ _ c hI hat hk hn hc' h1' hh'=>
      exact gN (hrun _ _ hep) (.ref b off k i (o'+fl.offset) _ es c hI ae hk hn hc' h1' hh')
    .rename_i l k i o';rw[hd]at hv;simp only[ax.val,hd];generalize hep:ev p=vp at hv;cases hv with
     |ptr _ _ _ _ b base tot at_ hβ hat=>
      exact gN (hrun _ _ hep) (.ptr l k i (o'+fl.offset) b base tot _ hβ ae)
   .cases hc
  .cases hc
 |field t p fi=>
  simp only[CC.op,ho]at hc;split at hc
  .rename_i fs a hu h1;split at hc
   .rename_i fl hfl;split at hc
    .cases hc
    rename_i hce;simp only[aD]at hc;subst hc;obtain⟨k1,k2⟩:=hob;have hv:=hρ p dw a h1 k1;cases hd:(J a).d<;>simp only[hd]at k2;rename_i ds;rw[hd]at hv;generalize hep:ev p=vp at hv;have hv2:=hv;cases hv with
    |agg cs _ _ _ _=>
     obtain⟨v,r1,r2⟩:=p8 (P:=C.P) (t:=fl.type) (off:=fl.offset) (n:=C.P.cellsOf fl.type) (ag:=cg C.P fl.type) x.w hv2 (fun e=>hce (.inl e)) (by cases hn:(C.P.underlying fl.type).isNone with|false=>rfl|true=>exact absurd (.inr hn) hce) rfl rfl k2.1 k2.2;refine gN (v:=v) ?_ (by simp only[ax.val,hd,D.cells];exact r2);simp[execOp,ho,hep,Instr.field,run_underlying hu,hfl,asAgg,r1]
   .cases hc
  .cases hc
 |indexAddr t p q=>
  simp only[CC.op,ho]at hc;split at hc
  .rename_i e a b hu h1 h2;split at hc
   .cases hc
   rename_i hce;simp only[aD]at hc;subst hc;obtain⟨k1,k2,k3⟩:=hob;have hv:=hρ p dw a h1 k1;have hw:=hρ q dw b h2 k2;cases hd2:(J b).d<;>cases hd:(J a).d<;>simp only[hd,hd2]at k3
   .rename_i kk n k es;rw[hd]at hv;rw[hd2]at hw;obtain⟨k4,k5,k6⟩:=k3;simp only[ax.val,hd,hd2];generalize hep:ev p=vp at hv;cases hv with
    |sl aa b' off len cap _ _ c hlen ha hcap hm hk hn hc' hone hh'=>
     rcases ha with rfl|⟨rfl,hI⟩
     .simp at k6;omega
     .refine gN (v:=.pointer (some ⟨b',off+n.toNat*C.P.cellsOf e,none⟩)) ?_ ?_
      .simp[execOp,ho,hep,hw.dt,Instr.indexAt,asIntOf,run_underlying hu,hlen,k5,k6,dF hce,Addr.AW]
      .subst hlen;exact .ref b' off k n.toNat 0 _ es c hI (by rw[k4];omega) hk hn hc' hone hh'
   .rename_i kk n L' k i len;rw[hd]at hv;rw[hd2]at hw;obtain⟨k4,k5,k6⟩:=k3;simp only[ax.val,hd,hd2];generalize hep:ev p=vp at hv;cases hv with
    |own _ _ _ _ b' base tot cap aa hβ ha hcap hm ht=>
     have ha':=ha ae;subst ha';refine gN (v:=.pointer (some ⟨b',base+i*k+n.toNat*C.P.cellsOf e,none⟩)) ?_ ?_
     .simp[execOp,ho,hep,hw.dt,Instr.indexAt,asIntOf,run_underlying hu,k5,k6,dF hce,Addr.AW]
     .exact .ptr L' k (i+n.toNat) 0 b' base tot _ hβ (by rw[Nat.add_mul,k4];omega)
    |own0=>omega
  .rename_i len e a b hu h1 h2;split at hc
   .cases hc
   rename_i hce;simp only[aD]at hc;subst hc;obtain⟨k1,k2,k3⟩:=hob;have hv:=hρ p dw a h1 k1;have hw:=hρ q dw b h2 k2;have hrun:∀(b c:Nat) (kk:IntKind) (n:Int),ev p=.pointer (some ⟨b,c,none⟩)->ev q=.int kk n->0<=n->n<len->(execOp ev o).run C.P x.w=.ok (.value (.pointer (some ⟨b,c+n.toNat*C.P.cellsOf e,none⟩))) x.w:=by
    intro b c kk n he he' g1 g2;simp[execOp,ho,he,he',Instr.indexAt,asIntOf,run_underlying hu,Instr.sureAddr,g1,g2,dF hce,Addr.AW]
   cases hd2:(J b).d<;>cases hd:(J a).d<;>simp only[hd,hd2]at k3
   .rename_i kk n k es i o';rw[hd]at hv;rw[hd2]at hw;simp only[ax.val,hd,hd2];generalize hep:ev p=vp at hv;cases hv with
    |ref b' off _ _ _ at_ _ c hI hat hk hn hc' h1' hh'=>
     exact gN (hrun _ _ _ _ hep hw.dt k3.1 k3.2) (.ref b' off k i (o'+n.toNat*C.P.cellsOf e) _ es c hI ae hk hn hc' h1' hh')
   .rename_i kk n L' k i o';rw[hd]at hv;rw[hd2]at hw;simp only[ax.val,hd,hd2];generalize hep:ev p=vp at hv;cases hv with
    |ptr _ _ _ _ b' base tot at_ hβ hat=>
     exact gN (hrun _ _ _ _ hep hw.dt k3.1 k3.2) (.ptr L' k i (o'+n.toNat*C.P.cellsOf e) b' base tot _ hβ ae)
  .cases hc
 |index t p q=>
  simp only[CC.op,ho]at hc;split at hc
  .rename_i a b hu h1 h2;simp only[aD]at hc;subst hc;obtain⟨k1,k2,k3⟩:=hob;have hv:=hρ p dw a h1 k1;have hw:=hρ q dw b h2 k2;cases hd2:(J b).d<;>cases hd:(J a).d<;>simp only[hd,hd2]at k3;rename_i kk n s;rw[hd]at hv;rw[hd2]at hw;obtain⟨e1,e2⟩:=hv.jW;simp only[ax.val,hd,hd2];have hsz:(⟨⟨s⟩⟩:ByteArray).size=s.length:=rfl;have hlt:n.toNat<s.length:=ae;refine gN (v:=.int .u8 (s.getD n.toNat 0).toNat) ?_ (.int _ _);simp only[execOp,ho,e1,hw.dt,Sem.run_bind,run_index_string x.w t _ kk n hu,hsz];rw[dif_pos k3];simp only[Result.andThen_ok,Sem.run_pure];congr 4;show(((⟨s⟩:Array UInt8)[n.toNat]'hlt)).toNat=_;simp[List.getD,hlt]
  .rename_i len e a b hu h1 h2;split at hc
   .cases hc
   rename_i hce;simp only[aD]at hc;subst hc;obtain⟨k1,k2,k0,k3⟩:=hob;have hv:=hρ p dw a h1 k1;have hw:=hρ q dw b h2 k2;cases hd2:(J b).d<;>cases hd:(J a).d<;>simp only[hd,hd2]at k3;rename_i kk n ds;rw[hd]at hv;rw[hd2]at hw;generalize hep:ev p=vp at hv;have hv2:=hv;cases hv with
   |agg cs _ _ _ _=>
    have hb:n.toNat*C.P.cellsOf e+C.P.cellsOf e<=ds.length:=by
     rw[k3.2.2,<-Nat.succ_mul];exact fH _ ae
    obtain⟨v,r1,r2⟩:=p8 (P:=C.P) (t:=e) (off:=n.toNat*C.P.cellsOf e) (n:=C.P.cellsOf e) (ag:=cg C.P e) x.w hv2 (fun e=>hce (.inl e)) (by cases hn:(C.P.underlying e).isNone with|false=>rfl|true=>exact absurd (.inr hn) hce) rfl rfl hb k0;refine gN (v:=v) ?_ (by simp only[ax.val,hd,hd2,D.cells];exact r2);simp[execOp,ho,hep,hw.dt,Instr.index,asIntOf,run_underlying hu,k3.1,k3.2.1,dF (fun e=>hce (.inl e)),r1]
  .cases hc
 |extract p n=>
  simp only[CC.op,ho,dd]at hc;obtain⟨s,h1,rfl⟩:=hc;obtain⟨k1,k2⟩:=hob;have hv:=hρ p dw s h1 k1;cases hd:(J s).d<;>simp only[hd]at k2;rw[hd]at hv;generalize hep:ev p=vp at hv;cases hv with
  |tup cs _ hl hh=>
   have hlt:n<cs.size:=ae;refine gN (v:=cs.getD n undef) ?_ (by simp only[ax.val,hd];exact hh n k2);simp[execOp,ho,hep,Instr.extract,Array.getElem?_eq_getElem hlt,Array.getD,hlt]
 |call c=>
  obtain⟨callee,args,argTypes⟩:=c;cases callee with
  |builtin bu=>
   cases bu with
   |len=>
    simp only[CC.op,ho]at hc;split at hc
    .rename_i p t hargs htys;have hargs':args=#[p]:=by apply Array.ext';simpa using hargs
     have htys':argTypes=#[t]:=by apply Array.ext';simpa using htys
     subst hargs';subst htys';split at hc
     .rename_i a h1 hu;simp only[aD]at hc;subst hc;obtain⟨k1,k2⟩:=hob;have hv:=hρ p dw a h1 k1;have hrun:∀s,ev p=.string s->(execOp ev o).run C.P x.w=.ok (.value (.int .i64 s.size)) x.w:=by
       intro s he;simp[execOp,ho,resolve,invoke,builtin,Builtin.len_,he,run_underlying hu,goInt]
      cases hd:(J a).d<;>simp only[hd]at k2
      .rw[hd]at hv;simp only[ax.val,hd];exact gN (hrun _ hv.jW.1) (.int _ _)
     .rename_i a e h1 hu;simp only[aD]at hc;subst hc;obtain⟨k1,k2⟩:=hob;have hv:=hρ p dw a h1 k1;have hrun:∀b n cc,ev p=.slice b n cc->(execOp ev o).run C.P x.w=.ok (.value (.int .i64 n)) x.w:=by
       intro b n cc he;simp[execOp,ho,resolve,invoke,builtin,Builtin.len_,he,run_underlying hu,goInt]
      cases hd:(J a).d<;>simp only[hd]at k2
      .rw[hd]at hv;simp only[ax.val,hd];generalize hep:ev p=vp at hv;cases hv;exact gN (hrun _ _ _ hep) (.int _ _)
      .rw[hd]at hv;simp only[ax.val,hd];generalize hep:ev p=vp at hv;cases hv with
       |sl aa b off len cap _ _ cf hlen ha hcap hm hk hn hc' hone hh'=>
        subst hlen;exact gN (hrun _ _ _ hep) (.int _ _)
      .rw[hd]at hv;simp only[ax.val,hd];generalize hep:ev p=vp at hv;cases hv with
       |own _ _ _ _ b base tot cap aa hβ ha hcap hm ht=>
        exact gN (hrun _ _ _ hep) (.int _ _)
       |own0=>exact gN (hrun _ _ _ hep) (.int _ _)
     .cases hc
    .cases hc
   |min=>
    simp only[CC.op,ho]at hc;split at hc
    .rename_i p q hargs;have hargs':args=#[p,q]:=by apply Array.ext';simpa using hargs
     subst hargs';split at hc
     .rename_i a b h1 h2;simp only[aD]at hc;subst hc;obtain⟨k1,k2,k3⟩:=hob;have hv:=hρ p dw a h1 k1;have hw:=hρ q dw b h2 k2;cases hd:(J a).d<;>cases he:(J b).d<;>simp only[hd,he]at k3;rw[hd]at hv;rw[he]at hw;simp only[ax.val,hd,he];refine gN ?_ (.int _ _);simp[execOp,ho,resolve,invoke,builtin,Builtin.min_,Builtin.min2,hv.dt,hw.dt]
     .cases hc
    .cases hc
   |max=>
    simp only[CC.op,ho]at hc;split at hc
    .rename_i p q hargs;have hargs':args=#[p,q]:=by apply Array.ext';simpa using hargs
     subst hargs';split at hc
     .rename_i a b h1 h2;simp only[aD]at hc;subst hc;obtain⟨k1,k2,k3⟩:=hob;have hv:=hρ p dw a h1 k1;have hw:=hρ q dw b h2 k2;cases hd:(J a).d<;>cases he:(J b).d<;>simp only[hd,he]at k3;rw[hd]at hv;rw[he]at hw;simp only[ax.val,hd,he];refine gN ?_ (.int _ _);simp[execOp,ho,resolve,invoke,builtin,Builtin.max_,Builtin.max2,hv.dt,hw.dt]
     .cases hc
    .cases hc
   |append=>simp only[CC.op,ho]at hc;(repeat' split at hc)<;>simp_all[ax.pure]<;>(subst hc;simp_all[ax.pure])
   |_=>simp[CC.op,ho]at hc
  |value f=>
   cases f with
   |func fid=>simp only[CC.op,ho]at hc;(repeat' split at hc)<;>simp_all[ax.pure]<;>(subst hc;simp_all[ax.pure])
   |tmp t=>simp only[CC.op,ho]at hc;(repeat' split at hc)<;>simp_all[ax.pure]<;>(subst hc;simp_all[ax.pure])
   |_=>simp[CC.op,ho]at hc
  |invoke r n=>simp[CC.op,ho]at hc
 |alloc t=>simp only[CC.op,ho]at hc;(repeat' split at hc)<;>simp_all[ax.pure]<;>(subst hc;simp_all[ax.pure])
 |box t p=>simp only[CC.op,ho]at hc;(repeat' split at hc)<;>simp_all[ax.pure]<;>(subst hc;simp_all[ax.pure])
 |buildSlice t n ps=>simp only[CC.op,ho]at hc;(repeat' split at hc)<;>simp_all[ax.pure]<;>(subst hc;simp_all[ax.pure])
 |load t p=>
  simp only[CC.op,ho]at hc;split at hc
  .rename_i d hg;obtain rfl:=aW hc;cases p with
   |global g=>
    simp only[CC.WL]at hg;split at hg
    .rename_i hh;obtain rfl:=aW hg;obtain⟨h1,h2,h3,h4⟩:=hh;have hcell:=cN.gzr x g hs.gd (hgz g h1);obtain⟨v,r1,r2⟩:=qD (ν:=C.ν) (x:=x) (P:=C.P) (e:=zVD) (k:=5) (n:=5) (o:=0) (b:=g) (at0:=0) (ag:=true) (ty:=t) (c:=zVv) rfl ae
      (fun j hj=>⟨by simpa using hcell j hj,by unfold zVv;split<;>rfl,by
        unfold zVv zVD
        match j,hj with
        |0,_=>exact .int _ _
        |1,_=>exact .int _ _
        |2,_=>exact .int _ _
        |3,_=>exact .str [] aG
        |4,_=>exact .str [] aG⟩) h2.symm ae h4 h3.symm (fun h=>ca)
     refine gN (v:=v) ?_ (by simp only[ax.val,hcst];exact r2);have hev:ev (.global g)=.pointer (some ⟨g,0,none⟩):=hgl g;simp[execOp,ho,hev,Instr.loadAt,Instr.sureAddr,r1]
    .cases hg
   |_=>simp[CC.WL]at hg
  ·(repeat' split at hc)<;>simp_all[ax.pure]<;>(subst hc;simp_all[ax.pure])
 |makeSlice t a b=>simp only[CC.op,ho]at hc;(repeat' split at hc)<;>simp_all[ax.pure]<;>(subst hc;simp_all[ax.pure])
 |range t p=>simp only[CC.op,ho]at hc;(repeat' split at hc)<;>simp_all[ax.pure]<;>(subst hc;simp_all[ax.pure])
 |next it b=>
  cases b
  .simp[CC.op,ho]at hc
  .simp only[CC.op,ho,dd]at hc;obtain⟨s,h1,rfl⟩:=hc;simp[ax.pure]at hp
 |makeMap t r=>cases r<;>simp only[CC.op,ho]at hc<;>(try cases hc)<;>(repeat' split at hc)<;>simp_all[ax.pure]<;>(subst hc;simp_all[ax.pure])
 |mapUpdate t a b c=>simp only[CC.op,ho]at hc;(repeat' split at hc)<;>simp_all[ax.pure]<;>(subst hc;simp_all[ax.pure])
 |_=>simp[CC.op,ho]at hc
def ada {o:Oper}{i:ax}(hgz:∀g,C.bP.contains (500000000+g)=true/\g<400000000->cN.gz g)(hcst:∀d,J (.c d)=⟨true,d⟩)(hsm:∀fid n,dY C.ν fid=some n->n<1000000)(hc:C.op defs o=some i)(hp:i.pure=true)(hρ:vu C defs J ev x o.op.operands.toList)(hob:i.ey Y J m)(hs:fm C.ν x f)(hgl:∀g,ev (.global g)=.pointer (some ⟨g,0,none⟩)):
  Br C.ν x f L (i.val Y J m L) ((execOp ev o).run C.P x.w):=(XW hgz hcst hsm hc hp hρ hob hs hgl).did hs
end
end
abbrev aE (Y:Ctx)(n:Nat)(ds:List D)(d:D):Prop:=Y.pre n ds/\Y.val n ds=d
section
variable [cN]
def xk {α:Type}(l:List α)(j:Nat)(d:α)(h:j<l.length):l.getD j d=l[j]:=by simp[List.getD,h]
def X5 (cs new:List D)(o:Nat)(h:o+new.length<=cs.length):(over cs o new).length=cs.length:=by
 grind [over]
def TZ (cs new:List D)(o:Nat)(h:o+new.length<=cs.length)(j:Nat)(d:D):(over cs o new).getD j d=if o<=j/\j<o+new.length then new.getD (j-o) d else cs.getD j d:=by
 grind [over]
theorem bJ (m:List (Nat×bm))(L:Nat)(b:bm)(l:Nat):look (cL m L b) l=if l=L then some b else look m l:=by
 induction m with
 |nil=>by_cases h:l=L<;>simp[cL,look,h,eq_comm]<;>omega
 |cons p r ih=>
  grind [cL,look]
theorem eY (m:List (Nat×bm))(k l:Nat):look (cQ m k) l=if l=k then none else look m l:=by
 induction m with
 |nil=>simp[cQ,look]
 |cons p r ih=>
  grind [cQ,look]
def iY (f:Nat->Option bm)(ws:List Nat)(m':List (Nat×bm)):Nat->Option bm:=fun l=>if l∈ws then look m' l else f l
section
variable {ν:List (Nat×Nat)} {x:X} {P:Program}
def lP (b:Nat):∀(vs:List Value) (o:Nat) (w:World) (c:Array Value) (T:TypeId) (fr:Nat×Nat),w.heap[b]? =some (.cells c T fr)->o+vs.length<=c.size->
  ∃c',(w.setCells b o vs).heap[b]? =some (.cells c' T fr)/\c'.size=c.size/\∀q,c'.getD q undef=if o<=q/\q<o+vs.length then vs.getD (q-o) undef else c.getD q undef
 |[],o,w,c,T,fr,h,_=>⟨c,by simpa[World.setCells]using h,rfl,fun q=>by rw[ai (fun e=>by have:=e.1;have:=e.2;simp at this;omega)]⟩
 |v::r,o,w,c,T,fr,h,hl=>by
  simp only[bE]at hl;have h1:(w.setCell ⟨b,o,none⟩ v).heap[b]? =some (.cells (c.setIfInBounds o v) T fr):=by
   simp[World.setCell,Array.getElem?_modify,h]
  obtain⟨c',g1,g2,g3⟩:=lP b r (o+1) _ _ T fr h1 dN;refine⟨c',by simpa[World.setCells]using g1,by simpa using g2,fun q=>?_⟩;rw[g3 q];simp only[bE];by_cases q1:o+1<=q/\q<o+1+r.length
  .rw[ak q1,ak ae,show q-o=(q-(o+1))+1 by omega];simp
  .rw[ai q1];by_cases q2:q=o
   .subst q2;rw[ak ae];simp[Array.getD,show q<c.size by omega]
   .rw[ai ae];rw[<-bT,<-bT];simp[List.getD,List.getElem?_set,show ¬o=q by omega]
def kT (b:Nat):∀(vs:List Value) (o:Nat) (w:World) (b':Nat),b'≠b->(w.setCells b o vs).heap[b']? =w.heap[b']?
 |[],o,w,b',_=>rfl
 |v::r,o,w,b',h=>by
  rw[show w.setCells b o (v::r)=(w.setCell ⟨b,o,none⟩ v).setCells b (o+1) r from rfl,kT b r (o+1) _ b' h];simp[World.setCell,Array.getElem?_modify,show b≠b' by omega]
def kS (b:Nat):∀(vs:List Value) (o:Nat) (w:World),(w.setCells b o vs).os=w.os/\(w.setCells b o vs).tape=w.tape/\(w.setCells b o vs).output=w.output/\(w.setCells b o vs).heap.size=w.heap.size
 |[],o,w=>⟨rfl,rfl,rfl,rfl⟩
 |v::r,o,w=>by
  have:=kS b r (o+1) (w.setCell ⟨b,o,none⟩ v);exact⟨this.1,this.2.1,this.2.2.1,by rw[show w.setCells b o (v::r)=(w.setCell ⟨b,o,none⟩ v).setCells b (o+1) r from rfl,this.2.2.2];simp⟩
def cell_of_heap {w:World}{b o:Nat}{c:Array Value}{T:TypeId}{fr:Nat×Nat}(h:w.heap[b]? =some (.cells c T fr))(ho:o<c.size):w.cell? ⟨b,o,none⟩=some (c.getD o undef):=by
 rw[cell_of_row w b o c T fr h];simp[Array.getD,ho]
def vw {f:Nat->Option bm}{m:List (Nat×bm)}{l k n:Nat}(hs:fm ν x f)(hf:f l=look m l)(hb:dW m l k n):
  f l=some (.buf k (aH m l))/\n<=(aH m l).length/\look m l=some (.buf k (aH m l)):=by
 grind [dW,aH,look]
theorem kJ {i k tot j:Nat}(hi:i<tot)(hj:j<k):i*k+j<tot*k:=by
 have:(i+1)*k<=tot*k:=fH _ hi;rw[Nat.succ_mul]at this;omega
def EC (f:Nat->Option bm)(m:List (Nat×bm)):Option (List Nat)->Prop
 |none=>∀l,look m l≠none->f l=look m l
 |some ls=>∀l,l∈ls->f l=look m l
def oH {f f':Nat->Option bm}{L tot:Nat}{w':World}{blk:bm}{v:Value}{d:D}{r:Result Next}(hs:fm ν x f)(hL:x.β L=none)(hw:iw x.w w')(hnw:x.w.heap.size<w'.heap.size)
  (hb:oX ν ⟨w',x.I,eQ x.β L (x.w.heap.size,0,tot)⟩ x.w.heap.size 0 tot blk) (hv:RD ν ⟨w',x.I,eQ x.β L (x.w.heap.size,0,tot)⟩ v d)
  (hr:r=.ok (.value v) w') (hf:∀l,f' l=jt f L (some blk) l):Br ν x f' L d r:=by
 have e:f'=jt f L (some blk):=funext hf;subst e;exact⟨v,⟨w',x.I,eQ x.β L (x.w.heap.size,0,tot)⟩,.inl hr,D1 hw (aP _) hL hs.imm,hv,adP hs hw (aP _) hnw hL hb,fun l hl=>by simp[eQ,hl]⟩
def wO {n:Nat}{w':World}{L tot k:Nat}{c:Array Value}{T:TypeId}{fr:Nat×Nat}{es:List D}(x':X)(hx:x'.w.heap[n]? =some (.cells c T fr))(hk:0<k)(ht:es.length<=tot)(hc:tot*k<=c.size)
  (hfr:∀o,o<c.size->¬(fr.1<=o/\o<fr.2))
  (he:∀i,i<es.length->(es.getD i .any).cells.length=k/\∀j,j<k->(c.getD (i*k+j) undef).oneCell'=true/\RD ν x' (c.getD (i*k+j) undef) ((es.getD i .any).cells.getD j .any)):
  oX ν x' n 0 tot (.buf k es):=
 ⟨hk,ht,c,T,fr,hx,ae,hfr,fun i hi=>⟨(he i hi).1,fun j hj=>by simpa using(he i hi).2 j hj⟩⟩
end
section
variable {x:X} {f:Nat->Option bm} {C:CC} {defs:List (Option Nat)} {J:Src->aX} {ev:Operand->Value} {Y:Ctx} {m:List (Nat×bm)} {L:Nat}
def Hc (hs:fm C.ν x f){w':World}{tot:Nat}(hw:iw x.w w')(hL:x.β L=none):Le x ⟨w',x.I,eQ x.β L (x.w.heap.size,0,tot)⟩:=
 (D1 hw (aP _) hL hs.imm).le
def QQ {v:Value}{d:D}{k:Nat}{T:TypeId}{r:Result Next}(hs:fm C.ν x f)(hL:x.β L=none)(hv:RD C.ν x v d)(hk:d.cells.length=k)(hk0:k≠0)
  (hr:r=.ok (.value (.pointer (some ⟨x.w.heap.size,0,none⟩))) (x.w.alloc (.cells v.cells T))):
  Br C.ν x (iY f [L] (cL m L (.buf k [d]))) L (.ptr L k 0 0) r:=by
 have hw:=iw.alloc x.w (.cells v.cells T);have hle:=Hc (tot:=1) hs hw hL;obtain⟨c1,c2⟩:=hv.cells ae;refine oH (tot:=1) (blk:=.buf k [d]) hs hL hw aG ?_ (.ptr L k 0 0 x.w.heap.size 0 1 0 nF aG) hr (fun l=>?_)
 .refine wO (w':=x.w) (L:=L) _ (dS x.w _) ae aG ae (fun o _=>aG) (fun i hi=>?_);simp at hi;subst hi;refine⟨by simpa using hk,fun j hj=>?_⟩;have:=c2 j ae;exact⟨by simpa using this.1,by simpa using this.2.mono hle⟩
 grind [iY,bJ,jt]
def abP {v:Value}{r:Result Next}(hs:fm C.ν x f)(hL:x.β L=none)(hv:RD C.ν x v (.agg [.nilp,.aJ]))
  (hr:r=.ok (.value (.pointer (some ⟨x.w.heap.size,0,none⟩))) (x.w.alloc (.cells v.cells cN.tB))):
  Br C.ν x (iY f [L] (cL m L (.bld none 0 false))) L (.ptr L 2 0 0) r:=by
 have hw:=iw.alloc x.w (.cells v.cells cN.tB);refine oH (tot:=1) (blk:=.bld none 0 false) hs hL hw aG ?_ (.ptr L 2 0 0 x.w.heap.size 0 1 0 nF aG) hr (fun l=>?_)
 .refine⟨rfl,.slice none 0 0, ?_,rfl,rfl⟩;refine(dS x.w _).trans ?_;cases hv with
  |agg cs _ hl h1 h=>
   have e0:=h 0 aG;have e1:=h 1 aG;simp only[iQ,List.getD_cons_succ]at e0 e1;have hl2:cs.size=2:=hl;have hcs:cs=#[.pointer none,.slice none 0 0]:=by
    apply Array.ext
    .simpa using hl2
    .intro i hi1 hi2;have hi:i=0\/i=1:=ae;rcases hi with rfl|rfl
     .generalize hq:cs.getD 0 undef=q at e0;cases e0;simp[Array.getD,hi1]at hq;simpa using hq
     .generalize hq:cs.getD 1 undef=q at e1;cases e1;simp[Array.getD,hi1]at hq;simpa using hq
   subst hcs;rfl
 .by_cases e:l=L
  .subst e;simp[iY,bJ,jt]
  .simp[iY,e,jt]
def XR {o:Oper}{i:ax}(hc:C.op defs o=some i)(ho:(∃t,o.op=.alloc t)\/∃t p,o.op=.box t p)(hρ:vu C defs J ev x o.op.operands.toList)(hcst:∀d,J (.c d)=⟨true,d⟩)(hob:i.ey Y J m)(hs:fm C.ν x f)(hL:x.β L=none)(hB:∀t,C.bP.contains (1000000000+t)=true->t=cN.tB):
  Br C.ν x (iY f (i.wr J L) (i.bP Y J m L)) L (i.val Y J m L) ((execOp ev o).run C.P x.w):=by
 rcases ho with⟨t,ho⟩|⟨t,p,ho⟩
 .simp only[CC.op,ho]at hc;split at hc
  .rename_i z hz;obtain⟨ti,v,hi,hzv,hr⟩:=qg (x:=x) hz;split at hc
   .cases hc
   rename_i hce;split at hc
   .rename_i hB0;split at hc
    .simp only[aD]at hc;subst hc;exact abP hs hL hr (by rw[<-hB t hB0];simp[execOp,ho,Instr.alloc,zeroValue,typeInfo,hi,hzv,newVar,newRow])
    .cases hc
   simp only[aD]at hc;subst hc;obtain⟨k1,k2⟩:=hob;simp only[hcst]at k2;have e:(ax.box (C.P.cellsOf t) (.c z)).bP Y J m L=cL m L (.buf (C.P.cellsOf t) [z]):=by simp[ax.bP,hcst]
   rw[e];refine QQ (T:=t) hs hL hr k2 hce ?_;simp[execOp,ho,Instr.alloc,zeroValue,typeInfo,hi,hzv,newVar,newRow]
  .cases hc
 .simp only[CC.op,ho]at hc;split at hc
  .rename_i s h1;split at hc
   .cases hc
   rename_i hce;simp only[aD]at hc;subst hc;obtain⟨k1,k2⟩:=hob;exact QQ (T:=t) hs hL (hρ p dw s h1 k1) k2 hce (by simp[execOp,ho,Instr.box,newVar,newRow])
  .cases hc
def XV {o:Oper}{i:ax}{t:TypeId}{p:Operand}(hpu:¬i.pure=true)(hsm:∀fid n,dY C.ν fid=some n->n<1000000)(hc:C.op defs o=some i)(ho:o.op=.load t p)(hρ:vu C defs J ev x o.op.operands.toList)(hob:i.ey Y J m)(hs:fm C.ν x f)(hag:EC f m (i.mX J)):
  Nw C.ν x (i.val Y J m L) ((execOp ev o).run C.P x.w):=by
 simp only[CC.op,ho]at hc;split at hc
 .obtain rfl:=aW hc;exact absurd rfl hpu
 split at hc
 .rename_i s h1;split at hc
  .cases hc
  rename_i hce;simp only[aD]at hc;subst hc;obtain⟨k1,k2⟩:=hob;have hv:=hρ p dw s h1 k1;have hn0:C.P.cellsOf t≠0:=fun e=>hce (.inl e)
  have hu:(C.P.underlying t).isNone=false:=by cases hn:(C.P.underlying t).isNone with|false=>rfl|true=>exact absurd (.inr (.inl hn)) hce
  have h1':cg C.P t=false->C.P.cellsOf t=1:=fun e=>by
   rcases Nat.decEq (C.P.cellsOf t) 1 with h|h
   .exact absurd (.inr (.inr ⟨e,h⟩)) hce
   .exact h
  cases hd:(J s).d<;>simp only[hd,Lm]at k2
  .rename_i k es i o';rw[hd]at hv;generalize hep:ev p=vp at hv;cases hv with
   |ref b off _ _ _ at_ _ c hI hat hk hn hcc hone hh=>
    obtain⟨v,r1,r2⟩:=qD (P:=C.P) (ν:=C.ν) (x:=x) (e:=es.getD i .any) (k:=k) (n:=C.P.cellsOf t) (o:=o') (b:=b) (at0:=off+i*k) (ag:=cg C.P t) (ty:=t) (c:=c i) (hk i k2.1) k2.2
     (fun j hj=>⟨hcc i j k2.1 hj,hone i j k2.1 hj,hh i j k2.1 hj⟩) rfl hn0 hu rfl h1'
    refine gN (v:=v) ?_ (by simp only[ax.val,hd,Ln];exact r2);simp[execOp,ho,hep,Instr.loadAt,Instr.sureAddr,hat,r1]
  .rename_i l k i o';rw[hd]at hv;generalize hep:ev p=vp at hv;cases hv with
   |ptr _ _ _ _ b base tot at_ hβ hat=>
    obtain⟨g1,g2,g3⟩:=vw (n:=i+1) hs (hag l (by simp[hd,cq])) k2.1;obtain⟨hnI,hk0,ht,c,T,fr,q1,q2,q3,q4⟩:=hs.own l _ b base tot g1 hβ;have hi:i<(aH m l).length:=ae;obtain⟨v,r1,r2⟩:=qD (P:=C.P) (ν:=C.ν) (x:=x) (e:=(aH m l).getD i .any) (k:=k) (n:=C.P.cellsOf t) (o:=o') (b:=b) (at0:=base+i*k) (ag:=cg C.P t) (ty:=t) (c:=fun j=>c.getD (base+i*k+j) undef)
     ((q4 i hi).1) k2.2
     (fun j hj=>⟨cell_of_heap q1 Kg,((q4 i hi).2 j hj).1,((q4 i hi).2 j hj).2⟩) rfl hn0 hu rfl h1'
    refine gN (v:=v) ?_ (by simp only[ax.val,hd,Ln];exact r2);simp[execOp,ho,hep,Instr.loadAt,Instr.sureAddr,hat,r1]
  .rename_i q es;obtain⟨hq2,e1,e2,e3⟩:=k2;rw[hd]at hv;generalize hep:ev p=vp at hv;cases hv with
   |mpn=>exfalso;omega
   |im=>exfalso;omega
   |fn fid _ cs ds hν=>exact absurd (hsm _ _ hν) ae
   |dZ fid _ cs ds hν=>exact absurd (hsm _ _ hν) ae
   |bx b at_ _ v0 hI hc0 h1 hl hh=>
    obtain⟨v,r1,r2⟩:=qD (P:=C.P) (ν:=C.ν) (x:=x) (e:=es.getD 0 .any) (k:=1) (n:=C.P.cellsOf t) (o:=0) (b:=b) (at0:=at_) (ag:=cg C.P t) (ty:=t) (c:=fun _=>v0) (by rw[e3];rfl) ae
     (fun j hj=>by obtain rfl:j=0:=ae;exact⟨hc0,h1,by rw[e3];exact hh 0 ae⟩) rfl hn0 hu rfl h1'
    refine gN (v:=v) ?_ (by simp only[ax.val,hd,Ln];exact r2);simp only[Nat.add_zero]at r1;simp[execOp,ho,hep,Instr.loadAt,Instr.sureAddr,r1]
 .cases hc
def ac8 {o:Oper}{i:ax}{t:TypeId}{p:Operand}(hpu:¬i.pure=true)(hsm:∀fid n,dY C.ν fid=some n->n<1000000)(hc:C.op defs o=some i)(ho:o.op=.load t p)(hρ:vu C defs J ev x o.op.operands.toList)(hob:i.ey Y J m)(hs:fm C.ν x f)(hag:EC f m (i.mX J)):
  Br C.ν x (iY f (i.wr J L) (i.bP Y J m L)) L (i.val Y J m L) ((execOp ev o).run C.P x.w):=by
 have haf:iY f (i.wr J L) (i.bP Y J m L)=f:=by
  have hw:i.wr J L=[]:=by
   simp only[CC.op,ho]at hc
   (repeat' split at hc)<;>simp only[aD,reduceCtorEq]at hc<;>subst hc<;>rfl
  funext l;simp[iY,hw]
 rw[haf];exact(XV hpu hsm hc ho hρ hob hs hag).did hs
def XY {o:Oper}{i:ax}{t:TypeId}{p q:Operand}(hpu:¬i.pure=true)(hc:C.op defs o=some i)(ho:o.op=.store t p q)(hρ:vu C defs J ev x o.op.operands.toList)(hob:i.ey Y J m)(hs:fm C.ν x f)(hag:EC f m (i.mX J)):
  Br C.ν x (iY f (i.wr J L) (i.bP Y J m L)) L (i.val Y J m L) ((execOp ev o).run C.P x.w):=by
 simp only[CC.op,ho]at hc;split at hc
 .rename_i s u h1 h2;split at hc
  .cases hc
  rename_i hce;simp only[aD]at hc;subst hc;obtain⟨k1,k2,k3,k4⟩:=hob;have hv:=hρ p dw s h1 k1;have hw:=hρ q dw u h2 k2;cases hd:(J s).d<;>simp only[hd]at k4;rename_i l k i o';rw[hd]at hv;generalize hep:ev p=vp at hv;cases hv with
  |ptr _ _ _ _ b base tot at_ hβ hat=>
   obtain⟨g1,g2,g3⟩:=vw (n:=i+1) hs (hag l (by simp[hd,cq])) k4.1;obtain⟨hnI,hk0,ht,c,T,fr,q1,q2,q3,q4⟩:=hs.own l _ b base tot g1 hβ;have hi:i<(aH m l).length:=ae;obtain⟨c1,c2⟩:=hw.cells ae;have hnl:(ev q).cells.toList.length=C.P.cellsOf t:=dN;have hin:∀j,j<C.P.cellsOf t->base+i*k+o'+j<c.size:=fun j hj=>by
    have:=kJ (tot:=tot) (i:=i) (k:=k) (j:=o'+j) ae ae;omega
   have hst:=run_storeCells_cells (P:=C.P) b (base+i*k+o') (ev q).cells.toList 0 x.w
    (fun j hj=>by rw[cell_of_heap q1 (by have:=hin j ae;omega)];rfl)
    (fun j hj=>by
      have:=q3 (base+i*k+o'+0+j) (by have:=hin j ae;omega);simp only[World.frozen?,q1];simp only[eo,cK];omega)
    (fun v hv=>by
      obtain⟨j,hj,rfl⟩:=List.mem_iff_getElem.1 hv;rw[<-xk _ j undef hj,bT];exact(c2 j ae).1)
   simp only[Nat.add_zero]at hst;obtain⟨c',s1,s2,s3⟩:=lP b (ev q).cells.toList (base+i*k+o') x.w c T fr q1 (by have:=hin (C.P.cellsOf t-1) ae;omega);obtain⟨f1,f2,f3,f4⟩:=kS b (ev q).cells.toList (base+i*k+o') x.w
   let w':=x.w.setCells b (base+i*k+o') (ev q).cells.toList
   have hother:∀b',b'≠b->w'.heap[b']? =x.w.heap[b']? :=fun b' hb'=>kT b _ _ _ b' hb'
   have hstep:Step x ⟨w',x.I,x.β⟩:=by
    refine⟨f1,f2,f3,by show _<=w'.heap.size;rw[f4];exact aP _,fun _ h=>h,fun b' hb'=>hother b' (fun e=>hnI (e▸hb')),fun _ _ h=>h,fun b' _ hn=>hother b' (fun e=>hn l _ hβ e.symm),fun _ h=>.inl h,fun _ _ h=>.inl h⟩
   let es':=(aH m l).set i (qb ((aH m l).getD i .any) k (C.P.cellsOf t) o' (J u).d)
   have hle:=hstep.le

   have hel:(qb ((aH m l).getD i .any) k (C.P.cellsOf t) o' (J u).d).cells.length=k/\∀j,j<k->
     (qb ((aH m l).getD i .any) k (C.P.cellsOf t) o' (J u).d).cells.getD j .any=if o'<=j/\j<o'+C.P.cellsOf t then(J u).d.cells.getD (j-o') .any else((aH m l).getD i .any).cells.getD j .any:=by
    unfold qb;have hkl:=(q4 i hi).1;cases hnk:((C.P.cellsOf t==k)&&((J u).d.isAgg ||!((aH m l).getD i .any).isAgg))
    .simp only[cond_false];refine⟨(X5 _ _ _ ae).trans hkl,fun j hj=>?_⟩;rw[<-k3];exact TZ _ _ _ ae _ _
    .simp only[aN,beq_iff_eq]at hnk;have hnk:=hnk.1;simp only[cond_true];refine⟨ae,fun j hj=>?_⟩;have:o'=0:=ae;subst this;rw[ak ae];simp
   have hblk:oX C.ν ⟨w',x.I,x.β⟩ b base tot (.buf k es'):=by
    refine⟨hk0,by simp[es'];omega,c',T,fr,s1,ae,fun o'' ho''=>q3 o'' ae,fun i' hi'=>?_⟩;have hi2:i'<(aH m l).length:=by simpa[es']using hi'
    by_cases e:i'=i
    .subst e;have hg:es'.getD i' .any=qb ((aH m l).getD i' .any) k (C.P.cellsOf t) o' (J u).d:=by simp[es',List.getD,List.getElem?_set,hi2]
     rw[hg];refine⟨hel.1,fun j hj=>?_⟩;rw[hel.2 j hj,s3];by_cases hj2:o'<=j/\j<o'+C.P.cellsOf t
     .rw[ak ae,ak hj2,show base+i'*k+j-(base+i'*k+o')=j-o' by omega,bT];have:=c2 (j-o') ae;exact⟨this.1,this.2.mono hle⟩
     .rw[ai ae,ai hj2];exact⟨((q4 i' hi2).2 j hj).1,((q4 i' hi2).2 j hj).2.mono hle⟩
    .have hg:es'.getD i' .any=(aH m l).getD i' .any:=by simp[es',List.getD,List.getElem?_set,show ¬i=i' by omega]
     rw[hg];refine⟨(q4 i' hi2).1,fun j hj=>?_⟩;rw[s3];have hne:¬(base+i*k+o'<=base+i'*k+j/\base+i'*k+j<base+i*k+o'+(ev q).cells.toList.length):=by
      rw[hnl];rcases eh i' i with hlt|hge
      .have:(i'+1)*k<=i*k:=fH _ hlt;rw[Nat.succ_mul]at this;omega
      .have:(i+1)*k<=i'*k:=fH _ ae;rw[Nat.succ_mul]at this;omega
     rw[ai hne];exact⟨((q4 i' hi2).2 j hj).1,((q4 i' hi2).2 j hj).2.mono hle⟩
   refine⟨undef,⟨w',x.I,x.β⟩,.inr ⟨?_,rfl⟩,hstep,.any _, ?_,fun _ _=>rfl⟩
   .have hsz:(ev q).cells.size=C.P.cellsOf t:=ae;simp[execOp,ho,hep,Instr.storeAt,Instr.sureAddr,storeVar,dF hce,hsz,hat,hst,w']
   .have haf:∀l',iY f ((ax.st (C.P.cellsOf t) s u).wr J L) ((ax.st (C.P.cellsOf t) s u).bP Y J m L) l'=jt f l (some (.buf k es')) l':=by
     intro l';simp only[iY,ax.wr,hd,cq,ax.bP,aC,bJ,jt,es'];by_cases e:l'=l
     .rw[ak e,ak e,ak e]
     .rw[ai e,ai e]
    refine⟨fun l' blk b' base' tot' e1 e2=>?_,fun l1 l2 b' base' tot' base'' tot'' e1 e2 e3 e4=>?_,fun b' hb'=>by show b'<w'.heap.size;rw[f4];exact hs.imm b' hb',fun l' b' base' tot' e=>by show b'<w'.heap.size;rw[f4];exact hs.dZ l' b' base' tot' e,rp hle hs.gd⟩
    .rw[haf]at e1;by_cases e:l'=l
     .subst e;simp only[jt,aZ,aD]at e1;subst e1;have e2':x.β l'=some (b',base',tot'):=e2;rw[hβ]at e2';simp only[aD,di]at e2';obtain⟨rfl,rfl,rfl⟩:=e2';exact⟨hnI,hblk⟩
     .simp only[jt,e,aU]at e1;obtain⟨a1,a2⟩:=hs.own l' blk b' base' tot' e1 e2;refine⟨a1,a2.mono hle (hother b' (fun eb=>?_))⟩;subst eb;exact e (hs.inj l' l b' base' tot' base tot (by rw[e1];simp) (by rw[g1];simp) e2 hβ)
    .rw[haf]at e1 e2;refine hs.inj l1 l2 b' base' tot' base'' tot'' ?_ ?_ e3 e4
     .by_cases e:l1=l
      .rw[e,g1];simp
      .simpa[jt,e]using e1
     .by_cases e:l2=l
      .rw[e,g1];simp
      .simpa[jt,e]using e2
 .cases hc
end
end
section
variable [cN]
section
variable {x:X} {f:Nat->Option bm} {C:CC} {defs:List (Option Nat)} {J:Src->aX} {ev:Operand->Value} {Y:Ctx} {m:List (Nat×bm)} {L:Nat}
def Bt (f:Nat->Option bm)(m:List (Nat×bm))(L:Nat)(b:bm):∀l,iY f [L] (cL m L b) l=jt f L (some b) l:=by
 grind [iY,bJ,jt]
theorem Uv {z:Value}{d:D}{k:Nat}(hz:RD C.ν x z d)(hk:d.cells.length=k)(hk0:k≠0)(n i j:Nat)(hi:i<n)(hj:j<k):
  (((Array.range (n*k)).map (z.cells[· %z.cells.size]!)).getD (i*k+j) undef)=z.cells.getD j undef:=by
 obtain⟨c1,_⟩:=hz.cells ae;have hlt:=kJ hi hj;have hm:(i*k+j)%k=j:=by rw[Nat.mul_comm,Nat.mul_add_mod];exact Nat.mod_eq_of_lt hj
 simp[Array.getD,hlt,c1,hk,hm,show j<k from hj]
def XX {o:Oper}{i:ax}{t:TypeId}{p:Operand}(hc:C.op defs o=some i)(ho:o.op=.range t p)(hρ:vu C defs J ev x o.op.operands.toList)(hob:i.ey Y J m)(hs:fm C.ν x f)(hL:x.β L=none):
  Br C.ν x (iY f (i.wr J L) (i.bP Y J m L)) L (i.val Y J m L) ((execOp ev o).run C.P x.w):=by
 simp only[CC.op,ho]at hc;split at hc
 .rename_i s hu h1;simp only[aD]at hc;subst hc;obtain⟨k1,k2⟩:=hob;have hv:=hρ p dw s h1 k1;cases hd:(J s).d<;>simp only[hd]at k2;rename_i b;rw[hd]at hv;obtain⟨e1,e2⟩:=hv.jW;have e:(ax.rng s).bP Y J m L=cL m L (.iter b 0):=by simp[ax.bP,hd]
  rw[e];refine oH (tot:=0) (blk:=.iter b 0) hs hL (iw.alloc x.w (.stringIter ⟨⟨b⟩⟩ 0)) aG ⟨dS x.w _,e2⟩ (.it L x.w.heap.size 0 0 nF) ?_ (Bt f m L _);simp[execOp,ho,e1,Instr.range,run_underlying hu]
 .cases hc
def ajw {o:Oper}{i:ax}{s d:TypeId}{p:Operand}{a:Src}(hc:C.op defs o=some (.s2b a))(ho:o.op=.convert s d p)(hρ:vu C defs J ev x o.op.operands.toList)(hob:(ax.s2b a).ey Y J m)(hs:fm C.ν x f)(hL:x.β L=none):
  Br C.ν x (iY f ((ax.s2b a).wr J L) ((ax.s2b a).bP Y J m L)) L ((ax.s2b a).val Y J m L) ((execOp ev o).run C.P x.w):=by
 simp only[CC.op,ho]at hc;split at hc
 .simp at hc
 .rename_i eT a' hu1 hu2 h1;split at hc
  .rename_i hue;simp only[aD,ax.s2b.injEq]at hc;subst hc;obtain⟨k1,k2⟩:=hob;have hv:=hρ p dw a' h1 k1;cases hd:(J a').d<;>simp only[hd]at k2;rename_i b;rw[hd]at hv;obtain⟨e1,e2⟩:=hv.jW;have e:(ax.s2b a').bP Y J m L=cL m L (.buf 1 (b.map fun q=>.int .u8 q.toNat)):=by simp[ax.bP,hd]
   rw[e];have hsz:(⟨⟨b⟩⟩:ByteArray).size=b.length:=rfl
   let cap:=grownCap x.w b.length 0 eT
   have hcap:b.length<=cap:=grownCap_ge x.w b.length 0 eT;have hcm:cap<=maxLen:=grownCap_le_maxLen x.w b.length 0 eT e2
   let row:=bytesRow ⟨⟨b⟩⟩ cap
   have hrs:row.size=cap:=by simp[row,bytesRow,hsz];show b.length+(cap-b.length)=cap;omega
   have hrun:=run_bytes_of_string (P:=C.P) x.w s d eT ⟨⟨b⟩⟩ hu1 hu2 hue;have hgrow:iw x.w (x.w.drew.alloc (.cells row eT (row.size,row.size+1))):=(iw.drew x.w).trans (iw.alloc x.w.drew _);have hnew:(x.w.drew.alloc (.cells row eT (row.size,row.size+1))).heap[x.w.heap.size]? =some (.cells row eT (row.size,row.size+1)):=dS x.w.drew _;have hget:∀i,i<b.length->row.getD i undef=.int .u8 (b.getD i 0).toNat:=by
    intro i hi;have e3:(b.map fun q=>Value.int .u8 q.toNat).getD i undef=.int .u8 (b.getD i 0).toNat:=by simp[List.getD,hi]
    rw[<-e3,<-bT];simp[row,bytesRow,List.getD,List.getElem?_append,hi]
   refine oH (v:=.slice (some ⟨x.w.heap.size,0,none⟩) b.length cap) (tot:=cap) (blk:=bm.buf 1 (List.map (fun q:UInt8=>D.int .u8 (q.toNat:Int)) b)) hs hL hgrow (by show _<(x.w.heap.push _).size;simp) ?_ ?_ ?_ (Bt f m L _)
   .refine wO (w':=x.w) (L:=L) _ hnew ae (by simpa using hcap) ae (fun o' ho'=>dN) (fun i hi=>?_);simp only[bj]at hi;have hg:(b.map fun q=>D.int .u8 q.toNat).getD i .any=.int .u8 (b.getD i 0).toNat:=by simp[List.getD,hi]
    rw[hg];refine⟨rfl,fun j hj=>?_⟩;have:j=0:=ae;subst this;rw[show i*1+0=i by omega,hget i hi];exact⟨rfl,.int _ _⟩
   .simp only[ax.val,hd];exact .own L 1 0 b.length x.w.heap.size 0 cap cap ⟨x.w.heap.size,0,none⟩ nF (fun _=>aG) hcap hcm ae
   .simp only[execOp,ho,e1,Sem.run_bind,hrun,Result.andThen_ok,Sem.run_pure];rfl
  .cases hc
 .split at hc
  .simp at hc
  .cases hc
 .cases hc
def ajr {o:Oper}{s d:TypeId}{p:Operand}{a:Src}(hc:C.op defs o=some (.b2s a))(ho:o.op=.convert s d p)(hρ:vu C defs J ev x o.op.operands.toList)(hob:(ax.b2s a).ey Y J m)(hs:fm C.ν x f)(hag:EC f m ((ax.b2s a).mX J)):
  Br C.ν x (iY f ((ax.b2s a).wr J L) ((ax.b2s a).bP Y J m L)) L ((ax.b2s a).val Y J m L) ((execOp ev o).run C.P x.w):=by
 have haf:iY f ((ax.b2s a).wr J L) ((ax.b2s a).bP Y J m L)=f:=by funext l;simp[iY,ax.wr]
 rw[haf];simp only[CC.op,ho]at hc;split at hc
 .simp at hc
 .split at hc
  .simp at hc
  .cases hc
 .rename_i eT a' hu1 hu2 h1;split at hc
  .rename_i hue;simp only[aD,ax.b2s.injEq]at hc;subst hc;obtain⟨k1,k2,k3,k4⟩:=hob;have hv:=hρ p dw a' h1 k1;have hd1:C.P.underlying d=some .string:=hu2;have hconv:∀b l c,ev p=.slice b l c->(execOp ev o).run C.P x.w=((Conv.bytesToString (.slice b l c)).run C.P x.w).andThen fun v w'=>.ok (.value v) w':=by
    intro b l c he;simp only[execOp,ho,he,Sem.run_bind,run_convert_bytes_string x.w s d eT b l c hu1 hue hu2,Sem.run_pure]
   have key:∀(aa:Addr) (len cap:Nat) (es:List D),es.length=len->(∀e∈es,e.Tw)->len<=maxLen->(∀i,i<len->∃v,x.w.cell? ⟨aa.block,aa.off+i,none⟩=some v/\RD C.ν x v (es.getD i .any))->(0<len->aa.spot=none)->
     ev p=.slice (some aa) len cap->Br C.ν x f L (.str (es.map D.u8)) ((execOp ev o).run C.P x.w):=by
    intro aa len cap es hlen hu8 hm hcell hspot he;have hv':∀i,i<len->∃n,es.getD i .any=.int .u8 n/\0<=n/\n<256:=by
     intro i hi;have hmem:=hu8 (es.getD i .any) J4;cases hg:es.getD i .any<;>simp only[hg,D.Tw]at hmem;obtain⟨rfl,h1,h2⟩:=hmem;exact⟨_,rfl,h1,h2⟩
    let ns:List Int:=es.map fun e=>match e with| .int _ n=>n|_=>0
    have hload:(loadCells aa len).run C.P x.w=.ok (ns.map (Value.int .u8)).toArray x.w:=by
     have:=run_loadCells (P:=C.P) x.w aa len (fun j=>.int .u8 (ns.getD j 0)) (fun j hj=>by
      obtain⟨v,c1,c2⟩:=hcell j hj;obtain⟨n,g1,_,_⟩:=hv' j hj;have hn:ns.getD j 0=n:=by
       rw[xk _ _ _ ae]at g1;simp[ns,List.getD,show j<es.length by omega,g1]
      rw[hn];rw[g1]at c2;rw[<-c2.dt,<-c1];have hsp:=hspot ae;congr 1;obtain⟨ab,ao,aE4⟩:=aa;simp only at hsp;subst hsp;rw[Addr.AW])
     rw[this];congr 2;apply List.ext_getElem
     .simp[ns,hlen]
     .intro i h1 h2;simp at h1 h2;simp[List.getD,ns,show i<es.length by omega]
    refine nN hs (v:=.string ⟨⟨es.map D.u8⟩⟩) ?_ (.str _ dN);rw[hconv _ _ _ he,run_bytesToString x.w aa len cap ns hload];simp only[Result.andThen_ok];congr 3;have hfold:∀(l:List Int) (s0:ByteArray),l.foldl (fun r n=>r.push (UInt8.ofNat n.toNat)) s0=⟨⟨s0.data.toList++l.map fun n=>UInt8.ofNat n.toNat⟩⟩:=by
     intro l;induction l with
     |nil=>intro s0;simp
     |cons n r ih=>
      intro s0;rw[List.foldl_cons,ih];congr 2;simp[ByteArray.push]
    rw[hfold];have e0:(ByteArray.empty.data.toList:List UInt8)=[]:=rfl;rw[e0,qZ];congr 2;simp only[ns,List.map_map];apply List.map_congr_left;intro e he';have:=hu8 e he';cases e<;>simp only[D.Tw]at this;rfl
   cases hd:(J a').d<;>simp only[hd,Cc]at k2 k3 k4
   ·
    rw[hd]at hv;simp only[ax.val,hd,qn,List.map_nil];generalize hep:ev p=vp at hv;cases hv;refine nN hs (v:=.string ⟨⟨[]⟩⟩) ?_ (.str _ aG);rw[hconv _ _ _ hep];rfl
   .rename_i k es;rw[hd]at hv;simp only[ax.val,hd,qn];simp only[qn]at k4;subst k3;generalize hep:ev p=vp at hv;cases hv with
    |sl aa b off len cap _ _ c hlen ha hcap hm hk hn hcc hone hh=>
     by_cases he0:es=[]
     .subst he0;simp at hlen;subst hlen;refine nN hs (v:=.string ⟨⟨[]⟩⟩) ?_ (.str _ aG);rw[hconv _ _ _ hep];cases aa with
      |none=>rfl
      |some aa=>
       rw[run_bytesToString x.w aa 0 cap [] (by simp[loadCells,loadCellsFrom])];rfl
     .rcases ha with h|⟨rfl,hI⟩
      .exact absurd h he0
      .refine key _ len cap es hlen.symm k4 ae (fun i hi=>⟨c i 0,by have:=hcc i 0 hi ae;simpa using this, ?_⟩) (fun _=>rfl) hep;have:=hh i 0 hi ae;have hk1:=hk i hi;cases hg:es.getD i .any<;>rw[hg]at this hk1<;>simp only[D.cells,b7,bE]at hk1 this<;>first|omega|exact this|skip
       rename_i cs;have hmem:=k4 (es.getD i .any) J4;rw[hg]at hmem;simp[D.Tw]at hmem
   .rename_i l k i n;rw[hd]at hv;simp only[ax.val,hd,qn];simp only[qn]at k4;obtain⟨k5,k6⟩:=k3;subst k5;generalize hep:ev p=vp at hv;cases hv with
    |own _ _ _ _ b base tot cap aa hβ ha hcap hm ht=>
     obtain⟨g1,g2,g3⟩:=vw hs (hag l (by simp[hd,cq])) k6;obtain⟨hnI,hk0,ht',c,T,fr,q1,q2,q3,q4⟩:=hs.own l _ b base tot g1 hβ;have hlen:(((aH m l).drop i).take n).length=n:=hZ _ _ _ g2;refine key aa n cap _ hlen k4 ae (fun j hj=>?_) (fun h=>by rw[ha ae]) hep;have ha':=ha ae;subst ha';have hij:i+j<(aH m l).length:=ae;refine⟨c.getD (base+(i+j)*1+0) undef, ?_, ?_⟩
     .rw[show base+i*1+j=base+(i+j)*1+0 by omega];exact cell_of_heap q1 ae
     .rw[ec _ _ _ _ _ hj];have:=((q4 (i+j) hij).2 0 ae).2;have hk1:=(q4 (i+j) hij).1;cases hg:(aH m l).getD (i+j) .any<;>rw[hg]at this hk1<;>simp only[D.cells,b7,bE]at hk1 this<;>first|omega|exact this|skip
      rename_i cs;have hmem:=k4 ((((aH m l).drop i).take n).getD j .any) J4;rw[ec _ _ _ _ _ hj,hg]at hmem;simp[D.Tw]at hmem
    |own0 _ _ _ a0=>
     simp only[List.take_zero,List.map_nil];refine nN hs (v:=.string ⟨⟨[]⟩⟩) ?_ (.str _ aG);rw[hconv _ _ _ hep];cases a0<;>rfl
  .cases hc
 .cases hc
def ac9 {o:Oper}{i:ax}{p:Operand}(hc:C.op defs o=some i)(ho:o.op=.next p true)(hρ:vu C defs J ev x o.op.operands.toList)(hob:i.ey Y J m)(hs:fm C.ν x f)(hag:EC f m (i.mX J)):
  Br C.ν x (iY f (i.wr J L) (i.bP Y J m L)) L (i.val Y J m L) ((execOp ev o).run C.P x.w):=by
 simp only[CC.op,ho,dd]at hc;obtain⟨s,h1,rfl⟩:=hc;obtain⟨k1,k2⟩:=hob;have hv:=hρ p dw s h1 k1;cases hd:(J s).d<;>simp only[hd]at k2;rename_i l;rw[hd]at hv;cases hl:look m l with
 |none=>simp[hl]at k2
 |some blk=>
  cases blk with
  |buf k es=>simp[hl]at k2
  |row s=>simp[hl]at k2
  |bld o n u=>simp[hl]at k2
  |mpb s=>simp[hl]at k2
  |iter b pos=>
   have hfl:f l=some (.iter b pos):=by rw[<-hl];exact hag l (by simp[hd,cq])
   generalize hep:ev p=vp at hv;cases hv with
   |it _ bb base tot hβ=>
    obtain⟨hnI,hb1,si⟩:=hs.own l _ bb base tot hfl hβ;have hlt:=hs.dZ l bb base tot hβ;by_cases hp:pos<b.length
    .have hsz:(⟨⟨b⟩⟩:ByteArray).size=b.length:=rfl
     let w':World:={x.w with heap:=x.w.heap.setIfInBounds bb (.stringIter ⟨⟨b⟩⟩ (pos+(yM b pos).2))}
     have hother:∀b',b'≠bb->w'.heap[b']? =x.w.heap[b']? :=fun b' hb'=>by simp[w',Array.getElem?_setIfInBounds,show ¬bb=b' by omega]
     have hhere:w'.heap[bb]? =some (.stringIter ⟨⟨b⟩⟩ (pos+(yM b pos).2)):=by simp[w',hlt]
     have hsize:w'.heap.size=x.w.heap.size:=by simp[w']
     have hstep:Step x ⟨w',x.I,x.β⟩:=
      ⟨rfl,rfl,rfl,by show _<=w'.heap.size;omega,fun _ h=>h,fun b' hb'=>hother b' (fun e=>hnI (e▸hb')),fun _ _ h=>h,fun b' _ hn=>hother b' (fun e=>hn l _ hβ e.symm),fun _ h=>.inl h,fun _ _ h=>.inl h⟩
     have haf:∀l',iY f ((ax.aS s).wr J L) ((ax.aS s).bP Y J m L) l'=jt f l (some (.iter b (pos+(yM b pos).2))) l':=by
      intro l';simp only[iY,ax.wr,hd,cq,ax.bP,hl,hp,decide_true,cond_true,aC,bJ,jt];by_cases e:l'=l
      .rw[ak e,ak e,ak e]
      .rw[ai e,ai e]
     refine⟨.tuple #[.bool true,.int .i64 pos,.int .i32 (yM b pos).1],⟨w',x.I,x.β⟩,.inl ?_,hstep, ?_, ?_,fun _ _=>rfl⟩
     .have hobj:(getObj bb).run C.P x.w=.ok (.stringIter ⟨⟨b⟩⟩ pos) x.w:=by simp[getObj,Sem.run,hb1]
      have hset:∀ob:Obj,(setObj bb ob).run C.P x.w=.ok () {x.w with heap:=x.w.heap.setIfInBounds bb ob}:=by intro ob;simp[setObj,Sem.run,hb1]
      simp[execOp,ho,hep,Instr.next,hobj,hsz,hp,hset,goInt,yM,w']
     .simp only[ax.val,hd,hl,hp,decide_true,cond_true];refine .tup _ _ aG (fun i hi=>?_);simp at hi
      match i,hi with
      |0,_=>simpa using RD.bool true
      |1,_=>simpa using RD.int .i64 pos
      |2,_=>simpa using RD.int .i32 (yM b pos).1
     .refine⟨fun l' blk b' base' tot' e1 e2=>?_,fun l1 l2 b' base' tot' base'' tot'' e1 e2 e3 e4=>?_,fun b' hb'=>by show b'<w'.heap.size;rw[hsize];exact hs.imm b' hb',fun l' b' base' tot' e=>by show b'<w'.heap.size;rw[hsize];exact hs.dZ l' b' base' tot' e,rp hstep.le hs.gd⟩
      .rw[haf]at e1;by_cases e:l'=l
       .subst e;simp only[jt,aZ,aD]at e1;subst e1;have e2':x.β l'=some (b',base',tot'):=e2;rw[hβ]at e2';simp only[aD,di]at e2';obtain⟨rfl,rfl,rfl⟩:=e2';exact⟨hnI,hhere,si⟩
       .simp only[jt,e,aU]at e1;obtain⟨a1,a2⟩:=hs.own l' blk b' base' tot' e1 e2;refine⟨a1,a2.mono hstep.le (hother b' (fun eb=>?_))⟩;subst eb;exact e (hs.inj l' l b' base' tot' base tot (by rw[e1];simp) (by rw[hfl];simp) e2 hβ)
      .rw[haf]at e1 e2;refine hs.inj l1 l2 b' base' tot' base'' tot'' ?_ ?_ e3 e4
       .by_cases e:l1=l
        .rw[e,hfl];simp
        .simpa[jt,e]using e1
       .by_cases e:l2=l
        .rw[e,hfl];simp
        .simpa[jt,e]using e2
    .have haf:iY f ((ax.aS s).wr J L) ((ax.aS s).bP Y J m L)=f:=by
      funext l';simp only[iY,ax.wr,hd,cq,ax.bP,hl,hp,decide_false,cond_false,aC];by_cases e:l'=l
      .rw[ak e,e,hl,hfl]
      .rw[ai e]
     rw[haf];refine nN hs (v:=.tuple #[.bool false]) ?_ ?_
     .have hsz:(⟨⟨b⟩⟩:ByteArray).size=b.length:=rfl;have hobj:(getObj bb).run C.P x.w=.ok (.stringIter ⟨⟨b⟩⟩ pos) x.w:=by simp[getObj,Sem.run,hb1]
      simp[execOp,ho,hep,Instr.next,hobj,hsz,hp]
     .simp only[ax.val,hd,hl,hp,decide_false,cond_false];refine .tup _ _ aG (fun i hi=>?_);simp at hi;subst hi;simpa using RD.bool false
def zW {k n:Nat}{os':List Operand}(hρ:vu C defs J ev x os')(hk0:k≠0):∀(ps:List (Nat×Operand)) (ss:List (Nat×Src)),(∀p∈ps,p.2∈os')->C.za defs ps=some ss->qz J k n ss->
  ∀(cs:Array Value) (es:List D),cs.size=n*k->es.length=n->
   (∀i,i<n->(es.getD i .any).cells.length=k/\∀j,j<k->(cs.getD (i*k+j) undef).oneCell'=true/\RD C.ν x (cs.getD (i*k+j) undef) ((es.getD i .any).cells.getD j .any))->
  ∃cs',Instr.fill (fun i=>some (i*k,k)) cs (ps.map fun(i,o)=>(i,ev o))=some cs'/\cs'.size=n*k/\(lV J es ss).length=n/\
   ∀i,i<n->((lV J es ss).getD i .any).cells.length=k/\∀j,j<k->(cs'.getD (i*k+j) undef).oneCell'=true/\RD C.ν x (cs'.getD (i*k+j) undef) (((lV J es ss).getD i .any).cells.getD j .any)
 |[],ss,_,h,_,cs,es,h1,h2,h3=>by simp[CC.za]at h;subst h;exact⟨cs,by simp[Instr.fill],h1,by simpa[lV]using h2,by simpa[lV]using h3⟩
 |(i,o)::r,ss,hm,h,hk,cs,es,h1,h2,h3=>by
  simp only[CC.za]at h;split at h
  .rename_i s l g1 g2;simp only[aD]at h;subst h;simp only[qz]at hk;obtain⟨k1,k2,k3,k4⟩:=hk;have hv:=hρ o (hm _ (.head _)) s g1 k2;obtain⟨c1,c2⟩:=hv.cells ae;have hsz:(ev o).cells.size=k:=ae;have hb:i*k+k<=n*k:=by rw[<-Nat.succ_mul];exact fH _ k1
   obtain⟨f1,f2⟩:=Cr (i*k) (ev o).cells.toList 0 cs dN
   let cs1:Array Value:=((ev o).cells.toList.zipIdx 0).foldl (fun cs (c,j)=>cs.setIfInBounds (i*k+j) c) cs
   have hcs1:(ev o).cells.zipIdx.foldl (fun cs (c,j)=>cs.setIfInBounds (i*k+j) c) cs=cs1:=by
    rw[<-Array.foldl_toList];simp[cs1]
   have hget:∀q,cs1.getD q undef=if i*k<=q/\q<i*k+k then(ev o).cells.getD (q-i*k) undef else cs.getD q undef:=by
    intro q;have:=f2 q;rw[<-bT,<-bT cs,<-bT (ev o).cells];simp only[List.getD,Array.getElem?_toList];rw[show cs1[q]? =_ from this];simp only[Array.length_toList,hsz,Nat.add_zero];split
    .simp
    .rfl
   have hel:∀i',i'<n->((es.set i (J s).d).getD i' .any)=if i'=i then(J s).d else es.getD i' .any:=by
    intro i' hi';by_cases e:i'=i
    .subst e;simp[List.getD,List.getElem?_set,show i'<es.length by omega]
    .simp[List.getD,List.getElem?_set,show ¬i=i' by omega,e]
   obtain⟨cs',r1,r2,r3,r4⟩:=zW hρ hk0 r l (fun p hp=>hm p (.tail _ hp)) g2 k4 cs1 (es.set i (J s).d) (f1.trans h1) (by simpa using h2) (fun i' hi'=>by
    rw[hel i' hi'];by_cases e:i'=i
    .subst e;rw[ak rfl];refine⟨k3,fun j hj=>?_⟩;rw[hget,ak ae,show i'*k+j-i'*k=j by omega];exact c2 j ae
    .rw[ai e];refine⟨(h3 i' hi').1,fun j hj=>?_⟩;have hne:¬(i*k<=i'*k+j/\i'*k+j<i*k+k):=by
      rcases eh i' i with hlt|hge
      .have:(i'+1)*k<=i*k:=fH _ hlt;rw[Nat.succ_mul]at this;omega
      .have:(i+1)*k<=i'*k:=fH _ ae;rw[Nat.succ_mul]at this;omega
     rw[hget,ai hne];exact(h3 i' hi').2 j hj)
   refine⟨cs', ?_,r2,by simpa[lV]using r3,by simpa[lV]using r4⟩;simp only[List.map_cons,Instr.fill];rw[ai (by simp[hsz];omega),hcs1];exact r1
  .cases h
def FZ {z:Value}{d:D}{k n:Nat}(hz:RD C.ν x z d)(hk:d.cells.length=k)(hk0:k≠0):
  ∀i,i<n->((List.replicate n d).getD i .any).cells.length=k/\∀j,j<k->(((Array.range (n*k)).map (z.cells[· %z.cells.size]!)).getD (i*k+j) undef).oneCell'=true/\RD C.ν x (((Array.range (n*k)).map (z.cells[· %z.cells.size]!)).getD (i*k+j) undef) (((List.replicate n d).getD i .any).cells.getD j .any):=by
 intro i hi;obtain⟨_,c2⟩:=hz.cells ae
 grind [Uv]
def ajs {o:Oper}{i:ax}{t:TypeId}{n:Nat}{ps:Array (Nat×Operand)}(hc:C.op defs o=some i)(ho:o.op=.buildSlice t n ps)(hρ:vu C defs J ev x o.op.operands.toList)(hob:i.ey Y J m)(hs:fm C.ν x f)(hL:x.β L=none):
  Br C.ν x (iY f (i.wr J L) (i.bP Y J m L)) L (i.val Y J m L) ((execOp ev o).run C.P x.w):=by
 simp only[CC.op,ho]at hc;split at hc
 .rename_i e hu;split at hc
  .rename_i z l hz h1;split at hc
   .cases hc
   rename_i hce;simp only[aD]at hc;subst hc;obtain⟨k1,k2⟩:=hob;obtain⟨ti,v,hi,hzv,hr⟩:=qg (x:=x) hz;have hce0:C.P.cellsOf e≠0:=fun h=>hce (.inl h)
   have hsz:ti.size=C.P.cellsOf e:=by simp[Program.cellsOf,hi]
   have hsmall:¬n*ti.size>2^24:=fun h=>hce (.inr (by rw[hsz]at h;simpa using h))
   obtain⟨cs',r1,r2,r3,r4⟩:=zW hρ hce0 ps.toList l (fun p hp=>J1) h1 k2 ((Array.range (n*C.P.cellsOf e)).map (v.cells[· %v.cells.size]!)) (List.replicate n z) aG aG (FZ hr k1 hce0);have hgrow:=iw.alloc x.w (.cells cs' e);have hle:=Hc (tot:=n) hs hgrow hL;have he:(ax.bsl (C.P.cellsOf e) z n l).bP Y J m L=cL m L (bm.buf (C.P.cellsOf e) (lV J (List.replicate n z) l)):=rfl;rw[he];have hrun:(Instr.buildSlice t n (ps.map fun(i,x)=>(i,ev x))).run C.P x.w=.ok (.slice (some ⟨x.w.heap.size,0,none⟩) n n) (x.w.alloc (.cells cs' e)):=by
    by_cases hn:n=0
    .subst hn;have hcs0:cs'=#[]:=Array.eq_empty_of_size_eq_zero (by simpa using r2);have hps:ps.toList=[]:=by
      cases hp:ps.toList with
      |nil=>rfl
      |cons q r=>
       rw[hp]at h1;obtain⟨i0,o0⟩:=q;simp only[CC.za]at h1;split at h1
       .rename_i s' l' _ _;simp only[aD]at h1;subst h1;simp[qz]at k2
       .cases h1
     have hps':ps=#[]:=by apply Array.ext';simpa using hps
     subst hps';simp[Instr.buildSlice,run_underlying hu,sizeOf,typeInfo,hi,Instr.fill,newRow,hcs0,show Array.range 0=#[]from rfl]
    .refine run_buildSlice x.w t e n _ cs' ti v hu hi hzv hsmall ?_ ?_
     .rw[hsz];intro h0;rcases Nat.mul_eq_zero.1 h0 with h|h
      .exact hn h
      .exact hce0 h
     .rw[hsz,Array.toList_map];exact r1
   refine oH (v:=.slice (some ⟨x.w.heap.size,0,none⟩) n n) (tot:=n) (blk:=bm.buf (C.P.cellsOf e) (lV J (List.replicate n z) l)) hs hL hgrow aG ?_ ?_ ?_ (Bt f m L _)
   .exact wO (w':=x.w) (L:=L) _ (dS x.w _) ae ae ae (fun o' _=>aG) (fun i hi=>⟨(r4 i ae).1,fun j hj=>⟨((r4 i ae).2 j hj).1,((r4 i ae).2 j hj).2.mono hle⟩⟩)
   .exact .own L (C.P.cellsOf e) 0 n x.w.heap.size 0 n n ⟨x.w.heap.size,0,none⟩ nF (fun _=>aG) (aP _) (by have:n*1<=n*C.P.cellsOf e:=Nat.mul_le_mul_left _ ae;have h3:¬n*C.P.cellsOf e>16777216:=fun h=>hce (.inr h);simp only[maxLen];omega) ae
   .simp only[execOp,ho,Sem.run_bind,hrun,Result.andThen_ok,Sem.run_pure]
  .cases hc
 .cases hc
def ajv {o:Oper}{i:ax}{t:TypeId}{p q:Operand}(hc:C.op defs o=some i)(ho:o.op=.makeSlice t p q)(hρ:vu C defs J ev x o.op.operands.toList)(hob:i.ey Y J m)(hs:fm C.ν x f)(hL:x.β L=none):
  Br C.ν x (iY f (i.wr J L) (i.bP Y J m L)) L (i.val Y J m L) ((execOp ev o).run C.P x.w):=by
 simp only[CC.op,ho]at hc;split at hc
 .rename_i e hu;split at hc
  .rename_i z ln cp hz h1 h2;split at hc
   .cases hc
   rename_i hce;simp only[aD]at hc;subst hc;obtain⟨k1,k2,k3,k4⟩:=hob;have hv:=hρ p dw ln h1 k1;have hw:=hρ q dw cp h2 k2;cases hd:(J ln).d<;>cases hd2:(J cp).d<;>simp only[hd,hd2]at k4;rename_i kk n kk' c;rw[hd]at hv;rw[hd2]at hw;obtain⟨ti,v,hi,hzv,hr⟩:=qg (x:=x) hz;have hce0:C.P.cellsOf e≠0:=fun h=>hce (.inl h)
   have hsz:ti.size=C.P.cellsOf e:=by simp[Program.cellsOf,hi]
   have hby:ti.bytes<=65536:=by
    have:¬C.P.bytesOf e>65536:=fun h=>hce (.inr h)
    simp[Program.bytesOf,hi]at this;omega
   have hbytes:(ti.bytes:Int)*c<=281474976710656:=by
    have h1:(ti.bytes:Int)*c<=65536*c:=Int.mul_le_mul_of_nonneg_right ae ae;have h2:(65536:Int)*c<=65536*1073741824:=Int.mul_le_mul_of_nonneg_left ae ae;omega
   have hrun:=run_make (P:=C.P) x.w t e ti v hu hi hzv kk kk' n c k4.1 k4.2.1 hbytes ae;rw[hsz]at hrun;have hgrow:=iw.alloc x.w (.cells (madeCells v.cells (c.toNat*C.P.cellsOf e)) e);have hle:=Hc (tot:=c.toNat) hs hgrow hL;have hrep:=FZ (n:=c.toNat) hr k3 hce0;have hms:(madeCells v.cells (c.toNat*C.P.cellsOf e)).size=c.toNat*C.P.cellsOf e:=size_madeCells _ _;have he:(ax.mks (C.P.cellsOf e) z ln cp).bP Y J m L=cL m L (.buf (C.P.cellsOf e) (List.replicate n.toNat z)):=by simp[ax.bP,hd,D.nat]
   rw[he];refine oH (v:=.slice (some ⟨x.w.heap.size,0,none⟩) n.toNat c.toNat) (tot:=c.toNat) (blk:=.buf (C.P.cellsOf e) (List.replicate n.toNat z)) hs hL hgrow aG ?_ ?_ ?_ (Bt f m L _)
   .refine wO (w':=x.w) (L:=L) _ (dS x.w _) ae dN ae (fun o' _=>aG) (fun i hi=>?_);simp only[List.length_replicate]at hi;have:=hrep i ae;have e1:(List.replicate n.toNat z).getD i .any=(List.replicate c.toNat z).getD i .any:=by simp[List.getD,hi,show i<c.toNat by omega]
    rw[e1];refine⟨this.1,fun j hj=>?_⟩;have h2:=this.2 j hj;have e2:(Array.range (c.toNat*C.P.cellsOf e)).map (v.cells[· %v.cells.size]!)=madeCells v.cells (c.toNat*C.P.cellsOf e):=rfl;rw[e2]at h2;exact⟨h2.1,h2.2.mono hle⟩
   .simp only[ax.val,hd,D.nat];exact .own L _ 0 n.toNat x.w.heap.size 0 c.toNat c.toNat ⟨x.w.heap.size,0,none⟩ nF (fun _=>aG) ae (by simp only[maxLen];omega) ae
   .simp only[execOp,ho,hv.dt,hw.dt,Sem.run_bind,hrun,Result.andThen_ok,Sem.run_pure]
  .cases hc
 .cases hc
end
end
section
variable [cN]
def Xe {P:Program}{k:TypeId}(h:Of P k=true):∃e,WideMaps.ArrKey P k e 2/\P.underlying e=some .string/\∃m,P.types.size=m+1:=by
 unfold Of at h;split at h
 .rename_i e hk;split at h
  .rename_i he;simp only[aN,beq_iff_eq,cG,beq_eq_false_iff_ne]at h;exact⟨e,⟨hk,by unfold Program.plainKey;rw[he],h.1,h.2.1⟩,he,P.types.size-1,ae⟩
  .cases h
 .cases h
def TC {P:Program}{k e:TypeId}(A:WideMaps.ArrKey P k e 2)(he:P.underlying e=some .string)(hsz:∃m,P.types.size=m+1){a b:List UInt8}(wa:a.length<=maxLen)(wb:b.length<=maxLen):
  keyOf P k (.agg #[.string ⟨⟨a⟩⟩,.string ⟨⟨b⟩⟩])=some (.string (keyBytes [.string a,.string b])):=by
 have hkt:=A.keyType hsz;obtain⟨m,hm⟩:=hsz;unfold keyOf;simp only[A.hu];rw[ak (by simp[hkt,Value.formed,A.hu,A.size]),hm];unfold Program.keyLits;simp only[A.hu,Value.cells];rw[ak (by rw[A.size];rfl),show List.range 2=[0,1]from rfl,List.mapM_cons,List.mapM_cons,List.mapM_nil];simp[A.one,Program.keyLits,he,ByteArray.size,wa,wb]
def RD.key {ν:List (Nat×Nat)}{x:X}{v:Value}{d:D}(h:RD ν x v d)(hk:vK d=true):∃a b,d=.agg [.str a,.str b]/\v=.agg #[.string ⟨⟨a⟩⟩,.string ⟨⟨b⟩⟩]/\a.length<=maxLen/\b.length<=maxLen:=by
 unfold vK at hk;split at hk
 .rename_i a b;refine⟨a,b,rfl, ?_⟩;cases h with
  |agg cs ds hl h1 h=>
   have e0:=h 0 aG;have e1:=h 1 aG;simp only[iQ,List.getD_cons_succ]at e0 e1;have hl2:cs.size=2:=hl;generalize hq:cs.getD 0 undef=q at e0;generalize hq2:cs.getD 1 undef=q2 at e1;cases e0 with
   |str _ ha=>
    cases e1 with
    |str _ hb=>
     refine⟨?_,ha,hb⟩;congr 1;apply Array.ext
     .simpa using hl2
     .intro i hi1 hi2;have hi:i=0\/i=1:=ae;rcases hi with rfl|rfl
      .simp[Array.getD,hi1]at hq;simpa using hq
      .simp[Array.getD,hi1]at hq2;simpa using hq2
 .cases hk
def nZ (e:MapEntry)(es:List MapEntry)(j:Nat):TK (e::es) (j+2)=TK es j:=by
 unfold TK;rw[show(j+2) /2=j/2+1 by omega,List.getElem?_cons_succ,show(j+2)%2=j%2 by omega]
def G8 {ν:List (Nat×Nat)}{x:X}{v w:Value}{d e:D}(h1:RD ν x v d)(h2:RD ν x w e)(k1:vK d=true)(k2:vK e=true):pQ d e=true↔v=w:=by
 obtain⟨a,b,rfl,rfl,_,_⟩:=h1.key k1;obtain⟨a',b',rfl,rfl,_,_⟩:=h2.key k2;simp only[pQ,aN,beq_iff_eq];constructor
 .rintro⟨rfl,rfl⟩;rfl
 .intro h;injection h with h
  have h3:=aw Array.toList h;simp only[sY,Value.string.injEq,dj]at h3;obtain⟨p,q⟩:=h3;injection p with p;injection p with p
  injection q with q;injection q with q
  exact⟨p,q⟩
section
variable {ν:List (Nat×Nat)} {x:X} {key:Value} {k:D}
def Ri (hk:RD ν x key k)(hb:vK k=true):∀(es:List MapEntry) (kvs:List D),xA kvs=true->2*es.length=kvs.length->(∀j,j<kvs.length->RD ν x (TK es j) (kvs.getD j .any))->
  ((∀e∈es,e.key≠key)->Ns k kvs=none)/\∀e∈es,e.key=key->(es.map (·.key)).Nodup->∃v,Ns k kvs=some v/\RD ν x e.val v
 |[],[],_,_,_=>⟨fun _=>rfl,fun e he=>by cases he⟩
 |e::es,a::v::r,ho,hl,h=>by
  simp only[xA,aN]at ho;have h0:RD ν x e.key a:=h 0 aG;have h1:RD ν x e.val v:=h 1 aG;obtain⟨i1,i2⟩:=Ri hk hb es r ho.2 (by simp only[bE]at hl;omega) fun j hj=>by
   have:=h (j+2) uw;rw[nZ]at this;simpa using this
  have he:=G8 h0 hk ho.1 hb;constructor
  .intro hn;have:pQ a k=false:=by
    cases q:pQ a k with
    |false=>rfl
    |true=>exact absurd (he.1 q) (hn e (.head _))
   simp only[Ns,this,cond_false];exact i1 fun e' h'=>hn e' (.tail _ h')
  .intro e' h' hkey hnd;simp only[List.map_cons,List.nodup_cons]at hnd;rcases b9.1 h' with rfl|h'
   .simp only[Ns,he.2 hkey,cond_true];exact⟨v,rfl,h1⟩
   .have:pQ a k=false:=by
     cases q:pQ a k with
     |false=>rfl
     |true=>exact absurd (cC.2 ⟨e',h',hkey.trans (he.1 q).symm⟩) hnd.1
    simp only[Ns,this,cond_false];exact i2 e' h' hkey hnd.2
 |_::_,[],_,hl,_=>by simp at hl
 |[],_::_,_,hl,_=>by simp at hl
 |_::es,[_],ho,hl,_=>by simp at hl;omega
def Rj (hk:RD ν x key k)(hb:vK k=true){val:Value}{d:D}(cl:Nat)(hv:RD ν x val d):∀(es:List MapEntry) (kvs:List D),xA kvs=true->2*es.length=kvs.length->(∀j,j<kvs.length->RD ν x (TK es j) (kvs.getD j .any))->(∀e∈es,e.key≠key)->
  Ae k d kvs=kvs++[k,d]/\∀j,j<(kvs++[k,d]).length->RD ν x (TK (es++[⟨key,val,cl⟩]) j) ((kvs++[k,d]).getD j .any)
 |[],[],_,_,_,_=>⟨rfl,fun j hj=>by
   have:j=0\/j=1:=by simp at hj;omega
   rcases this with rfl|rfl
   .exact hk
   .exact hv⟩
 |e::es,a::v::r,ho,hl,h,hn=>by
  simp only[xA,aN]at ho;have h0:RD ν x e.key a:=h 0 aG;have h1:RD ν x e.val v:=h 1 aG;obtain⟨i1,i2⟩:=Rj hk hb cl hv es r ho.2 (by simp only[bE]at hl;omega) (fun j hj=>by
   have:=h (j+2) uw;rw[nZ]at this;simpa using this) fun e' h'=>hn e' (.tail _ h')
  have he:=G8 h0 hk ho.1 hb;have:pQ a k=false:=by
   cases q:pQ a k with
   |false=>rfl
   |true=>exact absurd (he.1 q) (hn e (.head _))
  refine⟨by simp only[Ae,this,cond_false,i1];rfl,fun j hj=>?_⟩
  match j,hj with
  |0,_=>exact h0
  |1,_=>exact h1
  |j+2,hj=>
   have:=i2 j (by simp only[ct,bE,b7]at hj⊢;omega);rw[<-nZ e]at this;simpa using this
 |_::_,[],_,hl,_,_=>by simp at hl
 |[],_::_,_,hl,_,_=>by simp at hl
 |_::es,[_],ho,hl,_,_=>by simp at hl;omega
def Xz (hk:RD ν x key k)(hb:vK k=true){val:Value}{d:D}(hv:RD ν x val d):∀(es:List MapEntry) (kvs:List D) (i:Nat) (e:MapEntry),xA kvs=true->2*es.length=kvs.length->(∀j,j<kvs.length->RD ν x (TK es j) (kvs.getD j .any))->(es.map (·.key)).Nodup->es[i]? =some e->e.key=key->
  (Ae k d kvs).length=kvs.length/\∀j,j<kvs.length->RD ν x (TK (es.modify i fun e=>{e with key:=key,val:=val}) j) ((Ae k d kvs).getD j .any)
 |[],_,i,e,_,_,_,_,hi,_=>by simp at hi
 |e0::es,a::v::r,0,e,ho,hl,h,hnd,hi,hkey=>by
  simp only[xA,aN]at ho;obtain rfl:e0=e:=by simpa using hi
  have h0:RD ν x e0.key a:=h 0 aG;have he:=(G8 h0 hk ho.1 hb).2 hkey;refine⟨by simp only[Ae,he,cond_true];rfl,fun j hj=>?_⟩;simp only[Ae,he,cond_true]
  match j,hj with
  |0,_=>rw[hkey]at h0;exact h0
  |1,_=>exact hv
  |j+2,hj=>
   have:=h (j+2) hj;rw[nZ]at this;simp only[List.modify_zero_cons];rw[nZ];simpa using this
 |e0::es,a::v::r,i+1,e,ho,hl,h,hnd,hi,hkey=>by
  simp only[xA,aN]at ho;simp only[List.map_cons,List.nodup_cons]at hnd;have hi':es[i]? =some e:=by simpa using hi
  have h0:RD ν x e0.key a:=h 0 aG;have h1:RD ν x e0.val v:=h 1 aG;obtain⟨i1,i2⟩:=Xz hk hb hv es r i e ho.2 (by simp only[bE]at hl;omega) (fun j hj=>by
   have:=h (j+2) uw;rw[nZ]at this;simpa using this) hnd.2 hi' hkey
  have:pQ a k=false:=by
   cases q:pQ a k with
   |false=>rfl
   |true=>exact absurd (cC.2 ⟨e,List.mem_of_getElem? hi',hkey.trans ((G8 h0 hk ho.1 hb).1 q).symm⟩) hnd.1
  refine⟨by simp only[Ae,this,cond_false,bE,i1],fun j hj=>?_⟩;simp only[Ae,this,cond_false,List.modify_succ_cons]
  match j,hj with
  |0,_=>exact h0
  |1,_=>exact h1
  |j+2,hj=>
   have:=i2 j (by simp only[bE]at hj;omega);rw[<-nZ e0]at this;simpa using this
 |_::_,[],_,_,_,hl,_,_,_,_=>by simp at hl
 |_::es,[_],_,_,ho,hl,_,_,_,_=>by simp at hl;omega
end
section
variable {x:X} {f:Nat->Option bm} {C:CC} {defs:List (Option Nat)} {J:Src->aX} {ev:Operand->Value} {Y:Ctx} {m:List (Nat×bm)} {L:Nat}
def tq {d:D}(h:mpO m d):∃l kvs,d=.fn 5000000 [.it l]/\look m l=some (.mpb kvs)/\xA kvs=true:=by
 unfold mpO at h;split at h
 .rename_i n l;obtain⟨rfl,h⟩:=h;split at h
  .rename_i kvs hl;exact⟨l,kvs,rfl,hl,h⟩
  .exact h.elim
 .exact h.elim
def RD.Hf {ν:List (Nat×Nat)}(hsm:∀fid n,dY ν fid=some n->n<1000000){v:Value}{l:Nat}(h:RD ν x v (.fn 5000000 [.it l])):∃b base tot,v=.map (some b)/\x.β l=some (b,base,tot):=by
 generalize hd:D.fn 5000000 [.it l]=d at h;cases h<;>simp only[reduceCtorEq,D.fn.injEq]at hd
 case fn fid n cs ds hν hl h=>have:=hsm _ _ hν;omega
 case dZ fid n cs ds hν hl h=>have:=hsm _ _ hν;omega
 case im l' b base tot hβ=>
  obtain⟨_,hd⟩:=hd;simp only[sY,D.it.injEq,dj]at hd;subst hd;exact⟨b,base,tot,rfl,hβ⟩
 all_goals (first|omega|(obtain⟨h1,_⟩:=hd;omega))
def aju {o:Oper}{i:ax}{t:TypeId}{r:Option Operand}(hc:C.op defs o=some i)(ho:o.op=.makeMap t r)(hρ:vu C defs J ev x o.op.operands.toList)(hob:i.ey Y J m)(hs:fm C.ν x f)(hL:x.β L=none):
  Br C.ν x (iY f (i.wr J L) (i.bP Y J m L)) L (i.val Y J m L) ((execOp ev o).run C.P x.w):=by
 cases r with
 |some r=>simp[CC.op,ho]at hc
 |none=>
  simp only[CC.op,ho]at hc;split at hc
  .split at hc
   .simp only[aD]at hc;subst hc;refine oH (tot:=1) (blk:=.mpb []) hs hL (iw.alloc x.w (.map #[] 0)) aG ⟨rfl,#[],0,dS x.w _,rfl,aG,fun i hi=>by simp at hi⟩ (.im L x.w.heap.size 0 1 nF) ?_ (fun l=>?_)
    .simp[execOp,ho,Instr.makeMap]
    .by_cases e:l=L
     .subst e;simp[iY,ax.wr,ax.bP,bJ,jt]
     .simp[iY,ax.wr,e,jt]
   .cases hc
  .cases hc
def Hg {l:Nat}{kvs:List D}(h:look m l=some (.mpb kvs)):TJ m (.fn 5000000 [.it l])=kvs:=by simp only[TJ,h]
def Ol {P:Program}{k:TypeId}(h:Of P k=true):WideMaps.KeyLaw P k/\∀{ν:List (Nat×Nat)}{x:X}{v:Value}{d:D},RD ν x v d->vK d=true->∃l,keyOf P k v=some l:=by
 obtain⟨e,A,he,hsz⟩:=Xe h;refine⟨A.law,fun hv hk=>?_⟩;obtain⟨a,b,_,rfl,ha,hb⟩:=hv.key hk;exact⟨_,TC A he hsz ha hb⟩
def Xy:∀(kvs:List D) (j:Nat),xA kvs=true->2*j<kvs.length->vK (kvs.getD (2*j) .any)=true
 |[],j,_,h=>by simp at h
 |[_],j,h,_=>by simp[xA]at h
 |a::v::r,0,h,_=>by simp only[xA,aN]at h;exact h.1
 |a::v::r,j+1,h,hl=>by
  simp only[xA,aN]at h;have:=Xy r j h.2 (by simp only[bE]at hl;omega);rw[show 2*(j+1)=2*j+2 by omega];simpa using this
def Q8 {ν:List (Nat×Nat)}{x:X}{P:Program}{k:TypeId}(h:Of P k=true){es:List MapEntry}{kvs:List D}(ho:xA kvs=true)(hl:2*es.length=kvs.length)(hd:∀j,j<kvs.length->RD ν x (TK es j) (kvs.getD j .any)):∀e∈es,∃l,keyOf P k e.key=some l:=by
 intro e he;obtain⟨j,hj,rfl⟩:=List.mem_iff_getElem.1 he;have h1:=hd (2*j) ae;have h2:TK es (2*j)=es[j].key:=by
  unfold TK;rw[show 2*j/2=j by omega,List.getElem?_eq_getElem hj];simp
 rw[h2]at h1;exact(Ol h).2 h1 (Xy kvs j ho ae)
def ajt {o:Oper}{i:ax}{t:TypeId}{p q:Operand}(hsm:∀fid n,dY C.ν fid=some n->n<1000000)(hc:C.op defs o=some i)(ho:o.op=.lookup t p q true)(hρ:vu C defs J ev x o.op.operands.toList)(hob:i.ey Y J m)(hs:fm C.ν x f)(hag:EC f m (i.mX J)):
  Br C.ν x (iY f (i.wr J L) (i.bP Y J m L)) L (i.val Y J m L) ((execOp ev o).run C.P x.w):=by
 simp only[CC.op,ho]at hc;split at hc
 .rename_i a b kt et h1 h2 hu;split at hc
  .rename_i z hz;split at hc
   .rename_i hk;simp only[aD]at hc;subst hc;obtain⟨k1,k2,k3,k4⟩:=hob;obtain⟨l,kvs,hd,hl,hK⟩:=tq k3;have hfl:f l=some (.mpb kvs):=by rw[<-hl];exact hag l (by simp[hd,CU])
    have hv:=hρ p rb a h1 k1;rw[hd]at hv;obtain⟨bb,base,tot,hv1,hβ⟩:=hv.Hf hsm;have hkv:=hρ q rb b h2 k2;obtain⟨hnI,hnl,es,cl,hb1,si,hb3,hb4⟩:=hs.own l _ bb base tot hfl hβ;obtain⟨law,hko⟩:=Ol hk;obtain⟨kl,hkl⟩:=hko hkv k4;have hall:=Q8 hk hK (by simpa using si) hb4;have hck:=law.check x.w es.isEmpty hkl;obtain⟨ti,zv,hi,hzv,hr⟩:=qg (x:=x) hz;have haf:iY f ((ax.lkM z a b).wr J L) ((ax.lkM z a b).bP Y J m L)=f:=by funext l';simp[iY,ax.wr]
    have htup:∀{a b:Value} {da db:D},RD C.ν x a da->RD C.ν x b db->RD C.ν x (.tuple #[a,b]) (.tup [da,db]):=fun ha hb=>.tup _ _ rfl fun i hi=>by
     match i,hi with
     |0,_=>exact ha
     |1,_=>exact hb
    obtain⟨f1,f2⟩:=Ri hkv k4 es.toList kvs hK (by simpa using si) hb4;have hobj:=MapKept.run_getObj_map (P:=C.P) hb1;rw[haf];rcases law.find x.w hkl es.toList hall with⟨r1,r2⟩|⟨j,e,r1,r2,r3⟩
    .simp only[ax.val,hd,Hg hl,f1 r2];refine nN hs (v:=.tuple #[zv,.bool false]) ?_ (htup hr (.bool _));simp[execOp,ho,hv1,Instr.lookup,run_underlying hu,hobj,hck,r1,zeroValue,run_typeInfo x.w hi,hzv,Result.andThen]
    .obtain⟨v,f3,f4⟩:=f2 e (List.mem_of_getElem? r2) r3 hb3;simp only[ax.val,hd,Hg hl,f3];refine nN hs (v:=.tuple #[e.val,.bool true]) ?_ (htup f4 (.bool _));simp[execOp,ho,hv1,Instr.lookup,run_underlying hu,hobj,hck,r1,Result.andThen]
   .cases hc
  .cases hc
 .cases hc
def aeX {k d:D}(hk:k.aR=true)(hd:d.aR=true):∀(kvs:List D),aL kvs=true->aL (Ae k d kvs)=true
 |[],_=>by simp[Ae,aL,hk,hd]
 |[_],_=>by simp[Ae,aL,hk,hd]
 |a::v::r,h=>by
  simp only[aL,aN]at h;simp only[Ae];cases pQ a k
  .simp only[cond_false,aL,aN];exact⟨h.1,h.2.1,aeX hk hd r h.2.2⟩
  .simp only[cond_true,aL,aN];exact⟨h.1,hd,h.2.2⟩
def ajx {o:Oper}{i:ax}{t:TypeId}{p q r:Operand}(hsm:∀fid n,dY C.ν fid=some n->n<1000000)(hc:C.op defs o=some i)(ho:o.op=.mapUpdate t p q r)(hρ:vu C defs J ev x o.op.operands.toList)(hob:i.ey Y J m)(hs:fm C.ν x f)(hag:EC f m (i.mX J)):
  Br C.ν x (iY f (i.wr J L) (i.bP Y J m L)) L (i.val Y J m L) ((execOp ev o).run C.P x.w):=by
 simp only[CC.op,ho]at hc;split at hc
 .rename_i a b c h1 h2 h3;split at hc
  .rename_i kt et hu;split at hc
   .rename_i hk;simp only[aD]at hc;subst hc;obtain⟨k1,k2,k2',k3,k4,vk,vn,hvd⟩:=hob;obtain⟨l,kvs,hd,hl,hK⟩:=tq k3;have hfl:f l=some (.mpb kvs):=by rw[<-hl];exact hag l (by simp[hd,CU])
    have hv:=hρ p rb a h1 k1;rw[hd]at hv;obtain⟨bb,base,tot,hv1,hβ⟩:=hv.Hf hsm;have hkv:=hρ q rb b h2 k2;have hvv:=hρ r rb c h3 k2';obtain⟨hnI,hnl,es,cl,hb1,si,hb3,hb4⟩:=hs.own l _ bb base tot hfl hβ;have hlt:=hs.dZ l bb base tot hβ;obtain⟨law,hko⟩:=Ol hk;obtain⟨kl,hkl⟩:=hko hkv k4;have hall:=Q8 hk hK (by simpa using si) hb4;have hck:=law.check x.w false hkl;have hobj:=MapKept.run_getObj_map (P:=C.P) hb1;have hset:∀ob,(setObj bb ob).run C.P x.w=.ok () {x.w with heap:=x.w.heap.setIfInBounds bb ob}:=fun ob=>MapKept.run_setObj_map ob hb1
    have hknl:(J b).d.aR=true:=by obtain⟨s1,s2,e1,_⟩:=hkv.key k4;rw[e1];rfl
    have hvnl:(J c).d.aR=true:=by rw[hvd];rfl

    obtain⟨es',cl',hrun,hlen',hnd',hrd'⟩:∃es' cl',(execOp ev o).run C.P x.w=.ok .skip {x.w with heap:=x.w.heap.setIfInBounds bb (.map es' cl')}/\2*es'.size=(Ae (J b).d (J c).d kvs).length/\(es'.toList.map (·.key)).Nodup/\∀j,j<(Ae (J b).d (J c).d kvs).length->RD C.ν x (TK es'.toList j) ((Ae (J b).d (J c).d kvs).getD j .any):=by
     rcases law.find x.w hkl es.toList hall with⟨r1,r2⟩|⟨j,e,r1,r2,r3⟩
     .obtain⟨p1,p2⟩:=Rj hkv k4 cl hvv es.toList kvs hK (by simpa using si) hb4 r2;refine⟨es.push ⟨ev q,ev r,cl⟩,cl+1, ?_,by rw[p1];simp;omega, ?_,by rw[p1];simpa using p2⟩
      .simp[execOp,ho,hv1,Instr.mapUpdate,run_underlying hu,hobj,hck,r1,hset,Result.andThen]
      .simp only[Array.toList_push,List.map_append,List.map_cons,List.map_nil];rw[List.nodup_append];refine⟨hb3,aG,fun y hy z hz=>?_⟩;obtain⟨e,he,rfl⟩:=cC.1 hy;simp only[aC]at hz;subst hz;exact r2 e he
     .obtain⟨p1,p2⟩:=Xz hkv k4 hvv es.toList kvs j e hK (by simpa using si) hb4 hb3 r2 r3;have hst:(Instr.keyThatStays (((es[j]?).map (·.key)).getD (ev q)) (ev q)).run C.P x.w=.ok (ev q) x.w:=by
       have:es[j]? =some e:=by simpa using r2
       rw[this];simp only[Option.map_some,Option.getD_some,r3];exact law.stays x.w hkl
      refine⟨es.modify j fun e=>{e with key:=ev q,val:=ev r},cl, ?_,by rw[p1];simp;omega, ?_,by rw[p1];simpa using p2⟩
      .simp[execOp,ho,hv1,Instr.mapUpdate,run_underlying hu,hobj,hck,r1,hset,hst,Result.andThen]
      .have:=MapKept.modify_keys (es:=es) j (fun e=>{e with key:=ev q,val:=ev r}) (fun e' he'=>by
        have h4:es[j]? =some e:=by simpa using r2
        rw[h4]at he';obtain rfl:=aW he';exact r3.symm)
       rw[this];exact hb3
    let w':World:={x.w with heap:=x.w.heap.setIfInBounds bb (.map es' cl')}
    have hother:∀b',b'≠bb->w'.heap[b']? =x.w.heap[b']? :=fun b' hb'=>by simp[w',Array.getElem?_setIfInBounds,show ¬bb=b' by omega]
    have hhere:w'.heap[bb]? =some (.map es' cl'):=by simp[w',hlt]
    have hsize:w'.heap.size=x.w.heap.size:=by simp[w']
    have hstep:Step x ⟨w',x.I,x.β⟩:=
     ⟨rfl,rfl,rfl,by show _<=w'.heap.size;omega,fun _ h=>h,fun b' hb'=>hother b' (fun e=>hnI (e▸hb')),fun _ _ h=>h,fun b' _ hn=>hother b' (fun e=>hn l _ hβ e.symm),fun _ h=>.inl h,fun _ _ h=>.inl h⟩
    have haf:∀l',iY f ((ax.upM a b c).wr J L) ((ax.upM a b c).bP Y J m L) l'=jt f l (some (.mpb (Ae (J b).d (J c).d kvs))) l':=by
     intro l';simp only[iY,ax.wr,hd,CU,ax.bP,Hg hl,aC,bJ,jt];by_cases e:l'=l
     .rw[ak e,ak e,ak e]
     .rw[ai e,ai e]
    refine⟨undef,⟨w',x.I,x.β⟩,.inr ⟨hrun,rfl⟩,hstep,.any _, ?_,fun _ _=>rfl⟩;refine⟨fun l' blk b' base' tot' e1 e2=>?_,fun l1 l2 b' base' tot' base'' tot'' e1 e2 e3 e4=>?_,fun b' hb'=>by show b'<w'.heap.size;rw[hsize];exact hs.imm b' hb',fun l' b' base' tot' e=>by show b'<w'.heap.size;rw[hsize];exact hs.dZ l' b' base' tot' e,rp hstep.le hs.gd⟩
    .rw[haf]at e1;by_cases e:l'=l
     .subst e;simp only[jt,aZ,aD]at e1;subst e1;have e2':x.β l'=some (b',base',tot'):=e2;rw[hβ]at e2';simp only[aD,di]at e2';obtain⟨rfl,rfl,rfl⟩:=e2';exact⟨hnI,aeX hknl hvnl kvs hnl,es',cl',hhere,hlen',hnd',fun j hj=>(hrd' j hj).mono hstep.le⟩
     .simp only[jt,e,aU]at e1;obtain⟨a1,a2⟩:=hs.own l' blk b' base' tot' e1 e2;refine⟨a1,a2.mono hstep.le (hother b' (fun eb=>?_))⟩;subst eb;exact e (hs.inj l' l b' base' tot' base tot (by rw[e1];simp) (by rw[hfl];simp) e2 hβ)
    .rw[haf]at e1 e2;refine hs.inj l1 l2 b' base' tot' base'' tot'' ?_ ?_ e3 e4
     .by_cases e:l1=l
      .rw[e,hfl];simp
      .simpa[jt,e]using e1
     .by_cases e:l2=l
      .rw[e,hfl];simp
      .simpa[jt,e]using e2
   .cases hc
  .cases hc
 .cases hc
end
end
section
variable [cN]
section
variable {x:X} {f:Nat->Option bm} {C:CC} {defs:List (Option Nat)} {J:Src->aX} {ev:Operand->Value} {Y:Ctx} {m:List (Nat×bm)} {L:Nat}
def K1 (n k:Nat)(g:Nat->Nat->Value)(i j:Nat)(hi:i<n)(hj:j<k):((List.range (n*k)).map fun q=>g (q/k) (q%k)).getD (i*k+j) undef=g i j:=by
 have hlt:=kJ hi hj;have h1:(i*k+j) /k=i:=by rw[Nat.mul_comm,Nat.mul_add_div ae,Nat.div_eq_of_lt hj];omega
 have h2:(i*k+j)%k=j:=by rw[Nat.mul_comm,Nat.mul_add_mod];exact Nat.mod_eq_of_lt hj
 simp[List.getD,hlt,h1,h2]
def aky {u:TypeId}{k:Nat}(hk0:k≠0)(hkind:(∃e',C.P.underlying u=some (.slice e'))\/C.P.underlying u=some .string){v:Value}{d:D}(hv:RD C.ν x v d)(hd:Cc m k d)(hs:fm C.ν x f)(hag:∀l,l∈cq d->f l=look m l):
  ∃news,Go.Src C.P k u v (qn m d).length news x.w/\∀i,i<(qn m d).length->((qn m d).getD i .any).cells.length=k/\∀j,j<k->
   RD C.ν x (news.getD (i*k+j) undef) (((qn m d).getD i .any).cells.getD j .any):=by
 have nothing:∀(a:Option Addr) (c:Nat),Go.Src C.P k u (.slice a 0 c) 0 [] x.w:=by
  intro a c;have hf:∀w':World,(Builtin.firstCells k 0 (.slice a 0 c)).run C.P w'=.ok #[] w':=by
   intro w';cases a<;>simp[Builtin.firstCells,loadCells,loadCellsFrom]
  exact⟨hkind,fun _=>rfl,hf _,hf _,aG,fun _ h=>ca⟩
 have some_:∀(b off n cap:Nat) (g:Nat->Nat->Value),(∀i j,i<n->j<k->x.w.cell? ⟨b,off+i*k+j,none⟩=some (g i j)/\(g i j).oneCell'=true)->
   Go.Src C.P k u (.slice (some ⟨b,off,none⟩) n cap) n ((List.range (n*k)).map fun q=>g (q/k) (q%k)) x.w:=by
  intro b off n cap g hg;have hqd:∀q,q<n*k->q/k<n/\q%k<k/\q/k*k+q%k=q:=fun q hq=>
   ⟨Nat.div_lt_of_lt_mul (by rw[Nat.mul_comm];exact hq),Nat.mod_lt _ ae,by rw[Nat.mul_comm];exact Nat.div_add_mod q k⟩
  have hcell:∀j u',((List.range (n*k)).map fun q=>g (q/k) (q%k))[j]? =some u'->x.w.cell? ((⟨b,off,none⟩:Addr).add j)=some u':=by
   intro j u' hj;obtain⟨hj2,rfl⟩:=List.getElem?_eq_some_iff.1 hj;simp at hj2;obtain⟨h1,h2,h3⟩:=hqd j hj2;rw[Addr.AW];simp only[List.getElem_map,List.getElem_range];rw[<-(hg _ _ h1 h2).1];congr 2;omega
  refine⟨hkind,fun _=>rfl,run_firstCells_some x.w k n _ n cap _ aG hcell,run_firstCells_some x.w.drew k n _ n cap _ aG (by simpa using hcell),aG,fun u' hu'=>?_⟩;obtain⟨q,hq,rfl⟩:=cC.1 hu';obtain⟨h1,h2,_⟩:=hqd q (by simpa using hq);exact(hg _ _ h1 h2).2
 cases d<;>simp only[Cc]at hd
 ·
  rename_i s;obtain⟨rfl,h2⟩:=hv.jW;subst hd;have hsz:(⟨⟨s⟩⟩:ByteArray).size=s.length:=rfl;refine⟨byteCells ⟨⟨s⟩⟩, ?_,fun i hi=>?_⟩
  .have:(qn m (.str s)).length=(⟨⟨s⟩⟩:ByteArray).size:=by simp[qn,hsz]
   rw[this];exact⟨hkind,fun _=>rfl,firstCells_string _ _,firstCells_string _ _,by rw[byteCells_length,Nat.mul_one],fun u' hu'=>by
    obtain⟨_,_,rfl⟩:=cC.1 hu';rfl⟩
  .have hi':i<s.length:=by simpa[qn]using hi
   have e:(qn m (.str s)).getD i .any=.int .u8 (s.getD i 0).toNat:=by simp[qn,List.getD,hi']
   rw[e];refine⟨rfl,fun j hj=>?_⟩;obtain rfl:j=0:=ae;have e2:(byteCells ⟨⟨s⟩⟩).getD (i*1+0) undef=.int .u8 (s.getD i 0).toNat:=by simp[byteCells,List.getD,hi']
   rw[e2];exact .int _ _
 .cases hv;exact⟨[],nothing none 0,fun i hi=>by simp[qn]at hi⟩
 .rename_i k' es;subst hd;cases hv with
  |sl a b off len cap _ _ c hlen ha hcap hm hk hn hcc hone hh=>
   subst hlen;rcases ha with rfl|⟨rfl,hI⟩
   .exact⟨[],by simpa[qn]using nothing a cap,fun i hi=>by simp[qn]at hi⟩
   .refine⟨_,some_ b off es.length cap c (fun i j hi hj=>⟨hcc i j hi hj,hone i j hi hj⟩),fun i hi=>⟨hk i hi,fun j hj=>?_⟩⟩;rw[K1 es.length k' c i j hi hj];exact hh i j hi hj
 .rename_i l k' i0 n;obtain⟨rfl,hb⟩:=hd;cases hv with
  |own0 _ _ _ a=>exact⟨[],by simpa[qn]using nothing a 0,fun i hi=>by simp[qn]at hi⟩
  |own _ _ _ _ b base tot cap aa hβ ha hcap hm ht=>
   obtain⟨g1,g2,g3⟩:=vw hs (hag l (by simp[cq])) hb;obtain⟨hnI,hk0',ht',c,T,fr,q1,q2,q3,q4⟩:=hs.own l _ b base tot g1 hβ;have hlen:(qn m (.own l k' i0 n)).length=n:=by simp only[qn];exact hZ _ _ _ g2
   rw[hlen];by_cases hn0:n=0
   .subst hn0;exact⟨[],nothing _ _,fun i hi=>ae⟩
   .have ha':=ha ae;subst ha';have hg:∀i,i<n->(qn m (.own l k' i0 n)).getD i .any=(aH m l).getD (i0+i) .any:=fun i hi=>by simp only[qn];exact ec _ _ _ _ _ hi
    refine⟨_,some_ b (base+i0*k') n cap (fun i j=>c.getD (base+(i0+i)*k'+j) undef) (fun i j hi hj=>?_),fun i hi=>?_⟩
    .have h1:=kJ (tot:=tot) (show i0+i<tot by omega) hj;refine⟨?_,((q4 (i0+i) ae).2 j hj).1⟩;rw[<-cell_of_heap q1 (by omega:base+(i0+i)*k'+j<c.size)];congr 2;rw[Nat.add_mul];omega
    .rw[hg i hi];refine⟨(q4 (i0+i) ae).1,fun j hj=>?_⟩;rw[K1 n k' (fun i j=>c.getD (base+(i0+i)*k'+j) undef) i j hi hj];exact((q4 (i0+i) ae).2 j hj).2
theorem cX {α:Type}(a b:List α)(i:Nat)(d:α):(a++b).getD i d=if i<a.length then a.getD i d else b.getD (i-a.length) d:=by
 grind
def Tp {k n mm cap:Nat}{T:TypeId}{olds news:List Value}{zs:Array Value}{es1 es2:List D}(x':X)(b:Nat)(hk0:k≠0)
  (hlo:olds.length=n*k) (hln:news.length=mm*k) (h1:es1.length=n) (h2:es2.length=mm) (hcap:n+mm<=cap) (hzs:zs.size=(cap-(n+mm))*k)
  (hx:x'.w.heap[b]? =some (.cells ((olds++news).toArray++zs) T (0,0)))
  (ho:∀i,i<n->(es1.getD i .any).cells.length=k/\∀j,j<k->(olds.getD (i*k+j) undef).oneCell'=true/\RD C.ν x' (olds.getD (i*k+j) undef) ((es1.getD i .any).cells.getD j .any))
  (hn:∀i,i<mm->(es2.getD i .any).cells.length=k/\∀j,j<k->(news.getD (i*k+j) undef).oneCell'=true/\RD C.ν x' (news.getD (i*k+j) undef) ((es2.getD i .any).cells.getD j .any)):
  oX C.ν x' b 0 cap (.buf k (es1++es2)):=by
 have hsz:((olds++news).toArray++zs).size=cap*k:=by
  simp only[Array.size_append,List.size_toArray,ct,hlo,hln,hzs,<-Nat.add_mul];congr 1;omega
 refine wO (w':=x'.w) (L:=0) x' hx ae dN ae (fun o _=>aG) (fun i hi=>?_);simp only[ct,h1,h2]at hi;have hge:∀j,j<k->(((olds++news).toArray++zs).getD (i*k+j) undef)=(olds++news).getD (i*k+j) undef:=by
  intro j hj;have:=kJ hi hj;rw[Nat.add_mul]at this;rw[<-bT];simp only[Array.toList_append];rw[cX,ak dN]
 rw[cX];by_cases h:i<n
 .grind [cX,kJ]
 .rw[ai ae,h1];refine⟨(hn (i-n) ae).1,fun j hj=>?_⟩;have hnk:n*k<=i*k:=fH _ ae;rw[hge j hj,cX,ai ae,show i*k+j-olds.length=(i-n)*k+j by rw[hlo,Nat.sub_mul];omega];exact(hn (i-n) ae).2 j hj
def XQ {news:List Value}(h:∀u∈news,u.oneCell'=true)(q:Nat)(hq:q<news.length):(news.getD q undef).oneCell'=true:=by
 grind
def fm.less {f f':Nat->Option bm}{ν:List (Nat×Nat)}(h:fm ν x f)(hf:∀l,f' l=f l\/f' l=none\/x.β l=none):fm ν x f':=by
 refine⟨fun l blk b base tot e1 e2=>?_,fun l1 l2 b base tot base' tot' e1 e2 e3 e4=>?_,h.imm,h.dZ,h.gd⟩
 .rcases hf l with e|e|e
  .exact h.own l blk b base tot (e▸e1) e2
  .rw[e]at e1;cases e1
  .rw[e]at e2;cases e2
 .refine h.inj l1 l2 b base tot base' tot' ?_ ?_ e3 e4
  .grind
  grind
def KH {f':Nat->Option bm}{t u ty e:TypeId}{ti:TypeInfo}{z:Value}{k:Nat}{base:Option Addr}{sLen sCap mm:Nat}{olds news:List Value}{xv:Value}{es1 E:List D}
  (hs:fm C.ν x f) (hL:x.β L=none) (ht:C.P.underlying t=some (.slice e)) (hi:C.P.info? e=some ti) (hz:ti.zero=some z) (hzd:z.cells.size=ti.size) (hk:ti.size=k) (hk0:k≠0) (hby:ti.bytes<=65536)
  (hold:(Builtin.firstCells k sLen (.slice base sLen sCap)).run C.P x.w.drew=.ok olds.toArray x.w.drew) (hol:olds.length=sLen*k) (h1:es1.length=sLen) (h2:E.length=mm)
  (ho:∀i,i<sLen->(es1.getD i .any).cells.length=k/\∀j,j<k->(olds.getD (i*k+j) undef).oneCell'=true/\RD C.ν x (olds.getD (i*k+j) undef) ((es1.getD i .any).cells.getD j .any))
  (hsrc:Go.Src C.P k u xv mm news x.w) (hn:∀i,i<mm->(E.getD i .any).cells.length=k/\∀j,j<k->RD C.ν x (news.getD (i*k+j) undef) ((E.getD i .any).cells.getD j .any))
  (hg:sCap<sLen+mm) (hle:sLen+mm<=1073741824) (hf:∀l,l≠L->f' l=f l\/f' l=none) (hfL:f' L=some (.buf k (es1++E)))
  {r:Result Next} (hr:r=((Builtin.append_ #[t,u] ty #[.slice base sLen sCap,xv]).run C.P x.w).andThen fun v w'=>.ok (.value v) w'):
  Br C.ν x f' L (.own L k 0 (sLen+mm)) r:=by
 subst hk;have hfit:=growslice_fits_wide (need:=sLen+mm) (old:=sCap) (bytes:=ti.bytes) hg (by
  have:(sLen+mm+(sLen+mm) /4+192)*ti.bytes<=(sLen+mm+(sLen+mm) /4+192)*65536:=Nat.mul_le_mul_left _ hby;omega)
 have hrun:=run_append_grow_src x.w t u ty e ti z ht hi hz base sLen sCap olds hold xv mm news hsrc hg ae hfit;have hcge:=grownCap_ge x.w (sLen+mm) sCap e;have hcle:=grownCap_le_maxLen x.w (sLen+mm) sCap e (by simp only[maxLen];omega);generalize grownCap x.w (sLen+mm) sCap e=cap at hrun hcge hcle;have hgrow:iw x.w (x.w.drew.alloc (.cells ((olds++news).toArray++Builtin.zeroCells z.cells (cap-(sLen+mm))) e)):=by
  refine⟨rfl,rfl,rfl, ?_,fun b hb=>?_⟩
  .have:=(iw.alloc x.w.drew (.cells ((olds++news).toArray++Builtin.zeroCells z.cells (cap-(sLen+mm))) e)).size;exact this
  .exact lN x.w.drew _ b hb
 have hlex:=Hc (tot:=cap) hs hgrow hL;have hs':fm C.ν x (fun l=>if f' l=none then none else f l):=hs.less (fun l=>by
  by_cases h:f' l=none
  .right;left;simp[h]
  .left;simp[h])
 refine oH (f:=fun l=>if f' l=none then none else f l) (v:=.slice (some ⟨x.w.heap.size,0,none⟩) (sLen+mm) cap) (tot:=cap) (blk:=.buf ti.size (es1++E)) hs' hL hgrow ?_ ?_ ?_ ?_ (fun l=>?_)
 .show x.w.heap.size<(x.w.drew.heap.push _).size;rw[Array.size_push];exact Nat.lt_succ_self _
 .exact Tp (n:=sLen) (mm:=mm) (olds:=olds) (news:=news) (T:=e) (zs:=Builtin.zeroCells z.cells (cap-(sLen+mm))) _ _ hk0 hol hsrc.newsLen h1 h2 hcge
   (by rw[size_zeroCells,hzd]) (dS x.w.drew _)
   (fun i hi=>⟨(ho i hi).1,fun j hj=>⟨((ho i hi).2 j hj).1,((ho i hi).2 j hj).2.mono hlex⟩⟩)
   (fun i hi=>⟨(hn i hi).1,fun j hj=>⟨XQ hsrc.one _ (by rw[hsrc.newsLen];exact kJ hi hj),((hn i hi).2 j hj).mono hlex⟩⟩)
 .exact .own L _ 0 (sLen+mm) x.w.heap.size 0 cap cap ⟨x.w.heap.size,0,none⟩ nF (fun _=>aG) hcge hcle ae
 .rw[hr,hrun];rfl
 .by_cases e:l=L
  .subst e;simp[jt,hfL]
  .simp only[jt,e,aU];rcases hf l e with h|h
   .by_cases h':f' l=none
    .rw[ak h'];exact h'
    .rw[ai h'];exact h
   .rw[ak h];exact h
def zO {t u ty e:TypeId}{k:Nat}{ti:TypeInfo}{a:Addr}{sLen sCap:Nat}{xv:Value}(ht:C.P.underlying t=some (.slice e))(hi:C.P.info? e=some ti)(hk:ti.size=k)(hsrc:Go.Src C.P k u xv 0 [] x.w)(hc:sLen<=sCap):
  (Builtin.append_ #[t,u] ty #[.slice (some a) sLen sCap,xv]).run C.P x.w=.ok (.slice (some a) sLen sCap) x.w:=by
 subst hk;rcases hsrc.kind with⟨e',hk⟩|hk<;>simp[Builtin.append_,run_underlying ht,run_underlying hk,sizeOf,typeInfo,hi,hsrc.len,hc,hsrc.cells,storeCells]
def GJ {t u ty e:TypeId}{k:Nat}{ti:TypeInfo}{xv:Value}(ht:C.P.underlying t=some (.slice e))(hi:C.P.info? e=some ti)(hk:ti.size=k)(hsrc:Go.Src C.P k u xv 0 [] x.w):
  (Builtin.append_ #[t,u] ty #[.slice none 0 0,xv]).run C.P x.w=.ok (.slice none 0 0) x.w:=by
 subst hk;rcases hsrc.kind with⟨e',hk⟩|hk<;>simp[Builtin.append_,run_underlying ht,run_underlying hk,sizeOf,typeInfo,hi,hsrc.len,hsrc.cells,storeCells]
def ajq {o:Oper}{i:ax}{p q:Operand}{t u:TypeId}(hc:C.op defs o=some i)(ho:o.op=.call {callee:=.builtin .append,args:=#[p,q],argTypes:=#[t,u]})(hρ:vu C defs J ev x o.op.operands.toList)(hob:i.ey Y J m)(hs:fm C.ν x f)(hag:EC f m (i.mX J))(hL:x.β L=none):
  Br C.ν x (iY f (i.wr J L) (i.bP Y J m L)) L (i.val Y J m L) ((execOp ev o).run C.P x.w):=by
 have hcc:∃a b e,C.src defs p=some a/\C.src defs q=some b/\C.P.underlying t=some (.slice e)/\((∃e',C.P.underlying u=some (.slice e'))\/C.P.underlying u=some .string)/\
   ¬(C.P.cellsOf e=0\/C.P.bytesOf e>65536\/C.P.bytesOf e=0\/qh C.P e=false)/\i=.app (C.P.cellsOf e) a b:=by
  simp only[CC.op,ho]at hc;split at hc
  .rename_i a b e e' h1 h2 h3 h4;split at hc
   .cases hc
   .rename_i hn;simp only[aD]at hc;exact⟨a,b,e,h1,h2,h3,.inl ⟨_,h4⟩,hn,hc.symm⟩
  .rename_i a b e h1 h2 h3 h4;split at hc
   .cases hc
   .rename_i hn;simp only[aD]at hc;exact⟨a,b,e,h1,h2,h3,.inr h4,hn,hc.symm⟩
  .cases hc
 obtain⟨a,b,e,h1,h2,hu,hu2,hn,rfl⟩:=hcc;have hce:C.P.cellsOf e≠0:=fun h=>hn (.inl h)
 obtain⟨ti,hti,htis⟩:=o9 hce;have hby:ti.bytes<=65536:=by
  have:¬C.P.bytesOf e>65536:=fun h=>hn (.inr (.inl h))
  simp[Program.bytesOf,hti]at this;omega
 obtain⟨z,hz,hzl⟩:∃z,sW C.P e=some z/\z.cells.length=C.P.cellsOf e:=by
  have hzf:qh C.P e=true:=by
   cases h:qh C.P e
   .exact absurd (.inr (.inr (.inr h))) hn
   .rfl
  unfold qh at hzf;split at hzf
  .rename_i z hz;exact⟨z,hz,by simpa using hzf⟩
  .cases hzf
 obtain⟨ti',z',hti',hzv,hzr⟩:=qg (x:=x) hz;obtain rfl:ti'=ti:=by rw[hti]at hti';exact(aW hti').symm
 obtain⟨k1,k2,k3,k4⟩:=hob;have hv:=hρ p dw a h1 k1;have hw:=hρ q dw b h2 k2;have hag2:∀l,l∈cq (J b).d->f l=look m l:=fun l hl=>hag l (by simp;exact .inr hl)
 have hag1:∀l,l∈cq (J a).d->f l=look m l:=fun l hl=>hag l (by simp;exact .inl hl)
 obtain⟨news,hsrc,hnews⟩:=aky (u:=u) hce (hu2.imp (fun⟨e',h⟩=>⟨e',h⟩) id) hw k3 hs hag2;have hsz:z'.cells.size=ti'.size:=by have:=(hzr.cells ae).1;omega
 have hr:(execOp ev o).run C.P x.w=((Builtin.append_ #[t,u] o.type #[ev p,ev q]).run C.P x.w).andThen fun v w'=>.ok (.value v) w':=by
  simp[execOp,ho,resolve,invoke,builtin]
 generalize hels:qn m (J b).d=E at*
 generalize hep:ev p=vp at*

 have nobase:∀(a0:Option Addr) (f':Nat->Option bm),vp=.slice a0 0 0->E.length<=1073741824->(∀l,l≠L->f' l=f l\/f' l=none)->f' L=some (.buf (C.P.cellsOf e) E)->
   Br C.ν x f' L (.own L (C.P.cellsOf e) 0 E.length) ((execOp ev o).run C.P x.w):=by
  intro a0 f' hvp hle hf hfL;subst hvp;by_cases hm0:E.length=0
  .have hn0:news=[]:=lI (by rw[hsrc.newsLen,hm0];simp);rw[hm0]at hsrc⊢;subst hn0;have hap:(Builtin.append_ #[t,u] o.type #[.slice a0 0 0,ev q]).run C.P x.w=.ok (.slice a0 0 0) x.w:=by
    cases a0 with
    |none=>exact GJ hu hti htis hsrc
    |some a=>exact zO hu hti htis hsrc (aP _)
   rw[hr,hap];refine⟨.slice a0 0 0,x,.inl rfl,.refl x,.own0 L _ 0 a0,hs.less fun l=>?_,fun _ _=>rfl⟩;by_cases e:l=L
   .subst e;exact .inr (.inr hL)
   .rcases hf l e with h|h
    .exact .inl h
    .exact .inr (.inl h)
  .have:=KH (f':=f') (base:=a0) (sLen:=0) (sCap:=0) (olds:=[]) (es1:=[]) (E:=E) (mm:=E.length) hs hL hu hti hzv hsz htis hce hby
    (by cases a0<;>simp[Builtin.firstCells,loadCells,loadCellsFrom]) aG rfl rfl (fun i hi=>ae) hsrc hnews ae ae hf (by simpa using hfL) hr
   simpa using this
 cases hd:(J a).d<;>simp only[hd]at k4
 ·
  have he:(ax.app (C.P.cellsOf e) a b).bP Y J m L=cL m L (.buf (C.P.cellsOf e) E):=by simp[ax.bP,hd,hels]
  have hva:(ax.app (C.P.cellsOf e) a b).val Y J m L=.own L (C.P.cellsOf e) 0 E.length:=by simp[ax.val,hd,hels]
  have hwr:(ax.app (C.P.cellsOf e) a b).wr J L=[L]:=by simp[ax.wr,hd,cq]
  rw[he,hva,hwr];rw[hd]at hv;cases hv;exact nobase _ _ rfl k4 (fun l hl=>.inl (by simp[iY,hl])) (by simp[iY,bJ])
 .rename_i l k' i n;obtain⟨rfl,hbk,hle⟩:=k4;rw[hd]at hv;have he:(ax.app (C.P.cellsOf e) a b).bP Y J m L=cL (cQ m l) L (.buf (C.P.cellsOf e) ((((aH m l).drop i).take n)++E)):=by simp[ax.bP,hd,hels]
  have hva:(ax.app (C.P.cellsOf e) a b).val Y J m L=.own L (C.P.cellsOf e) 0 (n+E.length):=by simp[ax.val,hd,hels]
  have hwr:(ax.app (C.P.cellsOf e) a b).wr J L=[L,l]:=by simp[ax.wr,hd,cq]
  rw[he,hva,hwr];have hff:∀l',l'≠L->iY f [L,l] (cL (cQ m l) L (.buf (C.P.cellsOf e) ((((aH m l).drop i).take n)++E))) l'=if l'=l then none else f l':=by
   intro l' hl';by_cases e1:l'=l
   .subst e1;simp[iY,bJ,eY,hl']
   .simp[iY,hl',e1]
  have hffL:iY f [L,l] (cL (cQ m l) L (.buf (C.P.cellsOf e) ((((aH m l).drop i).take n)++E))) L=some (.buf (C.P.cellsOf e) ((((aH m l).drop i).take n)++E)):=by simp[iY,bJ]
  have hff':∀l',l'≠L->iY f [L,l] (cL (cQ m l) L (.buf (C.P.cellsOf e) ((((aH m l).drop i).take n)++E))) l'=f l'\/iY f [L,l] (cL (cQ m l) L (.buf (C.P.cellsOf e) ((((aH m l).drop i).take n)++E))) l'=none:=by
   intro l' hl';rw[hff l' hl'];by_cases e1:l'=l
   .rw[ak e1];exact .inr rfl
   .rw[ai e1];exact .inl rfl
  cases hv with
  |own0=>
   have:=nobase _ (iY f [L,l] (cL (cQ m l) L (.buf (C.P.cellsOf e) ((((aH m l).drop i).take 0)++E)))) rfl ae hff' (by simpa using hffL);simpa using this
  |own _ _ _ _ bk base tot cap ad hβ ha hcap hm ht=>
   obtain⟨g1,g2,g3⟩:=vw hs (hag1 l (by simp[hd,cq])) hbk;obtain⟨hnI,hk0',ht',c,T,fr,q1,q2,q3,q4⟩:=hs.own l _ bk base tot g1 hβ;have hlen1:(((aH m l).drop i).take n).length=n:=hZ _ _ _ g2;have hgt:∀j,j<n->(((aH m l).drop i).take n).getD j .any=(aH m l).getD (i+j) .any:=fun j hj=>ec _ _ _ _ _ hj
   by_cases hroom:n+E.length<=cap
   ·
    have hcsz:base+i*C.P.cellsOf e+cap*C.P.cellsOf e<=c.size:=by
     have:i*C.P.cellsOf e+cap*C.P.cellsOf e<=tot*C.P.cellsOf e:=by rw[<-Nat.add_mul];exact fH _ ae
     omega
    have hnc:n*C.P.cellsOf e+news.length<=cap*C.P.cellsOf e:=by rw[hsrc.newsLen,<-Nat.add_mul];exact fH _ hroom
    have hrun:(Builtin.append_ #[t,u] o.type #[.slice (some ad) n cap,ev q]).run C.P x.w=.ok (.slice (some ad) (n+E.length) cap) (x.w.setCells bk (base+i*C.P.cellsOf e+n*C.P.cellsOf e) news):=by
     by_cases hc0:cap=0
     .have hm0:E.length=0:=ae;have hn0:news=[]:=lI (by rw[hsrc.newsLen,hm0];simp);subst hn0;rw[hm0]at hsrc⊢;rw[zO hu hti htis hsrc hcap];rfl
     .have ha':=ha ae;subst ha';have:=run_append_room_src x.w t u o.type e ti' hu hti bk (base+i*C.P.cellsOf e) n cap (ev q) E.length news (by rw[htis];exact hsrc) hroom
       (fun j hj=>by rw[htis,cell_of_heap q1 ae];rfl)
       (fun j hj=>by
         rw[htis];have:=q3 (base+i*C.P.cellsOf e+n*C.P.cellsOf e+j) ae;simp only[World.frozen?,q1];simp only[eo,cK];omega)
      rw[htis]at this;exact this
    obtain⟨c',s1,s2,s3⟩:=lP bk news (base+i*C.P.cellsOf e+n*C.P.cellsOf e) x.w c T fr q1 ae;obtain⟨f1,f2,f3,f4⟩:=kS bk news (base+i*C.P.cellsOf e+n*C.P.cellsOf e) x.w;generalize hw':x.w.setCells bk (base+i*C.P.cellsOf e+n*C.P.cellsOf e) news=w' at*
    have hother:∀b',b'≠bk->w'.heap[b']? =x.w.heap[b']? :=fun b' hb'=>by rw[<-hw'];exact kT bk _ _ _ b' hb'
    have hlL:l≠L:=fun e1=>by subst e1;rw[hβ]at hL;cases hL
    have hstep:Step x ⟨w',x.I,eQ x.β L (bk,base+i*C.P.cellsOf e,cap)⟩:=by
     refine⟨f1,f2,f3,by show _<=w'.heap.size;rw[f4];exact aP _,fun _ h=>h,fun b' hb'=>hother b' (fun e1=>hnI (e1▸hb')),fun l' p' hp=>?_,
      fun b' _ hn'=>hother b' (fun e1=>hn' l _ hβ e1.symm),fun _ h=>.inl h,fun l' p' hp=>?_⟩
     .have:l'≠L:=fun e1=>by rw[e1,hL]at hp;cases hp
      simp[eQ,this,hp]
     .by_cases e1:l'=L
      .simp only[eQ,e1,aZ,aD]at hp;exact .inr (.inr ⟨l,_,hβ,by rw[<-hp]⟩)
      .simp only[eQ,e1,aU]at hp;exact .inl hp
    have hle2:=hstep.le;rw[hr,hrun];refine⟨_,⟨w',x.I,eQ x.β L (bk,base+i*C.P.cellsOf e,cap)⟩,.inl rfl,hstep,
     .own L _ 0 _ bk (base+i*C.P.cellsOf e) cap cap ad nF (fun h=>by rw[ha h];simp) hroom hm ae, ?_,fun l' hl'=>by simp[eQ,hl']⟩
    have hblk:oX C.ν ⟨w',x.I,eQ x.β L (bk,base+i*C.P.cellsOf e,cap)⟩ bk (base+i*C.P.cellsOf e) cap (.buf (C.P.cellsOf e) ((((aH m l).drop i).take n)++E)):=by
     refine⟨hk0',by rw[ct,hlen1];exact hroom,c',T,fr,s1,ae,fun o'' ho''=>q3 o'' ae,fun i' hi'=>?_⟩;rw[ct,hlen1]at hi';rw[cX,hlen1];by_cases hi2:i'<n
     .rw[ak hi2,hgt i' hi2];refine⟨(q4 (i+i') ae).1,fun j hj=>?_⟩;have hlt:=kJ hi2 hj;rw[s3,ai ae];have:=(q4 (i+i') ae).2 j hj;rw[show base+(i+i')*C.P.cellsOf e+j=base+i*C.P.cellsOf e+i'*C.P.cellsOf e+j by rw[Nat.add_mul];omega]at this;exact⟨this.1,this.2.mono hle2⟩
     .rw[ai hi2];obtain⟨a1,a2⟩:=hnews (i'-n) ae;refine⟨a1,fun j hj=>?_⟩;have hnk:n*C.P.cellsOf e<=i'*C.P.cellsOf e:=fH _ ae;have hlt:=kJ (show i'-n<E.length by omega) hj;rw[<-hsrc.newsLen,Nat.sub_mul]at hlt;rw[s3,ak ae,show base+i*C.P.cellsOf e+i'*C.P.cellsOf e+j-(base+i*C.P.cellsOf e+n*C.P.cellsOf e)=(i'-n)*C.P.cellsOf e+j by rw[Nat.sub_mul];omega];exact⟨XQ hsrc.one _ (by rw[Nat.sub_mul];omega),(a2 j hj).mono hle2⟩
    refine⟨fun l' blk b' base' tot' e1 e2=>?_,fun l1 l2 b' base' tot' base'' tot'' e1 e2 e3 e4=>?_,fun b' hb'=>by show b'<w'.heap.size;rw[f4];exact hs.imm b' hb',fun l' b' base' tot' e1=>?_,rp hstep.le hs.gd⟩
    .by_cases h:l'=L
     .subst h;rw[hffL]at e1;simp only[eQ,aZ,aD,di]at e2;obtain⟨rfl,rfl,rfl⟩:=e2;obtain rfl:=aW e1;exact⟨hnI,hblk⟩
     .rw[hff l' h]at e1;by_cases h2:l'=l
      .rw[ak h2]at e1;cases e1
      .rw[ai h2]at e1;simp only[eQ,h,aU]at e2;obtain⟨a1,a2⟩:=hs.own l' blk b' base' tot' e1 e2;refine⟨a1,a2.mono hle2 (hother b' (fun eb=>?_))⟩;subst eb;exact h2 (hs.inj l' l b' base' tot' base tot (by rw[e1];simp) (by rw[g1];simp) e2 hβ)
    .have key:∀l1 b1 base1 tot1,l1≠L->iY f [L,l] (cL (cQ m l) L (.buf (C.P.cellsOf e) ((((aH m l).drop i).take n)++E))) l1≠none->x.β l1=some (b1,base1,tot1)->b1≠bk/\f l1≠none:=by
      intro l1 b1 base1 tot1 h1' h2' h3';rw[hff l1 h1']at h2';by_cases h:l1=l
      .rw[ak h]at h2';exact absurd rfl h2'
      .rw[ai h]at h2';refine⟨fun eb=>?_,h2'⟩;subst eb;exact h (hs.inj l1 l b1 base1 tot1 base tot h2' (by rw[g1];simp) h3' hβ)
     by_cases h1':l1=L<;>by_cases h2':l2=L
     .rw[h1',h2']
     .exfalso;simp only[eQ,h1',aZ,aD,di]at e3;simp only[eQ,h2',aU]at e4;exact(key l2 b' _ _ h2' e2 e4).1 e3.1.symm
     .exfalso;simp only[eQ,h2',aZ,aD,di]at e4;simp only[eQ,h1',aU]at e3;exact(key l1 b' _ _ h1' e1 e3).1 e4.1.symm
     .simp only[eQ,h1',aU]at e3;simp only[eQ,h2',aU]at e4;exact hs.inj l1 l2 b' base' tot' base'' tot'' (key l1 b' _ _ h1' e1 e3).2 (key l2 b' _ _ h2' e2 e4).2 e3 e4
    .show b'<w'.heap.size;rw[f4];by_cases h:l'=L
     .simp only[eQ,h,aZ,aD,di]at e1;obtain⟨rfl,_,_⟩:=e1;exact hs.dZ l _ _ _ hβ
     .simp only[eQ,h,aU]at e1;exact hs.dZ l' _ _ _ e1
   ·
    have hold:∃olds:List Value,(Builtin.firstCells (C.P.cellsOf e) n (.slice (some ad) n cap)).run C.P x.w.drew=.ok olds.toArray x.w.drew/\olds.length=n*C.P.cellsOf e/\
      ∀j,j<n->∀j',j'<C.P.cellsOf e->(olds.getD (j*C.P.cellsOf e+j') undef).oneCell'=true/\RD C.ν x (olds.getD (j*C.P.cellsOf e+j') undef) (((aH m l).getD (i+j) .any).cells.getD j' .any):=by
     by_cases hn0:n=0
     .subst hn0;exact⟨[],by simp[Builtin.firstCells,loadCells,loadCellsFrom],aG,fun j hj=>ae⟩
     .have ha':=ha ae;subst ha';have hqd:∀q,q<n*C.P.cellsOf e->q/C.P.cellsOf e<n/\q%C.P.cellsOf e<C.P.cellsOf e/\q/C.P.cellsOf e*C.P.cellsOf e+q%C.P.cellsOf e=q:=fun q hq=>
       ⟨Nat.div_lt_of_lt_mul (by rw[Nat.mul_comm];exact hq),Nat.mod_lt _ ae,by rw[Nat.mul_comm];exact Nat.div_add_mod q _⟩
      have hbase:∀q,q<n*C.P.cellsOf e->base+i*C.P.cellsOf e+q<c.size:=fun q hq=>by
       have:i*C.P.cellsOf e+n*C.P.cellsOf e<=tot*C.P.cellsOf e:=by rw[<-Nat.add_mul];exact fH _ ae
       omega
      refine⟨(List.range (n*C.P.cellsOf e)).map fun q=>c.getD (base+i*C.P.cellsOf e+q) undef, ?_,aG,fun j hj j' hj'=>?_⟩
      .refine run_firstCells_some x.w.drew _ n _ n cap _ aG (fun j u' hj=>?_);obtain⟨hj2,rfl⟩:=List.getElem?_eq_some_iff.1 hj;simp at hj2;rw[Addr.AW];simp only[List.getElem_map,List.getElem_range];exact cell_of_heap (w:=x.w.drew) q1 (hbase j hj2)
      .have hlt:=kJ hj hj';have e1:((List.range (n*C.P.cellsOf e)).map fun q=>c.getD (base+i*C.P.cellsOf e+q) undef).getD (j*C.P.cellsOf e+j') undef=c.getD (base+(i+j)*C.P.cellsOf e+j') undef:=by
        simp only[List.getD,List.getElem?_map,List.getElem?_range hlt,Option.map_some,Option.getD_some];congr 1;rw[Nat.add_mul];omega
       rw[e1];exact(q4 (i+j) ae).2 j' hj'
    obtain⟨olds,o1,o2,o3⟩:=hold;refine KH (base:=some ad) (sLen:=n) (sCap:=cap) (olds:=olds) (es1:=((aH m l).drop i).take n) (E:=E) (mm:=E.length) hs hL hu hti hzv hsz htis hce hby
     o1 o2 hlen1 rfl (fun j hj=>?_) hsrc hnews ae ae hff' hffL hr
    rw[hgt j hj];exact⟨(q4 (i+j) ae).1,o3 j hj⟩
end
end
section
variable [cN]
section
variable {ν:List (Nat×Nat)} {x:X} {f:Nat->Option bm} {m:List (Nat×bm)}
def X.nb (x:X)(f:Nat->Option bm):X:=⟨x.w,fun b=>x.I b\/∃l p,x.β l=some p/\p.1=b/\f l≠none,x.β⟩
def oL (x:X)(f:Nat->Option bm):Le x (x.nb f):=⟨fun _ h=>.inl h,fun _ _=>rfl,fun _ _ h=>h⟩
theorem D.tt (ds:List D):(D.agg ds).aR=aL ds:=by simp[D.aR]
def wQ {l k n:Nat}(hs:fm ν x f)(hag:∀l,look m l≠none->f l=look m l)(hb:dW m l k n){b base tot:Nat}(hβ:x.β l=some (b,base,tot)):
  f l=some (.buf k (aH m l))/\n<=(aH m l).length/\¬x.I b/\oX ν x b base tot (.buf k (aH m l)):=by
 have hne:look m l≠none:=by
  intro h;simp[dW,h]at hb
 obtain⟨g1,g2,_⟩:=vw hs (hag l hne) hb;exact⟨g1,g2,hs.own l _ b base tot g1 hβ⟩
def DQ {k:Nat}{es:List D}{cs:List Sh}{g:Nat->Nat->Value}(hk0:0<k)
  (hV:∀(e:D) (c:Nat->Value),e.cells.length=k->(∀j,j<k->RD ν x (c j) (e.cells.getD j .any))->gL m cs e->
    (iX m cs e).cells.length=k/\(iX m cs e).aR=true/\∀j,j<k->RD ν (x.nb f) (c j) ((iX m cs e).cells.getD j .any))
  (hes:∀i,i<es.length->(es.getD i .any).cells.length=k/\∀j,j<k->RD ν x (g i j) ((es.getD i .any).cells.getD j .any))
  (ho:∀e∈es,gL m cs e) (i:Nat) (hi:i<es.length):
  ((es.map (iX m cs)).getD i .any).cells.length=k/\((es.map (iX m cs)).getD i .any).aR=true/\∀j,j<k->RD ν (x.nb f) (g i j) (((es.map (iX m cs)).getD i .any).cells.getD j .any):=by
 have e1:(es.map (iX m cs)).getD i .any=iX m cs (es.getD i .any):=by simp[List.getD,hi]
 rw[e1];exact hV _ (g i) (hes i hi).1 (hes i hi).2 (ho _ (by rw[xk _ _ _ hi];exact List.getElem_mem _))
mutual
theorem vS (hs:fm ν x f)(hag:∀l,look m l≠none->f l=look m l):∀(s:Sh) (v:Value) (d:D),RD ν x v d->iv m s d->
  RD ν (x.nb f) v (kM m s d)/\(kM m s d).aR=true/\(d.cells.length=1->d.isAgg=false->(kM m s d).cells=[kM m s d])
 | .a,v,d,h,ho=>by
  simp only[iv]at ho;have hm:RD ν (x.nb f) v d:=h.mono (oL x f);cases d<;>simp only[kM]<;>first
   |exact⟨hm,ho,fun h1 h2=>by simp_all[D.cells,D.isAgg]⟩
   |skip
  cases h;exact⟨.sl none 0 0 0 0 0 [] (fun _ _=>undef) rfl (.inl rfl) (aP _) (by simp[maxLen]) (fun _ h=>ae) (fun _ h=>ae) (fun _ _ h=>ae) (fun _ _ h=>ae) (fun _ _ h=>ae),rfl,fun _ _=>rfl⟩
 | .sl k cs,v,d,h,ho=>by
  have hm:RD ν (x.nb f) v d:=h.mono (oL x f);cases d<;>simp only[kM]<;>simp only[iv]at ho<;>first
   |exact⟨hm,ho,fun h1 h2=>by simp_all[D.cells,D.isAgg]⟩
   |skip
  .cases h;exact⟨.sl none 0 0 0 0 k [] (fun _ _=>undef) rfl (.inl rfl) (aP _) (by simp[maxLen]) (fun _ h=>e8) (fun _ h=>e8) (fun _ _ h=>e8) (fun _ _ h=>e8) (fun _ _ h=>e8),rfl,fun _ _=>rfl⟩
  .rename_i l k' i c;obtain⟨hb,hel⟩:=ho;cases h with
   |own0=>
    simp only[List.take_zero,List.map_nil];exact⟨.sl _ 0 0 0 0 k' [] (fun _ _=>undef) rfl (.inl rfl) (aP _) (by simp[maxLen]) (fun _ h=>e8) (fun _ h=>e8) (fun _ _ h=>e8) (fun _ _ h=>e8) (fun _ _ h=>e8),rfl,fun _ _=>rfl⟩
   |own _ _ _ _ b base tot cap a hβ ha hcap hmx ht=>
    obtain⟨g1,g2,hnI,hk0,ht',cc,T,fr,q1,q2,q3,q4⟩:=wQ hs hag hb hβ;have hlen:(((aH m l).drop i).take c).length=c:=hZ _ _ _ g2;have hgt:∀j,j<c->(((aH m l).drop i).take c).getD j .any=(aH m l).getD (i+j) .any:=fun j hj=>ec _ _ _ _ _ hj
    have hrow:=DQ (f:=f) (k:=k') (cs:=cs) (es:=((aH m l).drop i).take c) (g:=fun i' j=>cc.getD (base+(i+i')*k'+j) undef) hk0 (vT hs hag cs)
     (fun i' hi'=>by
       rw[hlen]at hi';rw[hgt i' hi'];exact⟨(q4 (i+i') ae).1,fun j hj=>((q4 (i+i') ae).2 j hj).2⟩) hel
    refine⟨.sl (some a) b (base+i*k') c cap k' _ (fun i' j=>cc.getD (base+(i+i')*k'+j) undef) (by rw[bj,hlen]) ?_ hcap hmx (fun i' hi'=>(hrow i' ae).1) (fun i' hi'=>(hrow i' ae).2.1) (fun i' j hi' hj=>?_) (fun i' j hi' hj=>?_) (fun i' j hi' hj=>(hrow i' ae).2.2 j hj),rfl,fun _ _=>rfl⟩
    .by_cases hc0:c=0
     .left;exact lI (by simp[hlen,hc0])
     .right;exact⟨by rw[ha ae],.inr ⟨l,_,hβ,rfl,by rw[g1];simp⟩⟩
    .have h1:=kJ (tot:=tot) (show i+i'<tot by omega) hj;show x.w.cell? _=_;rw[<-cell_of_heap q1 (by omega:base+(i+i')*k'+j<cc.size)];congr 2;rw[Nat.add_mul];omega
    .exact((q4 (i+i') ae).2 j hj).1
 | .pt cs,v,d,h,ho=>by
  have hm:RD ν (x.nb f) v d:=h.mono (oL x f);cases d<;>simp only[kM]<;>simp only[iv]at ho<;>first
   |exact⟨hm,ho,fun h1 h2=>by simp_all[D.cells,D.isAgg]⟩
   |skip
  rename_i l k' i o;obtain⟨hb,hel⟩:=ho;cases h with
  |ptr _ _ _ _ b base tot at_ hβ hat=>
   obtain⟨g1,g2,hnI,hk0,ht',cc,T,fr,q1,q2,q3,q4⟩:=wQ hs hag hb hβ;have hrow:=DQ (f:=f) (k:=k') (cs:=cs) (es:=aH m l) (g:=fun i' j=>cc.getD (base+i'*k'+j) undef) hk0 (vT hs hag cs)
    (fun i' hi'=>⟨(q4 i' hi').1,fun j hj=>((q4 i' hi').2 j hj).2⟩) hel
   refine⟨.ref b base k' i o at_ _ (fun i' j=>cc.getD (base+i'*k'+j) undef) (.inr ⟨l,_,hβ,rfl,by rw[g1];simp⟩) hat (fun i' hi'=>(hrow i' (by simpa using hi')).1) (fun i' hi'=>(hrow i' (by simpa using hi')).2.1)
    (fun i' j hi' hj=>?_) (fun i' j hi' hj=>((q4 i' (by simpa using hi')).2 j hj).1) (fun i' j hi' hj=>(hrow i' (by simpa using hi')).2.2 j hj),rfl,fun _ _=>rfl⟩
   have h1:=kJ (tot:=tot) (show i'<tot by simp at hi';omega) hj;exact cell_of_heap q1 ae
 | .kp cs,v,d,h,ho=>by
  have hm:RD ν (x.nb f) v d:=h.mono (oL x f);cases d<;>simp only[kM]<;>simp only[iv]at ho<;>first
   |exact⟨hm,ho,fun h1 h2=>by simp_all[D.cells,D.isAgg]⟩
   |skip
  rename_i l k' i c;obtain⟨hb,hel⟩:=ho;cases h with
  |own0=>
   simp only[List.take_zero,List.map_nil];exact⟨.sl _ 0 0 0 0 k' [] (fun _ _=>undef) rfl (.inl rfl) (aP _) (by simp[maxLen]) (fun _ h=>e8) (fun _ h=>e8) (fun _ _ h=>e8) (fun _ _ h=>e8) (fun _ _ h=>e8),rfl,fun _ _=>rfl⟩
  |own _ _ _ _ b base tot cap a hβ ha hcap hmx ht=>
   obtain⟨g1,g2,hnI,hk0,ht',cc,T,fr,q1,q2,q3,q4⟩:=wQ hs hag hb hβ;have hlen:(((aH m l).drop i).take c).length=c:=hZ _ _ _ g2;have hgt:∀j,j<c->(((aH m l).drop i).take c).getD j .any=(aH m l).getD (i+j) .any:=fun j hj=>ec _ _ _ _ _ hj
   have hrow:=DQ (f:=f) (k:=k') (cs:=cs) (es:=((aH m l).drop i).take c) (g:=fun i' j=>cc.getD (base+(i+i')*k'+j) undef) hk0 (vT hs hag cs)
    (fun i' hi'=>by
      rw[hlen]at hi';rw[hgt i' hi'];exact⟨(q4 (i+i') ae).1,fun j hj=>((q4 (i+i') ae).2 j hj).2⟩) hel
   refine⟨.sl (some a) b (base+i*k') c cap k' _ (fun i' j=>cc.getD (base+(i+i')*k'+j) undef) (by rw[bj,hlen]) ?_ hcap hmx (fun i' hi'=>(hrow i' ae).1) (fun i' hi'=>(hrow i' ae).2.1) (fun i' j hi' hj=>?_) (fun i' j hi' hj=>?_) (fun i' j hi' hj=>(hrow i' ae).2.2 j hj),rfl,fun _ _=>rfl⟩
   .by_cases hc0:c=0
    .left;exact lI (by simp[hlen,hc0])
    .right;exact⟨by rw[ha ae],.inr ⟨l,_,hβ,rfl,by rw[g1];simp⟩⟩
   .have h1:=kJ (tot:=tot) (show i+i'<tot by omega) hj;show x.w.cell? _=_;rw[<-cell_of_heap q1 (by omega:base+(i+i')*k'+j<cc.size)];congr 2;rw[Nat.add_mul];omega
   .exact((q4 (i+i') ae).2 j hj).1
theorem vT (hs:fm ν x f)(hag:∀l,look m l≠none->f l=look m l):∀(cs:List Sh){k:Nat} (e:D) (c:Nat->Value),e.cells.length=k->(∀j,j<k->RD ν x (c j) (e.cells.getD j .any))->gL m cs e->
  (iX m cs e).cells.length=k/\(iX m cs e).aR=true/\∀j,j<k->RD ν (x.nb f) (c j) ((iX m cs e).cells.getD j .any)
 |[],k,e,c,hk,hc,ho=>by
  simp only[iX];simp only[gL]at ho;exact⟨hk,ho,fun j hj=>(hc j hj).mono (oL x f)⟩
 |s::r,k,e,c,hk,hc,ho=>by
  cases e<;>simp only[iX]<;>simp only[gL]at ho<;>try
   (obtain⟨h1,h2,h3⟩:=vS hs hag s (c 0) _ (by simp only[D.cells,bE,b7]at hk;exact hc 0 ae) ho
    simp only[D.cells,bE,b7]at hk;rw[h3 rfl rfl];subst hk;exact⟨rfl,h2,fun j hj=>by obtain rfl:j=0:=ae
                                                                                    exact h1⟩)
  .simp only[D.cells,b7]at hk;subst hk;cases s<;>simp only[kM]<;>exact⟨rfl,rfl,fun j hj=>ae⟩
  .rename_i ds;obtain⟨a1,a2,a3⟩:=vU hs hag (s::r) ds c (fun j hj=>hc j (by simpa[D.cells]using hk▸hj)) ho;simp only[D.cells]at hk⊢;exact⟨a1.trans hk,by rw[D.tt];exact a2,fun j hj=>a3 j ae⟩
  .simp only[D.cells,b7]at hk;subst hk;cases s<;>simp only[kM,iv]at ho⊢ <;>exact⟨rfl,ho,fun j hj=>ae⟩
theorem vU (hs:fm ν x f)(hag:∀l,look m l≠none->f l=look m l):∀(cs:List Sh) (ds:List D) (c:Nat->Value),(∀j,j<ds.length->RD ν x (c j) (ds.getD j .any))->kf m cs ds->
  (nv m cs ds).length=ds.length/\aL (nv m cs ds)=true/\∀j,j<ds.length->RD ν (x.nb f) (c j) ((nv m cs ds).getD j .any)
 |[],ds,c,hc,ho=>by
  simp only[kf]at ho;exact⟨by simp[nv],by simpa[nv]using ho,fun j hj=>by simpa only[nv]using(hc j hj).mono (oL x f)⟩
 |s::r,[],c,hc,ho=>by
  exact⟨by simp[nv],by simp[nv,aL],fun j hj=>by simp at hj⟩
 |s::r,d::ds,c,hc,ho=>by
  simp only[nv];simp only[kf]at ho;obtain⟨h1,h2,_⟩:=vS hs hag s (c 0) d (by simpa using hc 0 aG) ho.1;obtain⟨a1,a2,a3⟩:=vU hs hag r ds (fun j=>c (j+1)) (fun j hj=>by simpa using hc (j+1) dN) ho.2;refine⟨by simp[a1],by simp[aL,h2,a2],fun j hj=>?_⟩;cases j with
  |zero=>simpa using h1
  |succ j=>simpa using a3 j nE
end
def vV (hs:fm ν x f)(hag:∀l,look m l≠none->f l=look m l)(sh:List Sh)(v:Value)(d:D)(h:RD ν x v d)(ho:gL m sh d):RD ν (x.nb f) v (iX m sh d)/\(iX m sh d).aR=true:=by
 cases sh with
 |nil=>simp only[iX];simp only[gL]at ho;exact⟨h.mono (oL x f),ho⟩
 |cons s r=>
  cases d<;>simp only[iX]<;>simp only[gL]at ho<;>first
   |(obtain⟨h1,h2,_⟩:=vS hs hag s v _ h ho;exact⟨h1,h2⟩)
   |skip
  rename_i ds;cases h with
  |agg cs _ hl h1 h=>
   obtain⟨a1,a2,a3⟩:=vU hs hag (s::r) ds (fun j=>cs.getD j undef) h ho;exact⟨.agg cs _ (by rw[a1,hl]) (fun i hi=>h1 i ae) (fun i hi=>a3 i ae),by rw[D.tt];exact a2⟩
def j1 (hs:fm ν x f)(hag:∀l,look m l≠none->f l=look m l):∀(ss:List (List Sh)) (ds:List D) (c:Nat->Value),(∀j,j<ds.length->RD ν x (c j) (ds.getD j .any))->je m ss ds->
  (iB m ss ds).length=ds.length/\aL (iB m ss ds)=true/\∀j,j<ds.length->RD ν (x.nb f) (c j) ((iB m ss ds).getD j .any)
 |ss,[],c,hc,ho=>⟨by simp[iB],by simp[iB,aL],fun j hj=>by simp at hj⟩
 |[],d::r,c,hc,ho=>by
  simp only[je]at ho;obtain⟨h1,h2⟩:=vV hs hag [.a] (c 0) d (by simpa using hc 0 aG) ho.1;obtain⟨a1,a2,a3⟩:=j1 hs hag [] r (fun j=>c (j+1)) (fun j hj=>by simpa using hc (j+1) dN) ho.2
  grind [iB,aL]
 |s::ss,d::r,c,hc,ho=>by
  simp only[je]at ho;obtain⟨h1,h2⟩:=vV hs hag s (c 0) d (by simpa using hc 0 aG) ho.1;obtain⟨a1,a2,a3⟩:=j1 hs hag ss r (fun j=>c (j+1)) (fun j hj=>by simpa using hc (j+1) dN) ho.2
  grind [iB,aL]
end
end
section
variable [cN]
def jG (P:Program)(x:X)(G:Value->X->Prop)(r:Result Next):Prop:=
 (∃v x',(r=.ok (.value v) x'.w\/r=.ok .skip x'.w/\v=undef)/\G v x')\/
 (∃f args,r=.ok (.enter f args) x.w/\Calls P f args x.w fun
   | .returned v,w'=>∃x',x'.w=w'/\G v x'
   |_,_=>False)
def jG.mono {P:Program}{x:X}{G G':Value->X->Prop}{r:Result Next}(h:jG P x G r)(hg:∀v x',G v x'->G' v x'):jG P x G' r:=by
 rcases h with⟨v,x',h1,h2⟩|⟨f,args,h1,h2⟩
 .exact .inl ⟨v,x',h1,hg _ _ h2⟩
 .refine .inr ⟨f,args,h1,Calls.mono h2 fun e w' he=>?_⟩
  grind
def jG.wp {P:Program}{x:X}{G:Value->X->Prop}{o:Oper}{a:Act}{next:Act->World->Prop}{Q:Exit->Act->World->Prop}
  (h:jG P x G ((execOp a.eval o).run P x.w)) (hn:∀v x',G v x'->next (a.put o.dst v) x'.w):o.wp P a x.w next Q:=by
 unfold Oper.wp;rcases h with⟨v,x',h1|⟨h1,h3⟩,h2⟩|⟨f,args,h1,h2⟩
 .rw[h1];exact hn v x' h2
 .rw[h1];subst h3;exact hn _ x' h2
 .rw[h1,Oper.upon_enter];refine Calls.mono h2 fun e w' he=>?_
  grind
structure nK (x x':X):Prop where
 grow:iw x.w x'.w
 I:∀b,x.I b->x'.I b
 newI:∀b,x'.I b->x.I b\/x.w.heap.size<=b
 imm:∀b,x'.I b->b<x'.w.heap.size
 β:x'.β=x.β
structure eW (st:St)(x:X):Prop where
 β:∀l,st.nx<=l->x.β l=none
 m:∀l,look st.m l≠none->l<st.nx
structure Ok (P:Program)(ν:List (Nat×Nat))(bP:List Nat)(Y:Ctx):Prop where
 small:∀fid n,dY ν fid=some n->n<1000000
 bld:∀t,bP.contains (1000000000+t)=true->t=cN.tB
 glz:∀g,bP.contains (500000000+g)=true/\g<400000000->cN.gz g
 pure:∀fid n,dY ν fid=some n->∀(x:X) (args:Array Value) (ds:List D),args.size=ds.length->(∀i,i<ds.length->RD ν x (args.getD i undef) (ds.getD i .any))->aL ds=true->
  (∀b,x.I b->b<x.w.heap.size)->cN.gd x->Y.pre n ds->jG P x (fun v x'=>nK x x'/\RD ν x' v (Y.val n ds)) ((callFunc fid args).run P x.w)
 effF:∀fid n,dY ν fid=some n->bP.contains (2*n+1)=true->∀(x:X) (f:Nat->Option bm) (args:Array Value) (l k:Nat) (d:D) (ds:List D),args.size=ds.length+1->RD ν x (args.getD 0 undef) (.ptr l k 0 0)->
  (∀i,i<ds.length->RD ν x (args.getD (i+1) undef) (ds.getD i .any))->fm ν x f->f l=some (.buf k [d])->d.aR=true->aL ds=true->Y.fp n d ds->
  jG P x (fun v x'=>Step x x'/\RD ν x' v (Y.fv n d ds)/\fm ν x' (fun l'=>if l'=l then some (.buf k [Y.fs n d ds])else f l')/\x'.β=x.β) ((callFunc fid args).run P x.w)
 bP:∀fid n,dY ν fid=some n->∀(x:X) (args:Array Value) (ds:List D) (st:St) (K:D->St->Prop),args.size=ds.length->(∀i,i<ds.length->RD ν x (args.getD i undef) (ds.getD i .any))->
  fm ν x (look st.m)->eW st x->Y.tr n ds st K->jG P x (fun v x'=>∃d st',K d st'/\Step x x'/\RD ν x' v d/\fm ν x' (look st'.m)/\eW st' x') ((callFunc fid args).run P x.w)
section
variable {x:X} {f:Nat->Option bm} {C:CC} {defs:List (Option Nat)} {J:Src->aX} {ev:Operand->Value} {Y:Ctx} {m:List (Nat×bm)} {L:Nat} {ν:List (Nat×Nat)}
def nK.step {x':X}(h:nK x x')(himm:∀b,x.I b->b<x.w.heap.size):Step x x':=
 ⟨h.grow.os,h.grow.tape,h.grow.output,h.grow.size,h.I,fun b hb=>h.grow.old b (himm b hb),fun l p hp=>by rw[h.β];exact hp,fun b hb _=>h.grow.old b hb,fun b hb=>(h.newI b hb).imp id .inl,fun l p hp=>.inl (by rw[h.β]at hp;exact hp)⟩
def nK.oy {x':X}(h:nK x x')(hs:fm ν x f):fm ν x' f:=by
 have hst:=h.step hs.imm;refine⟨fun l blk b base tot e1 e2=>?_,fun l1 l2 b base tot base' tot' e1 e2 e3 e4=>?_,h.imm,fun l b base tot e=>?_,rp hst.le hs.gd⟩
 .rw[h.β]at e2;obtain⟨a1,a2⟩:=hs.own l blk b base tot e1 e2;have hb:=hs.dZ l b base tot e2;refine⟨fun hI=>?_,a2.mono hst.le (h.grow.old b hb)⟩;rcases h.newI b hI with h1|h1
  .exact a1 h1
  .omega
 .rw[h.β]at e3 e4;exact hs.inj l1 l2 b base tot base' tot' e1 e2 e3 e4
 .rw[h.β]at e;exact jj (hs.dZ l b base tot e) h.grow.size
mutual
theorem Yo (m m':List (Nat×bm)):∀(s:Sh) (d:D),d.aR=true->kM m s d=kM m' s d/\iv m s d
 | .a,d,h=>by cases d<;>simp_all[kM,iv,D.aR]
 | .sl k cs,d,h=>by cases d<;>simp_all[kM,iv,D.aR]
 | .pt cs,d,h=>by cases d<;>simp_all[kM,iv,D.aR]
 | .kp cs,d,h=>by cases d<;>simp_all[kM,iv,D.aR]
theorem Yp (m m':List (Nat×bm)):∀(ss:List Sh) (ds:List D),aL ds=true->nv m ss ds=nv m' ss ds/\kf m ss ds
 |[],ds,h=>by simp[nv,kf,h]
 |s::r,[],h=>by simp[nv,kf]
 |s::r,d::ds,h=>by
  simp only[aL,aN]at h;obtain⟨a1,a2⟩:=Yo m m' s d h.1;obtain⟨b1,b2⟩:=Yp m m' r ds h.2;simp only[nv,kf,a1,b1];exact⟨trivial,a2,b2⟩
end
def Yq (m m':List (Nat×bm))(ss:List Sh)(d:D)(h:d.aR=true):iX m ss d=iX m' ss d/\gL m ss d:=by
 cases ss with
 |nil=>simp[iX,gL,h]
 |cons s r=>
  cases d<;>simp only[iX,gL]<;>first
   |exact Yo m m' s _ h
   |skip
  grind [Yp,D.tt]
def Df (m m':List (Nat×bm)):∀(ss:List (List Sh)) (ds:List D),aL ds=true->iB m ss ds=iB m' ss ds/\je m ss ds
 |ss,[],h=>by simp[iB,je]
 |[],d::r,h=>by
  simp only[aL,aN]at h;obtain⟨a1,a2⟩:=Yq m m' [.a] d h.1;obtain⟨b1,b2⟩:=Df m m' [] r h.2
  grind [iB,je]
 |s::ss,d::r,h=>by
  simp only[aL,aN]at h;obtain⟨a1,a2⟩:=Yq m m' s d h.1;obtain⟨b1,b2⟩:=Df m m' ss r h.2
  grind [iB,je]
def Goal (ν:List (Nat×Nat))(x:X)(f:Nat->Option bm)(L:Nat)(d:D)(v:Value)(x':X):Prop:=Step x x'/\RD ν x' v d/\fm ν x' f/\∀l,l≠L->x'.β l=x.β l
def Br.oB {P:Program}{f':Nat->Option bm}{d:D}{r:Result Next}(h:Br ν x f' L d r):jG P x (Goal ν x f' L d) r:=by
 obtain⟨v,x',h1,h2,h3,h4,h5⟩:=h;exact .inl ⟨v,x',h1,h2,h3,h4,h5⟩
def Fj {P:Program}{bP:List Nat}(hΓ:Ok P ν bP Y){fid n:Nat}(hn:dY ν fid=some n){args:Array Value}{ds:List D}{sh:List (List Sh)}(hl:args.size=ds.length)
  (hargs:∀i,i<ds.length->RD ν x (args.getD i undef) (ds.getD i .any)) (hs:fm ν x f) (hag:aL ds=false->∀l,look m l≠none->f l=look m l) (ho:je m sh ds) (hpre:Y.pre n (iB m sh ds))
  (hok:qu ds (Y.val n (iB m sh ds))=true):jG P x (Goal ν x f L (Y.val n (iB m sh ds))) ((callFunc fid args).run P x.w):=by
 cases hnl:aL ds with
 |true=>
  obtain⟨e1,_⟩:=Df m [] sh ds hnl;obtain⟨_,e2⟩:=Df [] m sh ds hnl;have hs0:fm ν x (fun _=>none):=hs.less fun _=>.inr (.inl rfl)
  obtain⟨a1,a2,a3⟩:=j1 (m:=[]) hs0 (fun l h=>by simp[look]at h) sh ds (fun j=>args.getD j undef) hargs e2;rw[<-e1]at a1 a2 a3;have hle:Le (x.nb fun _=>none) x:=⟨fun b hb=>by
   rcases hb with h|⟨_,_,_,_,h⟩
   .exact h
   .exact absurd rfl h,fun _ _=>rfl,fun _ _ h=>h⟩
  refine(hΓ.pure fid n hn x args _ (by rw[a1,hl]) (fun i hi=>(a3 i ae).mono hle) a2 hs.imm hs.gd hpre).mono fun v x' h=>?_
  obtain⟨h1,h2⟩:=h;exact⟨h1.step hs.imm,h2,h1.oy hs,fun l _=>by rw[h1.β]⟩
 |false=>
  obtain⟨a1,a2,a3⟩:=j1 hs (hag hnl) sh ds (fun j=>args.getD j undef) hargs ho;have hmf:(Y.val n (iB m sh ds)).e7=true:=by simpa[qu,hnl]using hok
  have himm:∀b,(x.nb f).I b->b<x.w.heap.size:=by
   intro b hb;rcases hb with h|⟨l,⟨b',base,tot⟩,h1,h2,h3⟩
   .exact hs.imm b h
   .subst h2;exact hs.dZ l _ _ _ h1
  have h:=hΓ.pure fid n hn (x.nb f) args _ (by rw[a1,hl]) (fun i hi=>a3 i ae) a2 himm (rp (oL x f) hs.gd) hpre;have key:∀v x',(nK (x.nb f) x'/\RD ν x' v (Y.val n (iB m sh ds)))->Goal ν x f L (Y.val n (iB m sh ds)) v ⟨x'.w,x.I,x.β⟩:=by
   intro v x' ⟨h1,h2⟩;have hp:nK x ⟨x'.w,x.I,x.β⟩:=⟨h1.grow,fun _ h=>h,fun _ h=>.inl h,fun b hb=>jj (hs.imm b hb) h1.grow.size,rfl⟩;exact⟨hp.step hs.imm,h2.e7 hmf,hp.oy hs,fun _ _=>rfl⟩
  rcases h with⟨v,x',h1,h2⟩|⟨f',args',h1,h2⟩
  .exact .inl ⟨v,⟨x'.w,x.I,x.β⟩,h1,key v x' h2⟩
  .refine .inr ⟨f',args',h1,Calls.mono h2 fun e w' he=>?_⟩;cases e with
   |returned v=>obtain⟨x',e1,e2⟩:=he;exact⟨⟨x'.w,x.I,x.β⟩,e1,key v x' e2⟩
   |panicked c=>exact he
   |outgrown=>exact he
end
end
section
variable [cN]
section
variable {x:X} {f:Nat->Option bm} {C:CC} {defs:List (Option Nat)} {J:Src->aX} {ev:Operand->Value} {Y:Ctx} {m:List (Nat×bm)} {L:Nat} {ν:List (Nat×Nat)}
def wH {f:Nat->Option bm}{m':List (Nat×bm)}:iY f [] m'=f:=by funext l;simp[iY]
def adm {i:ax}(hp:i.pure=true):i.wr J L=[]:=by cases i<;>simp_all[ax.pure,ax.wr]
def Sf {args:List D}{ls:Option (List Nat)}(hls:ls=bif aL args then some []else none)(hag:EC f m ls):aL args=false->∀l,look m l≠none->f l=look m l:=by
 intro h;rw[h]at hls;subst hls;exact hag
theorem XT {o:Oper}{fid:Nat}{args:Array Operand}{tys:Array TypeId}{n:Nat}{ss:List Src}{sh:List (List Sh)}(hcst:∀d,J (.c d)=⟨true,d⟩)(hΓ:Ok C.P C.ν C.bP Y)
  (ho:o.op=.call {callee:=.value (.func fid),args,argTypes:=tys}) (h1:dY C.ν fid=some n) (h2:C.wj defs args.toList=some ss) (hρ:vu C defs J ev x o.op.operands.toList) (hob:(ax.call n ss sh).ey Y J m) (hs:fm C.ν x f) (hag:EC f m ((ax.call n ss sh).mX J)):
  jG C.P x (Goal C.ν x (iY f ((ax.call n ss sh).wr J L) ((ax.call n ss sh).bP Y J m L)) L ((ax.call n ss sh).val Y J m L)) ((execOp ev o).run C.P x.w):=by
 obtain⟨k1,k2,k3,k4⟩:=hob;have hv:=hρ (.func fid) dw (.c (.fn n [])) (by simp[CC.src,h1]) (by rw[hcst]);rw[hcst]at hv;obtain⟨s1,s2,s3⟩:=iC hρ _ _ (fun o' ho'=>Ev) h2 k1;generalize hep:ev (.func fid)=vf at hv;cases hv with
 |dZ=>exact absurd (hΓ.small _ _ h1) ae
 |bx=>exact absurd (hΓ.small _ _ h1) ae
 |mpn=>exact absurd (hΓ.small _ _ h1) ae
 |fn fid' _ cs _ hν hl _=>
  have hcs:cs=#[]:=by apply Array.ext';simpa using hl
  subst hcs;have hrun:(execOp ev o).run C.P x.w=(callFunc fid' (args.map ev)).run C.P x.w:=by
   simp[execOp,ho,resolve,Deferred.ofValue,invoke,hep]
  rw[hrun];have hwr:(ax.call n ss sh).wr J L=[]:=rfl;rw[hwr,wH];simp only[ax.val];refine Fj hΓ hν (by simp;simpa using s2.symm) (fun i hi=>?_) hs (Sf rfl hag) k2 k3 k4;have:=s3 i hi
  rwa [<-Array.toList_map,bT]at this
theorem nk (a b:Array Value)(i:Nat):(a++b).getD i undef=if i<a.size then a.getD i undef else b.getD (i-a.size) undef:=by
 rw[<-bT,Array.toList_append,cX]
 grind [bT]
def XU {o:Oper}{t:Nat}{args:Array Operand}{tys:Array TypeId}{s:Src}{ss:List Src}{sh:List (List Sh)}(hΓ:Ok C.P C.ν C.bP Y)
  (ho:o.op=.call {callee:=.value (.tmp t),args,argTypes:=tys}) (h1:C.src defs (.tmp t)=some s) (h2:C.wj defs args.toList=some ss) (hρ:vu C defs J ev x o.op.operands.toList) (hob:(ax.callv s ss sh).ey Y J m) (hs:fm C.ν x f) (hag:EC f m ((ax.callv s ss sh).mX J)):
  jG C.P x (Goal C.ν x (iY f ((ax.callv s ss sh).wr J L) ((ax.callv s ss sh).bP Y J m L)) L ((ax.callv s ss sh).val Y J m L)) ((execOp ev o).run C.P x.w):=by
 obtain⟨k0,k1,k2⟩:=hob;have hv:=hρ (.tmp t) dw s h1 k0;obtain⟨s1,s2,s3⟩:=iC hρ _ _ (fun o' ho'=>Ev) h2 k1;cases hd:(J s).d<;>simp only[hd]at k2;rename_i n caps;obtain⟨k1',k2,k3,k4⟩:=k2;rw[hd]at hv;generalize hep:ev (.tmp t)=vf at hv;cases hv with
 |dZ _ n'=>exact absurd k1' ae
 |bx=>exact absurd k1' ae
 |mpn=>exact absurd k1' ae
 |im=>exact absurd k1' ae
 |fn fid' _ cs _ hν hl hcs=>
  have hrun:(execOp ev o).run C.P x.w=(callFunc fid' (args.map ev++cs)).run C.P x.w:=by
   simp[execOp,ho,resolve,Deferred.ofValue,invoke,hep]
  rw[hrun];have hwr:(ax.callv s ss sh).wr J L=[]:=rfl;rw[hwr,wH];have A2:(ax.callv s ss sh).val Y J m L=Y.val n (iB m sh (iM J ss++caps)):=by simp[ax.val,hd]
  rw[A2];have hsz:args.size=(iM J ss).length:=by simpa using s2.symm
  refine Fj hΓ hν (by simp[hl,hsz]) (fun i hi=>?_) hs (Sf (by simp[ax.mX,hd]) hag) k2 k3 k4;rw[nk,cX];simp only[Array.size_map,hsz];split
  .rename_i hlt;have:=s3 i hlt
   rwa [<-Array.toList_map,bT]at this
  .exact hcs _ (by simp at hi;omega)
theorem TU {o:Oper}{fid:Nat}{args:Array Operand}{tys:Array TypeId}{n:Nat}{r:Src}{ss:List Src}{sh:List (List Sh)}(hcst:∀d,J (.c d)=⟨true,d⟩)(hΓ:Ok C.P C.ν C.bP Y)(hef:C.bP.contains (2*n+1)=true)
  (ho:o.op=.call {callee:=.value (.func fid),args,argTypes:=tys}) (h1:dY C.ν fid=some n) (h2:C.wj defs args.toList=some (r::ss)) (hρ:vu C defs J ev x o.op.operands.toList) (hob:(ax.callF n r ss sh).ey Y J m) (hs:fm C.ν x f)
  (hag:EC f m ((ax.callF n r ss sh).mX J)):
  jG C.P x (Goal C.ν x (iY f ((ax.callF n r ss sh).wr J L) ((ax.callF n r ss sh).bP Y J m L)) L ((ax.callF n r ss sh).val Y J m L)) ((execOp ev o).run C.P x.w):=by
 obtain⟨k0,k1,k2,k3⟩:=hob;have hv:=hρ (.func fid) dw (.c (.fn n [])) (by simp[CC.src,h1]) (by rw[hcst]);rw[hcst]at hv;obtain⟨s1,s2,s3⟩:=iC hρ _ _ (fun o' ho'=>Ev) h2 ⟨k0,k1⟩;cases hd:(J r).d<;>simp only[hd]at k3;rename_i l k i o';obtain⟨rfl,rfl,k4,k5,k6,k7⟩:=k3;generalize hep:ev (.func fid)=vf at hv;cases hv with
 |dZ=>exact absurd (hΓ.small _ _ h1) ae
 |bx=>exact absurd (hΓ.small _ _ h1) ae
 |mpn=>exact absurd (hΓ.small _ _ h1) ae
 |fn fid' _ cs _ hν hl _=>
  have hcs:cs=#[]:=by apply Array.ext';simpa using hl
  subst hcs;have hrun:(execOp ev o).run C.P x.w=(callFunc fid' (args.map ev)).run C.P x.w:=by
   simp[execOp,ho,resolve,Deferred.ofValue,invoke,hep]
  rw[hrun];have hlk:f l=look m l:=hag l (by simp[hd,cq]);obtain⟨g1,g2,g3⟩:=vw hs hlk k4;have hb1:aH m l=[(aH m l).getD 0 .any]:=by
   match he:aH m l,k5 with
   |[e],_=>rfl
  have hsz:args.size=ss.length+1:=by simpa using s1
  have hdl:(iM J ss).length=ss.length:=by
   have:=s2;simp only[iM,bE]at this;have h4:=s1;simp only[bE]at h4;omega
  obtain⟨p1,p2⟩:=Df [] [] sh (iM J ss) k2;have hs0:fm C.ν x (fun _=>none):=hs.less fun _=>.inr (.inl rfl)
  have hget:∀q,(args.map ev).getD q undef=(args.toList.map ev).getD q undef:=fun q=>by rw[<-Array.toList_map,bT]
  obtain⟨a1,a2,a3⟩:=j1 (m:=[]) hs0 (fun l h=>by simp[look]at h) sh (iM J ss) (fun j=>(args.map ev).getD (j+1) undef) (fun j hj=>by
   have:=s3 (j+1) (by simp only[iM,bE];omega);rw[hget];simpa[iM]using this) p2
  have hle:Le (x.nb fun _=>none) x:=⟨fun b hb=>by
   rcases hb with h|⟨_,_,_,_,h⟩
   .exact h
   .exact absurd rfl h,fun _ _=>rfl,fun _ _ h=>h⟩
  have h0:RD C.ν x ((args.map ev).getD 0 undef) (.ptr l k 0 0):=by
   have:=s3 0 (by simp[iM]);rw[hget];simpa[iM,hd]using this
  rw[hb1]at g1;refine(hΓ.effF fid' n hν hef x f _ l k _ (iB [] sh (iM J ss)) (by simp[a1,hdl,hsz]) h0 (fun i hi=>(a3 i ae).mono hle) hs g1 k6 a2 k7).mono fun v x' h=>?_
  obtain⟨q1,q2,q3,q4⟩:=h;refine⟨q1,by simpa only[ax.val,hd]using q2,q3.less fun l'=>.inl ?_,fun l' _=>by rw[q4]⟩;simp only[iY,ax.wr,hd,cq,ax.bP,aC,bJ];by_cases e:l'=l
  .rw[ak e,ak e,ak e]
  .rw[ai e,ai e]
def y8 {o:Oper}{i:ax}(hc:C.op defs o=some i)(hncm:i.cO=false)(hΓ:Ok C.P C.ν C.bP Y)(hρ:vu C defs J ev x o.op.operands.toList)(hcst:∀d,J (.c d)=⟨true,d⟩)(hob:i.ey Y J m)(hs:fm C.ν x f)(hag:EC f m (i.mX J))(hL:x.β L=none)(hgl:∀g,ev (.global g)=.pointer (some ⟨g,0,none⟩)):
  jG C.P x (Goal C.ν x (iY f (i.wr J L) (i.bP Y J m L)) L (i.val Y J m L)) ((execOp ev o).run C.P x.w):=by
 by_cases hp:i.pure=true
 .rw[adm hp,wH];exact(ada hΓ.glz hcst hΓ.small hc hp hρ hob hs hgl).oB
 .cases ho:o.op with
  |alloc t=>exact(XR hc (.inl ⟨t,ho⟩) hρ hcst hob hs hL hΓ.bld).oB
  |box t p=>exact(XR hc (.inr ⟨t,p,ho⟩) hρ hcst hob hs hL hΓ.bld).oB
  |buildSlice t n ps=>exact(ajs hc ho hρ hob hs hL).oB
  |load t p=>exact(ac8 hp hΓ.small hc ho hρ hob hs hag).oB
  |store t p q=>exact(XY hp hc ho hρ hob hs hag).oB
  |makeSlice t a b=>exact(ajv hc ho hρ hob hs hL).oB
  |range t p=>exact(XX hc ho hρ hob hs hL).oB
  |makeMap t r=>exact(aju hc ho hρ hob hs hL).oB
  |mapUpdate t a b c=>exact(ajx hΓ.small hc ho hρ hob hs hag).oB
  |lookup t p q ok=>
   cases ok
   .simp[CC.op,ho]at hc
   .exact(ajt hΓ.small hc ho hρ hob hs hag).oB
  |next it b=>
   cases b
   .simp[CC.op,ho]at hc
   .exact(ac9 hc ho hρ hob hs hag).oB
  |convert s d p=>
   have:(∃a,i=.s2b a)\/(∃a,i=.b2s a):=by
    simp only[CC.op,ho]at hc
    (repeat' split at hc)<;>simp only[aD,reduceCtorEq]at hc<;>subst hc<;>first
      |exact .inl ⟨_,rfl⟩
      |exact .inr ⟨_,rfl⟩
      |(exfalso;exact hp rfl)
   rcases this with⟨a,rfl⟩|⟨a,rfl⟩
   .exact(ajw (i:=.s2b a) hc ho hρ hob hs hL).oB
   .exact(ajr hc ho hρ hob hs hag).oB
  |call c=>
   obtain⟨callee,args,argTypes⟩:=c;cases callee with
   |builtin bu=>
    cases bu with
    |append=>
     have hx:∃p q t u,args=#[p,q]/\argTypes=#[t,u]:=by
      simp only[CC.op,ho]at hc;split at hc
      .rename_i p q t u hargs htys;exact⟨p,q,t,u,by apply Array.ext';simpa using hargs,by apply Array.ext';simpa using htys⟩
      .cases hc
     obtain⟨p,q,t,u,rfl,rfl⟩:=hx;exact(ajq hc ho hρ hob hs hag hL).oB
    |len=>
     exfalso;simp only[CC.op,ho]at hc
     (repeat' split at hc)<;>simp only[aD,reduceCtorEq]at hc<;>subst hc<;>exact hp rfl
    |min=>
     exfalso;simp only[CC.op,ho]at hc
     (repeat' split at hc)<;>simp only[aD,reduceCtorEq]at hc<;>subst hc<;>exact hp rfl
    |max=>
     exfalso;simp only[CC.op,ho]at hc
     (repeat' split at hc)<;>simp only[aD,reduceCtorEq]at hc<;>subst hc<;>exact hp rfl
    |_=>simp[CC.op,ho]at hc
   |value fv=>
    cases fv with
    |func fid=>
     grind [CC.op,ax.cO,TU,XT]
    |tmp t=>
     simp only[CC.op,ho]at hc;split at hc
     .rename_i s ss h1 h2;split at hc
      .simp only[aD]at hc;subst hc;simp[ax.cO]at hncm
      .simp only[aD]at hc;subst hc;exact XU hΓ ho h1 h2 hρ hob hs hag
     .cases hc
    |_=>simp[CC.op,ho]at hc
   |invoke r nm=>simp[CC.op,ho]at hc
  |move p=>exfalso;simp only[CC.op,ho,dd]at hc;obtain⟨s,h1,rfl⟩:=hc;exact hp rfl
  |assign p=>exfalso;simp only[CC.op,ho,dd]at hc;obtain⟨s,h1,rfl⟩:=hc;exact hp rfl
  |nilCheck p=>exfalso;simp only[CC.op,ho,dd]at hc;obtain⟨s,h1,rfl⟩:=hc;exact hp rfl
  |unOp op t p=>exfalso;simp only[CC.op,ho,dd]at hc;obtain⟨s,h1,rfl⟩:=hc;exact hp rfl
  |extract p n=>exfalso;simp only[CC.op,ho,dd]at hc;obtain⟨s,h1,rfl⟩:=hc;exact hp rfl
  |binOp op t p q u=>
   exfalso;simp only[CC.op,ho]at hc
   (repeat' split at hc)<;>simp only[aD,reduceCtorEq]at hc<;>subst hc<;>first
     |exact hp rfl
     |(simp[ax.cO]at hncm;done)
  |makeFunc fn fst caps=>
   exfalso;cases fn<;>simp only[CC.op,ho]at hc<;>try(cases hc;done)
   (repeat' split at hc)<;>(try simp only[aD,reduceCtorEq]at hc)<;>first
     |(subst hc;exact hp rfl)
     |exact hc.elim
     |(simp only[dd]at hc;obtain⟨_,_,rfl⟩:=hc;exact hp rfl)
  |_=>
   exfalso;simp only[CC.op,ho]at hc
   (try cases hc)<;>(repeat' split at hc)<;>(try simp only[aD,reduceCtorEq,dd]at hc)<;>first
     |(subst hc;exact hp rfl)
     |(obtain⟨s,h1,rfl⟩:=hc;exact hp rfl)
     |exact hc.elim
     |cases hc
def tl (l k:Nat)(es:List D):∀ds:List D,(lg l k es ds).length=ds.length
 |[]=>rfl
 |d::r=>by simp[lg,tl l k es r]
def lX (l k:Nat)(es:List D):∀(ds:List D) (i:Nat),(lg l k es ds).getD i .any=iA l k es (ds.getD i .any)
 |[],i=>by simp[lg,iA]
 |d::r,0=>by simp[lg]
 |d::r,i+1=>by simpa[lg]using lX l k es r i
def RD.fz {ν:List (Nat×Nat)}{x x':X}{l k:Nat}{es:List D}(hle:Le x x')(hn:aL es=true)
  (ho:∀b base tot,x.β l=some (b,base,tot)->x'.I b/\(∀i,i<es.length->(es.getD i .any).cells.length=k)/\∃c:Nat->Nat->Value,∀i j,i<es.length->j<k->
    x'.w.cell? ⟨b,base+i*k+j,none⟩=some (c i j)/\(c i j).oneCell'=true/\RD ν x' (c i j) ((es.getD i .any).cells.getD j .any)) {v:Value} {d:D} (h:RD ν x v d):RD ν x' v (iA l k es d):=by
 induction h with
 |any v=>exact .any v
 |bool b=>exact .bool b
 |int k n=>exact .int k n
 |str s h=>exact .str s h
 |agg cs ds hl' h1 _ ih=>exact .agg cs _ yD (fun i hi=>h1 i ux) fun i hi=>by rw[lX];exact ih i ux
 |tup cs ds hl' _ ih=>exact .tup cs _ yD fun i hi=>by rw[lX];exact ih i ux
 |aJ=>exact .aJ
 |sl a b off len cap k' es' c hlen ha hcap hm hk hn' hc h1 h _=>exact(RD.sl a b off len cap k' es' c hlen ha hcap hm hk hn' hc h1 h).mono hle
 |ref b off k' i o at_ es' c hI hat hk hn' hc h1 h _=>exact(RD.ref b off k' i o at_ es' c hI hat hk hn' hc h1 h).mono hle
 |ptr l' k' i o b base tot at_ hβ hat=>
  simp only[iA];split
  .rename_i hh;obtain⟨rfl,rfl⟩:=hh;obtain⟨o1,o2,c,o3⟩:=ho b base tot hβ;exact .ref b base k' i o at_ es c o1 hat o2 (fun i _=>cY hn i) (fun i j hi hj=>(o3 i j hi hj).1) (fun i j hi hj=>(o3 i j hi hj).2.1) (fun i j hi hj=>(o3 i j hi hj).2.2)
  .exact .ptr l' k' i o b base tot at_ (hle.β _ _ hβ) hat
 |own l' k' i n b base tot cap a hβ ha hcap hm ht=>
  simp only[iA];split
  .rename_i hh;obtain⟨rfl,rfl,hin⟩:=hh;obtain⟨o1,o2,c,o3⟩:=ho b base tot hβ;have hg:∀q,q<n->((es.drop i).take n).getD q .any=es.getD (i+q) .any:=fun q hq=>by
    simp[List.getD,List.getElem?_take,hq]
   have hlen:((es.drop i).take n).length=n:=dN;refine .sl (some a) b (base+i*k') n cap k' _ (fun q j=>c (i+q) j) hlen.symm ?_ hcap hm (fun q hq=>by rw[hg q hq];exact o2 _ ae) (fun q hq=>by rw[hg q hq];exact cY hn _)
    (fun q j hq hj=>?_) (fun q j hq hj=>(o3 (i+q) j ae hj).2.1) (fun q j hq hj=>by rw[hg q hq];exact(o3 (i+q) j ae hj).2.2)
   .by_cases hc0:0<cap
    .right;rw[ha hc0];exact⟨rfl,o1⟩
    .left;apply lI;omega
   .have:=(o3 (i+q) j ae hj).1;rw[<-this];congr 2;rw[Nat.add_mul];omega
  .exact .own l' k' i n b base tot cap a (hle.β _ _ hβ) ha hcap hm ht
 |own0 l' k' i a=>
  simp only[iA];split
  .rename_i hh;simp only[List.take_zero];exact .sl a 0 0 0 0 k [] (fun _ _=>undef) rfl (.inl rfl) (aP _) (Nat.zero_le _) (fun i hi=>ae) (fun i hi=>ae) (fun i j hi=>ae) (fun i j hi=>ae) (fun i j hi=>ae)
  .exact .own0 l' k' i a
 |nilp=>exact .nilp
 |fn fid n cs ds hν hl' _ ih=>exact .fn fid n cs _ hν yD fun i hi=>by rw[lX];exact ih i ux
 |bx b at_ ds v hI hc h1 hl' _ ih=>exact .bx b at_ _ v (hle.I _ hI) (iI (hle.pd _ hI) hc) h1 yD fun i hi=>by rw[lX];exact ih i ux
 |dZ fid n cs ds hν hl' _ ih=>exact .dZ fid n cs _ hν yD fun i hi=>by rw[lX];exact ih i ux
 |nilf=>exact .nilf
 |mpn=>exact .mpn
 |im l b base tot hβ=>simp only[iA,lg];exact .im l b base tot (hle.β _ _ hβ)
 |it l b base tot hβ=>exact .it l b base tot (hle.β _ _ hβ)
def Cg {J:Src->aX}:∀(ps:List (Nat×Src)) (l:List D),(lV J l ps).length=l.length
 |[],l=>rfl
 |(i,s)::r,l=>by simp only[lV];rw[Cg r];simp
def jG.re {P:Program}{x:X}{Q Q':Value->X->Prop}{r:Result Next}(h:jG P x Q r)(hq:∀v x',Q v x'->∃x'',x''.w=x'.w/\Q' v x''):jG P x Q' r:=by
 rcases h with⟨v,x',h1,h2⟩|⟨f',args',h1,h2⟩
 .obtain⟨x'',e,h3⟩:=hq v x' h2;exact .inl ⟨v,x'',by rw[e];exact h1,h3⟩
 .refine .inr ⟨f',args',h1,Calls.mono h2 fun e w' he=>?_⟩
  grind
def Goal.ice {x x':X}{f:Nat->Option bm}{L k n:Nat}{es:List D}{v:Value}(hg:Goal ν x (iY f [L] (cL m L (.buf k es))) L (.own L k 0 n) v x')(hn:aL es=true)(hlen:es.length=n)(hL:x.β L=none)(hfL:f L=none):∃x'',x''.w=x'.w/\Goal ν x f L (.sl k es) v x'':=by
 obtain⟨h1,h2,h3,h4⟩:=hg;have hlk:iY f [L] (cL m L (.buf k es)) L=some (.buf k es):=by simp[iY,bJ]
 let x'':X:=⟨x'.w,fun b=>x'.I b\/∃p,x'.β L=some p/\p.1=b,x'.β⟩
 have hle:Le x' x'':=⟨fun _ h=>.inl h,fun _ _=>rfl,fun _ _ h=>h⟩;have ho:∀b base tot,x'.β L=some (b,base,tot)->x''.I b/\(∀i,i<es.length->(es.getD i .any).cells.length=k)/\∃c:Nat->Nat->Value,∀i j,i<es.length->j<k->
   x''.w.cell? ⟨b,base+i*k+j,none⟩=some (c i j)/\(c i j).oneCell'=true/\RD ν x'' (c i j) ((es.getD i .any).cells.getD j .any):=by
  intro b base tot hβ;obtain⟨o1,o2,o3,c,T,fr,o4,o5,o6,o7⟩:=h3.own L _ b base tot hlk hβ;refine⟨.inr ⟨_,hβ,rfl⟩,fun i hi=>(o7 i hi).1,fun i j=>c.getD (base+i*k+j) undef,fun i j hi hj=>⟨?_,((o7 i hi).2 j hj).1,((o7 i hi).2 j hj).2.mono hle⟩⟩;exact cell_of_heap o4 Kg
 have hrd:RD ν x'' v (.sl k es):=by
  have:=h2.fz (x':=x'') (l:=L) (k:=k) (es:=es) hle hn ho;simpa[iA,hlen,eU]using this
 have hnew:∀b,(∃p,x'.β L=some p/\p.1=b)->x.w.heap.size<=b\/∃l p,x.β l=some p/\p.1=b:=by
  rintro b ⟨p,e1,e2⟩;rcases h1.newβ L p e1 with h|h|⟨l',p',h,h'⟩
  .rw[hL]at h;cases h
  .exact .inl (e2▸h)
  .exact .inr ⟨l',p',h,h'.trans e2⟩
 refine⟨x'',rfl,⟨h1.os,h1.tape,h1.output,h1.size,fun b hb=>.inl (h1.I b hb),h1.pd,h1.β,h1.old,fun b hb=>?_,h1.newβ⟩,hrd,⟨fun l' blk b base tot e1 e2=>?_,fun l1 l2 b base tot base' tot' e1 e2 e3 e4=>?_,fun b hb=>?_,h3.dZ,rp hle h3.gd⟩,h4⟩
 .rcases hb with hb|hb
  .exact h1.newI b hb
  .exact .inr (hnew b hb)
 .have hne:l'≠L:=by rintro rfl;rw[hfL]at e1;cases e1
  have e1':iY f [L] (cL m L (.buf k es)) l'=some blk:=by simp[iY,hne,e1]
  obtain⟨o1,o2⟩:=h3.own l' blk b base tot e1' e2;refine⟨?_,o2.mono hle rfl⟩;rintro(hb|⟨⟨b',base',tot'⟩,q1,q2⟩)
  .exact o1 hb
  .simp only at q2;subst q2;exact hne (h3.inj l' L b' base tot base' tot' (by rw[e1'];simp) (by rw[hlk];simp) e2 q1)
 .have hn1:∀l,f l≠none->iY f [L] (cL m L (.buf k es)) l≠none:=fun l hl=>by
   have hne:l≠L:=by rintro rfl;exact hl hfL
   simpa[iY,hne]using hl
  exact h3.inj l1 l2 b base tot base' tot' (hn1 _ e1) (hn1 _ e2) e3 e4
 .rcases hb with hb|⟨⟨b',base',tot'⟩,q1,q2⟩
  .exact h3.imm b hb
  .simp only at q2;subst q2;exact h3.dZ L _ _ _ q1
def OpX (C:CC)(defs:List (Option Nat))(o:Oper)(i:ax):Prop:=C.op defs o=some i\/(∃n ag p,i=.ldI n ag p/\C.op defs o=some (.ld n ag p))\/(∃k y,i=.appN k y/\C.op defs o=some (.app k (.c .aJ) y))\/(∃k z n ps,i=.bslI k z n ps/\C.op defs o=some (.bsl k z n ps))\/(∃n ag p,(i=.ldU n ag p\/i=.ldW n ag p)/\C.op defs o=some (.ld n ag p))\/∃n p v qs,i=.stU n p v qs/\C.op defs o=some (.st n p v)
def Hr {o:Oper}{i:ax}(hc:OpX C defs o i)(hncm:i.cO=false)(hΓ:Ok C.P C.ν C.bP Y)(hρ:vu C defs J ev x o.op.operands.toList)(hcst:∀d,J (.c d)=⟨true,d⟩)(hob:i.ey Y J m)(hs:fm C.ν x f)(hag:EC f m (i.mX J))(hL:x.β L=none)(hfL:f L=none)(hgl:∀g,ev (.global g)=.pointer (some ⟨g,0,none⟩)):
  jG C.P x (Goal C.ν x (iY f (i.wr J L) (i.bP Y J m L)) L (i.val Y J m L)) ((execOp ev o).run C.P x.w):=by
 rcases hc with hc|⟨n,ag,p,rfl,hc⟩|⟨k,y,rfl,hc⟩|⟨k,z,n,ps,rfl,hc⟩|⟨n,ag,p,rfl|rfl,hc⟩|⟨n,p,v,qs,rfl,hc⟩
 .exact y8 hc hncm hΓ hρ hcst hob hs hag hL hgl
 rotate_left 3;iterate 2
  .obtain⟨k1,k2⟩:=hob;have hob':(ax.ld n ag p).ey Y J m:=by
    simp only[ax.ey];cases hd:(J p).d<;>simp only[hd]at k2<;>simp only[Lm]
    .exact⟨k1,k2⟩
    .exact⟨k1,k2.1⟩
   have h:=y8 (i:=ax.ld n ag p) (L:=L) hc rfl hΓ hρ hcst hob' hs hag hL hgl;exact h
 .obtain⟨o1,o2,o3,o4⟩:=hob;have hob':(ax.st n p v).ey Y J m:=by
   refine⟨o1,o2,o3, ?_⟩;cases hd:(J p).d<;>simp only[hd]at o4;exact⟨o4.1,o4.2.1⟩
  exact y8 (i:=ax.st n p v) (L:=L) hc rfl hΓ hρ hcst hob' hs hag hL hgl
 rotate_left;rotate_left
 .obtain⟨k1,k2,k3⟩:=hob;have hob':(ax.bsl k z n ps).ey Y J m:=⟨k1,k2⟩;have:=y8 (L:=L) hc rfl hΓ hρ hcst hob' hs (by simp[ax.mX,EC]) hL hgl;refine this.re fun v x' hg=>?_
  exact hg.ice k3 (by rw[Cg,List.length_replicate]) hL hfL
 rotate_left
 .obtain⟨k1,k2,k3⟩:=hob;have hob':(ax.app k (.c .aJ) y).ey Y J m:=by simp only[ax.ey,hcst];exact⟨trivial,k1,k2,k3⟩
  have:=y8 (L:=L) hc rfl hΓ hρ hcst hob' hs (by simpa[ax.mX,hcst,cq]using hag) hL hgl;have e1:(ax.appN k y).val Y J m L=(ax.app k (.c .aJ) y).val Y J m L:=by simp[ax.val,hcst]
  have e2:(ax.appN k y).wr J L=(ax.app k (.c .aJ) y).wr J L:=by simp[ax.wr,hcst,cq]
  have e3:(ax.appN k y).bP Y J m L=(ax.app k (.c .aJ) y).bP Y J m L:=by simp[ax.bP,hcst]
  rw[e1,e2,e3];exact this
 .obtain⟨k1,k2⟩:=hob;cases hd:(J p).d<;>simp only[hd]at k2;all_goals
   have hob':(ax.ld n ag p).ey Y J m:=by simp only[ax.ey,hd,Lm];exact⟨k1,k2⟩
   have:=y8 (L:=L) hc rfl hΓ hρ hcst hob' hs (by simp[ax.mX,hd,cq,EC]) hL hgl;have e1:(ax.ldI n ag p).val Y J m L=(ax.ld n ag p).val Y J m L:=by simp[ax.val,hd,Ln]
   rw[e1];exact this
end
end
section
variable [cN]
section
variable {C:CC} {Y:Ctx}
def pO:∀(l:List Nat) (t n:Nat),A3 l t=some n->l[n]? =some t
 |[],t,n,h=>by simp[A3]at h
 |a::r,t,n,h=>by
  simp only[A3]at h;split at h
  .grind
  .simp only[dd]at h;obtain⟨k,h1,rfl⟩:=h;simpa using pO r t k h1
def G5:∀(l:List Nat) (t n:Nat),l.Nodup->l[n]? =some t->A3 l t=some n
 |[],t,n,_,h=>by simp at h
 |a::r,t,0,_,h=>by simp at h;simp[A3,h]
 |a::r,t,n+1,hn,h=>by
  simp only[List.getElem?_cons_succ]at h;rw[List.nodup_cons]at hn;have:a≠t:=fun e=>hn.1 (e▸List.mem_of_getElem? h)
  simp[A3,this,G5 r t n hn.2 h]
def Dd:∀(l:List (Option Nat)) (t p:Nat),posOf t l=some p->l[p]? =some (some t)
 |[],t,n,h=>by simp[posOf]at h
 |a::r,t,n,h=>by
  simp only[posOf]at h;split at h
  .grind
  .simp only[dd]at h;obtain⟨k,h1,rfl⟩:=h;simpa using Dd r t k h1
def Dc:∀(l:List (Option Nat)) (t:Nat),posOf t l=none->∀p:Nat,l[p]? ≠some (some t)
 |[],t,h,p=>aG
 |a::r,t,h,p=>by
  simp only[posOf]at h;split at h
  .cases h
  .rename_i e;simp only[Option.map_eq_none_iff]at h;cases p with
   |zero=>simpa using e
   |succ p=>simpa using Dc r t h p
structure Spec (C:CC)(ops:List Oper)(l:List GI):Prop where
 len:l.length=ops.length
 op:∀(i:Nat) (o:Oper),ops[i]? =some o->∃g,l[i]? =some g/\OpX C ((ops.map (·.dst)).take i) o g.i/\CC.guard ((ops.map (·.dst)).take i) o.guard=some g.g
 dst:∀(i:Nat) (o:Oper) (d:Nat),ops[i]? =some o->o.dst=some d->d<C.ntmps/\∀p:Nat,p<i->(ops.map (·.dst))[p]? ≠some (some d)
def LJ:∀(ops pre:List Oper) (l lp:List GI),Spec C pre lp->C.ops (pre.map (·.dst)) ops=some l->Spec C (pre++ops) (lp++l)
 |[],pre,l,lp,hp,h=>by simp[CC.ops]at h;subst h;simpa using hp
 |o::r,pre,l,lp,hp,h=>by
  simp only[CC.ops]at h;split at h
  .rename_i i g l' h1 h2 h3;split at h
   .rename_i hd;simp only[aD]at h;subst h;have hp':Spec C (pre++[o]) (lp++[⟨i,g⟩]):=by
     have hl:=hp.len;refine⟨by simp[hl],fun j o' ho'=>?_,fun j o' d ho' hd'=>?_⟩
     .rw[List.getElem?_append]at ho';split at ho'
      .rename_i hj;obtain⟨g',a1,a2,a3⟩:=hp.op j o' ho';have e:((pre++[o]).map (·.dst)).take j=(pre.map (·.dst)).take j:=by rw[List.map_append,List.take_append_of_le_length dN]
       rw[e];exact⟨g',by rw[List.getElem?_append_left ae];exact a1,a2,a3⟩
      .rename_i hj;obtain rfl:j=pre.length:=by
        have:=(List.getElem?_eq_some_iff.1 ho').1;simp at this;omega
       simp at ho';subst ho';have e:((pre++[o]).map (·.dst)).take pre.length=pre.map (·.dst):=aG;rw[e];exact⟨⟨i,g⟩,by rw[<-hl];simp,.inl h1,h2⟩
     .rw[List.getElem?_append]at ho';split at ho'
      .rename_i hj;obtain⟨a1,a2⟩:=hp.dst j o' d ho' hd';refine⟨a1,fun p hpj=>?_⟩;rw[List.map_append,List.getElem?_append_left dN];exact a2 p hpj
      .rename_i hj;obtain rfl:j=pre.length:=by
        have:=(List.getElem?_eq_some_iff.1 ho').1;simp at this;omega
       simp at ho';subst ho';simp only[hd',Option.all_some,aN,bn,cG,List.contains_eq_mem,cK]at hd;refine⟨hd.1,fun p hpj=>?_⟩;rw[List.map_append,List.getElem?_append_left dN];exact fun e=>hd.2 (List.mem_of_getElem? e)
    have:=LJ r (pre++[o]) l' (lp++[⟨i,g⟩]) hp' (by simpa using h3);simpa using this
   .cases h
  .cases h
def Spec.start {ops:List Oper}{l:List GI}(h:C.ops [] ops=some l):Spec C ops l:=by
 have:=LJ (C:=C) ops [] l [] ⟨rfl,fun i o h=>e8,fun i o d h=>e8⟩ ra;simpa using this
theorem Zx (i:ax):i.toN=i\/∃k y,i=.app k (.c .aJ) y/\i.toN=.appN k y:=by
 unfold ax.toN
 grind
def CS (bs:List Nat)(l0:List GI):∀(l:List GI) (p i:Nat) (g:GI),l[i]? =some g->∃g',(mD bs l0 p l)[i]? =some g'/\g'.g=g.g/\(g'.i=g.i\/(∃n ag x,g.i=.ld n ag x/\g'.i=.ldI n ag x)\/(∃k y,g.i=.app k (.c .aJ) y/\g'.i=.appN k y)\/(∃k z n ps,g.i=.bsl k z n ps/\g'.i=.bslI k z n ps)\/(∃n ag x,g.i=.ld n ag x/\(g'.i=.ldU n ag x\/g'.i=.ldW n ag x))\/∃n x y qs,g.i=.st n x y/\g'.i=.stU n x y qs)
 |[],p,i,g,h=>by simp at h
 |a::r,p,0,g,h=>by
  grind [mD,Zx]
 |a::r,p,i+1,g,h=>by
  simp only[mD,List.getElem?_cons_succ]at h⊢;exact CS bs l0 r (p+1) i g h
def CT (bs:List Nat)(l0:List GI):∀(l:List GI) (p:Nat),(mD bs l0 p l).length=l.length
 |[],p=>rfl
 |a::r,p=>by simp only[mD,bE,CT bs l0 r (p+1)]
def acA (e:List Nat)(l:List GI)(i:Nat)(g:GI)(h:l[i]? =some g):∃g',(ice e l)[i]? =some g'/\g'.g=g.g/\(g'.i=g.i\/∃k z n ps,g.i=.bsl k z n ps/\g'.i=.bslI k z n ps):=by
 unfold ice;rw[List.getElem?_map,h];refine⟨_,rfl, ?_⟩
 grind
def Spec.ice {ops:List Oper}{l:List GI}(e:List Nat)(h:Spec C ops l):Spec C ops (ice e l):=by
 refine⟨by simp only[Abs.ice,bj];exact h.len,fun i o ho=>?_,h.dst⟩;obtain⟨g,h1,h2,h3⟩:=h.op i o ho;obtain⟨g',a1,a2,a3⟩:=acA e l i g h1;refine⟨g',a1, ?_,by rw[a2];exact h3⟩;rcases a3 with e|⟨k,z,n,ps,e1,e2⟩
 .rw[e];exact h2
 .rw[e1]at h2;rcases h2 with h2|⟨n',ag',p',h4,_⟩|⟨k',y',h4,_⟩|⟨_,_,_,_,h4,_⟩|⟨_,_,_,h4,_⟩|⟨_,_,_,_,h4,_⟩
  .exact .inr (.inr (.inr (.inl ⟨k,z,n,ps,e2,h2⟩)))
  all_goals first|(rcases h4 with h4|h4<;>cases h4)|cases h4
theorem Spec.mD {ops:List Oper}{l:List GI}(bs:List Nat)(h:Spec C ops l):Spec C ops (mD bs l 0 l):=by
 refine⟨by rw[CT];exact h.len,fun i o ho=>?_,h.dst⟩;obtain⟨g,h1,h2,h3⟩:=h.op i o ho;obtain⟨g',a1,a2,a3⟩:=CS bs l l 0 i g h1;refine⟨g',a1, ?_,by rw[a2];exact h3⟩;rcases a3 with e|⟨n,ag,x,e1,e2⟩|⟨k,y,e1,e2⟩|⟨k,z,n,ps,e1,e2⟩|⟨n,ag,x,e1,e2⟩|⟨n,x,y,qs,e1,e2⟩
 .rw[e];exact h2
 .rw[e1]at h2;rcases h2 with h2|⟨n',ag',p',h4,_⟩|⟨k',y',h4,_⟩|⟨_,_,_,_,h4,_⟩|⟨_,_,_,h4,_⟩|⟨_,_,_,_,h4,_⟩
  .exact .inr (.inl ⟨n,ag,x,e2,h2⟩)
  all_goals first|(rcases h4 with h4|h4<;>cases h4)|cases h4
 .rw[e1]at h2;rcases h2 with h2|⟨n',ag',p',h4,_⟩|⟨k',y',h4,_⟩|⟨_,_,_,_,h4,_⟩|⟨_,_,_,h4,_⟩|⟨_,_,_,_,h4,_⟩
  .exact .inr (.inr (.inl ⟨k,y,e2,h2⟩))
  all_goals first|(rcases h4 with h4|h4<;>cases h4)|cases h4
 .rw[e1]at h2;rcases h2 with h2|⟨n',ag',p',h4,_⟩|⟨k',y',h4,_⟩|⟨_,_,_,_,h4,_⟩|⟨_,_,_,h4,_⟩|⟨_,_,_,_,h4,_⟩
  .exact .inr (.inr (.inr (.inl ⟨k,z,n,ps,e2,h2⟩)))
  all_goals first|(rcases h4 with h4|h4<;>cases h4)|cases h4
 .rw[e1]at h2;rcases h2 with h2|⟨n',ag',p',h4,_⟩|⟨k',y',h4,_⟩|⟨_,_,_,_,h4,_⟩|⟨_,_,_,h4,_⟩|⟨_,_,_,_,h4,_⟩
  .exact .inr (.inr (.inr (.inr (.inl ⟨n,ag,x,e2,h2⟩))))
  all_goals first|(rcases h4 with h4|h4<;>cases h4)|cases h4
 .rw[e1]at h2;rcases h2 with h2|⟨n',ag',p',h4,_⟩|⟨k',y',h4,_⟩|⟨_,_,_,_,h4,_⟩|⟨_,_,_,h4,_⟩|⟨_,_,_,_,h4,_⟩
  .exact .inr (.inr (.inr (.inr (.inr ⟨n,x,y,qs,e2,h2⟩))))
  all_goals first|(rcases h4 with h4|h4<;>cases h4)|cases h4
def Spec.distinct {ops:List Oper}{l:List GI}(h:Spec C ops l){i p d:Nat}(hi:(ops.map (·.dst))[i]? =some (some d))(hp:(ops.map (·.dst))[p]? =some (some d)):p=i:=by
 rw[List.getElem?_map,dd]at hi hp;obtain⟨oi,hi1,hi2⟩:=hi;obtain⟨op,hp1,hp2⟩:=hp;rcases Nat.lt_trichotomy p i with h1|h1|h1
 .exact absurd (by rw[List.getElem?_map,hp1,Option.map_some,hp2]) ((h.dst i oi d hi1 hi2).2 p h1)
 .exact h1
 .exact absurd (by rw[List.getElem?_map,hi1,Option.map_some,hi2]) ((h.dst p op d hp1 hp2).2 i h1)
structure AU (C:CC)(env:List aX)(DD:List (Option Nat))(VS:List aX)(D:Nat->Prop)(a:Act)(x:X):Prop where
 val:∀p t:Nat,D p->DD[p]? =some (some t)->(VS.getD p .un).ok=true->RD C.ν x (a.tmps.getD t undef) (VS.getD p .un).d
 und:∀p t:Nat,D p->DD[p]? =some (some t)->(VS.getD p .un).ok=false->a.tmps.getD t undef=undef
 old:∀n t:Nat,C.slots[n]? =some t->(∀p,D p->DD[p]? ≠some (some t))->(env.getD n .un).ok=true->RD C.ν x (a.tmps.getD t undef) (env.getD n .un).d
 size:a.tmps.size=C.ntmps
 defers:a.defers=[]
def Yv (a:Act)(d:Nat)(v:Value)(t:Nat)(h:d<a.tmps.size):(a.put (some d) v).tmps.getD t undef=if t=d then v else a.tmps.getD t undef:=by
 simp only[Act.put,Array.getD_eq_getD_getElem?]
 grind
def AU.put {env:List aX}{DD:List (Option Nat)}{VS:List aX}{D D':Nat->Prop}{a:Act}{x x':X}{i:Nat}{dst:Option Nat}{v:Value}(h:AU C env DD VS D a x)(hle:Le x x')(hd:DD[i]? =some dst)
  (hdst:∀t,dst=some t->t<C.ntmps/\∀p,p≠i->DD[p]? ≠some (some t)) (hv:(VS.getD i .un).ok=true->RD C.ν x' v (VS.getD i .un).d) (hu:(VS.getD i .un).ok=false->v=undef)
  (hD:∀p,D' p↔D p\/p=i):AU C env DD VS D' (a.put dst v) x':=by
 cases dst with
 |none=>
  have hne:∀p t,DD[p]? =some (some t)->p≠i:=fun p t e e'=>by subst e';rw[hd]at e;simp at e
  refine⟨fun p t hp e ho=>?_,fun p t hp e ho=>?_,fun n t hn hp ho=>?_,h.size,h.defers⟩
  .exact(h.val p t (((hD p).1 hp).resolve_right (hne p t e)) e ho).mono hle
  .exact h.und p t (((hD p).1 hp).resolve_right (hne p t e)) e ho
  .exact(h.old n t hn (fun p hp'=>hp p ((hD p).2 (.inl hp'))) ho).mono hle
 |some d=>
  obtain⟨h1,h2⟩:=hdst d rfl;have hg:=Yv a d v (h:=by rw[h.size];exact h1);refine⟨fun p t hp e ho=>?_,fun p t hp e ho=>?_,fun n t hn hp ho=>?_,by simp[Act.put,h.size],h.defers⟩
  .by_cases hpi:p=i
   .subst hpi;rw[hd]at e;simp only[aD]at e;subst e;rw[hg,ak rfl];exact hv ho
   .have:t≠d:=fun e'=>h2 p hpi (e'▸e)
    rw[hg,ai this];exact(h.val p t (((hD p).1 hp).resolve_right hpi) e ho).mono hle
  .by_cases hpi:p=i
   .subst hpi;rw[hd]at e;simp only[aD]at e;subst e;rw[hg,ak rfl];exact hu ho
   .have:t≠d:=fun e'=>h2 p hpi (e'▸e)
    rw[hg,ai this];exact h.und p t (((hD p).1 hp).resolve_right hpi) e ho
  .have:t≠d:=fun e'=>hp i ((hD i).2 (.inr rfl)) (by rw[hd,e'])
   rw[hg,ai this];exact(h.old n t hn (fun p hp'=>hp p ((hD p).2 (.inl hp'))) ho).mono hle
def getD_take {α:Type}(l:List α)(i p:Nat)(d:α)(h:p<i):(l.take i).getD p d=l.getD p d:=by
 simp[List.getD,List.getElem?_take,h]
def AU.rho {env:List aX}{DD:List (Option Nat)}{VS:List aX}{D:Nat->Prop}{a:Act}{x:X}{i:Nat}{os:List Operand}(h:AU C env DD VS D a x)
  (hr:∀t p,Operand.tmp t∈os->DD[p]? =some (some t)->(p<i->D p)/\(i<=p->¬D p)):vu C (DD.take i) (Src.ev env (VS.take i)) a.eval x os:=by
 intro o ho s hs hok;cases o with
 |tmp t=>
  simp only[CC.src]at hs;split at hs
  .rename_i p hp;simp only[aD]at hs;subst hs;have hp1:=Dd _ _ _ hp;rw[List.getElem?_take]at hp1;split at hp1
   .rename_i hpi;simp only[Src.ev]at hok⊢;rw[getD_take _ _ _ _ hpi]at hok⊢;exact h.val p t ((hr t p ho hp1).1 hpi) hp1 hok
   .cases hp1
  .rename_i hp;simp only[dd]at hs;obtain⟨n,h1,rfl⟩:=hs;simp only[Src.ev]at hok⊢;refine h.old n t (pO _ _ _ h1) (fun p hp' e=>?_) hok;by_cases hpi:p<i
   .exact Dc _ _ hp p (by rw[List.getElem?_take,ak hpi];exact e)
   .exact(hr t p ho e).2 ae hp'
 |const v=>
  simp only[CC.src,dd]at hs;obtain⟨d,h1,rfl⟩:=hs;exact na v d h1
 |func f=>
  simp only[CC.src,dd]at hs;obtain⟨n,h1,rfl⟩:=hs;exact .fn f n #[] [] h1 rfl (fun i hi=>by simp at hi)
 |global g=>simp[CC.src]at hs
def aeH {vs:List aX}{i:ax}{g:Option (Nat×Bool)}(h:UT vs i g):yT vs g:=by
 cases g with
 |none=>trivial
 |some jw=>exact h.2
def kj {env:List aX}{ops:Array Oper}{VS:List aX}{D:Nat->Prop}{a:Act}{x:X}{i:Nat}{o:Oper}{g:GI}(h:AU C env (ops.toList.map (·.dst)) VS D a x)
  (hg:CC.guard ((ops.toList.map (·.dst)).take i) o.guard=some g.g) (hD:∀j w,o.guard=some (j,w)->j<i->D j) (hgok:yT (VS.take i) g.g):Region.wanted o (yielded ops a.tmps)=flag (VS.take i) g.g:=by
 unfold Region.wanted;cases hog:o.guard with
 |none=>simp only[hog,CC.guard,aD]at hg;simp[<-hg,flag]
 |some jw=>
  obtain⟨j,w⟩:=jw;simp only[hog,CC.guard]at hg;split at hg
  .rename_i t hj;simp only[aD]at hg;rw[<-hg]at hgok⊢;rw[List.getElem?_take]at hj;split at hj
   .rename_i hji;have hDj:=hD j w hog hji;have hy:(ops[j]?).bind (·.dst)=some t:=by
     rw[List.getElem?_map,Array.getElem?_toList]at hj;cases ho:ops[j]? with
     |none=>simp[ho]at hj
     |some oj=>simpa[ho]using hj
    simp only[yielded,hy,Option.bind_some,flag,yT]at hgok⊢;rw[getD_take _ _ _ _ hji]at hgok⊢;cases hok:(VS.getD j .un).ok with
    |false=>
     have:=h.und j t hDj hj hok;simp only[Array.getD_eq_getD_getElem?]at this;cases ht:a.tmps[t]? with
     |none=>simp
     |some v=>simp only[ht,Option.getD_some]at this;subst this;simp[undef]
    |true=>
     have hb:=hgok hok;have hv:=h.val j t hDj hj hok;cases hd:(VS.getD j .un).d<;>simp only[hd,Go.Abs.D.isBool]at hb<;>try cases hb
     rename_i b;rw[hd]at hv;have hv:=hv.jH;simp only[Array.getD_eq_getD_getElem?]at hv;cases ht:a.tmps[t]? with
     |none=>simp[ht,undef]at hv
     |some v=>simp only[ht,Option.getD_some]at hv;subst hv;simp
   .cases hj
  .cases hg
end
end
end Go.Abs
