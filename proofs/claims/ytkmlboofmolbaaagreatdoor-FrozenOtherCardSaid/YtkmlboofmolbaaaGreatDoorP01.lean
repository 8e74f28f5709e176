/- A part of the proofs. -/
import Derived.Attr
import Derived.ChangeKeysEq
import Derived.Deep.AppendSrc
import Derived.KernelRfl
import Derived.Test.YtkmlboofmolbaaaGreatDoorProg
import Derived.WalkKit
import GoSem.Dispatch
import GoSem.Step
set_option linter.all false
set_option maxRecDepth 60000
set_option maxHeartbeats 2000000
namespace Go.Abs
variable(bs:List Nat)(P:Program)(w:World){t:TypeId}(ν:List (Nat×Nat)){w':World}(lo n:Nat)
def bD:=@List.length_cons
def ca:=@List.length_nil
def ct:=@decide_eq_false_iff_not
def aT:=@decide_eq_true_eq
def aE:=@Option.some.injEq
def ah:=@if_neg
def ak:=@if_pos
def aA:=@Bool.and_eq_true
def cu:=@List.length_append
def cZ:=@Bool.not_eq_false'
def cE:=@Bool.not_eq_true'
def aN:=@Nat.le_refl
def aW:=@Option.some.inj
def a8:=@List.length_map
def aX:=@if_false
def bh:=@if_true
def cY:=@List.drop_zero
def br:=@decide_eq_true
def cr:=@Nat.zero_add
def ec:=@Bool.or_eq_false_iff
def dp:=@List.forall_mem_cons
def ep:=@Bool.and_eq_false_iff
def dd:=@Option.map_eq_some_iff
def bL:=@decide_eq_false
def dK:=@Bool.or_eq_true
def gU:=@List.take_of_length_le
def dF:=@List.length_take
def fC:=@List.append_assoc
def aD:=@List.mem_singleton
def iJ:=@Bool.false_eq_true
def dj:=@Prod.mk.injEq
def fP:=@Nat.mul_le_mul_right
def fg:=@Nat.le_trans
def jr:=@Nat.lt_of_lt_of_le
def rh:=@List.nil_append
def lV:=@List.eq_nil_of_length_eq_zero
def eH:=@List.drop_eq_getElem_cons
def sU:=@List.cons_append
def bG:=@List.mem_cons
def ed:=@true_and
def dw:=@and_true
def il:=@false_and
def iq:=@and_false
def ir:=@and_self
def dk:=@Eq.trans
def aw:=@congrArg
def jN:=@List.drop_eq_nil_of_le
def gB:=@List.append_nil
def jO:=@List.length_drop
def cU:=@List.not_mem_nil
def pw:=@UInt8.toNat_inj
def iW:=@List.getD_cons_zero
def eI:=@Bool.true_and
def gC:=@Bool.and_true
def bY:=@List.mem_map
def sV:=@List.cons.injEq
def aaP:=@List.length_eq_zero_iff
def EC:=@List.mem_of_mem_take
def lW:=@decide_eq_decide
def dX:=@Nat.lt_or_ge
def ae {p:Prop}(h:p:=by omega):p:=h
def eC {p:Prop}(h:p:=by simp only[List.length_cons,List.length_nil];omega):p:=h
def aV {p:Prop}(h:p:=by decide):p:=h
def yt {p:Prop}(h:p:=by kernel_rfl):p:=h
def aC {p:Prop}(h:p:=by simp):p:=h
def mK {p:Prop}(h:p:=by dsimp only;omega):p:=h
def fh {p:Prop}(h:p:=by simp;omega):p:=h
def c8 {p:Prop}(h:p:=by exact rfl):p:=h
def lH {p:Prop}(h:p:=by simp only[xc,iY,mN,zU,EI,c7,Nat.reduceEqDiff,bh,aX,ir,ed,dw,il,iq,cr,a8,aN,cY,bH,reduceCtorEq,bD,ca,Nat.reduceAdd,Nat.reduceLeDiff,xd,bn.fz,Key.fz,Rec.fz,Env.fz,cx.fz,de.fz,gW.fz,lu.fz,js.fz,Ct,List.take_succ_cons,List.take_zero];exact rfl):p:=h
def eM {p:Prop}(h:p:=by repeat(first|exact fD.nil|refine fD.un ?_|refine fD.eq ai ?_|refine fD.nl ai ai ?_|refine fD.ni (Or.inr ⟨_,_,_,rfl⟩) ?_)):p:=h
def nr {p:Prop}(h:p:=by simp only[xc,iY,mN,zU,EI,c7,Nat.reduceEqDiff,bh,aX,ir,ed,dw,il,iq,cr,a8,aN,cY,bH,reduceCtorEq,bD,ca,Nat.reduceAdd,Nat.reduceLeDiff,aiY,ac8,Xj,ac7];exact rfl):p:=h
def ch {p:Prop}(h:p:=by first|omega|(simp at hf;omega)):p:=h
theorem jK {p:Prop}(h:p:=by first|assumption|omega|(grind [Cut.sm,Span.sm,cx.sm,zF,aq,Want.sm,eB.sm,cI.sm,bP.sm])):p:=h
def aa6 {p:Prop}(h:p:=by repeat(first|exact bo.nil|refine bo.AW ai ai dZ ?_|refine bo.NU ai ai ai ?_|refine bo.NV ai ai ai ai ?_|refine bo.AW ai ai (by exact jn _ _) ?_|refine bo.nl 3 ai ai ai (by first|exact rfl|exact jn _ _|exact bX (λ_=>rfl) _) ?_|refine bo.eq 3 ai ai ai ?_|refine bo.nl 5 ai ai ai (by first|exact rfl|exact jn _ _|exact bX (λ_=>rfl) _) ?_|refine bo.eq 5 ai ai ai ?_|refine bo.nl 6 ai ai ai (by first|exact rfl|exact jn _ _|exact bX (λ_=>rfl) _) ?_|refine bo.eq 6 ai ai ai ?_|refine bo.nl 10 ai ai ai (by first|exact rfl|exact jn _ _|exact bX (λ_=>rfl) _) ?_|refine bo.eq 10 ai ai ai ?_)):p:=h
def GJ {p:Prop}(h:p:=by simp only[xc,iY,mN,zU,EI,c7,Nat.reduceEqDiff,bh,aX,ir,ed,dw,il,iq,cr,a8,aN,cY,bH,reduceCtorEq,bD,ca,Nat.reduceAdd,Nat.reduceLeDiff,xd,bn.fz,Key.fz,Rec.fz,Env.fz,cx.fz,de.fz,gW.fz,lu.fz,js.fz,Ct,List.take_succ_cons,List.take_zero,BR,eP,nA,ny];exact rfl):p:=h
def AJ {p:Prop}(h:p:=by simp only[xc,iY,mN,zU,EI,c7,Nat.reduceEqDiff,bh,aX,ir,ed,dw,il,iq,cr,a8,aN,cY,bH,reduceCtorEq,bD,ca,Nat.reduceAdd,Nat.reduceLeDiff,List.take_succ_cons,List.take_zero];exact rfl):p:=h
def dt {p:Prop}(h:p:=by simp[ho,Op.operands,Call.operands]):p:=h
def GK {p:Prop}(h:p:=by simp only[xc,iY,mN,zU,EI,c7,Nat.reduceEqDiff,bh,aX,ir,ed,dw,il,iq,cr,a8,aN,cY,bH,reduceCtorEq,bD,ca,Nat.reduceAdd,Nat.reduceLeDiff,akb,Env.fz,Hb,lI.fz,Rec.fz];exact rfl):p:=h
def iK {p:Prop}(h:p:=by first|omega|(simp only[Gs.aS];omega)|(simp only[oX,Gs.aS]at*;omega)):p:=h
def ri {p:Prop}(h:p:=by first|exact rfl|exact jn _ _|exact bX (λ_=>rfl) _):p:=h
def Ks {p:Prop}(h:p:=by simp only[xc,iY,mN,zU,EI,c7,Nat.reduceEqDiff,bh,aX,ir,ed,dw,il,iq,cr,a8,aN,cY,bH,reduceCtorEq,bD,ca,Nat.reduceAdd,Nat.reduceLeDiff,ajx,ada,Hb,Om];exact rfl):p:=h
def zA {p:Prop}(h:p:=by repeat(first|exact bo.nil|refine bo.AW ai ai dZ ?_|refine bo.NU ai ai ai ?_|refine bo.NV ai ai ai ai ?_|refine bo.mp 1 ai ai ai ?_)):p:=h
def Kt {p:Prop}(h:p:=by simp only[xc,iY,mN,zU,EI,c7,Nat.reduceEqDiff,bh,aX,ir,ed,dw,il,iq,cr,a8,aN,cY,bH,reduceCtorEq,bD,ca,Nat.reduceAdd,Nat.reduceLeDiff,ac9,Hb];exact rfl):p:=h
def Ku {p:Prop}(h:p:=by simp only[xc,iY,mN,zU,EI,c7,Nat.reduceEqDiff,bh,aX,ir,ed,dw,il,iq,cr,a8,aN,cY,bH,reduceCtorEq,bD,ca,Nat.reduceAdd,Nat.reduceLeDiff,adb,js.fz];exact rfl):p:=h
def sW {p:Prop}(h:p:=by refine⟨?_, ?_, ?_⟩<;>first|exact rfl|(rw[nA];exact rfl)|(rw[ny];exact rfl)):p:=h
def Kv {p:Prop}(h:p:=by simp only[xc,iY,mN,zU,EI,c7,Nat.reduceEqDiff,bh,aX,ir,ed,dw,il,iq,cr,a8,aN,cY,bH,reduceCtorEq,bD,ca,Nat.reduceAdd,Nat.reduceLeDiff,Xh];exact rfl):p:=h
def gV {p:Prop}(h:p:=by simp[ax.eE,hx,hy,kx hf,ky hf,AO]):p:=h
def Kw {p:Prop}(h:p:=by repeat(first|exact fD.nil|refine fD.un ?_|refine fD.eq ai ?_|refine fD.nl ai ai ?_|refine fD.ni (Or.inr ⟨_,_,_,rfl⟩) ?_|refine fD.nl (aw (D.int .i64) (by push_cast;omega)) ai ?_)):p:=h
def aaQ {p:Prop}(h:p:=by simp only[xc,iY,mN,zU,EI,c7,Nat.reduceEqDiff,bh,aX,ir,ed,dw,il,iq,cr,a8,aN,cY,bH,reduceCtorEq,bD,ca,Nat.reduceAdd,Nat.reduceLeDiff,xd,bn.fz,Key.fz,Rec.fz,Env.fz,cx.fz,de.fz,gW.fz,lu.fz,js.fz,Ct,List.take_succ_cons,List.take_zero,BR,eP,nA,ny,Om,alj];exact rfl):p:=h
def aaR {p:Prop}(h:p:=by simp only[xc,iY,mN,zU,EI,c7,Nat.reduceEqDiff,bh,aX,ir,ed,dw,il,iq,cr,a8,aN,cY,bH,reduceCtorEq,bD,ca,Nat.reduceAdd,Nat.reduceLeDiff,xd,bn.fz,Key.fz,Rec.fz,Env.fz,cx.fz,de.fz,gW.fz,lu.fz,js.fz,Ct,List.take_succ_cons,List.take_zero,BR,eP,nA,ny,Om];exact rfl):p:=h
def aaS {p:Prop}(h:p:=by simp only[xc,iY,mN,zU,EI,c7,Nat.reduceEqDiff,bh,aX,ir,ed,dw,il,iq,cr,a8,aN,cY,bH,reduceCtorEq,bD,ca,Nat.reduceAdd,Nat.reduceLeDiff,xd,bn.fz,Key.fz,Rec.fz,Env.fz,cx.fz,de.fz,gW.fz,lu.fz,js.fz,Ct,List.take_succ_cons,List.take_zero,BR,eP];exact rfl):p:=h
def aaT {p:Prop}(h:p:=by rw[show ph g nm v most=(⟨nm,v,(nS nm g.aS (g.val (most+1)).toNat).1,(eJ (nS nm g.aS (g.val (most+1)).toNat).2 nm).1,(lC (eJ (nS nm g.aS (g.val (most+1)).toNat).2 nm).2 (nS nm g.aS (g.val (most+1)).toNat).1).1⟩,(lC (eJ (nS nm g.aS (g.val (most+1)).toNat).2 nm).2 (nS nm g.aS (g.val (most+1)).toNat).1).2)from rfl,hF];exact rfl):p:=h
def QA {p:Prop}(h:p:=by repeat(first|exact bo.nil|refine bo.AW ai ai dZ ?_|refine bo.NU ai ai ai ?_|refine bo.NV ai ai ai ai ?_|refine bo.nl 0 ai ai ai dZ ?_|refine bo.nl 1 ai ai ai dZ ?_)):p:=h
def lX {p:Prop}(h:p:=by simp only[bD,ca,sU,rh];omega):p:=h
def mV {p:Prop}(h:p:=by first|omega|(simp only[cu,ca];omega)):p:=h
def wo {p:Prop}(h:p:=by have hf:0<=c[j]! :=(by simpa only[eI,beq_iff_eq,aT]using hf);omega):p:=h
def QB {p:Prop}(h:p:=by rcases hg2 with h|⟨_,_,_,h,_⟩|⟨_,_,h,_⟩|⟨_,_,_,_,h,_⟩|⟨_,_,_,h|h,_⟩|⟨_,_,_,_,h,_⟩;exact h;cases h;cases h;cases h;cases h;cases h;cases h):p:=h
def QC {p:Prop}(h:p:=by have hf2:0<=w.us[j]!.cands[k]!.sh/\w.us[j]!.cands[k]!.sh<(shop.length:Int):=(by revert hf;generalize w.us[j]!.cands[k]!.sh=z;intro hf;simp at hf;omega);omega):p:=h
def Kx {p:Prop}(h:p:=by simpa only[eI,beq_iff_eq,aT]using hf):p:=h
def QD {p:Prop}(h:p:=by refine bo.nl 0 ai ai ai dZ ?_;refine bo.nl 1 ai ai ai dZ ?_;refine bo.eq 2 ai ai ai ?_;refine bo.nl 3 ai ai ai dZ ?_;exact bo.nil):p:=h
def aaU {p:Prop}(h:p:=by simp only[xc,iY,mN,zU,EI,c7,Nat.reduceEqDiff,bh,aX,ir,ed,dw,il,iq,cr,a8,aN,cY,bH,reduceCtorEq,bD,ca,Nat.reduceAdd,Nat.reduceLeDiff,ea.fz,Xi];exact rfl):p:=h
def aaV {p:Prop}(h:p:=by simp only[xc,iY,mN,zU,EI,c7,Nat.reduceEqDiff,bh,aX,ir,ed,dw,il,iq,cr,a8,aN,cY,bH,reduceCtorEq,bD,ca,Nat.reduceAdd,Nat.reduceLeDiff,Xh,bA.fz];exact rfl):p:=h
def px {p:Prop}(h:p:=by simp only[ax.val,hx,hy,ER];rw[hb hf]):p:=h
def aaW {p:Prop}(h:p:=by simp only[xc,iY,mN,zU,EI,c7,Nat.reduceEqDiff,bh,aX,ir,ed,dw,il,iq,cr,a8,aN,cY,bH,reduceCtorEq,bD,ca,Nat.reduceAdd,Nat.reduceLeDiff,bA.fz];exact rfl):p:=h
def aaX {p:Prop}(h:p:=by simp only[xc,iY,mN,zU,EI,c7,Nat.reduceEqDiff,bh,aX,ir,ed,dw,il,iq,cr,a8,aN,cY,bH,reduceCtorEq,bD,ca,Nat.reduceAdd,Nat.reduceLeDiff,Rec.fz];exact rfl):p:=h
def bZ {p:Prop}(h:p:=by cases h):p:=h
def aaY {p:Prop}(h:p:=by repeat(first|exact bo.nil|refine bo.AW ai ai dZ ?_|refine bo.NU ai ai ai ?_|refine bo.NV ai ai ai ai ?_|refine bo.nl 3 ai ai ai dZ ?_|refine bo.nl 11 ai ai ai dZ ?_)):p:=h
def aaZ {p:Prop}(h:p:=by repeat(first|exact bo.nil|refine bo.AW ai ai dZ ?_|refine bo.NU ai ai ai ?_|refine bo.NV ai ai ai ai ?_|refine bo.mp 1 ai ai ai ?_|refine bo.eq 2 ai ai ai ?_)):p:=h
def aa0 {p:Prop}(h:p:=by first|assumption|omega|exact⟨hns.2 _ (aq ae),hp0.1.2.2.1 _ (aq ae)⟩|exact⟨(hp0.1.2.2.1 _ (aq ae)).2.1,hp0.2⟩|exact((hp0.1.2.2.1 _ (aq ae)).1 _ (aq ae)).1.2):p:=h
def zB {p:Prop}(h:p:=by have hl'':st.nx+(k+1)<=l':=hl';show st.nx+k<=l';omega):p:=h
def aa1 {p:Prop}(h:p:=by repeat(first|exact fD.nil|refine fD.un ?_|refine fD.eq ai ?_|refine fD.nl ai ai ?_|refine fD.ni (Or.inr ⟨_,_,_,rfl⟩) ?_|refine fD.nl (aw (D.int .u64) hsv) ai ?_)):p:=h
def ED {p:Prop}(h:p:=by simp only[ho,Op.operands,Call.operands];simp at ho'⊢;exact .inr ho'):p:=h
def aa2 {p:Prop}(h:p:=by repeat(first|exact bo.nil|refine bo.AW ai ai dZ ?_|refine bo.NU ai ai ai ?_|refine bo.NV ai ai ai ai ?_|refine bo.nl 1 ai ai ai dZ ?_)):p:=h
def aa3 {p:Prop}(h:p:=by refine bo.nl 0 ai ai ai dZ ?_;refine bo.nl 1 ai ai ai dZ ?_;refine bo.nl 2 ai ai ai dZ ?_;refine bo.nl 3 ai ai ai dZ ?_;exact bo.nil):p:=h
def aa4 {p:Prop}(h:p:=by simp only[ax.eE,hx,hy];exact⟨kx hf,ky hf,by have:=hj hf;omega,by have:=hj hf;have:=hb hf;omega⟩):p:=h
def aa5 {p:Prop}(h:p:=by refine bo.nl 0 ai ai ai dZ ?_;refine bo.nl 1 ai ai ai dZ ?_;refine bo.eq 7 ai ai ai ?_;refine bo.nl 5 ai ai ai dZ ?_;exact bo.nil):p:=h
def QE {p:Prop}(h:p:=by first|assumption|omega|exact fg (hp0.1.2 _ (aq ae)) aV|exact(hp0.2.1 _ (aq ae)).1.2):p:=h
def Ky {p:Prop}(h:p:=by first|assumption|omega|exact hp0.1|exact hp0.2.1|exact⟨hp0.2.1,hp0.2.2⟩):p:=h
def QF {p:Prop}(h:p:=by first|assumption|omega|exact hp0.1|exact hp0.2.1 _ (aq ae)|exact hp0.2.2 _ (aq ae)):p:=h
def aa7 {p:Prop}(h:p:=by simp only[jq,hc3];revert hc4;generalize cP (ba s 46)[i]! =a;generalize ot (ba s 46)[i]! =b;cases p<;>cases a<;>cases b<;>simp):p:=h
def aa8 {p:Prop}(h:p:=by simp only[ax.eE,hx,dT,aH,hl,iW,(dz _ _ _).1,ha];exact⟨trivial,ho,hn,trivial,trivial,⟨trivial,aC⟩,aC,hd,hc.1⟩):p:=h
def oC {p:Prop}(h:p:=by simp[ax.eE,hx,kx hf]):p:=h
def aa9 {p:Prop}(h:p:=by first|assumption|omega|exact hp0.1.1|exact⟨hp0.1.1,hcs.2.1 _ (aq ae),hfw.2.2 _ (aq ae)⟩|exact⟨hp0.1.1,hcs.2.2,hfw.2.1⟩):p:=h
def aba {p:Prop}(h:p:=by repeat(first|exact fD.nil|refine fD.un ?_|refine fD.eq ai ?_|refine fD.nl ai ai ?_|refine fD.ni (Or.inr ⟨0,1,0,rfl⟩) ?_)):p:=h
def sX {p:Prop}(h:p:=by rintro _ rfl;simp[ho,Op.operands]):p:=h
def kf {p:Prop}(h:p:=by rw[a8];omega):p:=h
def abb {p:Prop}(h:p:=by have hcu:0<=c[u]! :=Decidable.byContradiction λhn=>(by rw[bL hn]at hf;revert hf;decide);have:=(hfu hcu).1;omega):p:=h
def Kz {p:Prop}(h:p:=by repeat' first|exact rfl|exact trivial|refine And.intro ?_ ?_):p:=h
def EE {p:Prop}(h:p:=by first|(rw[cu];rfl)|(simp only[cu];rfl)):p:=h
def abc {p:Prop}(h:p:=by simp only[ax.val,hx,KK];rw[getD_map (hi hf)];exact hv hf):p:=h
def lY {p:Prop}(h:p:=by simpa using hc1):p:=h
def zC {p:Prop}(h:p:=by simp only[ax.val,hx,hy,ER,Q0]):p:=h
def abd {p:Prop}(h:p:=by first|assumption|omega|exact hp0.1|exact hp0.2.1 _ (aq (by first|omega|(simp at hf;omega)))|exact hp0.2.2):p:=h
def abe {p:Prop}(h:p:=by first|assumption|omega|exact⟨(hp0.1.2.2.2.1 _ (aq ae)).2.2,hp0.2⟩|exact(hp0.1.2.2.2.1 _ (aq ae)).2.1):p:=h
def abf {p:Prop}(h:p:=by rw[OK hc0];exact(by refine⟨?_, ?_, ?_⟩<;>first|exact rfl|(rw[nA];exact rfl)|(rw[ny];exact rfl))):p:=h
def abg {p:Prop}(h:p:=by simp only[ax.eE,hx,KJ,a8];exact⟨kx hf,hi hf,ho⟩):p:=h
def zD {p:Prop}(h:p:=by simp only[ax.val,hx,hy,ER]<;>rfl):p:=h
def KA {p:Prop}(h:p:=by have:=kO (tot:=tot) (show i<tot by omega) hj;omega):p:=h
def abh {p:Prop}(h:p:=by first|(rw[rW,K6 hc0 (i:=i) ae ae];done)|(rw[rW,K6 hc0 (i:=i) ae ae];exact rfl)):p:=h
def EF {p:Prop}(h:p:=by have:=hf.m l' hl';simp only at this⊢;omega):p:=h
def als {p:Prop}(h:p:=by simp only[cu,List.length_singleton];omega):p:=h
def rj {p:Prop}(h:p:=by simpa using h):p:=h
def KB {p:Prop}(h:p:=by first|assumption|(simp only[oX,Gs.aS]at*;omega)):p:=h
def KC {p:Prop}(h:p:=by simp only[eI,beq_iff_eq,aA,aT]at h;omega):p:=h
def KD {p:Prop}(h:p:=by simp only[ax.val,hx,hy];rw[hj hf];rfl):p:=h
def QG {p:Prop}(h:p:=by simp only[ax.eE,hx,KJ];exact⟨kx hf,hi hf,ho⟩):p:=h
def QH {p:Prop}(h:p:=by simp only[cu,dF,jO,bD,ca];omega):p:=h
def QI {p:Prop}(h:p:=by have:=hj hf;have:=hb hf;omega):p:=h
def jP {p:Prop}(h:p:=by simp[hc0]):p:=h
def QJ {p:Prop}(h:p:=by simp only[ax.val,hx,hy,ER];rw[wrap_i64 (hb hf).1 (hb hf).2]):p:=h
def KE {p:Prop}(h:p:=by rw[cu,List.length_singleton];omega):p:=h
def zE {p:Prop}(h:p:=by simp only[dF];omega):p:=h
def py {p:Prop}(h:p:=by simp[cF];omega):p:=h
def rl {p:Prop}(h:p:=by simp[ho,Op.operands]):p:=h
def QK {p:Prop}(h:p:=by first|assumption|omega|exact hp0.1.p.1.1|exact hp0.1.p.1.2):p:=h
def KF {p:Prop}(h:p:=by simp[ax.eE,hx,hy,kx hf,ky hf,AO,hn hf]):p:=h
def rm {p:Prop}(h:p:=by simp only;omega):p:=h
def QL {p:Prop}(h:p:=by simp only[ax.val,hx,KK,aH,hl hf,iW];exact hv hf):p:=h
def QM {p:Prop}(h:p:=by first|assumption|exact hp0.1|exact hp0.2.1|exact hp0.2.2):p:=h
def EG {p:Prop}(h:p:=by simp only[cu,bD,ca];omega):p:=h
def QN {p:Prop}(h:p:=by have:=ha hf;subst hd;simpa[ax.KH,hx,kx hf]using this):p:=h
def oD {p:Prop}(h:p:=by simpa using hi):p:=h
def iu {p:Prop}(h:p:=by simp at h):p:=h
def me {p:Prop}(h:p:=by simp[ax.val,hx]):p:=h
def Kl {p:Prop}(h:p:=by first|assumption|omega|exact hp0.1.1|exact hp0.1.2):p:=h
def Tc {p:Prop}(h:p:=by rintro⟨h1,h2⟩;rcases hc1 with h|h;omega;exact h h2):p:=h
def je {p:Prop}(h:p:=by rw[h];simp):p:=h
def Td {p:Prop}(h:p:=by simp only[ax.eE,hx,hy];exact⟨kx hf,ky hf,h1 hf⟩):p:=h
def Km {p:Prop}(h:p:=by simp only[ho,Op.operands,bY];exact⟨p,hp,rfl⟩):p:=h
def Kn {p:Prop}(h:p:=by simp only[ax.val,hx,KK];exact hv hf):p:=h
def Ko {p:Prop}(h:p:=by refine bo.nl 0 ai ai ai dZ ?_;exact bo.nil):p:=h
def BS {p:Prop}(h:p:=by simp at hf;omega):p:=h
def Kq {p:Prop}(h:p:=by rw[xe _ _ _ ae];exact List.getElem_mem _):p:=h
def uv {p:Prop}(h:p:=by simp only[bD];omega):p:=h
def gp {p:Prop}(h:p:=by simp[h]):p:=h
def Te {p:Prop}(h:p:=by simp[tx,U0,mT]):p:=h
def yu {p:Prop}(h:p:=by rw[cY,Gr];rfl):p:=h
def nK {p:Prop}(h:p:=by simpa using hj):p:=h
def yv {p:Prop}(h:p:=by simpa[D.aR]using hn):p:=h
def Kr {p:Prop}(h:p:=by have:=hj hf;omega):p:=h
def oU {p:Prop}(h:p:=by simpa using hc5):p:=h
def yw {p:Prop}(h:p:=by rw[th];exact hl'):p:=h
def uw {p:Prop}(h:p:=by rwa [th]at hi):p:=h
def ux {p:Prop}(h:p:=by rw[cr];rfl):p:=h
def uy {p:Prop}(h:p:=by simp[kd];omega):p:=h
def yx {p:Prop}(h:p:=by simpa using hc3):p:=h
def mf {p:Prop}(h:p:=by assumption):p:=h
def mg {p:Prop}(h:p:=by simp[hw0]):p:=h
def nL {p:Prop}(h:p:=by simp[e8]):p:=h
inductive D where
 |any
 |bool (b:Bool)
 |int (k:IntKind) (n:Int)
 |str (s:List UInt8)
 |agg (cs:List D)
 |tup (ds:List D)
 |aL
 |sl (k:Nat) (es:List D)
 |ref (k:Nat) (es:List D) (i o:Nat)
 |ptr (l k i o:Nat)
 |own (l k i n:Nat)
 |nilp
 |fn (f:Nat) (caps:List D)
 |nilf
 |it (l:Nat)
 deriving Inhabited
inductive Src where
 |s (n:Nat)
 |l (p:Nat)
 |c (d:D)
 deriving Inhabited
inductive Sh where
 |a
 |sl (k:Nat) (cs:List Sh)
 |pt (cs:List Sh)
 |kp (cs:List Sh)
 deriving Inhabited
inductive CK where
 |b|i (k:IntKind)|s
 deriving Inhabited
inductive ax where
 |mv (x:Src)
 |pick (c a b:Src)
 |box (k:Nat) (x:Src)
 |build (z:List D) (parts:List (Nat×Nat×Src))
 |bsl (k:Nat) (z:D) (n:Nat) (parts:List (Nat×Src))
 |ld (n:Nat) (ag:Bool) (p:Src)
 |st (n:Nat) (p v:Src)
 |stU (n:Nat) (p v:Src) (qs:List Src)
 |nilck (x:Src)
 |bin (op:BinOp) (x y:Src)
 |eqA (neg ag:Bool) (ks:List CK) (x y:Src)
 |un (op:UnOp) (x:Src)
 |cvi (k:IntKind) (x:Src)
 |mn (g:Bool) (x y:Src)
 |s2b (x:Src)
 |b2s (x:Src)
 |mkf (f:Nat) (caps:List Src)
 |mks (k:Nat) (z:D) (ln cp:Src)
 |slS (x:Src) (lo hi:Option Src)
 |slA (k:Nat) (x:Src) (lo hi:Option Src)
 |slX (k:Nat) (x hi mx:Src)
 |fa (off:Nat) (p:Src)
 |fld (off n:Nat) (ag:Bool) (x:Src)
 |ia (k:Nat) (x i:Src)
 |iaP (n k:Nat) (x i:Src)
 |ixS (x i:Src)
 |ixA (n k:Nat) (ag:Bool) (x i:Src)
 |ext (x:Src) (i:Nat)
 |len (x:Src)
 |lenS (x:Src)
 |app (k:Nat) (x y:Src)
 |call (f:Nat) (args:List Src) (sh:List (List Sh))
 |callv (f:Src) (args:List Src) (sh:List (List Sh))
 |callM (f:Nat) (args:List Src)
 |callvM (f:Src) (args:List Src)
 |ldI (n:Nat) (ag:Bool) (p:Src)
 |ldU (n:Nat) (ag:Bool) (p:Src)
 |ldW (n:Nat) (ag:Bool) (p:Src)
 |callF (f:Nat) (r:Src) (args:List Src) (sh:List (List Sh))
 |appN (k:Nat) (y:Src)
 |bslI (k:Nat) (z:D) (n:Nat) (parts:List (Nat×Src))
 |rng (x:Src)
 |aS (x:Src)
 |mkB
 |mkM
 |upM (x k v:Src)
 |lkM (z:D) (x k:Src)
 |isNl (x:Src) (neg:Bool)
 deriving Inhabited
structure GI where
 i:ax
 g:Option (Nat×Bool)
 deriving Inhabited
variable(l:List GI)
inductive AC where
 |reg (draw:Bool) (ins:List GI) (cm:List (Nat×Nat))
 |seq (a b:AC)
 |cond (c:Src) (a b:AC)
 |block (id:Nat) (a:AC)
 |loop (a:AC)
 |exit (id:Nat)
 |ret
 |skip
 deriving Inhabited
structure GL where
 s:Nat
 mem:Option (Nat×Bool)
 deriving Inhabited
structure aj where
 np:Nat
 ns:Nat
 res:List GL
 rsh:List (List Sh)
 body:AC
 deriving Inhabited
variable(a:aj)
@[go_sem] def D.cells:D->List D
 | .agg cs=>cs
 | .any=>[]
 | .tup _=>[]
 |d=>[d]
@[go_sem] def D.isBool:D->Bool
 | .bool _=>true
 |_=>false
@[go_sem] def D.isAgg:D->Bool
 | .agg _=>true
 |_=>false
mutual
@[go_sem] def D.aR:D->Bool
 | .agg cs=>aK cs
 | .tup cs=>aK cs
 | .fn _ cs=>aK cs
 | .ptr .. =>false
 | .own .. =>false
 | .it _=>false
 |_=>true
@[go_sem] def aK:List D->Bool
 |[]=>true
 |d::r=>d.aR&&aK r
end
mutual
@[go_sem] def D.fm:D->Bool
 | .agg cs=>oc cs
 | .tup cs=>oc cs
 | .fn n cs=>!(Nat.ble 2000000 n)&&oc cs
 | .ptr .. =>false
 | .own .. =>false
 | .it _=>false
 | .sl .. =>false
 | .ref .. =>false
 |_=>true
@[go_sem] def oc:List D->Bool
 |[]=>true
 |d::r=>d.fm&&oc r
end
inductive bj where
 |buf (k:Nat) (es:List D)
 |iter (s:List UInt8) (pos:Nat)
 |row (s:List UInt8)
 |bld (o:Option Nat) (n:Nat) (u:Bool)
 |mpb (kvs:List D)
 deriving Inhabited
structure St where
 nx:Nat
 m:List (Nat×bj)
@[go_sem] def look:List (Nat×bj)->Nat->Option bj
 |[],_=>none
 |(a,b)::r,l=>if a=l then some b else look r l
@[go_sem] def cT:List (Nat×bj)->Nat->bj->List (Nat×bj)
 |[],l,b=>[(l,b)]
 |(a,x)::r,l,b=>if a=l then(a,b)::r else(a,x)::cT r l b
@[go_sem] def c7:List (Nat×bj)->Nat->List (Nat×bj)
 |[],_=>[]
 |(a,x)::r,l=>if a=l then c7 r l else(a,x)::c7 r l
structure aY where
 ok:Bool
 d:D
@[go_sem] def aY.un:aY:=⟨true,.any⟩
variable(vs:List aY)
@[go_sem] def Src.ev (env vs:List aY):Src->aY
 | .s n=>env.getD n .un
 | .l p=>vs.getD p .un
 | .c d=>⟨true,d⟩
structure Ctx where
 pre:Nat->List D->Prop
 val:Nat->List D->D
 tr:Nat->List D->St->(D->St->Prop)->Prop
 fp:Nat->D->List D->Prop
 fv:Nat->D->List D->D
 fs:Nat->D->List D->D
 lo:Nat
@[go_sem] def aH (m:List (Nat×bj))(l:Nat):List D:=match look m l with
 |some (.buf _ es)=>es
 |_=>[]
@[go_sem] def dT (m:List (Nat×bj))(l k n:Nat):Prop:=match look m l with
 |some (.buf k' es)=>k=k'/\n<=es.length
 |_=>False
@[go_sem] def qn (m:List (Nat×bj)):D->List D
 | .sl _ es=>es
 | .own l _ i n=>((aH m l).drop i).take n
 | .str s=>s.map λb=>.int .u8 b.toNat
 |_=>[]
@[go_sem] def Ca (m:List (Nat×bj))(k:Nat):D->Prop
 | .sl k' _=>k'=k
 | .own l k' i n=>k'=k/\dT m l k (i+n)
 | .str _=>k=1
 | .aL=>True
 |_=>False
mutual
@[go_sem] def kS (m:List (Nat×bj)):Sh->D->D
 | .a,d=>match d with
  | .aL=>.sl 0 []
  |d=>d
 | .sl k cs,d=>match d with
  | .aL=>.sl k []
  | .own l k' i c=>.sl k' ((((aH m l).drop i).take c).map (jg m cs))
  |d=>d
 | .pt cs,d=>match d with
  | .ptr l k i o=>.ref k ((aH m l).map (jg m cs)) i o
  |d=>d
 | .kp cs,d=>match d with
  | .own l k' i c=>.sl k' ((((aH m l).drop i).take c).map (jg m cs))
  |d=>d
@[go_sem] def jg (m:List (Nat×bj)):List Sh->D->D
 |[],d=>d
 |s::r,d=>match d with
  | .agg cs=>.agg (nD m (s::r) cs)
  |d=>kS m s d
@[go_sem] def nD (m:List (Nat×bj)):List Sh->List D->List D
 |[],ds=>ds
 |s::r,ds=>match ds with
  |[]=>[]
  |d::ds=>kS m s d::nD m r ds
end
mutual
@[go_sem] def ix (m:List (Nat×bj)):Sh->D->Prop
 | .a,d=>d.aR=true
 | .sl _ cs,d=>match d with
  | .own l k' i c=>dT m l k' (i+c)/\∀e∈((aH m l).drop i).take c,gH m cs e
  |d=>d.aR=true
 | .pt cs,d=>match d with
  | .ptr l k _ _=>dT m l k 0/\∀e∈aH m l,gH m cs e
  |d=>d.aR=true
 | .kp cs,d=>match d with
  | .own l k' i c=>dT m l k' (i+c)/\∀e∈((aH m l).drop i).take c,gH m cs e
  |d=>d.aR=true
@[go_sem] def gH (m:List (Nat×bj)):List Sh->D->Prop
 |[],d=>d.aR=true
 |s::r,d=>match d with
  | .agg cs=>ku m (s::r) cs
  |d=>ix m s d
@[go_sem] def ku (m:List (Nat×bj)):List Sh->List D->Prop
 |[],ds=>aK ds=true
 |s::r,ds=>match ds with
  |[]=>True
  |d::ds=>ix m s d/\ku m r ds
end
@[go_sem] def ER (op:BinOp):D->D->D
 | .int k a,.int _ b=>match op with
  | .add=>.int k (k.wrap (a+b))
  | .sub=>.int k (k.wrap (a-b))
  | .mul=>.int k (k.wrap (a*b))
  | .quo=>.int k (k.wrap (a.tdiv b))
  | .rem=>.int k (a.tmod b)
  | .eql=>.bool (a==b)| .neq=>.bool (a !=b)| .lss=>.bool (decide (a<b))| .leq=>.bool (decide (a<=b))| .gtr=>.bool (decide (b<a))| .geq=>.bool (decide (b<=a))
  | .shl=>.int k (k.wrap (a*2^(min b.toNat k.bits)))
  | .shr=>.int k (a.fdiv (2^(min b.toNat k.bits)))
  | .and=>.int k (k.wrap (((BitVec.ofInt k.bits a)&&&(BitVec.ofInt k.bits b)).toNat))
  | .or=>.int k (k.wrap (((BitVec.ofInt k.bits a) |||(BitVec.ofInt k.bits b)).toNat))
  | .xor=>.int k (k.wrap (((BitVec.ofInt k.bits a)^^^(BitVec.ofInt k.bits b)).toNat))
  | .andNot=>.int k (k.wrap (((BitVec.ofInt k.bits a)&&& ~~~(BitVec.ofInt k.bits b)).toNat))
 | .str a,.str b=>match op with
  | .add=>.str (a++b)
  | .eql=>.bool (a==b)| .neq=>.bool (!(a==b))| .lss=>.bool (Op.bytesLess a b)| .geq=>.bool (!(Op.bytesLess a b))
  | .leq=>.bool (Op.bytesLess a b ||a==b)| .gtr=>.bool (!(Op.bytesLess a b ||a==b))
  |_=>.any
 |_,_=>.any
@[go_sem] def AO (op:BinOp):D->D->Prop
 | .int k a,.int k' b=>match op with
  | .quo=>k=k'/\b≠0
  | .rem=>k=k'/\b≠0
  | .shl=>0<=b
  | .shr=>0<=b
  |_=>k=k'
 | .str a,.str b=>match op with
  | .add=>a.length+b.length<=9223372036854775807
  | .eql=>True| .neq=>True| .lss=>True| .geq=>True| .leq=>True| .gtr=>True
  |_=>False
 |_,_=>False
@[go_sem] def D.pick (b:Bool):D->D->D
 | .bool x,.bool y=>.bool (bif b then x else y)
 |x,y=>bif b then x else y
@[go_sem] def cut (cs:List D)(o n:Nat)(ag:Bool):D:=bif ag then .agg ((cs.drop o).take n)else cs.getD o .any
@[go_sem] def kP (e:D)(k n o:Nat)(ag:Bool):D:=bif (n==k)&&(e.isAgg==ag)then e else cut e.cells o n ag
@[go_sem] def KK (m:List (Nat×bj))(n:Nat)(ag:Bool):D->D
 | .ptr l k i o=>kP ((aH m l).getD i .any) k n o ag
 | .ref k es i o=>kP (es.getD i .any) k n o ag
 | .fn _ es=>kP (es.getD 0 .any) 1 n 0 ag
 |_=>.any
@[go_sem] def KJ (m:List (Nat×bj))(n:Nat):D->Prop
 | .ptr l k i o=>dT m l k (i+1)/\o+n<=k
 | .ref k es i o=>i<es.length/\o+n<=k
 | .fn q es=>q=3000000/\n=1/\es.length=1/\(es.getD 0 .any).cells=[es.getD 0 .any]
 |_=>False
mutual
@[go_sem] def eqD:D->D->Bool
 | .bool a,.bool b=>a==b
 | .int _ a,.int _ b=>a==b
 | .str a,.str b=>a==b
 |_,_=>false
@[go_sem] def ib:List D->List D->Bool
 |[],[]=>true
 |a::r,b::s=>eqD a b&&ib r s
 |_,_=>false
end
@[go_sem] def CK.fits:CK->D->Prop
 | .b,.bool _=>True
 | .i k,.int k' _=>k'=k
 | .s,.str _=>True
 |_,_=>False
@[go_sem] def fH:List CK->List D->Prop
 |[],[]=>True
 |c::r,d::s=>c.fits d/\fH r s
 |_,_=>False
@[go_sem] def over (cs:List D)(o:Nat)(new:List D):List D:=cs.take o++(new++cs.drop (o+new.length))
@[go_sem] def rO (e:D)(k n o:Nat)(v:D):D:=bif (n==k)&&(v.isAgg ||!e.isAgg)then v else .agg (over e.cells o v.cells)
@[go_sem] def Cf (J:Src->aY)(cs:List D):List (Nat×Nat×Src)->List D
 |[]=>cs
 |(o,_,s)::r=>Cf J (over cs o (J s).d.cells) r
@[go_sem] def zQ (J:Src->aY)(len:Nat):List (Nat×Nat×Src)->Prop
 |[]=>True
 |(o,n,s)::r=>(J s).ok=true/\(J s).d.cells.length=n/\o+n<=len/\zQ J len r
@[go_sem] def mh (J:Src->aY)(es:List D):List (Nat×Src)->List D
 |[]=>es
 |(i,s)::r=>mh J (es.set i (J s).d) r
@[go_sem] def qA (J:Src->aY)(k n:Nat):List (Nat×Src)->Prop
 |[]=>True
 |(i,s)::r=>i<n/\(J s).ok=true/\(J s).d.cells.length=k/\qA J k n r
@[go_sem] def D.nat:D->Nat
 | .int _ n=>n.toNat
 |_=>0
@[go_sem] def ee (o:Option D)(dflt:Nat):Nat:=match o with
 |some (.int _ n)=>n.toNat
 |_=>dflt
@[go_sem] def nt (o:Option D)(hi:Nat):Prop:=match o with
 |none=>True
 |some (.int _ n)=>0<=n/\n<=hi
 |_=>False
@[go_sem] def Ma (J:Src->aY):Option Src->Prop
 |none=>True
 |some s=>(J s).ok=true
@[go_sem] def dO (J:Src->aY):Option Src->Option D
 |none=>none
 |some s=>some (J s).d
@[go_sem] def BB (J:Src->aY):List Src->Prop
 |[]=>True
 |s::r=>(J s).ok=true/\BB J r
@[go_sem] def iS (J:Src->aY):List Src->List D
 |[]=>[]
 |s::r=>(J s).d::iS J r
@[go_sem] def D.u8:D->UInt8
 | .int _ n=>UInt8.ofNat n.toNat
 |_=>0
@[go_sem] def D.T1:D->Prop
 | .int k n=>k=.u8/\0<=n/\n<256
 |_=>False
variable{d:D}
def yI (s:List UInt8)(pos:Nat):Nat×Nat:=Utf8.decode ⟨⟨s⟩⟩ pos
@[go_sem] def iG (m:List (Nat×bj)):List (List Sh)->List D->List D
 |_,[]=>[]
 |[],d::r=>jg m [.a] d::iG m [] r
 |s::ss,d::r=>jg m s d::iG m ss r
@[go_sem] def jl (m:List (Nat×bj)):List (List Sh)->List D->Prop
 |_,[]=>True
 |[],d::r=>gH m [.a] d/\jl m [] r
 |s::ss,d::r=>gH m s d/\jl m ss r
@[go_sem] def vJ:D->Bool
 | .agg [.str _,.str _]=>true
 |_=>false
@[go_sem] def pR:D->D->Bool
 | .agg [.str a,.str b],.agg [.str c,.str d]=>a==c&&b==d
 |_,_=>false
@[go_sem] def xr:List D->Bool
 |[]=>true
 |k::_::r=>vJ k&&xr r
 |[_]=>false
@[go_sem] def NW (k:D):List D->Option D
 |a::v::r=>bif pR a k then some v else NW k r
 |_=>none
@[go_sem] def z8 (k v:D):List D->List D
 |a::w::r=>bif pR a k then a::v::r else a::w::z8 k v r
 |_=>[k,v]
@[go_sem] def CX:D->List Nat
 | .fn _ [.it l]=>[l]
 |_=>[]
@[go_sem] def Ue (m:List (Nat×bj)):D->List D
 | .fn _ [.it l]=>match look m l with
  |some (.mpb kvs)=>kvs
  |_=>[]
 |_=>[]
@[go_sem] def mpO (m:List (Nat×bj)):D->Prop
 | .fn n [.it l]=>n=5000000/\match look m l with
  |some (.mpb kvs)=>xr kvs=true
  |_=>False
 |_=>False
@[go_sem] def ax.val (Y:Ctx)(J:Src->aY)(m:List (Nat×bj))(L:Nat):ax->D
 | .mv x=>(J x).d
 | .pick c a b=>match(J c).d with| .bool t=>D.pick t (J a).d (J b).d|_=>.any
 | .box k _=>.ptr L k 0 0
 | .build z ps=>.agg (Cf J z ps)
 | .bsl k _ n _=>.own L k 0 n
 | .ld n ag p=>KK m n ag (J p).d
 | .st _ _ _=>.any
 | .stU _ _ _ _=>.any
 | .nilck x=>(J x).d
 | .bin op x y=>ER op (J x).d (J y).d
 | .eqA neg _ _ x y=>.bool (bif neg then !(ib (J x).d.cells (J y).d.cells)else ib (J x).d.cells (J y).d.cells)
 | .un op x=>match op,(J x).d with
  | .not,.bool b=>.bool (!b)
  | .neg,.int k n=>.int k (k.wrap (0-n))
  |_,_=>.any
 | .cvi k x=>match(J x).d with| .int _ n=>.int k (k.wrap n)|_=>.any
 | .mn g x y=>match(J x).d,(J y).d with| .int k a,.int _ b=>.int k (if g=true then(if b>a then b else a)else if b<a then b else a)|_,_=>.any
 | .s2b x=>match(J x).d with| .str s=>.own L 1 0 s.length|_=>.any
 | .b2s x=>.str ((qn m (J x).d).map D.u8)
 | .mkf f caps=>.fn f (iS J caps)
 | .mks k _ ln _=>.own L k 0 (J ln).d.nat
 | .slS x lo hi=>match(J x).d with
  | .str s=>.str ((s.take (ee (dO J hi) s.length)).drop (ee (dO J lo) 0))
  |_=>.any
 | .slA _ x lo hi=>match(J x).d with
  | .sl k es=>.sl k ((es.take (ee (dO J hi) es.length)).drop (ee (dO J lo) 0))
  | .own l k i n=>.own l k (i+ee (dO J lo) 0) (ee (dO J hi) n-ee (dO J lo) 0)
  | .aL=>.aL
  |_=>.any
 | .slX _ x hi _=>match(J x).d,(J hi).d with
  | .sl k es,.int _ h=>.sl k (es.take h.toNat)
  | .own l k i _,.int _ h=>.own l k i h.toNat
  | .aL,_=>.aL
  |_,_=>.any
 | .fa off p=>match(J p).d with
  | .ptr l k i o=>.ptr l k i (o+off)
  | .ref k es i o=>.ref k es i (o+off)
  |_=>.any
 | .fld off n ag x=>cut (J x).d.cells off n ag
 | .ia _ x i=>match(J x).d,(J i).d with
  | .sl k es,.int _ n=>.ref k es n.toNat 0
  | .own l k j _,.int _ n=>.ptr l k (j+n.toNat) 0
  |_,_=>.any
 | .iaP _ k x i=>match(J x).d,(J i).d with
  | .ptr l k' j o,.int _ n=>.ptr l k' j (o+n.toNat*k)
  | .ref k' es j o,.int _ n=>.ref k' es j (o+n.toNat*k)
  |_,_=>.any
 | .ixS x i=>match(J x).d,(J i).d with
  | .str s,.int _ n=>.int .u8 (s.getD n.toNat 0).toNat
  |_,_=>.any
 | .ixA _ k ag x i=>match(J i).d with
  | .int _ n=>cut (J x).d.cells (n.toNat*k) k ag
  |_=>.any
 | .ext x i=>match(J x).d with| .tup ds=>ds.getD i .any|_=>.any
 | .len x=>match(J x).d with
  | .sl _ es=>.int .i64 es.length
  | .own _ _ _ n=>.int .i64 n
  | .aL=>.int .i64 0
  |_=>.any
 | .lenS x=>match(J x).d with
  | .str s=>.int .i64 s.length
  |_=>.any
 | .app k x y=>match(J x).d with
  | .own _ _ _ n=>.own L k 0 (n+(qn m (J y).d).length)
  |_=>.own L k 0 (qn m (J y).d).length
 | .call f args sh=>Y.val f (iG m sh (iS J args))
 | .callv f args sh=>match(J f).d with
  | .fn n caps=>Y.val n (iG m sh (iS J args++caps))
  |_=>.any
 | .callM _ _=>.any
 | .callvM _ _=>.any
 | .ldU n ag p=>KK m n ag (J p).d
 | .ldW n ag p=>KK m n ag (J p).d
 | .ldI n ag p=>match(J p).d with
  | .ref k es i o=>kP (es.getD i .any) k n o ag
  | .fn _ es=>kP (es.getD 0 .any) 1 n 0 ag
  |_=>.any
 | .appN k y=>.own L k 0 (qn m (J y).d).length
 | .bslI k z n ps=>.sl k (mh J (List.replicate n z) ps)
 | .callF f r args sh=>match(J r).d with
  | .ptr l _ _ _=>Y.fv f ((aH m l).getD 0 .any) (iG [] sh (iS J args))
  |_=>.any
 | .rng _=>.it L
 | .mkB=>.ptr L 2 0 0
 | .mkM=>.fn 5000000 [.it L]
 | .upM .. =>.any
 | .lkM z x k=>match NW (J k).d (Ue m (J x).d)with
  |some v=>.tup [v,.bool true]
  |none=>.tup [z,.bool false]
 | .isNl .. =>.any
 | .aS x=>match(J x).d with
  | .it l=>match look m l with
   |some (.iter s pos)=>bif decide (pos<s.length)then .tup [.bool true,.int .i64 pos,.int .i32 (yI s pos).1]else .tup [.bool false]
   |_=>.any
  |_=>.any
@[go_sem] def cg:D->List Nat
 | .ptr l _ _ _=>[l]
 | .own l _ _ _=>[l]
 | .it l=>[l]
 |_=>[]
@[go_sem] def qv (args:List D)(r:D):Bool:=aK args ||r.fm
@[go_sem] def ax.eE (Y:Ctx)(J:Src->aY)(m:List (Nat×bj)):ax->Prop
 | .mv x=>(J x).ok=true
 | .pick c a b=>(J c).ok=true/\match(J c).d with
  | .bool t=>(t=true->(J a).ok=true)/\(t=false->(J b).ok=true)
  |_=>False
 | .box k x=>(J x).ok=true/\(J x).d.cells.length=k
 | .build z ps=>zQ J z.length ps
 | .bsl k z n ps=>z.cells.length=k/\qA J k n ps
 | .ld n _ p=>(J p).ok=true/\KJ m n (J p).d
 | .st n p v=>(J p).ok=true/\(J v).ok=true/\(J v).d.cells.length=n/\match(J p).d with
  | .ptr l k i o=>dT m l k (i+1)/\o+n<=k
  |_=>False
 | .stU n p v qs=>(J p).ok=true/\(J v).ok=true/\(J v).d.cells.length=n/\match(J p).d with
  | .ptr l k i o=>dT m l k (i+1)/\o+n<=k/\(k<=4\/∀q∈qs,l∉cg (J q).d)
  |_=>False
 | .nilck x=>(J x).ok=true/\match(J x).d with| .ptr .. =>True| .ref .. =>True|_=>False
 | .bin op x y=>(J x).ok=true/\(J y).ok=true/\AO op (J x).d (J y).d
 | .eqA _ ag ks x y=>(J x).ok=true/\(J y).ok=true/\(J x).d.isAgg=ag/\(J y).d.isAgg=ag/\fH ks (J x).d.cells/\fH ks (J y).d.cells
 | .un op x=>(J x).ok=true/\match op,(J x).d with
  | .not,.bool _=>True
  | .neg,.int _ _=>True
  |_,_=>False
 | .cvi _ x=>(J x).ok=true/\match(J x).d with| .int _ _=>True|_=>False
 | .mn g x y=>(J x).ok=true/\(J y).ok=true/\match(J x).d,(J y).d with| .int _ _,.int _ _=>True|_,_=>False
 | .s2b x=>(J x).ok=true/\match(J x).d with| .str _=>True|_=>False
 | .b2s x=>(J x).ok=true/\(match(J x).d with| .str _=>False|_=>True)/\Ca m 1 (J x).d/\∀e∈qn m (J x).d,e.T1
 | .mkf _ caps=>BB J caps
 | .mks k z ln cp=>(J ln).ok=true/\(J cp).ok=true/\z.cells.length=k/\match(J ln).d,(J cp).d with
  | .int _ n,.int _ c=>0<=n/\n<=c/\c<=1073741824
  |_,_=>False
 | .slS x lo hi=>(J x).ok=true/\Ma J lo/\Ma J hi/\match(J x).d with
  | .str s=>nt (dO J hi) s.length/\nt (dO J lo) (ee (dO J hi) s.length)
  |_=>False
 | .slA k x lo hi=>(J x).ok=true/\Ma J lo/\Ma J hi/\match(J x).d with
  | .sl k' es=>k'=k/\nt (dO J hi) es.length/\nt (dO J lo) (ee (dO J hi) es.length)
  | .own _ k' _ n=>k'=k/\nt (dO J hi) n/\nt (dO J lo) (ee (dO J hi) n)
  | .aL=>nt (dO J hi) 0/\nt (dO J lo) 0
  |_=>False
 | .slX k x hi mx=>(J x).ok=true/\(J hi).ok=true/\(J mx).ok=true/\match(J hi).d,(J mx).d with
  | .int _ h,.int _ m=>0<=h/\h<=m/\(match(J x).d with
    | .sl k' es=>k'=k/\m<=es.length
    | .own _ k' _ n=>k'=k/\m<=n
    | .aL=>m=0
    |_=>False)
  |_,_=>False
 | .fa off p=>(J p).ok=true/\match(J p).d with| .ptr .. =>True| .ref .. =>True|_=>False
 | .fld off n ag x=>(J x).ok=true/\match(J x).d with| .agg cs=>off+n<=cs.length/\(ag=false->n=1)|_=>False
 | .ia k x i=>(J x).ok=true/\(J i).ok=true/\match(J x).d,(J i).d with
  | .sl k' es,.int _ n=>k'=k/\0<=n/\n<es.length
  | .own _ k' _ c,.int _ n=>k'=k/\0<=n/\n<c
  |_,_=>False
 | .iaP n k x i=>(J x).ok=true/\(J i).ok=true/\match(J x).d,(J i).d with
  | .ptr ..,.int _ c=>0<=c/\c<n
  | .ref ..,.int _ c=>0<=c/\c<n
  |_,_=>False
 | .ixS x i=>(J x).ok=true/\(J i).ok=true/\match(J x).d,(J i).d with
  | .str s,.int _ n=>0<=n/\n<s.length
  |_,_=>False
 | .ixA n k ag x i=>(J x).ok=true/\(J i).ok=true/\(ag=false->k=1)/\match(J x).d,(J i).d with
  | .agg cs,.int _ c=>0<=c/\c<n/\cs.length=n*k
  |_,_=>False
 | .ext x i=>(J x).ok=true/\match(J x).d with| .tup ds=>i<ds.length|_=>False
 | .len x=>(J x).ok=true/\match(J x).d with| .sl _ _=>True| .own .. =>True| .aL=>True|_=>False
 | .lenS x=>(J x).ok=true/\match(J x).d with| .str _=>True|_=>False
 | .app k x y=>(J x).ok=true/\(J y).ok=true/\Ca m k (J y).d/\match(J x).d with
  | .own l k' i n=>k'=k/\dT m l k (i+n)/\n+(qn m (J y).d).length<=1073741824
  | .aL=>(qn m (J y).d).length<=1073741824
  |_=>False
 | .call f args sh=>BB J args/\jl m sh (iS J args)/\Y.pre f (iG m sh (iS J args))/\qv (iS J args) (Y.val f (iG m sh (iS J args)))=true
 | .callv f args sh=>(J f).ok=true/\BB J args/\match(J f).d with
  | .fn n caps=>n<1000000/\jl m sh (iS J args++caps)/\Y.pre n (iG m sh (iS J args++caps))/\qv (iS J args++caps) (Y.val n (iG m sh (iS J args++caps)))=true
  |_=>False
 | .callM _ args=>BB J args
 | .callvM _ args=>BB J args
 | .ldW n _ p=>(J p).ok=true/\match(J p).d with
  | .ptr l k i o=>(dT m l k (i+1)/\o+n<=k)/\4<k
  | .ref k es i o=>i<es.length/\o+n<=k
  |_=>False
 | .ldU n _ p=>(J p).ok=true/\match(J p).d with
  | .ptr l k i o=>(dT m l k (i+1)/\o+n<=k)/\aK (aH m l)=false
  | .ref k es i o=>i<es.length/\o+n<=k
  |_=>False
 | .ldI n _ p=>(J p).ok=true/\match(J p).d with
  | .ref k es i o=>i<es.length/\o+n<=k
  | .fn q es=>q=3000000/\n=1/\es.length=1/\(es.getD 0 .any).cells=[es.getD 0 .any]
  |_=>False
 | .appN k y=>(J y).ok=true/\Ca m k (J y).d/\(qn m (J y).d).length<=1073741824
 | .bslI k z n ps=>z.cells.length=k/\qA J k n ps/\aK (mh J (List.replicate n z) ps)=true
 | .callF f r args sh=>(J r).ok=true/\BB J args/\aK (iS J args)=true/\match(J r).d with
  | .ptr l k i o=>i=0/\o=0/\dT m l k 1/\(aH m l).length=1/\((aH m l).getD 0 .any).aR=true/\Y.fp f ((aH m l).getD 0 .any) (iG [] sh (iS J args))
  |_=>False
 | .rng x=>(J x).ok=true/\match(J x).d with| .str _=>True|_=>False
 | .mkB=>True
 | .mkM=>True
 | .upM x k v=>(J x).ok=true/\(J k).ok=true/\(J v).ok=true/\mpO m (J x).d/\vJ (J k).d=true/\∃q n,(J v).d=.int q n
 | .lkM _ x k=>(J x).ok=true/\(J k).ok=true/\mpO m (J x).d/\vJ (J k).d=true
 | .isNl .. =>True
 | .aS x=>(J x).ok=true/\match(J x).d with
  | .it l=>match look m l with
   |some (.iter _ _)=>True
   |_=>False
  |_=>False
@[go_sem] def Src.AZ:Src->Bool
 | .s _=>true
 |_=>false
@[go_sem] def ax.KH (draw:Bool)(J:Src->aY):ax->Prop
 | .len x=>bif draw&& !x.AZ then True else(J x).ok=true->match(J x).d with
  | .sl _ es=>es.length<=9223372036854775807
  | .own _ _ _ n=>n<=9223372036854775807
  |_=>True
 | .lenS x=>bif draw&& !x.AZ then True else(J x).ok=true->match(J x).d with
  | .str s=>s.length<=9223372036854775807
  |_=>True
 |_=>True
@[go_sem] def ax.bN (Y:Ctx)(J:Src->aY)(m:List (Nat×bj))(L:Nat):ax->List (Nat×bj)
 | .box k x=>cT m L (.buf k [(J x).d])
 | .bsl k z n ps=>cT m L (.buf k (mh J (List.replicate n z) ps))
 | .mks k z ln _=>cT m L (.buf k (List.replicate (J ln).d.nat z))
 | .s2b x=>match(J x).d with
  | .str s=>cT m L (.buf 1 (s.map λb=>.int .u8 b.toNat))
  |_=>m
 | .st n p v=>match(J p).d with
  | .ptr l k i o=>cT m l (.buf k ((aH m l).set i (rO ((aH m l).getD i .any) k n o (J v).d)))
  |_=>m
 | .stU n p v _=>match(J p).d with
  | .ptr l k i o=>cT m l (.buf k ((aH m l).set i (rO ((aH m l).getD i .any) k n o (J v).d)))
  |_=>m
 | .app k x y=>match(J x).d with
  | .own l k' i n=>cT (c7 m l) L (.buf k ((((aH m l).drop i).take n)++qn m (J y).d))
  |_=>cT m L (.buf k (qn m (J y).d))
 | .appN k y=>cT m L (.buf k (qn m (J y).d))
 | .callF f r args sh=>match(J r).d with
  | .ptr l k _ _=>cT m l (.buf k [Y.fs f ((aH m l).getD 0 .any) (iG [] sh (iS J args))])
  |_=>m
 | .rng x=>match(J x).d with
  | .str s=>cT m L (.iter s 0)
  |_=>m
 | .mkB=>cT m L (.bld none 0 false)
 | .mkM=>cT m L (.mpb [])
 | .upM x k v=>match(J x).d with
  | .fn _ [.it l]=>cT m l (.mpb (z8 (J k).d (J v).d (Ue m (J x).d)))
  |_=>m
 | .aS x=>match(J x).d with
  | .it l=>match look m l with
   |some (.iter s pos)=>bif decide (pos<s.length)then cT m l (.iter s (pos+(yI s pos).2))else m
   |_=>m
  |_=>m
 |_=>m
@[go_sem] def ax.nq (J:Src->aY):ax->Option (List Nat)
 | .ld _ _ p=>some (cg (J p).d)
 | .ldU _ _ p=>some (cg (J p).d)
 | .ldW _ _ p=>some (cg (J p).d)
 | .st _ p _=>some (cg (J p).d)
 | .stU _ p _ _=>some (cg (J p).d)
 | .b2s x=>some (cg (J x).d)
 | .app _ x y=>some (cg (J x).d++cg (J y).d)
 | .aS x=>some (cg (J x).d)
 | .call _ args _=>bif aK (iS J args)then some []else none
 | .callv f args _=>match(J f).d with
  | .fn _ caps=>bif aK (iS J args++caps)then some []else none
  |_=>none
 | .callM _ _=>none
 | .callvM _ _=>none
 | .isNl .. =>none
 | .callF _ r _ _=>some (cg (J r).d)
 | .upM x _ _=>some (CX (J x).d)
 | .lkM _ x _=>some (CX (J x).d)
 | .appN _ y=>some (cg (J y).d)
 |_=>some []
@[go_sem] def ax.wr (J:Src->aY)(L:Nat):ax->List Nat
 | .box .. =>[L]
 | .bsl .. =>[L]
 | .mks .. =>[L]
 | .s2b _=>[L]
 | .rng _=>[L]
 | .mkB=>[L]
 | .mkM=>[L]
 | .upM x _ _=>CX (J x).d
 | .st _ p _=>cg (J p).d
 | .stU _ p _ _=>cg (J p).d
 | .app _ x _=>L::cg (J x).d
 | .aS x=>cg (J x).d
 | .callF _ r _ _=>cg (J r).d
 | .appN .. =>[L]
 |_=>[]
@[go_sem] def ax.calm:ax->Bool
 | .st .. =>false
 | .stU .. =>false
 | .app .. =>false
 | .aS .. =>false
 | .callM .. =>false
 | .callvM .. =>false
 | .isNl .. =>false
 | .callF .. =>false
 | .upM .. =>false
 |_=>true
@[go_sem] def flag:Option (Nat×Bool)->Bool
 |none=>true
 |some (j,w)=>(vs.getD j .un).ok&&match(vs.getD j .un).d with
  | .bool b=>b==w
  |_=>false
@[go_sem] def Vp (i:ax):Option (Nat×Bool)->Prop
 |none=>True
 |some (j,_)=>i.calm=true/\((vs.getD j .un).ok=true->(vs.getD j .un).d.isBool=true)
@[go_sem] def ax.lD (draw:Bool)(g:Option (Nat×Bool))(i:ax):Bool:=!draw&&(!i.calm&&g.isSome)
@[go_sem] def yO:Option (Nat×Bool)->Prop
 |none=>True
 |some (j,_)=>(vs.getD j .un).ok=true->(vs.getD j .un).d.isBool=true
@[go_sem] def nlB (d:D)(b:Bool):Prop:=match d with
 | .aL=>b=true
 | .sl _ es=>b=true->es=[]
 | .own _ _ _ n=>b=true->n=0
 |_=>True
@[go_sem] def slB:D->Prop
 | .aL=>True
 | .sl .. =>True
 | .own .. =>True
 |_=>False
@[go_sem] def Oe:Nat:=if n<1000000 then n else n-1000000
@[go_sem] def Od (aE5 caps:List D):List D:=if n<1000000 then aE5++caps else caps++aE5
def eV (Y:Ctx)(draw:Bool):List GI->(env vs:List aY)->St->(List aY->St->Prop)->Prop
 |[],_,vs,st,K=>K vs {st with nx:=st.nx+vs.length}
 |⟨.callM f args,g⟩::r,env,vs,st,K=>
  yO vs g/\(flag vs g=true->BB (Src.ev env vs) args/\
   Y.tr f (iS (Src.ev env vs) args) {st with nx:=st.nx+vs.length} λd st'=>st.nx+vs.length<=st'.nx/\eV Y draw r env (vs++[⟨true,d⟩]) {st' with nx:=st'.nx-vs.length} K)/\
   (flag vs g=false->eV Y draw r env (vs++[⟨false,.any⟩]) st K)
 |⟨.callvM f args,g⟩::r,env,vs,st,K=>
  yO vs g/\(flag vs g=true->(Src.ev env vs f).ok=true/\BB (Src.ev env vs) args/\match(Src.ev env vs f).d with
   | .fn n caps=>n<2000000/\Y.tr (Oe n) (Od n (iS (Src.ev env vs) args) caps) {st with nx:=st.nx+vs.length} λd st'=>st.nx+vs.length<=st'.nx/\eV Y draw r env (vs++[⟨true,d⟩]) {st' with nx:=st'.nx-vs.length} K
   |_=>False)/\
   (flag vs g=false->eV Y draw r env (vs++[⟨false,.any⟩]) st K)
 |⟨.isNl x ng,g⟩::r,env,vs,st,K=>
  yO vs g/\(flag vs g=true->(Src.ev env vs x).ok=true/\slB (Src.ev env vs x).d/\∀b,nlB (Src.ev env vs x).d b->eV Y draw r env (vs++[⟨true,.bool (bif ng then !b else b)⟩]) st K)/\
   (flag vs g=false->eV Y draw r env (vs++[⟨false,.any⟩]) st K)
 |⟨i,g⟩::r,env,vs,st,K=>
  if i.lD draw g=true then
   yO vs g/\(flag vs g=true->i.eE Y (Src.ev env vs) st.m/\
     eV Y draw r env (vs++[⟨true,i.val Y (Src.ev env vs) st.m (st.nx+vs.length)⟩]) {st with m:=i.bN Y (Src.ev env vs) st.m (st.nx+vs.length)} K)/\
    (flag vs g=false->eV Y draw r env (vs++[⟨false,.any⟩]) st K)
  else
  Vp vs i g/\(flag vs g=true->i.eE Y (Src.ev env vs) st.m)/\
   ((flag vs g=true->i.KH draw (Src.ev env vs))->∃d,(flag vs g=true->i.val Y (Src.ev env vs) st.m (st.nx+vs.length)=d)/\
     eV Y draw r env (vs++[⟨flag vs g,d⟩]) {st with m:=i.bN Y (Src.ev env vs) st.m (st.nx+vs.length)} K)
mutual
@[go_sem] def iY (l k:Nat)(es:List D):D->D
 | .own l' k' i n=>if l'=l/\k'=k/\i+n<=es.length then .sl k ((es.drop i).take n)else .own l' k' i n
 | .ptr l' k' i o=>if l'=l/\k'=k then .ref k es i o else .ptr l' k' i o
 | .agg cs=>.agg (mN l k es cs)
 | .tup cs=>.tup (mN l k es cs)
 | .fn f cs=>.fn f (mN l k es cs)
 | .any=>.any
 | .bool b=>.bool b
 | .int k n=>.int k n
 | .str s=>.str s
 | .aL=>.aL
 | .sl k es=>.sl k es
 | .ref k es i o=>.ref k es i o
 | .nilp=>.nilp
 | .nilf=>.nilf
 | .it l=>.it l
@[go_sem] def mN (l k:Nat)(es:List D):List D->List D
 |[]=>[]
 |d::r=>iY l k es d::mN l k es r
end
@[go_sem] def EI (l k:Nat)(es:List D):bj->bj
 | .buf k' es'=>.buf k' (mN l k es es')
 |b=>b
@[go_sem] def zU (l k:Nat)(es:List D):List (Nat×bj)->List (Nat×bj)
 |[]=>[]
 |(a,b)::r=>(a,EI l k es b)::zU l k es r
@[go_sem] def xc (l k:Nat)(es:List D):List aY->List aY
 |[]=>[]
 |⟨ok,d⟩::r=>⟨ok,iY l k es d⟩::xc l k es r
@[go_sem] def Vo (l:Nat)(s:List aY×List (Nat×bj)):List aY×List (Nat×bj):=match look s.2 l with
 |some (.buf k es)=>bif aK es then(xc l k es s.1,zU l k es (c7 s.2 l))else s
 |_=>s
@[go_sem] def frzs:List Nat->List aY×List (Nat×bj)->List aY×List (Nat×bj)
 |[],s=>s
 |l::r,s=>frzs r (Vo l s)
inductive Ex where
 |normal|exit (id:Nat)|ret
@[go_sem] def iB (env vs:List aY):List (Nat×Nat)->List aY
 |[]=>env
 |(s,p)::r=>iB (env.set s (vs.getD p .un)) vs r
@[go_sem] def mT (lo:Nat)(σ:List (Nat×Nat))(l:Nat):Option Nat:=match σ with
 |[]=>bif Nat.blt l lo then some l else none
 |(a,b)::r=>bif Nat.beq a l then some b else mT lo r l
@[go_sem] def U0 (σ:List (Nat×Nat))(l:Nat)(f:Nat->D):Option D:=match mT lo σ l with
 |some l'=>some (f l')
 |none=>none
mutual
@[go_sem] def tx (lo:Nat)(σ:List (Nat×Nat)):D->Option D
 | .own l k i n=>U0 lo σ l λl=>.own l k i n
 | .ptr l k i o=>U0 lo σ l λl=>.ptr l k i o
 | .it l=>U0 lo σ l λl=>.it l
 | .agg cs=>match qT lo σ cs with
  |some cs=>some (.agg cs)
  |none=>none
 | .tup cs=>match qT lo σ cs with
  |some cs=>some (.tup cs)
  |none=>none
 | .fn f cs=>match qT lo σ cs with
  |some cs=>some (.fn f cs)
  |none=>none
 | .any=>some .any
 | .bool b=>some (.bool b)
 | .int k n=>some (.int k n)
 | .str s=>some (.str s)
 | .aL=>some .aL
 | .sl k es=>some (.sl k es)
 | .ref k es i o=>some (.ref k es i o)
 | .nilp=>some .nilp
 | .nilf=>some .nilf
@[go_sem] def qT (lo:Nat)(σ:List (Nat×Nat)):List D->Option (List D)
 |[]=>some []
 |d::r=>match tx lo σ d,qT lo σ r with
  |some d,some r=>some (d::r)
  |_,_=>none
end
mutual
def wq:D->D->Prop
 | .aL,d'=>d'=.aL\/∃l k i,d'=.own l k i 0
 | .agg a,d'=>∃b,d'=.agg b/\N3 a b
 |d,d'=>d'=d/\d.aR=true
def N3:List D->List D->Prop
 |[],b=>b=[]
 |d::r,b=>∃d' r',b=d'::r'/\wq d d'/\N3 r r'
end
def RnD (σ:List (Nat×Nat))(d d':D):Prop:=d'=d/\d.aR=true\/tx lo σ d=some d'\/wq d d'
def qm (σ:List (Nat×Nat)):bj->bj->Prop
 | .buf k es,.buf k' es'=>k'=k/\(es'=es/\aK es=true\/qT lo σ es=some es'\/N3 es es')
 | .iter s p,.iter s' p'=>s'=s/\p'=p
 | .row s,.row s'=>s'=s
 | .mpb s,.mpb s'=>s'=s
 | .bld o n u,.bld o' n' u'=>(match o with
  |none=>o'=none
  |some l=>∃l',mT lo σ l=some l'/\o'=some l')/\n'=n/\u'=u
 |_,_=>False
def fD (lo:Nat)(σ:List (Nat×Nat)):List aY->List aY->Prop
 |[],[]=>True
 |a::r,b::s=>(b.ok=a.ok/\RnD lo σ a.d b.d\/b=.un)/\fD lo σ r s
 |_,_=>False
def bo (lo c:Nat)(σ:List (Nat×Nat))(m:List (Nat×bj)):List (Nat×bj)->Prop
 |[]=>True
 |(l',b')::r=>((∃l b,mT lo σ l=some l'/\look m l=some b/\qm lo σ b b')\/(Nat.ble lo l'=true/\Nat.blt l' c=true/\σ.all (λp=>!Nat.beq p.2 l')=true/\∃k,b'=.buf k []))/\bo lo c σ m r
def gN (lo c:Nat):List (Nat×Nat)->Bool
 |[]=>Nat.ble lo c
 |(a,b)::r=>(Nat.ble lo b&&(Nat.blt b c&&(r.all (λp=>!Nat.beq p.1 a&& !Nat.beq p.2 b)&&gN lo c r)))
@[go_sem] def leE:List aY->List aY->Prop
 |[],[]=>True
 |a::r,b::s=>(b=a\/b=.un)/\leE r s
 |_,_=>False
@[go_sem] def aac (m:List (Nat×bj)):List (Nat×bj)->Prop
 |[]=>True
 |(l,b)::r=>look m l=some b/\aac m r
inductive EN:D->D->Prop
 |refl (d:D):EN d d
 |nil (k:Nat):EN .aL (.sl k [])
 |agg (a b:List D) (hl:b.length=a.length) (h:∀i,EN (a.getD i .any) (b.getD i .any)):EN (.agg a) (.agg b)
 |sl (k:Nat) (a b:List D) (hl:b.length=a.length) (h:∀i,EN (a.getD i .any) (b.getD i .any)):EN (.sl k a) (.sl k b)
def QS (a b:List D):Prop:=b.length=a.length/\∀i,EN (a.getD i .any) (b.getD i .any)
def WkB:bj->bj->Prop
 | .buf k es,.buf k' es'=>k'=k/\QS es es'
 |b,b'=>b'=b
def WkE:List aY->List aY->Prop
 |[],[]=>True
 |a::r,b::s=>(b.ok=a.ok/\EN a.d b.d)/\WkE r s
 |_,_=>False
def QT (m:List (Nat×bj)):List (Nat×bj)->Prop
 |[]=>True
 |(l,b')::r=>(∃b,look m l=some b/\WkB b b')/\QT m r
inductive aZ (lo:Nat):List aY->St->List aY->St->Prop
 |refl (env:List aY) (st:St):aZ lo env st env st
 |Vo (l:Nat) (env:List aY) (st:St):aZ lo env st (Vo l (env,st.m)).1 ⟨st.nx,(Vo l (env,st.m)).2⟩
 |ren (σ:List (Nat×Nat)) (c:Nat) (env env':List aY) (nx:Nat) (m m':List (Nat×bj)) (h:gN lo c σ=true) (he:fD lo σ env env') (hm:bo lo c σ m m'):aZ lo env ⟨nx,m⟩ env' ⟨c,m'⟩
 |wk (env env':List aY) (nx:Nat) (m m':List (Nat×bj)) (he:leE env env') (hm:aac m m'):aZ lo env ⟨nx,m⟩ env' ⟨nx,m'⟩
 |nz (env env':List aY) (nx:Nat) (m m':List (Nat×bj)) (he:WkE env env') (hm:QT m m'):aZ lo env ⟨nx,m⟩ env' ⟨nx,m'⟩
 |trans (env1 env2 env3:List aY) (st1 st2 st3:St) (h:aZ lo env1 st1 env2 st2) (h':aZ lo env2 st2 env3 st3):aZ lo env1 st1 env3 st3
def Gh (p:List aY->St->Prop)(env:List aY)(st:St):=∃env' st',aZ lo env st env' st'/\p env' st'
def du (Y:Ctx):AC->(Ex->List aY->St->Prop)->List aY->St->Prop
 | .reg draw ins cm,Q=>Gh Y.lo λenv st=>eV Y draw ins env [] st λvs st'=>Q .normal (iB env vs cm) st'
 | .seq a b,Q=>Gh Y.lo (du Y a (λe env st=>match e with
   | .normal=>du Y b Q env st
   |e=>Q e env st))
 | .cond c a b,Q=>Gh Y.lo λenv st=>(c.ev env []).ok=true/\match(c.ev env []).d with
  | .bool t=>(t=true->du Y a Q env st)/\(t=false->du Y b Q env st)
  |_=>False
 | .block id a,Q=>Gh Y.lo (du Y a (λe env st=>match e with
   | .exit j=>if j=id then Q .normal env st else Q (.exit j) env st
   |e=>Q e env st))
 | .loop a,Q=>Gh Y.lo λenv st=>∃(I:List aY->St->Prop) (μ:List aY->St->Nat),
   I env st/\∀env st,I env st->
   du Y a (λe env' st'=>match e with
    | .normal=>∃env2 st2,aZ Y.lo env' st' env2 st2/\I env2 st2/\μ env2 st2<μ env st
    |e=>Q e env' st') env st
 | .exit id,Q=>Gh Y.lo (Q (.exit id))
 | .ret,Q=>Gh Y.lo (Q .ret)
 | .skip,Q=>Gh Y.lo (Q .normal)
def Ctx.at (Y:Ctx)(n:Nat):Ctx:={Y with lo:=n}
@[go_sem] def Ip (m:List (Nat×bj))(env:List aY)(r:GL):D:=match r.mem with
 |none=>(env.getD r.s .un).d
 |some (n,ag)=>KK m n ag (env.getD r.s .un).d
@[go_sem] def ow (m:List (Nat×bj))(env:List aY):List GL->Prop
 |[]=>True
 |r::rs=>(env.getD r.s .un).ok=true/\(match r.mem with
   |none=>True
   |some (n,_)=>KJ m n (env.getD r.s .un).d)/\ow m env rs
@[go_sem] def qS (m:List (Nat×bj))(env:List aY):List GL->List D
 |[]=>[]
 |r::rs=>Ip m env r::qS m env rs
@[go_sem] def ke (env:List aY)(st:St):D:=match a.res with
 |[r]=>Ip st.m env r
 |rs=>.tup (qS st.m env rs)
@[go_sem] def ZT (env:List aY)(st:St):D:=match a.res with
 |[r]=>jg st.m (a.rsh.getD 0 []) (Ip st.m env r)
 |rs=>.tup (iG st.m a.rsh (qS st.m env rs))
@[go_sem] def M5 (env:List aY)(st:St):Prop:=match a.res with
 |[r]=>gH st.m (a.rsh.getD 0 []) (Ip st.m env r)
 |rs=>jl st.m a.rsh (qS st.m env rs)
@[go_sem] def Ex.home:Ex->Prop
 | .exit _=>False
 |_=>True
@[go_sem] def fQ (ds:List D):List aY:=(ds.map λd=>⟨true,d⟩)++List.replicate (a.ns-a.np) .un
def trOf (Y:Ctx)(a:aj)(ds:List D)(st:St)(K:D->St->Prop):Prop:=
 ds.length=a.np/\du (Y.at st.nx) a.body (λe env st=>e.home/\ow st.m env a.res/\K (ke a env st) st) (fQ a ds) st
mutual
def fT:Value->Option D
 | .bool b=>some (.bool b)
 | .int k n=>some (.int k n)
 | .string s=>if s.size<=9223372036854775807 then some (.str s.data.toList)else none
 | .pointer none=>some .nilp
 | .slice none 0 0=>some .aL
 | .nilFunc=>some .nilf
 | .map none=>some (.fn 5100000 [])
 | .agg ⟨cs⟩=>if wO cs then(ta cs).map .agg else none
 |_=>none
def ta:List Value->Option (List D)
 |[]=>some []
 |v::r=>match fT v,ta r with
  |some d,some ds=>some (d::ds)
  |_,_=>none
def wO:List Value->Bool
 |[]=>true
 |v::r=>(match v with
  | .agg _=>false
  | .tuple _=>false
  |_=>true)&&wO r
end
def Is (P:Program):Nat->TypeId->List Sh
 |0,_=>[.a]
 |d+1,t=>match P.underlying t with
  |some (.struct fs)=>(fs.toList.map λf=>Is P d f.type).flatten
  |some (.array n e)=>(List.replicate n (Is P d e)).flatten
  |some (.slice e)=>[.sl (P.cellsOf e) (Is P d e)]
  |some (.pointer e)=>[.pt (Is P d e)]
  |_=>[.a]
def ajn:List Sh->List Sh
 |[.sl _ cs]=>[.kp cs]
 |l=>l
def keepN (fn:Func):Nat:=100000000+fn.endLine*10000+fn.ntmps
structure CC where
 P:Program
 ν:List (Nat×Nat)
 bN:List Nat
 slots:List Nat
 ntmps:Nat
 vm:Bool
def dN:List (Nat×Nat)->Nat->Option Nat
 |[],_=>none
 |(a,b)::r,l=>if a=l then some b else dN r l
def AX:List Nat->Nat->Option Nat
 |[],_=>none
 |a::r,t=>if a=t then some 0 else(AX r t).map (· +1)
def posOf (t:Nat):List (Option Nat)->Option Nat
 |[]=>none
 |a::r=>if a=some t then some 0 else(posOf t r).map (· +1)
def CC.src (C:CC)(defs:List (Option Nat)):Operand->Option Src
 | .tmp t=>match posOf t defs with
  |some p=>some (.l p)
  |none=>(AX C.slots t).map .s
 | .const v=>(fT v).map .c
 | .func f=>(dN C.ν f).map λn=>.c (.fn n [])
 | .global _=>none
def CC.wh (C:CC)(defs:List (Option Nat)):List Operand->Option (List Src)
 |[]=>some []
 |x::r=>match C.src defs x,C.wh defs r with
  |some a,some l=>some (a::l)
  |_,_=>none
def CC.opt (C:CC)(defs:List (Option Nat)):Option Operand->Option (Option Src)
 |none=>some none
 |some x=>(C.src defs x).map some
def b7 (t:TypeId):Bool:=match P.underlying t with
 |some (.struct _)=>true
 |some (.array ..)=>true
 |_=>false
def mw (P:Program)(k:TypeId->Option (List CK)):Nat->List Field->Option (List CK)
 |_,[]=>some []
 |off,f::r=>if f.name= "_" \/f.offset≠off then none else
  match k f.type,mw P k (off+P.cellsOf f.type) r with
  |some a,some b=>if a.length=P.cellsOf f.type/\a.length≠0/\(P.underlying f.type).isNone=false then some (a++b)else none
  |_,_=>none
def hR (P:Program):Nat->TypeId->Option (List CK)
 |0,_=>none
 |d+1,t=>match P.underlying t with
  |some .bool=>some [.b]
  |some (.int k)=>some [.i k]
  |some .string=>some [.s]
  |some (.struct fs)=>if P.stoodInHeld t then none else mw P (λt=>hR P d t) 0 fs.toList
  |some (.array n e)=>match hR P d e with
   |some l=>if l.length=P.cellsOf e/\l.length≠0/\(P.underlying e).isNone=false then some (List.replicate n l).flatten else none
   |none=>none
  |_=>none
def CC.parts (C:CC)(defs:List (Option Nat))(place:Nat->Option (Nat×Nat)):List (Nat×Operand)->Option (List (Nat×Nat×Src))
 |[]=>some []
 |(i,x)::r=>match place i,C.src defs x,C.parts defs place r with
  |some (o,n),some s,some l=>if n=0 then none else some ((o,n,s)::l)
  |_,_,_=>none
def CC.y4 (C:CC)(defs:List (Option Nat)):List (Nat×Operand)->Option (List (Nat×Src))
 |[]=>some []
 |(i,x)::r=>match C.src defs x,C.y4 defs r with
  |some s,some l=>some ((i,s)::l)
  |_,_=>none
def sT (t:TypeId):Option D:=((P.info? t).bind (·.zero)).bind fT
def zVD:D:=.agg [.int .i64 0,.int .i64 0,.int .i64 0,.str [],.str []]
def CC.Xk (C:CC)(t:TypeId):Operand->Option D
 | .global g=>if(C.bN.contains (500000000+g)=true/\g<400000000)/\C.P.cellsOf t=5/\b7 C.P t=true/\(C.P.underlying t).isNone=false then some zVD else none
 |_=>none
def qg (t:TypeId):Bool:=match sT P t with
 |some z=>z.cells.length==P.cellsOf t
 |none=>false
def OL (k:TypeId):Bool:=match P.underlying k with
 |some (.array 2 e)=>(match P.underlying e with
  |some .string=>P.cellsOf e==1&&(P.cellsOf k==2&& !(P.types.size==0))
  |_=>false)
 |_=>false
def CC.op (C:CC)(defs:List (Option Nat))(o:Oper):Option ax:=
 match o.op with
 | .move x=>(C.src defs x).map .mv
 | .assign x=>(C.src defs x).map .mv
 | .pick c a b=>match C.src defs c,C.src defs a,C.src defs b with
  |some c,some a,some b=>some (.pick c a b)
  |_,_,_=>none
 | .alloc t=>match sT C.P t with
  |some z=>if C.P.cellsOf t=0 then none else if C.bN.contains (1000000000+t)then(match z with
   | .agg [.nilp,.aL]=>some .mkB
   |_=>none)else some (.box (C.P.cellsOf t) (.c z))
  |none=>none
 | .box t x=>match C.src defs x with
  |some s=>if C.P.cellsOf t=0 then none else some (.box (C.P.cellsOf t) s)
  |none=>none
 | .build t ps=>match sT C.P t,C.P.underlying t with
  |some (.agg z),some (.struct fs)=>if fs.toList.all (λf=>(C.P.info? f.type).isSome)then(C.parts defs (λi=>(fs[i]?).map λf=>(f.offset,C.P.cellsOf f.type)) ps.toList).map (.build z)else none
  |some (.agg z),some (.array _ e)=>if C.P.cellsOf e=0 then none else(C.parts defs (λi=>some (i*C.P.cellsOf e,C.P.cellsOf e)) ps.toList).map (.build z)
  |_,_=>none
 | .buildSlice t n ps=>match C.P.underlying t with
  |some (.slice e)=>match sT C.P e,C.y4 defs ps.toList with
   |some z,some l=>if C.P.cellsOf e=0\/n*C.P.cellsOf e>16777216 then none else some (.bsl (C.P.cellsOf e) z n l)
   |_,_=>none
  |_=>none
 | .load t a=>match C.Xk t a with
  |some d=>some (.mv (.c d))
  |none=>match C.src defs a with
  |some s=>if C.P.cellsOf t=0\/(C.P.underlying t).isNone\/(b7 C.P t=false/\C.P.cellsOf t≠1)then none else some (.ld (C.P.cellsOf t) (b7 C.P t) s)
  |none=>none
 | .store t a x=>match C.src defs a,C.src defs x with
  |some a,some x=>if C.P.cellsOf t=0 then none else some (.st (C.P.cellsOf t) a x)
  |_,_=>none
 | .nilCheck x=>(C.src defs x).map .nilck
 | .binOp op t x y _=>match C.src defs x,C.src defs y with
  |some a,some b=>match C.P.underlying t with
   |some (.int _)=>some (.bin op a b)
   |some .string=>some (.bin op a b)
   |_=>if C.P.eqGuardType C.P.depth t then none else match hR C.P 30 t,op with
    |some ks,.eql=>some (.eqA false (b7 C.P t) ks a b)
    |some ks,.neq=>some (.eqA true (b7 C.P t) ks a b)
    |none,.eql=>match C.P.underlying t,b with
     |some (.slice _),.c .aL=>some (.isNl a false)
     |_,_=>none
    |none,.neq=>match C.P.underlying t,b with
     |some (.slice _),.c .aL=>some (.isNl a true)
     |_,_=>none
    |_,_=>none
  |_,_=>none
 | .unOp op _ x=>(C.src defs x).map (.un op)
 | .convert s d x=>match C.P.underlying s,C.P.underlying d,C.src defs x with
  |some (.int _),some (.int k),some a=>some (.cvi k a)
  |some .string,some (.slice e),some a=>match C.P.underlying e with
   |some (.int .u8)=>some (.s2b a)
   |_=>none
  |some (.slice e),some .string,some a=>match C.P.underlying e with
   |some (.int .u8)=>some (.b2s a)
   |_=>none
  |_,_,_=>none
 | .makeFunc (.func f) first caps=>match dN C.ν f,C.wh defs caps.toList with
  |some n,some l=>if first.isEmpty then some (.mkf n l)else if l.isEmpty then(C.wh defs first.toList).map (.mkf (n+1000000))else none
  |_,_=>none
 | .makeSlice t l c=>match C.P.underlying t with
  |some (.slice e)=>match sT C.P e,C.src defs l,C.src defs c with
   |some z,some l,some c=>if C.P.cellsOf e=0\/C.P.bytesOf e>65536 then none else some (.mks (C.P.cellsOf e) z l c)
   |_,_,_=>none
  |_=>none
 | .slice t x lo hi mx=>match C.P.underlying t,C.src defs x,C.opt defs lo,C.opt defs hi,mx with
  |some .string,some a,some l,some h,none=>some (.slS a l h)
  |some (.slice e),some a,some l,some h,none=>if C.P.cellsOf e=0 then none else some (.slA (C.P.cellsOf e) a l h)
  |some (.slice e),some a,some none,some (some h),some m=>match C.src defs m with
   |some m=>if C.P.cellsOf e=0 then none else some (.slX (C.P.cellsOf e) a h m)
   |none=>none
  |_,_,_,_,_=>none
 | .fieldAddr t x f=>match C.P.underlying t,C.src defs x with
  |some (.struct fs),some a=>match fs[f]? with
   |some f=>if C.P.cellsOf f.type=0 then none else some (.fa f.offset a)
   |none=>none
  |_,_=>none
 | .field t x f=>match C.P.underlying t,C.src defs x with
  |some (.struct fs),some a=>match fs[f]? with
   |some f=>if C.P.cellsOf f.type=0\/(C.P.underlying f.type).isNone then none else some (.fld f.offset (C.P.cellsOf f.type) (b7 C.P f.type) a)
   |none=>none
  |_,_=>none
 | .indexAddr t x i=>match C.P.underlying t,C.src defs x,C.src defs i with
  |some (.slice e),some a,some b=>if C.P.cellsOf e=0 then none else some (.ia (C.P.cellsOf e) a b)
  |some (.array n e),some a,some b=>if C.P.cellsOf e=0 then none else some (.iaP n (C.P.cellsOf e) a b)
  |_,_,_=>none
 | .index t x i=>match C.P.underlying t,C.src defs x,C.src defs i with
  |some .string,some a,some b=>some (.ixS a b)
  |some (.array n e),some a,some b=>if C.P.cellsOf e=0\/(C.P.underlying e).isNone then none else some (.ixA n (C.P.cellsOf e) (b7 C.P e) a b)
  |_,_,_=>none
 | .lookup t x y true=>match C.src defs x,C.src defs y,C.P.underlying t with
  |some a,some b,some (.map k e)=>match sT C.P e with
   |some z=>if OL C.P k=true then some (.lkM z a b)else none
   |none=>none
  |_,_,_=>none
 | .makeMap t none=>match C.P.underlying t with
  |some (.map k _)=>if OL C.P k=true then some .mkM else none
  |_=>none
 | .mapUpdate t x y v=>match C.src defs x,C.src defs y,C.src defs v with
  |some a,some b,some c=>match C.P.underlying t with
   |some (.map k _)=>if OL C.P k=true then some (.upM a b c)else none
   |_=>none
  |_,_,_=>none
 | .range t x=>match C.P.underlying t,C.src defs x with
  |some .string,some a=>some (.rng a)
  |_,_=>none
 | .next it true=>(C.src defs it).map .aS
 | .extract t i=>(C.src defs t).map λs=>.ext s i
 | .call c=>match c.callee with
  | .builtin .len=>match c.args.toList,c.argTypes.toList with
   |[x],[t]=>match C.src defs x,C.P.underlying t with
    |some a,some .string=>some (.lenS a)
    |some a,some (.slice _)=>some (.len a)
    |_,_=>none
   |_,_=>none
  | .builtin .min=>match c.args.toList with
   |[x,y]=>match C.src defs x,C.src defs y with
    |some a,some b=>some (.mn false a b)
    |_,_=>none
   |_=>none
  | .builtin .max=>match c.args.toList with
   |[x,y]=>match C.src defs x,C.src defs y with
    |some a,some b=>some (.mn true a b)
    |_,_=>none
   |_=>none
  | .builtin .append=>match c.args.toList,c.argTypes.toList with
   |[x,y],[t,u]=>match C.src defs x,C.src defs y,C.P.underlying t,C.P.underlying u with
    |some a,some b,some (.slice e),some (.slice _)=>if C.P.cellsOf e=0\/C.P.bytesOf e>65536\/C.P.bytesOf e=0\/qg C.P e=false then none else some (.app (C.P.cellsOf e) a b)
    |some a,some b,some (.slice e),some .string=>if C.P.cellsOf e=0\/C.P.bytesOf e>65536\/C.P.bytesOf e=0\/qg C.P e=false then none else some (.app (C.P.cellsOf e) a b)
    |_,_,_,_=>none
   |_,_=>none
  | .value (.func f)=>match dN C.ν f,C.wh defs c.args.toList with
   |some n,some l=>if C.bN.contains (2*n)then some (.callM n l)else if C.bN.contains (2*n+1)then(match l with
     |r::rest=>some (.callF n r rest ((c.argTypes.toList.map (Is C.P 8)).drop 1))
     |[]=>none)else some (.call n l (c.argTypes.toList.map (Is C.P 8)))
   |_,_=>none
  | .value (.tmp t)=>match C.src defs (.tmp t),C.wh defs c.args.toList with
   |some s,some l=>if C.vm then some (.callvM s l)else some (.callv s l (c.argTypes.toList.map (Is C.P 8)))
   |_,_=>none
  |_=>none
 |_=>none
def CC.guard (defs:List (Option Nat)):Option (Nat×Bool)->Option (Option (Nat×Bool))
 |none=>some none
 |some (j,w)=>match defs[j]? with
  |some (some _)=>some (some (j,w))
  |_=>none
def CC.ops (C:CC):(defs:List (Option Nat))->List Oper->Option (List GI)
 |_,[]=>some []
 |defs,o::r=>match C.op defs o,CC.guard defs o.guard,C.ops (defs++[o.dst]) r with
  |some i,some g,some l=>if o.dst.all (λd=>d<C.ntmps&& !defs.contains (some d))then some (⟨i,g⟩::l)else none
  |_,_,_=>none
def CC.iC (C:CC):Nat->List Oper->List (Nat×Nat)
 |_,[]=>[]
 |p,o::r=>match o.dst.bind (AX C.slots)with
  |some s=>(s,p)::C.iC (p+1) r
  |none=>C.iC (p+1) r
def rp (acc:List Nat):List Edge->Nat
 |[]=>0
 |e::r=>if Region.binds .any e then(2^e.on |||acc.getD e.on 0) |||rp acc r else rp acc r
def pE:List Nat->List Oper->List Nat
 |acc,[]=>acc
 |acc,o::r=>pE (acc++[rp acc o.after.toList]) r
def tmpsOf (ops:List Oper)(o:Oper):List Nat:=
 (o.op.operands.toList.filterMap fun
   | .tmp t=>some t
   |_=>none)++(match o.guard with
   |some (g,_)=>((ops[g]?).bind (·.dst)).toList
   |none=>[])
def Sp (ops:List Oper)(bs:List Nat):Bool:=
 (List.range ops.length).all λj=>(List.range ops.length).all λp=>match ops[j]?,ops[p]? with
   |some oj,some op=>match op.dst with
    |some t=>p==j ||!(tmpsOf ops oj).contains t ||(bs.getD (max j p) 0).testBit (min j p)
    |none=>true
   |_,_=>false
def ax.pure:ax->Bool
 | .mv _=>true
 | .pick .. =>true
 | .build .. =>true
 | .nilck _=>true
 | .bin .. =>true
 | .eqA .. =>true
 | .un .. =>true
 | .cvi .. =>true
 | .mn .. =>true
 | .mkf .. =>true
 | .slS .. =>true
 | .slA .. =>true
 | .slX .. =>true
 | .fa .. =>true
 | .fld .. =>true
 | .ia .. =>true
 | .iaP .. =>true
 | .ixS .. =>true
 | .ixA .. =>true
 | .ext .. =>true
 | .len _=>true
 | .lenS _=>true
 | .ldI .. =>true
 | .bslI .. =>true
 |_=>false
def Sh.isA:Sh->Bool
 | .a=>true
 |_=>false
def ax.free:ax->Bool
 | .call _ _ sh=>sh.all λs=>s.all Sh.isA
 |i=>i.pure
def ax.jV:ax->Bool
 | .box .. =>true
 | .bsl .. =>true
 | .mks .. =>true
 | .s2b .. =>true
 | .rng .. =>true
 | .mkB=>true
 | .mkM=>true
 |_=>false
def ax.isApp:ax->Bool
 | .app .. =>true
 |_=>false
def ax.nC:ax->Bool
 | .callF .. =>true
 |_=>false
def ax.n6:ax->Bool
 | .ldU .. =>true
 | .ldW .. =>true
 |_=>false
def ax.isUU:ax->Bool
 | .ldU .. =>true
 |_=>false
def Src.same:Src->Src->Bool
 | .s a,.s b=>Nat.beq a b
 | .l a,.l b=>Nat.beq a b
 |_,_=>false
def ax.narrow (p:Src):ax->Bool
 | .app k _ _=>Nat.ble k 4
 | .stU _ _ _ qs=>qs.any λq=>p.same q
 |_=>false
def ax.RC:ax->Src
 | .ldW _ _ p=>p
 |_=>.c .any
def ax.isW:ax->Bool
 | .ldW .. =>true
 |_=>false
def exU (gj gi:ax)(j i:Nat):Bool:=gi.n6&&((gj.isApp&&decide (j<i)) ||(gi.isUU&&(gj.nC&&(decide (i<j)&&(List.range j).all λq=>decide (q<=i) ||match l[q]? with
 |some g=>g.i.calm ||g.i.nC
 |none=>true))) ||(gi.isW&&(gj.narrow gi.RC&&(decide (i<j)&&(List.range j).all λq=>decide (q<=i) ||match l[q]? with
 |some g=>g.i.calm ||g.i.narrow gi.RC
 |none=>true))))
def afn (bs:List Nat):Bool:=
 (List.range l.length).all λj=>(List.range l.length).all λi=>match l[j]?,l[i]? with
   |some gj,some gi=>gj.i.calm ||gi.i.free ||(gi.i.jV&&(!gj.i.isApp ||decide (j<i))) ||i==j ||(bs.getD (max j i) 0).testBit (min j i) ||exU l gj.i gi.i j i
   |_,_=>false
def ax.cN:ax->Bool
 | .callM .. =>true
 | .callvM .. =>true
 | .isNl .. =>true
 |_=>false
def Br:Nat->List Oper->Bool
 |_,[]=>true
 |p,o::r=>o.after.toList.all (λe=>!Region.binds .any e ||decide (e.on<p))&&Br (p+1) r
def sufG:GI->Bool
 |⟨.mv _,none⟩=>true
 |⟨.un ..,_⟩=>true
 |⟨.pick ..,none⟩=>true
 |⟨.ext ..,none⟩=>true
 |_=>false
def SD:List GI->Bool
 |⟨.callM ..,_⟩::r=>r.all sufG
 |⟨.callvM ..,_⟩::r=>r.all sufG
 |_=>false
def Af (o:Oper):Option Operand:=match o.op,o.guard with
 | .move x,none=>some x
 | .assign x,none=>some x
 | .extract x _,none=>some x
 |_,_=>none
def Pd (x:Operand)(d:Option Nat):Bool:=match x,d with
 | .tmp t,some d=>t !=d
 |_,_=>true
def OI (o p:Oper):Bool:=match Af o,Af p with
 |some x,some y=>Pd x p.dst&&(Pd y o.dst&&(match o.dst,p.dst with
  |some a,some b=>a !=b
  |_,_=>true))
 |_,_=>false
def RA (ops:List Oper)(l:List GI)(bs:List Nat):Bool:=
 let n:=l.findIdx λg=>g.i.cN
 SD (l.drop n)&&((l.take n).all (λg=>!g.i.cN)&&(List.range (l.length-n)).all λq=>(List.range (n+q)).all λp=>(bs.getD (n+q) 0).testBit p ||(match ops[n+q]?,ops[p]? with
  |some o,some o'=>OI o o'
  |_,_=>false))
def B9 (ops:List Oper)(l:List GI):Bool:=
 let bs:=pE [] ops
 Sp ops bs&&(afn l bs&&(((l.all λg=>!g.i.cN) ||RA ops l bs)&&Br 0 ops))
def ax.toN:ax->ax
 | .app k (.c .aL) y=>.appN k y
 |i=>i
def looseAt (l:List GI)(i:Nat):Bool:=
 (List.range l.length).any λj=>match l[j]? with
   |some gj=>!(gj.i.toN.calm ||i==j ||(bs.getD (max j i) 0).testBit (min j i))
   |none=>false
def OT (l:List GI)(i:Nat):Bool:=
 (List.range l.length).all λj=>match l[j]? with
   |some gj=>gj.i.toN.calm ||i==j ||(bs.getD (max j i) 0).testBit (min j i) ||(gj.i.isApp&&decide (j<i)) ||(gj.i.nC&&(decide (i<j)&&(List.range j).all λq=>decide (q<=i) ||match l[q]? with
    |some g=>g.i.toN.calm ||g.i.nC
    |none=>true))
   |none=>true
def Src.isFa:Src->Bool
 | .l q=>match l[q]? with
  |some ⟨.fa _ (.s _),_⟩=>true
  |_=>false
 |_=>false
def ajA (l:List GI)(i:Nat):Bool:=
 (match l[i]? with
   |some ⟨.ld ..,_⟩=>true
   |_=>false)&&(looseAt bs l i&&(!OT bs l i&&(List.range l.length).all λj=>match l[j]? with
   |some gj=>gj.i.toN.calm ||i==j ||(bs.getD (max j i) 0).testBit (min j i) ||(match gj.i with
    | .st n _ _=>Nat.ble 5 n&&decide (i<j)
    |_=>false)
   |none=>true))
def ajz (l:List GI)(i:Nat):Bool:=
 (match l[i]? with
   |some ⟨.ld _ _ x,_⟩=>x.isFa l
   |_=>false)&&(looseAt bs l i&&(!OT bs l i&&(((List.range l.length).all λj=>match l[j]? with
   |some gj=>gj.i.toN.calm ||i==j ||(bs.getD (max j i) 0).testBit (min j i) ||(match gj.i with
    | .app k _ _=>Nat.ble k 4
    | .st n _ _=>Nat.ble n 4&&decide (i<j)
    |_=>false)
   |none=>true)&&(List.range l.length).any λj=>decide (i<j)&&(match l[j]? with
   |some ⟨.app _ (.l _) _,_⟩=>!(bs.getD (max j i) 0).testBit (min j i)
   |_=>false))))
def X0 (l:List GI)(i:Nat):Bool:=ajz bs l i ||ajA bs l i
def XZ (l:List GI):List Src:=(List.range l.length).filterMap λi=>if X0 bs l i=true then(match l[i]? with
 |some ⟨.ld _ _ x,_⟩=>some x
 |_=>none)else none
def ajd (l:List GI)(p:Nat):Bool:=
 (List.range l.length).any λj=>match l[j]? with
   |some ⟨.ia _ (.l q) _,_⟩=>Nat.beq q p&&(List.range l.length).any λi=>match l[i]? with
    |some ⟨.ld _ _ (.l r),_⟩=>Nat.beq r j&&looseAt bs l i
    |_=>false
   |_=>false
def argAt (p:Nat):Bool:=l.any λg=>match g.i with
 | .call _ args _=>args.any λs=>match s with
  | .l q=>Nat.beq q p
  |_=>false
 |_=>false
def mP (bs:List Nat)(l0:List GI):Nat->List GI->List GI
 |_,[]=>[]
 |p,g::r=>(match g.i with
  | .ld n ag x=>if looseAt bs l0 p then(if OT bs l0 p then⟨.ldU n ag x,g.g⟩else if X0 bs l0 p then⟨.ldW n ag x,g.g⟩else⟨.ldI n ag x,g.g⟩)else g
  | .st n x y=>if(XZ bs l0).isEmpty=true then g else⟨.stU n x y (XZ bs l0),g.g⟩
  | .bsl k z n ps=>if(ajd bs l0 p ||(Nat.ble 2 k&&argAt l0 p))=true then⟨.bslI k z n ps,g.g⟩else g
  |i=>⟨i.toN,g.g⟩)::mP bs l0 (p+1) r
def ice (bN:List Nat)(l:List GI):List GI:=l.map λg=>match g.i with
 | .bsl k z n ps=>if bN.contains (950000000+100*k+n)then⟨.bslI k z n ps,g.g⟩else g
 |_=>g
def CC.code (C:CC):Code->Option AC
 | .skip=>some .skip
 | .region _ ops draw=>match C.ops [] ops.toList with
  |some l=>if draw then
    if B9 ops.toList (mP (pE [] ops.toList) l 0 l)then some (.reg true (mP (pE [] ops.toList) l 0 l) (C.iC 0 ops.toList))else none
   else some (.reg false (ice C.bN l) (C.iC 0 ops.toList))
  |none=>none
 | .seq a b=>match C.code a,C.code b with
  |some a,some b=>some (.seq a b)
  |_,_=>none
 | .cond c a b=>match C.src [] c,C.code a,C.code b with
  |some c,some a,some b=>some (.cond c a b)
  |_,_,_=>none
 | .block id a=>(C.code a).map (.block id)
 | .loop a=>(C.code a).map .loop
 | .exit id=>some (.exit id)
 | .ret=>some .ret
 | .scope a=>C.code a
 | .label _=>some .skip
 |_=>none
def SM:(defs:List (Option Nat))->List Oper->List Nat
 |_,[]=>[]
 |defs,o::r=>(o.op.operands.toList.filterMap fun
   | .tmp t=>if(posOf t defs).isNone then some t else none
   |_=>none)++SM (defs++[o.dst]) r
def Ec:Code->List Nat
 | .region _ ops _=>SM [] ops.toList
 | .seq a b=>Ec a++Ec b
 | .cond c a b=>(match c with
  | .tmp t=>[t]
  |_=>[])++Ec a++Ec b
 | .block _ a=>Ec a
 | .loop a=>Ec a
 | .scope a=>Ec a
 |_=>[]
def tw:List ResultVar->List Nat
 |[]=>[]
 | .tmp t::r=>t::tw r
 | .cell t _::r=>t::tw r
def dedup:List Nat->List Nat->List Nat
 |acc,[]=>acc.reverse
 |acc,a::r=>if acc.contains a then dedup acc r else dedup (a::acc) r
def yg (P:Program)(sl:List Nat):List ResultVar->Option (List GL)
 |[]=>some []
 | .tmp t::r=>match AX sl t,yg P sl r with
  |some a,some l=>some (⟨a,none⟩::l)
  |_,_=>none
 | .cell t ty::r=>match AX sl t,yg P sl r with
  |some a,some l=>if P.cellsOf ty=0\/(P.underlying ty).isNone\/(b7 P ty=false/\P.cellsOf ty≠1)then none else some (⟨a,some (P.cellsOf ty,b7 P ty)⟩::l)
  |_,_=>none
def slotsOf (fn:Func):List Nat:=dedup [] (List.range (fn.params.size+fn.nfree)++tw fn.results.toList++Ec (fn.body.getD .skip))
def vmOps (ops:List Oper):Bool:=ops.any λo=>match o.op with
 | .makeFunc _ first _=>!first.isEmpty
 | .lookup t _ _ _=>(match P.underlying t with
  |some (.map _ e)=>(match P.underlying e with
   |some (.func ..)=>true
   |_=>false)
  |_=>false)
 | .call c=>(match c.callee with
  | .value (.tmp _)=>c.argTypes.toList.any λt=>match P.underlying t with
   |some (.pointer _)=>true
   |_=>false
  |_=>false)
 |_=>false
def NK (P:Program):Code->Bool
 | .region _ ops _=>vmOps P ops.toList
 | .seq a b=>NK P a ||NK P b
 | .cond _ a b=>NK P a ||NK P b
 | .block _ a=>NK P a
 | .loop a=>NK P a
 | .scope a=>NK P a
 |_=>false
def Qk (fn:Func):Bool:=NK P (fn.body.getD .skip)
def compile (ν:List (Nat×Nat))(bN:List Nat)(fn:Func):Option aj:=
 match fn.body with
 |some body=>
  match CC.code {P,ν,bN,slots:=slotsOf fn,ntmps:=fn.ntmps,vm:=Qk P fn} body,yg P (slotsOf fn) fn.results.toList with
  |some a,some res=>
   if fn.params.size+fn.nfree<=fn.ntmps then some {np:=fn.params.size+fn.nfree,ns:=(slotsOf fn).length,res,rsh:=fn.resultTypes.toList.map λt=>bif bN.contains (keepN fn)then ajn (Is P 8 t)else Is P 8 t,body:=a}else none
  |_,_=>none
 |none=>none
def A1:List (Nat×Nat):=[(5,1218),(6,89),(7,28),(8,90),(9,29),(10,91),(11,92),(12,264),(13,265),(16,25),(17,52),(18,75),(19,190),(20,501),(21,110),(22,112),(23,109),(24,111),(25,135),(26,136),(27,266),(28,147),(29,114),(30,267),(31,268),(32,269),(33,270),(34,175),(35,142),(36,138),(37,315),(38,502),(39,410),(40,170),(41,186),(42,73),(43,221),(44,217),(45,424),(46,296),(47,297),(48,298),(49,159),(50,71),(51,344),(52,345),(53,503),(54,504),(55,143),(56,145),(57,144),(58,360),(59,361),(60,362),(61,505),(62,46),(63,506),(64,169),(65,507),(66,508),(67,408),(68,209),(69,295),(70,409),(71,353),(72,354),(73,355),(74,349),(75,553),(76,689),(77,690),(78,274),(79,691),(80,273),(81,623),(82,624),(83,417),(84,219),(85,464),(86,455),(87,456),(88,630),(89,631),(90,535),(91,536),(92,216),(93,218),(94,572),(95,358),(96,580),(97,356),(98,359),(99,357),(100,581),(101,582),(102,583),(103,692),(104,693),(105,694),(106,183),(107,158),(108,629),(109,403),(110,695),(111,531),(112,516),(113,440),(114,441),(115,442),(116,530),(117,532),(118,533),(119,534),(120,622),(121,208),(122,74),(123,511),(124,510),(125,712),(126,628),(127,316),(128,461),(129,462),(130,249),(131,470),(132,666),(133,667),(134,668),(135,783),(136,453),(137,454),(138,457),(139,458),(140,459),(141,460),(142,744),(143,745),(144,748),(145,749),(146,750),(147,751),(148,752),(149,753),(150,754),(151,755),(152,829),(153,184),(154,830),(155,831),(156,415),(157,381),(158,627),(159,617),(160,618),(161,704),(162,658),(163,659),(164,714),(165,780),(166,72),(167,220),(168,699),(169,700),(170,701),(171,861),(172,554),(173,927),(174,669),(175,670),(176,671),(177,672),(178,673),(179,674),(180,896),(181,897),(182,898),(183,899),(184,900),(185,901),(186,902),(187,903),(188,156),(189,816),(190,904),(191,905),(192,906),(193,907),(194,908),(195,909),(196,416),(197,770),(198,782),(199,777),(200,778),(201,924),(202,925),(203,70),(204,215),(205,463),(206,980),(207,734),(208,812),(209,813),(210,814),(211,815),(212,1006),(213,1007),(214,1008),(215,482),(216,676),(217,375),(218,376),(219,377),(220,378),(221,379),(222,955),(223,1009),(224,1010),(225,1011),(226,1012),(227,1013),(228,1014),(229,1015),(230,916),(231,917),(232,926),(233,1023),(234,1024),(235,210),(236,211),(237,212),(238,213),(239,214),(240,450),(241,451),(242,242),(243,452),(244,1055),(245,882),(246,952),(247,953),(248,954),(249,678),(250,1079),(251,677),(252,599),(253,600),(254,601),(255,602),(256,603),(257,1080),(258,1081),(259,1082),(260,1083),(261,1084),(262,374),(263,1085),(264,1019),(265,1020),(266,1025),(267,1087),(268,443),(269,444),(270,445),(271,446),(272,447),(273,448),(274,449),(275,489),(276,664),(277,665),(279,1032),(280,1033),(281,1034),(282,1035),(283,1036),(284,769),(285,1118),(286,604),(287,1119),(288,1120),(289,1121),(290,598),(291,1122),(292,1086),(293,495),(294,496),(295,124),(296,660),(297,661),(298,662),(299,254),(300,487),(301,663),(303,336),(305,1097),(306,1098),(307,1099),(308,1100),(309,771),(310,1137),(311,1138),(312,1139),(313,919),(314,920),(315,921),(316,682),(317,683),(318,684),(319,685),(321,808),(322,809),(323,810),(324,811),(330,1126),(331,918),(332,1144),(333,772),(334,1145),(335,1021),(336,819),(344,827),(345,828),(349,946),(350,947),(351,948),(352,949),(353,950),(354,951),(358,1141),(359,1147),(360,1148),(361,956),(362,957),(369,1031)]
def Ot:List Nat:=[219,1091,1354,1894,1896,1616,1320,1618,1898,2062,2066,2282,2068,2252,2194,2064,1904,900,931,937,935,445,978,1328,904,942,944,946,952,448,522,1724,1726,1728,1430,486,500,1842,760,314,310,308,1836,872,870,406,410,412,103920080,104450022,104360064,595,1071,593,597,221,533,1004,1018,1510,1504,1496,1164,1166,724,1818,1502,950000702,1838,1544,1000000337,500000000]
noncomputable def cfY (f:Nat):Option aj:=((Go.Proofs.Tryz.prog).funcs[f]?).bind (compile Go.Proofs.Tryz.prog A1 Ot)
def zofN:Int.ofNat (no_index (@OfNat.ofNat Nat n (instOfNatNat n)))=@OfNat.ofNat Int n (@instOfNat n):=rfl
def zofU (h:n<2^8):UInt8.ofBitVec (BitVec.ofFin (Fin.mk (no_index (@OfNat.ofNat Nat n (instOfNatNat n))) h))=(OfNat.ofNat n:UInt8):=pw.1 (by show n=(UInt8.ofNat n).toNat;rw[UInt8.toNat_ofNat'];exact(Nat.mod_eq_of_lt h).symm)
def zofM:Int.negSucc 0=-1:=rfl
noncomputable def bc (f:Nat)(s:{a:aj//cfY f=some a}:=by refine⟨?_, ?_⟩;rotate_left;conv=>lhs;reduce;dsimp only[zofN,zofM];try simp only[zofU]):aj:=s.1
structure X where
 w:World
 I:Nat->Prop
 β:Nat->Option (Nat×Nat×Nat)
def Uf (es:List MapEntry)(i:Nat):Value:=match es[i/2]? with
 |some e=>if i%2=0 then e.key else e.val
 |none=>undef
inductive RD (ν:List (Nat×Nat))(x:X):Value->D->Prop
 |any (v:Value):RD ν x v .any
 |bool (b:Bool):RD ν x (.bool b) (.bool b)
 |int (k:IntKind) (n:Int):RD ν x (.int k n) (.int k n)
 |str (s:List UInt8) (h:s.length<=maxLen):RD ν x (.string ⟨⟨s⟩⟩) (.str s)
 |agg (cs:Array Value) (ds:List D) (hl:cs.size=ds.length) (h1:∀i,i<ds.length->(cs.getD i undef).oneCell'=true)
   (h:∀i,i<ds.length->RD ν x (cs.getD i undef) (ds.getD i .any)):RD ν x (.agg cs) (.agg ds)
 |tup (cs:Array Value) (ds:List D) (hl:cs.size=ds.length)
   (h:∀i,i<ds.length->RD ν x (cs.getD i undef) (ds.getD i .any)):RD ν x (.tuple cs) (.tup ds)
 |aL:RD ν x (.slice none 0 0) .aL
 |sl (a:Option Addr) (b off len cap k:Nat) (es:List D) (c:Nat->Nat->Value) (hlen:len=es.length)
   (ha:es=[]\/(a=some ⟨b,off,none⟩/\x.I b)) (hcap:len<=cap) (hm:cap<=maxLen)
   (hk:∀i,i<len->(es.getD i .any).cells.length=k) (hn:∀i,i<len->(es.getD i .any).aR=true)
   (hc:∀i j,i<len->j<k->x.w.cell? ⟨b,off+i*k+j,none⟩=some (c i j))
   (h1:∀i j,i<len->j<k->(c i j).oneCell'=true)
   (h:∀i j,i<len->j<k->RD ν x (c i j) ((es.getD i .any).cells.getD j .any)):RD ν x (.slice a len cap) (.sl k es)
 |ref (b off k i o at_:Nat) (es:List D) (c:Nat->Nat->Value) (hI:x.I b) (hat:at_=off+i*k+o)
   (hk:∀i,i<es.length->(es.getD i .any).cells.length=k) (hn:∀i,i<es.length->(es.getD i .any).aR=true)
   (hc:∀i j,i<es.length->j<k->x.w.cell? ⟨b,off+i*k+j,none⟩=some (c i j))
   (h1:∀i j,i<es.length->j<k->(c i j).oneCell'=true)
   (h:∀i j,i<es.length->j<k->RD ν x (c i j) ((es.getD i .any).cells.getD j .any)):RD ν x (.pointer (some ⟨b,at_,none⟩)) (.ref k es i o)
 |ptr (l k i o b base tot at_:Nat) (hβ:x.β l=some (b,base,tot)) (hat:at_=base+i*k+o):RD ν x (.pointer (some ⟨b,at_,none⟩)) (.ptr l k i o)
 |own (l k i n b base tot cap:Nat) (a:Addr) (hβ:x.β l=some (b,base,tot)) (ha:0<cap->a=⟨b,base+i*k,none⟩)
   (hcap:n<=cap) (hm:cap<=maxLen) (ht:i+cap<=tot):RD ν x (.slice (some a) n cap) (.own l k i n)
 |own0 (l k i:Nat) (a:Option Addr):RD ν x (.slice a 0 0) (.own l k i 0)
 |nilp:RD ν x (.pointer none) .nilp
 |fn (fid n:Nat) (cs:Array Value) (ds:List D) (hν:dN ν fid=some n) (hl:cs.size=ds.length)
   (h:∀i,i<ds.length->RD ν x (cs.getD i undef) (ds.getD i .any)):RD ν x (.func (.func fid) #[] cs) (.fn n ds)
 |ee (fid n:Nat) (fs:Array Value) (ds:List D) (hν:dN ν fid=some n) (hl:fs.size=ds.length)
   (h:∀i,i<ds.length->RD ν x (fs.getD i undef) (ds.getD i .any)):RD ν x (.func (.func fid) fs #[]) (.fn (n+1000000) ds)
 |nilf:RD ν x .nilFunc .nilf
 |bx (b at_:Nat) (ds:List D) (v:Value) (hI:x.I b) (hc:x.w.cell? ⟨b,at_,none⟩=some v) (h1:v.oneCell'=true) (hl:ds.length=1)
   (h:∀i,i<ds.length->RD ν x v (ds.getD i .any)):RD ν x (.pointer (some ⟨b,at_,none⟩)) (.fn 3000000 ds)
 |mpn:RD ν x (.map none) (.fn 5100000 [])
 |im (l b base tot:Nat) (hβ:x.β l=some (b,base,tot)):RD ν x (.map (some b)) (.fn 5000000 [.it l])
 |it (l b base tot:Nat) (hβ:x.β l=some (b,base,tot)):RD ν x (.pointer (some ⟨b,0,none⟩)) (.it l)
section
variable {ν:List (Nat×Nat)}{x x':X}
structure Le (x x':X):Prop where
 I:∀b,x.I b->x'.I b
 o8:∀b,x.I b->x'.w.heap[b]? =x.w.heap[b]?
 β:∀l p,x.β l=some p->x'.β l=some p
theorem iO {w:World}{b o:Nat}{v:Value}(h:w'.heap[b]? =w.heap[b]?)(hc:w.cell? ⟨b,o,none⟩=some v):w'.cell? ⟨b,o,none⟩=some v:=by
 rw[<-hc];unfold World.cell?;simp only[h]
def Le.refl (x:X):Le x x:=⟨λ_ h=>h,λ_ _=>rfl,λ_ _ h=>h⟩
def Le.trans {x'':X}(h:Le x x')(h':Le x' x''):Le x x'':=
 ⟨λb hb=>h'.I b (h.I b hb),λb hb=>(h'.o8 b (h.I b hb)).trans (h.o8 b hb),λl p hp=>h'.β l p (h.β l p hp)⟩
def RD.mono {v:Value}(h:RD ν x v d)(hl:Le x x'):RD ν x' v d:=by
 induction h with
 |any v=>exact .any v
 |bool b=>exact .bool b
 |int k n=>exact .int k n
 |str s h=>exact .str s h
 |agg cs ds hl' h1 _ ih=>exact .agg cs ds hl' h1 ih
 |tup cs ds hl' _ ih=>exact .tup cs ds hl' ih
 |aL=>exact .aL
 |sl a b off len cap k es c hlen ha hcap hm hk hn hc h1 _ ih=>
  refine .sl a b off len cap k es c hlen (ha.imp id λ⟨p,q⟩=>⟨p,hl.I _ q⟩) hcap hm hk hn (λi j hi hj=>?_) h1 ih;rcases ha with rfl|⟨_,hI⟩
  .simp at hlen;omega
  .exact iO (hl.o8 _ hI) (hc i j hi hj)
 |ref b off k i o at_ es c hI hat hk hn hc h1 _ ih=>
  exact .ref b off k i o at_ es c (hl.I _ hI) hat hk hn (λi j hi hj=>iO (hl.o8 _ hI) (hc i j hi hj)) h1 ih
 |ptr l k i o b base tot at_ hβ hat=>exact .ptr l k i o b base tot at_ (hl.β _ _ hβ) hat
 |own l k i n b base tot cap a hβ ha hcap hm ht=>exact .own l k i n b base tot cap a (hl.β _ _ hβ) ha hcap hm ht
 |own0 l k i a=>exact .own0 l k i a
 |nilp=>exact .nilp
 |fn fid n cs ds hν hl' _ ih=>exact .fn fid n cs ds hν hl' ih
 |ee fid n cs ds hν hl' _ ih=>exact .ee fid n cs ds hν hl' ih
 |nilf=>exact .nilf
 |bx b at_ ds v hI hc h1 hl' _ ih=>exact .bx b at_ ds v (hl.I _ hI) (iO (hl.o8 _ hI) hc) h1 hl' ih
 |mpn=>exact .mpn
 |im l b base tot hβ=>exact .im l b base tot (hl.β _ _ hβ)
 |it l b base tot hβ=>exact .it l b base tot (hl.β _ _ hβ)
def cW:∀{ds:List D},aK ds=true->∀i,(ds.getD i .any).aR=true
 |[],_,i=>by simp[D.aR]
 |d::r,h,0=>by simp[aK]at h;simpa using h.1
 |d::r,h,i+1=>by simp[aK]at h;simpa using cW h.2 i
def jW:∀{ds:List D},oc ds=true->∀i,(ds.getD i .any).fm=true
 |[],_,i=>by simp[D.fm]
 |d::r,h,0=>by simp[oc]at h;simpa using h.1
 |d::r,h,i+1=>by simp[oc]at h;simpa using jW h.2 i
def sw:∀{ds:List D},(∀i,i<ds.length->(ds.getD i .any).aR=true)->aK ds=true
 |[],_=>rfl
 |d::r,h=>by
  simp only[aK,aA];exact⟨by simpa using h 0 aC,sw λi hi=>by simpa using h (i+1) fh⟩
def lO (h:d.aR=true)(j:Nat):(d.cells.getD j .any).aR=true:=by
 cases d<;>simp only[D.cells]<;>first
  |(simp only[D.aR]at h;exact cW h j)
  |(cases j<;>simp_all[D.aR])
theorem RD.aR {v:Value}{d:D}(h:RD ν x v d)(hn:d.aR=true)(hI:∀b,x.I b->x'.I b)(hk:∀b,x.I b->x'.w.heap[b]? =x.w.heap[b]?):RD ν x' v d:=by
 induction h with
 |any v=>exact .any v
 |bool b=>exact .bool b
 |int k n=>exact .int k n
 |str s h=>exact .str s h
 |agg cs ds hl' h1 _ ih=>exact .agg cs ds hl' h1 λi hi=>ih i hi (cW yv i)
 |tup cs ds hl' _ ih=>exact .tup cs ds hl' λi hi=>ih i hi (cW yv i)
 |aL=>exact .aL
 |sl a b off len cap k es c hlen ha hcap hm hk' hn' hc h1 _ ih=>
  refine .sl a b off len cap k es c hlen (ha.imp id λ⟨p,q⟩=>⟨p,hI _ q⟩) hcap hm hk' hn' (λi j hi hj=>?_) h1 λi j hi hj=>ih i j hi hj (lO (hn' i hi) j)
  grind [iO]
 |ref b off k i o at_ es c hIb hat hk' hn' hc h1 _ ih=>
  exact .ref b off k i o at_ es c (hI _ hIb) hat hk' hn' (λi j hi hj=>iO (hk _ hIb) (hc i j hi hj)) h1 λi j hi hj=>ih i j hi hj (lO (hn' i hi) j)
 |ptr=>simp[D.aR]at hn
 |own=>simp[D.aR]at hn
 |own0=>simp[D.aR]at hn
 |nilp=>exact .nilp
 |fn fid n cs ds hν hl' _ ih=>exact .fn fid n cs ds hν hl' λi hi=>ih i hi (cW yv i)
 |ee fid n cs ds hν hl' _ ih=>exact .ee fid n cs ds hν hl' λi hi=>ih i hi (cW yv i)
 |nilf=>exact .nilf
 |bx b at_ ds v hIr hc h1 hl' _ ih=>exact .bx b at_ ds v (hI _ hIr) (iO (hk _ hIr) hc) h1 hl' λi hi=>ih i hi (cW yv i)
 |mpn=>exact .mpn
 |im=>simp[D.aR,aK]at hn
 |it=>simp[D.aR]at hn
def RD.fm {v:Value}{d:D}(h:RD ν x v d)(hn:d.fm=true):RD ν x' v d:=by
 induction h with
 |any v=>exact .any v
 |bool b=>exact .bool b
 |int k n=>exact .int k n
 |str s h=>exact .str s h
 |agg cs ds hl' h1 _ ih=>exact .agg cs ds hl' h1 λi hi=>ih i hi (jW (by simpa[D.fm]using hn) i)
 |tup cs ds hl' _ ih=>exact .tup cs ds hl' λi hi=>ih i hi (jW (by simpa[D.fm]using hn) i)
 |aL=>exact .aL
 |sl=>simp[D.fm]at hn
 |ref=>simp[D.fm]at hn
 |ptr=>simp[D.fm]at hn
 |own=>simp[D.fm]at hn
 |own0=>simp[D.fm]at hn
 |nilp=>exact .nilp
 |fn fid n cs ds hν hl' _ ih=>exact .fn fid n cs ds hν hl' λi hi=>ih i hi (jW (by simp[D.fm]at hn;exact hn.2) i)
 |ee fid n cs ds hν hl' _ ih=>exact .ee fid n cs ds hν hl' λi hi=>ih i hi (jW (by simp[D.fm]at hn;exact hn.2) i)
 |nilf=>exact .nilf
 |bx=>simp[D.fm]at hn
 |mpn=>exact .mpn
 |im=>simp[D.fm]at hn
 |it=>simp[D.fm]at hn
theorem RD.cells {v:Value}{d:D}(h:RD ν x v d)(hd:0<d.cells.length):
  v.cells.size=d.cells.length/\∀j,j<d.cells.length->(v.cells.getD j undef).oneCell'=true/\RD ν x (v.cells.getD j undef) (d.cells.getD j .any):=by
 cases h with
 |any=>simp[D.cells]at hd
 |tup=>simp[D.cells]at hd
 |agg cs ds hl h1 h=>exact⟨hl,λj hj=>⟨h1 j hj,h j hj⟩⟩
 |bool b=>exact⟨rfl,λj hj=>by simp[D.cells]at hj;subst hj;exact⟨rfl,.bool b⟩⟩
 |int k n=>exact⟨rfl,λj hj=>by simp[D.cells]at hj;subst hj;exact⟨rfl,.int k n⟩⟩
 |str s h=>exact⟨rfl,λj hj=>by simp[D.cells]at hj;subst hj;exact⟨rfl,.str s h⟩⟩
 |aL=>exact⟨rfl,λj hj=>by simp[D.cells]at hj;subst hj;exact⟨rfl,.aL⟩⟩
 |sl a b off len cap k es c hlen ha hcap hm hk hn hc h1 h=>exact⟨rfl,λj hj=>by simp[D.cells]at hj;subst hj;exact⟨rfl,.sl a b off len cap k es c hlen ha hcap hm hk hn hc h1 h⟩⟩
 |ref b off k i o at_ es c hI hat hk hn hc h1 h=>exact⟨rfl,λj hj=>by simp[D.cells]at hj;subst hj;exact⟨rfl,.ref b off k i o at_ es c hI hat hk hn hc h1 h⟩⟩
 |ptr l k i o b base tot at_ hβ hat=>exact⟨rfl,λj hj=>by simp[D.cells]at hj;subst hj;exact⟨rfl,.ptr l k i o b base tot at_ hβ hat⟩⟩
 |own l k i n b base tot cap a hβ ha hcap hm ht=>exact⟨rfl,λj hj=>by simp[D.cells]at hj;subst hj;exact⟨rfl,.own l k i n b base tot cap a hβ ha hcap hm ht⟩⟩
 |own0 l k i a=>exact⟨rfl,λj hj=>by simp[D.cells]at hj;subst hj;exact⟨rfl,.own0 l k i a⟩⟩
 |nilp=>exact⟨rfl,λj hj=>by simp[D.cells]at hj;subst hj;exact⟨rfl,.nilp⟩⟩
 |fn fid n cs ds hν hl h=>exact⟨rfl,λj hj=>by simp[D.cells]at hj;subst hj;exact⟨rfl,.fn fid n cs ds hν hl h⟩⟩
 |ee fid n cs ds hν hl h=>exact⟨rfl,λj hj=>by simp[D.cells]at hj;subst hj;exact⟨rfl,.ee fid n cs ds hν hl h⟩⟩
 |nilf=>exact⟨rfl,λj hj=>by simp[D.cells]at hj;subst hj;exact⟨rfl,.nilf⟩⟩
 |bx b at_ ds v hI hc h1 hl h=>exact⟨rfl,λj hj=>by simp[D.cells]at hj;subst hj;exact⟨rfl,.bx b at_ ds v hI hc h1 hl h⟩⟩
 |mpn=>exact⟨rfl,λj hj=>by simp[D.cells]at hj;subst hj;exact⟨rfl,.mpn⟩⟩
 |im l b base tot hβ=>exact⟨rfl,λj hj=>by simp[D.cells]at hj;subst hj;exact⟨rfl,.im l b base tot hβ⟩⟩
 |it l b base tot hβ=>exact⟨rfl,λj hj=>by simp[D.cells]at hj;subst hj;exact⟨rfl,.it l b base tot hβ⟩⟩
end
section
variable {ν:List (Nat×Nat)}{x x':X}
def zVv (j:Nat):Value:=if j<3 then .int .i64 0 else .string ⟨⟨[]⟩⟩
class cL where
 tB:TypeId:=0
 tU:TypeId:=0
 gd:X->Prop
 le:∀x x':X,(∀b,x.I b->x'.I b)->(∀b,x.I b->x'.w.heap[b]? =x.w.heap[b]?)->gd x->gd x'
 gz:Nat->Prop:=λ_=>False
 gzr:∀(x:X) (g:Nat),gd x->gz g->∀j,j<5->x.w.cell? ⟨g,j,none⟩=some (zVv j):=by exact λ_ _ _ h=>h.elim
variable [cL]
def oV (ν:List (Nat×Nat))(x:X)(b base tot:Nat):bj->Prop
 | .buf k es=>0<k/\es.length<=tot/\∃c T fr,x.w.heap[b]? =some (.cells c T fr)/\base+tot*k<=c.size/\
   (∀o,o<c.size->¬(fr.1<=o/\o<fr.2))/\
   ∀i,i<es.length->(es.getD i .any).cells.length=k/\∀j,j<k->
    (c.getD (base+i*k+j) undef).oneCell'=true/\RD ν x (c.getD (base+i*k+j) undef) ((es.getD i .any).cells.getD j .any)
 | .iter s pos=>x.w.heap[b]? =some (.stringIter ⟨⟨s⟩⟩ pos)/\s.length<=maxLen
 | .row s=>base=0/\∃c,x.w.heap[b]? =some (.cells c cL.tU (0,0))/\c.size=tot/\tot<=maxLen/\s.length<=tot/\∀i,i<s.length->c.getD i undef=.int .u8 (s.getD i 0).toNat
 | .bld o n u=>base=0/\∃v,x.w.heap[b]? =some (.cells #[.pointer (if u=true then some ⟨b,0,none⟩else none),v] cL.tB (0,0))/\
   match o with
   |none=>n=0/\v=.slice none 0 0
   |some l=>∃g t,v=.slice (some ⟨g,0,none⟩) n t/\n<=t/\x.β l=some (g,0,t)
 | .mpb kvs=>aK kvs=true/\∃es cl,x.w.heap[b]? =some (.map es cl)/\2*es.size=kvs.length/\(es.toList.map (·.key)).Nodup/\∀i,i<kvs.length->RD ν x (Uf es.toList i) (kvs.getD i .any)
def ru (h:Le x x')(hg:cL.gd x):cL.gd x':=cL.le x x' h.I h.o8 hg
structure fF (ν:List (Nat×Nat))(x:X)(f:Nat->Option bj):Prop where
 own:∀l blk b base tot,f l=some blk->x.β l=some (b,base,tot)->¬x.I b/\oV ν x b base tot blk
 inj:∀l l' b base tot base' tot',f l≠none->f l'≠none->x.β l=some (b,base,tot)->x.β l'=some (b,base',tot')->l=l'
 imm:∀b,x.I b->b<x.w.heap.size
 ee:∀l b base tot,x.β l=some (b,base,tot)->b<x.w.heap.size
 gd:cL.gd x
structure Step (x x':X):Prop where
 os:x'.w.os=x.w.os
 tape:x'.w.tape=x.w.tape
 output:x'.w.output=x.w.output
 size:x.w.heap.size<=x'.w.heap.size
 I:∀b,x.I b->x'.I b
 o8:∀b,x.I b->x'.w.heap[b]? =x.w.heap[b]?
 β:∀l p,x.β l=some p->x'.β l=some p
 old:∀b,b<x.w.heap.size->(∀l p,x.β l=some p->p.1≠b)->x'.w.heap[b]? =x.w.heap[b]?
 newI:∀b,x'.I b->x.I b\/x.w.heap.size<=b\/∃l p,x.β l=some p/\p.1=b
 newβ:∀l p,x'.β l=some p->x.β l=some p\/x.w.heap.size<=p.1\/∃l' p',x.β l'=some p'/\p'.1=p.1
def Step.le (h:Step x x'):Le x x':=⟨h.I,h.o8,h.β⟩
def Step.refl (x:X):Step x x:=⟨rfl,rfl,rfl,aN _,λ_ h=>h,λ_ _=>rfl,λ_ _ h=>h,λ_ _ _=>rfl,λ_ h=>.inl h,λ_ _ h=>.inl h⟩
def Step.trans {x'':X}(h:Step x x')(h':Step x' x''):Step x x'':=by
 refine⟨h'.os.trans h.os,h'.tape.trans h.tape,h'.output.trans h.output,fg h.size h'.size,λb hb=>h'.I b (h.I b hb),
  λb hb=>(h'.o8 b (h.I b hb)).trans (h.o8 b hb),λl p hp=>h'.β l p (h.β l p hp), ?_, ?_, ?_⟩
 .intro b hb hn;refine(h'.old b (jr hb h.size) ?_).trans (h.old b hb hn);intro l p hp e;rcases h.newβ l p hp with h1|h1|⟨l',p',h1,h2⟩
  .exact hn l p h1 e
  .omega
  .exact hn l' p' h1 (h2.trans e)
 .intro b hb;rcases h'.newI b hb with h1|h1|⟨l,p,h1,h2⟩
  .exact h.newI b h1
  .exact .inr (.inl (fg h.size h1))
  .rcases h.newβ l p h1 with h3|h3|⟨l',p',h3,h4⟩
   .exact .inr (.inr ⟨l,p,h3,h2⟩)
   .exact .inr (.inl (h2▸h3))
   .exact .inr (.inr ⟨l',p',h3,h4.trans h2⟩)
 .intro l p hp;rcases h'.newβ l p hp with h1|h1|⟨l',p',h1,h2⟩
  .exact h.newβ l p h1
  .exact .inr (.inl (fg h.size h1))
  .rcases h.newβ l' p' h1 with h3|h3|⟨l'',p'',h3,h4⟩
   .exact .inr (.inr ⟨l',p',h3,h2⟩)
   .exact .inr (.inl (h2▸h3))
   .exact .inr (.inr ⟨l'',p'',h3,h4.trans h2⟩)
def oV.mono {b base tot:Nat}{blk:bj}(h:oV ν x b base tot blk)(hl:Le x x')(hb:x'.w.heap[b]? =x.w.heap[b]?):oV ν x' b base tot blk:=by
 cases blk with
 |buf k es=>
  obtain⟨hk,ht,c,T,fr,h1,h2,h3,h4⟩:=h;exact⟨hk,ht,c,T,fr,hb.trans h1,h2,h3,λi hi=>⟨(h4 i hi).1,λj hj=>⟨((h4 i hi).2 j hj).1,((h4 i hi).2 j hj).2.mono hl⟩⟩⟩
 |iter s pos=>exact⟨hb.trans h.1,h.2⟩
 |row s=>
  obtain⟨h0,c,h1,h2⟩:=h;exact⟨h0,c,hb.trans h1,h2⟩
 |mpb kvs=>
  obtain⟨h0,es,cl,h1,h2,h3,h4⟩:=h;exact⟨h0,es,cl,hb.trans h1,h2,h3,λi hi=>(h4 i hi).mono hl⟩
 |bld o n u=>
  obtain⟨h0,v,h1,h2⟩:=h;refine⟨h0,v,hb.trans h1, ?_⟩;cases o with
  |none=>exact h2
  |some l=>
   obtain⟨g,t,h3,h4,h5⟩:=h2;exact⟨g,t,h3,h4,hl.β _ _ h5⟩
structure iz (w w':World):Prop where
 os:w'.os=w.os
 tape:w'.tape=w.tape
 output:w'.output=w.output
 size:w.heap.size<=w'.heap.size
 old:∀b,b<w.heap.size->w'.heap[b]? =w.heap[b]?
def iz.refl:iz w w:=⟨rfl,rfl,rfl,aN _,λ_ _=>rfl⟩
def ma (o:Obj)(b:Nat)(hb:b<w.heap.size):(w.alloc o).heap[b]? =w.heap[b]? :=by
 simp only[World.alloc,Array.getElem?_push];rw[ah ae]
def dV (o:Obj):(w.alloc o).heap[w.heap.size]? =some o:=by show(w.heap.push o)[w.heap.size]? =some o;simp
def iz.alloc (o:Obj):iz w (w.alloc o):=⟨rfl,rfl,rfl,aC,λb hb=>ma w o b hb⟩
def iz.trans {w w' w'':World}(h:iz w w')(h':iz w' w''):iz w w'':=
 ⟨h'.os.trans h.os,h'.tape.trans h.tape,h'.output.trans h.output,fg h.size h'.size,λb hb=>(h'.old b (jr hb h.size)).trans (h.old b hb)⟩
def iz.drew:iz w w.drew:=⟨rfl,rfl,rfl,aN _,λ_ _=>rfl⟩
def Step.grow (hw:iz x.w w')(himm:∀b,x.I b->b<x.w.heap.size):Step x ⟨w',x.I,x.β⟩:=
 ⟨hw.os,hw.tape,hw.output,hw.size,λ_ h=>h,λb hb=>hw.old b (himm b hb),λ_ _ h=>h,λb hb _=>hw.old b hb,λ_ h=>.inl h,λ_ _ h=>.inl h⟩
def fF.grow {f:Nat->Option bj}{w':World}(h:fF ν x f)(hw:iz x.w w'):fF ν ⟨w',x.I,x.β⟩ f:=
 ⟨λl blk b base tot h1 h2=>⟨(h.own l blk b base tot h1 h2).1,(h.own l blk b base tot h1 h2).2.mono (Step.grow hw h.imm).le (hw.old b (h.ee l b base tot h2))⟩,
  h.inj,λb hb=>jr (h.imm b hb) hw.size,λl b base tot hb=>jr (h.ee l b base tot hb) hw.size,ru (Step.grow hw h.imm).le h.gd⟩
def e8 (β:Nat->Option (Nat×Nat×Nat))(L:Nat)(p:Nat×Nat×Nat):Nat->Option (Nat×Nat×Nat):=λl=>if l=L then some p else β l
def jC (f:Nat->Option bj)(L:Nat)(b:Option bj):Nat->Option bj:=λl=>if l=L then b else f l
theorem D3 {L n base tot:Nat}(hw:iz x.w w')(hn:x.w.heap.size<=n)(hL:x.β L=none)(himm:∀b,x.I b->b<x.w.heap.size):
  Step x ⟨w',x.I,e8 x.β L (n,base,tot)⟩:=by
 refine⟨hw.os,hw.tape,hw.output,hw.size,λ_ h=>h,λb hb=>hw.old b (himm b hb),λl p hp=>?_,λb hb _=>hw.old b hb,λ_ h=>.inl h,λl p hp=>?_⟩
 .grind [e8]
 grind [e8]
def aeE {f:Nat->Option bj}{L n base tot:Nat}{blk:bj}(h:fF ν x f)(hw:iz x.w w')(hn:x.w.heap.size<=n)(hnw:n<w'.heap.size)(hL:x.β L=none)(hb:oV ν ⟨w',x.I,e8 x.β L (n,base,tot)⟩ n base tot blk):fF ν ⟨w',x.I,e8 x.β L (n,base,tot)⟩ (jC f L (some blk)):=by
 have hle:=(D3 (base:=base) (tot:=tot) hw hn hL h.imm).le;refine⟨λl blk' b base' tot' h1 h2=>?_,λl l' b base' tot' base'' tot'' h1 h1' h2 h2'=>?_,λb hb=>jr (h.imm b hb) hw.size,λl b base' tot' h2=>?_,ru hle h.gd⟩
 .by_cases e:l=L
  .subst e;simp only[e8,bh,aE,dj]at h2;simp only[jC,bh,aE]at h1;obtain⟨rfl,rfl,rfl⟩:=h2;subst h1;exact⟨λhI=>by have:=h.imm _ hI;omega,hb⟩
  .simp only[e8,e,aX]at h2;simp only[jC,e,aX]at h1;obtain⟨a1,a2⟩:=h.own l blk' b base' tot' h1 h2;exact⟨a1,a2.mono hle (hw.old b (h.ee l b base' tot' h2))⟩
 .by_cases e:l=L<;>by_cases e':l'=L
  .exact e.trans e'.symm
  .simp only[e8,e,bh,aE,dj]at h2;simp only[e8,e',aX]at h2';have:=h.ee l' b base'' tot'' h2';obtain⟨h2,_,_⟩:=h2;omega
  .simp only[e8,e',bh,aE,dj]at h2';simp only[e8,e,aX]at h2;have:=h.ee l b base' tot' h2;obtain⟨h2',_,_⟩:=h2';omega
  .simp only[e8,e,aX]at h2;simp only[e8,e',aX]at h2';simp only[jC,e,aX]at h1;simp only[jC,e',aX]at h1';exact h.inj l l' b base' tot' base'' tot'' h1 h1' h2 h2'
 .by_cases e:l=L
  .simp only[e8,e,bh,aE,dj]at h2;obtain⟨h2,_,_⟩:=h2;show b<w'.heap.size;omega
  .simp only[e8,e,aX]at h2;exact jr (h.ee l b base' tot' h2) hw.size
variable {P:Program}{w:World}
def oZ (h:P.cellsOf t≠0):∃i,P.info? t=some i/\i.size=P.cellsOf t:=by
 unfold Program.cellsOf at h⊢;cases hi:P.info? t with
 |none=>simp[hi]at h
 |some i=>exact⟨i,rfl,aC⟩
def dD (h:P.cellsOf t≠0):(sizeOf t).run P w=.ok (P.cellsOf t) w:=by
 obtain⟨i,hi,hs⟩:=oZ h;simp[sizeOf,typeInfo,hi,hs]
def v7 (h:(P.underlying t).isNone=false):(isAgg t).run P w=.ok (b7 P t) w:=by
 cases hu:P.underlying t with
 |none=>simp[hu]at h
 |some d=>unfold isAgg b7;rw[Sem.run_bind,run_underlying hu w];simp only[hu,Result.andThen];cases d<;>rfl
theorem Addr.AN (b o n:Nat):(⟨b,o,none⟩:Addr).add n=⟨b,o+n,none⟩:=by unfold Addr.add;split<;>simp_all
end
section
variable [cL]
section
variable {ν:List (Nat×Nat)}{x:X}{f:Nat->Option bj}{P:Program}
mutual
theorem nu:∀(v:Value) (d:D),fT v=some d->RD ν x v d
 | .bool b,d,h=>by simp[fT]at h;subst h;exact .bool b
 | .int k n,d,h=>by simp[fT]at h;subst h;exact .int k n
 | .string ⟨⟨s⟩⟩,d,h=>by
  simp only[fT]at h;split at h
  .rename_i hs;simp only[aE]at h;subst h;exact .str s (by simpa[maxLen,ByteArray.size]using hs)
  .cases h
 | .pointer none,d,h=>by simp[fT]at h;subst h;exact .nilp
 | .slice none 0 0,d,h=>by simp[fT]at h;subst h;exact .aL
 | .nilFunc,d,h=>by simp[fT]at h;subst h;exact .nilf
 | .map none,d,h=>by simp[fT]at h;subst h;exact .mpn
 | .agg ⟨cs⟩,d,h=>by
  simp only[fT]at h;split at h
  .rename_i hone;cases hc:ta cs with
   |none=>simp[hc]at h
   |some ds=>
    simp[hc]at h;subst h;obtain⟨hl,hr⟩:=uP cs ds hc;refine .agg ⟨cs⟩ ds (by simpa using hl) (λi hi=>?_) (λi hi=>by simpa using hr i hi);have:=rX cs hone i ae;simpa using this
  .cases h
 | .float _ _,d,h=>by simp[fT]at h
 | .complex _ _ _,d,h=>by simp[fT]at h
 | .pointer (some _),d,h=>by simp[fT]at h
 | .slice (some _) _ _,d,h=>by simp[fT]at h
 | .slice none (_+1) _,d,h=>by simp[fT]at h
 | .slice none 0 (_+1),d,h=>by simp[fT]at h
 | .map (some _),d,h=>by simp[fT]at h
 | .chan _,d,h=>by simp[fT]at h
 | .func _ _ _,d,h=>by simp[fT]at h
 | .iface _ _,d,h=>by simp[fT]at h
 | .tuple _,d,h=>by simp[fT]at h
theorem uP:∀(vs:List Value) (ds:List D),ta vs=some ds->vs.length=ds.length/\∀i,i<ds.length->RD ν x (vs.getD i undef) (ds.getD i .any)
 |[],ds,h=>by simp[ta]at h;subst h;simp
 |v::r,ds,h=>by
  simp only[ta]at h;split at h
  .rename_i d ds' h1 h2;simp only[aE]at h;subst h;have a:=nu v d h1;obtain⟨b1,b2⟩:=uP r ds' h2;refine⟨by simp[b1],λi hi=>?_⟩;cases i with
   |zero=>simpa using a
   |succ i=>simpa using b2 i oD
  .cases h
theorem rX:∀(vs:List Value),wO vs=true->∀i,i<vs.length->(vs.getD i undef).oneCell'=true
 |[],_,i,hi=>by simp at hi
 |v::r,h,i,hi=>by
  simp only[wO,aA]at h;cases i with
  |zero=>simp;cases v<;>simp_all[Value.oneCell']
  |succ i=>simpa using rX r h.2 i oD
end
def Bi (ν:List (Nat×Nat))(x:X)(f:Nat->Option bj)(L:Nat)(d:D)(r:Result Next):Prop:=
 ∃v x',(r=.ok (.value v) x'.w\/r=.ok .skip x'.w/\v=undef)/\Step x x'/\RD ν x' v d/\fF ν x' f/\∀l,l≠L->x'.β l=x.β l
def nU {L:Nat}{v:Value}{r:Result Next}(hs:fF ν x f)(hr:r=.ok (.value v) x.w)(hd:RD ν x v d):Bi ν x f L d r:=
 ⟨v,x,.inl hr,.refl x,hd,hs,λ_ _=>rfl⟩
def vt (C:CC)(defs:List (Option Nat))(J:Src->aY)(ev:Operand->Value)(x:X)(os:List Operand):Prop:=
 ∀o,o∈os->∀s,C.src defs o=some s->(J s).ok=true->RD C.ν x (ev o) (J s).d
def RD.jR {v:Value}{b:Bool}(h:RD ν x v (.bool b)):v=.bool b:=by cases h;rfl
def RD.dq {v:Value}{k:IntKind}{n:Int}(h:RD ν x v (.int k n)):v=.int k n:=by cases h;rfl
def RD.j3 {v:Value}{s:List UInt8}(h:RD ν x v (.str s)):v=.string ⟨⟨s⟩⟩/\s.length<=maxLen:=by cases h;exact⟨rfl,‹_›⟩
def RD.pick {b:Bool}{u v:Value}{d e:D}(h1:b=true->RD ν x u d)(h2:b=false->RD ν x v e):RD ν x (if b then u else v) (D.pick b d e):=by
 cases b
 .have:=h2 rfl;simp only[iJ,aX];cases d<;>cases e<;>simp only[D.pick,cond_false]<;>exact this
 .have:=h1 rfl;simp only[bh];cases d<;>cases e<;>simp only[D.pick,cond_true]<;>exact this
def Nf {op:BinOp}{k k':IntKind}{a b:Int}(hb:AO op (.int k a) (.int k' b)):
  ∃v,(binOp op t (.int k a) (.int k' b)).run P w=.ok v w/\RD ν x v (ER op (.int k a) (.int k' b)):=by
 cases op<;>simp only[AO]at hb<;>simp only[binOp,ER,ne_eq]
 case shl=>exact⟨_,by simp[Op.shift,show ¬b<0 by omega],.int _ _⟩
 case shr=>exact⟨_,by simp[Op.shift,show ¬b<0 by omega],.int _ _⟩
 case quo=>obtain⟨rfl,hb⟩:=hb;exact⟨_,by simp[Op.intDiv,hb],.int _ _⟩
 case rem=>obtain⟨rfl,hb⟩:=hb;exact⟨_,by simp[Op.intDiv,hb],.int _ _⟩
 case and=>subst hb;exact⟨_,by simp[Op.intBits],.int _ _⟩
 case or=>subst hb;exact⟨_,by simp[Op.intBits],.int _ _⟩
 case xor=>subst hb;exact⟨_,by simp[Op.intBits],.int _ _⟩
 case andNot=>subst hb;exact⟨_,by simp[Op.intBits],.int _ _⟩
 case add=>subst hb;exact⟨_,by simp[Op.intArith],.int _ _⟩
 case sub=>subst hb;exact⟨_,by simp[Op.intArith],.int _ _⟩
 case mul=>subst hb;exact⟨_,by simp[Op.intArith],.int _ _⟩
 case eql=>subst hb;exact⟨_,by simp[Op.intCmp],.bool _⟩
 case neq=>subst hb;exact⟨_,by simp[Op.intCmp],.bool _⟩
 case lss=>subst hb;exact⟨_,by simp[Op.intCmp],.bool _⟩
 case leq=>subst hb;exact⟨_,by simp[Op.intCmp],.bool _⟩
 case gtr=>subst hb;exact⟨_,by simp[Op.intCmp],.bool _⟩
 case geq=>subst hb;exact⟨_,by simp[Op.intCmp],.bool _⟩
def G2 (a b:List UInt8):(⟨⟨a⟩⟩:ByteArray)++⟨⟨b⟩⟩=⟨⟨a++b⟩⟩:=by
 have h:((⟨⟨a⟩⟩:ByteArray)++⟨⟨b⟩⟩).data=(⟨a++b⟩:Array UInt8):=by
  rw[ByteArray.data_append];simp
 exact aw ByteArray.mk h
def Ng {op:BinOp}{a b:List UInt8}(hb:AO op (.str a) (.str b)):
  ∃v,(binOp op t (.string ⟨⟨a⟩⟩) (.string ⟨⟨b⟩⟩)).run P w=.ok v w/\RD ν x v (ER op (.str a) (.str b)):=by
 have hs:∀l:List UInt8,(⟨⟨l⟩⟩:ByteArray).size=l.length:=λ_=>rfl
 cases op<;>simp only[AO]at hb<;>simp only[binOp,ER]
 case add=>
  refine⟨.string ⟨⟨a++b⟩⟩, ?_,.str _ (by simp[maxLen];omega)⟩;have:¬(((⟨⟨a⟩⟩:ByteArray).size+(⟨⟨b⟩⟩:ByteArray).size:Nat):Int)>IntKind.i64.max:=by
   rw[hs,hs];simp only[IntKind.max,IntKind.signed,IntKind.bits,bh];omega
  simp only[Op.stringOp,this,aX,Sem.run_pure,G2]
 all_goals
  refine⟨_,by simp only[Op.stringOp,Sem.run_pure];rfl, ?_⟩;simp only[ByteArray.toList_eq];exact .bool _
def oK (op:BinOp)(t:TypeId)(p q:Operand){u v:Value}(h:(∀cs,u≠.agg cs)/\u≠.nilIface)(w:World):(eqGuard op t p q u v).run P w=.ok () w:=by
 obtain⟨h1,h2⟩:=h;unfold eqGuard;cases op<;>simp<;>(split<;>first|rfl|simp_all)
theorem eg {α:Type}(l:List α)(o n:Nat)(d:α)(j:Nat)(hj:j<n):((l.drop o).take n).getD j d=l.getD (o+j) d:=by
 grind
def ie {α:Type}(l:List α)(o n:Nat)(h:o+n<=l.length):((l.drop o).take n).length=n:=by
 simp;omega
theorem bO (cs:Array Value)(i:Nat)(d:Value):cs.toList.getD i d=cs.getD i d:=by
 simp[List.getD,Array.getD];split<;>simp_all
def p8 {cs:Array Value}{ds:List D}{off n:Nat}{ag:Bool}(hv:RD ν x (.agg cs) (.agg ds))(ht:P.cellsOf t≠0)(hu:(P.underlying t).isNone=false)(hn:n=P.cellsOf t)(hag:ag=b7 P t)(hle:off+n<=ds.length)(h1:ag=false->n=1):
  ∃v,(part t cs off).run P w=.ok v w/\RD ν x v (cut ds off n ag):=by
 cases hv with
 |agg _ _ hl hone h=>
  unfold part;rw[Sem.run_bind,v7 hu];subst hag;cases hb:b7 P t
  .have hn1:=h1 (by rw[hb]);have hlt:off<cs.size:=ae;refine⟨cs.getD off undef, ?_, ?_⟩
   .simp[Result.andThen,Array.getElem?_eq_getElem hlt,Array.getD,hlt]
   .simp only[cut,cond_false];exact h off ae
  .refine⟨.agg (cs.extract off (off+n)), ?_, ?_⟩
   .simp[Result.andThen,dD ht,hn]
   .simp only[cut,cond_true];refine .agg _ _ ?_ ?_ ?_
    .simp;omega
    .intro i hi;simp at hi;have:=hone (off+i) ae;rw[<-this];congr 1;simp[Array.getD,show off+i<cs.size by omega,show i<min (off+n) cs.size-off by omega]
    .intro i hi;simp at hi;rw[eg _ _ _ _ _ ae];have:=h (off+i) ae;have e:(cs.extract off (off+n)).getD i undef=cs.getD (off+i) undef:=by
      simp[Array.getD,show off+i<cs.size by omega,show i<min (off+n) cs.size-off by omega]
     rw[e];exact this
end
end
section
variable [cL]
section
variable {x:X}{f:Nat->Option bj}{C:CC}{defs:List (Option Nat)}{J:Src->aY}{ev:Operand->Value}{Y:Ctx}{m:List (Nat×bj)}{L:Nat}
def iI {os':List Operand}(hρ:vt C defs J ev x os'):∀(os:List Operand) (ss:List Src),(∀o∈os,o∈os')->C.wh defs os=some ss->BB J ss->
  os.length=ss.length/\(iS J ss).length=os.length/\∀i,i<(iS J ss).length->RD C.ν x ((os.map ev).getD i undef) ((iS J ss).getD i .any)
 |[],ss,_,h,_=>by simp[CC.wh]at h;subst h;simp[iS]
 |o::r,ss,hm,h,hk=>by
  simp only[CC.wh]at h;split at h
  .rename_i a l h1 h2;simp only[aE]at h;subst h;simp only[BB]at hk;obtain⟨b1,b2,b3⟩:=iI hρ r l (λo ho=>hm o (.tail _ ho)) h2 hk.2;refine⟨by simp[b1],by simp[iS,b2],λi hi=>?_⟩;cases i with
   |zero=>simpa[iS]using hρ o (hm o (.head _)) a h1 hk.1
   |succ i=>simpa[iS]using b3 i (by simpa[iS]using hi)
  .cases h
theorem Cs (off:Nat):∀(new:List Value) (st:Nat) (acc:Array Value),off+st+new.length<=acc.size->
  ((new.zipIdx st).foldl (λcs (c,j)=>cs.setIfInBounds (off+j) c) acc).size=acc.size/\
  ∀q,((new.zipIdx st).foldl (λcs (c,j)=>cs.setIfInBounds (off+j) c) acc)[q]? =if off+st<=q/\q<off+st+new.length then new[q-(off+st)]? else acc[q]?
 |[],st,acc,_=>⟨aC,λq=>fh⟩
 |c::r,st,acc,hb=>by
  simp only[bD]at hb;obtain⟨h1,h2⟩:=Cs off r (st+1) (acc.setIfInBounds (off+st) c) fh;refine⟨by simpa[List.zipIdx_cons]using h1,λq=>?_⟩;rw[List.zipIdx_cons,List.foldl_cons,h2 q]
  grind
def sy {os':List Operand}(hρ:vt C defs J ev x os')(place:Nat->Option (Nat×Nat))(len:Nat):∀(ps:List (Nat×Operand)) (ss:List (Nat×Nat×Src)),
  (∀p∈ps,p.2∈os')->C.parts defs place ps=some ss->zQ J len ss->∀(cs:Array Value) (ds:List D),cs.size=len->RD C.ν x (.agg cs) (.agg ds)->
  ∃cs',Instr.fill place cs (ps.map fun(i,o)=>(i,ev o))=some cs'/\RD C.ν x (.agg cs') (.agg (Cf J ds ss))
 |[],ss,_,h,_,cs,ds,_,hr=>by simp[CC.parts]at h;subst h;exact⟨cs,by simp[Instr.fill],by simpa[Cf]using hr⟩
 |(i,o)::r,ss,hm,h,hk,cs,ds,hlen,hr=>by
  simp only[CC.parts]at h;split at h
  .rename_i off n s l h1 h2 h3;split at h
   .cases h
   rename_i hn0;simp only[aE]at h;subst h;simp only[zQ]at hk;obtain⟨k1,k2,k3,k4⟩:=hk;have hn:0<n:=ae;have hv:=hρ o (hm _ (.head _)) s h2 k1;obtain⟨c1,c2⟩:=hv.cells ae;have hsz:(ev o).cells.size=n:=ae;cases hr with
   |agg _ _ hl hone hh=>
   let cs1:Array Value:=((ev o).cells.toList.zipIdx 0).foldl (λcs (c,j)=>cs.setIfInBounds (off+j) c) cs
   have harr:(ev o).cells.zipIdx.foldl (λcs (c,j)=>cs.setIfInBounds (off+j) c) cs=cs1:=by
    rw[<-Array.foldl_toList];simp[cs1]
   have hcs1:=harr;obtain⟨hsz1,hgq⟩:=Cs off (ev o).cells.toList 0 cs fh;have hget:∀q,q<cs.size->cs1.getD q undef=if q<off then cs.getD q undef else if q<off+n then(ev o).cells.getD (q-off) undef else cs.getD q undef:=by
    intro q hq;have:=hgq q;rw[<-bO,<-bO cs,<-bO (ev o).cells];simp only[List.getD,Array.getElem?_toList];rw[show cs1[q]? =_ from this];simp only[Array.length_toList,hsz,Nat.add_zero];by_cases q1:q<off
    .rw[ak q1,ah ae]
    .rw[ah q1];by_cases q2:q<off+n
     .rw[ak q2,ak ae];simp
     .rw[ah q2,ah ae]
   have hsz1:cs1.size=cs.size:=hsz1;have hdlen:(over ds off (J s).d.cells).length=ds.length:=by simp[over];omega
   have hdget:∀q,q<ds.length->(over ds off (J s).d.cells).getD q .any=if q<off then ds.getD q .any else if q<off+n then(J s).d.cells.getD (q-off) .any else ds.getD q .any:=by
    intro q hq;simp only[over,List.getD,List.getElem?_append,dF];by_cases q1:q<off
    .rw[ak ae,ak q1];simp[List.getElem?_take,q1]
    .rw[ah ae,ah q1,show q-min off ds.length=q-off by omega];by_cases q2:q<off+n
     .rw[ak q2,ak ae]
     .rw[ah q2,ah ae];simp only[List.getElem?_drop];congr 3;omega
   have hr1:RD C.ν x (.agg cs1) (.agg (over ds off (J s).d.cells)):=by
    refine .agg _ _ ae (λq hq=>?_) (λq hq=>?_)
    .rw[hdlen]at hq;rw[hget q ae];split
     .exact hone q hq
     .split
      .exact(c2 (q-off) ae).1
      .exact hone q hq
    .rw[hdlen]at hq;rw[hget q ae,hdget q hq];split
     .exact hh q hq
     .split
      .exact(c2 (q-off) ae).2
      .exact hh q hq
   obtain⟨cs',g1,g2⟩:=sy hρ place len r l (λp hp=>hm p (.tail _ hp)) h3 k4 cs1 _ ae hr1;refine⟨cs', ?_,by simpa[Cf]using g2⟩;simp only[List.map_cons,Instr.fill,h1];rw[ah (by simp[hsz];omega),hcs1];exact g1
  .cases h
end
section
variable {ν:List (Nat×Nat)}{x:X}{P:Program}
def jx:∀(ks:List CK) (ds:List D),fH ks ds->ds.length=ks.length
 |[],[],_=>rfl
 |[],_::_,h=>by simp[fH]at h
 |_::_,[],h=>by simp[fH]at h
 |c::r,d::ds,h=>by have:=jx r ds (by simp[fH]at h;exact h.2);simp;omega
theorem kK:∀(a b:List CK) (ds:List D),fH (a++b) ds->fH a (ds.take a.length)/\fH b (ds.drop a.length)
 |[],b,ds,h=>by simpa[fH]using h
 |c::r,b,[],h=>by simp[fH]at h
 |c::r,b,d::ds,h=>by
  simp only[sU,fH]at h;obtain⟨h1,h2⟩:=kK r b ds h.2
  grind [fH]
def vB:∀(n:Nat) (ds es:List D),ds.length=es.length->ib ds es=(ib (ds.take n) (es.take n)&&ib (ds.drop n) (es.drop n))
 |0,ds,es,_=>by simp[ib]
 |n+1,[],[],_=>by simp[ib]
 |n+1,[],_::_,h=>by simp at h
 |n+1,_::_,[],h=>by simp at h
 |n+1,d::ds,e::es,h=>by
  simp only[ib,List.take_succ_cons,List.drop_succ_cons];rw[vB n ds es rj,Bool.and_assoc]
def Lq {c:CK}(h:c.fits d):d.cells=[d]/\d.isAgg=false:=by
 cases c<;>cases d<;>simp_all[CK.fits,D.cells,D.isAgg]
def mi {c:CK}(h:fH [c] d.cells)(ha:d.isAgg=false):c.fits d:=by
 cases d<;>simp_all[D.cells,D.isAgg,fH]
def tc {ds:List D}{off n:Nat}{ag:Bool}{ks:List CK}(h:fH ks ((ds.drop off).take n))(hn:ag=false->n=1)(hle:off+n<=ds.length):
  (cut ds off n ag).cells=(ds.drop off).take n/\(cut ds off n ag).isAgg=ag:=by
 cases ag
 .have:=hn rfl;subst this;have hlt:off<ds.length:=ae;have e:(ds.drop off).take 1=[ds.getD off .any]:=by
   rw[eH hlt];simp[List.getD,hlt,List.take]
  rw[e]at h⊢;cases ks with
  |nil=>simp[fH]at h
  |cons c r=>
   simp only[fH]at h;exact Lq h.1
 .exact⟨rfl,rfl⟩
def NZ (ν:List (Nat×Nat))(x:X)(P:Program)(n:Nat)(t:TypeId)(ks:List CK):Prop:=
 ∀u v d e (w:World),RD ν x u d->RD ν x v e->d.isAgg=b7 P t->e.isAgg=b7 P t->fH ks d.cells->fH ks e.cells->
  (Op.equalIn n t u v).run P w=.ok (ib d.cells e.cells) w
theorem CI {n:Nat}{ks:List CK}(h:hR P n t=some ks)(ha:b7 P t=false):ks.length=1:=by
 cases n with
 |zero=>simp[hR]at h
 |succ n=>
  grind [hR,b7]
def wW (n depth:Nat)(ih:∀t ks,hR P depth t=some ks->NZ ν x P n t ks)(xs ys:Array Value)(ds es:List D)(h1:RD ν x (.agg xs) (.agg ds))(h2:RD ν x (.agg ys) (.agg es))(w:World):
  ∀(fs:List Field) (off:Nat) (ks:List CK),mw P (λt=>hR P depth t) off fs=some ks->off<=ds.length->off<=es.length->fH ks (ds.drop off)->fH ks (es.drop off)->
  (Op.eqFields n xs ys fs).run P w=.ok (ib (ds.drop off) (es.drop off)) w
 |[],off,ks,hk,_,_,f1,f2=>by
  simp[mw]at hk;subst hk;have a:=jx _ _ f1;have b:=jx _ _ f2;have a':ds.drop off=[]:=lV a;have b':es.drop off=[]:=lV b;rw[a',b'];simp[Op.eqFields,ib]
 |f::fs,off,ks,hk,l1,l2,f1,f2=>by
  simp only[mw]at hk;split at hk
  .cases hk
  .rename_i hne;have hname:f.name≠ "_" :=λe=>hne (.inl e)
   have hoff:f.offset=off:=by
    rcases Nat.decEq f.offset off with h|h
    .exact absurd (.inr h) hne
    .exact h
   split at hk
   .rename_i a b ha hb;split at hk
    .rename_i hlen;obtain⟨hlen,hnz,hund⟩:=hlen;simp only[aE]at hk;subst hk;obtain⟨fa1,fb1⟩:=kK a b _ f1;obtain⟨fa2,fb2⟩:=kK a b _ f2;have la:=jx _ _ f1;have lb:=jx _ _ f2;simp only[jO,cu]at la lb;have hag:b7 P f.type=false->P.cellsOf f.type=1:=λe=>by rw[<-hlen];exact CI ha e
     obtain⟨u,r1,r2⟩:=p8 (P:=P) (off:=off) (n:=P.cellsOf f.type) (ag:=b7 P f.type) w h1 ae hund rfl rfl ae hag;obtain⟨v,s1,s2⟩:=p8 (P:=P) (off:=off) (n:=P.cellsOf f.type) (ag:=b7 P f.type) w h2 ae hund rfl rfl ae hag;rw[hlen]at fa1 fa2 fb1 fb2;obtain⟨c1,c2⟩:=tc (ag:=b7 P f.type) fa1 hag ae;obtain⟨d1,d2⟩:=tc (ag:=b7 P f.type) fa2 hag ae;have he:=ih f.type a ha u v _ _ w r2 s2 c2 d2 (by rw[c1];exact fa1) (by rw[d1];exact fa2);rw[List.drop_drop]at fb1 fb2;have hrest:=wW n depth ih xs ys ds es h1 h2 w fs (off+P.cellsOf f.type) b hb ae ae fb1 fb2;rw[vB (P.cellsOf f.type) (ds.drop off) (es.drop off) fh];simp only[Op.eqFields,hname,ne_eq,not_false_eq_true,bh,Sem.run_bind,hoff,r1,s1,he,Result.andThen_ok,Sem.run_ite,hrest];rw[c1,d1,List.drop_drop,List.drop_drop];cases ib ((ds.drop off).take (P.cellsOf f.type)) ((es.drop off).take (P.cellsOf f.type))<;>simp
    .cases hk
   .cases hk
def zN (n:Nat)(e:TypeId)(l:List CK)(ih:NZ ν x P n e l)(hc:l.length=P.cellsOf e)(hnz:l.length≠0)(hund:(P.underlying e).isNone=false)(hag:b7 P e=false->P.cellsOf e=1)
  (xs ys:Array Value) (ds es:List D) (h1:RD ν x (.agg xs) (.agg ds)) (h2:RD ν x (.agg ys) (.agg es)) (w:World):
  ∀(len j:Nat),j*P.cellsOf e<=ds.length->j*P.cellsOf e<=es.length->fH (List.replicate len l).flatten (ds.drop (j*P.cellsOf e))->fH (List.replicate len l).flatten (es.drop (j*P.cellsOf e))->
  (Op.eqItems n e (P.cellsOf e) xs ys (List.range' j len)).run P w=.ok (ib (ds.drop (j*P.cellsOf e)) (es.drop (j*P.cellsOf e))) w
 |0,j,_,_,f1,f2=>by
  have a:=jx _ _ f1;have b:=jx _ _ f2;have a':ds.drop (j*P.cellsOf e)=[]:=lV (by simpa using a);have b':es.drop (j*P.cellsOf e)=[]:=lV (by simpa using b);rw[a',b'];simp[Op.eqItems,ib]
 |len+1,j,l1,l2,f1,f2=>by
  simp only[List.replicate_succ,List.flatten_cons]at f1 f2;obtain⟨fa1,fb1⟩:=kK _ _ _ f1;obtain⟨fa2,fb2⟩:=kK _ _ _ f2;have la:=jx _ _ f1;have lb:=jx _ _ f2;simp only[jO,cu]at la lb;have hj:(j+1)*P.cellsOf e=j*P.cellsOf e+P.cellsOf e:=Nat.succ_mul _ _;obtain⟨u,r1,r2⟩:=p8 (P:=P) (off:=j*P.cellsOf e) (n:=P.cellsOf e) (ag:=b7 P e) w h1 ae hund rfl rfl ae hag;obtain⟨v,s1,s2⟩:=p8 (P:=P) (off:=j*P.cellsOf e) (n:=P.cellsOf e) (ag:=b7 P e) w h2 ae hund rfl rfl ae hag;rw[hc]at fa1 fa2 fb1 fb2;obtain⟨c1,c2⟩:=tc (ag:=b7 P e) fa1 hag ae;obtain⟨d1,d2⟩:=tc (ag:=b7 P e) fa2 hag ae;have he:=ih u v _ _ w r2 s2 c2 d2 (by rw[c1];exact fa1) (by rw[d1];exact fa2);rw[List.drop_drop,<-hj]at fb1 fb2;have hrest:=zN n e l ih hc hnz hund hag xs ys ds es h1 h2 w len (j+1) ae ae fb1 fb2;rw[vB (P.cellsOf e) (ds.drop (j*P.cellsOf e)) (es.drop (j*P.cellsOf e)) fh];simp only[List.range'_succ,Op.eqItems,Sem.run_bind,r1,s1,he,Result.andThen_ok,Sem.run_ite,hrest];rw[c1,d1,List.drop_drop,List.drop_drop,<-hj];cases ib ((ds.drop (j*P.cellsOf e)).take (P.cellsOf e)) ((es.drop (j*P.cellsOf e)).take (P.cellsOf e))<;>simp
def r7:∀(depth:Nat) (t:TypeId) (ks:List CK),hR P depth t=some ks->∀n,depth<=n->NZ ν x P n t ks
 |0,t,ks,h,_,_=>by simp[hR]at h
 |depth+1,t,ks,h,n,hn=>by
  obtain⟨n,rfl⟩:∃k,n=k+1:=⟨n-1,ae⟩
  intro u v d e w r1 r2 a1 a2 f1 f2;simp only[hR]at h;split at h
  .rename_i hu;simp only[aE]at h;subst h;have hag:b7 P t=false:=by simp[b7,hu]
   rw[hag]at a1 a2;have g1:=mi f1 a1;have g2:=mi f2 a2;cases d<;>simp only[CK.fits]at g1;cases e<;>simp only[CK.fits]at g2;rw[r1.jR,r2.jR,run_equalIn_bool w n t _ _ hu];simp[D.cells,ib,eqD]
  .rename_i k hu;simp only[aE]at h;subst h;have hag:b7 P t=false:=by simp[b7,hu]
   rw[hag]at a1 a2;have g1:=mi f1 a1;have g2:=mi f2 a2;cases d<;>simp only[CK.fits]at g1;cases e<;>simp only[CK.fits]at g2;subst g1;subst g2;rw[r1.dq,r2.dq,run_equalIn_int w n t _ _ _ _ hu];simp[D.cells,ib,eqD]
  .rename_i hu;simp only[aE]at h;subst h;have hag:b7 P t=false:=by simp[b7,hu]
   rw[hag]at a1 a2;have g1:=mi f1 a1;have g2:=mi f2 a2;cases d<;>simp only[CK.fits]at g1;cases e<;>simp only[CK.fits]at g2;rw[r1.j3.1,r2.j3.1,run_equalIn_string w n t _ _ hu];simp[D.cells,ib,eqD,ByteArray.toList_eq]
  .rename_i fs hu;split at h
   .cases h
   .rename_i hst;have hag:b7 P t=true:=by simp[b7,hu]
    rw[hag]at a1 a2;cases d<;>simp only[D.isAgg,iJ]at a1;cases e<;>simp only[D.isAgg,iJ]at a2;have hf:P.fieldsOf t=fs:=by simp[Program.fieldsOf,hu]
    cases r1 with
    |agg xs _ p1 p2 p3=>
     cases r2 with
     |agg ys _ q1 q2 q3=>
      rw[run_equalIn_struct w n t xs ys (by rw[hf];exact hu) (by simpa using hst),hf];have:=wW (ν:=ν) (x:=x) n depth (λt ks hk=>r7 depth t ks hk n ae) xs ys _ _ (.agg xs _ p1 p2 p3) (.agg ys _ q1 q2 q3) w fs.toList 0 ks h aC aC (by simpa[D.cells]using f1) (by simpa[D.cells]using f2);simpa[D.cells]using this
  .rename_i len e' hu;split at h
   .rename_i l hl;split at h
    .rename_i hc;obtain⟨hc,hnz,hund⟩:=hc;simp only[aE]at h;subst h;have hag:b7 P t=true:=by simp[b7,hu]
     rw[hag]at a1 a2;cases d<;>simp only[D.isAgg,iJ]at a1;cases e<;>simp only[D.isAgg,iJ]at a2;obtain⟨i,hi,_⟩:=oZ (P:=P) (t:=e') ae;cases r1 with
     |agg xs _ p1 p2 p3=>
      cases r2 with
      |agg ys _ q1 q2 q3=>
       rw[run_equalIn_array w n xs ys hu hi,List.range_eq_range'];have:=zN (ν:=ν) (x:=x) n e' l (r7 depth e' l hl n ae) hc hnz hund (λe=>by rw[<-hc];exact CI hl e) xs ys _ _ (.agg xs _ p1 p2 p3) (.agg ys _ q1 q2 q3) w len 0 aC aC (by simpa[D.cells]using f1) (by simpa[D.cells]using f2);simpa[D.cells]using this
    .cases h
   .cases h
  .cases h
end
end
end Go.Abs
