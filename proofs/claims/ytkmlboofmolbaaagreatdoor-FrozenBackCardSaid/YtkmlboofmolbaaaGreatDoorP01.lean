/- A part of the proofs. -/
import Derived.Attr
import Derived.ChangeKeysEq
import Derived.Deep.AppendSrc
import Derived.KernelRfl
import Derived.Test.YtkmlboofmolbaaaGreatDoorProg
import Derived.WalkKit
import GoSem.Dispatch
import GoSem.Step
set_option linter.all false
set_option maxRecDepth 60000
set_option maxHeartbeats 2000000
namespace Go.Abs
def bD:=@List.length_cons
def b9:=@List.length_nil
def cv:=@decide_eq_false_iff_not
def aW:=@decide_eq_true_eq
def aB:=@Option.some.injEq
def ah:=@if_neg
def ak:=@if_pos
def aD:=@Bool.and_eq_true
def cn:=@List.length_append
def df:=@Bool.not_eq_false'
def cz:=@Bool.not_eq_true'
def aO:=@Nat.le_refl
def aV:=@Option.some.inj
def bg:=@List.length_map
def aZ:=@if_false
def bh:=@if_true
def dI:=@List.drop_zero
def bo:=@decide_eq_true
def cD:=@Nat.zero_add
def eW:=@Bool.or_eq_false_iff
def di:=@List.forall_mem_cons
def ed:=@Bool.and_eq_false_iff
def cX:=@Option.map_eq_some_iff
def bG:=@decide_eq_false
def dC:=@Bool.or_eq_true
def gK:=@List.take_of_length_le
def ek:=@List.length_take
def fm:=@List.append_assoc
def aC:=@List.mem_singleton
def iw:=@Bool.false_eq_true
def c9:=@Prod.mk.injEq
def fH:=@Nat.mul_le_mul_right
def eX:=@Nat.le_trans
def jd:=@Nat.lt_of_lt_of_le
def qM:=@List.nil_append
def lH:=@List.eq_nil_of_length_eq_zero
def eY:=@List.drop_eq_getElem_cons
def sD:=@List.cons_append
def bF:=@List.mem_cons
def ee:=@true_and
def dx:=@and_true
def ix:=@false_and
def iy:=@and_false
def iK:=@and_self
def dc:=@Eq.trans
def aw:=@congrArg
def j2:=@List.drop_eq_nil_of_le
def fZ:=@List.append_nil
def jA:=@List.length_drop
def cP:=@List.not_mem_nil
def oZ:=@UInt8.toNat_inj
def iL:=@List.getD_cons_zero
def ew:=@Bool.true_and
def gL:=@Bool.and_true
def bW:=@List.mem_map
def sE:=@List.cons.injEq
def ZY:=@List.length_eq_zero_iff
def D6:=@List.mem_of_mem_take
def lI:=@decide_eq_decide
def dQ:=@Nat.lt_or_ge
def ae {p:Prop}(h:p:=by omega):p:=h
def eo {p:Prop}(h:p:=by simp only[List.length_cons,List.length_nil];omega):p:=h
def aU {p:Prop}(h:p:=by decide):p:=h
def xX {p:Prop}(h:p:=by kernel_rfl):p:=h
def aF {p:Prop}(h:p:=by simp):p:=h
def mz {p:Prop}(h:p:=by dsimp only;omega):p:=h
def fo {p:Prop}(h:p:=by simp;omega):p:=h
def cY {p:Prop}(h:p:=by exact rfl):p:=h
def lj {p:Prop}(h:p:=by simp only[x7,iW,ow,Ax,Em,cW,Nat.reduceEqDiff,bh,aZ,iK,ee,dx,ix,iy,cD,bg,aO,dI,bR,reduceCtorEq,bD,b9,Nat.reduceAdd,Nat.reduceLeDiff,wH,bj.fz,Key.fz,Rec.fz,Env.fz,cr.fz,cZ.fz,gO.fz,mA.fz,je.fz,B4,List.take_succ_cons,List.take_zero];exact rfl):p:=h
def eD {p:Prop}(h:p:=by repeat(first|exact fq.nil|refine fq.un ?_|refine fq.eq ai ?_|refine fq.nl ai ai ?_|refine fq.ni (Or.inr ⟨_,_,_,rfl⟩) ?_)):p:=h
def m5 {p:Prop}(h:p:=by simp only[x7,iW,ow,Ax,Em,cW,Nat.reduceEqDiff,bh,aZ,iK,ee,dx,ix,iy,cD,bg,aO,dI,bR,reduceCtorEq,bD,b9,Nat.reduceAdd,Nat.reduceLeDiff,ah6,ace,Wx,acd];exact rfl):p:=h
def cg {p:Prop}(h:p:=by first|omega|(simp at hf;omega)):p:=h
def jy {p:Prop}(h:p:=by first|assumption|omega|(grind [Cut.sm,Span.sm,cr.sm,ze,aq,Want.sm,en.sm,cL.sm,bT.sm])):p:=h
def aaf {p:Prop}(h:p:=by repeat(first|exact bm.nil|refine bm.AA ai ai dS ?_|refine bm.Nj ai ai ai ?_|refine bm.Nk ai ai ai ai ?_|refine bm.AA ai ai (by exact iZ _ _) ?_|refine bm.nl 3 ai ai ai (by first|exact rfl|exact iZ _ _|exact b7 (fun _=>rfl) _) ?_|refine bm.eq 3 ai ai ai ?_|refine bm.nl 5 ai ai ai (by first|exact rfl|exact iZ _ _|exact b7 (fun _=>rfl) _) ?_|refine bm.eq 5 ai ai ai ?_|refine bm.nl 6 ai ai ai (by first|exact rfl|exact iZ _ _|exact b7 (fun _=>rfl) _) ?_|refine bm.eq 6 ai ai ai ?_|refine bm.nl 10 ai ai ai (by first|exact rfl|exact iZ _ _|exact b7 (fun _=>rfl) _) ?_|refine bm.eq 10 ai ai ai ?_)):p:=h
def Gf {p:Prop}(h:p:=by simp only[x7,iW,ow,Ax,Em,cW,Nat.reduceEqDiff,bh,aZ,iK,ee,dx,ix,iy,cD,bg,aO,dI,bR,reduceCtorEq,bD,b9,Nat.reduceAdd,Nat.reduceLeDiff,wH,bj.fz,Key.fz,Rec.fz,Env.fz,cr.fz,cZ.fz,gO.fz,mA.fz,je.fz,B4,List.take_succ_cons,List.take_zero,Bt,eG,nb,na];exact rfl):p:=h
def Am {p:Prop}(h:p:=by simp only[x7,iW,ow,Ax,Em,cW,Nat.reduceEqDiff,bh,aZ,iK,ee,dx,ix,iy,cD,bg,aO,dI,bR,reduceCtorEq,bD,b9,Nat.reduceAdd,Nat.reduceLeDiff,List.take_succ_cons,List.take_zero];exact rfl):p:=h
def dm {p:Prop}(h:p:=by simp[ho,Op.operands,Call.operands]):p:=h
def kR {p:Prop}(h:p:=by first|omega|(simp only[Gs.aR];omega)|(simp only[oM,Gs.aR]at*;omega)):p:=h
def qN {p:Prop}(h:p:=by first|exact rfl|exact iZ _ _|exact b7 (fun _=>rfl) _):p:=h
def JY {p:Prop}(h:p:=by simp only[x7,iW,ow,Ax,Em,cW,Nat.reduceEqDiff,bh,aZ,iK,ee,dx,ix,iy,cD,bg,aO,dI,bR,reduceCtorEq,bD,b9,Nat.reduceAdd,Nat.reduceLeDiff,aiG,acg,QO,NN];exact rfl):p:=h
def y8 {p:Prop}(h:p:=by repeat(first|exact bm.nil|refine bm.AA ai ai dS ?_|refine bm.Nj ai ai ai ?_|refine bm.Nk ai ai ai ai ?_|refine bm.mp 1 ai ai ai ?_)):p:=h
def J0 {p:Prop}(h:p:=by simp only[x7,iW,ow,Ax,Em,cW,Nat.reduceEqDiff,bh,aZ,iK,ee,dx,ix,iy,cD,bg,aO,dI,bR,reduceCtorEq,bD,b9,Nat.reduceAdd,Nat.reduceLeDiff,acf,QO];exact rfl):p:=h
def J1 {p:Prop}(h:p:=by simp only[x7,iW,ow,Ax,Em,cW,Nat.reduceEqDiff,bh,aZ,iK,ee,dx,ix,iy,cD,bg,aO,dI,bR,reduceCtorEq,bD,b9,Nat.reduceAdd,Nat.reduceLeDiff,ach,je.fz];exact rfl):p:=h
def sF {p:Prop}(h:p:=by refine⟨?_, ?_, ?_⟩<;>first|exact rfl|(rw[nb];exact rfl)|(rw[na];exact rfl)):p:=h
def J2 {p:Prop}(h:p:=by simp only[x7,iW,ow,Ax,Em,cW,Nat.reduceEqDiff,bh,aZ,iK,ee,dx,ix,iy,cD,bg,aO,dI,bR,reduceCtorEq,bD,b9,Nat.reduceAdd,Nat.reduceLeDiff,Wv];exact rfl):p:=h
def gM {p:Prop}(h:p:=by simp[ax.ey,hx,hy,kx hf,ky hf,Ar]):p:=h
def J3 {p:Prop}(h:p:=by repeat(first|exact fq.nil|refine fq.un ?_|refine fq.eq ai ?_|refine fq.nl ai ai ?_|refine fq.ni (Or.inr ⟨_,_,_,rfl⟩) ?_|refine fq.nl (aw (D.int .i64) (by push_cast;omega)) ai ?_)):p:=h
def ZZ {p:Prop}(h:p:=by simp only[x7,iW,ow,Ax,Em,cW,Nat.reduceEqDiff,bh,aZ,iK,ee,dx,ix,iy,cD,bg,aO,dI,bR,reduceCtorEq,bD,b9,Nat.reduceAdd,Nat.reduceLeDiff,wH,bj.fz,Key.fz,Rec.fz,Env.fz,cr.fz,cZ.fz,gO.fz,mA.fz,je.fz,B4,List.take_succ_cons,List.take_zero,Bt,eG,nb,na,NN,akq];exact rfl):p:=h
def Z0 {p:Prop}(h:p:=by simp only[x7,iW,ow,Ax,Em,cW,Nat.reduceEqDiff,bh,aZ,iK,ee,dx,ix,iy,cD,bg,aO,dI,bR,reduceCtorEq,bD,b9,Nat.reduceAdd,Nat.reduceLeDiff,wH,bj.fz,Key.fz,Rec.fz,Env.fz,cr.fz,cZ.fz,gO.fz,mA.fz,je.fz,B4,List.take_succ_cons,List.take_zero,Bt,eG,nb,na,NN];exact rfl):p:=h
def Z1 {p:Prop}(h:p:=by simp only[x7,iW,ow,Ax,Em,cW,Nat.reduceEqDiff,bh,aZ,iK,ee,dx,ix,iy,cD,bg,aO,dI,bR,reduceCtorEq,bD,b9,Nat.reduceAdd,Nat.reduceLeDiff,wH,bj.fz,Key.fz,Rec.fz,Env.fz,cr.fz,cZ.fz,gO.fz,mA.fz,je.fz,B4,List.take_succ_cons,List.take_zero,Bt,eG];exact rfl):p:=h
def Z2 {p:Prop}(h:p:=by rw[show oV g nm v most=(⟨nm,v,(nS nm g.aR (g.val (most+1)).toNat).1,(ez (nS nm g.aR (g.val (most+1)).toNat).2 nm).1,(kZ (ez (nS nm g.aR (g.val (most+1)).toNat).2 nm).2 (nS nm g.aR (g.val (most+1)).toNat).1).1⟩,(kZ (ez (nS nm g.aR (g.val (most+1)).toNat).2 nm).2 (nS nm g.aR (g.val (most+1)).toNat).1).2)from rfl,hF];exact rfl):p:=h
def PX {p:Prop}(h:p:=by repeat(first|exact bm.nil|refine bm.AA ai ai dS ?_|refine bm.Nj ai ai ai ?_|refine bm.Nk ai ai ai ai ?_|refine bm.nl 0 ai ai ai dS ?_|refine bm.nl 1 ai ai ai dS ?_)):p:=h
def lJ {p:Prop}(h:p:=by simp only[bD,b9,sD,qM];omega):p:=h
def mM {p:Prop}(h:p:=by first|omega|(simp only[cn,b9];omega)):p:=h
def vP {p:Prop}(h:p:=by have hf:0<=c[j]! :=(by simpa only[ew,beq_iff_eq,aW]using hf);omega):p:=h
def PY {p:Prop}(h:p:=by rcases hg2 with h|⟨_,_,_,h,_⟩|⟨_,_,h,_⟩|⟨_,_,_,_,h,_⟩|⟨_,_,_,h|h,_⟩|⟨_,_,_,_,h,_⟩;exact h;cases h;cases h;cases h;cases h;cases h;cases h):p:=h
def PZ {p:Prop}(h:p:=by have hf2:0<=w.us[j]!.cands[k]!.sh/\w.us[j]!.cands[k]!.sh<(shop.length:Int):=(by revert hf;generalize w.us[j]!.cands[k]!.sh=z;intro hf;simp at hf;omega);omega):p:=h
def J4 {p:Prop}(h:p:=by simpa only[ew,beq_iff_eq,aW]using hf):p:=h
def P0 {p:Prop}(h:p:=by refine bm.nl 0 ai ai ai dS ?_;refine bm.nl 1 ai ai ai dS ?_;refine bm.eq 2 ai ai ai ?_;refine bm.nl 3 ai ai ai dS ?_;exact bm.nil):p:=h
def Z3 {p:Prop}(h:p:=by simp only[x7,iW,ow,Ax,Em,cW,Nat.reduceEqDiff,bh,aZ,iK,ee,dx,ix,iy,cD,bg,aO,dI,bR,reduceCtorEq,bD,b9,Nat.reduceAdd,Nat.reduceLeDiff,eg.fz,Ww];exact rfl):p:=h
def Z4 {p:Prop}(h:p:=by simp only[x7,iW,ow,Ax,Em,cW,Nat.reduceEqDiff,bh,aZ,iK,ee,dx,ix,iy,cD,bg,aO,dI,bR,reduceCtorEq,bD,b9,Nat.reduceAdd,Nat.reduceLeDiff,Wv,bJ.fz];exact rfl):p:=h
def o8 {p:Prop}(h:p:=by simp only[ax.val,hx,hy,Eg];rw[hb hf]):p:=h
def Z5 {p:Prop}(h:p:=by simp only[x7,iW,ow,Ax,Em,cW,Nat.reduceEqDiff,bh,aZ,iK,ee,dx,ix,iy,cD,bg,aO,dI,bR,reduceCtorEq,bD,b9,Nat.reduceAdd,Nat.reduceLeDiff,bJ.fz];exact rfl):p:=h
def Z6 {p:Prop}(h:p:=by simp only[x7,iW,ow,Ax,Em,cW,Nat.reduceEqDiff,bh,aZ,iK,ee,dx,ix,iy,cD,bg,aO,dI,bR,reduceCtorEq,bD,b9,Nat.reduceAdd,Nat.reduceLeDiff,Rec.fz];exact rfl):p:=h
def bZ {p:Prop}(h:p:=by cases h):p:=h
def Z7 {p:Prop}(h:p:=by repeat(first|exact bm.nil|refine bm.AA ai ai dS ?_|refine bm.Nj ai ai ai ?_|refine bm.Nk ai ai ai ai ?_|refine bm.nl 3 ai ai ai dS ?_|refine bm.nl 11 ai ai ai dS ?_)):p:=h
def Z8 {p:Prop}(h:p:=by repeat(first|exact bm.nil|refine bm.AA ai ai dS ?_|refine bm.Nj ai ai ai ?_|refine bm.Nk ai ai ai ai ?_|refine bm.mp 1 ai ai ai ?_|refine bm.eq 2 ai ai ai ?_)):p:=h
def Z9 {p:Prop}(h:p:=by first|assumption|omega|exact⟨hns.2 _ (aq ae),hp0.1.2.2.1 _ (aq ae)⟩|exact⟨(hp0.1.2.2.1 _ (aq ae)).2.1,hp0.2⟩|exact((hp0.1.2.2.1 _ (aq ae)).1 _ (aq ae)).1.2):p:=h
def y9 {p:Prop}(h:p:=by have hl'':st.nx+(k+1)<=l':=hl';show st.nx+k<=l';omega):p:=h
def aaa {p:Prop}(h:p:=by repeat(first|exact fq.nil|refine fq.un ?_|refine fq.eq ai ?_|refine fq.nl ai ai ?_|refine fq.ni (Or.inr ⟨_,_,_,rfl⟩) ?_|refine fq.nl (aw (D.int .u64) hsv) ai ?_)):p:=h
def D7 {p:Prop}(h:p:=by simp only[ho,Op.operands,Call.operands];simp at ho'⊢;exact .inr ho'):p:=h
def aab {p:Prop}(h:p:=by repeat(first|exact bm.nil|refine bm.AA ai ai dS ?_|refine bm.Nj ai ai ai ?_|refine bm.Nk ai ai ai ai ?_|refine bm.nl 1 ai ai ai dS ?_)):p:=h
def aac {p:Prop}(h:p:=by refine bm.nl 0 ai ai ai dS ?_;refine bm.nl 1 ai ai ai dS ?_;refine bm.nl 2 ai ai ai dS ?_;refine bm.nl 3 ai ai ai dS ?_;exact bm.nil):p:=h
def aad {p:Prop}(h:p:=by simp only[ax.ey,hx,hy];exact⟨kx hf,ky hf,by have:=hj hf;omega,by have:=hj hf;have:=hb hf;omega⟩):p:=h
def aae {p:Prop}(h:p:=by refine bm.nl 0 ai ai ai dS ?_;refine bm.nl 1 ai ai ai dS ?_;refine bm.eq 7 ai ai ai ?_;refine bm.nl 5 ai ai ai dS ?_;exact bm.nil):p:=h
def P1 {p:Prop}(h:p:=by first|assumption|omega|exact eX (hp0.1.2 _ (aq ae)) aU|exact(hp0.2.1 _ (aq ae)).1.2):p:=h
def J5 {p:Prop}(h:p:=by first|assumption|omega|exact hp0.1|exact hp0.2.1|exact⟨hp0.2.1,hp0.2.2⟩):p:=h
def P2 {p:Prop}(h:p:=by first|assumption|omega|exact hp0.1|exact hp0.2.1 _ (aq ae)|exact hp0.2.2 _ (aq ae)):p:=h
def aag {p:Prop}(h:p:=by simp only[jc,hc3];revert hc4;generalize cK (a7 s 46)[i]! =a;generalize n5 (a7 s 46)[i]! =b;cases p<;>cases a<;>cases b<;>simp):p:=h
def aah {p:Prop}(h:p:=by simp only[ax.ey,hx,dT,aH,hl,iL,(dq _ _ _).1,ha];exact⟨trivial,ho,hn,trivial,trivial,⟨trivial,aF⟩,aF,hd,hc.1⟩):p:=h
def oo {p:Prop}(h:p:=by simp[ax.ey,hx,kx hf]):p:=h
def aai {p:Prop}(h:p:=by first|assumption|omega|exact hp0.1.1|exact⟨hp0.1.1,hcs.2.1 _ (aq ae),hfw.2.2 _ (aq ae)⟩|exact⟨hp0.1.1,hcs.2.2,hfw.2.1⟩):p:=h
def aaj {p:Prop}(h:p:=by repeat(first|exact fq.nil|refine fq.un ?_|refine fq.eq ai ?_|refine fq.nl ai ai ?_|refine fq.ni (Or.inr ⟨0,1,0,rfl⟩) ?_)):p:=h
def sG {p:Prop}(h:p:=by rintro _ rfl;simp[ho,Op.operands]):p:=h
def aak {p:Prop}(h:p:=by have hcu:0<=c[u]! :=Decidable.byContradiction fun hn=>(by rw[bG hn]at hf;revert hf;decide);have:=(hfu hcu).1;omega):p:=h
def J6 {p:Prop}(h:p:=by repeat' first|exact rfl|exact trivial|refine And.intro ?_ ?_):p:=h
def D8 {p:Prop}(h:p:=by first|(rw[cn];rfl)|(simp only[cn];rfl)):p:=h
def aal {p:Prop}(h:p:=by simp only[ax.val,hx,Lh];rw[getD_map (hi hf)];exact hv hf):p:=h
def lK {p:Prop}(h:p:=by simpa using hc1):p:=h
def za {p:Prop}(h:p:=by simp only[ax.val,hx,hy,Eg,Qo]):p:=h
def aam {p:Prop}(h:p:=by first|assumption|omega|exact hp0.1|exact hp0.2.1 _ (aq (by first|omega|(simp at hf;omega)))|exact hp0.2.2):p:=h
def aan {p:Prop}(h:p:=by first|assumption|omega|exact⟨(hp0.1.2.2.2.1 _ (aq ae)).2.2,hp0.2⟩|exact(hp0.1.2.2.2.1 _ (aq ae)).2.1):p:=h
def aao {p:Prop}(h:p:=by rw[N6 hc0];exact(by refine⟨?_, ?_, ?_⟩<;>first|exact rfl|(rw[nb];exact rfl)|(rw[na];exact rfl))):p:=h
def aap {p:Prop}(h:p:=by simp only[ax.ey,hx,Lg,bg];exact⟨kx hf,hi hf,ho⟩):p:=h
def zb {p:Prop}(h:p:=by simp only[ax.val,hx,hy,Eg]<;>rfl):p:=h
def J7 {p:Prop}(h:p:=by have:=kE (tot:=tot) (show i<tot by omega) hj;omega):p:=h
def aaq {p:Prop}(h:p:=by first|(rw[rB,KC hc0 (i:=i) ae ae];done)|(rw[rB,KC hc0 (i:=i) ae ae];exact rfl)):p:=h
def D9 {p:Prop}(h:p:=by have:=hf.m l' hl';simp only at this⊢;omega):p:=h
def aky {p:Prop}(h:p:=by simp only[cn,List.length_singleton];omega):p:=h
def qO {p:Prop}(h:p:=by simpa using h):p:=h
def lL {p:Prop}(h:p:=by rw[bg];omega):p:=h
def J8 {p:Prop}(h:p:=by first|assumption|(simp only[oM,Gs.aR]at*;omega)):p:=h
def J9 {p:Prop}(h:p:=by simp only[ew,beq_iff_eq,aD,aW]at h;omega):p:=h
def Ka {p:Prop}(h:p:=by simp only[ax.val,hx,hy];rw[hj hf];rfl):p:=h
def P3 {p:Prop}(h:p:=by simp only[ax.ey,hx,Lg];exact⟨kx hf,hi hf,ho⟩):p:=h
def P4 {p:Prop}(h:p:=by simp only[cn,ek,jA,bD,b9];omega):p:=h
def P5 {p:Prop}(h:p:=by have:=hj hf;have:=hb hf;omega):p:=h
def jB {p:Prop}(h:p:=by simp[hc0]):p:=h
def P6 {p:Prop}(h:p:=by simp only[ax.val,hx,hy,Eg];rw[wrap_i64 (hb hf).1 (hb hf).2]):p:=h
def Kb {p:Prop}(h:p:=by rw[cn,List.length_singleton];omega):p:=h
def zd {p:Prop}(h:p:=by simp only[ek];omega):p:=h
def o9 {p:Prop}(h:p:=by simp[cB];omega):p:=h
def qP {p:Prop}(h:p:=by simp[ho,Op.operands]):p:=h
def P7 {p:Prop}(h:p:=by first|assumption|omega|exact hp0.1.p.1.1|exact hp0.1.p.1.2):p:=h
def Kd {p:Prop}(h:p:=by simp[ax.ey,hx,hy,kx hf,ky hf,Ar,hn hf]):p:=h
def qQ {p:Prop}(h:p:=by simp only;omega):p:=h
def P8 {p:Prop}(h:p:=by simp only[ax.val,hx,Lh,aH,hl hf,iL];exact hv hf):p:=h
def P9 {p:Prop}(h:p:=by first|assumption|exact hp0.1|exact hp0.2.1|exact hp0.2.2):p:=h
def Ea {p:Prop}(h:p:=by simp only[cn,bD,b9];omega):p:=h
def Qa {p:Prop}(h:p:=by have:=ha hf;subst hd;simpa[ax.Kf,hx,kx hf]using this):p:=h
def hZ {p:Prop}(h:p:=by simp at h):p:=h
def pd {p:Prop}(h:p:=by simp[ax.val,hx]):p:=h
def Qb {p:Prop}(h:p:=by first|assumption|omega|exact hp0.1.1|exact hp0.1.2):p:=h
def Sw {p:Prop}(h:p:=by rintro⟨h1,h2⟩;rcases hc1 with h|h;omega;exact h h2):p:=h
def kQ {p:Prop}(h:p:=by simpa using hi):p:=h
def iR {p:Prop}(h:p:=by rw[h];simp):p:=h
def Sx {p:Prop}(h:p:=by simp only[ax.ey,hx,hy];exact⟨kx hf,ky hf,h1 hf⟩):p:=h
def JU {p:Prop}(h:p:=by simp only[ho,Op.operands,bW];exact⟨p,hp,rfl⟩):p:=h
def JV {p:Prop}(h:p:=by simp only[ax.val,hx,Lh];exact hv hf):p:=h
def JW {p:Prop}(h:p:=by refine bm.nl 0 ai ai ai dS ?_;exact bm.nil):p:=h
def Bu {p:Prop}(h:p:=by simp at hf;omega):p:=h
def JX {p:Prop}(h:p:=by rw[wI _ _ _ ae];exact List.getElem_mem _):p:=h
def tX {p:Prop}(h:p:=by simp only[bD];omega):p:=h
def fR {p:Prop}(h:p:=by simp[h]):p:=h
def Sy {p:Prop}(h:p:=by simp[sZ,Uk,mK]):p:=h
def xY {p:Prop}(h:p:=by rw[dI,F0];rfl):p:=h
def ny {p:Prop}(h:p:=by simpa using hj):p:=h
def xZ {p:Prop}(h:p:=by simpa[D.aS]using hn):p:=h
def JZ {p:Prop}(h:p:=by have:=hj hf;omega):p:=h
def oJ {p:Prop}(h:p:=by simpa using hc5):p:=h
def x5 {p:Prop}(h:p:=by rw[sO];exact hl'):p:=h
def tY {p:Prop}(h:p:=by rwa [sO]at hi):p:=h
def tZ {p:Prop}(h:p:=by rw[cD];rfl):p:=h
def ua {p:Prop}(h:p:=by simp[j0];omega):p:=h
def x6 {p:Prop}(h:p:=by simpa using hc3):p:=h
def lQ {p:Prop}(h:p:=by assumption):p:=h
def lR {p:Prop}(h:p:=by simp[hw0]):p:=h
def nA {p:Prop}(h:p:=by simp[eS]):p:=h
inductive D where
 |any
 |bool (b:Bool)
 |int (k:IntKind) (n:Int)
 |str (s:List UInt8)
 |agg (cs:List D)
 |tup (ds:List D)
 |aK
 |sl (k:Nat) (es:List D)
 |ref (k:Nat) (es:List D) (i o:Nat)
 |ptr (l k i o:Nat)
 |own (l k i n:Nat)
 |nilp
 |fn (f:Nat) (caps:List D)
 |nilf
 |it (l:Nat)
 deriving Inhabited
inductive Src where
 |s (n:Nat)
 |l (p:Nat)
 |c (d:D)
 deriving Inhabited
inductive Sh where
 |a
 |sl (k:Nat) (cs:List Sh)
 |pt (cs:List Sh)
 |kp (cs:List Sh)
 deriving Inhabited
inductive CK where
 |b|i (k:IntKind)|s
 deriving Inhabited
inductive ax where
 |mv (x:Src)
 |pick (c a b:Src)
 |box (k:Nat) (x:Src)
 |build (z:List D) (parts:List (Nat×Nat×Src))
 |bsl (k:Nat) (z:D) (n:Nat) (parts:List (Nat×Src))
 |ld (n:Nat) (ag:Bool) (p:Src)
 |st (n:Nat) (p v:Src)
 |stU (n:Nat) (p v:Src) (qs:List Src)
 |nilck (x:Src)
 |bin (op:BinOp) (x y:Src)
 |eqA (neg ag:Bool) (ks:List CK) (x y:Src)
 |un (op:UnOp) (x:Src)
 |cvi (k:IntKind) (x:Src)
 |mn (g:Bool) (x y:Src)
 |s2b (x:Src)
 |b2s (x:Src)
 |mkf (f:Nat) (caps:List Src)
 |mks (k:Nat) (z:D) (ln cp:Src)
 |slS (x:Src) (lo hi:Option Src)
 |slA (k:Nat) (x:Src) (lo hi:Option Src)
 |slX (k:Nat) (x hi mx:Src)
 |fa (off:Nat) (p:Src)
 |fld (off n:Nat) (ag:Bool) (x:Src)
 |ia (k:Nat) (x i:Src)
 |iaP (n k:Nat) (x i:Src)
 |ixS (x i:Src)
 |ixA (n k:Nat) (ag:Bool) (x i:Src)
 |ext (x:Src) (i:Nat)
 |len (x:Src)
 |lenS (x:Src)
 |app (k:Nat) (x y:Src)
 |call (f:Nat) (args:List Src) (sh:List (List Sh))
 |callv (f:Src) (args:List Src) (sh:List (List Sh))
 |callM (f:Nat) (args:List Src)
 |callvM (f:Src) (args:List Src)
 |ldI (n:Nat) (ag:Bool) (p:Src)
 |ldU (n:Nat) (ag:Bool) (p:Src)
 |ldW (n:Nat) (ag:Bool) (p:Src)
 |callF (f:Nat) (r:Src) (args:List Src) (sh:List (List Sh))
 |appN (k:Nat) (y:Src)
 |bslI (k:Nat) (z:D) (n:Nat) (parts:List (Nat×Src))
 |rng (x:Src)
 |aR (x:Src)
 |mkB
 |mkM
 |upM (x k v:Src)
 |lkM (z:D) (x k:Src)
 |isNl (x:Src) (neg:Bool)
 deriving Inhabited
structure GI where
 i:ax
 g:Option (Nat×Bool)
 deriving Inhabited
inductive AC where
 |reg (draw:Bool) (ins:List GI) (cm:List (Nat×Nat))
 |seq (a b:AC)
 |cond (c:Src) (a b:AC)
 |block (id:Nat) (a:AC)
 |loop (a:AC)
 |exit (id:Nat)
 |ret
 |skip
 deriving Inhabited
structure Gg where
 s:Nat
 mem:Option (Nat×Bool)
 deriving Inhabited
structure aj where
 np:Nat
 ns:Nat
 res:List Gg
 rsh:List (List Sh)
 body:AC
 deriving Inhabited
@[go_sem] def D.cells:D->List D
 | .agg cs=>cs
 | .any=>[]
 | .tup _=>[]
 |d=>[d]
@[go_sem] def D.isBool:D->Bool
 | .bool _=>true
 |_=>false
@[go_sem] def D.isAgg:D->Bool
 | .agg _=>true
 |_=>false
mutual
@[go_sem] def D.aS:D->Bool
 | .agg cs=>aL cs
 | .tup cs=>aL cs
 | .fn _ cs=>aL cs
 | .ptr .. =>false
 | .own .. =>false
 | .it _=>false
 |_=>true
@[go_sem] def aL:List D->Bool
 |[]=>true
 |d::r=>d.aS&&aL r
end
mutual
@[go_sem] def D.fe:D->Bool
 | .agg cs=>nV cs
 | .tup cs=>nV cs
 | .fn n cs=>!(Nat.ble 2000000 n)&&nV cs
 | .ptr .. =>false
 | .own .. =>false
 | .it _=>false
 | .sl .. =>false
 | .ref .. =>false
 |_=>true
@[go_sem] def nV:List D->Bool
 |[]=>true
 |d::r=>d.fe&&nV r
end
inductive bd where
 |buf (k:Nat) (es:List D)
 |iter (s:List UInt8) (pos:Nat)
 |row (s:List UInt8)
 |bld (o:Option Nat) (n:Nat) (u:Bool)
 |mpb (kvs:List D)
 deriving Inhabited
structure St where
 nx:Nat
 m:List (Nat×bd)
@[go_sem] def look:List (Nat×bd)->Nat->Option bd
 |[],_=>none
 |(a,b)::r,l=>if a=l then some b else look r l
@[go_sem] def cO:List (Nat×bd)->Nat->bd->List (Nat×bd)
 |[],l,b=>[(l,b)]
 |(a,x)::r,l,b=>if a=l then(a,b)::r else(a,x)::cO r l b
@[go_sem] def cW:List (Nat×bd)->Nat->List (Nat×bd)
 |[],_=>[]
 |(a,x)::r,l=>if a=l then cW r l else(a,x)::cW r l
structure aX where
 ok:Bool
 d:D
@[go_sem] def aX.un:aX:=⟨true,.any⟩
@[go_sem] def Src.ev (env vs:List aX):Src->aX
 | .s n=>env.getD n .un
 | .l p=>vs.getD p .un
 | .c d=>⟨true,d⟩
structure Ctx where
 pre:Nat->List D->Prop
 val:Nat->List D->D
 tr:Nat->List D->St->(D->St->Prop)->Prop
 fp:Nat->D->List D->Prop
 fv:Nat->D->List D->D
 fs:Nat->D->List D->D
 lo:Nat
@[go_sem] def aH (m:List (Nat×bd))(l:Nat):List D:=match look m l with
 |some (.buf _ es)=>es
 |_=>[]
@[go_sem] def dT (m:List (Nat×bd))(l k n:Nat):Prop:=match look m l with
 |some (.buf k' es)=>k=k'/\n<=es.length
 |_=>False
@[go_sem] def p8 (m:List (Nat×bd)):D->List D
 | .sl _ es=>es
 | .own l _ i n=>((aH m l).drop i).take n
 | .str s=>s.map fun b=>.int .u8 b.toNat
 |_=>[]
@[go_sem] def BN (m:List (Nat×bd))(k:Nat):D->Prop
 | .sl k' _=>k'=k
 | .own l k' i n=>k'=k/\dT m l k (i+n)
 | .str _=>k=1
 | .aK=>True
 |_=>False
mutual
@[go_sem] def kJ (m:List (Nat×bd)):Sh->D->D
 | .a,d=>match d with
  | .aK=>.sl 0 []
  |d=>d
 | .sl k cs,d=>match d with
  | .aK=>.sl k []
  | .own l k' i c=>.sl k' ((((aH m l).drop i).take c).map (iT m cs))
  |d=>d
 | .pt cs,d=>match d with
  | .ptr l k i o=>.ref k ((aH m l).map (iT m cs)) i o
  |d=>d
 | .kp cs,d=>match d with
  | .own l k' i c=>.sl k' ((((aH m l).drop i).take c).map (iT m cs))
  |d=>d
@[go_sem] def iT (m:List (Nat×bd)):List Sh->D->D
 |[],d=>d
 |s::r,d=>match d with
  | .agg cs=>.agg (nk m (s::r) cs)
  |d=>kJ m s d
@[go_sem] def nk (m:List (Nat×bd)):List Sh->List D->List D
 |[],ds=>ds
 |s::r,ds=>match ds with
  |[]=>[]
  |d::ds=>kJ m s d::nk m r ds
end
mutual
@[go_sem] def ig (m:List (Nat×bd)):Sh->D->Prop
 | .a,d=>d.aS=true
 | .sl _ cs,d=>match d with
  | .own l k' i c=>dT m l k' (i+c)/\∀e∈((aH m l).drop i).take c,gy m cs e
  |d=>d.aS=true
 | .pt cs,d=>match d with
  | .ptr l k _ _=>dT m l k 0/\∀e∈aH m l,gy m cs e
  |d=>d.aS=true
 | .kp cs,d=>match d with
  | .own l k' i c=>dT m l k' (i+c)/\∀e∈((aH m l).drop i).take c,gy m cs e
  |d=>d.aS=true
@[go_sem] def gy (m:List (Nat×bd)):List Sh->D->Prop
 |[],d=>d.aS=true
 |s::r,d=>match d with
  | .agg cs=>j8 m (s::r) cs
  |d=>ig m s d
@[go_sem] def j8 (m:List (Nat×bd)):List Sh->List D->Prop
 |[],ds=>aL ds=true
 |s::r,ds=>match ds with
  |[]=>True
  |d::ds=>ig m s d/\j8 m r ds
end
@[go_sem] def Eg (op:BinOp):D->D->D
 | .int k a,.int _ b=>match op with
  | .add=>.int k (k.wrap (a+b))
  | .sub=>.int k (k.wrap (a-b))
  | .mul=>.int k (k.wrap (a*b))
  | .quo=>.int k (k.wrap (a.tdiv b))
  | .rem=>.int k (a.tmod b)
  | .eql=>.bool (a==b)| .neq=>.bool (a !=b)| .lss=>.bool (decide (a<b))| .leq=>.bool (decide (a<=b))| .gtr=>.bool (decide (b<a))| .geq=>.bool (decide (b<=a))
  | .shl=>.int k (k.wrap (a*2^(min b.toNat k.bits)))
  | .shr=>.int k (a.fdiv (2^(min b.toNat k.bits)))
  | .and=>.int k (k.wrap (((BitVec.ofInt k.bits a)&&&(BitVec.ofInt k.bits b)).toNat))
  | .or=>.int k (k.wrap (((BitVec.ofInt k.bits a) |||(BitVec.ofInt k.bits b)).toNat))
  | .xor=>.int k (k.wrap (((BitVec.ofInt k.bits a)^^^(BitVec.ofInt k.bits b)).toNat))
  | .andNot=>.int k (k.wrap (((BitVec.ofInt k.bits a)&&& ~~~(BitVec.ofInt k.bits b)).toNat))
 | .str a,.str b=>match op with
  | .add=>.str (a++b)
  | .eql=>.bool (a==b)| .neq=>.bool (!(a==b))| .lss=>.bool (Op.bytesLess a b)| .geq=>.bool (!(Op.bytesLess a b))
  | .leq=>.bool (Op.bytesLess a b ||a==b)| .gtr=>.bool (!(Op.bytesLess a b ||a==b))
  |_=>.any
 |_,_=>.any
@[go_sem] def Ar (op:BinOp):D->D->Prop
 | .int k a,.int k' b=>match op with
  | .quo=>k=k'/\b≠0
  | .rem=>k=k'/\b≠0
  | .shl=>0<=b
  | .shr=>0<=b
  |_=>k=k'
 | .str a,.str b=>match op with
  | .add=>a.length+b.length<=9223372036854775807
  | .eql=>True| .neq=>True| .lss=>True| .geq=>True| .leq=>True| .gtr=>True
  |_=>False
 |_,_=>False
@[go_sem] def D.pick (b:Bool):D->D->D
 | .bool x,.bool y=>.bool (bif b then x else y)
 |x,y=>bif b then x else y
@[go_sem] def cut (cs:List D)(o n:Nat)(ag:Bool):D:=bif ag then .agg ((cs.drop o).take n)else cs.getD o .any
@[go_sem] def kU (e:D)(k n o:Nat)(ag:Bool):D:=bif (n==k)&&(e.isAgg==ag)then e else cut e.cells o n ag
@[go_sem] def Lh (m:List (Nat×bd))(n:Nat)(ag:Bool):D->D
 | .ptr l k i o=>kU ((aH m l).getD i .any) k n o ag
 | .ref k es i o=>kU (es.getD i .any) k n o ag
 | .fn _ es=>kU (es.getD 0 .any) 1 n 0 ag
 |_=>.any
@[go_sem] def Lg (m:List (Nat×bd))(n:Nat):D->Prop
 | .ptr l k i o=>dT m l k (i+1)/\o+n<=k
 | .ref k es i o=>i<es.length/\o+n<=k
 | .fn q es=>q=3000000/\n=1/\es.length=1/\(es.getD 0 .any).cells=[es.getD 0 .any]
 |_=>False
mutual
@[go_sem] def eqD:D->D->Bool
 | .bool a,.bool b=>a==b
 | .int _ a,.int _ b=>a==b
 | .str a,.str b=>a==b
 |_,_=>false
@[go_sem] def gV:List D->List D->Bool
 |[],[]=>true
 |a::r,b::s=>eqD a b&&gV r s
 |_,_=>false
end
@[go_sem] def CK.fits:CK->D->Prop
 | .b,.bool _=>True
 | .i k,.int k' _=>k'=k
 | .s,.str _=>True
 |_,_=>False
@[go_sem] def fA:List CK->List D->Prop
 |[],[]=>True
 |c::r,d::s=>c.fits d/\fA r s
 |_,_=>False
@[go_sem] def over (cs:List D)(o:Nat)(new:List D):List D:=cs.take o++(new++cs.drop (o+new.length))
@[go_sem] def su (e:D)(k n o:Nat)(v:D):D:=bif (n==k)&&(v.isAgg ||!e.isAgg)then v else .agg (over e.cells o v.cells)
@[go_sem] def BT (J:Src->aX)(cs:List D):List (Nat×Nat×Src)->List D
 |[]=>cs
 |(o,_,s)::r=>BT J (over cs o (J s).d.cells) r
@[go_sem] def zu (J:Src->aX)(len:Nat):List (Nat×Nat×Src)->Prop
 |[]=>True
 |(o,n,s)::r=>(J s).ok=true/\(J s).d.cells.length=n/\o+n<=len/\zu J len r
@[go_sem] def lU (J:Src->aX)(es:List D):List (Nat×Src)->List D
 |[]=>es
 |(i,s)::r=>lU J (es.set i (J s).d) r
@[go_sem] def qi (J:Src->aX)(k n:Nat):List (Nat×Src)->Prop
 |[]=>True
 |(i,s)::r=>i<n/\(J s).ok=true/\(J s).d.cells.length=k/\qi J k n r
@[go_sem] def D.nat:D->Nat
 | .int _ n=>n.toNat
 |_=>0
@[go_sem] def dU (o:Option D)(dflt:Nat):Nat:=match o with
 |some (.int _ n)=>n.toNat
 |_=>dflt
@[go_sem] def m6 (o:Option D)(hi:Nat):Prop:=match o with
 |none=>True
 |some (.int _ n)=>0<=n/\n<=hi
 |_=>False
@[go_sem] def LA (J:Src->aX):Option Src->Prop
 |none=>True
 |some s=>(J s).ok=true
@[go_sem] def dO (J:Src->aX):Option Src->Option D
 |none=>none
 |some s=>some (J s).d
@[go_sem] def Bh (J:Src->aX):List Src->Prop
 |[]=>True
 |s::r=>(J s).ok=true/\Bh J r
@[go_sem] def iG (J:Src->aX):List Src->List D
 |[]=>[]
 |s::r=>(J s).d::iG J r
@[go_sem] def D.u8:D->UInt8
 | .int _ n=>UInt8.ofNat n.toNat
 |_=>0
@[go_sem] def D.Tn:D->Prop
 | .int k n=>k=.u8/\0<=n/\n<256
 |_=>False
def yi (s:List UInt8)(pos:Nat):Nat×Nat:=Utf8.decode ⟨⟨s⟩⟩ pos
@[go_sem] def iu (m:List (Nat×bd)):List (List Sh)->List D->List D
 |_,[]=>[]
 |[],d::r=>iT m [.a] d::iu m [] r
 |s::ss,d::r=>iT m s d::iu m ss r
@[go_sem] def iX (m:List (Nat×bd)):List (List Sh)->List D->Prop
 |_,[]=>True
 |[],d::r=>gy m [.a] d/\iX m [] r
 |s::ss,d::r=>gy m s d/\iX m ss r
@[go_sem] def vo:D->Bool
 | .agg [.str _,.str _]=>true
 |_=>false
@[go_sem] def pD:D->D->Bool
 | .agg [.str a,.str b],.agg [.str c,.str d]=>a==c&&b==d
 |_,_=>false
@[go_sem] def wS:List D->Bool
 |[]=>true
 |k::_::r=>vo k&&wS r
 |[_]=>false
@[go_sem] def Nl (k:D):List D->Option D
 |a::v::r=>bif pD a k then some v else Nl k r
 |_=>none
@[go_sem] def zF (k v:D):List D->List D
 |a::w::r=>bif pD a k then a::v::r else a::w::zF k v r
 |_=>[k,v]
@[go_sem] def Cq:D->List Nat
 | .fn _ [.it l]=>[l]
 |_=>[]
@[go_sem] def Tz (m:List (Nat×bd)):D->List D
 | .fn _ [.it l]=>match look m l with
  |some (.mpb kvs)=>kvs
  |_=>[]
 |_=>[]
@[go_sem] def mpO (m:List (Nat×bd)):D->Prop
 | .fn n [.it l]=>n=5000000/\match look m l with
  |some (.mpb kvs)=>wS kvs=true
  |_=>False
 |_=>False
@[go_sem] def ax.val (Y:Ctx)(J:Src->aX)(m:List (Nat×bd))(L:Nat):ax->D
 | .mv x=>(J x).d
 | .pick c a b=>match(J c).d with| .bool t=>D.pick t (J a).d (J b).d|_=>.any
 | .box k _=>.ptr L k 0 0
 | .build z ps=>.agg (BT J z ps)
 | .bsl k _ n _=>.own L k 0 n
 | .ld n ag p=>Lh m n ag (J p).d
 | .st _ _ _=>.any
 | .stU _ _ _ _=>.any
 | .nilck x=>(J x).d
 | .bin op x y=>Eg op (J x).d (J y).d
 | .eqA neg _ _ x y=>.bool (bif neg then !(gV (J x).d.cells (J y).d.cells)else gV (J x).d.cells (J y).d.cells)
 | .un op x=>match op,(J x).d with
  | .not,.bool b=>.bool (!b)
  | .neg,.int k n=>.int k (k.wrap (0-n))
  |_,_=>.any
 | .cvi k x=>match(J x).d with| .int _ n=>.int k (k.wrap n)|_=>.any
 | .mn g x y=>match(J x).d,(J y).d with| .int k a,.int _ b=>.int k (if g=true then(if b>a then b else a)else if b<a then b else a)|_,_=>.any
 | .s2b x=>match(J x).d with| .str s=>.own L 1 0 s.length|_=>.any
 | .b2s x=>.str ((p8 m (J x).d).map D.u8)
 | .mkf f caps=>.fn f (iG J caps)
 | .mks k _ ln _=>.own L k 0 (J ln).d.nat
 | .slS x lo hi=>match(J x).d with
  | .str s=>.str ((s.take (dU (dO J hi) s.length)).drop (dU (dO J lo) 0))
  |_=>.any
 | .slA _ x lo hi=>match(J x).d with
  | .sl k es=>.sl k ((es.take (dU (dO J hi) es.length)).drop (dU (dO J lo) 0))
  | .own l k i n=>.own l k (i+dU (dO J lo) 0) (dU (dO J hi) n-dU (dO J lo) 0)
  | .aK=>.aK
  |_=>.any
 | .slX _ x hi _=>match(J x).d,(J hi).d with
  | .sl k es,.int _ h=>.sl k (es.take h.toNat)
  | .own l k i _,.int _ h=>.own l k i h.toNat
  | .aK,_=>.aK
  |_,_=>.any
 | .fa off p=>match(J p).d with
  | .ptr l k i o=>.ptr l k i (o+off)
  | .ref k es i o=>.ref k es i (o+off)
  |_=>.any
 | .fld off n ag x=>cut (J x).d.cells off n ag
 | .ia _ x i=>match(J x).d,(J i).d with
  | .sl k es,.int _ n=>.ref k es n.toNat 0
  | .own l k j _,.int _ n=>.ptr l k (j+n.toNat) 0
  |_,_=>.any
 | .iaP _ k x i=>match(J x).d,(J i).d with
  | .ptr l k' j o,.int _ n=>.ptr l k' j (o+n.toNat*k)
  | .ref k' es j o,.int _ n=>.ref k' es j (o+n.toNat*k)
  |_,_=>.any
 | .ixS x i=>match(J x).d,(J i).d with
  | .str s,.int _ n=>.int .u8 (s.getD n.toNat 0).toNat
  |_,_=>.any
 | .ixA _ k ag x i=>match(J i).d with
  | .int _ n=>cut (J x).d.cells (n.toNat*k) k ag
  |_=>.any
 | .ext x i=>match(J x).d with| .tup ds=>ds.getD i .any|_=>.any
 | .len x=>match(J x).d with
  | .sl _ es=>.int .i64 es.length
  | .own _ _ _ n=>.int .i64 n
  | .aK=>.int .i64 0
  |_=>.any
 | .lenS x=>match(J x).d with
  | .str s=>.int .i64 s.length
  |_=>.any
 | .app k x y=>match(J x).d with
  | .own _ _ _ n=>.own L k 0 (n+(p8 m (J y).d).length)
  |_=>.own L k 0 (p8 m (J y).d).length
 | .call f args sh=>Y.val f (iu m sh (iG J args))
 | .callv f args sh=>match(J f).d with
  | .fn n caps=>Y.val n (iu m sh (iG J args++caps))
  |_=>.any
 | .callM _ _=>.any
 | .callvM _ _=>.any
 | .ldU n ag p=>Lh m n ag (J p).d
 | .ldW n ag p=>Lh m n ag (J p).d
 | .ldI n ag p=>match(J p).d with
  | .ref k es i o=>kU (es.getD i .any) k n o ag
  | .fn _ es=>kU (es.getD 0 .any) 1 n 0 ag
  |_=>.any
 | .appN k y=>.own L k 0 (p8 m (J y).d).length
 | .bslI k z n ps=>.sl k (lU J (List.replicate n z) ps)
 | .callF f r args sh=>match(J r).d with
  | .ptr l _ _ _=>Y.fv f ((aH m l).getD 0 .any) (iu [] sh (iG J args))
  |_=>.any
 | .rng _=>.it L
 | .mkB=>.ptr L 2 0 0
 | .mkM=>.fn 5000000 [.it L]
 | .upM .. =>.any
 | .lkM z x k=>match Nl (J k).d (Tz m (J x).d)with
  |some v=>.tup [v,.bool true]
  |none=>.tup [z,.bool false]
 | .isNl .. =>.any
 | .aR x=>match(J x).d with
  | .it l=>match look m l with
   |some (.iter s pos)=>bif decide (pos<s.length)then .tup [.bool true,.int .i64 pos,.int .i32 (yi s pos).1]else .tup [.bool false]
   |_=>.any
  |_=>.any
@[go_sem] def cb:D->List Nat
 | .ptr l _ _ _=>[l]
 | .own l _ _ _=>[l]
 | .it l=>[l]
 |_=>[]
@[go_sem] def qd (args:List D)(r:D):Bool:=aL args ||r.fe
@[go_sem] def ax.ey (Y:Ctx)(J:Src->aX)(m:List (Nat×bd)):ax->Prop
 | .mv x=>(J x).ok=true
 | .pick c a b=>(J c).ok=true/\match(J c).d with
  | .bool t=>(t=true->(J a).ok=true)/\(t=false->(J b).ok=true)
  |_=>False
 | .box k x=>(J x).ok=true/\(J x).d.cells.length=k
 | .build z ps=>zu J z.length ps
 | .bsl k z n ps=>z.cells.length=k/\qi J k n ps
 | .ld n _ p=>(J p).ok=true/\Lg m n (J p).d
 | .st n p v=>(J p).ok=true/\(J v).ok=true/\(J v).d.cells.length=n/\match(J p).d with
  | .ptr l k i o=>dT m l k (i+1)/\o+n<=k
  |_=>False
 | .stU n p v qs=>(J p).ok=true/\(J v).ok=true/\(J v).d.cells.length=n/\match(J p).d with
  | .ptr l k i o=>dT m l k (i+1)/\o+n<=k/\(k<=4\/∀q∈qs,l∉cb (J q).d)
  |_=>False
 | .nilck x=>(J x).ok=true/\match(J x).d with| .ptr .. =>True| .ref .. =>True|_=>False
 | .bin op x y=>(J x).ok=true/\(J y).ok=true/\Ar op (J x).d (J y).d
 | .eqA _ ag ks x y=>(J x).ok=true/\(J y).ok=true/\(J x).d.isAgg=ag/\(J y).d.isAgg=ag/\fA ks (J x).d.cells/\fA ks (J y).d.cells
 | .un op x=>(J x).ok=true/\match op,(J x).d with
  | .not,.bool _=>True
  | .neg,.int _ _=>True
  |_,_=>False
 | .cvi _ x=>(J x).ok=true/\match(J x).d with| .int _ _=>True|_=>False
 | .mn g x y=>(J x).ok=true/\(J y).ok=true/\match(J x).d,(J y).d with| .int _ _,.int _ _=>True|_,_=>False
 | .s2b x=>(J x).ok=true/\match(J x).d with| .str _=>True|_=>False
 | .b2s x=>(J x).ok=true/\(match(J x).d with| .str _=>False|_=>True)/\BN m 1 (J x).d/\∀e∈p8 m (J x).d,e.Tn
 | .mkf _ caps=>Bh J caps
 | .mks k z ln cp=>(J ln).ok=true/\(J cp).ok=true/\z.cells.length=k/\match(J ln).d,(J cp).d with
  | .int _ n,.int _ c=>0<=n/\n<=c/\c<=1073741824
  |_,_=>False
 | .slS x lo hi=>(J x).ok=true/\LA J lo/\LA J hi/\match(J x).d with
  | .str s=>m6 (dO J hi) s.length/\m6 (dO J lo) (dU (dO J hi) s.length)
  |_=>False
 | .slA k x lo hi=>(J x).ok=true/\LA J lo/\LA J hi/\match(J x).d with
  | .sl k' es=>k'=k/\m6 (dO J hi) es.length/\m6 (dO J lo) (dU (dO J hi) es.length)
  | .own _ k' _ n=>k'=k/\m6 (dO J hi) n/\m6 (dO J lo) (dU (dO J hi) n)
  | .aK=>m6 (dO J hi) 0/\m6 (dO J lo) 0
  |_=>False
 | .slX k x hi mx=>(J x).ok=true/\(J hi).ok=true/\(J mx).ok=true/\match(J hi).d,(J mx).d with
  | .int _ h,.int _ m=>0<=h/\h<=m/\(match(J x).d with
    | .sl k' es=>k'=k/\m<=es.length
    | .own _ k' _ n=>k'=k/\m<=n
    | .aK=>m=0
    |_=>False)
  |_,_=>False
 | .fa off p=>(J p).ok=true/\match(J p).d with| .ptr .. =>True| .ref .. =>True|_=>False
 | .fld off n ag x=>(J x).ok=true/\match(J x).d with| .agg cs=>off+n<=cs.length/\(ag=false->n=1)|_=>False
 | .ia k x i=>(J x).ok=true/\(J i).ok=true/\match(J x).d,(J i).d with
  | .sl k' es,.int _ n=>k'=k/\0<=n/\n<es.length
  | .own _ k' _ c,.int _ n=>k'=k/\0<=n/\n<c
  |_,_=>False
 | .iaP n k x i=>(J x).ok=true/\(J i).ok=true/\match(J x).d,(J i).d with
  | .ptr ..,.int _ c=>0<=c/\c<n
  | .ref ..,.int _ c=>0<=c/\c<n
  |_,_=>False
 | .ixS x i=>(J x).ok=true/\(J i).ok=true/\match(J x).d,(J i).d with
  | .str s,.int _ n=>0<=n/\n<s.length
  |_,_=>False
 | .ixA n k ag x i=>(J x).ok=true/\(J i).ok=true/\(ag=false->k=1)/\match(J x).d,(J i).d with
  | .agg cs,.int _ c=>0<=c/\c<n/\cs.length=n*k
  |_,_=>False
 | .ext x i=>(J x).ok=true/\match(J x).d with| .tup ds=>i<ds.length|_=>False
 | .len x=>(J x).ok=true/\match(J x).d with| .sl _ _=>True| .own .. =>True| .aK=>True|_=>False
 | .lenS x=>(J x).ok=true/\match(J x).d with| .str _=>True|_=>False
 | .app k x y=>(J x).ok=true/\(J y).ok=true/\BN m k (J y).d/\match(J x).d with
  | .own l k' i n=>k'=k/\dT m l k (i+n)/\n+(p8 m (J y).d).length<=1073741824
  | .aK=>(p8 m (J y).d).length<=1073741824
  |_=>False
 | .call f args sh=>Bh J args/\iX m sh (iG J args)/\Y.pre f (iu m sh (iG J args))/\qd (iG J args) (Y.val f (iu m sh (iG J args)))=true
 | .callv f args sh=>(J f).ok=true/\Bh J args/\match(J f).d with
  | .fn n caps=>n<1000000/\iX m sh (iG J args++caps)/\Y.pre n (iu m sh (iG J args++caps))/\qd (iG J args++caps) (Y.val n (iu m sh (iG J args++caps)))=true
  |_=>False
 | .callM _ args=>Bh J args
 | .callvM _ args=>Bh J args
 | .ldW n _ p=>(J p).ok=true/\match(J p).d with
  | .ptr l k i o=>(dT m l k (i+1)/\o+n<=k)/\4<k
  | .ref k es i o=>i<es.length/\o+n<=k
  |_=>False
 | .ldU n _ p=>(J p).ok=true/\match(J p).d with
  | .ptr l k i o=>(dT m l k (i+1)/\o+n<=k)/\aL (aH m l)=false
  | .ref k es i o=>i<es.length/\o+n<=k
  |_=>False
 | .ldI n _ p=>(J p).ok=true/\match(J p).d with
  | .ref k es i o=>i<es.length/\o+n<=k
  | .fn q es=>q=3000000/\n=1/\es.length=1/\(es.getD 0 .any).cells=[es.getD 0 .any]
  |_=>False
 | .appN k y=>(J y).ok=true/\BN m k (J y).d/\(p8 m (J y).d).length<=1073741824
 | .bslI k z n ps=>z.cells.length=k/\qi J k n ps/\aL (lU J (List.replicate n z) ps)=true
 | .callF f r args sh=>(J r).ok=true/\Bh J args/\aL (iG J args)=true/\match(J r).d with
  | .ptr l k i o=>i=0/\o=0/\dT m l k 1/\(aH m l).length=1/\((aH m l).getD 0 .any).aS=true/\Y.fp f ((aH m l).getD 0 .any) (iu [] sh (iG J args))
  |_=>False
 | .rng x=>(J x).ok=true/\match(J x).d with| .str _=>True|_=>False
 | .mkB=>True
 | .mkM=>True
 | .upM x k v=>(J x).ok=true/\(J k).ok=true/\(J v).ok=true/\mpO m (J x).d/\vo (J k).d=true/\∃q n,(J v).d=.int q n
 | .lkM _ x k=>(J x).ok=true/\(J k).ok=true/\mpO m (J x).d/\vo (J k).d=true
 | .isNl .. =>True
 | .aR x=>(J x).ok=true/\match(J x).d with
  | .it l=>match look m l with
   |some (.iter _ _)=>True
   |_=>False
  |_=>False
@[go_sem] def Src.Fb:Src->Bool
 | .s _=>true
 |_=>false
@[go_sem] def ax.Kf (draw:Bool)(J:Src->aX):ax->Prop
 | .len x=>bif draw&& !x.Fb then True else(J x).ok=true->match(J x).d with
  | .sl _ es=>es.length<=9223372036854775807
  | .own _ _ _ n=>n<=9223372036854775807
  |_=>True
 | .lenS x=>bif draw&& !x.Fb then True else(J x).ok=true->match(J x).d with
  | .str s=>s.length<=9223372036854775807
  |_=>True
 |_=>True
@[go_sem] def ax.bL (Y:Ctx)(J:Src->aX)(m:List (Nat×bd))(L:Nat):ax->List (Nat×bd)
 | .box k x=>cO m L (.buf k [(J x).d])
 | .bsl k z n ps=>cO m L (.buf k (lU J (List.replicate n z) ps))
 | .mks k z ln _=>cO m L (.buf k (List.replicate (J ln).d.nat z))
 | .s2b x=>match(J x).d with
  | .str s=>cO m L (.buf 1 (s.map fun b=>.int .u8 b.toNat))
  |_=>m
 | .st n p v=>match(J p).d with
  | .ptr l k i o=>cO m l (.buf k ((aH m l).set i (su ((aH m l).getD i .any) k n o (J v).d)))
  |_=>m
 | .stU n p v _=>match(J p).d with
  | .ptr l k i o=>cO m l (.buf k ((aH m l).set i (su ((aH m l).getD i .any) k n o (J v).d)))
  |_=>m
 | .app k x y=>match(J x).d with
  | .own l k' i n=>cO (cW m l) L (.buf k ((((aH m l).drop i).take n)++p8 m (J y).d))
  |_=>cO m L (.buf k (p8 m (J y).d))
 | .appN k y=>cO m L (.buf k (p8 m (J y).d))
 | .callF f r args sh=>match(J r).d with
  | .ptr l k _ _=>cO m l (.buf k [Y.fs f ((aH m l).getD 0 .any) (iu [] sh (iG J args))])
  |_=>m
 | .rng x=>match(J x).d with
  | .str s=>cO m L (.iter s 0)
  |_=>m
 | .mkB=>cO m L (.bld none 0 false)
 | .mkM=>cO m L (.mpb [])
 | .upM x k v=>match(J x).d with
  | .fn _ [.it l]=>cO m l (.mpb (zF (J k).d (J v).d (Tz m (J x).d)))
  |_=>m
 | .aR x=>match(J x).d with
  | .it l=>match look m l with
   |some (.iter s pos)=>bif decide (pos<s.length)then cO m l (.iter s (pos+(yi s pos).2))else m
   |_=>m
  |_=>m
 |_=>m
@[go_sem] def ax.mZ (J:Src->aX):ax->Option (List Nat)
 | .ld _ _ p=>some (cb (J p).d)
 | .ldU _ _ p=>some (cb (J p).d)
 | .ldW _ _ p=>some (cb (J p).d)
 | .st _ p _=>some (cb (J p).d)
 | .stU _ p _ _=>some (cb (J p).d)
 | .b2s x=>some (cb (J x).d)
 | .app _ x y=>some (cb (J x).d++cb (J y).d)
 | .aR x=>some (cb (J x).d)
 | .call _ args _=>bif aL (iG J args)then some []else none
 | .callv f args _=>match(J f).d with
  | .fn _ caps=>bif aL (iG J args++caps)then some []else none
  |_=>none
 | .callM _ _=>none
 | .callvM _ _=>none
 | .isNl .. =>none
 | .callF _ r _ _=>some (cb (J r).d)
 | .upM x _ _=>some (Cq (J x).d)
 | .lkM _ x _=>some (Cq (J x).d)
 | .appN _ y=>some (cb (J y).d)
 |_=>some []
@[go_sem] def ax.wr (J:Src->aX)(L:Nat):ax->List Nat
 | .box .. =>[L]
 | .bsl .. =>[L]
 | .mks .. =>[L]
 | .s2b _=>[L]
 | .rng _=>[L]
 | .mkB=>[L]
 | .mkM=>[L]
 | .upM x _ _=>Cq (J x).d
 | .st _ p _=>cb (J p).d
 | .stU _ p _ _=>cb (J p).d
 | .app _ x _=>L::cb (J x).d
 | .aR x=>cb (J x).d
 | .callF _ r _ _=>cb (J r).d
 | .appN .. =>[L]
 |_=>[]
@[go_sem] def ax.calm:ax->Bool
 | .st .. =>false
 | .stU .. =>false
 | .app .. =>false
 | .aR .. =>false
 | .callM .. =>false
 | .callvM .. =>false
 | .isNl .. =>false
 | .callF .. =>false
 | .upM .. =>false
 |_=>true
@[go_sem] def flag (vs:List aX):Option (Nat×Bool)->Bool
 |none=>true
 |some (j,w)=>(vs.getD j .un).ok&&match(vs.getD j .un).d with
  | .bool b=>b==w
  |_=>false
@[go_sem] def UH (vs:List aX)(i:ax):Option (Nat×Bool)->Prop
 |none=>True
 |some (j,_)=>i.calm=true/\((vs.getD j .un).ok=true->(vs.getD j .un).d.isBool=true)
@[go_sem] def ax.k8 (draw:Bool)(g:Option (Nat×Bool))(i:ax):Bool:=!draw&&(!i.calm&&g.isSome)
@[go_sem] def yo (vs:List aX):Option (Nat×Bool)->Prop
 |none=>True
 |some (j,_)=>(vs.getD j .un).ok=true->(vs.getD j .un).d.isBool=true
@[go_sem] def nlB (d:D)(b:Bool):Prop:=match d with
 | .aK=>b=true
 | .sl _ es=>b=true->es=[]
 | .own _ _ _ n=>b=true->n=0
 |_=>True
@[go_sem] def slB:D->Prop
 | .aK=>True
 | .sl .. =>True
 | .own .. =>True
 |_=>False
@[go_sem] def NG (n:Nat):Nat:=if n<1000000 then n else n-1000000
@[go_sem] def ND (n:Nat)(aEc caps:List D):List D:=if n<1000000 then aEc++caps else caps++aEc
def eM (Y:Ctx)(draw:Bool):List GI->(env vs:List aX)->St->(List aX->St->Prop)->Prop
 |[],_,vs,st,K=>K vs {st with nx:=st.nx+vs.length}
 |⟨.callM f args,g⟩::r,env,vs,st,K=>
  yo vs g/\(flag vs g=true->Bh (Src.ev env vs) args/\
   Y.tr f (iG (Src.ev env vs) args) {st with nx:=st.nx+vs.length} fun d st'=>st.nx+vs.length<=st'.nx/\eM Y draw r env (vs++[⟨true,d⟩]) {st' with nx:=st'.nx-vs.length} K)/\
   (flag vs g=false->eM Y draw r env (vs++[⟨false,.any⟩]) st K)
 |⟨.callvM f args,g⟩::r,env,vs,st,K=>
  yo vs g/\(flag vs g=true->(Src.ev env vs f).ok=true/\Bh (Src.ev env vs) args/\match(Src.ev env vs f).d with
   | .fn n caps=>n<2000000/\Y.tr (NG n) (ND n (iG (Src.ev env vs) args) caps) {st with nx:=st.nx+vs.length} fun d st'=>st.nx+vs.length<=st'.nx/\eM Y draw r env (vs++[⟨true,d⟩]) {st' with nx:=st'.nx-vs.length} K
   |_=>False)/\
   (flag vs g=false->eM Y draw r env (vs++[⟨false,.any⟩]) st K)
 |⟨.isNl x ng,g⟩::r,env,vs,st,K=>
  yo vs g/\(flag vs g=true->(Src.ev env vs x).ok=true/\slB (Src.ev env vs x).d/\∀b,nlB (Src.ev env vs x).d b->eM Y draw r env (vs++[⟨true,.bool (bif ng then !b else b)⟩]) st K)/\
   (flag vs g=false->eM Y draw r env (vs++[⟨false,.any⟩]) st K)
 |⟨i,g⟩::r,env,vs,st,K=>
  if i.k8 draw g=true then
   yo vs g/\(flag vs g=true->i.ey Y (Src.ev env vs) st.m/\
     eM Y draw r env (vs++[⟨true,i.val Y (Src.ev env vs) st.m (st.nx+vs.length)⟩]) {st with m:=i.bL Y (Src.ev env vs) st.m (st.nx+vs.length)} K)/\
    (flag vs g=false->eM Y draw r env (vs++[⟨false,.any⟩]) st K)
  else
  UH vs i g/\(flag vs g=true->i.ey Y (Src.ev env vs) st.m)/\
   ((flag vs g=true->i.Kf draw (Src.ev env vs))->∃d,(flag vs g=true->i.val Y (Src.ev env vs) st.m (st.nx+vs.length)=d)/\
     eM Y draw r env (vs++[⟨flag vs g,d⟩]) {st with m:=i.bL Y (Src.ev env vs) st.m (st.nx+vs.length)} K)
mutual
@[go_sem] def iW (l k:Nat)(es:List D):D->D
 | .own l' k' i n=>if l'=l/\k'=k/\i+n<=es.length then .sl k ((es.drop i).take n)else .own l' k' i n
 | .ptr l' k' i o=>if l'=l/\k'=k then .ref k es i o else .ptr l' k' i o
 | .agg cs=>.agg (ow l k es cs)
 | .tup cs=>.tup (ow l k es cs)
 | .fn f cs=>.fn f (ow l k es cs)
 | .any=>.any
 | .bool b=>.bool b
 | .int k n=>.int k n
 | .str s=>.str s
 | .aK=>.aK
 | .sl k es=>.sl k es
 | .ref k es i o=>.ref k es i o
 | .nilp=>.nilp
 | .nilf=>.nilf
 | .it l=>.it l
@[go_sem] def ow (l k:Nat)(es:List D):List D->List D
 |[]=>[]
 |d::r=>iW l k es d::ow l k es r
end
@[go_sem] def Em (l k:Nat)(es:List D):bd->bd
 | .buf k' es'=>.buf k' (ow l k es es')
 |b=>b
@[go_sem] def Ax (l k:Nat)(es:List D):List (Nat×bd)->List (Nat×bd)
 |[]=>[]
 |(a,b)::r=>(a,Em l k es b)::Ax l k es r
@[go_sem] def x7 (l k:Nat)(es:List D):List aX->List aX
 |[]=>[]
 |⟨ok,d⟩::r=>⟨ok,iW l k es d⟩::x7 l k es r
@[go_sem] def UG (l:Nat)(s:List aX×List (Nat×bd)):List aX×List (Nat×bd):=match look s.2 l with
 |some (.buf k es)=>bif aL es then(x7 l k es s.1,Ax l k es (cW s.2 l))else s
 |_=>s
@[go_sem] def frzs:List Nat->List aX×List (Nat×bd)->List aX×List (Nat×bd)
 |[],s=>s
 |l::r,s=>frzs r (UG l s)
inductive Ex where
 |normal|exit (id:Nat)|ret
@[go_sem] def iq (env vs:List aX):List (Nat×Nat)->List aX
 |[]=>env
 |(s,p)::r=>iq (env.set s (vs.getD p .un)) vs r
@[go_sem] def mK (lo:Nat)(σ:List (Nat×Nat))(l:Nat):Option Nat:=match σ with
 |[]=>bif Nat.blt l lo then some l else none
 |(a,b)::r=>bif Nat.beq a l then some b else mK lo r l
@[go_sem] def Uk (lo:Nat)(σ:List (Nat×Nat))(l:Nat)(f:Nat->D):Option D:=match mK lo σ l with
 |some l'=>some (f l')
 |none=>none
mutual
@[go_sem] def sZ (lo:Nat)(σ:List (Nat×Nat)):D->Option D
 | .own l k i n=>Uk lo σ l fun l=>.own l k i n
 | .ptr l k i o=>Uk lo σ l fun l=>.ptr l k i o
 | .it l=>Uk lo σ l fun l=>.it l
 | .agg cs=>match qD lo σ cs with
  |some cs=>some (.agg cs)
  |none=>none
 | .tup cs=>match qD lo σ cs with
  |some cs=>some (.tup cs)
  |none=>none
 | .fn f cs=>match qD lo σ cs with
  |some cs=>some (.fn f cs)
  |none=>none
 | .any=>some .any
 | .bool b=>some (.bool b)
 | .int k n=>some (.int k n)
 | .str s=>some (.str s)
 | .aK=>some .aK
 | .sl k es=>some (.sl k es)
 | .ref k es i o=>some (.ref k es i o)
 | .nilp=>some .nilp
 | .nilf=>some .nilf
@[go_sem] def qD (lo:Nat)(σ:List (Nat×Nat)):List D->Option (List D)
 |[]=>some []
 |d::r=>match sZ lo σ d,qD lo σ r with
  |some d,some r=>some (d::r)
  |_,_=>none
end
mutual
def vQ:D->D->Prop
 | .aK,d'=>d'=.aK\/∃l k i,d'=.own l k i 0
 | .agg a,d'=>∃b,d'=.agg b/\Nt a b
 |d,d'=>d'=d/\d.aS=true
def Nt:List D->List D->Prop
 |[],b=>b=[]
 |d::r,b=>∃d' r',b=d'::r'/\vQ d d'/\Nt r r'
end
def RnD (lo:Nat)(σ:List (Nat×Nat))(d d':D):Prop:=d'=d/\d.aS=true\/sZ lo σ d=some d'\/vQ d d'
def p0 (lo:Nat)(σ:List (Nat×Nat)):bd->bd->Prop
 | .buf k es,.buf k' es'=>k'=k/\(es'=es/\aL es=true\/qD lo σ es=some es'\/Nt es es')
 | .iter s p,.iter s' p'=>s'=s/\p'=p
 | .row s,.row s'=>s'=s
 | .mpb s,.mpb s'=>s'=s
 | .bld o n u,.bld o' n' u'=>(match o with
  |none=>o'=none
  |some l=>∃l',mK lo σ l=some l'/\o'=some l')/\n'=n/\u'=u
 |_,_=>False
def fq (lo:Nat)(σ:List (Nat×Nat)):List aX->List aX->Prop
 |[],[]=>True
 |a::r,b::s=>(b.ok=a.ok/\RnD lo σ a.d b.d\/b=.un)/\fq lo σ r s
 |_,_=>False
def bm (lo c:Nat)(σ:List (Nat×Nat))(m:List (Nat×bd)):List (Nat×bd)->Prop
 |[]=>True
 |(l',b')::r=>((∃l b,mK lo σ l=some l'/\look m l=some b/\p0 lo σ b b')\/(Nat.ble lo l'=true/\Nat.blt l' c=true/\σ.all (fun p=>!Nat.beq p.2 l')=true/\∃k,b'=.buf k []))/\bm lo c σ m r
def gE (lo c:Nat):List (Nat×Nat)->Bool
 |[]=>Nat.ble lo c
 |(a,b)::r=>(Nat.ble lo b&&(Nat.blt b c&&(r.all (fun p=>!Nat.beq p.1 a&& !Nat.beq p.2 b)&&gE lo c r)))
@[go_sem] def leE:List aX->List aX->Prop
 |[],[]=>True
 |a::r,b::s=>(b=a\/b=.un)/\leE r s
 |_,_=>False
@[go_sem] def Zo (m:List (Nat×bd)):List (Nat×bd)->Prop
 |[]=>True
 |(l,b)::r=>look m l=some b/\Zo m r
inductive Ed:D->D->Prop
 |refl (d:D):Ed d d
 |nil (k:Nat):Ed .aK (.sl k [])
 |agg (a b:List D) (hl:b.length=a.length) (h:∀i,Ed (a.getD i .any) (b.getD i .any)):Ed (.agg a) (.agg b)
 |sl (k:Nat) (a b:List D) (hl:b.length=a.length) (h:∀i,Ed (a.getD i .any) (b.getD i .any)):Ed (.sl k a) (.sl k b)
def Qg (a b:List D):Prop:=b.length=a.length/\∀i,Ed (a.getD i .any) (b.getD i .any)
def WkB:bd->bd->Prop
 | .buf k es,.buf k' es'=>k'=k/\Qg es es'
 |b,b'=>b'=b
def WkE:List aX->List aX->Prop
 |[],[]=>True
 |a::r,b::s=>(b.ok=a.ok/\Ed a.d b.d)/\WkE r s
 |_,_=>False
def Qh (m:List (Nat×bd)):List (Nat×bd)->Prop
 |[]=>True
 |(l,b')::r=>(∃b,look m l=some b/\WkB b b')/\Qh m r
inductive aY (lo:Nat):List aX->St->List aX->St->Prop
 |refl (env:List aX) (st:St):aY lo env st env st
 |UG (l:Nat) (env:List aX) (st:St):aY lo env st (UG l (env,st.m)).1 ⟨st.nx,(UG l (env,st.m)).2⟩
 |ren (σ:List (Nat×Nat)) (c:Nat) (env env':List aX) (nx:Nat) (m m':List (Nat×bd)) (h:gE lo c σ=true) (he:fq lo σ env env') (hm:bm lo c σ m m'):aY lo env ⟨nx,m⟩ env' ⟨c,m'⟩
 |wk (env env':List aX) (nx:Nat) (m m':List (Nat×bd)) (he:leE env env') (hm:Zo m m'):aY lo env ⟨nx,m⟩ env' ⟨nx,m'⟩
 |nz (env env':List aX) (nx:Nat) (m m':List (Nat×bd)) (he:WkE env env') (hm:Qh m m'):aY lo env ⟨nx,m⟩ env' ⟨nx,m'⟩
 |trans (env1 env2 env3:List aX) (st1 st2 st3:St) (h:aY lo env1 st1 env2 st2) (h':aY lo env2 st2 env3 st3):aY lo env1 st1 env3 st3
def Gh (lo:Nat)(p:List aX->St->Prop)(env:List aX)(st:St):Prop:=∃env' st',aY lo env st env' st'/\p env' st'
def dn (Y:Ctx):AC->(Ex->List aX->St->Prop)->List aX->St->Prop
 | .reg draw ins cm,Q=>Gh Y.lo fun env st=>eM Y draw ins env [] st fun vs st'=>Q .normal (iq env vs cm) st'
 | .seq a b,Q=>Gh Y.lo (dn Y a (fun e env st=>match e with
   | .normal=>dn Y b Q env st
   |e=>Q e env st))
 | .cond c a b,Q=>Gh Y.lo fun env st=>(c.ev env []).ok=true/\match(c.ev env []).d with
  | .bool t=>(t=true->dn Y a Q env st)/\(t=false->dn Y b Q env st)
  |_=>False
 | .block id a,Q=>Gh Y.lo (dn Y a (fun e env st=>match e with
   | .exit j=>if j=id then Q .normal env st else Q (.exit j) env st
   |e=>Q e env st))
 | .loop a,Q=>Gh Y.lo fun env st=>∃(I:List aX->St->Prop) (μ:List aX->St->Nat),
   I env st/\∀env st,I env st->
   dn Y a (fun e env' st'=>match e with
    | .normal=>∃env2 st2,aY Y.lo env' st' env2 st2/\I env2 st2/\μ env2 st2<μ env st
    |e=>Q e env' st') env st
 | .exit id,Q=>Gh Y.lo (Q (.exit id))
 | .ret,Q=>Gh Y.lo (Q .ret)
 | .skip,Q=>Gh Y.lo (Q .normal)
def Ctx.at (Y:Ctx)(n:Nat):Ctx:={Y with lo:=n}
@[go_sem] def HS (m:List (Nat×bd))(env:List aX)(r:Gg):D:=match r.mem with
 |none=>(env.getD r.s .un).d
 |some (n,ag)=>Lh m n ag (env.getD r.s .un).d
@[go_sem] def n8 (m:List (Nat×bd))(env:List aX):List Gg->Prop
 |[]=>True
 |r::rs=>(env.getD r.s .un).ok=true/\(match r.mem with
   |none=>True
   |some (n,_)=>Lg m n (env.getD r.s .un).d)/\n8 m env rs
@[go_sem] def qC (m:List (Nat×bd))(env:List aX):List Gg->List D
 |[]=>[]
 |r::rs=>HS m env r::qC m env rs
@[go_sem] def j1 (a:aj)(env:List aX)(st:St):D:=match a.res with
 |[r]=>HS st.m env r
 |rs=>.tup (qC st.m env rs)
@[go_sem] def Y6 (a:aj)(env:List aX)(st:St):D:=match a.res with
 |[r]=>iT st.m (a.rsh.getD 0 []) (HS st.m env r)
 |rs=>.tup (iu st.m a.rsh (qC st.m env rs))
@[go_sem] def Mx (a:aj)(env:List aX)(st:St):Prop:=match a.res with
 |[r]=>gy st.m (a.rsh.getD 0 []) (HS st.m env r)
 |rs=>iX st.m a.rsh (qC st.m env rs)
@[go_sem] def Ex.home:Ex->Prop
 | .exit _=>False
 |_=>True
@[go_sem] def fI (a:aj)(ds:List D):List aX:=(ds.map fun d=>⟨true,d⟩)++List.replicate (a.ns-a.np) .un
def trOf (Y:Ctx)(a:aj)(ds:List D)(st:St)(K:D->St->Prop):Prop:=
 ds.length=a.np/\dn (Y.at st.nx) a.body (fun e env st=>e.home/\n8 st.m env a.res/\K (j1 a env st) st) (fI a ds) st
mutual
def fK:Value->Option D
 | .bool b=>some (.bool b)
 | .int k n=>some (.int k n)
 | .string s=>if s.size<=9223372036854775807 then some (.str s.data.toList)else none
 | .pointer none=>some .nilp
 | .slice none 0 0=>some .aK
 | .nilFunc=>some .nilf
 | .map none=>some (.fn 5100000 [])
 | .agg ⟨cs⟩=>if wm cs then(sJ cs).map .agg else none
 |_=>none
def sJ:List Value->Option (List D)
 |[]=>some []
 |v::r=>match fK v,sJ r with
  |some d,some ds=>some (d::ds)
  |_,_=>none
def wm:List Value->Bool
 |[]=>true
 |v::r=>(match v with
  | .agg _=>false
  | .tuple _=>false
  |_=>true)&&wm r
end
def HV (P:Program):Nat->TypeId->List Sh
 |0,_=>[.a]
 |d+1,t=>match P.underlying t with
  |some (.struct fs)=>(fs.toList.map fun f=>HV P d f.type).flatten
  |some (.array n e)=>(List.replicate n (HV P d e)).flatten
  |some (.slice e)=>[.sl (P.cellsOf e) (HV P d e)]
  |some (.pointer e)=>[.pt (HV P d e)]
  |_=>[.a]
def aiw:List Sh->List Sh
 |[.sl _ cs]=>[.kp cs]
 |l=>l
def keepN (fn:Func):Nat:=100000000+fn.endLine*10000+fn.ntmps
structure CC where
 P:Program
 ν:List (Nat×Nat)
 bL:List Nat
 slots:List Nat
 ntmps:Nat
 vm:Bool
def dH:List (Nat×Nat)->Nat->Option Nat
 |[],_=>none
 |(a,b)::r,l=>if a=l then some b else dH r l
def AB:List Nat->Nat->Option Nat
 |[],_=>none
 |a::r,t=>if a=t then some 0 else(AB r t).map (· +1)
def posOf (t:Nat):List (Option Nat)->Option Nat
 |[]=>none
 |a::r=>if a=some t then some 0 else(posOf t r).map (· +1)
def CC.src (C:CC)(defs:List (Option Nat)):Operand->Option Src
 | .tmp t=>match posOf t defs with
  |some p=>some (.l p)
  |none=>(AB C.slots t).map .s
 | .const v=>(fK v).map .c
 | .func f=>(dH C.ν f).map fun n=>.c (.fn n [])
 | .global _=>none
def CC.vK (C:CC)(defs:List (Option Nat)):List Operand->Option (List Src)
 |[]=>some []
 |x::r=>match C.src defs x,C.vK defs r with
  |some a,some l=>some (a::l)
  |_,_=>none
def CC.opt (C:CC)(defs:List (Option Nat)):Option Operand->Option (Option Src)
 |none=>some none
 |some x=>(C.src defs x).map some
def bY (P:Program)(t:TypeId):Bool:=match P.underlying t with
 |some (.struct _)=>true
 |some (.array ..)=>true
 |_=>false
def ma (P:Program)(k:TypeId->Option (List CK)):Nat->List Field->Option (List CK)
 |_,[]=>some []
 |off,f::r=>if f.name= "_" \/f.offset≠off then none else
  match k f.type,ma P k (off+P.cellsOf f.type) r with
  |some a,some b=>if a.length=P.cellsOf f.type/\a.length≠0/\(P.underlying f.type).isNone=false then some (a++b)else none
  |_,_=>none
def gR (P:Program):Nat->TypeId->Option (List CK)
 |0,_=>none
 |d+1,t=>match P.underlying t with
  |some .bool=>some [.b]
  |some (.int k)=>some [.i k]
  |some .string=>some [.s]
  |some (.struct fs)=>if P.stoodInHeld t then none else ma P (fun t=>gR P d t) 0 fs.toList
  |some (.array n e)=>match gR P d e with
   |some l=>if l.length=P.cellsOf e/\l.length≠0/\(P.underlying e).isNone=false then some (List.replicate n l).flatten else none
   |none=>none
  |_=>none
def CC.parts (C:CC)(defs:List (Option Nat))(place:Nat->Option (Nat×Nat)):List (Nat×Operand)->Option (List (Nat×Nat×Src))
 |[]=>some []
 |(i,x)::r=>match place i,C.src defs x,C.parts defs place r with
  |some (o,n),some s,some l=>if n=0 then none else some ((o,n,s)::l)
  |_,_,_=>none
def CC.yH (C:CC)(defs:List (Option Nat)):List (Nat×Operand)->Option (List (Nat×Src))
 |[]=>some []
 |(i,x)::r=>match C.src defs x,C.yH defs r with
  |some s,some l=>some ((i,s)::l)
  |_,_=>none
def sC (P:Program)(t:TypeId):Option D:=((P.info? t).bind (·.zero)).bind fK
def zVD:D:=.agg [.int .i64 0,.int .i64 0,.int .i64 0,.str [],.str []]
def CC.Wz (C:CC)(t:TypeId):Operand->Option D
 | .global g=>if(C.bL.contains (500000000+g)=true/\g<400000000)/\C.P.cellsOf t=5/\bY C.P t=true/\(C.P.underlying t).isNone=false then some zVD else none
 |_=>none
def pV (P:Program)(t:TypeId):Bool:=match sC P t with
 |some z=>z.cells.length==P.cellsOf t
 |none=>false
def N7 (P:Program)(k:TypeId):Bool:=match P.underlying k with
 |some (.array 2 e)=>(match P.underlying e with
  |some .string=>P.cellsOf e==1&&(P.cellsOf k==2&& !(P.types.size==0))
  |_=>false)
 |_=>false
def CC.op (C:CC)(defs:List (Option Nat))(o:Oper):Option ax:=
 match o.op with
 | .move x=>(C.src defs x).map .mv
 | .assign x=>(C.src defs x).map .mv
 | .pick c a b=>match C.src defs c,C.src defs a,C.src defs b with
  |some c,some a,some b=>some (.pick c a b)
  |_,_,_=>none
 | .alloc t=>match sC C.P t with
  |some z=>if C.P.cellsOf t=0 then none else if C.bL.contains (1000000000+t)then(match z with
   | .agg [.nilp,.aK]=>some .mkB
   |_=>none)else some (.box (C.P.cellsOf t) (.c z))
  |none=>none
 | .box t x=>match C.src defs x with
  |some s=>if C.P.cellsOf t=0 then none else some (.box (C.P.cellsOf t) s)
  |none=>none
 | .build t ps=>match sC C.P t,C.P.underlying t with
  |some (.agg z),some (.struct fs)=>if fs.toList.all (fun f=>(C.P.info? f.type).isSome)then(C.parts defs (fun i=>(fs[i]?).map fun f=>(f.offset,C.P.cellsOf f.type)) ps.toList).map (.build z)else none
  |some (.agg z),some (.array _ e)=>if C.P.cellsOf e=0 then none else(C.parts defs (fun i=>some (i*C.P.cellsOf e,C.P.cellsOf e)) ps.toList).map (.build z)
  |_,_=>none
 | .buildSlice t n ps=>match C.P.underlying t with
  |some (.slice e)=>match sC C.P e,C.yH defs ps.toList with
   |some z,some l=>if C.P.cellsOf e=0\/n*C.P.cellsOf e>16777216 then none else some (.bsl (C.P.cellsOf e) z n l)
   |_,_=>none
  |_=>none
 | .load t a=>match C.Wz t a with
  |some d=>some (.mv (.c d))
  |none=>match C.src defs a with
  |some s=>if C.P.cellsOf t=0\/(C.P.underlying t).isNone\/(bY C.P t=false/\C.P.cellsOf t≠1)then none else some (.ld (C.P.cellsOf t) (bY C.P t) s)
  |none=>none
 | .store t a x=>match C.src defs a,C.src defs x with
  |some a,some x=>if C.P.cellsOf t=0 then none else some (.st (C.P.cellsOf t) a x)
  |_,_=>none
 | .nilCheck x=>(C.src defs x).map .nilck
 | .binOp op t x y _=>match C.src defs x,C.src defs y with
  |some a,some b=>match C.P.underlying t with
   |some (.int _)=>some (.bin op a b)
   |some .string=>some (.bin op a b)
   |_=>if C.P.eqGuardType C.P.depth t then none else match gR C.P 30 t,op with
    |some ks,.eql=>some (.eqA false (bY C.P t) ks a b)
    |some ks,.neq=>some (.eqA true (bY C.P t) ks a b)
    |none,.eql=>match C.P.underlying t,b with
     |some (.slice _),.c .aK=>some (.isNl a false)
     |_,_=>none
    |none,.neq=>match C.P.underlying t,b with
     |some (.slice _),.c .aK=>some (.isNl a true)
     |_,_=>none
    |_,_=>none
  |_,_=>none
 | .unOp op _ x=>(C.src defs x).map (.un op)
 | .convert s d x=>match C.P.underlying s,C.P.underlying d,C.src defs x with
  |some (.int _),some (.int k),some a=>some (.cvi k a)
  |some .string,some (.slice e),some a=>match C.P.underlying e with
   |some (.int .u8)=>some (.s2b a)
   |_=>none
  |some (.slice e),some .string,some a=>match C.P.underlying e with
   |some (.int .u8)=>some (.b2s a)
   |_=>none
  |_,_,_=>none
 | .makeFunc (.func f) first caps=>match dH C.ν f,C.vK defs caps.toList with
  |some n,some l=>if first.isEmpty then some (.mkf n l)else if l.isEmpty then(C.vK defs first.toList).map (.mkf (n+1000000))else none
  |_,_=>none
 | .makeSlice t l c=>match C.P.underlying t with
  |some (.slice e)=>match sC C.P e,C.src defs l,C.src defs c with
   |some z,some l,some c=>if C.P.cellsOf e=0\/C.P.bytesOf e>65536 then none else some (.mks (C.P.cellsOf e) z l c)
   |_,_,_=>none
  |_=>none
 | .slice t x lo hi mx=>match C.P.underlying t,C.src defs x,C.opt defs lo,C.opt defs hi,mx with
  |some .string,some a,some l,some h,none=>some (.slS a l h)
  |some (.slice e),some a,some l,some h,none=>if C.P.cellsOf e=0 then none else some (.slA (C.P.cellsOf e) a l h)
  |some (.slice e),some a,some none,some (some h),some m=>match C.src defs m with
   |some m=>if C.P.cellsOf e=0 then none else some (.slX (C.P.cellsOf e) a h m)
   |none=>none
  |_,_,_,_,_=>none
 | .fieldAddr t x f=>match C.P.underlying t,C.src defs x with
  |some (.struct fs),some a=>match fs[f]? with
   |some f=>if C.P.cellsOf f.type=0 then none else some (.fa f.offset a)
   |none=>none
  |_,_=>none
 | .field t x f=>match C.P.underlying t,C.src defs x with
  |some (.struct fs),some a=>match fs[f]? with
   |some f=>if C.P.cellsOf f.type=0\/(C.P.underlying f.type).isNone then none else some (.fld f.offset (C.P.cellsOf f.type) (bY C.P f.type) a)
   |none=>none
  |_,_=>none
 | .indexAddr t x i=>match C.P.underlying t,C.src defs x,C.src defs i with
  |some (.slice e),some a,some b=>if C.P.cellsOf e=0 then none else some (.ia (C.P.cellsOf e) a b)
  |some (.array n e),some a,some b=>if C.P.cellsOf e=0 then none else some (.iaP n (C.P.cellsOf e) a b)
  |_,_,_=>none
 | .index t x i=>match C.P.underlying t,C.src defs x,C.src defs i with
  |some .string,some a,some b=>some (.ixS a b)
  |some (.array n e),some a,some b=>if C.P.cellsOf e=0\/(C.P.underlying e).isNone then none else some (.ixA n (C.P.cellsOf e) (bY C.P e) a b)
  |_,_,_=>none
 | .lookup t x y true=>match C.src defs x,C.src defs y,C.P.underlying t with
  |some a,some b,some (.map k e)=>match sC C.P e with
   |some z=>if N7 C.P k=true then some (.lkM z a b)else none
   |none=>none
  |_,_,_=>none
 | .makeMap t none=>match C.P.underlying t with
  |some (.map k _)=>if N7 C.P k=true then some .mkM else none
  |_=>none
 | .mapUpdate t x y v=>match C.src defs x,C.src defs y,C.src defs v with
  |some a,some b,some c=>match C.P.underlying t with
   |some (.map k _)=>if N7 C.P k=true then some (.upM a b c)else none
   |_=>none
  |_,_,_=>none
 | .range t x=>match C.P.underlying t,C.src defs x with
  |some .string,some a=>some (.rng a)
  |_,_=>none
 | .next it true=>(C.src defs it).map .aR
 | .extract t i=>(C.src defs t).map fun s=>.ext s i
 | .call c=>match c.callee with
  | .builtin .len=>match c.args.toList,c.argTypes.toList with
   |[x],[t]=>match C.src defs x,C.P.underlying t with
    |some a,some .string=>some (.lenS a)
    |some a,some (.slice _)=>some (.len a)
    |_,_=>none
   |_,_=>none
  | .builtin .min=>match c.args.toList with
   |[x,y]=>match C.src defs x,C.src defs y with
    |some a,some b=>some (.mn false a b)
    |_,_=>none
   |_=>none
  | .builtin .max=>match c.args.toList with
   |[x,y]=>match C.src defs x,C.src defs y with
    |some a,some b=>some (.mn true a b)
    |_,_=>none
   |_=>none
  | .builtin .append=>match c.args.toList,c.argTypes.toList with
   |[x,y],[t,u]=>match C.src defs x,C.src defs y,C.P.underlying t,C.P.underlying u with
    |some a,some b,some (.slice e),some (.slice _)=>if C.P.cellsOf e=0\/C.P.bytesOf e>65536\/C.P.bytesOf e=0\/pV C.P e=false then none else some (.app (C.P.cellsOf e) a b)
    |some a,some b,some (.slice e),some .string=>if C.P.cellsOf e=0\/C.P.bytesOf e>65536\/C.P.bytesOf e=0\/pV C.P e=false then none else some (.app (C.P.cellsOf e) a b)
    |_,_,_,_=>none
   |_,_=>none
  | .value (.func f)=>match dH C.ν f,C.vK defs c.args.toList with
   |some n,some l=>if C.bL.contains (2*n)then some (.callM n l)else if C.bL.contains (2*n+1)then(match l with
     |r::rest=>some (.callF n r rest ((c.argTypes.toList.map (HV C.P 8)).drop 1))
     |[]=>none)else some (.call n l (c.argTypes.toList.map (HV C.P 8)))
   |_,_=>none
  | .value (.tmp t)=>match C.src defs (.tmp t),C.vK defs c.args.toList with
   |some s,some l=>if C.vm then some (.callvM s l)else some (.callv s l (c.argTypes.toList.map (HV C.P 8)))
   |_,_=>none
  |_=>none
 |_=>none
def CC.guard (defs:List (Option Nat)):Option (Nat×Bool)->Option (Option (Nat×Bool))
 |none=>some none
 |some (j,w)=>match defs[j]? with
  |some (some _)=>some (some (j,w))
  |_=>none
def CC.ops (C:CC):(defs:List (Option Nat))->List Oper->Option (List GI)
 |_,[]=>some []
 |defs,o::r=>match C.op defs o,CC.guard defs o.guard,C.ops (defs++[o.dst]) r with
  |some i,some g,some l=>if o.dst.all (fun d=>d<C.ntmps&& !defs.contains (some d))then some (⟨i,g⟩::l)else none
  |_,_,_=>none
def CC.ir (C:CC):Nat->List Oper->List (Nat×Nat)
 |_,[]=>[]
 |p,o::r=>match o.dst.bind (AB C.slots)with
  |some s=>(s,p)::C.ir (p+1) r
  |none=>C.ir (p+1) r
def qR (acc:List Nat):List Edge->Nat
 |[]=>0
 |e::r=>if Region.binds .any e then(2^e.on |||acc.getD e.on 0) |||qR acc r else qR acc r
def ph:List Nat->List Oper->List Nat
 |acc,[]=>acc
 |acc,o::r=>ph (acc++[qR acc o.after.toList]) r
def tmpsOf (ops:List Oper)(o:Oper):List Nat:=
 (o.op.operands.toList.filterMap fun
   | .tmp t=>some t
   |_=>none)++(match o.guard with
   |some (g,_)=>((ops[g]?).bind (·.dst)).toList
   |none=>[])
def RH (ops:List Oper)(bs:List Nat):Bool:=
 (List.range ops.length).all fun j=>(List.range ops.length).all fun p=>match ops[j]?,ops[p]? with
   |some oj,some op=>match op.dst with
    |some t=>p==j ||!(tmpsOf ops oj).contains t ||(bs.getD (max j p) 0).testBit (min j p)
    |none=>true
   |_,_=>false
def ax.pure:ax->Bool
 | .mv _=>true
 | .pick .. =>true
 | .build .. =>true
 | .nilck _=>true
 | .bin .. =>true
 | .eqA .. =>true
 | .un .. =>true
 | .cvi .. =>true
 | .mn .. =>true
 | .mkf .. =>true
 | .slS .. =>true
 | .slA .. =>true
 | .slX .. =>true
 | .fa .. =>true
 | .fld .. =>true
 | .ia .. =>true
 | .iaP .. =>true
 | .ixS .. =>true
 | .ixA .. =>true
 | .ext .. =>true
 | .len _=>true
 | .lenS _=>true
 | .ldI .. =>true
 | .bslI .. =>true
 |_=>false
def Sh.isA:Sh->Bool
 | .a=>true
 |_=>false
def ax.free:ax->Bool
 | .call _ _ sh=>sh.all fun s=>s.all Sh.isA
 |i=>i.pure
def ax.jI:ax->Bool
 | .box .. =>true
 | .bsl .. =>true
 | .mks .. =>true
 | .s2b .. =>true
 | .rng .. =>true
 | .mkB=>true
 | .mkM=>true
 |_=>false
def ax.isApp:ax->Bool
 | .app .. =>true
 |_=>false
def ax.nj:ax->Bool
 | .callF .. =>true
 |_=>false
def ax.nP:ax->Bool
 | .ldU .. =>true
 | .ldW .. =>true
 |_=>false
def ax.isUU:ax->Bool
 | .ldU .. =>true
 |_=>false
def Src.same:Src->Src->Bool
 | .s a,.s b=>Nat.beq a b
 | .l a,.l b=>Nat.beq a b
 |_,_=>false
def ax.narrow (p:Src):ax->Bool
 | .app k _ _=>Nat.ble k 4
 | .stU _ _ _ qs=>qs.any fun q=>p.same q
 |_=>false
def ax.QW:ax->Src
 | .ldW _ _ p=>p
 |_=>.c .any
def ax.isW:ax->Bool
 | .ldW .. =>true
 |_=>false
def exU (l:List GI)(gj gi:ax)(j i:Nat):Bool:=gi.nP&&((gj.isApp&&decide (j<i)) ||(gi.isUU&&(gj.nj&&(decide (i<j)&&(List.range j).all fun q=>decide (q<=i) ||match l[q]? with
 |some g=>g.i.calm ||g.i.nj
 |none=>true))) ||(gi.isW&&(gj.narrow gi.QW&&(decide (i<j)&&(List.range j).all fun q=>decide (q<=i) ||match l[q]? with
 |some g=>g.i.calm ||g.i.narrow gi.QW
 |none=>true))))
def aex (l:List GI)(bs:List Nat):Bool:=
 (List.range l.length).all fun j=>(List.range l.length).all fun i=>match l[j]?,l[i]? with
   |some gj,some gi=>gj.i.calm ||gi.i.free ||(gi.i.jI&&(!gj.i.isApp ||decide (j<i))) ||i==j ||(bs.getD (max j i) 0).testBit (min j i) ||exU l gj.i gi.i j i
   |_,_=>false
def ax.cJ:ax->Bool
 | .callM .. =>true
 | .callvM .. =>true
 | .isNl .. =>true
 |_=>false
def A6:Nat->List Oper->Bool
 |_,[]=>true
 |p,o::r=>o.after.toList.all (fun e=>!Region.binds .any e ||decide (e.on<p))&&A6 (p+1) r
def sufG:GI->Bool
 |⟨.mv _,none⟩=>true
 |⟨.un ..,_⟩=>true
 |⟨.pick ..,none⟩=>true
 |⟨.ext ..,none⟩=>true
 |_=>false
def RX:List GI->Bool
 |⟨.callM ..,_⟩::r=>r.all sufG
 |⟨.callvM ..,_⟩::r=>r.all sufG
 |_=>false
def zL (o:Oper):Option Operand:=match o.op,o.guard with
 | .move x,none=>some x
 | .assign x,none=>some x
 | .extract x _,none=>some x
 |_,_=>none
def OD (x:Operand)(d:Option Nat):Bool:=match x,d with
 | .tmp t,some d=>t !=d
 |_,_=>true
def N4 (o p:Oper):Bool:=match zL o,zL p with
 |some x,some y=>OD x p.dst&&(OD y o.dst&&(match o.dst,p.dst with
  |some a,some b=>a !=b
  |_,_=>true))
 |_,_=>false
def QV (ops:List Oper)(l:List GI)(bs:List Nat):Bool:=
 let n:=l.findIdx fun g=>g.i.cJ
 RX (l.drop n)&&((l.take n).all (fun g=>!g.i.cJ)&&(List.range (l.length-n)).all fun q=>(List.range (n+q)).all fun p=>(bs.getD (n+q) 0).testBit p ||(match ops[n+q]?,ops[p]? with
  |some o,some o'=>N4 o o'
  |_,_=>false))
def BM (ops:List Oper)(l:List GI):Bool:=
 let bs:=ph [] ops
 RH ops bs&&(aex l bs&&(((l.all fun g=>!g.i.cJ) ||QV ops l bs)&&A6 0 ops))
def ax.toN:ax->ax
 | .app k (.c .aK) y=>.appN k y
 |i=>i
def looseAt (bs:List Nat)(l:List GI)(i:Nat):Bool:=
 (List.range l.length).any fun j=>match l[j]? with
   |some gj=>!(gj.i.toN.calm ||i==j ||(bs.getD (max j i) 0).testBit (min j i))
   |none=>false
def Of (bs:List Nat)(l:List GI)(i:Nat):Bool:=
 (List.range l.length).all fun j=>match l[j]? with
   |some gj=>gj.i.toN.calm ||i==j ||(bs.getD (max j i) 0).testBit (min j i) ||(gj.i.isApp&&decide (j<i)) ||(gj.i.nj&&(decide (i<j)&&(List.range j).all fun q=>decide (q<=i) ||match l[q]? with
    |some g=>g.i.toN.calm ||g.i.nj
    |none=>true))
   |none=>true
def Src.isFa (l:List GI):Src->Bool
 | .l q=>match l[q]? with
  |some ⟨.fa _ (.s _),_⟩=>true
  |_=>false
 |_=>false
def aiJ (bs:List Nat)(l:List GI)(i:Nat):Bool:=
 (match l[i]? with
   |some ⟨.ld ..,_⟩=>true
   |_=>false)&&(looseAt bs l i&&(!Of bs l i&&(List.range l.length).all fun j=>match l[j]? with
   |some gj=>gj.i.toN.calm ||i==j ||(bs.getD (max j i) 0).testBit (min j i) ||(match gj.i with
    | .st n _ _=>Nat.ble 5 n&&decide (i<j)
    |_=>false)
   |none=>true))
def aiI (bs:List Nat)(l:List GI)(i:Nat):Bool:=
 (match l[i]? with
   |some ⟨.ld _ _ x,_⟩=>x.isFa l
   |_=>false)&&(looseAt bs l i&&(!Of bs l i&&(((List.range l.length).all fun j=>match l[j]? with
   |some gj=>gj.i.toN.calm ||i==j ||(bs.getD (max j i) 0).testBit (min j i) ||(match gj.i with
    | .app k _ _=>Nat.ble k 4
    | .st n _ _=>Nat.ble n 4&&decide (i<j)
    |_=>false)
   |none=>true)&&(List.range l.length).any fun j=>decide (i<j)&&(match l[j]? with
   |some ⟨.app _ (.l _) _,_⟩=>!(bs.getD (max j i) 0).testBit (min j i)
   |_=>false))))
def Xi (bs:List Nat)(l:List GI)(i:Nat):Bool:=aiI bs l i ||aiJ bs l i
def Xh (bs:List Nat)(l:List GI):List Src:=(List.range l.length).filterMap fun i=>if Xi bs l i=true then(match l[i]? with
 |some ⟨.ld _ _ x,_⟩=>some x
 |_=>none)else none
def aim (bs:List Nat)(l:List GI)(p:Nat):Bool:=
 (List.range l.length).any fun j=>match l[j]? with
   |some ⟨.ia _ (.l q) _,_⟩=>Nat.beq q p&&(List.range l.length).any fun i=>match l[i]? with
    |some ⟨.ld _ _ (.l r),_⟩=>Nat.beq r j&&looseAt bs l i
    |_=>false
   |_=>false
def argAt (l:List GI)(p:Nat):Bool:=l.any fun g=>match g.i with
 | .call _ args _=>args.any fun s=>match s with
  | .l q=>Nat.beq q p
  |_=>false
 |_=>false
def mF (bs:List Nat)(l0:List GI):Nat->List GI->List GI
 |_,[]=>[]
 |p,g::r=>(match g.i with
  | .ld n ag x=>if looseAt bs l0 p then(if Of bs l0 p then⟨.ldU n ag x,g.g⟩else if Xi bs l0 p then⟨.ldW n ag x,g.g⟩else⟨.ldI n ag x,g.g⟩)else g
  | .st n x y=>if(Xh bs l0).isEmpty=true then g else⟨.stU n x y (Xh bs l0),g.g⟩
  | .bsl k z n ps=>if(aim bs l0 p ||(Nat.ble 2 k&&argAt l0 p))=true then⟨.bslI k z n ps,g.g⟩else g
  |i=>⟨i.toN,g.g⟩)::mF bs l0 (p+1) r
def ice (bL:List Nat)(l:List GI):List GI:=l.map fun g=>match g.i with
 | .bsl k z n ps=>if bL.contains (950000000+100*k+n)then⟨.bslI k z n ps,g.g⟩else g
 |_=>g
def CC.code (C:CC):Code->Option AC
 | .skip=>some .skip
 | .region _ ops draw=>match C.ops [] ops.toList with
  |some l=>if draw then
    if BM ops.toList (mF (ph [] ops.toList) l 0 l)then some (.reg true (mF (ph [] ops.toList) l 0 l) (C.ir 0 ops.toList))else none
   else some (.reg false (ice C.bL l) (C.ir 0 ops.toList))
  |none=>none
 | .seq a b=>match C.code a,C.code b with
  |some a,some b=>some (.seq a b)
  |_,_=>none
 | .cond c a b=>match C.src [] c,C.code a,C.code b with
  |some c,some a,some b=>some (.cond c a b)
  |_,_,_=>none
 | .block id a=>(C.code a).map (.block id)
 | .loop a=>(C.code a).map .loop
 | .exit id=>some (.exit id)
 | .ret=>some .ret
 | .scope a=>C.code a
 | .label _=>some .skip
 |_=>none
def R5:(defs:List (Option Nat))->List Oper->List Nat
 |_,[]=>[]
 |defs,o::r=>(o.op.operands.toList.filterMap fun
   | .tmp t=>if(posOf t defs).isNone then some t else none
   |_=>none)++R5 (defs++[o.dst]) r
def DK:Code->List Nat
 | .region _ ops _=>R5 [] ops.toList
 | .seq a b=>DK a++DK b
 | .cond c a b=>(match c with
  | .tmp t=>[t]
  |_=>[])++DK a++DK b
 | .block _ a=>DK a
 | .loop a=>DK a
 | .scope a=>DK a
 |_=>[]
def sY:List ResultVar->List Nat
 |[]=>[]
 | .tmp t::r=>t::sY r
 | .cell t _::r=>t::sY r
def dedup:List Nat->List Nat->List Nat
 |acc,[]=>acc.reverse
 |acc,a::r=>if acc.contains a then dedup acc r else dedup (a::acc) r
def xJ (P:Program)(sl:List Nat):List ResultVar->Option (List Gg)
 |[]=>some []
 | .tmp t::r=>match AB sl t,xJ P sl r with
  |some a,some l=>some (⟨a,none⟩::l)
  |_,_=>none
 | .cell t ty::r=>match AB sl t,xJ P sl r with
  |some a,some l=>if P.cellsOf ty=0\/(P.underlying ty).isNone\/(bY P ty=false/\P.cellsOf ty≠1)then none else some (⟨a,some (P.cellsOf ty,bY P ty)⟩::l)
  |_,_=>none
def slotsOf (fn:Func):List Nat:=dedup [] (List.range (fn.params.size+fn.nfree)++sY fn.results.toList++DK (fn.body.getD .skip))
def vmOps (P:Program)(ops:List Oper):Bool:=ops.any fun o=>match o.op with
 | .makeFunc _ first _=>!first.isEmpty
 | .lookup t _ _ _=>(match P.underlying t with
  |some (.map _ e)=>(match P.underlying e with
   |some (.func ..)=>true
   |_=>false)
  |_=>false)
 | .call c=>(match c.callee with
  | .value (.tmp _)=>c.argTypes.toList.any fun t=>match P.underlying t with
   |some (.pointer _)=>true
   |_=>false
  |_=>false)
 |_=>false
def M7 (P:Program):Code->Bool
 | .region _ ops _=>vmOps P ops.toList
 | .seq a b=>M7 P a ||M7 P b
 | .cond _ a b=>M7 P a ||M7 P b
 | .block _ a=>M7 P a
 | .loop a=>M7 P a
 | .scope a=>M7 P a
 |_=>false
def PI (P:Program)(fn:Func):Bool:=M7 P (fn.body.getD .skip)
def compile (P:Program)(ν:List (Nat×Nat))(bL:List Nat)(fn:Func):Option aj:=
 match fn.body with
 |some body=>
  match CC.code {P,ν,bL,slots:=slotsOf fn,ntmps:=fn.ntmps,vm:=PI P fn} body,xJ P (slotsOf fn) fn.results.toList with
  |some a,some res=>
   if fn.params.size+fn.nfree<=fn.ntmps then some {np:=fn.params.size+fn.nfree,ns:=(slotsOf fn).length,res,rsh:=fn.resultTypes.toList.map fun t=>bif bL.contains (keepN fn)then aiw (HV P 8 t)else HV P 8 t,body:=a}else none
  |_,_=>none
 |none=>none
def AF:List (Nat×Nat):=[(3,1216),(6,89),(7,28),(8,90),(9,29),(10,91),(11,92),(12,264),(13,265),(14,153),(16,25),(17,52),(18,75),(20,501),(21,110),(22,112),(23,109),(24,111),(25,135),(26,136),(27,266),(28,147),(29,114),(30,267),(31,268),(32,269),(33,270),(34,175),(35,142),(36,138),(37,315),(38,502),(39,410),(40,170),(41,186),(42,73),(43,221),(44,217),(45,424),(46,296),(47,297),(48,298),(49,159),(50,71),(51,344),(52,345),(53,503),(54,504),(55,143),(56,145),(57,144),(58,360),(59,361),(60,362),(61,505),(62,46),(63,506),(64,169),(65,507),(66,508),(67,408),(68,209),(69,295),(70,409),(71,353),(72,354),(73,355),(74,349),(75,553),(76,689),(77,690),(78,274),(79,691),(80,273),(81,623),(82,624),(83,417),(84,219),(85,464),(86,455),(87,456),(88,630),(89,631),(90,535),(91,536),(92,216),(93,218),(94,572),(95,358),(96,580),(97,356),(98,359),(99,357),(100,581),(101,582),(102,583),(103,692),(104,693),(105,694),(106,183),(107,158),(108,629),(109,403),(110,695),(111,531),(112,516),(113,440),(114,441),(115,442),(116,530),(117,532),(118,533),(119,534),(120,622),(121,208),(122,74),(123,511),(124,510),(125,712),(126,628),(127,316),(128,461),(129,462),(130,249),(131,470),(132,666),(133,667),(134,668),(135,783),(136,453),(137,454),(138,457),(139,458),(140,459),(141,460),(142,744),(143,745),(144,748),(145,749),(146,750),(147,751),(148,752),(149,753),(150,754),(151,755),(152,829),(153,184),(154,830),(155,831),(156,415),(157,381),(158,627),(159,617),(160,618),(161,704),(162,658),(163,659),(164,714),(165,780),(166,72),(167,220),(168,699),(169,700),(170,701),(171,861),(172,554),(173,927),(174,669),(175,670),(176,671),(177,672),(178,673),(179,674),(180,896),(181,897),(182,898),(183,899),(184,900),(185,901),(186,902),(187,903),(188,156),(189,816),(190,904),(191,905),(192,906),(193,907),(194,908),(195,909),(196,416),(197,770),(198,782),(199,777),(200,778),(201,924),(202,925),(203,70),(204,215),(205,463),(206,980),(207,734),(208,812),(209,813),(210,814),(211,815),(212,1006),(213,1007),(214,1008),(215,482),(216,676),(217,375),(218,376),(219,377),(220,378),(221,379),(222,955),(223,1009),(224,1010),(225,1011),(226,1012),(227,1013),(228,1014),(229,1015),(230,916),(231,917),(232,926),(233,1023),(234,1024),(235,210),(236,211),(237,212),(238,213),(239,214),(240,450),(241,451),(242,242),(243,452),(244,1055),(245,882),(246,952),(247,953),(248,954),(249,678),(250,1079),(251,677),(252,599),(253,600),(254,601),(255,602),(256,603),(257,1080),(258,1081),(259,1082),(260,1083),(261,1084),(262,374),(263,1085),(264,1019),(265,1020),(266,1025),(267,1087),(268,443),(269,444),(270,445),(271,446),(272,447),(273,448),(274,449),(275,489),(276,664),(277,665),(279,1032),(280,1033),(281,1034),(282,1035),(283,1036),(284,769),(285,1118),(286,604),(287,1119),(288,1120),(289,1121),(290,598),(291,1122),(292,1086),(293,495),(294,496),(295,124),(296,660),(297,661),(298,662),(299,254),(300,487),(301,663),(303,336),(305,1097),(306,1098),(307,1099),(308,1100),(309,771),(310,1137),(311,1138),(312,1139),(313,919),(314,920),(315,921),(316,682),(317,683),(318,684),(319,685),(321,808),(322,809),(323,810),(324,811),(330,1126),(331,918),(332,1144),(333,772),(334,1145),(335,1021),(336,819),(344,827),(345,828),(349,946),(350,947),(351,948),(352,949),(353,950),(354,951),(358,1141),(359,1147),(360,1148),(361,956),(362,957),(369,1031)]
def NR:List Nat:=[219,1091,1354,1894,1896,1616,1320,1618,1898,2062,2066,2282,2068,2252,2194,2064,1904,900,931,937,935,445,978,1328,904,942,944,946,952,448,522,1724,1726,1728,1430,486,500,1842,760,314,310,308,1836,872,870,406,410,412,103920080,104450022,104360064,595,1071,593,597,221,533,1004,1018,1510,1504,1496,1164,1166,724,1818,1502,950000702,1838,1544,1000000337,500000000]
noncomputable def cfY (f:Nat):Option aj:=((Go.Proofs.Tryz.prog).funcs[f]?).bind (compile Go.Proofs.Tryz.prog AF NR)
def zofN (n:Nat):Int.ofNat (no_index (@OfNat.ofNat Nat n (instOfNatNat n)))=@OfNat.ofNat Int n (@instOfNat n):=rfl
def zofU (n:Nat)(h:n<2^8):UInt8.ofBitVec (BitVec.ofFin (Fin.mk (no_index (@OfNat.ofNat Nat n (instOfNatNat n))) h))=(OfNat.ofNat n:UInt8):=oZ.1 (by show n=(UInt8.ofNat n).toNat;rw[UInt8.toNat_ofNat'];exact(Nat.mod_eq_of_lt h).symm)
def zofM:Int.negSucc 0=-1:=rfl
noncomputable def ba (f:Nat)(s:{a:aj//cfY f=some a}:=by refine⟨?_, ?_⟩;rotate_left;conv=>lhs;reduce;dsimp only[zofN,zofM];try simp only[zofU]):aj:=s.1
section
structure X where
 w:World
 I:Nat->Prop
 β:Nat->Option (Nat×Nat×Nat)
def TA (es:List MapEntry)(i:Nat):Value:=match es[i/2]? with
 |some e=>if i%2=0 then e.key else e.val
 |none=>undef
inductive RD (ν:List (Nat×Nat))(x:X):Value->D->Prop
 |any (v:Value):RD ν x v .any
 |bool (b:Bool):RD ν x (.bool b) (.bool b)
 |int (k:IntKind) (n:Int):RD ν x (.int k n) (.int k n)
 |str (s:List UInt8) (h:s.length<=maxLen):RD ν x (.string ⟨⟨s⟩⟩) (.str s)
 |agg (cs:Array Value) (ds:List D) (hl:cs.size=ds.length) (h1:∀i,i<ds.length->(cs.getD i undef).oneCell'=true)
   (h:∀i,i<ds.length->RD ν x (cs.getD i undef) (ds.getD i .any)):RD ν x (.agg cs) (.agg ds)
 |tup (cs:Array Value) (ds:List D) (hl:cs.size=ds.length)
   (h:∀i,i<ds.length->RD ν x (cs.getD i undef) (ds.getD i .any)):RD ν x (.tuple cs) (.tup ds)
 |aK:RD ν x (.slice none 0 0) .aK
 |sl (a:Option Addr) (b off len cap k:Nat) (es:List D) (c:Nat->Nat->Value) (hlen:len=es.length)
   (ha:es=[]\/(a=some ⟨b,off,none⟩/\x.I b)) (hcap:len<=cap) (hm:cap<=maxLen)
   (hk:∀i,i<len->(es.getD i .any).cells.length=k) (hn:∀i,i<len->(es.getD i .any).aS=true)
   (hc:∀i j,i<len->j<k->x.w.cell? ⟨b,off+i*k+j,none⟩=some (c i j))
   (h1:∀i j,i<len->j<k->(c i j).oneCell'=true)
   (h:∀i j,i<len->j<k->RD ν x (c i j) ((es.getD i .any).cells.getD j .any)):RD ν x (.slice a len cap) (.sl k es)
 |ref (b off k i o at_:Nat) (es:List D) (c:Nat->Nat->Value) (hI:x.I b) (hat:at_=off+i*k+o)
   (hk:∀i,i<es.length->(es.getD i .any).cells.length=k) (hn:∀i,i<es.length->(es.getD i .any).aS=true)
   (hc:∀i j,i<es.length->j<k->x.w.cell? ⟨b,off+i*k+j,none⟩=some (c i j))
   (h1:∀i j,i<es.length->j<k->(c i j).oneCell'=true)
   (h:∀i j,i<es.length->j<k->RD ν x (c i j) ((es.getD i .any).cells.getD j .any)):RD ν x (.pointer (some ⟨b,at_,none⟩)) (.ref k es i o)
 |ptr (l k i o b base tot at_:Nat) (hβ:x.β l=some (b,base,tot)) (hat:at_=base+i*k+o):RD ν x (.pointer (some ⟨b,at_,none⟩)) (.ptr l k i o)
 |own (l k i n b base tot cap:Nat) (a:Addr) (hβ:x.β l=some (b,base,tot)) (ha:0<cap->a=⟨b,base+i*k,none⟩)
   (hcap:n<=cap) (hm:cap<=maxLen) (ht:i+cap<=tot):RD ν x (.slice (some a) n cap) (.own l k i n)
 |own0 (l k i:Nat) (a:Option Addr):RD ν x (.slice a 0 0) (.own l k i 0)
 |nilp:RD ν x (.pointer none) .nilp
 |fn (fid n:Nat) (cs:Array Value) (ds:List D) (hν:dH ν fid=some n) (hl:cs.size=ds.length)
   (h:∀i,i<ds.length->RD ν x (cs.getD i undef) (ds.getD i .any)):RD ν x (.func (.func fid) #[] cs) (.fn n ds)
 |dU (fid n:Nat) (fs:Array Value) (ds:List D) (hν:dH ν fid=some n) (hl:fs.size=ds.length)
   (h:∀i,i<ds.length->RD ν x (fs.getD i undef) (ds.getD i .any)):RD ν x (.func (.func fid) fs #[]) (.fn (n+1000000) ds)
 |nilf:RD ν x .nilFunc .nilf
 |bx (b at_:Nat) (ds:List D) (v:Value) (hI:x.I b) (hc:x.w.cell? ⟨b,at_,none⟩=some v) (h1:v.oneCell'=true) (hl:ds.length=1)
   (h:∀i,i<ds.length->RD ν x v (ds.getD i .any)):RD ν x (.pointer (some ⟨b,at_,none⟩)) (.fn 3000000 ds)
 |mpn:RD ν x (.map none) (.fn 5100000 [])
 |im (l b base tot:Nat) (hβ:x.β l=some (b,base,tot)):RD ν x (.map (some b)) (.fn 5000000 [.it l])
 |it (l b base tot:Nat) (hβ:x.β l=some (b,base,tot)):RD ν x (.pointer (some ⟨b,0,none⟩)) (.it l)
section
variable {ν:List (Nat×Nat)} {x x':X}
structure Le (x x':X):Prop where
 I:∀b,x.I b->x'.I b
 oP:∀b,x.I b->x'.w.heap[b]? =x.w.heap[b]?
 β:∀l p,x.β l=some p->x'.β l=some p
theorem iD {w w':World}{b o:Nat}{v:Value}(h:w'.heap[b]? =w.heap[b]?)(hc:w.cell? ⟨b,o,none⟩=some v):w'.cell? ⟨b,o,none⟩=some v:=by
 rw[<-hc];unfold World.cell?;simp only[h]
def Le.refl (x:X):Le x x:=⟨fun _ h=>h,fun _ _=>rfl,fun _ _ h=>h⟩
def Le.trans {x'':X}(h:Le x x')(h':Le x' x''):Le x x'':=
 ⟨fun b hb=>h'.I b (h.I b hb),fun b hb=>(h'.oP b (h.I b hb)).trans (h.oP b hb),fun l p hp=>h'.β l p (h.β l p hp)⟩
def RD.mono {v:Value}{d:D}(h:RD ν x v d)(hl:Le x x'):RD ν x' v d:=by
 induction h with
 |any v=>exact .any v
 |bool b=>exact .bool b
 |int k n=>exact .int k n
 |str s h=>exact .str s h
 |agg cs ds hl' h1 _ ih=>exact .agg cs ds hl' h1 ih
 |tup cs ds hl' _ ih=>exact .tup cs ds hl' ih
 |aK=>exact .aK
 |sl a b off len cap k es c hlen ha hcap hm hk hn hc h1 _ ih=>
  refine .sl a b off len cap k es c hlen (ha.imp id fun⟨p,q⟩=>⟨p,hl.I _ q⟩) hcap hm hk hn (fun i j hi hj=>?_) h1 ih;rcases ha with rfl|⟨_,hI⟩
  .simp at hlen;omega
  .exact iD (hl.oP _ hI) (hc i j hi hj)
 |ref b off k i o at_ es c hI hat hk hn hc h1 _ ih=>
  exact .ref b off k i o at_ es c (hl.I _ hI) hat hk hn (fun i j hi hj=>iD (hl.oP _ hI) (hc i j hi hj)) h1 ih
 |ptr l k i o b base tot at_ hβ hat=>exact .ptr l k i o b base tot at_ (hl.β _ _ hβ) hat
 |own l k i n b base tot cap a hβ ha hcap hm ht=>exact .own l k i n b base tot cap a (hl.β _ _ hβ) ha hcap hm ht
 |own0 l k i a=>exact .own0 l k i a
 |nilp=>exact .nilp
 |fn fid n cs ds hν hl' _ ih=>exact .fn fid n cs ds hν hl' ih
 |dU fid n cs ds hν hl' _ ih=>exact .dU fid n cs ds hν hl' ih
 |nilf=>exact .nilf
 |bx b at_ ds v hI hc h1 hl' _ ih=>exact .bx b at_ ds v (hl.I _ hI) (iD (hl.oP _ hI) hc) h1 hl' ih
 |mpn=>exact .mpn
 |im l b base tot hβ=>exact .im l b base tot (hl.β _ _ hβ)
 |it l b base tot hβ=>exact .it l b base tot (hl.β _ _ hβ)
def cR:∀{ds:List D},aL ds=true->∀i,(ds.getD i .any).aS=true
 |[],_,i=>by simp[D.aS]
 |d::r,h,0=>by simp[aL]at h;simpa using h.1
 |d::r,h,i+1=>by simp[aL]at h;simpa using cR h.2 i
def jJ:∀{ds:List D},nV ds=true->∀i,(ds.getD i .any).fe=true
 |[],_,i=>by simp[D.fe]
 |d::r,h,0=>by simp[nV]at h;simpa using h.1
 |d::r,h,i+1=>by simp[nV]at h;simpa using jJ h.2 i
def rX:∀{ds:List D},(∀i,i<ds.length->(ds.getD i .any).aS=true)->aL ds=true
 |[],_=>rfl
 |d::r,h=>by
  simp only[aL,aD];exact⟨by simpa using h 0 aF,rX fun i hi=>by simpa using h (i+1) fo⟩
def lB {d:D}(h:d.aS=true)(j:Nat):(d.cells.getD j .any).aS=true:=by
 cases d<;>simp only[D.cells]<;>first
  |(simp only[D.aS]at h;exact cR h j)
  |(cases j<;>simp_all[D.aS])
def RD.aS {v:Value}{d:D}(h:RD ν x v d)(hn:d.aS=true)(hI:∀b,x.I b->x'.I b)(hk:∀b,x.I b->x'.w.heap[b]? =x.w.heap[b]?):RD ν x' v d:=by
 induction h with
 |any v=>exact .any v
 |bool b=>exact .bool b
 |int k n=>exact .int k n
 |str s h=>exact .str s h
 |agg cs ds hl' h1 _ ih=>exact .agg cs ds hl' h1 fun i hi=>ih i hi (cR xZ i)
 |tup cs ds hl' _ ih=>exact .tup cs ds hl' fun i hi=>ih i hi (cR xZ i)
 |aK=>exact .aK
 |sl a b off len cap k es c hlen ha hcap hm hk' hn' hc h1 _ ih=>
  refine .sl a b off len cap k es c hlen (ha.imp id fun⟨p,q⟩=>⟨p,hI _ q⟩) hcap hm hk' hn' (fun i j hi hj=>?_) h1 fun i j hi hj=>ih i j hi hj (lB (hn' i hi) j)
  grind [iD]
 |ref b off k i o at_ es c hIb hat hk' hn' hc h1 _ ih=>
  exact .ref b off k i o at_ es c (hI _ hIb) hat hk' hn' (fun i j hi hj=>iD (hk _ hIb) (hc i j hi hj)) h1 fun i j hi hj=>ih i j hi hj (lB (hn' i hi) j)
 |ptr=>simp[D.aS]at hn
 |own=>simp[D.aS]at hn
 |own0=>simp[D.aS]at hn
 |nilp=>exact .nilp
 |fn fid n cs ds hν hl' _ ih=>exact .fn fid n cs ds hν hl' fun i hi=>ih i hi (cR xZ i)
 |dU fid n cs ds hν hl' _ ih=>exact .dU fid n cs ds hν hl' fun i hi=>ih i hi (cR xZ i)
 |nilf=>exact .nilf
 |bx b at_ ds v hIr hc h1 hl' _ ih=>exact .bx b at_ ds v (hI _ hIr) (iD (hk _ hIr) hc) h1 hl' fun i hi=>ih i hi (cR xZ i)
 |mpn=>exact .mpn
 |im=>simp[D.aS,aL]at hn
 |it=>simp[D.aS]at hn
def RD.fe {v:Value}{d:D}(h:RD ν x v d)(hn:d.fe=true):RD ν x' v d:=by
 induction h with
 |any v=>exact .any v
 |bool b=>exact .bool b
 |int k n=>exact .int k n
 |str s h=>exact .str s h
 |agg cs ds hl' h1 _ ih=>exact .agg cs ds hl' h1 fun i hi=>ih i hi (jJ (by simpa[D.fe]using hn) i)
 |tup cs ds hl' _ ih=>exact .tup cs ds hl' fun i hi=>ih i hi (jJ (by simpa[D.fe]using hn) i)
 |aK=>exact .aK
 |sl=>simp[D.fe]at hn
 |ref=>simp[D.fe]at hn
 |ptr=>simp[D.fe]at hn
 |own=>simp[D.fe]at hn
 |own0=>simp[D.fe]at hn
 |nilp=>exact .nilp
 |fn fid n cs ds hν hl' _ ih=>exact .fn fid n cs ds hν hl' fun i hi=>ih i hi (jJ (by simp[D.fe]at hn;exact hn.2) i)
 |dU fid n cs ds hν hl' _ ih=>exact .dU fid n cs ds hν hl' fun i hi=>ih i hi (jJ (by simp[D.fe]at hn;exact hn.2) i)
 |nilf=>exact .nilf
 |bx=>simp[D.fe]at hn
 |mpn=>exact .mpn
 |im=>simp[D.fe]at hn
 |it=>simp[D.fe]at hn
theorem RD.cells {v:Value}{d:D}(h:RD ν x v d)(hd:0<d.cells.length):
  v.cells.size=d.cells.length/\∀j,j<d.cells.length->(v.cells.getD j undef).oneCell'=true/\RD ν x (v.cells.getD j undef) (d.cells.getD j .any):=by
 cases h with
 |any=>simp[D.cells]at hd
 |tup=>simp[D.cells]at hd
 |agg cs ds hl h1 h=>exact⟨hl,fun j hj=>⟨h1 j hj,h j hj⟩⟩
 |bool b=>exact⟨rfl,fun j hj=>by simp[D.cells]at hj;subst hj;exact⟨rfl,.bool b⟩⟩
 |int k n=>exact⟨rfl,fun j hj=>by simp[D.cells]at hj;subst hj;exact⟨rfl,.int k n⟩⟩
 |str s h=>exact⟨rfl,fun j hj=>by simp[D.cells]at hj;subst hj;exact⟨rfl,.str s h⟩⟩
 |aK=>exact⟨rfl,fun j hj=>by simp[D.cells]at hj;subst hj;exact⟨rfl,.aK⟩⟩
 |sl a b off len cap k es c hlen ha hcap hm hk hn hc h1 h=>exact⟨rfl,fun j hj=>by simp[D.cells]at hj;subst hj;exact⟨rfl,.sl a b off len cap k es c hlen ha hcap hm hk hn hc h1 h⟩⟩
 |ref b off k i o at_ es c hI hat hk hn hc h1 h=>exact⟨rfl,fun j hj=>by simp[D.cells]at hj;subst hj;exact⟨rfl,.ref b off k i o at_ es c hI hat hk hn hc h1 h⟩⟩
 |ptr l k i o b base tot at_ hβ hat=>exact⟨rfl,fun j hj=>by simp[D.cells]at hj;subst hj;exact⟨rfl,.ptr l k i o b base tot at_ hβ hat⟩⟩
 |own l k i n b base tot cap a hβ ha hcap hm ht=>exact⟨rfl,fun j hj=>by simp[D.cells]at hj;subst hj;exact⟨rfl,.own l k i n b base tot cap a hβ ha hcap hm ht⟩⟩
 |own0 l k i a=>exact⟨rfl,fun j hj=>by simp[D.cells]at hj;subst hj;exact⟨rfl,.own0 l k i a⟩⟩
 |nilp=>exact⟨rfl,fun j hj=>by simp[D.cells]at hj;subst hj;exact⟨rfl,.nilp⟩⟩
 |fn fid n cs ds hν hl h=>exact⟨rfl,fun j hj=>by simp[D.cells]at hj;subst hj;exact⟨rfl,.fn fid n cs ds hν hl h⟩⟩
 |dU fid n cs ds hν hl h=>exact⟨rfl,fun j hj=>by simp[D.cells]at hj;subst hj;exact⟨rfl,.dU fid n cs ds hν hl h⟩⟩
 |nilf=>exact⟨rfl,fun j hj=>by simp[D.cells]at hj;subst hj;exact⟨rfl,.nilf⟩⟩
 |bx b at_ ds v hI hc h1 hl h=>exact⟨rfl,fun j hj=>by simp[D.cells]at hj;subst hj;exact⟨rfl,.bx b at_ ds v hI hc h1 hl h⟩⟩
 |mpn=>exact⟨rfl,fun j hj=>by simp[D.cells]at hj;subst hj;exact⟨rfl,.mpn⟩⟩
 |im l b base tot hβ=>exact⟨rfl,fun j hj=>by simp[D.cells]at hj;subst hj;exact⟨rfl,.im l b base tot hβ⟩⟩
 |it l b base tot hβ=>exact⟨rfl,fun j hj=>by simp[D.cells]at hj;subst hj;exact⟨rfl,.it l b base tot hβ⟩⟩
end
end
section
section
variable {ν:List (Nat×Nat)} {x x':X}
def zVv (j:Nat):Value:=if j<3 then .int .i64 0 else .string ⟨⟨[]⟩⟩
class cG where
 tB:TypeId:=0
 tU:TypeId:=0
 gd:X->Prop
 le:∀x x':X,(∀b,x.I b->x'.I b)->(∀b,x.I b->x'.w.heap[b]? =x.w.heap[b]?)->gd x->gd x'
 gz:Nat->Prop:=fun _=>False
 gzr:∀(x:X) (g:Nat),gd x->gz g->∀j,j<5->x.w.cell? ⟨g,j,none⟩=some (zVv j):=by exact fun _ _ _ h=>h.elim
variable [cG]
def oK (ν:List (Nat×Nat))(x:X)(b base tot:Nat):bd->Prop
 | .buf k es=>0<k/\es.length<=tot/\∃c T fr,x.w.heap[b]? =some (.cells c T fr)/\base+tot*k<=c.size/\
   (∀o,o<c.size->¬(fr.1<=o/\o<fr.2))/\
   ∀i,i<es.length->(es.getD i .any).cells.length=k/\∀j,j<k->
    (c.getD (base+i*k+j) undef).oneCell'=true/\RD ν x (c.getD (base+i*k+j) undef) ((es.getD i .any).cells.getD j .any)
 | .iter s pos=>x.w.heap[b]? =some (.stringIter ⟨⟨s⟩⟩ pos)/\s.length<=maxLen
 | .row s=>base=0/\∃c,x.w.heap[b]? =some (.cells c cG.tU (0,0))/\c.size=tot/\tot<=maxLen/\s.length<=tot/\∀i,i<s.length->c.getD i undef=.int .u8 (s.getD i 0).toNat
 | .bld o n u=>base=0/\∃v,x.w.heap[b]? =some (.cells #[.pointer (if u=true then some ⟨b,0,none⟩else none),v] cG.tB (0,0))/\
   match o with
   |none=>n=0/\v=.slice none 0 0
   |some l=>∃g t,v=.slice (some ⟨g,0,none⟩) n t/\n<=t/\x.β l=some (g,0,t)
 | .mpb kvs=>aL kvs=true/\∃es cl,x.w.heap[b]? =some (.map es cl)/\2*es.size=kvs.length/\(es.toList.map (·.key)).Nodup/\∀i,i<kvs.length->RD ν x (TA es.toList i) (kvs.getD i .any)
def qU (h:Le x x')(hg:cG.gd x):cG.gd x':=cG.le x x' h.I h.oP hg
structure fu (ν:List (Nat×Nat))(x:X)(f:Nat->Option bd):Prop where
 own:∀l blk b base tot,f l=some blk->x.β l=some (b,base,tot)->¬x.I b/\oK ν x b base tot blk
 inj:∀l l' b base tot base' tot',f l≠none->f l'≠none->x.β l=some (b,base,tot)->x.β l'=some (b,base',tot')->l=l'
 imm:∀b,x.I b->b<x.w.heap.size
 dU:∀l b base tot,x.β l=some (b,base,tot)->b<x.w.heap.size
 gd:cG.gd x
structure Step (x x':X):Prop where
 os:x'.w.os=x.w.os
 tape:x'.w.tape=x.w.tape
 output:x'.w.output=x.w.output
 size:x.w.heap.size<=x'.w.heap.size
 I:∀b,x.I b->x'.I b
 oP:∀b,x.I b->x'.w.heap[b]? =x.w.heap[b]?
 β:∀l p,x.β l=some p->x'.β l=some p
 old:∀b,b<x.w.heap.size->(∀l p,x.β l=some p->p.1≠b)->x'.w.heap[b]? =x.w.heap[b]?
 newI:∀b,x'.I b->x.I b\/x.w.heap.size<=b\/∃l p,x.β l=some p/\p.1=b
 newβ:∀l p,x'.β l=some p->x.β l=some p\/x.w.heap.size<=p.1\/∃l' p',x.β l'=some p'/\p'.1=p.1
def Step.le (h:Step x x'):Le x x':=⟨h.I,h.oP,h.β⟩
def Step.refl (x:X):Step x x:=⟨rfl,rfl,rfl,aO _,fun _ h=>h,fun _ _=>rfl,fun _ _ h=>h,fun _ _ _=>rfl,fun _ h=>.inl h,fun _ _ h=>.inl h⟩
def Step.trans {x'':X}(h:Step x x')(h':Step x' x''):Step x x'':=by
 refine⟨h'.os.trans h.os,h'.tape.trans h.tape,h'.output.trans h.output,eX h.size h'.size,fun b hb=>h'.I b (h.I b hb),
  fun b hb=>(h'.oP b (h.I b hb)).trans (h.oP b hb),fun l p hp=>h'.β l p (h.β l p hp), ?_, ?_, ?_⟩
 .intro b hb hn;refine(h'.old b (jd hb h.size) ?_).trans (h.old b hb hn);intro l p hp e;rcases h.newβ l p hp with h1|h1|⟨l',p',h1,h2⟩
  .exact hn l p h1 e
  .omega
  .exact hn l' p' h1 (h2.trans e)
 .intro b hb;rcases h'.newI b hb with h1|h1|⟨l,p,h1,h2⟩
  .exact h.newI b h1
  .exact .inr (.inl (eX h.size h1))
  .rcases h.newβ l p h1 with h3|h3|⟨l',p',h3,h4⟩
   .exact .inr (.inr ⟨l,p,h3,h2⟩)
   .exact .inr (.inl (h2▸h3))
   .exact .inr (.inr ⟨l',p',h3,h4.trans h2⟩)
 .intro l p hp;rcases h'.newβ l p hp with h1|h1|⟨l',p',h1,h2⟩
  .exact h.newβ l p h1
  .exact .inr (.inl (eX h.size h1))
  .rcases h.newβ l' p' h1 with h3|h3|⟨l'',p'',h3,h4⟩
   .exact .inr (.inr ⟨l',p',h3,h2⟩)
   .exact .inr (.inl (h2▸h3))
   .exact .inr (.inr ⟨l'',p'',h3,h4.trans h2⟩)
def oK.mono {b base tot:Nat}{blk:bd}(h:oK ν x b base tot blk)(hl:Le x x')(hb:x'.w.heap[b]? =x.w.heap[b]?):oK ν x' b base tot blk:=by
 cases blk with
 |buf k es=>
  obtain⟨hk,ht,c,T,fr,h1,h2,h3,h4⟩:=h;exact⟨hk,ht,c,T,fr,hb.trans h1,h2,h3,fun i hi=>⟨(h4 i hi).1,fun j hj=>⟨((h4 i hi).2 j hj).1,((h4 i hi).2 j hj).2.mono hl⟩⟩⟩
 |iter s pos=>exact⟨hb.trans h.1,h.2⟩
 |row s=>
  obtain⟨h0,c,h1,h2⟩:=h;exact⟨h0,c,hb.trans h1,h2⟩
 |mpb kvs=>
  obtain⟨h0,es,cl,h1,h2,h3,h4⟩:=h;exact⟨h0,es,cl,hb.trans h1,h2,h3,fun i hi=>(h4 i hi).mono hl⟩
 |bld o n u=>
  obtain⟨h0,v,h1,h2⟩:=h;refine⟨h0,v,hb.trans h1, ?_⟩;cases o with
  |none=>exact h2
  |some l=>
   obtain⟨g,t,h3,h4,h5⟩:=h2;exact⟨g,t,h3,h4,hl.β _ _ h5⟩
structure ik (w w':World):Prop where
 os:w'.os=w.os
 tape:w'.tape=w.tape
 output:w'.output=w.output
 size:w.heap.size<=w'.heap.size
 old:∀b,b<w.heap.size->w'.heap[b]? =w.heap[b]?
def ik.refl (w:World):ik w w:=⟨rfl,rfl,rfl,aO _,fun _ _=>rfl⟩
def lN (w:World)(o:Obj)(b:Nat)(hb:b<w.heap.size):(w.alloc o).heap[b]? =w.heap[b]? :=by
 simp only[World.alloc,Array.getElem?_push];rw[ah ae]
def dN (w:World)(o:Obj):(w.alloc o).heap[w.heap.size]? =some o:=by show(w.heap.push o)[w.heap.size]? =some o;simp
def ik.alloc (w:World)(o:Obj):ik w (w.alloc o):=⟨rfl,rfl,rfl,aF,fun b hb=>lN w o b hb⟩
def ik.trans {w w' w'':World}(h:ik w w')(h':ik w' w''):ik w w'':=
 ⟨h'.os.trans h.os,h'.tape.trans h.tape,h'.output.trans h.output,eX h.size h'.size,fun b hb=>(h'.old b (jd hb h.size)).trans (h.old b hb)⟩
def ik.drew (w:World):ik w w.drew:=⟨rfl,rfl,rfl,aO _,fun _ _=>rfl⟩
def Step.grow {w':World}(hw:ik x.w w')(himm:∀b,x.I b->b<x.w.heap.size):Step x ⟨w',x.I,x.β⟩:=
 ⟨hw.os,hw.tape,hw.output,hw.size,fun _ h=>h,fun b hb=>hw.old b (himm b hb),fun _ _ h=>h,fun b hb _=>hw.old b hb,fun _ h=>.inl h,fun _ _ h=>.inl h⟩
def fu.grow {f:Nat->Option bd}{w':World}(h:fu ν x f)(hw:ik x.w w'):fu ν ⟨w',x.I,x.β⟩ f:=
 ⟨fun l blk b base tot h1 h2=>⟨(h.own l blk b base tot h1 h2).1,(h.own l blk b base tot h1 h2).2.mono (Step.grow hw h.imm).le (hw.old b (h.dU l b base tot h2))⟩,
  h.inj,fun b hb=>jd (h.imm b hb) hw.size,fun l b base tot hb=>jd (h.dU l b base tot hb) hw.size,qU (Step.grow hw h.imm).le h.gd⟩
def eS (β:Nat->Option (Nat×Nat×Nat))(L:Nat)(p:Nat×Nat×Nat):Nat->Option (Nat×Nat×Nat):=fun l=>if l=L then some p else β l
def jn (f:Nat->Option bd)(L:Nat)(b:Option bd):Nat->Option bd:=fun l=>if l=L then b else f l
def Dz {w':World}{L n base tot:Nat}(hw:ik x.w w')(hn:x.w.heap.size<=n)(hL:x.β L=none)(himm:∀b,x.I b->b<x.w.heap.size):
  Step x ⟨w',x.I,eS x.β L (n,base,tot)⟩:=by
 refine⟨hw.os,hw.tape,hw.output,hw.size,fun _ h=>h,fun b hb=>hw.old b (himm b hb),fun l p hp=>?_,fun b hb _=>hw.old b hb,fun _ h=>.inl h,fun l p hp=>?_⟩
 .grind [eS]
 grind [eS]
def adO {f:Nat->Option bd}{w':World}{L n base tot:Nat}{blk:bd}(h:fu ν x f)(hw:ik x.w w')(hn:x.w.heap.size<=n)(hnw:n<w'.heap.size)(hL:x.β L=none)
  (hb:oK ν ⟨w',x.I,eS x.β L (n,base,tot)⟩ n base tot blk):fu ν ⟨w',x.I,eS x.β L (n,base,tot)⟩ (jn f L (some blk)):=by
 have hle:=(Dz (base:=base) (tot:=tot) hw hn hL h.imm).le;refine⟨fun l blk' b base' tot' h1 h2=>?_,fun l l' b base' tot' base'' tot'' h1 h1' h2 h2'=>?_,fun b hb=>jd (h.imm b hb) hw.size,fun l b base' tot' h2=>?_,qU hle h.gd⟩
 .by_cases e:l=L
  .subst e;simp only[eS,bh,aB,c9]at h2;simp only[jn,bh,aB]at h1;obtain⟨rfl,rfl,rfl⟩:=h2;subst h1;exact⟨fun hI=>by have:=h.imm _ hI;omega,hb⟩
  .simp only[eS,e,aZ]at h2;simp only[jn,e,aZ]at h1;obtain⟨a1,a2⟩:=h.own l blk' b base' tot' h1 h2;exact⟨a1,a2.mono hle (hw.old b (h.dU l b base' tot' h2))⟩
 .by_cases e:l=L<;>by_cases e':l'=L
  .exact e.trans e'.symm
  .simp only[eS,e,bh,aB,c9]at h2;simp only[eS,e',aZ]at h2';have:=h.dU l' b base'' tot'' h2';obtain⟨h2,_,_⟩:=h2;omega
  .simp only[eS,e',bh,aB,c9]at h2';simp only[eS,e,aZ]at h2;have:=h.dU l b base' tot' h2;obtain⟨h2',_,_⟩:=h2';omega
  .simp only[eS,e,aZ]at h2;simp only[eS,e',aZ]at h2';simp only[jn,e,aZ]at h1;simp only[jn,e',aZ]at h1';exact h.inj l l' b base' tot' base'' tot'' h1 h1' h2 h2'
 .by_cases e:l=L
  .simp only[eS,e,bh,aB,c9]at h2;obtain⟨h2,_,_⟩:=h2;show b<w'.heap.size;omega
  .simp only[eS,e,aZ]at h2;exact jd (h.dU l b base' tot' h2) hw.size
variable {P:Program} {w:World}
def oO {t:TypeId}(h:P.cellsOf t≠0):∃i,P.info? t=some i/\i.size=P.cellsOf t:=by
 unfold Program.cellsOf at h⊢;cases hi:P.info? t with
 |none=>simp[hi]at h
 |some i=>exact⟨i,rfl,aF⟩
def du {t:TypeId}(h:P.cellsOf t≠0):(sizeOf t).run P w=.ok (P.cellsOf t) w:=by
 obtain⟨i,hi,hs⟩:=oO h;simp[sizeOf,typeInfo,hi,hs]
def vG {t:TypeId}(h:(P.underlying t).isNone=false):(isAgg t).run P w=.ok (bY P t) w:=by
 cases hu:P.underlying t with
 |none=>simp[hu]at h
 |some d=>unfold isAgg bY;rw[Sem.run_bind,run_underlying hu w];simp only[hu,Result.andThen];cases d<;>rfl
theorem Addr.Aq (b o n:Nat):(⟨b,o,none⟩:Addr).add n=⟨b,o+n,none⟩:=by unfold Addr.add;split<;>simp_all
end
end
section
variable [cG]
section
variable {ν:List (Nat×Nat)} {x:X} {f:Nat->Option bd} {P:Program}
mutual
theorem m7:∀(v:Value) (d:D),fK v=some d->RD ν x v d
 | .bool b,d,h=>by simp[fK]at h;subst h;exact .bool b
 | .int k n,d,h=>by simp[fK]at h;subst h;exact .int k n
 | .string ⟨⟨s⟩⟩,d,h=>by
  simp only[fK]at h;split at h
  .rename_i hs;simp only[aB]at h;subst h;exact .str s (by simpa[maxLen,ByteArray.size]using hs)
  .cases h
 | .pointer none,d,h=>by simp[fK]at h;subst h;exact .nilp
 | .slice none 0 0,d,h=>by simp[fK]at h;subst h;exact .aK
 | .nilFunc,d,h=>by simp[fK]at h;subst h;exact .nilf
 | .map none,d,h=>by simp[fK]at h;subst h;exact .mpn
 | .agg ⟨cs⟩,d,h=>by
  simp only[fK]at h;split at h
  .rename_i hone;cases hc:sJ cs with
   |none=>simp[hc]at h
   |some ds=>
    simp[hc]at h;subst h;obtain⟨hl,hr⟩:=uy cs ds hc;refine .agg ⟨cs⟩ ds (by simpa using hl) (fun i hi=>?_) (fun i hi=>by simpa using hr i hi);have:=rC cs hone i ae;simpa using this
  .cases h
 | .float _ _,d,h=>by simp[fK]at h
 | .complex _ _ _,d,h=>by simp[fK]at h
 | .pointer (some _),d,h=>by simp[fK]at h
 | .slice (some _) _ _,d,h=>by simp[fK]at h
 | .slice none (_+1) _,d,h=>by simp[fK]at h
 | .slice none 0 (_+1),d,h=>by simp[fK]at h
 | .map (some _),d,h=>by simp[fK]at h
 | .chan _,d,h=>by simp[fK]at h
 | .func _ _ _,d,h=>by simp[fK]at h
 | .iface _ _,d,h=>by simp[fK]at h
 | .tuple _,d,h=>by simp[fK]at h
theorem uy:∀(vs:List Value) (ds:List D),sJ vs=some ds->vs.length=ds.length/\∀i,i<ds.length->RD ν x (vs.getD i undef) (ds.getD i .any)
 |[],ds,h=>by simp[sJ]at h;subst h;simp
 |v::r,ds,h=>by
  simp only[sJ]at h;split at h
  .rename_i d ds' h1 h2;simp only[aB]at h;subst h;have a:=m7 v d h1;obtain⟨b1,b2⟩:=uy r ds' h2;refine⟨by simp[b1],fun i hi=>?_⟩;cases i with
   |zero=>simpa using a
   |succ i=>simpa using b2 i kQ
  .cases h
theorem rC:∀(vs:List Value),wm vs=true->∀i,i<vs.length->(vs.getD i undef).oneCell'=true
 |[],_,i,hi=>by simp at hi
 |v::r,h,i,hi=>by
  simp only[wm,aD]at h;cases i with
  |zero=>simp;cases v<;>simp_all[Value.oneCell']
  |succ i=>simpa using rC r h.2 i kQ
end
def AX (ν:List (Nat×Nat))(x:X)(f:Nat->Option bd)(L:Nat)(d:D)(r:Result Next):Prop:=
 ∃v x',(r=.ok (.value v) x'.w\/r=.ok .skip x'.w/\v=undef)/\Step x x'/\RD ν x' v d/\fu ν x' f/\∀l,l≠L->x'.β l=x.β l
def nJ {L:Nat}{d:D}{v:Value}{r:Result Next}(hs:fu ν x f)(hr:r=.ok (.value v) x.w)(hd:RD ν x v d):AX ν x f L d r:=
 ⟨v,x,.inl hr,.refl x,hd,hs,fun _ _=>rfl⟩
def uU (C:CC)(defs:List (Option Nat))(J:Src->aX)(ev:Operand->Value)(x:X)(os:List Operand):Prop:=
 ∀o,o∈os->∀s,C.src defs o=some s->(J s).ok=true->RD C.ν x (ev o) (J s).d
def RD.jD {v:Value}{b:Bool}(h:RD ν x v (.bool b)):v=.bool b:=by cases h;rfl
def RD.dj {v:Value}{k:IntKind}{n:Int}(h:RD ν x v (.int k n)):v=.int k n:=by cases h;rfl
def RD.jR {v:Value}{s:List UInt8}(h:RD ν x v (.str s)):v=.string ⟨⟨s⟩⟩/\s.length<=maxLen:=by cases h;exact⟨rfl,‹_›⟩
def RD.pick {b:Bool}{u v:Value}{d e:D}(h1:b=true->RD ν x u d)(h2:b=false->RD ν x v e):RD ν x (if b then u else v) (D.pick b d e):=by
 cases b
 .have:=h2 rfl;simp only[iw,aZ];cases d<;>cases e<;>simp only[D.pick,cond_false]<;>exact this
 .have:=h1 rfl;simp only[bh];cases d<;>cases e<;>simp only[D.pick,cond_true]<;>exact this
def MF {op:BinOp}{t:TypeId}{k k':IntKind}{a b:Int}(w:World)(hb:Ar op (.int k a) (.int k' b)):
  ∃v,(binOp op t (.int k a) (.int k' b)).run P w=.ok v w/\RD ν x v (Eg op (.int k a) (.int k' b)):=by
 cases op<;>simp only[Ar]at hb<;>simp only[binOp,Eg,ne_eq]
 case shl=>exact⟨_,by simp[Op.shift,show ¬b<0 by omega],.int _ _⟩
 case shr=>exact⟨_,by simp[Op.shift,show ¬b<0 by omega],.int _ _⟩
 case quo=>obtain⟨rfl,hb⟩:=hb;exact⟨_,by simp[Op.intDiv,hb],.int _ _⟩
 case rem=>obtain⟨rfl,hb⟩:=hb;exact⟨_,by simp[Op.intDiv,hb],.int _ _⟩
 case and=>subst hb;exact⟨_,by simp[Op.intBits],.int _ _⟩
 case or=>subst hb;exact⟨_,by simp[Op.intBits],.int _ _⟩
 case xor=>subst hb;exact⟨_,by simp[Op.intBits],.int _ _⟩
 case andNot=>subst hb;exact⟨_,by simp[Op.intBits],.int _ _⟩
 case add=>subst hb;exact⟨_,by simp[Op.intArith],.int _ _⟩
 case sub=>subst hb;exact⟨_,by simp[Op.intArith],.int _ _⟩
 case mul=>subst hb;exact⟨_,by simp[Op.intArith],.int _ _⟩
 case eql=>subst hb;exact⟨_,by simp[Op.intCmp],.bool _⟩
 case neq=>subst hb;exact⟨_,by simp[Op.intCmp],.bool _⟩
 case lss=>subst hb;exact⟨_,by simp[Op.intCmp],.bool _⟩
 case leq=>subst hb;exact⟨_,by simp[Op.intCmp],.bool _⟩
 case gtr=>subst hb;exact⟨_,by simp[Op.intCmp],.bool _⟩
 case geq=>subst hb;exact⟨_,by simp[Op.intCmp],.bool _⟩
def Gz (a b:List UInt8):(⟨⟨a⟩⟩:ByteArray)++⟨⟨b⟩⟩=⟨⟨a++b⟩⟩:=by
 have h:((⟨⟨a⟩⟩:ByteArray)++⟨⟨b⟩⟩).data=(⟨a++b⟩:Array UInt8):=by
  rw[ByteArray.data_append];simp
 exact aw ByteArray.mk h
def MG {op:BinOp}{t:TypeId}{a b:List UInt8}(w:World)(hb:Ar op (.str a) (.str b)):
  ∃v,(binOp op t (.string ⟨⟨a⟩⟩) (.string ⟨⟨b⟩⟩)).run P w=.ok v w/\RD ν x v (Eg op (.str a) (.str b)):=by
 have hs:∀l:List UInt8,(⟨⟨l⟩⟩:ByteArray).size=l.length:=fun _=>rfl
 cases op<;>simp only[Ar]at hb<;>simp only[binOp,Eg]
 case add=>
  refine⟨.string ⟨⟨a++b⟩⟩, ?_,.str _ (by simp[maxLen];omega)⟩;have:¬(((⟨⟨a⟩⟩:ByteArray).size+(⟨⟨b⟩⟩:ByteArray).size:Nat):Int)>IntKind.i64.max:=by
   rw[hs,hs];simp only[IntKind.max,IntKind.signed,IntKind.bits,bh];omega
  simp only[Op.stringOp,this,aZ,Sem.run_pure,Gz]
 all_goals
  refine⟨_,by simp only[Op.stringOp,Sem.run_pure];rfl, ?_⟩;simp only[ByteArray.toList_eq];exact .bool _
def oz (op:BinOp)(t:TypeId)(p q:Operand){u v:Value}(h:(∀cs,u≠.agg cs)/\u≠.nilIface)(w:World):(eqGuard op t p q u v).run P w=.ok () w:=by
 obtain⟨h1,h2⟩:=h;unfold eqGuard;cases op<;>simp<;>(split<;>first|rfl|simp_all)
def dW {α:Type}(l:List α)(o n:Nat)(d:α)(j:Nat)(hj:j<n):((l.drop o).take n).getD j d=l.getD (o+j) d:=by
 grind
def gX {α:Type}(l:List α)(o n:Nat)(h:o+n<=l.length):((l.drop o).take n).length=n:=by
 simp;omega
theorem bM (cs:Array Value)(i:Nat)(d:Value):cs.toList.getD i d=cs.getD i d:=by
 simp[List.getD,Array.getD];split<;>simp_all
def pM {t:TypeId}{cs:Array Value}{ds:List D}{off n:Nat}{ag:Bool}(w:World)(hv:RD ν x (.agg cs) (.agg ds))(ht:P.cellsOf t≠0)(hu:(P.underlying t).isNone=false)
  (hn:n=P.cellsOf t) (hag:ag=bY P t) (hle:off+n<=ds.length) (h1:ag=false->n=1):
  ∃v,(part t cs off).run P w=.ok v w/\RD ν x v (cut ds off n ag):=by
 cases hv with
 |agg _ _ hl hone h=>
  unfold part;rw[Sem.run_bind,vG hu];subst hag;cases hb:bY P t
  .have hn1:=h1 (by rw[hb]);have hlt:off<cs.size:=ae;refine⟨cs.getD off undef, ?_, ?_⟩
   .simp[Result.andThen,Array.getElem?_eq_getElem hlt,Array.getD,hlt]
   .simp only[cut,cond_false];exact h off ae
  .refine⟨.agg (cs.extract off (off+n)), ?_, ?_⟩
   .simp[Result.andThen,du ht,hn]
   .simp only[cut,cond_true];refine .agg _ _ ?_ ?_ ?_
    .simp;omega
    .intro i hi;simp at hi;have:=hone (off+i) ae;rw[<-this];congr 1;simp[Array.getD,show off+i<cs.size by omega,show i<min (off+n) cs.size-off by omega]
    .intro i hi;simp at hi;rw[dW _ _ _ _ _ ae];have:=h (off+i) ae;have e:(cs.extract off (off+n)).getD i undef=cs.getD (off+i) undef:=by
      simp[Array.getD,show off+i<cs.size by omega,show i<min (off+n) cs.size-off by omega]
     rw[e];exact this
end
end
section
variable [cG]
section
variable {x:X} {f:Nat->Option bd} {C:CC} {defs:List (Option Nat)} {J:Src->aX} {ev:Operand->Value} {Y:Ctx} {m:List (Nat×bd)} {L:Nat}
def iv {os':List Operand}(hρ:uU C defs J ev x os'):∀(os:List Operand) (ss:List Src),(∀o∈os,o∈os')->C.vK defs os=some ss->Bh J ss->
  os.length=ss.length/\(iG J ss).length=os.length/\∀i,i<(iG J ss).length->RD C.ν x ((os.map ev).getD i undef) ((iG J ss).getD i .any)
 |[],ss,_,h,_=>by simp[CC.vK]at h;subst h;simp[iG]
 |o::r,ss,hm,h,hk=>by
  simp only[CC.vK]at h;split at h
  .rename_i a l h1 h2;simp only[aB]at h;subst h;simp only[Bh]at hk;obtain⟨b1,b2,b3⟩:=iv hρ r l (fun o ho=>hm o (.tail _ ho)) h2 hk.2;refine⟨by simp[b1],by simp[iG,b2],fun i hi=>?_⟩;cases i with
   |zero=>simpa[iG]using hρ o (hm o (.head _)) a h1 hk.1
   |succ i=>simpa[iG]using b3 i (by simpa[iG]using hi)
  .cases h
def B3 (off:Nat):∀(new:List Value) (st:Nat) (acc:Array Value),off+st+new.length<=acc.size->
  ((new.zipIdx st).foldl (fun cs (c,j)=>cs.setIfInBounds (off+j) c) acc).size=acc.size/\
  ∀q,((new.zipIdx st).foldl (fun cs (c,j)=>cs.setIfInBounds (off+j) c) acc)[q]? =if off+st<=q/\q<off+st+new.length then new[q-(off+st)]? else acc[q]?
 |[],st,acc,_=>⟨aF,fun q=>fo⟩
 |c::r,st,acc,hb=>by
  simp only[bD]at hb;obtain⟨h1,h2⟩:=B3 off r (st+1) (acc.setIfInBounds (off+st) c) fo;refine⟨by simpa[List.zipIdx_cons]using h1,fun q=>?_⟩;rw[List.zipIdx_cons,List.foldl_cons,h2 q]
  grind
def rZ {os':List Operand}(hρ:uU C defs J ev x os')(place:Nat->Option (Nat×Nat))(len:Nat):∀(ps:List (Nat×Operand)) (ss:List (Nat×Nat×Src)),
  (∀p∈ps,p.2∈os')->C.parts defs place ps=some ss->zu J len ss->∀(cs:Array Value) (ds:List D),cs.size=len->RD C.ν x (.agg cs) (.agg ds)->
  ∃cs',Instr.fill place cs (ps.map fun(i,o)=>(i,ev o))=some cs'/\RD C.ν x (.agg cs') (.agg (BT J ds ss))
 |[],ss,_,h,_,cs,ds,_,hr=>by simp[CC.parts]at h;subst h;exact⟨cs,by simp[Instr.fill],by simpa[BT]using hr⟩
 |(i,o)::r,ss,hm,h,hk,cs,ds,hlen,hr=>by
  simp only[CC.parts]at h;split at h
  .rename_i off n s l h1 h2 h3;split at h
   .cases h
   rename_i hn0;simp only[aB]at h;subst h;simp only[zu]at hk;obtain⟨k1,k2,k3,k4⟩:=hk;have hn:0<n:=ae;have hv:=hρ o (hm _ (.head _)) s h2 k1;obtain⟨c1,c2⟩:=hv.cells ae;have hsz:(ev o).cells.size=n:=ae;cases hr with
   |agg _ _ hl hone hh=>
   let cs1:Array Value:=((ev o).cells.toList.zipIdx 0).foldl (fun cs (c,j)=>cs.setIfInBounds (off+j) c) cs
   have harr:(ev o).cells.zipIdx.foldl (fun cs (c,j)=>cs.setIfInBounds (off+j) c) cs=cs1:=by
    rw[<-Array.foldl_toList];simp[cs1]
   have hcs1:=harr;obtain⟨hsz1,hgq⟩:=B3 off (ev o).cells.toList 0 cs fo;have hget:∀q,q<cs.size->cs1.getD q undef=if q<off then cs.getD q undef else if q<off+n then(ev o).cells.getD (q-off) undef else cs.getD q undef:=by
    intro q hq;have:=hgq q;rw[<-bM,<-bM cs,<-bM (ev o).cells];simp only[List.getD,Array.getElem?_toList];rw[show cs1[q]? =_ from this];simp only[Array.length_toList,hsz,Nat.add_zero];by_cases q1:q<off
    .rw[ak q1,ah ae]
    .rw[ah q1];by_cases q2:q<off+n
     .rw[ak q2,ak ae];simp
     .rw[ah q2,ah ae]
   have hsz1:cs1.size=cs.size:=hsz1;have hdlen:(over ds off (J s).d.cells).length=ds.length:=by simp[over];omega
   have hdget:∀q,q<ds.length->(over ds off (J s).d.cells).getD q .any=if q<off then ds.getD q .any else if q<off+n then(J s).d.cells.getD (q-off) .any else ds.getD q .any:=by
    intro q hq;simp only[over,List.getD,List.getElem?_append,ek];by_cases q1:q<off
    .rw[ak ae,ak q1];simp[List.getElem?_take,q1]
    .rw[ah ae,ah q1,show q-min off ds.length=q-off by omega];by_cases q2:q<off+n
     .rw[ak q2,ak ae]
     .rw[ah q2,ah ae];simp only[List.getElem?_drop];congr 3;omega
   have hr1:RD C.ν x (.agg cs1) (.agg (over ds off (J s).d.cells)):=by
    refine .agg _ _ ae (fun q hq=>?_) (fun q hq=>?_)
    .rw[hdlen]at hq;rw[hget q ae];split
     .exact hone q hq
     .split
      .exact(c2 (q-off) ae).1
      .exact hone q hq
    .rw[hdlen]at hq;rw[hget q ae,hdget q hq];split
     .exact hh q hq
     .split
      .exact(c2 (q-off) ae).2
      .exact hh q hq
   obtain⟨cs',g1,g2⟩:=rZ hρ place len r l (fun p hp=>hm p (.tail _ hp)) h3 k4 cs1 _ ae hr1;refine⟨cs', ?_,by simpa[BT]using g2⟩;simp only[List.map_cons,Instr.fill,h1];rw[ah (by simp[hsz];omega),hcs1];exact g1
  .cases h
end
section
variable {ν:List (Nat×Nat)} {x:X} {P:Program}
def ji:∀(ks:List CK) (ds:List D),fA ks ds->ds.length=ks.length
 |[],[],_=>rfl
 |[],_::_,h=>by simp[fA]at h
 |_::_,[],h=>by simp[fA]at h
 |c::r,d::ds,h=>by have:=ji r ds (by simp[fA]at h;exact h.2);simp;omega
def kA:∀(a b:List CK) (ds:List D),fA (a++b) ds->fA a (ds.take a.length)/\fA b (ds.drop a.length)
 |[],b,ds,h=>by simpa[fA]using h
 |c::r,b,[],h=>by simp[fA]at h
 |c::r,b,d::ds,h=>by
  simp only[sD,fA]at h;obtain⟨h1,h2⟩:=kA r b ds h.2
  grind [fA]
def u7:∀(n:Nat) (ds es:List D),ds.length=es.length->gV ds es=(gV (ds.take n) (es.take n)&&gV (ds.drop n) (es.drop n))
 |0,ds,es,_=>by simp[gV]
 |n+1,[],[],_=>by simp[gV]
 |n+1,[],_::_,h=>by simp at h
 |n+1,_::_,[],h=>by simp at h
 |n+1,d::ds,e::es,h=>by
  simp only[gV,List.take_succ_cons,List.drop_succ_cons];rw[u7 n ds es qO,Bool.and_assoc]
def KR {c:CK}{d:D}(h:c.fits d):d.cells=[d]/\d.isAgg=false:=by
 cases c<;>cases d<;>simp_all[CK.fits,D.cells,D.isAgg]
def lV {c:CK}{d:D}(h:fA [c] d.cells)(ha:d.isAgg=false):c.fits d:=by
 cases d<;>simp_all[D.cells,D.isAgg,fA]
def sK {ds:List D}{off n:Nat}{ag:Bool}{ks:List CK}(h:fA ks ((ds.drop off).take n))(hn:ag=false->n=1)(hle:off+n<=ds.length):
  (cut ds off n ag).cells=(ds.drop off).take n/\(cut ds off n ag).isAgg=ag:=by
 cases ag
 .have:=hn rfl;subst this;have hlt:off<ds.length:=ae;have e:(ds.drop off).take 1=[ds.getD off .any]:=by
   rw[eY hlt];simp[List.getD,hlt,List.take]
  rw[e]at h⊢;cases ks with
  |nil=>simp[fA]at h
  |cons c r=>
   simp only[fA]at h;exact KR h.1
 .exact⟨rfl,rfl⟩
def Nq (ν:List (Nat×Nat))(x:X)(P:Program)(n:Nat)(t:TypeId)(ks:List CK):Prop:=
 ∀u v d e (w:World),RD ν x u d->RD ν x v e->d.isAgg=bY P t->e.isAgg=bY P t->fA ks d.cells->fA ks e.cells->
  (Op.equalIn n t u v).run P w=.ok (gV d.cells e.cells) w
def Ce {n:Nat}{t:TypeId}{ks:List CK}(h:gR P n t=some ks)(ha:bY P t=false):ks.length=1:=by
 cases n with
 |zero=>simp[gR]at h
 |succ n=>
  grind [gR,bY]
def wA (n depth:Nat)(ih:∀t ks,gR P depth t=some ks->Nq ν x P n t ks)(xs ys:Array Value)(ds es:List D)(h1:RD ν x (.agg xs) (.agg ds))(h2:RD ν x (.agg ys) (.agg es))(w:World):
  ∀(fs:List Field) (off:Nat) (ks:List CK),ma P (fun t=>gR P depth t) off fs=some ks->off<=ds.length->off<=es.length->fA ks (ds.drop off)->fA ks (es.drop off)->
  (Op.eqFields n xs ys fs).run P w=.ok (gV (ds.drop off) (es.drop off)) w
 |[],off,ks,hk,_,_,f1,f2=>by
  simp[ma]at hk;subst hk;have a:=ji _ _ f1;have b:=ji _ _ f2;have a':ds.drop off=[]:=lH a;have b':es.drop off=[]:=lH b;rw[a',b'];simp[Op.eqFields,gV]
 |f::fs,off,ks,hk,l1,l2,f1,f2=>by
  simp only[ma]at hk;split at hk
  .cases hk
  .rename_i hne;have hname:f.name≠ "_" :=fun e=>hne (.inl e)
   have hoff:f.offset=off:=by
    rcases Nat.decEq f.offset off with h|h
    .exact absurd (.inr h) hne
    .exact h
   split at hk
   .rename_i a b ha hb;split at hk
    .rename_i hlen;obtain⟨hlen,hnz,hund⟩:=hlen;simp only[aB]at hk;subst hk;obtain⟨fa1,fb1⟩:=kA a b _ f1;obtain⟨fa2,fb2⟩:=kA a b _ f2;have la:=ji _ _ f1;have lb:=ji _ _ f2;simp only[jA,cn]at la lb;have hag:bY P f.type=false->P.cellsOf f.type=1:=fun e=>by rw[<-hlen];exact Ce ha e
     obtain⟨u,r1,r2⟩:=pM (P:=P) (off:=off) (n:=P.cellsOf f.type) (ag:=bY P f.type) w h1 ae hund rfl rfl ae hag;obtain⟨v,s1,s2⟩:=pM (P:=P) (off:=off) (n:=P.cellsOf f.type) (ag:=bY P f.type) w h2 ae hund rfl rfl ae hag;rw[hlen]at fa1 fa2 fb1 fb2;obtain⟨c1,c2⟩:=sK (ag:=bY P f.type) fa1 hag ae;obtain⟨d1,d2⟩:=sK (ag:=bY P f.type) fa2 hag ae;have he:=ih f.type a ha u v _ _ w r2 s2 c2 d2 (by rw[c1];exact fa1) (by rw[d1];exact fa2);rw[List.drop_drop]at fb1 fb2;have hrest:=wA n depth ih xs ys ds es h1 h2 w fs (off+P.cellsOf f.type) b hb ae ae fb1 fb2;rw[u7 (P.cellsOf f.type) (ds.drop off) (es.drop off) fo];simp only[Op.eqFields,hname,ne_eq,not_false_eq_true,bh,Sem.run_bind,hoff,r1,s1,he,Result.andThen_ok,Sem.run_ite,hrest];rw[c1,d1,List.drop_drop,List.drop_drop];cases gV ((ds.drop off).take (P.cellsOf f.type)) ((es.drop off).take (P.cellsOf f.type))<;>simp
    .cases hk
   .cases hk
def zp (n:Nat)(e:TypeId)(l:List CK)(ih:Nq ν x P n e l)(hc:l.length=P.cellsOf e)(hnz:l.length≠0)(hund:(P.underlying e).isNone=false)(hag:bY P e=false->P.cellsOf e=1)
  (xs ys:Array Value) (ds es:List D) (h1:RD ν x (.agg xs) (.agg ds)) (h2:RD ν x (.agg ys) (.agg es)) (w:World):
  ∀(len j:Nat),j*P.cellsOf e<=ds.length->j*P.cellsOf e<=es.length->fA (List.replicate len l).flatten (ds.drop (j*P.cellsOf e))->fA (List.replicate len l).flatten (es.drop (j*P.cellsOf e))->
  (Op.eqItems n e (P.cellsOf e) xs ys (List.range' j len)).run P w=.ok (gV (ds.drop (j*P.cellsOf e)) (es.drop (j*P.cellsOf e))) w
 |0,j,_,_,f1,f2=>by
  have a:=ji _ _ f1;have b:=ji _ _ f2;have a':ds.drop (j*P.cellsOf e)=[]:=lH (by simpa using a);have b':es.drop (j*P.cellsOf e)=[]:=lH (by simpa using b);rw[a',b'];simp[Op.eqItems,gV]
 |len+1,j,l1,l2,f1,f2=>by
  simp only[List.replicate_succ,List.flatten_cons]at f1 f2;obtain⟨fa1,fb1⟩:=kA _ _ _ f1;obtain⟨fa2,fb2⟩:=kA _ _ _ f2;have la:=ji _ _ f1;have lb:=ji _ _ f2;simp only[jA,cn]at la lb;have hj:(j+1)*P.cellsOf e=j*P.cellsOf e+P.cellsOf e:=Nat.succ_mul _ _;obtain⟨u,r1,r2⟩:=pM (P:=P) (off:=j*P.cellsOf e) (n:=P.cellsOf e) (ag:=bY P e) w h1 ae hund rfl rfl ae hag;obtain⟨v,s1,s2⟩:=pM (P:=P) (off:=j*P.cellsOf e) (n:=P.cellsOf e) (ag:=bY P e) w h2 ae hund rfl rfl ae hag;rw[hc]at fa1 fa2 fb1 fb2;obtain⟨c1,c2⟩:=sK (ag:=bY P e) fa1 hag ae;obtain⟨d1,d2⟩:=sK (ag:=bY P e) fa2 hag ae;have he:=ih u v _ _ w r2 s2 c2 d2 (by rw[c1];exact fa1) (by rw[d1];exact fa2);rw[List.drop_drop,<-hj]at fb1 fb2;have hrest:=zp n e l ih hc hnz hund hag xs ys ds es h1 h2 w len (j+1) ae ae fb1 fb2;rw[u7 (P.cellsOf e) (ds.drop (j*P.cellsOf e)) (es.drop (j*P.cellsOf e)) fo];simp only[List.range'_succ,Op.eqItems,Sem.run_bind,r1,s1,he,Result.andThen_ok,Sem.run_ite,hrest];rw[c1,d1,List.drop_drop,List.drop_drop,<-hj];cases gV ((ds.drop (j*P.cellsOf e)).take (P.cellsOf e)) ((es.drop (j*P.cellsOf e)).take (P.cellsOf e))<;>simp
def rI:∀(depth:Nat) (t:TypeId) (ks:List CK),gR P depth t=some ks->∀n,depth<=n->Nq ν x P n t ks
 |0,t,ks,h,_,_=>by simp[gR]at h
 |depth+1,t,ks,h,n,hn=>by
  obtain⟨n,rfl⟩:∃k,n=k+1:=⟨n-1,ae⟩
  intro u v d e w r1 r2 a1 a2 f1 f2;simp only[gR]at h;split at h
  .rename_i hu;simp only[aB]at h;subst h;have hag:bY P t=false:=by simp[bY,hu]
   rw[hag]at a1 a2;have g1:=lV f1 a1;have g2:=lV f2 a2;cases d<;>simp only[CK.fits]at g1;cases e<;>simp only[CK.fits]at g2;rw[r1.jD,r2.jD,run_equalIn_bool w n t _ _ hu];simp[D.cells,gV,eqD]
  .rename_i k hu;simp only[aB]at h;subst h;have hag:bY P t=false:=by simp[bY,hu]
   rw[hag]at a1 a2;have g1:=lV f1 a1;have g2:=lV f2 a2;cases d<;>simp only[CK.fits]at g1;cases e<;>simp only[CK.fits]at g2;subst g1;subst g2;rw[r1.dj,r2.dj,run_equalIn_int w n t _ _ _ _ hu];simp[D.cells,gV,eqD]
  .rename_i hu;simp only[aB]at h;subst h;have hag:bY P t=false:=by simp[bY,hu]
   rw[hag]at a1 a2;have g1:=lV f1 a1;have g2:=lV f2 a2;cases d<;>simp only[CK.fits]at g1;cases e<;>simp only[CK.fits]at g2;rw[r1.jR.1,r2.jR.1,run_equalIn_string w n t _ _ hu];simp[D.cells,gV,eqD,ByteArray.toList_eq]
  .rename_i fs hu;split at h
   .cases h
   .rename_i hst;have hag:bY P t=true:=by simp[bY,hu]
    rw[hag]at a1 a2;cases d<;>simp only[D.isAgg,iw]at a1;cases e<;>simp only[D.isAgg,iw]at a2;have hf:P.fieldsOf t=fs:=by simp[Program.fieldsOf,hu]
    cases r1 with
    |agg xs _ p1 p2 p3=>
     cases r2 with
     |agg ys _ q1 q2 q3=>
      rw[run_equalIn_struct w n t xs ys (by rw[hf];exact hu) (by simpa using hst),hf];have:=wA (ν:=ν) (x:=x) n depth (fun t ks hk=>rI depth t ks hk n ae) xs ys _ _ (.agg xs _ p1 p2 p3) (.agg ys _ q1 q2 q3) w fs.toList 0 ks h aF aF (by simpa[D.cells]using f1) (by simpa[D.cells]using f2);simpa[D.cells]using this
  .rename_i len e' hu;split at h
   .rename_i l hl;split at h
    .rename_i hc;obtain⟨hc,hnz,hund⟩:=hc;simp only[aB]at h;subst h;have hag:bY P t=true:=by simp[bY,hu]
     rw[hag]at a1 a2;cases d<;>simp only[D.isAgg,iw]at a1;cases e<;>simp only[D.isAgg,iw]at a2;obtain⟨i,hi,_⟩:=oO (P:=P) (t:=e') ae;cases r1 with
     |agg xs _ p1 p2 p3=>
      cases r2 with
      |agg ys _ q1 q2 q3=>
       rw[run_equalIn_array w n xs ys hu hi,List.range_eq_range'];have:=zp (ν:=ν) (x:=x) n e' l (rI depth e' l hl n ae) hc hnz hund (fun e=>by rw[<-hc];exact Ce hl e) xs ys _ _ (.agg xs _ p1 p2 p3) (.agg ys _ q1 q2 q3) w len 0 aF aF (by simpa[D.cells]using f1) (by simpa[D.cells]using f2);simpa[D.cells]using this
    .cases h
   .cases h
  .cases h
end
end
end Go.Abs
