/- A part of the proofs. -/
import Derived.Ground.Names2Prog
import Derived.Ground.SlgnProg
import Derived.KernelRfl
import Derived.Shelf.LaysM
import Derived.Shelf.Slices.Clone
import Derived.Shelf.SlicesE.Clone
import Derived.Shelf.Small.Strs
import Derived.Shelf.Small.Utf8
import Derived.Shelf.Small.Wraps
import Derived.Shelf.Strconv.Itoa0
import Derived.Shelf.Strconv.Itoa1
import Derived.Shelf.Strconv.Itoa2
import Derived.Shelf.Strconv.Itoa3
import Derived.Shelf.Strings.AsciiSet
import Derived.Shelf.Strings.Builder1
import Derived.Shelf.Strings.Builder2
import Derived.Shelf.Strings.Count
import Derived.Shelf.Strings.Cut
import Derived.Shelf.Strings.Explode
import Derived.Shelf.Strings.OnBuilder
import Derived.Shelf.Strings.Prefix
import Derived.Shelf.Strings.RuneCount
import Derived.Shelf.Strings.Runes
import Derived.Shelf.Strings.Search1
import Derived.Shelf.Strings.Search2
import Derived.Shelf.Strings.Search3
import Derived.Shelf.Strings.Shaped
import Derived.Shelf.Strings.Split
import Derived.Shelf.Strings.SplitShaped
import Derived.Shelf.Strings.Trim
import Derived.Shelf.Unicode.Decode
import Derived.Shelf.Unicode.DecodeAny
import Derived.Shelf.Unicode.DecodeLast
import Derived.Shelf.Unicode.DecodeSlow
import Derived.Shelf.Utf8.RuneCount
import Derived.Test.YtfijeeijkndliaaGreatDoorProg
import Derived.Test.YtfijeeijkndliaaGreatDoorP08
set_option linter.all false
set_option maxRecDepth 4000
namespace Go.Abs
variable {Y:Ctx}(hm:(Y.at 0).cQ)
section
def zc (t:ak):Bool:=isM (fO (eg t).1 32).1
def C0 (P:List ak)(i:Nat):Int:=if q9 (fun j=>zc P[j]!) i P.length<P.length then(q9 (fun j=>zc P[j]!) i P.length:Nat)else-1
def MH {P:List ak}{i:Nat}(h:i<P.length)(hb:zc P[i]! =true):C0 P i=(i:Nat):=by unfold C0;rw[KO h hb,aw h]
def PL {P:List ak}{i:Nat}(h:i<P.length)(hb:zc P[i]! =false):C0 P i=C0 P (i+1):=by unfold C0;rw[Ny h hb]
def MG {P:List ak}{i:Nat}(h:P.length<=i):C0 P i=-1:=by unfold C0;rw[KN h,aj ae]
def LY {s:ak}{i:Nat}(h:i<(aD s).1.length):zc (ik s)[i]! =isM (fw (aD s).1[i]!):=by
 unfold zc;rw[Ds h,yQ (vO (bL h))];dsimp only;rw[Px]
def S5 (s:ak):q9 (fun j=>zc (ik s)[j]!) 0 (ik s).length=kM (aD s).1:=by
 unfold kM;rw[pR];exact DK fun j _ h=>LY h
def Jt (L:List ak):kM L<=L.length:=Nx _ (Nat.zero_le _)
def S4 {s:ak}:(C0 (ik s) 0<0->(ik s).length=kM (aD s).1)/\(¬C0 (ik s) 0<0->C0 (ik s) 0=(kM (aD s).1:Nat)):=by
 have h:=S5 s;have h2:=Jt (aD s).1;rw[<-pR]at h2;unfold C0;rw[h];split<;>constructor<;>intro h3<;>omega
def IK (s:ak):aR [] (slice (ik s) 0 (kM (aD s).1))=ek s:=L1 (Nat.zero_le _) (Jt _)
def K3 (s:ak):(eg s).2=(decide (1<=(s.length:Int))&&decide (s.drop (s.length-1)=[10])):=by
 by_cases hs:s=[]
 .subst hs;rfl
 .obtain⟨r,c,rfl⟩:∃r c,s=r++[c]:=⟨_,_,(List.dropLast_concat_getLast hs).symm⟩
  have h1:(r++[c]).length-1=r.length:=aJ;have h2:decide (1<=(((r++[c]).length:Nat):Int))=true:=cK (by simp only[bA,aH,aO];omega);rw[h1,h2,List.drop_left];unfold eg;by_cases hc:c=10<;>simp[hc]
def wY {s:ak}(h:(eg s).2=true):1<=s.length:=by
 cases s with
 |nil=>cases h
 |cons a r=>simp
def K5 {s:ak}(h:(eg s).2=true):(eg s).1=s.take (s.length-1):=by
 unfold eg at h⊢;split at h
 .rename_i h1;rw[aw h1,List.dropLast_eq_take]
 .cases h
def K4 {s:ak}(h:(eg s).2=false):(eg s).1=s:=by
 unfold eg at h⊢;split at h
 .cases h
 .rename_i h1;rw[aj h1]
def IM {m:iq}(h:¬(cw m.r).1=0):dA m=cw m.r:=aw h
def IL {m:iq}(h:¬¬(cw m.r).1=0)(h2:8<m.ps.length\/8<m.hs.length):dA m=(3,0):=by unfold dA;rw[aj h,aw h2]
def AF {m:iq}(h:¬¬(cw m.r).1=0)(h2:¬(8<m.ps.length\/8<m.hs.length)){q:Int×Int}(h3:oP m.ps=q)(h4:¬q.1=0):dA m=q:=by
 subst h3;unfold dA;rw[aj h,aj h2,aw h4]
def rI {m:iq}(h:¬¬(cw m.r).1=0)(h2:¬(8<m.ps.length\/8<m.hs.length))(h3:(oP m.ps).1=0){q:Int×Int}(h4:nC m.hs=q):dA m=q:=by
 subst h4;unfold dA;rw[aj h,aj h2,aj (fun h=>h h3)]
def Kc {l:List dW}{i:Nat}(h:(ee l[i]!.name=false\/ee l[i]!.shelf=false)\/(0<i/\Op.bytesLess l[i-1]!.name l[i]!.name=false)):Kb l i=15:=aw h
def Nf {l:List dW}{i:Nat}(h:¬((ee l[i]!.name=false\/ee l[i]!.shelf=false)\/(0<i/\Op.bytesLess l[i-1]!.name l[i]!.name=false))):Kb l i=0:=aj h
def Ms {l:List bF}{i:Nat}(h:ee l[i]!.name=false\/(0<i/\Op.bytesLess l[i-1]!.name l[i]!.name=false)):tD l i=4:=aw h
def Mt {l:List bF}{i:Nat}(h:¬(ee l[i]!.name=false\/(0<i/\Op.bytesLess l[i-1]!.name l[i]!.name=false)))(h2:im l[i]!.range=false):tD l i=6:=by unfold tD;rw[aj h,aw h2]
def Jk {l:List bF}{i:Nat}(h:¬(ee l[i]!.name=false\/(0<i/\Op.bytesLess l[i-1]!.name l[i]!.name=false)))(h2:im l[i]!.range=true):tD l i=0:=by unfold tD;rw[aj h,aj (by rw[h2];simp)]
def rV (m:iq):Prop:=m4 m.r/\∀h∈m.hs,h.range.length<=1048576
def xR {m:iq}(h:¬¬(dA m).1=0):(¬¬(cw m.r).1=0)/\m.ps.length<=8/\m.hs.length<=8:=by
 have h':=Classical.not_not.1 h;refine⟨fun h2=>h2 (AE h'), ?_⟩;have h1:=AE h';unfold dA at h';rw[aj (fun h=>h h1)]at h';split at h'
 .cases h'
 .omega
def NJ (m:iq)(i:Nat):ak:=jm m.r++((m.ps.take i).map HB).flatten
def NH (m:iq)(i:Nat):ak:=jm m.r++((m.ps.map HB).flatten++((m.hs.take i).map A5).flatten)
def Ee {α:Type} [Inhabited α](f:α->ak){l:List α}{i:Nat}(h:i<l.length):((l.take (i+1)).map f).flatten=((l.take i).map f).flatten++f l[i]! :=by
 rw[List.take_add_one,List.getElem?_eq_getElem h,getElem!_pos l i h,List.map_append,List.flatten_append];simp only[Option.toList_some,List.map_cons,List.map_nil,List.flatten_cons,List.flatten_nil,gD]
def OA (m:iq):NJ m 0=jm m.r:=by simp[NJ]
def B3 {m:iq}{i:Nat}(h:i<m.ps.length):NJ m (i+1)=NJ m i++HB m.ps[i]! :=by unfold NJ;rw[Ee _ h,dU]
def E1 (m:iq):NJ m m.ps.length=NH m 0:=by simp[NJ,NH]
def B2 {m:iq}{i:Nat}(h:i<m.hs.length):NH m (i+1)=NH m i++A5 m.hs[i]! :=by unfold NH;rw[Ee _ h];simp only[dU]
def NI (m:iq):NH m m.hs.length=EW m:=by simp[NH,EW]
def EA (x:dW):HB x=((([112,105,110,32]++x.name)++[32])++x.shelf)++[10]:=by simp[HB,b9,aR,wW]
def A6 (x:bF):A5 x=((([104,111,108,100,32]++x.name)++[32])++x.range)++[10]:=by simp[A5,b9,aR,pk]
def Di {s:ak}(h:ee s=true):s.length<=16:=by
 unfold ee at h;simp only[bt,a8]at h;omega
def oI {m:iq}(h:¬¬(dA m).1=0)(hs:rV m):(jm m.r).length<=4096/\(∀i,i<m.ps.length->m.ps[i]!.name.length<=16/\m.ps[i]!.shelf.length<=16)/\(∀i,i<m.hs.length->m.hs[i]!.name.length<=16/\m.hs[i]!.range.length<=1048576)/\m.ps.length<=8/\m.hs.length<=8:=by
 obtain⟨h1,h2,h3⟩:=xR h;have h4:=Classical.not_not.1 h;have hp:(oP m.ps).1=0:=by
  refine Classical.byContradiction fun hn=>?_
  rw[AF h1 ae rfl hn]at h4;exact hn h4
 have hh:(nC m.hs).1=0:=by rw[rI h1 ae hp rfl]at h4;exact h4
 refine⟨?_,fun i hi=>?_,fun i hi=>?_,h2,h3⟩
 .have:=Dt m.r;unfold kv at this;rw[aj h1]at this;exact this
 .have:=qF hp i hi;unfold Kb at this;split at this
  .cases this
  .rename_i hn;simp only[not_or,Bool.not_eq_false]at hn;exact⟨Di hn.1.1,Di hn.1.2⟩
 .have:=qF hh i hi;unfold tD at this;split at this
  .cases this
  .rename_i hn;simp only[not_or,Bool.not_eq_false]at hn;exact⟨Di hn.1,hs.2 _ (bL hi)⟩
def Aa {m:iq}(h:¬¬(dA m).1=0)(hs:rV m):∀{i:Nat},i<=m.ps.length->(NJ m i).length<=4096+i*40
 |0,_=>by rw[OA];exact(oI h hs).1
 |i+1,hi=>by
  have h1:=Aa h hs (i:=i) ae;have h2:=(oI h hs).2.1 i ae;rw[B3 ae,EA];simp only[bA,aH,aO];omega
def E0 {m:iq}(h:¬¬(dA m).1=0)(hs:rV m):∀{i:Nat},i<=m.hs.length->(NH m i).length<=4416+i*1048700
 |0,_=>by
  rw[<-E1];have h1:=Aa h hs (aF m.ps.length);have h2:=(oI h hs).2.2.2.1;omega
 |i+1,hi=>by
  have h1:=E0 h hs (i:=i) ae;have h2:=(oI h hs).2.2.1 i ae;rw[B2 ae,A6];simp only[bA,aH,aO];omega
def HD {m:iq}(h:¬(dA m).1=0):qR m=([],(dA m).1):=aw h
def HE {m:iq}(h:¬¬(dA m).1=0):qR m=(EW m,0):=aj h
def K6 {s:ak}{i:Nat}(h:i<(aD s).1.length):eg (ik s)[i]! =((aD s).1[i]!,mM (aD s).1 (aD s).2 i):=by rw[Ds h,yQ (vO (bL h))]
def QH (t:ak):iE 3 t=aV t:=by unfold iE;rw[aj aE];exact SR t
def G7 (t:ak)(k:Nat):(aR [32] ((ai t 32).drop k)).length<=t.length:=by
 have h1:aR [32] (ai t 32)=t:=j6 (b:=32) (x:=32) rfl t;have h2:∀(l:List ak) (k:Nat),(aR [32] (l.drop k)).length<=(aR [32] l).length:=by
  intro l;induction l with
  |nil=>intro k;simp
  |cons a r ih=>
   intro k;cases k with
   |zero=>simp
   |succ k=>
    have:=ih k;rw[List.drop_succ_cons];cases r with
    |nil=>simp[aR]
    |cons b r=>simp only[aR,bA]at this⊢;omega
 have:=h2 (ai t 32) k;rw[h1]at this;exact this
def DL {t u:ak}(h:u∈aV t):u.length<=t.length:=by
 rw[<-SR]at h;unfold nX at h;split at h
 .exact dm t 32 h
 .rcases List.mem_append.1 h with h|h
  .exact dm t 32 (lU h)
  .rw[cT.1 h];exact G7 t 2
def OK (Y:Ctx):Prop:=∀(lm nx:Nat) (m:List (Nat×bp)) (K:D->St->Prop),K (.fn 2000000 [.str [112,105,110],.fn 490 [.fn 3000000 [.ptr lm 11 0 0]],.str [104,111,108,100],.fn 492 [.fn 3000000 [.ptr lm 11 0 0]]]) ⟨nx,m⟩->Y.tr 243 [.ptr lm 11 0 0] ⟨nx,m⟩ K
section
variable {f1 f2:D} {w:ak}
def Bi (h:w=wW):xr w [.str [112,105,110],f1,.str [104,111,108,100],f2]=f1:=by subst h;rfl
def yj (h:w=pk):xr w [.str [112,105,110],f1,.str [104,111,108,100],f2]=f2:=by subst h;rfl
def MN (h:¬w=wW)(h2:¬w=pk):xr w [.str [112,105,110],f1,.str [104,111,108,100],f2]=.nilf:=by
 have e1:(([112,105,110]:ak)==w)=false:=by rw[beq_eq_false_iff_ne];exact fun e=>h e.symm
 have e2:(([104,111,108,100]:ak)==w)=false:=by rw[beq_eq_false_iff_ne];exact fun e=>h2 e.symm
 simp only[xr,e1,e2,cond_false]
end
def Ng {hs:List bF}{t:ak}(h:¬hs.length=0\/t.contains 32=true):¬(decide (hs.length=0)&& !t.contains 32)=true:=by
 rcases h with h|h
 .rw[dJ h];simp
 .rw[h];simp
def Kd {hs:List bF}{t:ak}(h:hs.length=0/\t.contains 32=false):(decide (hs.length=0)&& !t.contains 32)=true:=by rw[cK h.1,h.2];rfl
def MO (w:Bool)(W:List ak):(((!w ||!decide ((W.length:Int)=3)) ||decide ([]∈W))=true)\/((((!w ||!decide ((W.length:Int)=3)) ||decide ([]∈W))=false)/\(¬W[0]! =wW/\¬W[0]! =pk))\/((((!w ||!decide ((W.length:Int)=3)) ||decide ([]∈W))=false)/\W[0]! =wW)\/((((!w ||!decide ((W.length:Int)=3)) ||decide ([]∈W))=false)/\W[0]! =pk):=by
 cases((!w ||!decide ((W.length:Int)=3)) ||decide ([]∈W))with
 |true=>exact .inl rfl
 |false=>
  by_cases h1:W[0]! =wW
  .exact .inr (.inr (.inl ⟨rfl,h1⟩))
  .by_cases h2:W[0]! =pk
   .exact .inr (.inr (.inr ⟨rfl,h2⟩))
   .exact .inr (.inl ⟨rfl,h1,h2⟩)
def Dz {s:ak}(h:8192<s.length):kN s=(zE,3,0):=aw h
def HH {s:ak}(h:¬8192<s.length)(h2:¬(dq (ek s)).2.1=0):kN s=(zE,(dq (ek s)).2.1,(dq (ek s)).2.2):=by unfold kN;rw[aj h,aw h2]
def DA {s:ak}(h:¬8192<s.length)(h2:(dq (ek s)).2.1=0):kN s=zo (dq (ek s)).1 (jy (aD s).1 (aD s).2 ([],[]) (kM (aD s).1)):=by unfold kN;rw[aj h,aj (fun h=>h h2)]
def AS {r:Rec}{q:List dW×List bF}{e:Int}(h:¬e=0):zo r (q,e)=(zE,2,e):=aw h
def I8 {r:Rec}{q:List dW×List bF}(h:¬(dA ⟨r,q.1,q.2⟩).1=0):zo r (q,0)=(zE,(dA ⟨r,q.1,q.2⟩).1,0):=by unfold zo;rw[aj (fun h=>h rfl),aw h]
def Mb {r:Rec}{q:List dW×List bF}(h:(dA ⟨r,q.1,q.2⟩).1=0):zo r (q,0)=(⟨r,q.1,q.2⟩,0,0):=by unfold zo;rw[aj (fun h=>h rfl),aj (fun h2=>h2 h)]
def wE {r:Rec}{L:List ak}{en:Bool}{q:List dW×List bF}{i:Nat}(h:i<L.length)(h2:mM L en i=false\/mw q L[i]! =none):zo r (jy L en q i)=(zE,2,(i:Int)+1):=by
 rcases h2 with h2|h2
 .rw[HN h h2,AS ae]
 .rw[KH h h2,AS ae]
def IF {q:List dW×List bF}{w:Bool}{t:ak}(h:((!w ||!decide (((aV t).length:Int)=3)) ||decide ([]∈aV t))=true):w=false\/mw q t=none:=by
 cases w with
 |false=>exact .inl rfl
 |true=>
  refine .inr (EU ?_);simp only[Bool.not_true,Bool.false_or,dk,bP,bC,a8]at h;rcases h with h|h
  .exact .inl fun h2=>h ae
  .exact .inr (.inl (List.contains_iff_mem.2 h))
def sI {w:Bool}{t:ak}(h:((!w ||!decide (((aV t).length:Int)=3)) ||decide ([]∈aV t))=false):w=true/\(aV t).length=3/\¬(aV t)[1]! =[]/\¬(aV t)[2]! =[]:=by
 simp only[dT,cL,bC,a8]at h;obtain⟨⟨h1,h2⟩,h3⟩:=h;have h4:(aV t).length=3:=ae;exact⟨h1,h4,fun e=>h3 (e▸bL ae),fun e=>h3 (e▸bL ae)⟩
def MM {s:ak}{i:Nat}(h:i<(aD s).1.length)(h2:¬8192<s.length):(aD s).1[i]!.length<=8193:=by have:=Jz h;omega
def ML {s:ak}(h2:¬8192<s.length):(aD s).1.length<=8193:=by have:=Ka s;rw[pR]at this;omega
def Gr {s:ak}(h:¬8192<s.length):∀t∈slice (ik s) 0 (kM (aD s).1),t.length<=2097200:=fun t ht=>by have:=zL (HU ht);omega
def Pt:rV Gq:=by
 refine⟨⟨⟨aE, ?_⟩,by simp[Gq],by simp[Gq],by simp[Gq,uA]⟩,by simp[Gq]⟩;unfold gE.sm;decide
def Tr (l:List Int)(own:Int):rV (QX l own):=by
 refine⟨(A1 l 0 0).sm,fun h hh=>?_⟩;simp only[QX,rsH,cD,eD,or_false]at hh;rcases hh with rfl|rfl|rfl<;>simp
def Jy {a b:ak}(h:(Op.bytesLess a b ||decide (a=b))=true):Oj a b=true:=by
 unfold Oj;simpa using h
def C8 {a b:ak}(h:(Op.bytesLess a b ||decide (a=b))=false):Oj a b=false:=by
 unfold Oj;simpa using h
end
def jH:aN:=⟨2,3,[⟨2,none⟩],di,(sq (r1 [gm eS] 2 0) (sq (r1 [gm s0,uE l0,gm s1,uE l2,jf l1 l3,gm l4,gmt 5 s0,gmt 5 s0,dC 5 (.lenS l7),gmt 5 s1,dC 5 (.lenS l9),dC 5 (mb l8 l10),dC 5 (.slS l6 (some kl) none),gmt 5 s1,dC 5 (dP mG nQ),iM l5 n7,gm pL] 2 16) .ret))⟩
def w563 {Y:Ctx}(hm:(Y.at 0).cQ)  (s:ak)   :fo Y jH (.bool (eg s).2) [.str s,.str [10]]:=by
 show ca _ _ _ [⟨_,_⟩,⟨_,_⟩,_] _;refine av ?_;refine bm ?_;intro u0;refine aA ?_;intro u1;refine aK ?_;refine nk ?_;refine az ?_;refine nk ?_;refine r5 (hb:=fun hf=>by simp at hf;omega) ?_;refine m3 (s.length-1) (hi:=fun hf=>by simp at hf;simp;omega) (hb:=fun hf=>ae) ?_;refine bh ?_;refine cz ?_;exact(K3 s).symm
def FR (T:List D->D->Prop):Prop:=∀(s:ak),T [.str s,.str [10]] (.bool (eg s).2)
def RI (Y:Ctx):Prop:=FR (ch Y 563)
def jr:aN:=⟨2,4,[⟨2,none⟩],di,(sq (r1 [gm cse] 2 0) (sq (sq (r1 [gm s0,gm s1,gx 563 [l0,l1] iZ] 3 2) (.cond s3 (sq (r1 [gm s0,gm s0,uE l1,gm s1,uE l3,gA l2 l4,gn (.slS l0 none (some l5)),gm l6] 2 7) .ret) .skip)) (sq (r1 [gm s0,gm l0] 2 1) .ret)))⟩
def w332 {Y:Ctx}(hm:(Y.at 0).cQ)(h563:RI Y)(s:ak)   :fo Y jr (.str (eg s).1) [.str s,.str [10]]:=by
 show ca _ _ _ [⟨_,_⟩,⟨_,_⟩,_,_] _;refine av ?_;refine bh ?_;refine aq (hc:=h563 s) ?_;refine az ?_;refine ax (fun hc0=>?_) (fun hc0=>?_)
 .refine bm ?_;intro u0;refine aA ?_;intro u1;refine r5 (hb:=fun _=>by have:=wY hc0;simp only[aH,aO];omega) ?_;refine rZ (s.length-1) (hj:=fun _=>by have:=wY hc0;simp only[aH,aO];omega) (hb:=fun _=>ae) ?_;refine aG ?_;refine du ?_;exact(K5 hc0).symm
 refine bh ?_;refine du ?_;exact(K4 hc0).symm
def uU (T:List D->D->Prop):Prop:=∀(s:ak),T [.str s,.str [10]] (.str (eg s).1)
def Rm (Y:Ctx):Prop:=uU (ch Y 332)
def strings_TrimSuffix:aN:=⟨2,3,[⟨2,none⟩],di,(sq (r1 [gm cse] 2 0) (sq (r1 [gm s0,gm s1,gx 332 [l0,l1] iZ,gm l2] 2 3) .ret))⟩
def w125 {Y:Ctx}(hm:(Y.at 0).cQ)(h332:Rm Y)(s:ak)   :fo Y strings_TrimSuffix (.str (eg s).1) [.str s,.str [10]]:=by
 show ca _ _ _ [⟨_,_⟩,⟨_,_⟩,_] _;refine av ?_;refine bm ?_;refine aq (hc:=h332 s) ?_;refine aG ?_;exact du rfl
def Q6 (Y:Ctx):Prop:=uU (ch Y 125)
def ug:aN:=⟨1,3,mJ,di,(sq (r1 [gm eS] 1 0) (sq (r1 [gm s0,gx 125 [l0,(cs [10])] iZ,gx 487 [l1,(cs [32])] iZ,gm l2,ge l3 0,ge l3 1,ge l3 2,gm l4,gm l5,gm l6] 2 7) (sq (r1 [gm s2,aU l0 (cs [112,105,110]),gm l1,fZ 2 s2,dc 2 (dP l3 (cs [104,111,108,100])),gR l2 l4,gm l5] 1 6) .ret)))⟩
def w241 {Y:Ctx}(hm:(Y.at 0).cQ)(h125:Q6 Y)(h487:OU Y)(s:ak)  (hp0:s.length<=1048576):fo Y ug (.bool (zc s)) [.str s]:=by
 show ca _ _ _ [⟨_,_⟩,_,_] _;have hwl:=wX s;refine av ?_;refine aK ?_;refine aq (hc:=h125 s) ?_;refine aq (hc:=h487 (eg s).1 32 ae) ?_;refine Lm ?_;exact cz rfl
def Fm (T:List D->D->Prop):Prop:=∀(s:ak),(s.length<=1048576)->T [.str s] (.bool (zc s))
def Rh (Y:Ctx):Prop:=Fm (ch Y 241)
def o9:aN:=⟨2,8,[⟨2,none⟩],di,(sq (r1 [gm b7] 2 0) (sq (sq (rg [gm s0,gl l0,gm b7] [(4,1),(3,2)]) (.block 0 (.loop (sq (r1 [bo s3 s4] 5 0) (sq (jG s5 0) (sq (.block 1 (sq (r1 [gm s3,gm l0] 6 1) (sq (r1 [gm s1,gm s0,gm s6,ga 1 l1 l2,gd l3,gn (.callv l0 [l4] di)] 7 5) (.cond s7 (sq (r1 [gm s6,gm l0] 2 1) .ret) .skip)))) (r1 [ay s3 cN,gm l0] 3 1))))))) (sq (r1 [gn (.mv (.c (.int .i64 (-1))))] 2 0) .ret)))⟩
def w240 (h241:Rh Y)(l:List ak)  (hp0:∀t∈l,t.length<=1048576):fo Y o9 (.int .i64 (C0 l 0)) [.sl 1 (l.map D.str),.fn 241 []]:=by
 show ca _ _ _ [⟨_,_⟩,⟨_,_⟩,_,_,_,_,_,_] _;refine av ?_;refine bh ?_;intro u0;refine aA ?_;refine bO hm (ι:=Nat) (fun i=>[⟨true,.sl 1 (l.map D.str)⟩,⟨true,.fn 241 []⟩,.un,⟨true,.int .i64 (i:Nat)⟩,⟨true,.int .i64 (l.length:Nat)⟩,.un,.un,.un]) (fun i=>[]) 4 (fun i=>i<=l.length/\C0 l 0=C0 l i) (fun i=>l.length-i) 0 ⟨ae,rfl⟩ (fP []) ?_;rintro i ⟨hi,hr⟩;refine aG ?_;refine dR (fun hc0=>?_) fun hc0=>?_
 .refine jD ?_;refine Nq (hc:=fun _=>h241 l[i]! (hp0 _ (bL ae))) ?_;refine az ?_;refine iR (fun hc1=>?_) fun hc1=>?_
  .refine bI ?_;refine jj ?_;rw[hr,MH ae hc1]
  refine bI ?_;exact⟨i+1,⟨ae,by rw[hr,PL ae hc1]⟩,ae,(fP [])⟩
 refine bh ?_;refine jj ?_;rw[hr,MG ae]
def Fl (T:List D->D->Prop):Prop:=∀(l:List ak),(∀t∈l,t.length<=1048576)->T [.sl 1 (l.map D.str),.fn 241 []] (.int .i64 (C0 l 0))
def Rg (Y:Ctx):Prop:=Fl (ch Y 240)
def vW:aN:=⟨1,25,[⟨1,none⟩,⟨2,none⟩],iZ,(sq (rg [gb 11 s0,gm b7,gm b7] [(3,0),(1,1),(2,2)]) (sq (sq (rg [gf 0 s3,gk 9 true l0,gx 70 [l1] [rm],gm l2,ge l3 0,ge l3 1,gm l4,gm l5] [(4,6),(6,7)]) (sq (r1 [gm s4,dd l0 b7] 5 1) (.cond s5 (sq (rg [gm s4,gm s6,gm l0,gm l1] [(1,2),(2,3)]) .ret) .skip))) (sq (sq (r1 [gf 9 s3,gd l0,gl l1,eI l2 Jn,gm l3,mh 4 10 s3,mg 4 l5,dc 4 (.len l6),dc 4 (ew l7 Jn),gR l4 l8] 7 9) (.cond s7 (sq (rg [gm k9,gm b7] [(1,0),(2,1)]) .ret) .skip)) (sq (sq (rg [gf 9 s3,gd l0,gl l1,gm b7] [(11,1),(9,2),(8,3)]) (.block 0 (.loop (sq (r1 [bo s8 s9] 10 0) (sq (jG mL 0) (sq (.block 1 (sq (rg [gm s8,ga 2 pU s8,gk 2 true l1,gb 2 (.c (.agg [.str [],.str []])),gm l0,gt 2 l3 l2] [(12,3),(13,4)]) (sq (r2 [gf 0 m6,gd l0,gx 208 [l1] di,p8 l2,gm l3,mh 4 1 m6,mg 4 l5,dc 4 (.call 208 [l6] di),dc 4 (.un .not l7),gR l4 l8,gm l9,fZ 10 rq,dc 10 (ew kl b7),fZ 10 mG,rp 13 9 s3,pJ 13 n7,gmt 13 rq,dC 13 (mb si cN),dC 13 (.ia 2 pL xd),rp 13 0 yg,pJ 13 Bc,rp 13 0 m6,pJ 13 En,dC 13 (vg C1 Ii),Ei 10 nQ MI,gR l10 MJ] 14 25) (.cond rr (sq (rg [gm rq,gm (i6 15),gm l0] [(1,1),(2,2)]) .ret) .skip)))) (r1 [ay s8 cN,gm l0] 8 1))))))) (sq (sq (rg [gf 10 s3,gd l0,gl l1,gm b7] [(18,1),(16,2),(15,3)]) (.block 2 (.loop (sq (r1 [bo tP An] 17 0) (sq (jG yz 2) (sq (.block 3 (sq (rg [gm tP,ga 2 yA tP,gk 2 true l1,gb 2 (.c (.agg [.str [],.str []])),gm l0,gt 2 l3 l2] [(19,3),(20,4)]) (sq (sq (r2 [gf 0 HQ,gd l0,gx 208 [l1] di,p8 l2,gm l3,fZ 4 DI,dc 4 (ew l5 b7),fZ 4 l6,rp 7 10 s3,pJ 7 l8,gmt 7 DI,dC 7 (mb l10 cN),dC 7 (.ia 2 l9 kl),rp 7 0 mG,pJ 7 nQ,rp 7 0 HQ,pJ 7 pL,dC 7 (vg n7 si),Ei 4 l7 xd,gR l4 yg] 21 19) (.cond Qt (sq (rg [gm DI,gm ud,gm l0] [(1,1),(2,2)]) .ret) .skip)) (sq (rg [gf 1 HQ,gd l0,gx 495 [l1] di,gm l2,ge l3 0,ge l3 1,gb 1 (.c (.agg [.au])),gt 1 l6 l4,gm l5] [(23,6),(22,8)]) (sq (r2 [gm QY,dd l0 b7,gm l1,dc 2 (.ld 1 true s23),dc 2 (.call 496 [l3] [[.sl 1 [.sl 7 [.a,.a,.a,.a,.a,.a,.a]]]]),mh 2 1 HQ,mg 2 l5,dc 2 (gO l4 l6),gR l2 l7] 24 8) (.cond Qu (sq (rg [gm DI,gm Al,gm l0] [(1,1),(2,2)]) .ret) .skip)))))) (r1 [ay tP cN,gm l0] 15 1))))))) (sq (rg [gm b7,gm b7] [(1,0),(2,1)]) .ret))))))⟩
def w247 (h70:C70 Y)(h208:Im Y)(h495:OY Y)(h496:OZ Y)(m:iq)  (hp0:rV m):fo Y vW (.tup [.int .i64 (dA m).1,.int .i64 (dA m).2]) [iq.D m]:=by
 show ca _ _ _ [⟨_,_⟩,_,_,_,_,_,_,_,_,_,_,_,_,_,_,_,_,_,_,_,_,_,_,_,_] _;refine av ?_;refine bI ?_;refine bZ (v:=Rec.D m.r) ?_;refine aq (hc:=h70 m.r hp0.1) ?_;refine fJ ?_;refine ax (fun hc0=>?_) (fun hc0=>?_)
 .simp only[ed]at hc0;refine cH ?_;refine cv (aZ (ar (D.int .i64) ?_) (ar (D.int .i64) ?_));all_goals rw[IM hc0]
 simp only[ed]at hc0;have q0:¬¬(cw m.r).1=0:=fun h=>h hc0
 refine aK ?_;refine bZ (v:=.sl 2 (m.ps.map dW.D)) ?_;refine az ?_;intro u0;refine aG ?_;refine bZ (v:=.sl 2 (m.hs.map bF.D)) ?_;refine nk ?_;refine aG ?_;refine ax (fun hc1=>?_) (fun hc1=>?_)
 .simp only[ed]at hc1;have hz:=IL q0 ae;refine bh ?_;refine cv (aZ (ar (D.int .i64) ?_) (ar (D.int .i64) ?_));all_goals rw[hz]
 simp only[ed]at hc1;have q1:¬(8<m.ps.length\/8<m.hs.length):=ae;refine aK ?_;refine bZ (v:=.sl 2 (m.ps.map dW.D)) ?_;refine az ?_;intro u1;refine aA ?_;refine bO hm (ι:=Nat) (fun i=>[.un,.un,.un,⟨true,.ptr 0 11 0 0⟩,.un,.un,.un,.un,⟨true,.int .i64 (i:Nat)⟩,⟨true,.int .i64 (m.ps.length:Nat)⟩,.un,⟨true,.sl 2 (m.ps.map dW.D)⟩,.un,.un,.un,.un,.un,.un,.un,.un,.un,.un,.un,.un,.un]) (fun i=>[(0,.buf 11 [iq.D m])]) 60 (fun i=>i<=m.ps.length/\oP m.ps=fD (Kb m.ps) i m.ps.length) (fun i=>m.ps.length-i) 0 ⟨ae,rfl⟩ (fP [(0,0)]) ?_;rintro i ⟨hi,hr⟩;refine aG ?_;refine dR (fun hc2=>?_) fun hc2=>?_
 .refine aK ?_;refine cr i (hb:=fun _=>ae) ?_;refine b6 (v:=dW.D m.ps[i]!) (hi:=fun _=>ae) ?_;refine aA ?_;refine aQ (dW.D m.ps[i]!) (he:=aT) ?_;refine aG ?_;refine bZ (v:=.str m.ps[i]!.name) ?_;refine aq (hc:=h208 m.ps[i]!.name) ?_;refine aG ?_;refine bZ (v:=.str m.ps[i]!.shelf) ?_;refine er (hc:=fun hf=>h208 m.ps[i]!.shelf) ?_;refine bI ?_;refine bZ (v:=.sl 2 (m.ps.map dW.D)) ?_;refine az ?_;refine r5 (hb:=fun hf=>by simp at hf;omega) ?_;refine cr (i-1) (hj:=fun hf=>by simp at hf;omega) (hb:=fun hf=>by simp at hf;omega) ?_;refine az ?_;refine b6 (v:=.str m.ps[(i-1)]!.name) (hi:=fun hf=>by simp at hf;omega) ?_;refine az ?_;refine bZ (v:=.str m.ps[i]!.name) ?_;refine aK ?_;refine wp_cond (fun hc3=>?_) (fun hc3=>?_)
  .simp only[ed]at hc3;simp only[gt_iff_lt,Int.natCast_pos]at hc3;have hz:=Kc hc3;refine cH ?_;refine cv (aZ (ar (D.int .i64) ?_) (ar (D.int .i64) ?_));all_goals rw[AF q0 q1 (show oP m.ps=(15,((i:Nat):Int))by rw[hr,iv ae (by rw[hz];decide),hz]) (show ¬(15:Int)=0 by decide)]
  simp only[ed]at hc3;simp only[gt_iff_lt,Int.natCast_pos]at hc3;have hz:=Nf (l:=m.ps) (i:=i) (by rintro((h|h)|⟨h,h2⟩)<;>simp_all);refine bI ?_;exact⟨i+1,⟨ae,by rw[hr,kZ ae hz]⟩,ae,(fP [(0,0)])⟩
 refine aK ?_;have q2:(oP m.ps).1=0:=by rw[hr,kY ae]
 refine az ?_;refine bZ (v:=.sl 2 (m.hs.map bF.D)) ?_;refine az ?_;intro u2;refine aA ?_;refine bO hm (ι:=Nat) (fun i=>[.un,.un,.un,⟨true,.ptr 0 11 0 0⟩,.un,.un,.un,.un,.un,.un,.un,.un,.un,.un,.un,⟨true,.int .i64 (i:Nat)⟩,⟨true,.int .i64 (m.hs.length:Nat)⟩,.un,⟨true,.sl 2 (m.hs.map bF.D)⟩,.un,.un,.un,.un,.un,.un]) (fun i=>[(0,.buf 11 [iq.D m])]) 90 (fun i=>i<=m.hs.length/\nC m.hs=fD (tD m.hs) i m.hs.length) (fun i=>m.hs.length-i) 0 ⟨ae,rfl⟩ (fP [(0,0)]) ?_;rintro i ⟨hi,hr⟩;refine aG ?_;refine dR (fun hc4=>?_) fun hc4=>?_
 .refine aK ?_;refine cr i (hb:=fun _=>ae) ?_;refine b6 (v:=bF.D m.hs[i]!) (hi:=fun _=>ae) ?_;refine aA ?_;refine aQ (bF.D m.hs[i]!) (he:=aT) ?_;refine aK ?_;refine bZ (v:=.str m.hs[i]!.name) ?_;refine aq (hc:=h208 m.hs[i]!.name) ?_;refine bh ?_;refine bZ (v:=.sl 2 (m.hs.map bF.D)) ?_;refine az ?_;refine r5 (hb:=fun hf=>by simp at hf;omega) ?_;refine cr (i-1) (hj:=fun hf=>by simp at hf;omega) (hb:=fun hf=>by simp at hf;omega) ?_;refine az ?_;refine b6 (v:=.str m.hs[(i-1)]!.name) (hi:=fun hf=>by simp at hf;omega) ?_;refine az ?_;refine bZ (v:=.str m.hs[i]!.name) ?_;refine aK ?_;refine ax (fun hc5=>?_) (fun hc5=>?_)
  .simp only[ed]at hc5;simp only[gt_iff_lt,Int.natCast_pos]at hc5;have hz:=Ms hc5;refine ez ?_;refine cv (aZ (ar (D.int .i64) ?_) (ar (D.int .i64) ?_));all_goals rw[rI q0 q1 q2 (show nC m.hs=(4,((i:Nat):Int))by rw[hr,iv ae (by rw[hz];decide),hz])]
  simp only[ed]at hc5;simp only[gt_iff_lt,Int.natCast_pos]at hc5;have hq:¬(ee m.hs[i]!.name=false\/(0<i/\Op.bytesLess m.hs[i-1]!.name m.hs[i]!.name=false)):=by rintro(h|⟨h,h2⟩)<;>simp_all
  refine aG ?_;refine bZ (v:=.str m.hs[i]!.range) ?_;refine aq (hc:=h495 m.hs[i]!.range (hp0.2 _ (bL ae))) ?_;refine az ?_;refine hX (lP _) ?_;refine aA ?_;refine aQ (lP (kd m.hs[i]!.range).1) (he:=aT) ?_;refine bh ?_;refine dj (d:=lP (kd m.hs[i]!.range).1) ?_;refine er (hc:=fun hf=>h496 (kd m.hs[i]!.range).1 EN.1) ?_;refine az ?_;refine bZ (v:=.str m.hs[i]!.range) ?_;refine aG ?_;refine wp_cond (fun hc6=>?_) (fun hc6=>?_)
  .simp only[ed]at hc6;have hrz:im m.hs[i]!.range=false:=by
    unfold im;rcases hc6 with h|h
    .rw[dJ h];rfl
    .rw[dJ h,Bool.and_false]
   have hz:=Mt hq hrz;refine cH ?_;refine cv (aZ (ar (D.int .i64) ?_) (ar (D.int .i64) ?_));all_goals rw[rI q0 q1 q2 (show nC m.hs=(6,((i:Nat):Int))by rw[hr,iv ae (by rw[hz];decide),hz])]
  simp only[ed]at hc6;have hz:=Jk hq (show im m.hs[i]!.range=true by unfold im;simp_all);refine bI ?_;exact⟨i+1,⟨ae,by rw[hr,kZ ae hz]⟩,ae,(fP [(0,0)])⟩
 refine bI ?_;refine cv (aZ (ar (D.int .i64) ?_) (ar (D.int .i64) ?_));all_goals rw[rI q0 q1 q2 (show nC m.hs=(0,0)by rw[hr,kY ae])]
def Ft (T:List D->D->Prop):Prop:=∀(m:iq),(rV m)->T [iq.D m] (.tup [.int .i64 (dA m).1,.int .i64 (dA m).2])
def Lu (Y:Ctx):Prop:=Ft (ch Y 247)
section
section
variable {Y:Ctx} {draw:Bool} {r:List GI} {env rs:List bE} {nx:Nat} {m:List (Nat×bp)} {K:List bE->St->Prop} {g:Option (Nat×Bool)} {f:Bool}
def Bz {x y:Src}{fx fy:Bool}{es:List D}{s:List UInt8}(v:D)(h:aB Y draw r env (⟨f,v⟩::rs) nx m K)(hg:GF rs g f:=by first|exact rfl|exact⟨_,_,rfl,rfl⟩)(hx:cq env rs x=⟨fx,.fn 2000000 es⟩:=by exact rfl)(hy:cq env rs y=⟨fy,.str s⟩:=by exact rfl)(kx:f=true->fx=true:=by first|exact fun _=>rfl|exact fun h=>h|(intro h;simp_all))(ky:f=true->fy=true:=by first|exact fun _=>rfl|exact fun h=>h|(intro h;simp_all))(ho:MS es:=by exact trivial)(hv:f=true->xr s es=v):aB Y draw (⟨.lkp x y,g⟩::r) env rs nx m K:=
 bG rfl hg _ (fun hf=>by simp[aC.dD,hx,hy,kx hf,ky hf,ho]) (fun hf=>by simp only[aC.val,hx,hy];rw[hv hf]) (fun _=>h)
def Oo {x:Src}{fx:Bool}{n:Nat}{es:List D}(h:aB Y draw r env (⟨f,.bool false⟩::rs) nx m K)(hg:GF rs g f:=by first|exact rfl|exact⟨_,_,rfl,rfl⟩)(hx:cq env rs x=⟨fx,.fn n es⟩:=by exact rfl)(kx:f=true->fx=true:=by first|exact fun _=>rfl|exact fun h=>h|(intro h;simp_all))(hn:n<2000000:=by decide):aB Y draw (⟨.G4 x,g⟩::r) env rs nx m K:=
 bG rfl hg _ (fun hf=>by simp only[aC.dD,hx];exact⟨kx hf,hn⟩) (fun hf=>by simp only[aC.val,hx]) (fun _=>h)
def Ti {x:Src}{fx:Bool}(h:aB Y draw r env (⟨f,.bool true⟩::rs) nx m K)(hg:GF rs g f:=by first|exact rfl|exact⟨_,_,rfl,rfl⟩)(hx:cq env rs x=⟨fx,.nilf⟩:=by exact rfl)(kx:f=true->fx=true:=by first|exact fun _=>rfl|exact fun h=>h|(intro h;simp_all)):aB Y draw (⟨.G4 x,g⟩::r) env rs nx m K:=
 bG rfl hg _ (fun hf=>by simp only[aC.dD,hx];exact⟨kx hf,trivial⟩) (fun hf=>by simp only[aC.val,hx]) (fun _=>h)
def Ks {x:Src}{fx:Bool}{ag:Bool}{d:D}(h:aB Y draw r env (⟨f,d⟩::rs) nx m K)(hg:GF rs g f:=by first|exact rfl|exact⟨_,_,rfl,rfl⟩)(hx:cq env rs x=⟨fx,.fn 3000000 [d]⟩:=by exact rfl)(kx:f=true->fx=true:=by first|exact fun _=>rfl|exact fun h=>h|(intro h;simp_all))(hc:d.cells=[d]:=by exact rfl)(ha:d.isAgg=ag:=by exact rfl):aB Y draw (⟨.ldI 1 ag x,g⟩::r) env rs nx m K:=
 bG rfl hg _ (fun hf=>by simp only[aC.dD,hx];exact⟨kx hf,trivial,trivial,rfl,hc⟩) (fun hf=>by simp only[aC.val,hx,fY];exact C6 ha) (fun _=>h)
def Dx {x:Src}{fx:Bool}{ag:Bool}{d:D}(h:aB Y draw r env (⟨f,d⟩::rs) nx m K)(hg:GF rs g f:=by first|exact rfl|exact⟨_,_,rfl,rfl⟩)(hx:cq env rs x=⟨fx,.fn 3000000 [d]⟩:=by exact rfl)(kx:f=true->fx=true:=by first|exact fun _=>rfl|exact fun h=>h|(intro h;simp_all))(hc:d.cells=[d]:=by exact rfl)(ha:d.isAgg=ag:=by exact rfl):aB Y draw (⟨.ld 1 ag x,g⟩::r) env rs nx m K:=
 fS rfl hg _ (fun hf=>by simp only[aC.dD,hx,Bf];exact⟨kx hf,trivial,trivial,rfl,hc⟩) (fun hf=>by simp only[aC.val,hx,yh,fY];exact C6 ha) m rfl (fun _=>h)
end
end
def jc:aN:=⟨3,4,[⟨3,none⟩],di,(sq (r1 [gm eS] 3 0) (sq (rt [gn (.ldI 1 false s2),gd s2,gc l1,gf 9 l2,gd l3,gm s0,gm s1,gn (.build [.str [],.str []] [(0,1,l5),(1,1,l6)]),gn (.bsl 2 (.agg [.str [],.str []]) 1 [(0,l7)]),gn (.app 2 l4 l8),gc l0,gf 9 l10,gt 1 kl l9] []) (sq (r1 [gd s2,gc l0,gf 10 l1,gd l2,gl l3,aU l4 b7,gm l5,gmt 6 s1,dC 6 (.call 491 [l7,(cs [32])] iZ),dC 6 (.un .not l8),iM l6 l9,gm l10] 3 11) .ret)))⟩
def w490 {Y:Ctx}(hm:(Y.at 3).cQ)(r:Rec)(ps:List dW)(hs:List bF)(a:ak)(b:ak)(h491:RG (Y.at 3))(hp0:ps.length<=100000/\b.length<=1048576):ca (Y.at 3) jc.body (nU jc (LM r (ps++[⟨a,b⟩],hs) (decide (hs.length=0)&& !b.contains 32)):Ex->List bE->St->Prop) (gh jc [.str a,.str b,.fn 3000000 [.ptr 0 11 0 0]]) ⟨3,[(0,.buf 11 [eO r (.own 1 2 0 ps.length) (.own 2 2 0 hs.length)]),(1,.buf 2 (ps.map dW.D)),(2,.buf 2 (hs.map bF.D))]⟩:=by
 show ca _ _ _ [⟨true,.str a⟩,⟨true,.str b⟩,⟨true,.fn 3000000 [.ptr 0 11 0 0]⟩,.un] ⟨3,[(0,.buf 11 [eO r (.own 1 2 0 ps.length) (.own 2 2 0 hs.length)]),(1,.buf 2 (ps.map dW.D)),(2,.buf 2 (hs.map bF.D))]⟩;refine av ?_;refine aG ?_;refine Ks ?_;refine Dx ?_;refine aA ?_;refine bZ (v:=(.own 1 2 0 ps.length)) ?_;refine aA ?_;refine bq (dW.D ⟨a,b⟩) ?_;refine cZ [dW.D ⟨a,b⟩] ?_;refine jg (q:=dW.D) (xs:=ps) (e:=⟨a,b⟩) (hb:=ae) ?_;refine aA ?_;refine aQ (eO r (.own 13 2 0 (ps++[(⟨a,b⟩:dW)]).length) (.own 2 2 0 hs.length)) (he:=aT) ?_;refine aA ?_;refine Dx ?_;refine aA ?_;refine bZ (v:=(.own 2 2 0 hs.length)) ?_;refine az ?_;intro u0;refine aG ?_;refine er (hc:=fun hf=>h491 b 32 hp0.2) ?_;refine bm ?_;refine ff trivial js (dw ah (ar D.bool ?_)) ah ⟨rfl,13,2,aE,aT,aT,aT⟩;simp
def OW (Y:Ctx):Prop:=∀(r:Rec) (ps:List dW) (hs:List bF) (a b:ak),(ps.length<=100000/\b.length<=1048576)->∀(nx:Nat) (m:List (Nat×bp)) (K:D->St->Prop),Ao m r ps hs->6<=nx->K (.bool (decide (hs.length=0)&& !b.contains 32)) ⟨nx+2,vV m nx r (ps++[⟨a,b⟩],hs)⟩->Y.tr 490 [.str a,.str b,.fn 3000000 [.ptr 2 11 0 0]] ⟨nx,m⟩ K
def jd:aN:=⟨3,4,[⟨3,none⟩],di,(sq (r1 [gm eS] 3 0) (sq (rt [gn (.ldI 1 false s2),gd s2,gc l1,gf 10 l2,gd l3,gm s0,gm s1,gn (.build [.str [],.str []] [(0,1,l5),(1,1,l6)]),gn (.bsl 2 (.agg [.str [],.str []]) 1 [(0,l7)]),gn (.app 2 l4 l8),gc l0,gf 10 l10,gt 1 kl l9] []) (sq (r1 [gm xc] 3 0) .ret)))⟩
def w492 {Y:Ctx}(hm:(Y.at 3).cQ)(r:Rec)(ps:List dW)(hs:List bF)(a:ak)(b:ak)  (hp0:hs.length<=100000/\b.length<=1048576):ca (Y.at 3) jd.body (nU jd (LM r (ps,hs++[⟨a,b⟩]) (true)):Ex->List bE->St->Prop) (gh jd [.str a,.str b,.fn 3000000 [.ptr 0 11 0 0]]) ⟨3,[(0,.buf 11 [eO r (.own 1 2 0 ps.length) (.own 2 2 0 hs.length)]),(1,.buf 2 (ps.map dW.D)),(2,.buf 2 (hs.map bF.D))]⟩:=by
 show ca _ _ _ [⟨true,.str a⟩,⟨true,.str b⟩,⟨true,.fn 3000000 [.ptr 0 11 0 0]⟩,.un] ⟨3,[(0,.buf 11 [eO r (.own 1 2 0 ps.length) (.own 2 2 0 hs.length)]),(1,.buf 2 (ps.map dW.D)),(2,.buf 2 (hs.map bF.D))]⟩;refine av ?_;refine aG ?_;refine Ks ?_;refine Dx ?_;refine aA ?_;refine bZ (v:=(.own 2 2 0 hs.length)) ?_;refine aA ?_;refine bq (bF.D ⟨a,b⟩) ?_;refine cZ [bF.D ⟨a,b⟩] ?_;refine jg (q:=bF.D) (xs:=hs) (e:=⟨a,b⟩) (hb:=ae) ?_;refine aA ?_;refine aQ (eO r (.own 1 2 0 ps.length) (.own 13 2 0 (hs++[(⟨a,b⟩:bF)]).length)) (he:=aT) ?_;refine bm ?_;refine ff trivial js (dw ah (ar D.bool ?_)) ah ⟨rfl,1,13,aE,aT,aT,aT⟩;rfl
def OX (Y:Ctx):Prop:=∀(r:Rec) (ps:List dW) (hs:List bF) (a b:ak),(hs.length<=100000/\b.length<=1048576)->∀(nx:Nat) (m:List (Nat×bp)) (K:D->St->Prop),Ao m r ps hs->6<=nx->K (.bool (true)) ⟨nx+2,vV m nx r (ps,hs++[⟨a,b⟩])⟩->Y.tr 492 [.str a,.str b,.fn 3000000 [.ptr 2 11 0 0]] ⟨nx,m⟩ K
def vX:aN:=⟨1,23,[⟨1,some (11,true)⟩,⟨2,none⟩,⟨3,none⟩],[[.a,.a,.a,.a,.a,.a,.sl 3 [.sl 4 [.a,.a,.sl 1 [.a],.a],.a,.a],.sl 3 [.a,.a,.a],.sl 2 [.a,.sl 1 [.a]],.sl 2 [.a,.a],.sl 2 [.a,.a]],[.a],[.a]],(sq (rg [gb 11 (.c (.agg [.str [],.int .i64 0,.int .i64 0,.int .i64 0,.str [],.str [],.au,.au,.au,.au,.au])),gm b7,gm b7] [(1,0),(2,1),(3,2)]) (sq (sq (r1 [gm s0,uE l0,eI l1 (i6 8192)] 4 2) (.cond s4 (sq (rg [gn (.build [.str [],.int .i64 0,.int .i64 0,.int .i64 0,.str [],.str [],.au,.au,.au,.au,.au] []),gt 11 s1 l0,gm k9,gm b7] [(2,2),(3,3)]) .ret) .skip)) (sq (r1 [gm s0,gx 239 [l0,(cs [10])] iZ,gm l1] 5 2) (sq (sq (r1 [gm s5,gm s5,gl l1,gA l2 cN,ga 1 l0 l3,gd l4,aU l5 cse] 6 6) (.cond s6 (r1 [gm s5,gm s5,gl l1,gA l2 cN,gn (.slA 1 l0 none (some l3)),gm l4] 5 5) .skip)) (sq (r1 [gm s5,gx 240 [l0,(.c (.fn 241 []))] [[.sl 1 [.a]],[.a]],gm l1] 7 2) (sq (sq (r1 [gm s7,bo l0 b7] 8 1) (.cond s8 (r1 [gm s5,gl l0,gm l1] 7 2) .skip)) (sq (rg [gm s5,gm s7,gn (.slA 1 l0 none (some l1)),gx 242 [l2,cse] [[.sl 1 [.a]],[.a]],gx 76 [l3] di,gm l4,ge l5 0,ge l5 1,ge l5 2,gb 9 (.c (.agg [.str [],.int .i64 0,.int .i64 0,.int .i64 0,.str [],.str [],.au,.au,.au])),gt 9 l9 l6,gm l7,gm l8] [(12,9),(9,11),(11,12)]) (sq (sq (r1 [gm s9,dd l0 b7] 10 1) (.cond mL (sq (rg [gn (.build [.str [],.int .i64 0,.int .i64 0,.int .i64 0,.str [],.str [],.au,.au,.au,.au,.au] []),gm s9,gm pU,gt 11 s1 l0,gm l1,gm l2] [(2,4),(3,5)]) .ret) .skip)) (sq (r1 [gk 9 true m6,gn (.build [.str [],.int .i64 0,.int .i64 0,.int .i64 0,.str [],.str [],.au,.au,.au,.au,.au] [(0,9,l0)]),gb 11 (.c (.agg [.str [],.int .i64 0,.int .i64 0,.int .i64 0,.str [],.str [],.au,.au,.au,.au,.au])),gt 11 l2 l1] 13 2) (sq (r1 [gn (.callM 243 [rq]),gm l0] 19 1) (sq (sq (r1 [gm s7,gm l0] 14 1) (.block 0 (.loop (sq (sq (r1 [gm rr,gm s5,gl l1,bo l0 l2] 15 3) (jG tP 0)) (sq (.block 1 (sq (rg [gm s5,gm rr,ga 1 l0 l1,gd l2,gx 244 [l3,(cs [10])] iZ,gm l4,ge l5 0,ge l5 1,gm l6,gm l7] [(16,8),(17,9)]) (sq (r1 [gm An,gx 245 [l0,(cs [32]),k9] QQ,gm l1] 18 2) (sq (r2 [gm yz,p8 l0,gm l1,fZ 2 yA,dc 2 (.len l3),dc 2 (gO l4 k9),gR l2 l5,gm l6,fZ 7 yA,dc 7 (.call 246 [l8,cse] [[.sl 1 [.a]],[.a]]),gR l7 l9,gm l10,fZ 11 HQ,fZ 11 yA,dc 11 (.ia 1 nQ b7),mg 11 n7,dc 11 (.lkp mG pL),dc 11 (.G4 si),gR kl xd,gm yg,fZ 19 HQ,fZ 19 yA,dc 19 (.ia 1 En b7),mg 19 Ii,dc 19 (.lkp C1 MI),fZ 19 yA,dc 19 (.ia 1 Oi cN),mg 19 PM,fZ 19 yA,dc 19 (.ia 1 QT mi),mg 19 QU,dc 19 (.callvM MJ [QS,S6]),dc 19 (.un .not l31),gR Bc l32] 20 33) (.cond DI (sq (rg [gn (.build [.str [],.int .i64 0,.int .i64 0,.int .i64 0,.str [],.str [],.au,.au,.au,.au,.au] []),gm rr,ay l1 cN,gt 11 s1 l0,gm mi,gm l2] [(2,4),(3,5)]) .ret) .skip))))) (r1 [gm rr,ay l0 cN,gm l1] 14 2)))))) (sq (sq (r1 [gk 11 true rq,gx 247 [l0] [[.a,.a,.a,.a,.a,.a,.sl 3 [.sl 4 [.a,.a,.sl 1 [.a],.a],.a,.a],.sl 3 [.a,.a,.a],.sl 2 [.a,.sl 1 [.a]],.sl 2 [.a,.a],.sl 2 [.a,.a]]],gm l1,ge l2 0,ge l2 1,gm l3,gm l4] 21 5) (sq (r1 [gm Qt,dd l0 b7] 22 1) (.cond QY (sq (rg [gn (.build [.str [],.int .i64 0,.int .i64 0,.int .i64 0,.str [],.str [],.au,.au,.au,.au,.au] []),gm Qt,gt 11 s1 l0,gm l1,gm b7] [(2,3),(3,4)]) .ret) .skip))) (sq (rg [gk 11 true rq,gt 11 s1 l0,gm b7,gm b7] [(2,2),(3,3)]) .ret)))))))))))))⟩
def w82 (h76:C76 Y)(h239:Rf Y)(h240:Rg Y)(h242:Iq Y)(h243:OK Y)(h244:Ri Y)(h245:OL Y)(h246:OM Y)(h247:Lu Y)(h490:OW Y)(h492:OX Y)(s:ak)  (hp0:s.length<=1048576):fo Y vX (.tup [iq.D (kN s).1,.int .i64 (kN s).2.1,.int .i64 (kN s).2.2]) [.str s]:=by
 show ca _ _ _ [⟨_,_⟩,_,_,_,_,_,_,_,_,_,_,_,_,_,_,_,_,_,_,_,_,_,_] _;have hpl:=J8 s;have hpz:ik s=if(hH s)[(hH s).length-1]! =[]then(hH s).take ((hH s).length-1)else hH s:=J9 s
 have hxk:=S4 (s:=s);have hkl:=Jt (aD s).1;have hpc:=pR s;refine av ?_;refine cH ?_;intro u0;refine aA ?_;refine ax (fun hc0=>?_) (fun hc0=>?_)
 .simp only[ed]at hc0;have hz:=Dz (s:=s) ae;refine aA ?_;refine ep _ ?_;refine bm ?_;refine cv (fV ?_ (ar (D.int .i64) ?_) (ar (D.int .i64) ?_));all_goals
   rw[hz];first|done|rfl
 simp only[ed]at hc0;have g0:¬8192<s.length:=ae;have g9:=ML g0;refine aG ?_;refine aq (hc:=h239 s hp0) ?_;refine bI ?_;intro u1;refine az ?_;refine cr ((hH s).length-1) (hb:=fun _=>ae) ?_;refine b6 (v:=.str (hH s)[(hH s).length-1]!) (hi:=fun _=>ae) ?_;refine aA ?_;refine nK hm (ι:=Unit) (fun _=>[⟨true,.str s⟩,⟨true,.ptr 0 11 0 0⟩,.un,.un,.un,⟨true,.sl 1 ((ik s).map D.str)⟩,.un,.un,.un,.un,.un,.un,.un,.un,.un,.un,.un,.un,.un,.un,.un,.un,.un]) (fun _=>[(0,.buf 11 [.agg [.str [],.int .i64 0,.int .i64 0,.int .i64 0,.str [],.str [],.au,.au,.au,.au,.au]])]) 20 (fun _=>True) ?_ ?_
 .refine wp_cond (fun hc1=>?_) (fun hc1=>?_)
  .simp only[ed]at hc1;refine aK ?_;intro u2;refine az ?_;refine oU ((hH s).length-1) (hb:=fun _=>ae) ?_;refine aG ?_;exact⟨(),trivial,(aW.to [(0,0)] ah ah (by repeat(first|exact dr.nil|refine dr.un ?_|refine dr.eq ah ?_|refine dr.nl (ar (fun l=>D.sl 1 (List.map D.str l)) (by rw[hpz,aw hc1])) ah ?_)) qb)⟩
  simp only[ed]at hc1;refine aA ?_;exact⟨(),trivial,(aW.to [(0,0)] ah ah (by repeat(first|exact dr.nil|refine dr.un ?_|refine dr.eq ah ?_|refine dr.nl (ar (fun l=>D.sl 1 (List.map D.str l)) (by rw[hpz,aj hc1])) ah ?_)) qb)⟩
 .rintro _-
  refine aA ?_;refine aq (hc:=h240 (ik s) (fun t ht=>by have:=zL ht;omega)) ?_;refine bI ?_;refine nK hm (ι:=Unit) (fun _=>[⟨true,.str s⟩,⟨true,.ptr 0 11 0 0⟩,.un,.un,.un,⟨true,.sl 1 ((ik s).map D.str)⟩,.un,⟨true,.int .i64 ((kM (aD s).1):Nat)⟩,.un,.un,.un,.un,.un,.un,.un,.un,.un,.un,.un,.un,.un,.un,.un]) (fun _=>[(0,.buf 11 [.agg [.str [],.int .i64 0,.int .i64 0,.int .i64 0,.str [],.str [],.au,.au,.au,.au,.au]])]) 20 (fun _=>True) ?_ ?_
  .refine wp_cond (fun hc2=>?_) (fun hc2=>?_)
   .simp only[ed]at hc2;refine aG ?_;intro u3;refine aG ?_;exact⟨(),trivial,(aW.to [(0,0)] ah ah (by repeat(first|exact dr.nil|refine dr.un ?_|refine dr.eq ah ?_|refine dr.nl (ar (D.int .i64) (by rw[hxk.1 hc2])) ah ?_)) qb)⟩
   simp only[ed]at hc2;refine aA ?_;exact⟨(),trivial,(aW.to [(0,0)] ah ah (by repeat(first|exact dr.nil|refine dr.un ?_|refine dr.eq ah ?_|refine dr.nl (ar (D.int .i64) (by rw[hxk.2 hc2])) ah ?_)) qb)⟩
  .rintro _-
   refine aG ?_;refine oU (kM (aD s).1) (hb:=fun _=>ae) ?_;refine aq (v:=.str (ek s)) (hc:=by have:=h242 (slice (ik s) 0 (kM (aD s).1)) [] (by simp only[slice,pr,fW];omega) aE (Gr g0);rw[IK]at this;exact this) ?_;refine aq (hc:=h76 (ek s)) ?_;refine az ?_;refine hX (Rec.D _) ?_;refine aG ?_;refine aQ (Rec.D (dq (ek s)).1) (he:=aT) ?_;refine cH ?_;refine ax (fun hc3=>?_) (fun hc3=>?_)
   .simp only[ed]at hc3;have hz:=HH g0 hc3;refine aA ?_;refine ep _ ?_;refine bI ?_;refine cv (fV ?_ (ar (D.int .i64) ?_) (ar (D.int .i64) ?_));all_goals
     rw[hz];first|done|rfl
   simp only[ed]at hc3;have hz:=DA g0 hc3;have hsm:=KB (ek s);refine aA ?_;refine dj (d:=Rec.D (dq (ek s)).1) ?_;refine bq (eO (dq (ek s)).1 .au .au) ?_;refine az ?_;refine aQ (eO (dq (ek s)).1 .au .au) (he:=aT) ?_;refine aA ?_;refine dp (nx':=39) (v:=.fn 2000000 [.str [112,105,110],.fn 490 [.fn 3000000 [.ptr 37 11 0 0]],.str [104,111,108,100],.fn 492 [.fn 3000000 [.ptr 37 11 0 0]]]) (m':=[(0,.buf 11 [.agg [.str [],.int .i64 0,.int .i64 0,.int .i64 0,.str [],.str [],.au,.au,.au,.au,.au]]),(29,.buf 9 [Rec.D (dq (ek s)).1]),(37,.buf 11 [eO (dq (ek s)).1 .au .au])]) (hc:=fun K' hK=>h243 37 _ _ K' hK) (hn:=aE) ?_;refine bI ?_;refine bO hm (ι:=(Nat×List dW×List bF)) (fun p=>[⟨true,.str s⟩,⟨true,.ptr 0 11 0 0⟩,.un,.un,.un,⟨true,.sl 1 ((ik s).map D.str)⟩,.un,.un,.un,.un,.un,.un,.un,⟨true,.ptr 2 11 0 0⟩,⟨true,.int .i64 p.1⟩,.un,.un,.un,.un,⟨true,.fn 2000000 [.str [112,105,110],.fn 490 [.fn 3000000 [.ptr 2 11 0 0]],.str [104,111,108,100],.fn 492 [.fn 3000000 [.ptr 2 11 0 0]]]⟩,.un,.un,.un]) (fun p=>[(0,.buf 11 [.agg [.str [],.int .i64 0,.int .i64 0,.int .i64 0,.str [],.str [],.au,.au,.au,.au,.au]]),(2,.buf 11 [eO (dq (ek s)).1 (.own 4 2 0 (p.2.1).length) (.own 5 2 0 (p.2.2).length)]),(4,.buf 2 ((p.2.1).map dW.D)),(5,.buf 2 ((p.2.2).map bF.D))]) 60 (fun p=>((kM (aD s).1)<=p.1/\p.1<=(aD s).1.length)/\(p.2.1.length+p.2.2.length<=p.1/\∀x∈p.2.2,x.range.length<=1048576)/\kN s=zo (dq (ek s)).1 (jy (aD s).1 (aD s).2 p.2 p.1)) (fun p=>(aD s).1.length-p.1) ((kM (aD s).1),[],[]) ⟨ea,⟨aJ,aJ⟩,hz⟩ (aW.to [(0,0),(37,2)] ah ah lZ (by refine bg.gH ah ah ah ?_;refine bg.ni 37 ah ah (by exact⟨_,_,rfl,⟨_,rfl,⟨_,_,rfl,⟨rfl,rfl⟩,⟨_,_,rfl,⟨rfl,rfl⟩,⟨_,_,rfl,⟨rfl,rfl⟩,⟨_,_,rfl,⟨rfl,rfl⟩,⟨_,_,rfl,⟨rfl,rfl⟩,⟨_,_,rfl,⟨rfl,rfl⟩,⟨_,_,rfl,⟨rfl,rfl⟩,⟨_,_,rfl,⟨rfl,rfl⟩,⟨_,_,rfl,⟨rfl,rfl⟩,⟨_,_,rfl,Or.inr ⟨_,_,_,rfl⟩,⟨_,_,rfl,Or.inr ⟨_,_,_,rfl⟩,rfl⟩⟩⟩⟩⟩⟩⟩⟩⟩⟩⟩⟩,rfl⟩) ?_;refine bg.mt ah ah ah ah ?_;refine bg.mt ah ah ah ah ?_;exact bg.nil)) ?_;rintro⟨i,ps,hs⟩ ⟨hi,⟨hsz,hrg⟩,hr⟩;dsimp only at hi hsz hrg hr⊢;refine bm ?_;intro u4;refine aA ?_;refine dR (fun hc4=>?_) fun hc4=>?_
   .refine aG ?_;have hil:i<(aD s).1.length:=ae;have hll:=MM hil g0;refine aA ?_;refine cr i (hb:=fun _=>ae) ?_;refine b6 (v:=.str (ik s)[i]!) (hi:=fun _=>ae) ?_;refine aq (v:=.tup [.str (aD s).1[i]!,.bool (mM (aD s).1 (aD s).2 i)]) (hc:=by have:=h244 (ik s)[i]! (by have:=Ez (s:=s) (i:=i) ae;omega);rw[K6 hil]at this;exact this) ?_;refine cH ?_;refine aq (v:=.sl 1 ((aV (aD s).1[i]!).map D.str)) (hc:=by have:=h245 (aD s).1[i]! 3 ae aE;rw[QH]at this;exact this) ?_;refine aG ?_;have hwl:∀u∈(aV (aD s).1[i]!),u.length<=8193:=fun u hu=>cC (DL hu) hll
    rcases MO (mM (aD s).1 (aD s).2 i) (aV (aD s).1[i]!)with hcs|hcs|hcs|hcs
    .refine aK ?_;refine nk ?_;refine aK ?_;refine er (hc:=fun hf=>h246 (aV (aD s).1[i]!) []) ?_;refine BA ?_;rw[hcs];refine aG ?_;refine cr 0 (hb:=fun h=>by cases h) (hj:=fun h=>by cases h) ?_;refine b6 (v:=.str (aV (aD s).1[i]!)[0]!) (hi:=fun h=>by cases h) ?_;refine yv .nilf ?_;refine yv (.bool true) ?_;refine BA (kb:=fun _ h=>by cases h) ?_;refine aG ?_;refine cr 0 (hb:=fun h=>by cases h) (hj:=fun h=>by cases h) ?_;refine b6 (v:=.str (aV (aD s).1[i]!)[0]!) (hi:=fun h=>by cases h) ?_;refine yv .nilf ?_;refine az ?_;refine cr 1 (hb:=fun h=>by cases h) (hj:=fun h=>by cases h) ?_;refine b6 (v:=.str (aV (aD s).1[i]!)[1]!) (hi:=fun h=>by cases h) ?_;refine az ?_;refine cr 2 (hb:=fun h=>by cases h) (hj:=fun h=>by cases h) ?_;refine b6 (v:=.str (aV (aD s).1[i]!)[2]!) (hi:=fun h=>by cases h) ?_;refine Bx ?_;refine yv (.bool false) ?_;refine BA (kb:=fun _ h=>by cases h) ?_;refine az ?_;refine wp_cond (fun hc5=>?_) (fun hc5=>?_)
     .have hz:=wE (r:=(dq (ek s)).1) (q:=(ps,hs)) hil (IF hcs);refine az ?_;refine ep _ ?_;refine ez ?_;refine cv (fV ?_ (ar (D.int .i64) ?_) (ar (D.int .i64) ?_));all_goals
       rw[hr,hz];first|done|rfl
     exact absurd hc5 aE
    .have hgt:=sI hcs.1;have h3:=hgt.2.1;have h4:=hwl _ (bL (show 2<(aV (aD s).1[i]!).length by omega));refine aK ?_;refine nk ?_;refine aK ?_;refine er (hc:=fun hf=>h246 (aV (aD s).1[i]!) []) ?_;refine BA ?_;rw[hcs.1];refine aG ?_;refine cr 0 (hb:=fun _=>ae) ?_;refine b6 (v:=.str (aV (aD s).1[i]!)[0]!) (hi:=fun _=>ae) ?_;refine Bz (.nilf) (hv:=fun _=>MN hcs.2.1 hcs.2.2) ?_;refine Ti ?_;refine aK ?_;refine cr 0 (hb:=fun h=>by cases h) (hj:=fun h=>by cases h) ?_;refine b6 (v:=.str (aV (aD s).1[i]!)[0]!) (hi:=fun h=>by cases h) ?_;refine yv .nilf ?_;refine az ?_;refine cr 1 (hb:=fun h=>by cases h) (hj:=fun h=>by cases h) ?_;refine b6 (v:=.str (aV (aD s).1[i]!)[1]!) (hi:=fun h=>by cases h) ?_;refine az ?_;refine cr 2 (hb:=fun h=>by cases h) (hj:=fun h=>by cases h) ?_;refine b6 (v:=.str (aV (aD s).1[i]!)[2]!) (hi:=fun h=>by cases h) ?_;refine Bx ?_;refine yv (.bool false) ?_;refine BA (kb:=fun _ h=>by cases h) ?_;refine az ?_;refine wp_cond (fun hc5=>?_) (fun hc5=>?_)
     .have hz:=wE (r:=(dq (ek s)).1) (en:=(aD s).2) (q:=(ps,hs)) hil (.inr (EU (.inr (.inr hcs.2))));refine az ?_;refine ep _ ?_;refine ez ?_;refine cv (fV ?_ (ar (D.int .i64) ?_) (ar (D.int .i64) ?_));all_goals
       rw[hr,hz];first|done|rfl
     exact absurd hc5 aE
    .have hgt:=sI hcs.1;have h3:=hgt.2.1;have h4:=hwl _ (bL (show 2<(aV (aD s).1[i]!).length by omega));refine aK ?_;refine nk ?_;refine aK ?_;refine er (hc:=fun hf=>h246 (aV (aD s).1[i]!) []) ?_;refine BA ?_;rw[hcs.1];refine aG ?_;refine cr 0 (hb:=fun _=>ae) ?_;refine b6 (v:=.str (aV (aD s).1[i]!)[0]!) (hi:=fun _=>ae) ?_;refine Bz (.fn 490 [.fn 3000000 [.ptr 2 11 0 0]]) (hv:=fun _=>Bi hcs.2) ?_;refine Oo ?_;refine aK ?_;refine cr 0 (hb:=fun _=>ae) ?_;refine b6 (v:=.str (aV (aD s).1[i]!)[0]!) (hi:=fun _=>ae) ?_;refine Bz (.fn 490 [.fn 3000000 [.ptr 2 11 0 0]]) (hv:=fun _=>Bi hcs.2) ?_;refine az ?_;refine cr 1 (hb:=fun _=>ae) ?_;refine b6 (v:=.str (aV (aD s).1[i]!)[1]!) (hi:=fun _=>ae) ?_;refine az ?_;refine cr 2 (hb:=fun _=>ae) ?_;refine b6 (v:=.str (aV (aD s).1[i]!)[2]!) (hi:=fun _=>ae) ?_;refine sX (ι:=Unit) (n:=490) (fun _=>True) (fun _=>.bool (decide (hs.length=0)&& !(aV (aD s).1[i]!)[2]!.contains 32)) 79 (fun _=>[(108,.buf 2 ((ps++[(⟨(aV (aD s).1[i]!)[1]!,(aV (aD s).1[i]!)[2]!⟩:dW)]).map dW.D)),(109,.buf 2 (hs.map bF.D)),(2,.buf 11 [eO (dq (ek s)).1 (.own 108 2 0 (ps++[(⟨(aV (aD s).1[i]!)[1]!,(aV (aD s).1[i]!)[2]!⟩:dW)]).length) (.own 109 2 0 hs.length)]),(0,.buf 11 [.agg [.str [],.int .i64 0,.int .i64 0,.int .i64 0,.str [],.str [],.au,.au,.au,.au,.au]])]) (fun _ _=>?_) (hc:=fun K' hK=>h490 (dq (ek s)).1 ps hs (aV (aD s).1[i]!)[1]! (aV (aD s).1[i]!)[2]! ae _ _ K' ⟨aT,aT,aT⟩ dK (hK () trivial)) (hn:=aE);refine aG ?_;refine wp_cond (fun hc5=>?_) (fun hc5=>?_)
     .simp only[Bool.false_or,a8,bC,bP,cL,Bool.not_eq_false,dk,dT,bt,dF,Bool.not_eq_true,iF,kE]at hc5;have hz:=wE (r:=(dq (ek s)).1) (en:=(aD s).2) (q:=(ps,hs)) hil (.inr (show mw (ps,hs) (aD s).1[i]! =none by rw[BZ hgt.2.1 hgt.2.2.1 hgt.2.2.2 hcs.2,aj (Ng hc5)]));refine az ?_;refine ep _ ?_;refine ez ?_;refine cv (fV ?_ (ar (D.int .i64) ?_) (ar (D.int .i64) ?_));all_goals
       rw[hr,hz];first|done|rfl
     simp only[Bool.false_or,a8,bC,bP,cL,Bool.not_eq_false,dk,dT,bt,dF,Bool.not_eq_true,iF,kE]at hc5;have hz:jy (aD s).1 (aD s).2 (ps,hs) i=jy (aD s).1 (aD s).2 ((ps++[(⟨(aV (aD s).1[i]!)[1]!,(aV (aD s).1[i]!)[2]!⟩:dW)]),hs) (i+1):=wD hil hgt.1 (by rw[BZ hgt.2.1 hgt.2.2.1 hgt.2.2.2 hcs.2,aw (Kd hc5)]);refine cH ?_;exact⟨(i+1,(ps++[(⟨(aV (aD s).1[i]!)[1]!,(aV (aD s).1[i]!)[2]!⟩:dW)]),hs),⟨ea,⟨by dsimp only;simp only[bA,aH,aO];omega,hrg⟩,by rw[hr,hz]⟩,ea,(aW.to [(0,0),(2,2),(108,4),(109,5)] ah ah lZ (by refine bg.gH ah ah ah ?_;refine bg.Ih ah ah ah ?_;refine bg.nl 108 ah ah rfl (bj (fun _=>rfl) _) ?_;refine bg.nl 109 ah ah rfl (bj (fun _=>rfl) _) ?_;exact bg.nil))⟩
    .have hgt:=sI hcs.1;have h3:=hgt.2.1;have h4:=hwl _ (bL (show 2<(aV (aD s).1[i]!).length by omega));refine aK ?_;refine nk ?_;refine aK ?_;refine er (hc:=fun hf=>h246 (aV (aD s).1[i]!) []) ?_;refine BA ?_;rw[hcs.1];refine aG ?_;refine cr 0 (hb:=fun _=>ae) ?_;refine b6 (v:=.str (aV (aD s).1[i]!)[0]!) (hi:=fun _=>ae) ?_;refine Bz (.fn 492 [.fn 3000000 [.ptr 2 11 0 0]]) (hv:=fun _=>yj hcs.2) ?_;refine Oo ?_;refine aK ?_;refine cr 0 (hb:=fun _=>ae) ?_;refine b6 (v:=.str (aV (aD s).1[i]!)[0]!) (hi:=fun _=>ae) ?_;refine Bz (.fn 492 [.fn 3000000 [.ptr 2 11 0 0]]) (hv:=fun _=>yj hcs.2) ?_;refine az ?_;refine cr 1 (hb:=fun _=>ae) ?_;refine b6 (v:=.str (aV (aD s).1[i]!)[1]!) (hi:=fun _=>ae) ?_;refine az ?_;refine cr 2 (hb:=fun _=>ae) ?_;refine b6 (v:=.str (aV (aD s).1[i]!)[2]!) (hi:=fun _=>ae) ?_;refine sX (ι:=Unit) (n:=492) (fun _=>True) (fun _=>.bool true) 79 (fun _=>[(108,.buf 2 (ps.map dW.D)),(109,.buf 2 ((hs++[(⟨(aV (aD s).1[i]!)[1]!,(aV (aD s).1[i]!)[2]!⟩:bF)]).map bF.D)),(2,.buf 11 [eO (dq (ek s)).1 (.own 108 2 0 ps.length) (.own 109 2 0 (hs++[(⟨(aV (aD s).1[i]!)[1]!,(aV (aD s).1[i]!)[2]!⟩:bF)]).length)]),(0,.buf 11 [.agg [.str [],.int .i64 0,.int .i64 0,.int .i64 0,.str [],.str [],.au,.au,.au,.au,.au]])]) (fun _ _=>?_) (hc:=fun K' hK=>h492 (dq (ek s)).1 ps hs (aV (aD s).1[i]!)[1]! (aV (aD s).1[i]!)[2]! ae _ _ K' ⟨aT,aT,aT⟩ dK (hK () trivial)) (hn:=aE);refine aG ?_;refine wp_cond (fun hc5=>?_) (fun hc5=>?_)
     .exact absurd hc5 aE
     have hz:jy (aD s).1 (aD s).2 (ps,hs) i=jy (aD s).1 (aD s).2 (ps,(hs++[(⟨(aV (aD s).1[i]!)[1]!,(aV (aD s).1[i]!)[2]!⟩:bF)])) (i+1):=wD hil hgt.1 (HY hgt.2.1 hgt.2.2.1 hgt.2.2.2 hcs.2);refine cH ?_;exact⟨(i+1,ps,(hs++[(⟨(aV (aD s).1[i]!)[1]!,(aV (aD s).1[i]!)[2]!⟩:bF)])),⟨ea,⟨by dsimp only;simp only[bA,aH,aO];omega,(fun x hx=>(List.mem_append.1 hx).elim (hrg x) (fun hx=>by rw[cT.1 hx];show(aV (aD s).1[i]!)[2]!.length<=_;omega))⟩,by rw[hr,hz]⟩,ea,(aW.to [(0,0),(2,2),(108,4),(109,5)] ah ah lZ (by refine bg.gH ah ah ah ?_;refine bg.Ih ah ah ah ?_;refine bg.nl 108 ah ah rfl (bj (fun _=>rfl) _) ?_;refine bg.nl 109 ah ah rfl (bj (fun _=>rfl) _) ?_;exact bg.nil))⟩
   refine aG ?_;refine eF 4 ?_ (he:=by simp only[kg,hZ,jo,kR,lY,cd,Nat.reduceEqDiff,aP,aM,cA,bY,bQ,cx,cy,bD,bz,aF,bN,aI,reduceCtorEq,aH,aO,Nat.reduceAdd,Nat.reduceLeDiff,eO,zr,zq];exact rfl) (hm:=by simp only[kg,hZ,jo,kR,lY,cd,Nat.reduceEqDiff,aP,aM,cA,bY,bQ,cx,cy,bD,bz,aF,bN,aI,reduceCtorEq,aH,aO,Nat.reduceAdd,Nat.reduceLeDiff,eO,zr,zq];exact rfl);refine eF 5 ?_ (he:=by simp only[kg,hZ,jo,kR,lY,cd,Nat.reduceEqDiff,aP,aM,cA,bY,bQ,cx,cy,bD,bz,aF,bN,aI,reduceCtorEq,aH,aO,Nat.reduceAdd,Nat.reduceLeDiff,eO,zr,zq];exact rfl) (hm:=by simp only[kg,hZ,jo,kR,lY,cd,Nat.reduceEqDiff,aP,aM,cA,bY,bQ,cx,cy,bD,bz,aF,bN,aI,reduceCtorEq,aH,aO,Nat.reduceAdd,Nat.reduceLeDiff,eO,zr,zq];exact rfl);refine az ?_;have hend:jy (aD s).1 (aD s).2 (ps,hs) i=((ps,hs),0):=HO ae;rw[hend]at hr;refine dj (d:=iq.D ⟨(dq (ek s)).1,ps,hs⟩) ?_;refine aq (hc:=h247 ⟨(dq (ek s)).1,ps,hs⟩ ⟨hsm,hrg⟩) ?_;refine fJ ?_;refine ax (fun hc6=>?_) (fun hc6=>?_)
   .simp only[ed]at hc6;have hz:=I8 (r:=(dq (ek s)).1) (q:=(ps,hs)) hc6;refine aA ?_;refine ep _ ?_;refine bh ?_;refine cv (fV ?_ (ar (D.int .i64) ?_) (ar (D.int .i64) ?_));all_goals
     rw[hr,hz];first|done|rfl
   simp only[ed]at hc6;have hz:=Mb (r:=(dq (ek s)).1) (q:=(ps,hs)) hc6;refine aA ?_;refine dj (d:=iq.D ⟨(dq (ek s)).1,ps,hs⟩) ?_;refine aQ (iq.D ⟨(dq (ek s)).1,ps,hs⟩) (he:=aT) ?_;refine aK ?_;refine cv (fV ?_ (ar (D.int .i64) ?_) (ar (D.int .i64) ?_));all_goals
    rw[hr,hz];first|done|rfl
def Lk (T:List D->D->Prop):Prop:=∀(s:ak),(s.length<=1048576)->T [.str s] (.tup [iq.D (kN s).1,.int .i64 (kN s).2.1,.int .i64 (kN s).2.2])
def C82 (Y:Ctx):Prop:=Lk (ch Y 82)
def vY:aN:=⟨1,17,[⟨1,none⟩,⟨2,none⟩],iZ,(sq (rg [gb 11 s0,gm cse,gm b7] [(3,0),(1,1),(2,2)]) (sq (sq (r1 [gk 11 true s3,gx 247 [l0] [[.a,.a,.a,.a,.a,.a,.sl 3 [.sl 4 [.a,.a,.sl 1 [.a],.a],.a,.a],.sl 3 [.a,.a,.a],.sl 2 [.a,.sl 1 [.a]],.sl 2 [.a,.a],.sl 2 [.a,.a]]],gm l1,ge l2 0,ge l2 1,gm l3,gm l4] 4 5) (sq (r1 [gm s4,dd l0 b7] 5 1) (.cond s5 (sq (rg [gm s4,gm cse,gm l0] [(1,1),(2,2)]) .ret) .skip))) (sq (r1 [gf 0 s3,gk 9 true l0,gx 72 [l1] [rm],gm l2,ge l3 0,ge l3 1,gm l4,gm l5] 10 6) (sq (sq (rg [gf 9 s3,gd l0,gl l1,gm b7] [(9,1),(7,2),(6,3)]) (.block 0 (.loop (sq (r1 [bo s6 s7] 8 0) (sq (jG s8 0) (sq (.block 1 (sq (r1 [ga 2 s9 s6,gk 2 true l0,gb 2 (.c (.agg [.str [],.str []])),gt 2 l2 l1] 11 2) (r1 [gm mL,gf 0 pU,gd l1,ay (cs [112,105,110,32]) l2,ay l3 (cs [32]),gf 1 pU,gd l5,ay l4 l6,ay l7 (cs [10]),ay l0 l8,gm l9] 10 10))) (r1 [ay s6 cN,gm l0] 6 1))))))) (sq (sq (rg [gf 10 s3,gd l0,gl l1,gm b7] [(15,1),(13,2),(12,3)]) (.block 2 (.loop (sq (r1 [bo m6 rq] 14 0) (sq (jG rr 2) (sq (.block 3 (sq (r1 [ga 2 tP m6,gk 2 true l0,gb 2 (.c (.agg [.str [],.str []])),gt 2 l2 l1] 16 2) (r1 [gm mL,gf 0 An,gd l1,ay (cs [104,111,108,100,32]) l2,ay l3 (cs [32]),gf 1 An,gd l5,ay l4 l6,ay l7 (cs [10]),ay l0 l8,gm l9] 10 10))) (r1 [ay m6 cN,gm l0] 12 1))))))) (sq (rg [gm mL,gm l0,gm b7] [(1,1),(2,2)]) .ret))))))⟩
def w238 (h72:C72 Y)(h247:Lu Y)(m:iq)  (hp0:rV m):fo Y vY (.tup [.str (qR m).1,.int .i64 (qR m).2]) [iq.D m]:=by
 show ca _ _ _ [⟨_,_⟩,_,_,_,_,_,_,_,_,_,_,_,_,_,_,_,_] _;refine av ?_;refine bh ?_;refine dj (d:=iq.D m) ?_;refine aq (hc:=h247 m hp0) ?_;refine fJ ?_;refine ax (fun hc0=>?_) (fun hc0=>?_)
 .simp only[ed]at hc0;have hps:=HD hc0;refine bI ?_;refine cv (aZ (ar D.str ?_) (ar (D.int .i64) ?_));all_goals (rw[hps];first|done|rfl)
 simp only[ed]at hc0;have g0:¬¬(dA m).1=0:=fun h=>h hc0
 have hps:=HE g0;have g1:=(xR g0).1;have hpr:kv m.r=(jm m.r,0):=aj g1;have hln:=oI g0 hp0;refine aG ?_;refine bZ (v:=Rec.D m.r) ?_;refine aq (v:=.tup [.str (jm m.r),.int .i64 0]) (hc:=by have:=h72 m.r hp0.1;rw[hpr]at this;exact this) ?_;refine ez ?_;refine bZ (v:=.sl 2 (m.ps.map dW.D)) ?_;refine az ?_;intro u0;refine aA ?_;refine bO hm (ι:=Nat) (fun i=>[.un,.un,.un,⟨true,.ptr 0 11 0 0⟩,.un,.un,⟨true,.int .i64 (i:Nat)⟩,⟨true,.int .i64 (m.ps.length:Nat)⟩,.un,⟨true,.sl 2 (m.ps.map dW.D)⟩,⟨true,.str (NJ m i)⟩,.un,.un,.un,.un,.un,.un]) (fun i=>[(0,.buf 11 [iq.D m])]) 40 (fun i=>i<=m.ps.length) (fun i=>m.ps.length-i) 0 ae (aW.to [(0,0)] ah ah (by repeat(first|exact dr.nil|refine dr.un ?_|refine dr.eq ah ?_|refine dr.nl (ar D.str (by rw[OA])) ah ?_)) qb) ?_;intro i hi;have q3:=Aa g0 hp0 (i:=i) ae;have q4:=hln.2.2.2;refine aG ?_;refine dR (fun hc1=>?_) fun hc1=>?_
 .refine aG ?_;refine cr i (hb:=fun _=>ae) ?_;refine b6 (v:=dW.D m.ps[i]!) (hi:=fun _=>ae) ?_;refine az ?_;refine aQ (dW.D m.ps[i]!) (he:=aT) ?_;refine aA ?_;have q5:=hln.2.1 i ae;refine aA ?_;refine bZ (v:=.str m.ps[i]!.name) ?_;refine n8 ?_;refine n8 ?_;refine az ?_;refine bZ (v:=.str m.ps[i]!.shelf) ?_;refine n8 ?_;refine n8 ?_;refine n8 ?_;refine cH ?_;have hq:=B3 (m:=m) (i:=i) ae;rw[EA]at hq;exact⟨i+1,ae,ae,(aW.to [(0,0)] ah ah (by repeat(first|exact dr.nil|refine dr.un ?_|refine dr.eq ah ?_|refine dr.nl (ar D.str (by rw[hq])) ah ?_)) qb)⟩
 refine aK ?_;obtain rfl:i=m.ps.length:=ae;refine az ?_;refine bZ (v:=.sl 2 (m.hs.map bF.D)) ?_;refine az ?_;intro u1;refine aA ?_;refine bO hm (ι:=Nat) (fun i=>[.un,.un,.un,⟨true,.ptr 0 11 0 0⟩,.un,.un,.un,.un,.un,.un,⟨true,.str (NH m i)⟩,.un,⟨true,.int .i64 (i:Nat)⟩,⟨true,.int .i64 (m.hs.length:Nat)⟩,.un,⟨true,.sl 2 (m.hs.map bF.D)⟩,.un]) (fun i=>[(0,.buf 11 [iq.D m])]) 70 (fun i=>i<=m.hs.length) (fun i=>m.hs.length-i) 0 ae (aW.to [(0,0)] ah ah (by repeat(first|exact dr.nil|refine dr.un ?_|refine dr.eq ah ?_|refine dr.nl (ar D.str (by exact(E1 m).symm)) ah ?_)) qb) ?_;intro i hi;have q3:=E0 g0 hp0 (i:=i) ae;have q4:=hln.2.2.2;refine aG ?_;refine dR (fun hc2=>?_) fun hc2=>?_
 .refine aG ?_;refine cr i (hb:=fun _=>ae) ?_;refine b6 (v:=bF.D m.hs[i]!) (hi:=fun _=>ae) ?_;refine az ?_;refine aQ (bF.D m.hs[i]!) (he:=aT) ?_;refine aA ?_;have q5:=hln.2.2.1 i ae;refine aA ?_;refine bZ (v:=.str m.hs[i]!.name) ?_;refine n8 ?_;refine n8 ?_;refine az ?_;refine bZ (v:=.str m.hs[i]!.range) ?_;refine n8 ?_;refine n8 ?_;refine n8 ?_;refine cH ?_;have hq:=B2 (m:=m) (i:=i) ae;rw[A6]at hq;exact⟨i+1,ae,ae,(aW.to [(0,0)] ah ah (by repeat(first|exact dr.nil|refine dr.un ?_|refine dr.eq ah ?_|refine dr.nl (ar D.str (by rw[hq])) ah ?_)) qb)⟩
 refine aG ?_;obtain rfl:i=m.hs.length:=ae;rw[NI];refine bm ?_;refine cv (aZ (ar D.str ?_) (ar (D.int .i64) ?_));all_goals (rw[hps];first|done|rfl)
def Fj (T:List D->D->Prop):Prop:=∀(m:iq),(rV m)->T [iq.D m] (.tup [.str (qR m).1,.int .i64 (qR m).2])
def Re (Y:Ctx):Prop:=Fj (ch Y 238)
def Be:aN:=⟨0,8,[⟨0,none⟩],di,(sq (r1 [gm eS] 0 0) (sq (rg [gx 82 [(cs [112,97,99,107,97,103,101,32,97,112,112,32,49,46,48,46,48,10,112,105,110,32,98,32,111,110,101,10,104,111,108,100,32,98,32,60,50,10])] di,gm l0,ge l1 0,ge l1 1,ge l1 2,gb 11 (.c (.agg [.str [],.int .i64 0,.int .i64 0,.int .i64 0,.str [],.str [],.au,.au,.au,.au,.au])),gt 11 l5 l2,gm l3,gm l4] [(1,5),(2,7),(3,8)]) (sq (rg [gk 11 true s1,gx 238 [l0] [[.a,.a,.a,.a,.a,.a,.sl 3 [.sl 4 [.a,.a,.sl 1 [.a],.a],.a,.a],.sl 3 [.a,.a,.a],.sl 2 [.a,.sl 1 [.a]],.sl 2 [.a,.a],.sl 2 [.a,.a]]],gm l1,ge l2 0,ge l2 1,gm l3,gm l4] [(5,5),(4,6)]) (sq (rg [gx 82 [(cs [112,97,99,107,97,103,101,32,97,112,112,32,49,46,48,46,48,10,104,111,108,100,32,98,32,60,50,10,112,105,110,32,98,32,111,110,101,10])] di,gm l0,ge l1 0,ge l1 1,ge l1 2,gb 11 (.c (.agg [.str [],.int .i64 0,.int .i64 0,.int .i64 0,.str [],.str [],.au,.au,.au,.au,.au])),gt 11 l5 l2,gm l3,gm l4] [(6,7),(7,8)]) (sq (r1 [gm s2,aU l0 b7,gm l1,gmt 2 s3,dC 2 (dP l3 b7),iM l2 l4,gm l5,gmt 6 s4,dC 6 (dP l7 b7),iM l6 l8,gm l9,rp 10 9 s1,pJ 10 kl,dC 10 (.len mG),dC 10 (dP nQ cN),iM l10 n7,gm pL,rp 16 10 s1,pJ 16 xd,dC 16 (.len yg),dC 16 (dP Bc cN),iM si C1,gm En,gmt 22 s5,dC 22 (.lenS MI),dC 22 (dP MJ (i6 38)),iM Ii Oi,gm PM,gmt 27 s6,dC 27 (dP QT mi),iM QS QU,gm S6,gmt 31 s7,dC 31 (dP l32 k9),iM l31 l33,gm l34] 0 35) .ret)))))⟩
def w81 {Y:Ctx}(hm:(Y.at 0).cQ)(h82:C82 Y)(h238:Re Y)    :fo Y Be (.bool true) []:=by
 show ca _ _ _ [_,_,_,_,_,_,_,_] _;refine av ?_;refine aG ?_;refine aq (v:=.tup [iq.D Gq,.int .i64 0,.int .i64 0]) (hc:=by have:=h82 LV aE;rw[SP]at this;exact this) ?_;refine az ?_;refine hX (iq.D _) ?_;refine aG ?_;refine aQ (iq.D Gq) (he:=aT) ?_;refine aK ?_;refine dj (d:=iq.D Gq) ?_;refine aq (v:=.tup [.str LV,.int .i64 0]) (hc:=by have:=h238 Gq Pt;rw[SQ]at this;exact this) ?_;refine bI ?_;refine aq (v:=.tup [iq.D (kN LW).1,.int .i64 2,.int .i64 3]) (hc:=by have:=h82 LW aE;rw[ar Prod.fst N3,ar Prod.snd N3]at this;exact this) ?_;refine az ?_;refine hX (iq.D _) ?_;refine aG ?_;refine aQ (iq.D (kN LW).1) (he:=aT) ?_;refine y7 ?_;refine bZ (v:=.sl 2 (Gq.ps.map dW.D)) ?_;refine nk ?_;refine aK ?_;refine bZ (v:=.sl 2 (Gq.hs.map bF.D)) ?_;refine nk ?_;refine aK ?_;refine nk ?_;refine nT ?_;refine cz ?_;decide
def Lj (T:List D->D->Prop):Prop:=T [] (.bool true)
def C81 (Y:Ctx):Prop:=Lj (ch Y 81)
def xo:aN:=⟨3,7,[⟨3,some (11,true)⟩],[[.a,.a,.a,.a,.a,.a,.sl 3 [.sl 4 [.a,.a,.sl 1 [.a],.a],.a,.a],.sl 3 [.a,.a,.a],.sl 2 [.a,.sl 1 [.a]],.sl 2 [.a,.a],.sl 2 [.a,.a]]],(sq (r1 [gb 11 (.c (.agg [.str [],.int .i64 0,.int .i64 0,.int .i64 0,.str [],.str [],.au,.au,.au,.au,.au]))] 3 0) (sq (r1 [gm s0,gm s1,gm s2,gx 79 [l0,l1,l2] [[.sl 1 [.a]],[.a],[.a]],gn (.build [.str [],.int .i64 0,.int .i64 0,.int .i64 0,.str [],.str [],.au,.au,.au,.au,.au] [(0,9,l3)]),gb 11 (.c (.agg [.str [],.int .i64 0,.int .i64 0,.int .i64 0,.str [],.str [],.au,.au,.au,.au,.au])),gt 11 l5 l4] 5 5) (sq (sq (r1 [gm s0,gm s1,ay l1 (i6 82),gx 228 [l0,l2,Al] [[.sl 1 [.a]],[.a],[.a]],aU l3 cN] 4 4) (.cond s4 (rt [gf 9 s5,gd l0,gm s0,gm s1,ay l3 (i6 83),gx 228 [l2,l4,k9] [[.sl 1 [.a]],[.a],[.a]],ay cN l5,gx 227 [l6] di,gn (.build [.str [],.str []] [(0,1,(cs [111,110,101])),(1,1,(cs [116,119,111]))]),gm s0,gm s1,ay l10 (i6 84),gx 228 [l9,kl,mi] [[.sl 1 [.a]],[.a],[.a]],gn (.ixA 2 1 false l8 mG),gn (.build [.str [],.str []] [(0,1,l7),(1,1,nQ)]),gn (.bsl 2 (.agg [.str [],.str []]) 1 [(0,n7)]),gn (.app 2 l1 pL),gf 9 s5,gt 1 xd si] []) .skip)) (sq (sq (r1 [gm s0,gm s1,ay l1 (i6 85),gx 228 [l0,l2,Al] [[.sl 1 [.a]],[.a],[.a]],aU l3 cN] 6 4) (.cond s6 (rt [gf 10 s5,gd l0,gm s0,gm s1,ay l3 (i6 86),gx 228 [l2,l4,ud] [[.sl 1 [.a]],[.a],[.a]],ay cN l5,gx 227 [l6] di,gm s0,gm s1,ay l9 (i6 87),gx 230 [l8,l10] [[.sl 1 [.a]],[.a]],gn (.build [.str [],.str []] [(0,1,l7),(1,1,kl)]),gn (.bsl 2 (.agg [.str [],.str []]) 1 [(0,mG)]),gn (.app 2 l1 nQ),gf 10 s5,gt 1 pL n7] []) .skip)) (sq (rg [gk 11 true s5,gt 11 s3 l0] []) .ret)))))⟩
def TD {Y:Ctx}(hm:(Y.at 0).cQ)(h79:C79 Y)(h227:Ip Y)(h228:Cs Y)(h230:Lt Y)(l:List Int)(i:Int)(own:Int)  (hp0:0<=i/\i<=100000)(hp1:0<=own/\own<=100000):fo Y xo (iq.D (AZ l i own)) [.sl 1 (l.map (D.int .i64)),.int .i64 i,.int .i64 own]:=by
 show ca _ _ _ [⟨_,_⟩,⟨_,_⟩,⟨_,_⟩,_,_,_,_] _;refine av ?_;refine bh ?_;refine aq (hc:=h79 l i own ae ae) ?_;refine bq (eO (ki l i own) .au .au) ?_;refine az ?_;refine aQ (eO (ki l i own) .au .au) (he:=aT) ?_;refine aG ?_;have hr1:=cY l (i+83) 3 aE;have hr2:=cY l (i+84) 2 aE;have hr3:=cY l (i+86) 4 aE;refine aG ?_;refine aq (hc:=h228 l (i+82) 6 aE) ?_;refine aA ?_;refine ax (fun hc0=>?_) (fun hc0=>?_)
 .simp only[ed]at hc0;refine aA ?_;refine bZ (v:=.au) ?_;refine aG ?_;refine aq (hc:=h228 l (i+83) 3 aE) ?_;refine az ?_;refine aq (hc:=h227 (1+dI l (i+83) 3)) ?_;refine ep (zX.map D.str) ?_;refine aG ?_;refine aq (hc:=h228 l (i+84) 2 aE) ?_;refine By (dI l (i+84) 2).toNat (.str zX[(dI l (i+84) 2).toNat]!) (hj:=fun _=>ae) (hb:=fun _=>ae) (hv:=fun _=>pD zX (by show _<2;omega)) ?_;refine bq (dW.D (⟨b8 (1+dI l (i+83) 3),zX[(dI l (i+84) 2).toNat]!⟩:dW)) ?_;refine cZ [dW.D (⟨b8 (1+dI l (i+83) 3),zX[(dI l (i+84) 2).toNat]!⟩:dW)] ?_;refine zO (n:=1) (ys:=[dW.D (⟨b8 (1+dI l (i+83) 3),zX[(dI l (i+84) 2).toNat]!⟩:dW)]) (he:=sg.all ah rfl) (hn:=rfl) ?_;refine az ?_;refine aQ (eO (ki l i own) (.own 29 2 0 1) .au) (he:=aT) ?_;refine aA ?_;refine eF 29 ?_ (he:=by simp only[kg,hZ,jo,kR,lY,cd,Nat.reduceEqDiff,aP,aM,cA,bY,bQ,cx,cy,bD,bz,aF,bN,aI,reduceCtorEq,aH,aO,Nat.reduceAdd,Nat.reduceLeDiff,eO];exact rfl) (hm:=by simp only[kg,hZ,jo,kR,lY,cd,Nat.reduceEqDiff,aP,aM,cA,bY,bQ,cx,cy,bD,bz,aF,bN,aI,reduceCtorEq,aH,aO,Nat.reduceAdd,Nat.reduceLeDiff,eO];exact rfl);refine aK ?_;refine aq (hc:=h228 l (i+85) 6 aE) ?_;refine aA ?_;refine ax (fun hc1=>?_) (fun hc1=>?_)
  .simp only[ed]at hc1;refine aA ?_;refine bZ (v:=.au) ?_;refine aG ?_;refine aq (hc:=h228 l (i+86) 4 aE) ?_;refine az ?_;refine aq (hc:=h227 (1+dI l (i+86) 4)) ?_;refine aG ?_;refine aq (hc:=h230 l (i+87) ae) ?_;refine bq (bF.D (⟨b8 (1+dI l (i+86) 4),j3 l (i+87)⟩:bF)) ?_;refine cZ [bF.D (⟨b8 (1+dI l (i+86) 4),j3 l (i+87)⟩:bF)] ?_;refine zO (n:=1) (ys:=[bF.D (⟨b8 (1+dI l (i+86) 4),j3 l (i+87)⟩:bF)]) (he:=sg.all ah rfl) (hn:=rfl) ?_;refine az ?_;refine aQ (eO (ki l i own) (.sl 2 [dW.D (⟨b8 (1+dI l (i+83) 3),zX[(dI l (i+84) 2).toNat]!⟩:dW)]) (.own 51 2 0 1)) (he:=aT) ?_;refine az ?_;refine eF 51 ?_ (he:=by simp only[kg,hZ,jo,kR,lY,cd,Nat.reduceEqDiff,aP,aM,cA,bY,bQ,cx,cy,bD,bz,aF,bN,aI,reduceCtorEq,aH,aO,Nat.reduceAdd,Nat.reduceLeDiff,eO];exact rfl) (hm:=by simp only[kg,hZ,jo,kR,lY,cd,Nat.reduceEqDiff,aP,aM,cA,bY,bQ,cx,cy,bD,bz,aF,bN,aI,reduceCtorEq,aH,aO,Nat.reduceAdd,Nat.reduceLeDiff,eO];exact rfl);refine az ?_;refine dj (d:=eO (ki l i own) (.sl 2 [dW.D (⟨b8 (1+dI l (i+83) 3),zX[(dI l (i+84) 2).toNat]!⟩:dW)]) (.sl 2 [bF.D (⟨b8 (1+dI l (i+86) 4),j3 l (i+87)⟩:bF)])) ?_;refine aQ (eO (ki l i own) (.sl 2 [dW.D (⟨b8 (1+dI l (i+83) 3),zX[(dI l (i+84) 2).toNat]!⟩:dW)]) (.sl 2 [bF.D (⟨b8 (1+dI l (i+86) 4),j3 l (i+87)⟩:bF)])) (he:=aT) ?_;refine aA ?_;refine cv (?_);simp only[AZ];rw[aw hc0,aw hc1];rfl
  simp only[ed]at hc1;refine aA ?_;refine dj (d:=eO (ki l i own) (.sl 2 [dW.D (⟨b8 (1+dI l (i+83) 3),zX[(dI l (i+84) 2).toNat]!⟩:dW)]) .au) ?_;refine aQ (eO (ki l i own) (.sl 2 [dW.D (⟨b8 (1+dI l (i+83) 3),zX[(dI l (i+84) 2).toNat]!⟩:dW)]) .au) (he:=aT) ?_;refine aA ?_;refine cv (?_);simp only[AZ];rw[aw hc0,aj hc1];rfl
 simp only[ed]at hc0;refine bh ?_;refine aq (hc:=h228 l (i+85) 6 aE) ?_;refine aA ?_;refine ax (fun hc1=>?_) (fun hc1=>?_)
 .simp only[ed]at hc1;refine aA ?_;refine bZ (v:=.au) ?_;refine aG ?_;refine aq (hc:=h228 l (i+86) 4 aE) ?_;refine az ?_;refine aq (hc:=h227 (1+dI l (i+86) 4)) ?_;refine aG ?_;refine aq (hc:=h230 l (i+87) ae) ?_;refine bq (bF.D (⟨b8 (1+dI l (i+86) 4),j3 l (i+87)⟩:bF)) ?_;refine cZ [bF.D (⟨b8 (1+dI l (i+86) 4),j3 l (i+87)⟩:bF)] ?_;refine zO (n:=1) (ys:=[bF.D (⟨b8 (1+dI l (i+86) 4),j3 l (i+87)⟩:bF)]) (he:=sg.all ah rfl) (hn:=rfl) ?_;refine az ?_;refine aQ (eO (ki l i own) .au (.own 32 2 0 1)) (he:=aT) ?_;refine az ?_;refine eF 32 ?_ (he:=by simp only[kg,hZ,jo,kR,lY,cd,Nat.reduceEqDiff,aP,aM,cA,bY,bQ,cx,cy,bD,bz,aF,bN,aI,reduceCtorEq,aH,aO,Nat.reduceAdd,Nat.reduceLeDiff,eO];exact rfl) (hm:=by simp only[kg,hZ,jo,kR,lY,cd,Nat.reduceEqDiff,aP,aM,cA,bY,bQ,cx,cy,bD,bz,aF,bN,aI,reduceCtorEq,aH,aO,Nat.reduceAdd,Nat.reduceLeDiff,eO];exact rfl);refine az ?_;refine dj (d:=eO (ki l i own) .au (.sl 2 [bF.D (⟨b8 (1+dI l (i+86) 4),j3 l (i+87)⟩:bF)])) ?_;refine aQ (eO (ki l i own) .au (.sl 2 [bF.D (⟨b8 (1+dI l (i+86) 4),j3 l (i+87)⟩:bF)])) (he:=aT) ?_;refine aA ?_;refine cv (?_);simp only[AZ];rw[aj hc0,aw hc1];rfl
 simp only[ed]at hc1;refine aA ?_;refine dj (d:=eO (ki l i own) .au .au) ?_;refine aQ (eO (ki l i own) .au .au) (he:=aT) ?_;refine aA ?_;refine cv (?_);simp only[AZ];rw[aj hc0,aj hc1];rfl
def Cj (T:List D->D->Prop):Prop:=∀(l:List Int) (i:Int) (own:Int),(0<=i/\i<=100000)->(0<=own/\own<=100000)->T [.sl 1 (l.map (D.int .i64)),.int .i64 i,.int .i64 own] (iq.D (AZ l i own))
def NQ (Y:Ctx):Prop:=Cj (ch Y 1209)
def p9:aN:=⟨2,9,[⟨2,none⟩],di,(sq (r1 [gm eS] 2 0) (sq (r1 [gm s0,gx 1209 [l0,b7,b7] [[.sl 1 [.a]],[.a],[.a]],gb 11 (.c (.agg [.str [],.int .i64 0,.int .i64 0,.int .i64 0,.str [],.str [],.au,.au,.au,.au,.au])),gt 11 l2 l1] 4 2) (sq (r1 [gm s1,gx 227 [l0] di,gm l1] 3 2) (sq (rg [gn (.build [.str [],.str []] [(0,1,(cs [98])),(1,1,(cs [111,110,101]))]),gm s3,gn (.build [.str [],.str []] [(0,1,l1),(1,1,(cs [116,119,111]))]),gn (.bsl 2 (.agg [.str [],.str []]) 2 [(0,l0),(1,l2)]),gf 9 s4,gt 1 l4 l3] []) (sq (rg [gn (.build [.str [],.str []] [(0,1,(cs [98])),(1,1,(cs [42]))]),gn (.build [.str [],.str []] [(0,1,(cs [99])),(1,1,(cs [42]))]),gm s3,gn (.build [.str [],.str []] [(0,1,l2),(1,1,(cs [60,49]))]),gn (.bsl 2 (.agg [.str [],.str []]) 3 [(0,l0),(1,l1),(2,l3)]),gf 10 s4,gt 1 l5 l4] []) (sq (rg [gk 11 true s4,gx 247 [l0] [[.a,.a,.a,.a,.a,.a,.sl 3 [.sl 4 [.a,.a,.sl 1 [.a],.a],.a,.a],.sl 3 [.a,.a,.a],.sl 2 [.a,.sl 1 [.a]],.sl 2 [.a,.a],.sl 2 [.a,.a]]],gm l1,ge l2 0,ge l2 1,gm l3,gm l4] [(6,5),(7,6)]) (sq (sq (r1 [gm s3,zF l0 (cs [98])] 5 1) (.cond s5 (sq (r1 [gx 81 [] [],gm l0,gmt 1 s6,dC 1 (dP l2 (i6 15)),iM l1 l3,gm l4,gmt 5 s7,dC 5 (dP l6 cN),iM l5 l7,gm l8] 2 9) .ret) .skip)) (sq (sq (r1 [gm s3,zF l0 (cs [99])] 8 1) (.cond s8 (sq (r1 [gx 81 [] [],gm l0,gmt 1 s6,dC 1 (dP l2 ud),iM l1 l3,gm l4,gmt 5 s7,dC 5 (dP l6 mi),iM l5 l7,gm l8] 2 9) .ret) .skip)) (sq (r1 [gx 81 [] [],gm l0,gmt 1 s6,dC 1 (dP l2 b7),iM l1 l3,gm l4,gmt 5 s7,dC 5 (dP l6 b7),iM l5 l7,gm l8] 2 9) .ret)))))))))⟩
def TC {Y:Ctx}(hm:(Y.at 0).cQ)(h81:C81 Y)(h227:Ip Y)(h247:Lu Y)(h1209:NQ Y)(l:List Int)(own:Int)   :fo Y p9 (.bool true) [.sl 1 (l.map (D.int .i64)),.int .i64 own]:=by
 show ca _ _ _ [⟨_,_⟩,⟨_,_⟩,_,_,_,_,_,_,_] _;have hrl:=KJ l own;have hs:=Tr l own;refine av ?_;refine aK ?_;refine aq (hc:=h1209 l 0 0 ae ae) ?_;refine az ?_;refine aQ (iq.D (AZ l 0 0)) (he:=aT) ?_;refine aG ?_;refine aq (hc:=h227 own) ?_;refine aG ?_;refine bq (dW.D (⟨bS,zX[0]!⟩:dW)) ?_;refine az ?_;refine bq (dW.D (⟨(b8 own),zX[1]!⟩:dW)) ?_;refine cZ [dW.D (⟨bS,zX[0]!⟩:dW),dW.D (⟨(b8 own),zX[1]!⟩:dW)] ?_;refine az ?_;refine aQ (eO (ki l 0 0) (.own 11 2 0 2) (.sl 2 ((AZ l 0 0).hs.map bF.D))) (he:=aT) ?_;refine aA ?_;refine bq (bF.D (⟨bS,[42]⟩:bF)) ?_;refine bq (bF.D (⟨cS,[42]⟩:bF)) ?_;refine az ?_;refine bq (bF.D (⟨(b8 own),[60,49]⟩:bF)) ?_;refine cZ [bF.D (⟨bS,[42]⟩:bF),bF.D (⟨cS,[42]⟩:bF),bF.D (⟨(b8 own),[60,49]⟩:bF)] ?_;refine az ?_;refine aQ (eO (ki l 0 0) (.own 11 2 0 2) (.own 18 2 0 3)) (he:=aT) ?_;refine az ?_;refine eF 11 ?_ (he:=by simp only[kg,hZ,jo,kR,lY,cd,Nat.reduceEqDiff,aP,aM,cA,bY,bQ,cx,cy,bD,bz,aF,bN,aI,reduceCtorEq,aH,aO,Nat.reduceAdd,Nat.reduceLeDiff,eO];exact rfl) (hm:=by simp only[kg,hZ,jo,kR,lY,cd,Nat.reduceEqDiff,aP,aM,cA,bY,bQ,cx,cy,bD,bz,aF,bN,aI,reduceCtorEq,aH,aO,Nat.reduceAdd,Nat.reduceLeDiff,eO];exact rfl);refine eF 18 ?_ (he:=by simp only[kg,hZ,jo,kR,lY,cd,Nat.reduceEqDiff,aP,aM,cA,bY,bQ,cx,cy,bD,bz,aF,bN,aI,reduceCtorEq,aH,aO,Nat.reduceAdd,Nat.reduceLeDiff,eO];exact rfl) (hm:=by simp only[kg,hZ,jo,kR,lY,cd,Nat.reduceEqDiff,aP,aM,cA,bY,bQ,cx,cy,bD,bz,aF,bN,aI,reduceCtorEq,aH,aO,Nat.reduceAdd,Nat.reduceLeDiff,eO];exact rfl);refine az ?_;refine dj (d:=iq.D (QX l own)) ?_;refine aq (hc:=h247 (QX l own) hs) ?_;refine fJ ?_;refine ax (fun hc0=>?_) (fun hc0=>?_)
 .refine aA ?_;refine aq (hc:=h81) ?_;refine fJ ?_;refine cz ?_;rw[hrl,aw (Jy (b:=bS) hc0)];rfl
 refine bh ?_;refine ax (fun hc1=>?_) (fun hc1=>?_)
 .refine aA ?_;refine aq (hc:=h81) ?_;refine fJ ?_;refine cz ?_;rw[hrl,aj (by rw[C8 (b:=bS) hc0];simp),aw (Jy (b:=cS) hc1)];rfl
 refine aA ?_;refine aq (hc:=h81) ?_;refine fJ ?_;refine cz ?_;rw[hrl,aj (by rw[C8 (b:=bS) hc0];simp),aj (by rw[C8 (b:=cS) hc1];simp)];rfl
def Ci (T:List D->D->Prop):Prop:=∀(l:List Int) (own:Int),T [.sl 1 (l.map (D.int .i64)),.int .i64 own] (.bool true)
def cn {p:Prop}(h:p:=by((repeat intro _);exact Ta GB (.inl (by assumption)) fun T hT=>(by apply hT<;>assumption))):p:=h
def bX {t:List (Nat×nV)}{key u q:Nat}:((under t key u).at q).cQ:=wT t key u q
section
def Pv:List D->Nat
 |_::.int _ (.ofNat 4)::_=>3
 |_=>1
def A124 (T:RT):Prop:=E5 T/\Ck T
def Q0 (T:FT):Prop:=∀(r:Ld),(r.sm)->T (Ld.D r) [] (.tup [Rec.D (gM r.rest).1,.bool (sY r.rest).isSome]) (Ld.D (r.to (gM r.rest).2))
def R4:vc (mH Q0):=L6
def Q3 (T:FT):Prop:=∀(r:Ld) (w:ak) (n:Nat) (op:Bool),(r.sm)->(n<=1000)->(op=true->1<=n)->T (Ld.D r) [.str w,.int .i64 (n:Nat),.bool op] (.tup [xu (cb w n op r.rest),.bool (cb w n op r.rest).isSome]) (Ld.D (r.after (cb w n op r.rest)))
def R5:vc (mH Q3):=L6
def Q4 (T:FT):Prop:=∀(r:Ld),(r.sm)->T (Ld.D r) [] (bT.D (eE r.rest).1) (Ld.D (r.to (eE r.rest).2))
def R6:vc (mH Q4):=L6
def Q5 (T:FT):Prop:=∀(r:Ld),(r.sm)->T (Ld.D r) [] (.str (bW r.rest).1) (Ld.D (r.to (bW r.rest).2))
def R7:vc (mH Q5):=L6
def u811:List D->Nat:=fun ds=>2*(match ds.getD 1 .any with| .int _ i=>i.toNat|_=>0)
def u951:List D->Nat:=fun ds=>2*(match ds.getD 1 .any with| .int _ i=>i.toNat|_=>0)+1
def R3:R8 (zD Ci):=GB
def bB:List (Nat×nV):=[(70,rP 14 Lc),(72,rP 15 Lg),(76,rP 15 Lh),(79,rP 10 Li),(81,rP 17 Lj),(82,rP 16 Lk),(124,rP 1 A124),(125,rP 3 uU),(208,rP 1 E6),(209,rP 4 uT),(210,rP 13 E7),(211,rP 11 E8),(212,rP 6 E9),(213,rP 3 FG),(214,rP 3 Fa),(215,rP 6 Fb),(217,rP 4 uT),(222,rF 7 Q0),(227,rP 2 Fc),(228,rP 2 Fe),(229,rP 9 Ff),(230,rP 7 Fg),(231,rP 3 Fh),(232,rP 2 Fi),(238,rP 16 Fj),(239,rP 2 Fk),(240,rP 5 Fl),(241,rP 4 Fm),(242,rP 1 Fo),(243,rG 1 OK),(244,rP 1 Fp),(245,rP 1 Fq),(246,rP 2 Fs),(247,rP 15 Ft),(249,rP 1 Fu),(254,rP 1 Fv),(331,rP 1 Fw),(332,rP 2 uU),(336,rP 1 pY),(349,rP 1 Fx),(440,rP 1 uV),(441,rP 3 Fy),(442,rP 2 Fz),(443,rP 12 FA),(444,rP 10 FU),(445,rP 5 FB),(446,rP 5 FC),(447,rP 1 F7),(448,rP 2 FY),(449,rP 2 F8),(450,rG 2 OP),(451,rP 5 FD),(452,rG 1 OR),(454,rP 1 FE),(455,rP 1 uV),(456,rP 3 FF),(465,rFG 3 Q3 DZ),(466,rP 6 FH),(467,rF 5 Q4),(468,rF 4 Q5),(469,rP 1 FI),(470,rP 1 uW),(478,rP 1 FJ),(479,rP 1 FK),(480,rP 8 FL),(481,rP 2 FM),(482,rP 6 vb),(483,rP 1 FN),(487,rP 1 FO),(489,rG 1 OV),(490,rG 2 OW),(491,rP 1 FP),(492,rG 1 OX),(494,rP 1 FQ),(495,rP 9 F3),(496,rP 8 F4),(533,rP 1 uW),(563,rP 1 FR),(658,rP 1 uX),(659,rP 1 uY),(660,rG 4 O0 (JF fun _=>4)),(661,rP 4 FV),(662,rP 3 FW),(663,rP 1 Ge),(664,rG 1 O3),(665,rP 2 pY),(666,rP 1 FX),(667,rP 2 uX),(668,rP 1 uY),(675,rP 1 FZ),(676,rP 5 uZ),(677,rG 3 O5),(678,rP 1 va),(682,rP 8 F0),(683,rP 1 F1),(684,rP 7 F2),(685,rP 8 Gb),(734,rP 2 pY),(808,rG 4 C808 (JF Pv)),(809,rG 4 C809 (JF fun _=>2)),(810,rP 2 F5),(811,rP 2 F6 u811),(819,rP 7 F9),(827,rP 5 uZ),(828,rP 6 vb),(882,rP 1 Ga),(946,rP 1 Gc),(947,rG 2 Gf),(948,rG 1 Iv),(949,rG 4 C949 (JF fun _=>0)),(950,rP 1 Gd),(951,rP 2 NP u951),(956,rP 1 Ch),(957,rP 1 va),(1031,rG 3 Ik),(1207,rP 18 Ci),(1209,rP 11 Cj)]
variable {k u v:Nat}
def G70 (hk:14<k:=by decide):C70 (under bB k u):=cn
def G72 (hk:15<k:=by decide):C72 (under bB k u):=cn
def G76 (hk:15<k:=by decide):C76 (under bB k u):=cn
def G79 (hk:10<k:=by decide):C79 (under bB k u):=cn
def G81 (hk:17<k:=by decide):C81 (under bB k u):=cn
def G82 (hk:16<k:=by decide):C82 (under bB k u):=cn
def LB (hk:1<k:=by decide):Il (under bB k u):=fun s b hp=>Ta GB (.inl hk) fun T h=>h.1 s b hp
def Sy (hk:1<k:=by decide):NS (under bB k u):=fun s hp=>Ta GB (.inl hk) fun T h=>h.2 s hp
def G125 (hk:3<k:=by decide):Q6 (under bB k u):=cn
def LC (hk:1<k:=by decide):Im (under bB k u):=cn
def LD (hk:4<k:=by decide):Io (under bB k u):=cn
def G210 (hk:13<k:=by decide):Q7 (under bB k u):=cn
def Sd (hk:11<k:=by decide):OG (under bB k u):=cn
def Se (hk:6<k:=by decide):OH (under bB k u):=cn
def G213 (hk:3<k:=by decide):Q8 (under bB k u):=cn
def G214 (hk:3<k:=by decide):Q9 (under bB k u):=cn
def Sf (hk:6<k:=by decide):OI (under bB k u):=cn
def G217 (hk:4<k:=by decide):Ra (under bB k u):=cn
def G222 (hk:7<k:=by decide):Rb (under bB k u):=fun r hp0=>okf R4 hk fun T h=>h r hp0
def LF (hk:2<k:=by decide):Ip (under bB k u):=cn
def Gj (hk:2<k:=by decide):Cs (under bB k u):=cn
def G229 (hk:9<k:=by decide):Rc (under bB k u):=cn
def Pa (hk:7<k:=by decide):Lt (under bB k u):=cn
def Sg (hk:3<k:=by decide):OJ (under bB k u):=cn
def G232 (hk:2<k:=by decide):Rd (under bB k u):=cn
def G238 (hk:16<k:=by decide):Re (under bB k u):=cn
def G239 (hk:2<k:=by decide):Rf (under bB k u):=cn
def G240 (hk:5<k:=by decide):Rg (under bB k u):=cn
def G241 (hk:4<k:=by decide):Rh (under bB k u):=cn
def LG (hk:1<k:=by decide):Iq (under bB k u):=cn
def G243 (hk:1<k:=by decide):OK (under bB k u):=fun lm nx m K hK=>Am (.inl hk) fun T _ h=>h lm nx m K hK
def G244 (hk:1<k:=by decide):Ri (under bB k u):=cn
def Pb (hk:1<k:=by decide):OL (under bB k u):=cn
def Pc (hk:2<k:=by decide):OM (under bB k u):=cn
def Pd (hk:15<k:=by decide):Lu (under bB k u):=cn
def G249 (hk:1<k:=by decide):Rj (under bB k u):=cn
def G254 (hk:1<k:=by decide):Rk (under bB k u):=cn
def G331 (hk:1<k:=by decide):Rl (under bB k u):=cn
def G332 (hk:2<k:=by decide):Rm (under bB k u):=cn
def G336 (hk:1<k:=by decide):Rn (under bB k u):=cn
def Gk (hk:1<k:=by decide):Ct (under bB k u):=cn
def G440 (hk:1<k:=by decide):Ro (under bB k u):=cn
def G441 (hk:3<k:=by decide):Rp (under bB k u):=cn
def Si (hk:2<k:=by decide):ON (under bB k u):=cn
def G443 (hk:12<k:=by decide):Rq (under bB k u):=cn
def G444 (hk:10<k:=by decide):Rr (under bB k u):=cn
def G445 (hk:5<k:=by decide):Rs (under bB k u):=cn
def G446 (hk:5<k:=by decide):Rt (under bB k u):=cn
def G447 (hk:1<k:=by decide):Ru (under bB k u):=cn
def Sj (hk:2<k:=by decide):OO (under bB k u):=cn
def G449 (hk:2<k:=by decide):Rv (under bB k u):=cn
def G450 (hk:2<k:=by decide):OP (under bB k u):=fun ws t l lw nx m K h1 h2 h3 h4 h5 hK=>Am (.inl hk) fun T _ h=>h ws t l lw nx m K h1 h2 h3 h4 h5 hK
def Sk (hk:5<k:=by decide):OQ (under bB k u):=cn
def G452 (hk:1<k:=by decide):OR (under bB k u):=fun ds st K h1=>Am (.inl hk) fun T _ h=>h ds st K h1
def G454 (hk:1<k:=by decide):Rw (under bB k u):=cn
def G455 (hk:1<k:=by decide):Rx (under bB k u):=cn
def G456 (hk:3<k:=by decide):Ry (under bB k u):=cn
def Sl (hk:3<k:=by decide):Lv (under bB k u):=fun r w n op hp0 hp1 hp2=>okf R5 hk fun T h=>h r w n op hp0 hp1 hp2
def Sz (hk:3<k:=by decide):DZ (under bB k u):=fun r w n op l nx m K h1 h2 h3 h4 hK=>Am (.inl hk) fun T _ h=>h r w n op l nx m K h1 h2 h3 h4 hK
def G466 (hk:6<k:=by decide):Rz (under bB k u):=cn
def G467 (hk:5<k:=by decide):OS (under bB k u):=fun r hp0=>okf R6 hk fun T h=>h r hp0
def Sm (hk:4<k:=by decide):Lw (under bB k u):=fun r hp0=>okf R7 hk fun T h=>h r hp0
def G469 (hk:1<k:=by decide):RA (under bB k u):=cn
def G470 (hk:1<k:=by decide):RB (under bB k u):=cn
def LH (hk:1<k:=by decide):Ir (under bB k u):=cn
def Pe (hk:1<k:=by decide):Lx (under bB k u):=cn
def G480 (hk:8<k:=by decide):RC (under bB k u):=cn
def Sn (hk:2<k:=by decide):OT (under bB k u):=cn
def G482 (hk:6<k:=by decide):RE (under bB k u):=cn
def G483 (hk:1<k:=by decide):RF (under bB k u):=cn
def So (hk:1<k:=by decide):OU (under bB k u):=cn
def G489 (hk:1<k:=by decide):OV (under bB k u):=fun ds st K h1=>Am (.inl hk) fun T _ h=>h ds st K h1
def G490 (hk:2<k:=by decide):OW (under bB k u):=fun r ps hs a b hp0 nx m K h1 h2 hK=>Am (.inl hk) fun T _ h=>h r ps hs a b hp0 nx m K h1 h2 hK
def G491 (hk:1<k:=by decide):RG (under bB k u):=cn
def G492 (hk:1<k:=by decide):OX (under bB k u):=fun r ps hs a b hp0 nx m K h1 h2 hK=>Am (.inl hk) fun T _ h=>h r ps hs a b hp0 nx m K h1 h2 hK
def G494 (hk:1<k:=by decide):RH (under bB k u):=cn
def Sp (hk:9<k:=by decide):OY (under bB k u):=cn
def Sq (hk:8<k:=by decide):OZ (under bB k u):=cn
def LI (hk:1<k:=by decide):Is (under bB k u):=cn
def G563 (hk:1<k:=by decide):RI (under bB k u):=cn
def Pf (hk:1<k:=by decide):Ly (under bB k u):=cn
def G659 (hk:1<k:=by decide):RJ (under bB k u):=cn
def G660 (hk:4<k:=by decide):O0 (under bB k u):=fun w nd hp0 nx lp ln m K h1 h2 h3 h4 hK=>Am (.inl hk) fun T _ h=>h w nd hp0 nx lp ln m K h1 h2 h3 h4 hK
def Sr (hv:v<=u):NR (under bB 4 u) v:=fun w nd hp0 hu nx lp ln m K h1 h2 h3 h4 hK=>Am (.inr ⟨rfl,by rw[show(lk bB 660 lM).muE=JF fun _=>4 from rfl,lH h1];exact eC hu hv⟩) fun T _ h=>h w nd hp0 nx lp ln m K h1 h2 h3 h4 hK
def Ss (hk:4<k:=by decide):O1 (under bB k u):=cn
def Su (hk:3<k:=by decide):O2 (under bB k u):=cn
def G663 (hk:1<k:=by decide):RL (under bB k u):=cn
def G664 (hk:1<k:=by decide):O3 (under bB k u):=fun ds st K h1=>Am (.inl hk) fun T _ h=>h ds st K h1
def Sv (hk:2<k:=by decide):O4 (under bB k u):=cn
def G666 (hk:1<k:=by decide):RM (under bB k u):=cn
def G667 (hk:2<k:=by decide):RN (under bB k u):=cn
def G668 (hk:1<k:=by decide):RO (under bB k u):=cn
def G675 (hk:1<k:=by decide):RP (under bB k u):=cn
def G676 (hk:5<k:=by decide):RQ (under bB k u):=cn
def G677 (hk:3<k:=by decide):O5 (under bB k u):=fun c hp0 nx m K hK=>Am (.inl hk) fun T _ h=>h c hp0 nx m K hK
def G678 (hk:1<k:=by decide):RR (under bB k u):=cn
def G682 (hk:8<k:=by decide):RS (under bB k u):=cn
def G683 (hk:1<k:=by decide):RU (under bB k u):=cn
def Pg (hk:7<k:=by decide):Lz (under bB k u):=cn
def G685 (hk:8<k:=by decide):RV (under bB k u):=cn
def G734 (hk:2<k:=by decide):RW (under bB k u):=cn
def NV (hv:v<=u):It (under bB 4 u) v:=⟨fun w nd hp0 hu nx lp ln m K h1 h2 h3 h4 hK=>Am (.inr ⟨rfl,by rw[show(lk bB 808 lM).muE=JF Pv from rfl,lH h1];exact eC hu hv⟩) fun T _ h=>h.1 w nd hp0 nx lp ln m K h1 h2 h3 h4 hK,fun w nd hp0 hu nx lp ln m K h1 h2 h3 h4 hK=>Am (.inr ⟨rfl,by rw[show(lk bB 808 lM).muE=JF Pv from rfl,lH h1];exact eC hu hv⟩) fun T _ h=>h.2 w nd hp0 nx lp ln m K h1 h2 h3 h4 hK⟩
def Sw (hv:v<=u):RX (under bB 4 u) v:=fun w nd hp0 hu nx lp ln m K h1 h2 h3 h4 hK=>Am (.inr ⟨rfl,by rw[show(lk bB 809 lM).muE=JF fun _=>2 from rfl,lH h1];exact eC hu hv⟩) fun T _ h=>h w nd hp0 nx lp ln m K h1 h2 h3 h4 hK
def G810 (hk:2<k:=by decide):RY (under bB k u):=cn
def G811 (hk:2<k:=by decide):RZ (under bB k u):=cn
def NW (hv:v<=u):Iu (under bB 2 u) v:=fun l i hp0 hu=>Ta GB (.inr ⟨rfl,eC hu hv⟩) fun T hT=>hT l i hp0
def G819 (hk:7<k:=by decide):R0 (under bB k u):=cn
def Ph (hk:5<k:=by decide):LA (under bB k u):=cn
def Sx (hk:6<k:=by decide):O6 (under bB k u):=cn
def G882 (hk:1<k:=by decide):R1 (under bB k u):=cn
def Pj (hk:1<k:=by decide):O7 (under bB k u):=cn
def LJ (hk:2<k:=by decide):Gf (under bB k u):=fun w nd b nx lp ln m K h1 h2 h3 h4 hK=>Am (.inl hk) fun T _ h=>h w nd b nx lp ln m K h1 h2 h3 h4 hK
def LK (hk:1<k:=by decide):Iv (under bB k u):=fun x w nd b hp0 nx lp ln m K h1 h2 h3 h4 hK=>Am (.inl hk) fun T _ h=>h x w nd b hp0 nx lp ln m K h1 h2 h3 h4 hK
def NX (hv:v<=u):NT (under bB 4 u) v:=fun w nd hp0 hu nx lp ln m K h1 h2 h3 h4 hK=>Am (.inr ⟨rfl,by rw[show(lk bB 949 lM).muE=JF fun _=>0 from rfl,lH h1];exact eC hu hv⟩) fun T _ h=>h w nd hp0 nx lp ln m K h1 h2 h3 h4 hK
def SA (hk:1<k:=by decide):O8 (under bB k u):=cn
def SB (hv:v<=u):NU (under bB 2 u) v:=fun l i b hp0 hu=>Ta GB (.inr ⟨rfl,eC hu hv⟩) fun T hT=>hT l i b hp0
def G956 (hk:1<k:=by decide):R2 (under bB k u):=cn
def SC (hk:1<k:=by decide):O9 (under bB k u):=cn
def Sb (hk:3<k:=by decide):Ik (under bB k u):=fun k w nd b hp0 nx lp ln m K h1 h2 h3 h4 hK=>Am (.inl hk) fun T _ h=>h k w nd b hp0 nx lp ln m K h1 h2 h3 h4 hK
def Sc (hk:11<k:=by decide):NQ (under bB k u):=cn
end
def qO:List (Nat×Nat):=[(7,1207),(9,81),(10,247),(12,238),(14,82),(17,1209),(18,478),(19,228),(21,227),(23,70),(24,208),(25,495),(26,496),(30,72),(31,239),(32,240),(33,241),(34,76),(35,242),(36,243),(37,244),(38,245),(39,246),(42,249),(46,79),(47,230),(48,479),(50,209),(51,210),(52,211),(53,212),(54,213),(55,214),(56,215),(57,124),(58,682),(59,683),(60,684),(61,685),(63,217),(66,331),(67,487),(68,125),(69,222),(71,489),(72,452),(73,490),(74,491),(75,492),(77,494),(78,470),(82,229),(83,231),(84,232),(85,482),(89,440),(90,441),(91,442),(92,443),(93,349),(94,444),(95,445),(96,446),(97,447),(98,448),(99,449),(100,450),(101,451),(102,819),(110,827),(111,828),(113,454),(114,455),(115,456),(126,332),(127,465),(128,466),(129,467),(130,468),(131,469),(134,563),(142,480),(143,481),(144,483),(145,676),(146,677),(147,678),(149,533),(150,658),(151,659),(152,660),(153,661),(154,662),(155,254),(156,663),(157,664),(158,665),(159,956),(160,957),(165,666),(166,667),(167,668),(184,675),(188,734),(189,808),(190,809),(191,810),(192,811),(194,336),(212,882),(213,946),(214,947),(215,948),(216,949),(217,950),(218,951),(230,1031)]
def I1:List Nat:=[219,1091,1354,1894,1896,1616,1320,1618,1898,2062,2066,2282,2068,2252,2194,2064,1904,900,931,937,935,445,978,1328,904,942,944,946,952,448,522,1008,1724,1726,1728,1430,486,500,1000000130]
def bV:(Go.Proofs.Tryz.prog).follows .mixedOrders=true:=jt
abbrev Ow [cP](f n:Nat):Prop:=QK Go.Proofs.Tryz.prog qO I1 bB f n
abbrev Cp (f:Nat)(a:aN):Prop:=Ie Go.Proofs.Tryz.prog qO I1 f a
def ck {f:Nat}{a:aN}(h:((Go.Proofs.Tryz.prog).funcs[f]?).map (fun f=>(compile Go.Proofs.Tryz.prog qO I1 f,f.name== "runtime.NumGoroutine"))=some (some a,false):=by kernel_rfl):Cp f a:=h
end Go.Abs
section
namespace Go.Proofs
open Go.Shelf
def Tryz.L0:Go.Shelf.Ren:=⟨fun|166=>71|167=>157|169=>72|240=>132|276=>185|n=>n,fun|70=>127|9=>9|0=>0|72=>130|37=>128|3=>3|5=>5|4=>4|20=>20|75=>133|80=>136|164=>219|127=>187|n=>n,fun|n=>n⟩
def Tryz.D5:Go.Proofs.Lays.n166 Tryz.prog Tryz.L0:={
 mixed:=by kernel_rfl
 f166:=Tryz.func71.trans (congrArg some (by kernel_rfl))
 f240:=Tryz.func132.trans (congrArg some (by kernel_rfl))
 f276:=Tryz.func185.trans (congrArg some (by kernel_rfl))
 t0:=Tryz.underlying0
 a0:=Tryz.isAgg0
 z0:=Tryz.sizeOf0
 v0:=Tryz.zeroValue0
 t3:=Tryz.underlying3
 a3:=Tryz.isAgg3
 z3:=Tryz.sizeOf3
 v3:=Tryz.zeroValue3
 t4:=Tryz.underlying4
 a4:=Tryz.isAgg4
 z4:=Tryz.sizeOf4
 v4:=Tryz.zeroValue4
 t9:=Tryz.underlying9
 a9:=Tryz.isAgg9
 z9:=Tryz.sizeOf9
 v9:=Tryz.zeroValue9
 t20:=Tryz.underlying20
 a20:=Tryz.isAgg20
 z20:=Tryz.sizeOf20
 v20:=Tryz.zeroValue20
 t37:=Tryz.underlying128
 a37:=Tryz.isAgg128
 z37:=Tryz.sizeOf128
 v37:=Tryz.zeroValue128
 t70:=Tryz.underlying127
 a70:=Tryz.isAgg127
 z70:=Tryz.sizeOf127
 v70:=Tryz.zeroValue127
 t72:=Tryz.underlying130
 a72:=Tryz.isAgg130
 z72:=Tryz.sizeOf130
 v72:=Tryz.zeroValue130
 t75:=Tryz.underlying133
 a75:=Tryz.isAgg133
 z75:=Tryz.sizeOf133
 v75:=Tryz.zeroValue133
 t164:=Tryz.underlying219
 a164:=Tryz.isAgg219
 z164:=Tryz.sizeOf219
 v164:=Tryz.zeroValue219}
def Tryz.D6:Go.Proofs.Lays.n167 Tryz.prog Tryz.L0:={
 mixed:=by kernel_rfl
 f167:=Tryz.func157.trans (congrArg some (by kernel_rfl))
 f240:=Tryz.func132.trans (congrArg some (by kernel_rfl))
 f276:=Tryz.func185.trans (congrArg some (by kernel_rfl))
 t0:=Tryz.underlying0
 a0:=Tryz.isAgg0
 z0:=Tryz.sizeOf0
 v0:=Tryz.zeroValue0
 t4:=Tryz.underlying4
 a4:=Tryz.isAgg4
 z4:=Tryz.sizeOf4
 v4:=Tryz.zeroValue4
 t5:=Tryz.underlying5
 a5:=Tryz.isAgg5
 z5:=Tryz.sizeOf5
 v5:=Tryz.zeroValue5
 t9:=Tryz.underlying9
 a9:=Tryz.isAgg9
 z9:=Tryz.sizeOf9
 v9:=Tryz.zeroValue9
 t20:=Tryz.underlying20
 a20:=Tryz.isAgg20
 z20:=Tryz.sizeOf20
 v20:=Tryz.zeroValue20
 t37:=Tryz.underlying128
 a37:=Tryz.isAgg128
 z37:=Tryz.sizeOf128
 v37:=Tryz.zeroValue128
 t70:=Tryz.underlying127
 a70:=Tryz.isAgg127
 z70:=Tryz.sizeOf127
 v70:=Tryz.zeroValue127
 t72:=Tryz.underlying130
 a72:=Tryz.isAgg130
 z72:=Tryz.sizeOf130
 v72:=Tryz.zeroValue130
 t75:=Tryz.underlying133
 a75:=Tryz.isAgg133
 z75:=Tryz.sizeOf133
 v75:=Tryz.zeroValue133
 t164:=Tryz.underlying219
 a164:=Tryz.isAgg219
 z164:=Tryz.sizeOf219
 v164:=Tryz.zeroValue219}
def Tryz.D7:Go.Proofs.Lays.n169 Tryz.prog Tryz.L0:={
 mixed:=by kernel_rfl
 f169:=Tryz.func72.trans (congrArg some (by kernel_rfl))
 t0:=Tryz.underlying0
 a0:=Tryz.isAgg0
 z0:=Tryz.sizeOf0
 v0:=Tryz.zeroValue0
 t3:=Tryz.underlying3
 a3:=Tryz.isAgg3
 z3:=Tryz.sizeOf3
 v3:=Tryz.zeroValue3
 t9:=Tryz.underlying9
 a9:=Tryz.isAgg9
 z9:=Tryz.sizeOf9
 v9:=Tryz.zeroValue9
 t37:=Tryz.underlying128
 a37:=Tryz.isAgg128
 z37:=Tryz.sizeOf128
 v37:=Tryz.zeroValue128
 t70:=Tryz.underlying127
 a70:=Tryz.isAgg127
 z70:=Tryz.sizeOf127
 v70:=Tryz.zeroValue127
 t72:=Tryz.underlying130
 a72:=Tryz.isAgg130
 z72:=Tryz.sizeOf130
 v72:=Tryz.zeroValue130
 t127:=Tryz.underlying187
 a127:=Tryz.isAgg187
 z127:=Tryz.sizeOf187
 v127:=Tryz.zeroValue187}
def Tryz.Pu:Builder.Extra Tryz.prog Tryz.L0:={
 sizeBuilder:=by kernel_rfl
 liesBuilder:=by kernel_rfl
 t5:=Tryz.underlying5
 a5:=Tryz.isAgg5
 z5:=Tryz.sizeOf5
 v5:=Tryz.zeroValue5
 infoByte:=by kernel_rfl
 cellsByte:=by kernel_rfl
 sizeByte:=by kernel_rfl
 neB5:=by decide}
end Go.Proofs
end
section
namespace Go.Proofs
open Go.Shelf
def Tryz.lays156_ren:Go.Shelf.Ren:=⟨fun|156=>35|165=>70|166=>71|169=>72|240=>132|241=>133|276=>185|277=>186|n=>n,fun|31=>73|9=>9|3=>3|4=>4|0=>0|20=>20|72=>130|76=>134|70=>127|37=>128|75=>133|127=>187|164=>219|5=>5|80=>136|n=>n,fun|n=>n⟩
def Tryz.lays156:Go.Proofs.Lays.n156 Tryz.prog Tryz.lays156_ren:={
 mixed:=by kernel_rfl
 f156:=bK Tryz.func35
 f165:=bK Tryz.func70
 f166:=bK Tryz.func71
 f169:=bK Tryz.func72
 f240:=bK Tryz.func132
 f241:=bK Tryz.func133
 f276:=bK Tryz.func185
 f277:=bK Tryz.func186
 t0:=Tryz.underlying0
 a0:=Tryz.isAgg0
 z0:=Tryz.sizeOf0
 v0:=Tryz.zeroValue0
 t3:=Tryz.underlying3
 a3:=Tryz.isAgg3
 z3:=Tryz.sizeOf3
 v3:=Tryz.zeroValue3
 t4:=Tryz.underlying4
 a4:=Tryz.isAgg4
 z4:=Tryz.sizeOf4
 v4:=Tryz.zeroValue4
 t9:=Tryz.underlying9
 a9:=Tryz.isAgg9
 z9:=Tryz.sizeOf9
 v9:=Tryz.zeroValue9
 t20:=Tryz.underlying20
 a20:=Tryz.isAgg20
 z20:=Tryz.sizeOf20
 v20:=Tryz.zeroValue20
 t31:=Tryz.underlying73
 a31:=Tryz.isAgg73
 z31:=Tryz.sizeOf73
 v31:=Tryz.zeroValue73
 t37:=Tryz.underlying128
 a37:=Tryz.isAgg128
 z37:=Tryz.sizeOf128
 v37:=Tryz.zeroValue128
 t70:=Tryz.underlying127
 a70:=Tryz.isAgg127
 z70:=Tryz.sizeOf127
 v70:=Tryz.zeroValue127
 t72:=Tryz.underlying130
 a72:=Tryz.isAgg130
 z72:=Tryz.sizeOf130
 v72:=Tryz.zeroValue130
 t75:=Tryz.underlying133
 a75:=Tryz.isAgg133
 z75:=Tryz.sizeOf133
 v75:=Tryz.zeroValue133
 t76:=Tryz.underlying134
 a76:=Tryz.isAgg134
 z76:=Tryz.sizeOf134
 v76:=Tryz.zeroValue134
 t127:=Tryz.underlying187
 a127:=Tryz.isAgg187
 z127:=Tryz.sizeOf187
 v127:=Tryz.zeroValue187
 t164:=Tryz.underlying219
 a164:=Tryz.isAgg219
 z164:=Tryz.sizeOf219
 v164:=Tryz.zeroValue219}
def Tryz.Builder_Extra_156:Builder.Extra Tryz.prog Tryz.lays156_ren:={
 sizeBuilder:=by kernel_rfl
 liesBuilder:=by kernel_rfl
 t5:=Tryz.underlying5
 a5:=Tryz.isAgg5
 z5:=Tryz.sizeOf5
 v5:=Tryz.zeroValue5
 infoByte:=by kernel_rfl
 cellsByte:=by kernel_rfl
 sizeByte:=by kernel_rfl
 neB5:=by decide}
open Go.RowKit in
theorem Tryz.strings_Join_none (a:Option Addr)(c:Nat)(sep:ByteArray)(w:World):
  Calls Tryz.prog 35 #[.slice a 0 c,.string sep] w fun e w'=>e=.returned (.string ⟨#[]⟩)∧w'=w:=Any.strings_Join_none Tryz.lays156 Tryz.Builder_Extra_156 a c sep w
open Go.RowKit in
theorem Tryz.strings_Join (bk o c:Nat)(xs:List ByteArray)(sep:ByteArray)(w:World)(hcells:∀(j:Nat) x,xs[j]? =some x→w.cell? ⟨bk,o+j,none⟩=some (.string x))(hbk:bk<w.heap.size)(hN:xs.length≤140737488355328)(hcap:xs.length≤c)(hlen:(Lib.join (xs.map (·.data.toList)) sep.data.toList).length≤140737488355328):
  Calls Tryz.prog 35 #[.slice (some ⟨bk,o,none⟩) xs.length c,.string sep] w fun e w'=>e=.returned (.string ⟨(Lib.join (xs.map (·.data.toList)) sep.data.toList).toArray⟩)∧Below w.heap.size w w':=Any.strings_Join Tryz.lays156 Tryz.Builder_Extra_156 bk o c xs sep w hcells hbk hN hcap hlen
def Tryz.lays160_ren:Go.Shelf.Ren:=⟨fun|160=>59|232=>104|231=>103|227=>105|234=>107|233=>106|236=>109|235=>108|228=>161|271=>164|151=>163|197=>162|120=>197|152=>196|260=>195|137=>221|119=>222|224=>208|225=>207|217=>206|266=>228|n=>n,fun|9=>9|4=>4|3=>3|5=>5|117=>171|116=>170|0=>0|124=>174|21=>21|105=>208|46=>195|119=>241|139=>244|138=>243|n=>n,fun|3=>1|4=>2|n=>n⟩
def Tryz.lays160:Go.Proofs.Lays.n160 Tryz.prog Tryz.lays160_ren:={
 mixed:=by kernel_rfl
 f119:=bK Tryz.func222
 f120:=bK Tryz.func197
 f137:=bK Tryz.func221
 f151:=bK Tryz.func163
 f152:=bK Tryz.func196
 f160:=bK Tryz.func59
 f197:=bK Tryz.func162
 f217:=bK Tryz.func206
 f224:=bK Tryz.func208
 f225:=bK Tryz.func207
 f227:=bK Tryz.func105
 f228:=bK Tryz.func161
 f231:=bK Tryz.func103
 f232:=bK Tryz.func104
 f233:=bK Tryz.func106
 f234:=bK Tryz.func107
 f235:=bK Tryz.func108
 f236:=bK Tryz.func109
 f260:=bK Tryz.func195
 f266:=bK Tryz.func228
 f271:=bK Tryz.func164
 t0:=Tryz.underlying0
 a0:=Tryz.isAgg0
 z0:=Tryz.sizeOf0
 v0:=Tryz.zeroValue0
 t3:=Tryz.underlying3
 a3:=Tryz.isAgg3
 z3:=Tryz.sizeOf3
 v3:=Tryz.zeroValue3
 t4:=Tryz.underlying4
 a4:=Tryz.isAgg4
 z4:=Tryz.sizeOf4
 v4:=Tryz.zeroValue4
 t5:=Tryz.underlying5
 a5:=Tryz.isAgg5
 z5:=Tryz.sizeOf5
 v5:=Tryz.zeroValue5
 t9:=Tryz.underlying9
 a9:=Tryz.isAgg9
 z9:=Tryz.sizeOf9
 v9:=Tryz.zeroValue9
 t21:=Tryz.underlying21
 a21:=Tryz.isAgg21
 z21:=Tryz.sizeOf21
 v21:=Tryz.zeroValue21
 t46:=Tryz.underlying195
 a46:=Tryz.isAgg195
 z46:=Tryz.sizeOf195
 v46:=Tryz.zeroValue195
 t105:=Tryz.underlying208
 a105:=Tryz.isAgg208
 z105:=Tryz.sizeOf208
 v105:=Tryz.zeroValue208
 t116:=Tryz.underlying170
 a116:=Tryz.isAgg170
 z116:=Tryz.sizeOf170
 t117:=Tryz.underlying171
 a117:=Tryz.isAgg171
 z117:=Tryz.sizeOf171
 v117:=Tryz.zeroValue171
 t119:=Tryz.underlying241
 a119:=Tryz.isAgg241
 z119:=Tryz.sizeOf241
 t124:=Tryz.underlying174
 a124:=Tryz.isAgg174
 z124:=Tryz.sizeOf174
 v124:=Tryz.zeroValue174
 t138:=Tryz.underlying243
 a138:=Tryz.isAgg243
 z138:=Tryz.sizeOf243
 v138:=Tryz.zeroValue243
 t139:=Tryz.underlying244
 a139:=Tryz.isAgg244
 z139:=Tryz.sizeOf244
 v139:=Tryz.zeroValue244
 g3:=by kernel_rfl
 g4:=by kernel_rfl}
open Go.RowKit in
theorem Tryz.strings_Trim_one (s:ByteArray)(c:UInt8)(hc:c.toNat<128)(w:World)(hs:s.size≤9223372036854775807):
  Calls Tryz.prog 59 #[.string s,.string ⟨#[c]⟩] w fun e w'=>e=.returned (.string ⟨(Lib.trimB s.data.toList c).toArray⟩)∧(w'=w∨w'=w.drew):=Any.strings_Trim_one Tryz.lays160 s c hc w hs
def Tryz.lays103_ren:Go.Shelf.Ren:=⟨fun|103=>155|210=>193|206=>219|n=>n,fun|9=>9|4=>4|24=>82|3=>3|n=>n,fun|n=>n⟩
def Tryz.lays103:Go.Proofs.Lays.n103 Tryz.prog Tryz.lays103_ren:={
 mixed:=by kernel_rfl
 f103:=bK Tryz.func155
 f206:=bK Tryz.func219
 f210:=bK Tryz.func193
 t3:=Tryz.underlying3
 a3:=Tryz.isAgg3
 z3:=Tryz.sizeOf3
 v3:=Tryz.zeroValue3
 t4:=Tryz.underlying4
 a4:=Tryz.isAgg4
 z4:=Tryz.sizeOf4
 v4:=Tryz.zeroValue4
 t9:=Tryz.underlying9
 a9:=Tryz.isAgg9
 z9:=Tryz.sizeOf9
 v9:=Tryz.zeroValue9
 t24:=Tryz.underlying82
 a24:=Tryz.isAgg82
 z24:=Tryz.sizeOf82
 v24:=Tryz.zeroValue82}
open Go.RowKit in
theorem Tryz.strings_CutPrefix (s p:ByteArray)(w:World):
  Calls Tryz.prog 155 #[.string s,.string p] w fun e w'=>e=.returned (.tuple #[.string ⟨(Lib.trimPrefix s.data.toList p.data.toList).toArray⟩,.bool (Lib.hasPrefix s.data.toList p.data.toList)])∧w'=w:=Any.strings_CutPrefix Tryz.lays103 s p w
def Tryz.lays104_ren:Go.Shelf.Ren:=⟨fun|104=>37|211=>76|207=>134|n=>n,fun|9=>9|4=>4|24=>82|3=>3|n=>n,fun|n=>n⟩
def Tryz.lays104:Go.Proofs.Lays.n104 Tryz.prog Tryz.lays104_ren:={
 mixed:=by kernel_rfl
 f104:=bK Tryz.func37
 f207:=bK Tryz.func134
 f211:=bK Tryz.func76
 t3:=Tryz.underlying3
 a3:=Tryz.isAgg3
 z3:=Tryz.sizeOf3
 v3:=Tryz.zeroValue3
 t4:=Tryz.underlying4
 a4:=Tryz.isAgg4
 z4:=Tryz.sizeOf4
 v4:=Tryz.zeroValue4
 t9:=Tryz.underlying9
 a9:=Tryz.isAgg9
 z9:=Tryz.sizeOf9
 v9:=Tryz.zeroValue9
 t24:=Tryz.underlying82
 a24:=Tryz.isAgg82
 z24:=Tryz.sizeOf82
 v24:=Tryz.zeroValue82}
open Go.RowKit in
theorem Tryz.strings_CutSuffix (s p:ByteArray)(w:World)(hs:s.size≤9223372036854775807):
  Calls Tryz.prog 37 #[.string s,.string p] w fun e w'=>e=.returned (.tuple #[.string ⟨(Lib.trimSuffix s.data.toList p.data.toList).toArray⟩,.bool (Lib.hasSuffix s.data.toList p.data.toList)])∧w'=w:=Any.strings_CutSuffix Tryz.lays104 s p w hs
def Tryz.laysM171_ren:Go.Shelf.Ren:=⟨fun|171=>194|243=>220|246=>231|283=>237|284=>238|285=>239|286=>240|129=>246|317=>245|318=>247|319=>248|320=>249|337=>251|338=>252|n=>n,fun|3=>3|9=>9|2=>2|4=>4|171=>253|0=>0|53=>58|37=>128|5=>5|173=>256|212=>261|51=>249|20=>20|213=>262|46=>195|232=>265|233=>266|n=>n,fun|17=>3|18=>4|19=>5|n=>n⟩
def Tryz.laysM171:Go.Proofs.LaysM.n171 Tryz.prog Tryz.laysM171_ren:={
 mixed:=by kernel_rfl
 f129:=bK Tryz.func246
 f171:=bK Tryz.func194
 f243:=bK Tryz.func220
 f246:=bK Tryz.func231
 f283:=bK Tryz.func237
 f284:=bK Tryz.func238
 f285:=bK Tryz.func239
 f286:=bK Tryz.func240
 f317:=bK Tryz.func245
 f318:=bK Tryz.func247
 f319:=bK Tryz.func248
 f320:=bK Tryz.func249
 f337:=bK Tryz.func251
 f338:=bK Tryz.func252
 t0:=Tryz.underlying0
 a0:=Tryz.isAgg0
 z0:=Tryz.sizeOf0
 v0:=Tryz.zeroValue0
 t2:=Tryz.underlying2
 a2:=Tryz.isAgg2
 z2:=Tryz.sizeOf2
 v2:=Tryz.zeroValue2
 t3:=Tryz.underlying3
 a3:=Tryz.isAgg3
 z3:=Tryz.sizeOf3
 v3:=Tryz.zeroValue3
 t4:=Tryz.underlying4
 a4:=Tryz.isAgg4
 z4:=Tryz.sizeOf4
 v4:=Tryz.zeroValue4
 t5:=Tryz.underlying5
 a5:=Tryz.isAgg5
 z5:=Tryz.sizeOf5
 v5:=Tryz.zeroValue5
 t9:=Tryz.underlying9
 a9:=Tryz.isAgg9
 z9:=Tryz.sizeOf9
 v9:=Tryz.zeroValue9
 t20:=Tryz.underlying20
 a20:=Tryz.isAgg20
 z20:=Tryz.sizeOf20
 v20:=Tryz.zeroValue20
 t37:=Tryz.underlying128
 a37:=Tryz.isAgg128
 z37:=Tryz.sizeOf128
 v37:=Tryz.zeroValue128
 t46:=Tryz.underlying195
 a46:=Tryz.isAgg195
 z46:=Tryz.sizeOf195
 v46:=Tryz.zeroValue195
 t51:=Tryz.underlying249
 a51:=Tryz.isAgg249
 z51:=Tryz.sizeOf249
 v51:=Tryz.zeroValue249
 t53:=Tryz.underlying58
 a53:=Tryz.isAgg58
 z53:=Tryz.sizeOf58
 v53:=Tryz.zeroValue58
 t171:=Tryz.underlying253
 a171:=Tryz.isAgg253
 z171:=Tryz.sizeOf253
 v171:=Tryz.zeroValue253
 t173:=Tryz.underlying256
 a173:=Tryz.isAgg256
 z173:=Tryz.sizeOf256
 v173:=Tryz.zeroValue256
 t212:=Tryz.underlying261
 a212:=Tryz.isAgg261
 z212:=Tryz.sizeOf261
 v212:=Tryz.zeroValue261
 t213:=Tryz.underlying262
 a213:=Tryz.isAgg262
 z213:=Tryz.sizeOf262
 t232:=Tryz.underlying265
 a232:=Tryz.isAgg265
 z232:=Tryz.sizeOf265
 v232:=Tryz.zeroValue265
 t233:=Tryz.underlying266
 a233:=Tryz.isAgg266
 z233:=Tryz.sizeOf266
 v233:=Tryz.zeroValue266
 g17:=by kernel_rfl
 g18:=by kernel_rfl
 g19:=by kernel_rfl
 i0:=by kernel_rfl
 i2:=by kernel_rfl
 i3:=by kernel_rfl
 i4:=by kernel_rfl
 i5:=by kernel_rfl
 i9:=by kernel_rfl
 i20:=by kernel_rfl
 i37:=by kernel_rfl
 i46:=by kernel_rfl
 i51:=by kernel_rfl
 i53:=by kernel_rfl
 i171:=by kernel_rfl
 i173:=by kernel_rfl
 i212:=by kernel_rfl
 i232:=by kernel_rfl
 i233:=by kernel_rfl
 m17:=by kernel_rfl
 m18:=by kernel_rfl
 m19:=by kernel_rfl}
open Go.RowKit Go.Sort Go.Lib in
theorem Tryz.strconv_Itoa (n:Int)(h0:-9223372036854775808≤n)(h1:n≤9223372036854775807)(w:World)(htab:Lib.TabIs Tryz.prog w "internal/strconv.uint64pow10" .u64 Lib.pow10Tab):
  Calls Tryz.prog 194 #[.int .i64 n] w fun e w'=>e=.returned (.string ⟨(Lib.itoa n).toArray⟩)∧∃k os,w'=grow (w.drewN k) os:=Any.strconv_Itoa Tryz.laysM171 n h0 h1 w htab
def Tryz.lays144_ren:Go.Shelf.Ren:=⟨fun|144=>74|143=>124|219=>183|217=>206|225=>207|224=>208|267=>209|266=>228|314=>229|n=>n,fun|9=>9|4=>4|3=>3|5=>5|46=>195|146=>250|51=>249|n=>n,fun|1=>0|n=>n⟩
def Tryz.lays144:Go.Proofs.Lays.n144 Tryz.prog Tryz.lays144_ren:={
 mixed:=by kernel_rfl
 f143:=bK Tryz.func124
 f144:=bK Tryz.func74
 f217:=bK Tryz.func206
 f219:=bK Tryz.func183
 f224:=bK Tryz.func208
 f225:=bK Tryz.func207
 f266:=bK Tryz.func228
 f267:=bK Tryz.func209
 f314:=bK Tryz.func229
 t3:=Tryz.underlying3
 a3:=Tryz.isAgg3
 z3:=Tryz.sizeOf3
 v3:=Tryz.zeroValue3
 t4:=Tryz.underlying4
 a4:=Tryz.isAgg4
 z4:=Tryz.sizeOf4
 v4:=Tryz.zeroValue4
 t5:=Tryz.underlying5
 a5:=Tryz.isAgg5
 z5:=Tryz.sizeOf5
 v5:=Tryz.zeroValue5
 t9:=Tryz.underlying9
 a9:=Tryz.isAgg9
 z9:=Tryz.sizeOf9
 v9:=Tryz.zeroValue9
 t46:=Tryz.underlying195
 a46:=Tryz.isAgg195
 z46:=Tryz.sizeOf195
 v46:=Tryz.zeroValue195
 t51:=Tryz.underlying249
 a51:=Tryz.isAgg249
 z51:=Tryz.sizeOf249
 v51:=Tryz.zeroValue249
 t146:=Tryz.underlying250
 a146:=Tryz.isAgg250
 z146:=Tryz.sizeOf250
 v146:=Tryz.zeroValue250
 g1:=by kernel_rfl}
open Go.RowKit Go.Lib in
theorem Tryz.strings_Contains (s sub:ByteArray)(m:Int)(w:World)(hs:s.size<4294967281)(hm:w.cell? ⟨0,0,none⟩=some (.int .i64 m)):
  Calls Tryz.prog 74 #[.string s,.string sub] w fun e w'=>e=.returned (.bool (Lib.contains s.data.toList sub.data.toList))∧w'=w:=Any.strings_Contains Tryz.lays144 s sub m w hs hm
def Tryz.lays145_ren:Go.Shelf.Ren:=⟨fun|145=>67|220=>125|219=>183|217=>206|225=>207|224=>208|267=>209|266=>228|314=>229|n=>n,fun|9=>9|4=>4|59=>120|3=>3|5=>5|46=>195|146=>250|51=>249|n=>n,fun|1=>0|n=>n⟩
def Tryz.lays145:Go.Proofs.Lays.n145 Tryz.prog Tryz.lays145_ren:={
 mixed:=by kernel_rfl
 f145:=bK Tryz.func67
 f217:=bK Tryz.func206
 f219:=bK Tryz.func183
 f220:=bK Tryz.func125
 f224:=bK Tryz.func208
 f225:=bK Tryz.func207
 f266:=bK Tryz.func228
 f267:=bK Tryz.func209
 f314:=bK Tryz.func229
 t3:=Tryz.underlying3
 a3:=Tryz.isAgg3
 z3:=Tryz.sizeOf3
 v3:=Tryz.zeroValue3
 t4:=Tryz.underlying4
 a4:=Tryz.isAgg4
 z4:=Tryz.sizeOf4
 v4:=Tryz.zeroValue4
 t5:=Tryz.underlying5
 a5:=Tryz.isAgg5
 z5:=Tryz.sizeOf5
 v5:=Tryz.zeroValue5
 t9:=Tryz.underlying9
 a9:=Tryz.isAgg9
 z9:=Tryz.sizeOf9
 v9:=Tryz.zeroValue9
 t46:=Tryz.underlying195
 a46:=Tryz.isAgg195
 z46:=Tryz.sizeOf195
 v46:=Tryz.zeroValue195
 t51:=Tryz.underlying249
 a51:=Tryz.isAgg249
 z51:=Tryz.sizeOf249
 v51:=Tryz.zeroValue249
 t59:=Tryz.underlying120
 a59:=Tryz.isAgg120
 z59:=Tryz.sizeOf120
 v59:=Tryz.zeroValue120
 t146:=Tryz.underlying250
 a146:=Tryz.isAgg250
 z146:=Tryz.sizeOf250
 v146:=Tryz.zeroValue250
 g1:=by kernel_rfl}
open Go.RowKit Go.Lib in
theorem Tryz.strings_Cut (s sep:ByteArray)(m:Int)(w:World)(hs:s.size<4294967281)(hm:w.cell? ⟨0,0,none⟩=some (.int .i64 m)):
  Calls Tryz.prog 67 #[.string s,.string sep] w fun e w'=>e=.returned (.tuple #[.string ⟨(Lib.cut s.data.toList sep.data.toList).1.toArray⟩,.string ⟨(Lib.cut s.data.toList sep.data.toList).2.1.toArray⟩,.bool (Lib.cut s.data.toList sep.data.toList).2.2])∧∃n,w'=w.drewN n:=Any.strings_Cut Tryz.lays145 s sep m w hs hm
def Tryz.lays221_ren:Go.Shelf.Ren:=⟨fun|221=>66|268=>122|138=>123|143=>124|195=>181|197=>162|218=>182|219=>183|260=>195|217=>206|225=>207|224=>208|267=>209|266=>228|314=>229|n=>n,fun|9=>9|3=>3|31=>73|4=>4|0=>0|105=>208|21=>21|5=>5|46=>195|119=>241|139=>244|138=>243|146=>250|51=>249|n=>n,fun|1=>0|3=>1|4=>2|n=>n⟩
def Tryz.lays221:Go.Proofs.Lays.n221 Tryz.prog Tryz.lays221_ren:={
 mixed:=by kernel_rfl
 f138:=bK Tryz.func123
 f143:=bK Tryz.func124
 f195:=bK Tryz.func181
 f197:=bK Tryz.func162
 f217:=bK Tryz.func206
 f218:=bK Tryz.func182
 f219:=bK Tryz.func183
 f221:=bK Tryz.func66
 f224:=bK Tryz.func208
 f225:=bK Tryz.func207
 f260:=bK Tryz.func195
 f266:=bK Tryz.func228
 f267:=bK Tryz.func209
 f268:=bK Tryz.func122
 f314:=bK Tryz.func229
 t0:=Tryz.underlying0
 a0:=Tryz.isAgg0
 z0:=Tryz.sizeOf0
 v0:=Tryz.zeroValue0
 t3:=Tryz.underlying3
 a3:=Tryz.isAgg3
 z3:=Tryz.sizeOf3
 v3:=Tryz.zeroValue3
 t4:=Tryz.underlying4
 a4:=Tryz.isAgg4
 z4:=Tryz.sizeOf4
 v4:=Tryz.zeroValue4
 t5:=Tryz.underlying5
 a5:=Tryz.isAgg5
 z5:=Tryz.sizeOf5
 v5:=Tryz.zeroValue5
 t9:=Tryz.underlying9
 a9:=Tryz.isAgg9
 z9:=Tryz.sizeOf9
 v9:=Tryz.zeroValue9
 t21:=Tryz.underlying21
 a21:=Tryz.isAgg21
 z21:=Tryz.sizeOf21
 v21:=Tryz.zeroValue21
 t31:=Tryz.underlying73
 a31:=Tryz.isAgg73
 z31:=Tryz.sizeOf73
 v31:=Tryz.zeroValue73
 t46:=Tryz.underlying195
 a46:=Tryz.isAgg195
 z46:=Tryz.sizeOf195
 v46:=Tryz.zeroValue195
 t51:=Tryz.underlying249
 a51:=Tryz.isAgg249
 z51:=Tryz.sizeOf249
 v51:=Tryz.zeroValue249
 t105:=Tryz.underlying208
 a105:=Tryz.isAgg208
 z105:=Tryz.sizeOf208
 v105:=Tryz.zeroValue208
 t119:=Tryz.underlying241
 a119:=Tryz.isAgg241
 z119:=Tryz.sizeOf241
 t138:=Tryz.underlying243
 a138:=Tryz.isAgg243
 z138:=Tryz.sizeOf243
 v138:=Tryz.zeroValue243
 t139:=Tryz.underlying244
 a139:=Tryz.isAgg244
 z139:=Tryz.sizeOf244
 v139:=Tryz.zeroValue244
 t146:=Tryz.underlying250
 a146:=Tryz.isAgg250
 z146:=Tryz.sizeOf250
 v146:=Tryz.zeroValue250
 g1:=by kernel_rfl
 g3:=by kernel_rfl
 g4:=by kernel_rfl}
def Tryz.lays146_ren:Go.Shelf.Ren:=⟨fun|146=>57|221=>66|268=>122|138=>123|143=>124|195=>181|197=>162|218=>182|219=>183|260=>195|217=>206|225=>207|224=>208|267=>209|266=>228|314=>229|n=>n,fun|9=>9|31=>73|3=>3|4=>4|0=>0|105=>208|21=>21|5=>5|46=>195|119=>241|139=>244|138=>243|146=>250|51=>249|n=>n,fun|1=>0|3=>1|4=>2|n=>n⟩
def Tryz.lays146:Go.Proofs.Lays.n146 Tryz.prog Tryz.lays146_ren:={
 mixed:=by kernel_rfl
 f138:=bK Tryz.func123
 f143:=bK Tryz.func124
 f146:=bK Tryz.func57
 f195:=bK Tryz.func181
 f197:=bK Tryz.func162
 f217:=bK Tryz.func206
 f218:=bK Tryz.func182
 f219:=bK Tryz.func183
 f221:=bK Tryz.func66
 f224:=bK Tryz.func208
 f225:=bK Tryz.func207
 f260:=bK Tryz.func195
 f266:=bK Tryz.func228
 f267:=bK Tryz.func209
 f268:=bK Tryz.func122
 f314:=bK Tryz.func229
 t0:=Tryz.underlying0
 a0:=Tryz.isAgg0
 z0:=Tryz.sizeOf0
 v0:=Tryz.zeroValue0
 t3:=Tryz.underlying3
 a3:=Tryz.isAgg3
 z3:=Tryz.sizeOf3
 v3:=Tryz.zeroValue3
 t4:=Tryz.underlying4
 a4:=Tryz.isAgg4
 z4:=Tryz.sizeOf4
 v4:=Tryz.zeroValue4
 t5:=Tryz.underlying5
 a5:=Tryz.isAgg5
 z5:=Tryz.sizeOf5
 v5:=Tryz.zeroValue5
 t9:=Tryz.underlying9
 a9:=Tryz.isAgg9
 z9:=Tryz.sizeOf9
 v9:=Tryz.zeroValue9
 t21:=Tryz.underlying21
 a21:=Tryz.isAgg21
 z21:=Tryz.sizeOf21
 v21:=Tryz.zeroValue21
 t31:=Tryz.underlying73
 a31:=Tryz.isAgg73
 z31:=Tryz.sizeOf73
 v31:=Tryz.zeroValue73
 t46:=Tryz.underlying195
 a46:=Tryz.isAgg195
 z46:=Tryz.sizeOf195
 v46:=Tryz.zeroValue195
 t51:=Tryz.underlying249
 a51:=Tryz.isAgg249
 z51:=Tryz.sizeOf249
 v51:=Tryz.zeroValue249
 t105:=Tryz.underlying208
 a105:=Tryz.isAgg208
 z105:=Tryz.sizeOf208
 v105:=Tryz.zeroValue208
 t119:=Tryz.underlying241
 a119:=Tryz.isAgg241
 z119:=Tryz.sizeOf241
 t138:=Tryz.underlying243
 a138:=Tryz.isAgg243
 z138:=Tryz.sizeOf243
 v138:=Tryz.zeroValue243
 t139:=Tryz.underlying244
 a139:=Tryz.isAgg244
 z139:=Tryz.sizeOf244
 v139:=Tryz.zeroValue244
 t146:=Tryz.underlying250
 a146:=Tryz.isAgg250
 z146:=Tryz.sizeOf250
 v146:=Tryz.zeroValue250
 g1:=by kernel_rfl
 g3:=by kernel_rfl
 g4:=by kernel_rfl}
open Go.RowKit Go.Lib in
theorem Tryz.strings_Split (s sep:ByteArray)(m:Int)(w:World)(hs:s.size<4294967281)(hm:w.cell? ⟨0,0,none⟩=some (.int .i64 m))(h1:1≤sep.size):
  Calls Tryz.prog 57 #[.string s,.string sep] w fun e w'=>
   e=.returned (.slice (some ⟨w.heap.size,0,none⟩) (Lib.countB s sep+1) (Lib.countB s sep+1))∧w'=w.alloc (.cells ((Lib.splitB sep 0 (Lib.countB s sep) s).map Value.string).toArray 9):=Any.strings_Split Tryz.lays146 (by kernel_rfl) s sep m w hs hm h1
def Tryz.lays147_ren:Go.Shelf.Ren:=⟨fun|147=>38|221=>66|268=>122|138=>123|143=>124|195=>181|197=>162|218=>182|219=>183|260=>195|217=>206|225=>207|224=>208|267=>209|266=>228|314=>229|n=>n,fun|9=>9|3=>3|31=>73|4=>4|0=>0|105=>208|21=>21|5=>5|46=>195|119=>241|139=>244|138=>243|146=>250|51=>249|n=>n,fun|1=>0|3=>1|4=>2|n=>n⟩
def Tryz.lays147:Go.Proofs.Lays.n147 Tryz.prog Tryz.lays147_ren:={
 mixed:=by kernel_rfl
 f138:=bK Tryz.func123
 f143:=bK Tryz.func124
 f147:=bK Tryz.func38
 f195:=bK Tryz.func181
 f197:=bK Tryz.func162
 f217:=bK Tryz.func206
 f218:=bK Tryz.func182
 f219:=bK Tryz.func183
 f221:=bK Tryz.func66
 f224:=bK Tryz.func208
 f225:=bK Tryz.func207
 f260:=bK Tryz.func195
 f266:=bK Tryz.func228
 f267:=bK Tryz.func209
 f268:=bK Tryz.func122
 f314:=bK Tryz.func229
 t0:=Tryz.underlying0
 a0:=Tryz.isAgg0
 z0:=Tryz.sizeOf0
 v0:=Tryz.zeroValue0
 t3:=Tryz.underlying3
 a3:=Tryz.isAgg3
 z3:=Tryz.sizeOf3
 v3:=Tryz.zeroValue3
 t4:=Tryz.underlying4
 a4:=Tryz.isAgg4
 z4:=Tryz.sizeOf4
 v4:=Tryz.zeroValue4
 t5:=Tryz.underlying5
 a5:=Tryz.isAgg5
 z5:=Tryz.sizeOf5
 v5:=Tryz.zeroValue5
 t9:=Tryz.underlying9
 a9:=Tryz.isAgg9
 z9:=Tryz.sizeOf9
 v9:=Tryz.zeroValue9
 t21:=Tryz.underlying21
 a21:=Tryz.isAgg21
 z21:=Tryz.sizeOf21
 v21:=Tryz.zeroValue21
 t31:=Tryz.underlying73
 a31:=Tryz.isAgg73
 z31:=Tryz.sizeOf73
 v31:=Tryz.zeroValue73
 t46:=Tryz.underlying195
 a46:=Tryz.isAgg195
 z46:=Tryz.sizeOf195
 v46:=Tryz.zeroValue195
 t51:=Tryz.underlying249
 a51:=Tryz.isAgg249
 z51:=Tryz.sizeOf249
 v51:=Tryz.zeroValue249
 t105:=Tryz.underlying208
 a105:=Tryz.isAgg208
 z105:=Tryz.sizeOf208
 v105:=Tryz.zeroValue208
 t119:=Tryz.underlying241
 a119:=Tryz.isAgg241
 z119:=Tryz.sizeOf241
 t138:=Tryz.underlying243
 a138:=Tryz.isAgg243
 z138:=Tryz.sizeOf243
 v138:=Tryz.zeroValue243
 t139:=Tryz.underlying244
 a139:=Tryz.isAgg244
 z139:=Tryz.sizeOf244
 v139:=Tryz.zeroValue244
 t146:=Tryz.underlying250
 a146:=Tryz.isAgg250
 z146:=Tryz.sizeOf250
 v146:=Tryz.zeroValue250
 g1:=by kernel_rfl
 g3:=by kernel_rfl
 g4:=by kernel_rfl}
open Go.RowKit Go.Lib in
theorem Tryz.strings_SplitN (s sep:ByteArray)(n:Nat)(m:Int)(w:World)(hs:s.size<4294967281)(hm:w.cell? ⟨0,0,none⟩=some (.int .i64 m))(h1:1≤sep.size)(hn:1≤n)(hn63:n≤9223372036854775807):
  Calls Tryz.prog 38 #[.string s,.string sep,.int .i64 n] w fun e w'=>
   e=.returned (.slice (some ⟨w.heap.size,0,none⟩) (Lib.splitB sep 0 (min n (s.size+1) -1) s).length (min n (s.size+1)))∧w'=w.alloc (.cells (Lib.cellsOf (Lib.splitB sep 0 (min n (s.size+1) -1) s) (min n (s.size+1))) 9):=Any.strings_SplitN Tryz.lays147 (by kernel_rfl) s sep n m w hs hm h1 hn hn63
def Tryz.laysNm216_ren:Go.Shelf.Ren:=⟨fun|16=>131|n=>n,fun|24=>73|9=>9|4=>4|n=>n,fun|n=>n⟩
def Tryz.laysNm216:Go.Proofs.Lays2.n16 Tryz.prog Tryz.laysNm216_ren:={
 mixed:=by kernel_rfl
 f16:=bK Tryz.func131
 t4:=Tryz.underlying4
 a4:=Tryz.isAgg4
 z4:=Tryz.sizeOf4
 v4:=Tryz.zeroValue4
 t9:=Tryz.underlying9
 a9:=Tryz.isAgg9
 z9:=Tryz.sizeOf9
 v9:=Tryz.zeroValue9
 t24:=Tryz.underlying73
 a24:=Tryz.isAgg73
 z24:=Tryz.sizeOf73
 v24:=Tryz.zeroValue73
 i9:=by kernel_rfl}
open Go.RowKit Go.Lib in
theorem Tryz.slices_Clone_string (b off n c:Nat)(zs:List ByteArray)(w:World)(hz:n≤zs.length)(hbig:n*16≤140737488355328)(hc:∀j,j<zs.length→w.cell? ⟨b,off+j,none⟩=some (.string (zs.getD j ByteArray.empty))):
  Calls Tryz.prog 131 #[.slice (some ⟨b,off,none⟩) n c] w fun e w'=>∃v',e=.returned v'∧w'.ownsRow w.heap.size 9 1 v' n ((zs.take n).map (Value.string))∧v'≠.slice none 0 0∧Below w.heap.size w w':=Any.slices_Clone_string Tryz.laysNm216 b off n c zs w hz hbig hc
open Go.RowKit Go.Lib in
theorem Tryz.slices_Clone_string_nil (n c:Nat)(w:World):
  Calls Tryz.prog 131 #[.slice none n c] w fun e w'=>e=.returned (.slice none 0 0)∧w'=w:=Any.slices_Clone_string_nil Tryz.laysNm216 n c w
open Go.RowKit Go.Lib in
theorem Tryz.slices_Clone_string_zero (a:Addr)(c:Nat)(w:World):
  Calls Tryz.prog 131 #[.slice (some a) 0 c] w fun e w'=>∃v',e=.returned v'∧w'.ownsRow w.heap.size 9 1 v' 0 []∧v'≠.slice none 0 0∧Below w.heap.size w w':=Any.slices_Clone_string_zero Tryz.laysNm216 a c w
end Go.Proofs
end
namespace Go.Abs
variable {Y:Ctx}(hm:(Y.at 0).cQ)
def HA {s:ak}(h:s.findIdx? (fun c=>c==10)=none):hH s=[s]:=by
 have hs:ai s 10=[s]:=by have:=m9 10 s [] h;simpa[ai]using this
 unfold hH Om vT;rw[hs];rfl
def J7 {s:ak}{j:Nat}(h:s.findIdx? (fun c=>c==10)=some j):hH s=s.take (j+1)::hH (s.drop (j+1)):=by
 have hs:ai s 10=s.take j::ai (s.drop (j+1)) 10:=by have:=lQ 10 s [] j h;simpa[ai]using this
 obtain⟨h1,h2,_⟩:=List.findIdx?_eq_some_iff_getElem.1 h;have ht:s.take (j+1)=s.take j++[10]:=by
  rw[List.take_add_one,List.getElem?_eq_getElem h1]
  grind
 obtain⟨A,b,hb⟩:∃A b,ai (s.drop (j+1)) 10=A++[b]:=⟨_,_,(List.dropLast_concat_getLast (m8 _ _)).symm⟩
 grind [hH]
def Iy:∀(k:Nat) (s:ByteArray),Lib.countB s ⟨⟨[10]⟩⟩=k->(Lib.splitB ⟨⟨[10]⟩⟩ 1 k s).map (fun t=>t.data.toList)=hH s.data.toList:=by
 intro k;induction k with
 |zero=>
  intro s h;rw[Lib.splitB_zero];have hi:Lib.indexB s ⟨⟨[10]⟩⟩=Lp (s.data.toList.findIdx? (fun c=>c==10)):=oD _ 10;cases hq:s.data.toList.findIdx? (fun c=>c==10)with
  |none=>rw[HA hq];rfl
  |some j=>
   rw[hq]at hi;have:=Lib.countB_hit s ⟨⟨[10]⟩⟩ j (aF 1) hi;omega
 |succ k ih=>
  intro s h;have hi:Lib.indexB s ⟨⟨[10]⟩⟩=Lp (s.data.toList.findIdx? (fun c=>c==10)):=oD _ 10;cases hq:s.data.toList.findIdx? (fun c=>c==10)with
  |none=>
   rw[hq]at hi;have:=Lib.countB_miss s ⟨⟨[10]⟩⟩ hi;omega
  |some j=>
   rw[hq]at hi;have hc:=Lib.countB_hit s ⟨⟨[10]⟩⟩ j (aF 1) hi;have hl:(⟨⟨[10]⟩⟩:ByteArray).size=1:=rfl;rw[Lib.splitB_hit _ _ _ _ j hi,List.map_cons,ih _ ae,J7 hq,Lib.extract_from_zero,Lib.extract_to_end];rfl
def Nc (s:ak):(hH s).length<=s.length+1/\∀t∈hH s,t.length<=s.length+1:=by
 have hl:=dE s 10;have hp:=fm 10 s [];refine⟨?_,fun t h1=>?_⟩
 .unfold hH
  grind
 .unfold hH at h1;rcases List.mem_append.1 h1 with h2|h2
  .obtain⟨u,hu,rfl⟩:=eW.1 h2;have:=dm s 10 (lU hu);simp;omega
  grind [ra,ai]
def HX (s:ak):(Lib.trimSuffix s [10],Lib.hasSuffix s [10])=eg s:=by
 unfold Lib.trimSuffix Lib.hasSuffix eg;cases hq:s.getLast? with
 |none=>
  grind
 |some c=>
  obtain⟨r,rfl⟩:∃r,s=r++[c]:=by
   have hne:s≠[]:=by rintro rfl;cases hq
   refine⟨s.dropLast, ?_⟩;have:=List.dropLast_concat_getLast hne
   grind
  have e:([10]:ak).isSuffixOf (r++[c])=decide (c=10):=by
   rw[Bool.eq_iff_iff,List.isSuffixOf_iff_suffix,a8];constructor
   .rintro⟨q,hq⟩
    grind
   .rintro rfl;exact⟨r,rfl⟩
  rw[e];by_cases h:c=10
  .subst h;simp
  .simp[h]
section
open Go.Proofs Go.Shelf Go.RowKit
section
variable [cP] {P:Program}
def kG (U:TypeId)(w:World)(v:Value)(s:List UInt8):Prop:=
 (v=.slice none 0 0/\s=[])\/∃g t c,v=.slice (some ⟨g,0,none⟩) s.length t/\w.heap[g]? =some (.cells c U (0,0))/\c.size=t/\t<=maxLen/\s.length<=t/\∀i,i<s.length->c.getD i undef=.int .u8 (s.getD i 0).toNat
def fM (s:List UInt8):List Value:=s.map fun b=>Value.int .u8 b.toNat
def gP (s:List UInt8):(fM s).length=s.length:=by simp[fM]
theorem qw (s:List UInt8)(i:Nat)(h:i<s.length):(fM s).getD i undef=.int .u8 (s.getD i 0).toNat:=by simp[fM,List.getD,h]
def vt (s:List UInt8):∀u∈fM s,u.oneCell'=true:=by
 intro u hu;obtain⟨b,_,rfl⟩:=eW.1 hu;rfl
def Et {x y:List UInt8}{zs:Array Value}(i:Nat)(hi:i<(x++y).length):(((fM x++fM y).toArray++zs).getD i undef)=.int .u8 ((x++y).getD i 0).toNat:=by
 rw[<-bJ]
 grind [cG,fM,qw]
def LU {U t u ty:TypeId}{i:TypeInfo}{w:World}(ht:P.underlying t=some (.slice U))(hi:P.info? U=some i)(hz:i.zero=some (.int .u8 0))(hs:i.size=1)(hby:i.bytes=1){v xv:Value}{s s2:List UInt8}
  (hv:kG U w v s) (h0:s2≠[]) (hsrc:Go.Src P 1 u xv s2.length (fM s2) w) (hle:s.length+s2.length<=1099511627776):
  ∃g' t' w',(Builtin.append_ #[t,u] ty #[v,xv]).run P w=.ok (.slice (some ⟨g',0,none⟩) (s++s2).length t') w'/\kG U w' (.slice (some ⟨g',0,none⟩) (s++s2).length t') (s++s2)/\w.grownBy w' v.ownBlock/\(v.ownBlock=some g'\/w.heap.size<=g')/\g'<w'.heap.size:=by
 have hp:0<s2.length:=List.length_pos_iff.2 h0;have hm:maxLen=9223372036854775807:=rfl;rw[<-hs]at hsrc;rcases hv with⟨rfl,rfl⟩|⟨g,cap,c,rfl,hg,hcs,hcm,hle2,hc⟩
 .have hr:=run_append_grow_src (P:=P) w t u ty U i _ ht hi hz none 0 0 [] (by simp[Builtin.firstCells,loadCells,loadCellsFrom]) xv s2.length (fM s2) hsrc ae (by simp only[aO]at hle;omega) (by rw[hby];exact growslice_fits ae (by simp only[aO]at hle;omega));have hge:=grownCap_ge w (0+s2.length) 0 U;have hcm2:grownCap w (0+s2.length) 0 U<=maxLen:=grownCap_le_maxLen w (0+s2.length) 0 U (by simp only[aO]at hle;omega);simp only[bD,eN]at hr hge hcm2;refine⟨w.heap.size,_,_,hr,.inr ⟨w.heap.size,_,_,rfl,dh w.drew _, ?_,hcm2,hge,fun j hj=>?_⟩,⟨rfl,rfl,rfl, ?_,fun k hk _=>fk w.drew _ k hk⟩,.inr (aF _), ?_⟩
  .have hz1:(Value.int IntKind.u8 0).cells.size=1:=rfl;simp only[eN,Array.size_append,List.size_toArray,gP,size_zeroCells,hz1];omega
  .exact Et (x:=[]) j hj
  .show w.heap.size<=(w.drew.heap.push _).size;rw[Array.size_push];exact Nat.le_succ _
  .show w.heap.size<(w.drew.heap.push _).size;rw[Array.size_push];exact Nat.lt_succ_self _
 .by_cases hroom:s.length+s2.length<=cap
  .have hr:=run_append_room_src (P:=P) w t u ty U i ht hi g 0 s.length cap xv s2.length (fM s2) hsrc hroom (fun j hj=>by
    rw[hs,cell_of_heap hg (by rw[gP]at hj;omega)];rfl) (fun j hj=>by simp[World.frozen?,hg])
   obtain⟨c',s1,s3,s4⟩:=jW g (fM s2) (0+s.length*i.size) w c U (0,0) hg (by rw[gP,hs];omega);obtain⟨f1,f2,f3,f4⟩:=jk g (fM s2) (0+s.length*i.size) w;have hlt:g<w.heap.size:=by
    rcases fH g w.heap.size with h|h
    .exact h
    .simp[Array.getElem?_eq_none h]at hg
   refine⟨g,cap,_,by simpa using hr,.inr ⟨g,cap,c',aJ,s1,ae,hcm,by rw[bA];exact hroom,fun j hj=>?_⟩,⟨f1,f2,f3,ae,fun k _ hk=>jl g _ _ _ k (fun e=>hk (by simp[Value.ownBlock,e]))⟩,.inl rfl,ae⟩;rw[s4,gP,hs];rw[bA]at hj;by_cases hj2:j<s.length
   .rw[aj ae,hc j hj2,cG,aw hj2]
   .rw[aw ae,qw _ _ ae,cG,aj hj2];congr 4;omega
  .have hold:(Builtin.firstCells i.size s.length (.slice (some ⟨g,0,none⟩) s.length cap)).run P w.drew=.ok (fM s).toArray w.drew:=by
    refine run_firstCells_some w.drew i.size s.length _ s.length cap _ (by simp[gP,hs]) (fun j u' hj=>?_);have hj2:j<s.length:=by
     have:=(List.getElem?_eq_some_iff.1 hj).1;rwa [gP]at this
    have hg':w.drew.heap[g]? =some (.cells c U (0,0)):=hg;rw[Addr.tX,cell_of_heap hg' ae,bD,hc j hj2,<-qw s j hj2];simp[List.getD,hj]
   have hr:=run_append_grow_src (P:=P) w t u ty U i _ ht hi hz (some ⟨g,0,none⟩) s.length cap (fM s) hold xv s2.length (fM s2) hsrc ae ae (by rw[hby];exact growslice_fits ae ae);have hge:=grownCap_ge w (s.length+s2.length) cap U;have hcm2:grownCap w (s.length+s2.length) cap U<=maxLen:=grownCap_le_maxLen w (s.length+s2.length) cap U ae;refine⟨w.heap.size,_,_,by simpa using hr,.inr ⟨w.heap.size,_,_,aJ,dh w.drew _, ?_,hcm2,by simpa using hge,fun j hj=>?_⟩,⟨rfl,rfl,rfl, ?_,fun k hk _=>fk w.drew _ k hk⟩,.inr (aF _), ?_⟩
   .have hz1:(Value.int IntKind.u8 0).cells.size=1:=rfl;simp only[Array.size_append,List.size_toArray,bA,gP,size_zeroCells,hz1];omega
   .exact Et j hj
   .show w.heap.size<=(w.drew.heap.push _).size;rw[Array.size_push];exact Nat.le_succ _
   .show w.heap.size<(w.drew.heap.push _).size;rw[Array.size_push];exact Nat.lt_succ_self _
def w9 {ops:Array Oper}{rest:List Oper}{o:Oper}{a:Act}{Q:Exit->Act->World->Prop}(hgd:o.guard=none)(sl x:Operand)(t u:TypeId)
  (ho:o.op=.call {callee:=.builtin .append,args:=#[sl,x],argTypes:=#[t,u]}) {U:TypeId} {i:TypeInfo} {w:World}
  (ht:P.underlying t=some (.slice U)) (hi:P.info? U=some i) (hz:i.zero=some (.int .u8 0)) (hsz:i.size=1) (hby:i.bytes=1) {v xv:Value} {s s2:List UInt8} (hs:a.eval sl=v) (hx:a.eval x=xv)
  (hv:kG U w v s) (h0:s2≠[]) (hsrc:Go.Src P 1 u xv s2.length (fM s2) w) (hle:s.length+s2.length<=1099511627776)
  (h:∀g' t' w',kG U w' (.slice (some ⟨g',0,none⟩) (s++s2).length t') (s++s2)->w.grownBy w' v.ownBlock->(v.ownBlock=some g'\/w.heap.size<=g')->g'<w'.heap.size->wpList P ops Q rest (a.put o.dst (.slice (some ⟨g',0,none⟩) (s++s2).length t')) w'):wpList P ops Q (o::rest) a w:=by
 refine wpList_plain hgd fun K hK=>?_
 obtain⟨g',t',w',hr,h2,h3,h4,h5⟩:=LU (P:=P) (ty:=o.type) ht hi hz hsz hby hv h0 hsrc hle;unfold Oper.wp execOp;simp only[ho,resolve,invoke,builtin,Sem.run_bind,Sem.run_pure,Result.andThen_ok,List.map_toArray,List.map_cons,List.map_nil,hs,hx,hr];exact hK _ _ (h g' t' w' h2 h3 h4 h5)
def CT (w:World)(g n:Nat):(w.drew.freeze ⟨g,0,none⟩ n).os=w.os/\(w.drew.freeze ⟨g,0,none⟩ n).tape=w.tape/\(w.drew.freeze ⟨g,0,none⟩ n).output=w.output/\(w.drew.freeze ⟨g,0,none⟩ n).heap.size=w.heap.size/\∀k,k≠g->(w.drew.freeze ⟨g,0,none⟩ n).heap[k]? =w.heap[k]? :=by
 unfold World.freeze;split
 .exact⟨rfl,rfl,rfl,rfl,fun _ _=>rfl⟩
 .refine⟨rfl,rfl,rfl,aJ,fun k hk=>?_⟩;simp only[Array.getElem?_modify];rw[aj (fun e=>hk e.symm)];rfl
def p0 (b:Nat)(u:Bool)(v:Value)(T:TypeId):Obj:=.cells #[.pointer (if u=true then some ⟨b,0,none⟩else none),v] T (0,0)
variable {J:Ren}
def xP (L:Lays.n240 P J)(X:Builder.X72 P J){b:Nat}{u:Bool}{v:Value}{w:World}(h:w.heap[b]? =some (p0 b u v (J.t 72))):
  Calls P (J.f 240) #[.pointer (some ⟨b,0,none⟩)] w fun e w'=>e=.returned (.tuple #[])/\w'.heap[b]? =some (p0 b true v (J.t 72))/\w.grownBy w' (some b):=by
 unfold p0 at h;cases u with
 |true=>
  refine(Any.Builder_copyCheck_used L X b w (by rw[Lib.cell_of_heap h];rfl)).mono ?_;rintro e w' ⟨rfl,rfl⟩;exact⟨rfl,h,⟨rfl,rfl,rfl,aF _,fun _ _ _=>rfl⟩⟩
 |false=>
  refine(Any.Builder_copyCheck_fresh L X b w (by rw[Lib.cell_of_heap h];rfl) (by simp[World.shape?,h]) (Lib.frozen_of_heap h 0)).mono ?_;rintro e w' ⟨rfl,rfl⟩;exact⟨rfl,by simp[World.setCell,Array.getElem?_modify,h,p0],⟨rfl,rfl,rfl,by simp[World.setCell],fun k _ hk=>Below.heap_setCell _ _ _ _ (fun e=>hk (by simp[e]))⟩⟩
def At (T U:TypeId)(b:Nat)(g:Option Nat)(s:List UInt8)(w w':World):Prop:=
 ∃g' t',w'.heap[b]? =some (p0 b true (.slice (some ⟨g',0,none⟩) s.length t') T)/\kG U w' (.slice (some ⟨g',0,none⟩) s.length t') s/\(g=some g'\/w.heap.size<=g')/\g'<w'.heap.size/\g'≠b/\
  w'.os=w.os/\w'.tape=w.tape/\w'.output=w.output/\w.heap.size<=w'.heap.size/\∀k,k<w.heap.size->k≠b->some k≠g->w'.heap[k]? =w.heap[k]?
def kG.lE {U:TypeId}{w w':World}{v:Value}{s:List UInt8}(h:kG U w v s)(hk:∀g,v.ownBlock=some g->w'.heap[g]? =w.heap[g]?):kG U w' v s:=by
 rcases h with h|⟨g,t,c,rfl,hg,r⟩
 .exact .inl h
 .exact .inr ⟨g,t,c,rfl,(hk g rfl).trans hg,r⟩
def kG.lt {U:TypeId}{w:World}{v:Value}{s:List UInt8}(h:kG U w v s){g:Nat}(hg:v.ownBlock=some g):g<w.heap.size/\∃c,w.heap[g]? =some (.cells c U (0,0)):=by
 rcases h with⟨rfl,_⟩|⟨g',t,c,rfl,hg',r⟩
 .cases hg
 .simp only[Value.ownBlock,aL]at hg
  grind
set_option maxHeartbeats 2000000 in
set_option maxRecDepth 100000 in
theorem tZ (L:Lays.n166 P J)(X:Builder.Extra P J){b:Nat}{u:Bool}{v:Value}{s s2:List UInt8}{w:World}(h:w.heap[b]? =some (p0 b u v (J.t 72)))(hv:kG (J.t 5) w v s)(h0:s2≠[])(hm2:s2.length<=maxLen)(hle:s.length+s2.length<=1099511627776):
  Calls P (J.f 166) #[.pointer (some ⟨b,0,none⟩),.string ⟨⟨s2⟩⟩] w fun e w'=>(∃r,e=.returned r)/\At (J.t 72) (J.t 5) b v.ownBlock (s++s2) w w':=by
 obtain⟨i0,hi,hz0,hz1,hz2⟩:=info_parts X.infoByte;have mixed:=L.mixed;have t72:=L.t72;have a72:=L.a72;have z72:=L.z72;have v72:=L.v72;have u72:=run_underlying L.t72;have t70:=L.t70;have a70:=L.a70;have z70:=L.z70;have v70:=L.v70;have u70:=run_underlying L.t70;have t37:=L.t37;have a37:=L.a37;have z37:=L.z37;have v37:=L.v37;have u37:=run_underlying L.t37;have t3:=L.t3;have a3:=L.a3;have z3:=L.z3;have v3:=L.v3;have u3:=run_underlying L.t3;have t9:=L.t9;have a9:=L.a9;have z9:=L.z9;have v9:=L.v9;have u9:=run_underlying L.t9;have t4:=L.t4;have a4:=L.a4;have z4:=L.z4;have v4:=L.v4;have u4:=run_underlying L.t4;have t164:=L.t164;have a164:=L.a164;have z164:=L.z164;have v164:=L.v164;have u164:=run_underlying L.t164;have t5:=X.t5;have a5:=X.a5;have z5:=X.z5;have v5:=X.v5;have u5:=run_underlying X.t5;have e240:∀args w,(callFunc (J.f 240) args).run P w=.ok (.enter (J.f 240) args) w:=enters_of L.f240 jt rfl
 have hne:∀g,v.ownBlock=some g->g≠b:=by
  rintro g hg rfl;obtain⟨_,c,hc⟩:=hv.lt hg;rw[h]at hc;simp only[p0,aL,Obj.cells.injEq]at hc;exact X.neB5 hc.2.1
 go_enter L.f166,Body.n166_ntmps J
 go_wp2_with (go_at_fn (J.f 240);refine(xP {L with} X.toX72 h).mono ?_)
 rintro e w1 ⟨rfl,h1,hb1⟩;have hv1:kG (J.t 5) w1 v s:=hv.lE fun g hg=>hb1.block g (hv.lt hg).1 (fun e=>hne g hg (br e))
 have c0:w1.cell? ⟨b,0,none⟩=some (.pointer (some ⟨b,0,none⟩)):=by rw[Lib.cell_of_heap h1];rfl
 have c1:w1.cell? ⟨b,1,none⟩=some v:=by rw[Lib.cell_of_heap h1];rfl
 have hsrc:Go.Src P 1 (J.t 9) (.string ⟨⟨s2⟩⟩) s2.length (fM s2) w1:=⟨.inr L.t9,fun _=>rfl,firstCells_string _ _,firstCells_string _ _,by rw[gP,Nat.mul_one],vt s2⟩;have key:=fun ops rest o a Q hgd ho hs hx h=>w9 (P:=P) (ops:=ops) (rest:=rest) (o:=o) (a:=a) (Q:=Q) hgd (.tmp 12) (.tmp 13) (J.t 37) (J.t 9) ho L.t37 hi hz0 hz1 hz2 (v:=v) (xv:=.string ⟨⟨s2⟩⟩) hs hx hv1 h0 hsrc hle h
 go_wp2_with (at_builtin;refine key _ _ _ _ _ rfl rfl rfl rfl ?_)
 clear key;intro g' t' w2 hown' hgrow hg' hlt';have hlt:b<w1.heap.size:=by
  rcases fH b w1.heap.size with h'|h'
  .exact h'
  .simp[Array.getElem?_eq_none h']at h1
 have iZ:w2.heap[b]? =some (p0 b true v (J.t 72)):=by
  rw[hgrow.block b hlt (fun e=>hne b e.symm rfl)];exact h1
 have hgb:g'≠b:=by
  rcases hg' with h'|h'
  .exact hne g' h'
  .omega
 have d0:w2.cell? ⟨b,0,none⟩=some (.pointer (some ⟨b,0,none⟩)):=by rw[Lib.cell_of_heap iZ];rfl
 have d1:w2.cell? ⟨b,1,none⟩=some v:=by rw[Lib.cell_of_heap iZ];rfl
 have f1:w2.frozen? ⟨b,1,none⟩=false:=Lib.frozen_of_heap iZ 1
 go_wp2
 go_ret2
 have hsz:=hb1.size;refine⟨⟨_,rfl⟩, ?_⟩;unfold At;simp only[bA]at hown'⊢;refine⟨g',t',by simp[World.setCell,Array.getElem?_modify,iZ,p0],hown'.lE fun g hg=>Below.heap_setCell w2 ⟨b,1,none⟩ _ g (fun e=>hgb ((br hg).trans e)),hg'.imp id (fun h=>ae),by simpa[World.setCell]using hlt',hgb,hgrow.os.trans hb1.os,hgrow.tape.trans hb1.tape,hgrow.output.trans hb1.output,by have:=hgrow.size;simp[World.setCell];omega,fun k hk h1' h2'=>?_⟩;rw[Below.heap_setCell w2 ⟨b,1,none⟩ _ k h1',hgrow.block k ae h2',hb1.block k hk (fun e=>h1' (br e))]
set_option maxHeartbeats 2000000 in
set_option maxRecDepth 100000 in
theorem xg (L:Lays.n167 P J)(X:Builder.Extra P J){b:Nat}{u:Bool}{v:Value}{s:List UInt8}{c:UInt8}{w:World}(h:w.heap[b]? =some (p0 b u v (J.t 72)))(hv:kG (J.t 5) w v s)(hle:s.length+1<=1099511627776):
  Calls P (J.f 167) #[.pointer (some ⟨b,0,none⟩),.int .u8 c.toNat] w fun e w'=>(∃r,e=.returned r)/\At (J.t 72) (J.t 5) b v.ownBlock (s++[c]) w w':=by
 obtain⟨i0,hi,hz0,hz1,hz2⟩:=info_parts X.infoByte;have mixed:=L.mixed;have t72:=L.t72;have a72:=L.a72;have z72:=L.z72;have v72:=L.v72;have u72:=run_underlying L.t72;have t70:=L.t70;have a70:=L.a70;have z70:=L.z70;have v70:=L.v70;have u70:=run_underlying L.t70;have t37:=L.t37;have a37:=L.a37;have z37:=L.z37;have v37:=L.v37;have u37:=run_underlying L.t37;have t9:=L.t9;have a9:=L.a9;have z9:=L.z9;have v9:=L.v9;have u9:=run_underlying L.t9;have t4:=L.t4;have a4:=L.a4;have z4:=L.z4;have v4:=L.v4;have u4:=run_underlying L.t4;have t164:=L.t164;have a164:=L.a164;have z164:=L.z164;have v164:=L.v164;have u164:=run_underlying L.t164;have t5:=L.t5;have a5:=L.a5;have z5:=L.z5;have v5:=L.v5;have u5:=run_underlying L.t5;have e240:∀args w,(callFunc (J.f 240) args).run P w=.ok (.enter (J.f 240) args) w:=enters_of L.f240 jt rfl
 have hne:∀g,v.ownBlock=some g->g≠b:=by
  rintro g hg rfl;obtain⟨_,c,hc⟩:=hv.lt hg;rw[h]at hc;simp only[p0,aL,Obj.cells.injEq]at hc;exact X.neB5 hc.2.1
 go_enter L.f167,Body.n167_ntmps J
 go_wp2_with (go_at_fn (J.f 240);refine(xP {L with} X.toX72 h).mono ?_)
 rintro e w1 ⟨rfl,h1,hb1⟩;have hv1:kG (J.t 5) w1 v s:=hv.lE fun g hg=>hb1.block g (hv.lt hg).1 (fun e=>hne g hg (br e))
 have c0:w1.cell? ⟨b,0,none⟩=some (.pointer (some ⟨b,0,none⟩)):=by rw[Lib.cell_of_heap h1];rfl
 have c1:w1.cell? ⟨b,1,none⟩=some v:=by rw[Lib.cell_of_heap h1];rfl
 have key:=fun ob ops rest o a Q sl x hgd ho hs hx hv2 hsrc h=>w9 (P:=P) (w:=w1.alloc ob) (ops:=ops) (rest:=rest) (o:=o) (a:=a) (Q:=Q) hgd sl x (J.t 37) (J.t 37) ho L.t37 hi hz0 hz1 hz2 (v:=v) (xv:=.slice (some ⟨w1.heap.size,0,none⟩) 1 1) (s:=s) (s2:=[c]) hs hx hv2 (List.cons_ne_nil _ _) hsrc hle h
 go_wp2_with (at_builtin;refine key _ _ _ _ _ _ _ _ rfl rfl rfl rfl (hv1.lE fun g hg=>Lib.alloc_old w1 _ g (hv1.lt hg).1) ?hs ?_)
 case hs=>
  refine Go.Src.ofSlice _ L.t37 ⟨w1.heap.size,0,none⟩ 1 1 _ rfl (fun j u hj=>?_) (vt [c])
  match j,hj with
  |0,hj=>simp[fM]at hj;subst hj;simp[Addr.add]
 clear key;intro g' t' w2 hown' hgrow hg' hlt';have hlt:b<w1.heap.size:=by
  rcases fH b w1.heap.size with h'|h'
  .exact h'
  .simp[Array.getElem?_eq_none h']at h1
 have iZ:w2.heap[b]? =some (p0 b true v (J.t 72)):=by
  rw[hgrow.block b cX (fun e=>hne b e.symm rfl),Lib.alloc_old w1 _ b hlt];exact h1
 have hgb:g'≠b:=by
  rcases hg' with h'|h'
  .exact hne g' h'
  .omega
 have d0:w2.cell? ⟨b,0,none⟩=some (.pointer (some ⟨b,0,none⟩)):=by rw[Lib.cell_of_heap iZ];rfl
 have d1:w2.cell? ⟨b,1,none⟩=some v:=by rw[Lib.cell_of_heap iZ];rfl
 have f1:w2.frozen? ⟨b,1,none⟩=false:=Lib.frozen_of_heap iZ 1
 go_wp2
 go_ret
 have hsz:=hb1.size;refine⟨⟨_,rfl⟩, ?_⟩;unfold At;simp only[bA]at hown'⊢;refine⟨g',t',by simp[World.setCell,Array.getElem?_modify,iZ,p0],hown'.lE fun g hg=>Below.heap_setCell w2 ⟨b,1,none⟩ _ g (fun e=>hgb ((br hg).trans e)),hg'.imp id (fun h=>ae),by simpa[World.setCell]using hlt',hgb,hgrow.os.trans hb1.os,hgrow.tape.trans hb1.tape,hgrow.output.trans hb1.output,by have:=hgrow.size;simp at this;simp[World.setCell];omega,fun k hk h1' h2'=>?_⟩;rw[Below.heap_setCell w2 ⟨b,1,none⟩ _ k h1',hgrow.block k cX h2',Lib.alloc_old w1 _ k ae,hb1.block k hk (fun e=>h1' (br e))]
set_option maxHeartbeats 1000000 in
set_option maxRecDepth 100000 in
theorem CJ (L:Lays.n169 P J)(X:Builder.Extra P J){b g t:Nat}{u:Bool}{s:List UInt8}{w:World}(h:w.heap[b]? =some (p0 b u (.slice (some ⟨g,0,none⟩) s.length t) (J.t 72)))(hv:kG (J.t 5) w (.slice (some ⟨g,0,none⟩) s.length t) s)(h0:s≠[]):
  Calls P (J.f 169) #[.pointer (some ⟨b,0,none⟩)] w fun e w'=>e=.returned (.string ⟨⟨s⟩⟩)/\w'.os=w.os/\w'.tape=w.tape/\w'.output=w.output/\w'.heap.size=w.heap.size/\∀k,k≠g->w'.heap[k]? =w.heap[k]? :=by
 have hl0:s.length≠0:=by simpa using h0
 obtain⟨c,hg,hcs,hcm,hle,hc⟩:∃c,w.heap[g]? =some (.cells c (J.t 5) (0,0))/\c.size=t/\t<=maxLen/\s.length<=t/\∀i,i<s.length->c.getD i undef=.int .u8 (s.getD i 0).toNat:=by
  rcases hv with⟨h1,_⟩|⟨g',t',c,h1,r⟩
  .cases h1
  .simp only[Value.slice.injEq,aL,Addr.mk.injEq]at h1;obtain⟨⟨rfl,_⟩,_,rfl⟩:=h1;exact⟨c,r⟩
 have c1:w.drew.cell? ⟨b,1,none⟩=some (.slice (some ⟨g,0,none⟩) s.length t):=by
  have:w.drew.heap[b]? =some (p0 b u (.slice (some ⟨g,0,none⟩) s.length t) (J.t 72)):=h;rw[Lib.cell_of_heap this];rfl
 have hSD:(Builtin.unsafeSliceData_ #[(J.t 37)] (J.t 127) #[.slice (some ⟨g,0,none⟩) s.length t]).run P w.drew=.ok (.pointer (some ⟨g,0,none⟩)) w.drew:=
  Lib.run_unsafeSliceData_row _ _ _ _ _ _ ae
 have hUS:(Builtin.unsafeString_ #[(J.t 127),(J.t 3)] (J.t 9) #[.pointer (some ⟨g,0,none⟩),.int .i64 s.length]).run P w.drew=.ok (.string ⟨s.toArray⟩) (w.drew.freeze ⟨g,0,none⟩ s.length):=by
  refine Lib.run_unsafeString_row w.drew (J.t 127) (J.t 3) (J.t 9) (J.t 5) L.t127 X.cellsByte g c.size (by have hg':w.drew.heap[g]? =some (.cells c (J.t 5) (0,0)):=hg;simp[World.shape?,hg']) s h0 ae (by unfold maxLen at hcm;omega) ?_;intro j x hx;have hj:=(List.getElem?_eq_some_iff.1 hx).1;have hg':w.drew.heap[g]? =some (.cells c (J.t 5) (0,0)):=hg;rw[Addr.tX,cell_of_heap hg' ae,bD,hc j hj];simp[List.getD,hx]
 have mixed:=L.mixed;have t72:=L.t72;have a72:=L.a72;have z72:=L.z72;have v72:=L.v72;have u72:=run_underlying L.t72;have t70:=L.t70;have a70:=L.a70;have z70:=L.z70;have v70:=L.v70;have u70:=run_underlying L.t70;have t37:=L.t37;have a37:=L.a37;have z37:=L.z37;have v37:=L.v37;have u37:=run_underlying L.t37;have t127:=L.t127;have a127:=L.a127;have z127:=L.z127;have v127:=L.v127;have u127:=run_underlying L.t127;have t3:=L.t3;have a3:=L.a3;have z3:=L.z3;have v3:=L.v3;have u3:=run_underlying L.t3;have t9:=L.t9;have a9:=L.a9;have z9:=L.z9;have v9:=L.v9;have u9:=run_underlying L.t9;have t5:=X.t5;have a5:=X.a5;have z5:=X.z5;have v5:=X.v5;have u5:=run_underlying X.t5
 go_enter L.f169,Body.n169_ntmps J
 go_wp2
 go_region_o
 all_goals (go_wp2;go_ret;exact⟨rfl,CT _ _ _⟩)
end
end
end Go.Abs
