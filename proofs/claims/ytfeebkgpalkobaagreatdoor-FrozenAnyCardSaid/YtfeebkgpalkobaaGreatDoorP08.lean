/- A part of the proofs. -/
import Derived.KernelRfl
import Derived.Test.YtfeebkgpalkobaaGreatDoorProg
import Derived.Test.YtfeebkgpalkobaaGreatDoorP07
set_option linter.all false
set_option maxRecDepth 60000
set_option maxHeartbeats 2000000
namespace Go.Abs
section
def Cy (m:List (Nat×bL))(l k n:Nat):Bool:=match look m l with
 |some (.buf k' es)=>decide (k=k')&&decide (n<=es.length)
 |_=>false
theorem rH {m:List (Nat×bL)}{l k n:Nat}(h:Cy m l k n=true):eM m l k n:=by
 unfold Cy at h;unfold eM;split at h<;>simp_all
def eH {α:Type}(b:Bool)(a:Option α):Option α:=match b with|true=>a|false=>none
def dq {α:Type}{b:Bool}{a:Option α}{x:α}(h:eH b a=some x):b=true/\a=some x:=by cases b<;>simp_all[eH]
def HD {d e:D}(h:eH d.aZ (some d)=some e):d.aZ=true/\d=e:=⟨(dq h).1,bd (dq h).2⟩
def MV (f:D->Option D):List D->Option (List D)
 |[]=>some []
 |d::r=>match f d with
  |some e=>match MV f r with
   |some s=>some (e::s)
   |none=>none
  |none=>none
def U3 (m:List (Nat×bL))(pv:List Sh->D->Option D):Sh->D->Option D
 | .a,d=>match d with
  | .bM=>some (.sl 0 [])
  |d=>eH d.aZ (some d)
 | .sl k cs,d=>match d with
  | .bM=>some (.sl k [])
  | .own l k' i c=>eH (Cy m l k' (i+c)) ((MV (pv cs) (((bh m l).drop i).take c)).map (.sl k'))
  |d=>eH d.aZ (some d)
 | .pt cs,d=>match d with
  | .ptr l k i o=>eH (Cy m l k 0) ((MV (pv cs) (bh m l)).map fun es=>.ref k es i o)
  |d=>eH d.aZ (some d)
 | .kp _,_=>none
def Z2 (pc:Sh->D->Option D):List Sh->List D->Option (List D)
 |[],ds=>eH (aR ds) (some ds)
 |_::_,[]=>some []
 |s::r,d::ds=>match pc s d with
  |some e=>match Z2 pc r ds with
   |some es=>some (e::es)
   |none=>none
  |none=>none
def QB (m:List (Nat×bL)):Nat->List Sh->D->Option D
 |0,_,_=>none
 |n+1,ss,d=>match ss with
  |[]=>eH d.aZ (some d)
  |s::r=>match d with
   | .agg cs=>(Z2 (U3 m (QB m n)) (s::r) cs).map .agg
   |d=>U3 m (QB m n) s d
def U6 (m:List (Nat×bL)):List (List Sh)->List D->Option (List D)
 |_,[]=>some []
 |[],d::r=>match QB m 9 [.a] d with
  |some e=>match U6 m [] r with
   |some es=>some (e::es)
   |none=>none
  |none=>none
 |s::ss,d::r=>match QB m 9 s d with
  |some e=>match U6 m ss r with
   |some es=>some (e::es)
   |none=>none
  |none=>none
def Hw {P:D->Prop}{g f:D->_}(hf:∀d e,f d=some e->P d/\g d=e):∀{l r:List D},MV f l=some r->(∀d∈l,P d)/\l.map g=r:=by
 intro l;induction l<;>grind [MV]
section
variable {m:List (Nat×bL)}
def U4 {pv:List Sh->D->Option D}(hv:∀s d e,pv s d=some e->fM m s d/\il m s d=e){s:Sh}{d e:D}(h:U3 m pv s d=some e):gH m s d/\jF m s d=e:=by
 cases s with
 |a=>cases d<;>simp only[U3,gH,jF]at h⊢ <;>first|exact HD h|exact⟨rfl,bd h⟩
 |kp cs=>cases h
 |sl k cs=>
  cases d<;>simp only[U3,gH,jF]at h⊢
  case own l k' i c=>
   obtain⟨h1,h2⟩:=dq h;obtain⟨es,h3,rfl⟩:=cS.1 h2;obtain⟨h4,h5⟩:=Hw (hv cs) h3;exact⟨⟨rH h1,h4⟩,by rw[h5]⟩
  all_goals first|exact HD h|exact⟨rfl,bd h⟩
 |pt cs=>
  cases d<;>simp only[U3,gH,jF]at h⊢
  case ptr l k i o=>
   obtain⟨h1,h2⟩:=dq h;obtain⟨es,h3,rfl⟩:=cS.1 h2;obtain⟨h4,h5⟩:=Hw (hv cs) h3;exact⟨⟨rH h1,h4⟩,by rw[h5]⟩
  all_goals first|exact HD h|exact⟨rfl,bd h⟩
def U5 {pc:Sh->D->Option D}(hc:∀s d e,pc s d=some e->gH m s d/\jF m s d=e):∀{ss:List Sh}{ds es:List D},Z2 pc ss ds=some es->js m ss ds/\ll m ss ds=es:=by
 intro ss;induction ss with
 |nil=>intro ds es h;simp only[js,ll];exact⟨(dq h).1,bd (dq h).2⟩
 |cons s r ih=>
  intro ds es h;cases ds with
  |nil=>simp_all[Z2,js,ll]
  |cons d ds=>
   simp only[Z2]at h;simp only[js,ll]
   grind
theorem Nu:∀{n:Nat}{ss:List Sh}{d e:D},QB m n ss d=some e->fM m ss d/\il m ss d=e:=by
 intro n;induction n with
 |zero=>intro ss d e h;cases h
 |succ n ih=>
  intro ss d e h;have hc:∀s d e,U3 m (QB m n) s d=some e->gH m s d/\jF m s d=e:=fun s d e h=>U4 (fun s d e h=>ih h) h
  cases ss with
  |nil=>simp only[fM,il];exact HD h
  |cons s r=>
   cases d
   case agg cs=>
    simp only[QB]at h;obtain⟨es,h3,rfl⟩:=cS.1 h;have:=U5 hc h3;simp only[fM,il];exact⟨this.1,by rw[this.2]⟩
   all_goals simp only[QB]at h;simp only[fM,il];exact hc _ _ _ h
def Nt:∀{sh:List (List Sh)}{ds es:List D},U6 m sh ds=some es->iB m sh ds/\fV m sh ds=es:=by
 intro sh ds;induction ds generalizing sh with
 |nil=>intro es h;cases sh<;>simp_all[U6,iB,fV]
 |cons d r ih=>
  intro es h;cases sh<;>simp only[U6]at h<;>simp only[iB,fV]<;>grind [Nu]
end
def Hk (J:Src->bI)(len:Nat):List (Nat×Nat×Src)->Bool
 |[]=>true
 |(o,n,s)::r=>((J s).ok&&decide ((J s).d.cells.length=n))&&(decide (o+n<=len)&&Hk J len r)
def AW (J:Src->bI)(k n:Nat):List (Nat×Src)->Bool
 |[]=>true
 |(i,s)::r=>(decide (i<n)&&(J s).ok)&&(decide ((J s).d.cells.length=k)&&AW J k n r)
def Kj (J:Src->bI):List Src->Bool
 |[]=>true
 |s::r=>(J s).ok&&Kj J r
theorem Ml {J:Src->bI}{len:Nat}:∀{l:List (Nat×Nat×Src)},Hk J len l=true->tY J len l:=by
 intro l;induction l<;>grind [Hk,tY]
theorem JS {J:Src->bI}{k n:Nat}:∀{l:List (Nat×Src)},AW J k n l=true->mH J k n l:=by
 intro l;induction l<;>grind [AW,mH]
def Bu {J:Src->bI}:∀{l:List Src},Kj J l=true->sH J l:=by
 intro l;induction l<;>grind [Kj,sH]
def ldB (m:List (Nat×bL))(n:Nat):D->Bool
 | .ptr l k i o=>Cy m l k (i+1)&&decide (o+n<=k)
 | .ref k es i o=>decide (i<es.length)&&decide (o+n<=k)
 |_=>false
theorem MO {m:List (Nat×bL)}{n:Nat}{d:D}(h:ldB m n d=true):uN m n d:=by
 cases d<;>simp_all[ldB,uN]<;>exact rH h.1
def S9 (op:BinOp):D->D->Bool
 | .int k a,.int k' b=>match op with
  | .quo=>decide (k=k')&&decide (b≠0)
  | .rem=>decide (k=k')&&decide (b≠0)
  | .shl=>false
  | .shr=>false
  |_=>decide (k=k')
 | .str a,.str b=>match op with
  | .add=>decide (a.length+b.length<=9223372036854775807)
  | .eql=>true| .neq=>true| .lss=>true| .geq=>true| .leq=>true| .gtr=>true
  |_=>false
 |_,_=>false
theorem PE {op:BinOp}{a b:D}(h:S9 op a b=true):iu op a b:=by
 cases a<;>cases b<;>cases op<;>simp_all[S9,iu]
def Cx (o:Option D)(hi:Nat):Bool:=match o with
 |none=>true
 |some (.int _ n)=>decide (0<=n)&&decide (n<=hi)
 |_=>false
theorem PH {o:Option D}{hi:Nat}(h:Cx o hi=true):mS o hi:=by
 unfold Cx at h;unfold mS;split at h<;>simp_all
def Ki (J:Src->bI):Option Src->Bool
 |none=>true
 |some s=>(J s).ok
theorem Qs {J:Src->bI}{o:Option Src}(h:Ki J o=true):Kh J o:=by cases o<;>simp_all[Ki,Kh]
def T6 (m:List (Nat×bL))(k:Nat):D->Bool
 | .sl k' _=>decide (k'=k)
 | .own l k' i n=>decide (k'=k)&&Cy m l k (i+n)
 | .str _=>decide (k=1)
 | .bM=>true
 |_=>false
theorem PX {m:List (Nat×bL)}{k:Nat}{d:D}(h:T6 m k d=true):wP m k d:=by
 cases d<;>simp_all[T6,wP]<;>exact rH h.2
def Qq (J:Src->bI)(m:List (Nat×bL)):aG->Bool
 | .mv x=>(J x).ok
 | .pick c a b=>(J c).ok&&match(J c).d with
  | .bool true=>(J a).ok
  | .bool false=>(J b).ok
  |_=>false
 | .box k x=>(J x).ok&&decide ((J x).d.cells.length=k)
 | .build z ps=>Hk J z.length ps
 | .bsl k z n ps=>decide (z.cells.length=k)&&AW J k n ps
 | .ld n _ p=>(J p).ok&&ldB m n (J p).d
 | .st n p v=>((J p).ok&&(J v).ok)&&(decide ((J v).d.cells.length=n)&&match(J p).d with
  | .ptr l k i o=>Cy m l k (i+1)&&decide (o+n<=k)
  |_=>false)
 | .nilck x=>(J x).ok&&match(J x).d with| .ptr .. =>true| .ref .. =>true|_=>false
 | .bin op x y=>((J x).ok&&(J y).ok)&&S9 op (J x).d (J y).d
 | .un op x=>(J x).ok&&match op,(J x).d with
  | .not,.bool _=>true
  | .neg,.int _ _=>true
  |_,_=>false
 | .cvi _ x=>(J x).ok&&match(J x).d with| .int _ _=>true|_=>false
 | .mks k z ln cp=>((J ln).ok&&(J cp).ok)&&(decide (z.cells.length=k)&&match(J ln).d,(J cp).d with
  | .int _ n,.int _ c=>decide (0<=n)&&(decide (n<=c)&&decide (c<=1073741824))
  |_,_=>false)
 | .slS x lo hi=>((J x).ok&&Ki J lo)&&(Ki J hi&&match(J x).d with
  | .str s=>Cx (dO J hi) s.length&&Cx (dO J lo) (ek (dO J hi) s.length)
  |_=>false)
 | .slA k x lo hi=>((J x).ok&&Ki J lo)&&(Ki J hi&&match(J x).d with
  | .sl k' es=>decide (k'=k)&&(Cx (dO J hi) es.length&&Cx (dO J lo) (ek (dO J hi) es.length))
  | .own _ k' _ n=>decide (k'=k)&&(Cx (dO J hi) n&&Cx (dO J lo) (ek (dO J hi) n))
  |_=>false)
 | .slX k x hi mx=>((J x).ok&&(J hi).ok)&&((J mx).ok&&match(J hi).d,(J mx).d with
  | .int _ h,.int _ m=>decide (0<=h)&&(decide (h<=m)&&match(J x).d with
    | .sl k' es=>decide (k'=k)&&decide (m<=es.length)
    | .own _ k' _ n=>decide (k'=k)&&decide (m<=n)
    |_=>false)
  |_,_=>false)
 | .fa _ p=>(J p).ok&&match(J p).d with| .ptr .. =>true| .ref .. =>true|_=>false
 | .fld off n ag x=>(J x).ok&&match(J x).d with| .agg cs=>decide (off+n<=cs.length)&&(ag ||decide (n=1))|_=>false
 | .ia k x i=>((J x).ok&&(J i).ok)&&match(J x).d,(J i).d with
  | .sl k' es,.int _ n=>decide (k'=k)&&(decide (0<=n)&&decide (n<es.length))
  | .own _ k' _ c,.int _ n=>decide (k'=k)&&(decide (0<=n)&&decide (n<c))
  |_,_=>false
 | .iaP n _ x i=>((J x).ok&&(J i).ok)&&match(J x).d,(J i).d with
  | .ptr ..,.int _ c=>decide (0<=c)&&decide (c<n)
  | .ref ..,.int _ c=>decide (0<=c)&&decide (c<n)
  |_,_=>false
 | .ixS x i=>((J x).ok&&(J i).ok)&&match(J x).d,(J i).d with
  | .str s,.int _ n=>decide (0<=n)&&decide (n<s.length)
  |_,_=>false
 | .ixA n k ag x i=>((J x).ok&&(J i).ok)&&((ag ||decide (k=1))&&match(J x).d,(J i).d with
  | .agg cs,.int _ c=>decide (0<=c)&&(decide (c<n)&&decide (cs.length=n*k))
  |_,_=>false)
 | .ext x i=>(J x).ok&&match(J x).d with| .tup ds=>decide (i<ds.length)|_=>false
 | .len x=>(J x).ok&&match(J x).d with| .sl _ _=>true| .own .. =>true| .bM=>true|_=>false
 | .lenS x=>(J x).ok&&match(J x).d with| .str _=>true|_=>false
 | .app k x y=>((J x).ok&&(J y).ok)&&(T6 m k (J y).d&&match(J x).d with
  | .own l k' i n=>decide (k'=k)&&(Cy m l k (i+n)&&decide (n+(nO m (J y).d).length<=1073741824))
  | .bM=>decide ((nO m (J y).d).length<=1073741824)
  |_=>false)
 |_=>false
def Qr {Y:Ctx}{J:Src->bI}{m:List (Nat×bL)}{i:aG}(h:Qq J m i=true):i.dE Y J m:=by
 cases i<;>simp only[Qq,br,iG]at h;all_goals simp only[aG.dE]
 all_goals grind [Ml,JS,rH,MO,PE,PH,PX,Qs]
def aG.spec:aG->Bool
 | .callM .. | .callvM .. | .callL .. | .isNl .. =>true
 |_=>false
def CD:Ctx:=⟨fun _ _=>False,fun _ _=>.any,fun _ _ _ _=>False,fun _ _ _=>False,fun _ _ _=>.any,fun _ _ _=>.any,0⟩
def aG.lone:aG->Bool
 | .call .. | .callv .. | .callM .. | .callvM .. | .callL .. | .callF .. | .isNl .. | .invk .. =>false
 |_=>true
def OF {Y:Ctx}{J:Src->bI}{m:List (Nat×bL)}{L:Nat}{i:aG}(h:i.lone=true):i.val CD J m L=i.val Y J m L:=by
 cases i<;>first|rfl|cases h
def L3 {Y:Ctx}{J:Src->bI}{m:List (Nat×bL)}{L:Nat}{i:aG}(h:i.lone=true):i.cr CD J m L=i.cr Y J m L:=by
 cases i<;>first|rfl|cases h
def JV (vs:List bI)(i:aG):Option (Nat×Bool)->Bool
 |none=>true
 |some (j,_)=>i.calm&&(!(vs.getD j .un).ok ||(vs.getD j .un).d.isBool)
def A1 {vs:List bI}{i:aG}{g:Option (Nat×Bool)}(h:JV vs i g=true):ET vs i g:=by
 cases g<;>simp_all[JV,ET]<;>grind
def Hp (vs:List bI):Option (Nat×Bool)->Bool
 |none=>true
 |some (j,_)=>!(vs.getD j .un).ok ||(vs.getD j .un).d.isBool
def CU {vs:List bI}{g:Option (Nat×Bool)}(h:Hp vs g=true):uI vs g:=by
 cases g<;>simp_all[Hp,uI]<;>grind
abbrev EP:=Nat->List D->Option D
abbrev EM:=Nat->List D->St->Option (D×St)
abbrev EL:=AC->List bI->St->Option (Ex×List bI×St)
def Ch (p:EP)(q:EM):List GI->List bI->List bI->St->Option (List bI×St)
 |[],_,vs,st=>some (vs,{st with nx:=st.nx+vs.length})
 |⟨i,g⟩::r,env,vs,st=>match i with
  | .callM f args=>eH (Hp vs g) (match flag vs g with
   |true=>eH (Kj (Src.ev env vs) args) (match q f (gV (Src.ev env vs) args) {st with nx:=st.nx+vs.length}with
    |some (d,st')=>eH (decide (st.nx+vs.length<=st'.nx)) (Ch p q r env (vs++[⟨true,d⟩]) {st' with nx:=st'.nx-vs.length})
    |none=>none)
   |false=>Ch p q r env (vs++[⟨false,.any⟩]) st)
  | .callvM f args=>eH (Hp vs g) (match flag vs g with
   |true=>match Src.ev env vs f with
    |⟨true,.fn n caps⟩=>eH (decide (n<2000000)&&Kj (Src.ev env vs) args) (match q (Fa n) (E9 n (gV (Src.ev env vs) args) caps) {st with nx:=st.nx+vs.length}with
     |some (d,st')=>eH (decide (st.nx+vs.length<=st'.nx)) (Ch p q r env (vs++[⟨true,d⟩]) {st' with nx:=st'.nx-vs.length})
     |none=>none)
    |_=>none
   |false=>Ch p q r env (vs++[⟨false,.any⟩]) st)
  | .call f args sh=>eH (JV vs i g) (match flag vs g with
   |true=>eH (Kj (Src.ev env vs) args) (match U6 st.m sh (gV (Src.ev env vs) args)with
    |some ds=>match p f ds with
     |some d=>eH (nJ (gV (Src.ev env vs) args) d) (Ch p q r env (vs++[⟨true,d⟩]) st)
     |none=>none
    |none=>none)
   |false=>Ch p q r env (vs++[⟨false,.any⟩]) st)
  |i=>eH (i.lone&&JV vs i g) (match flag vs g with
   |true=>eH (Qq (Src.ev env vs) st.m i) (Ch p q r env (vs++[⟨true,i.val CD (Src.ev env vs) st.m (st.nx+vs.length)⟩]) {st with m:=i.cr CD (Src.ev env vs) st.m (st.nx+vs.length)})
   |false=>Ch p q r env (vs++[⟨false,.any⟩]) {st with m:=i.cr CD (Src.ev env vs) st.m (st.nx+vs.length)})
def O1 (Y:Ctx)(p:EP):Prop:=∀f ds d,p f ds=some d->Y.pre f ds/\Y.val f ds=d
def okQ (Y:Ctx)(q:EM):Prop:=∀f ds st d st',q f ds st=some (d,st')->∀K:D->St->Prop,K d st'->Y.tr f ds st K
def Ua {Y:Ctx}{p:EP}{q:EM}(hp:O1 Y p)(hq:okQ Y q){draw:Bool}:∀{ins:List GI}{env vs:List bI}{st:St}{vs':List bI}{st':St},Ch p q ins env vs st=some (vs',st')->∀K:List bI->St->Prop,K vs' st'->ew Y draw ins env vs st K:=by
 intro ins;induction ins with
 |nil=>intro env vs st vs' st' h K hK;simp only[Ch,aP,dm]at h;obtain⟨rfl,rfl⟩:=h;exact hK
 |cons gi r ih=>
  obtain⟨i,g⟩:=gi;intro env vs st vs' st' h K hK;have fin:∀{d:D} {m':List (Nat×bL)},i.spec=false->i.jQ draw g=false->ET vs i g->(flag vs g=true->i.dE Y (Src.ev env vs) st.m/\i.val Y (Src.ev env vs) st.m (st.nx+vs.length)=d)->i.cr Y (Src.ev env vs) st.m (st.nx+vs.length)=m'->
    Ch p q r env (vs++[⟨flag vs g,d⟩]) {st with m:=m'} =some (vs',st')->ew Y draw (⟨i,g⟩::r) env vs st K:=by
   intro d m' h0 h1 h2 h3 h4 h5;have h6:=ih h5 K hK;subst h4;rw[show ew Y draw (⟨i,g⟩::r) env vs st K=(ET vs i g/\(flag vs g=true->i.dE Y (Src.ev env vs) st.m)/\((flag vs g=true->i.zh draw (Src.ev env vs))->∃d,(flag vs g=true->i.val Y (Src.ev env vs) st.m (st.nx+vs.length)=d)/\
    ew Y draw r env (vs++[⟨flag vs g,d⟩]) {st with m:=i.cr Y (Src.ev env vs) st.m (st.nx+vs.length)} K))by
    cases i<;>first|(cases h0;done)|(simp only[ew];rw[h1];rfl)]
   exact⟨h2,fun h=>(h3 h).1,fun _=>⟨d,fun h=>(h3 h).2,h6⟩⟩
  have lon:(eH (i.lone&&JV vs i g) (match flag vs g with
   |true=>eH (Qq (Src.ev env vs) st.m i) (Ch p q r env (vs++[⟨true,i.val CD (Src.ev env vs) st.m (st.nx+vs.length)⟩]) {st with m:=i.cr CD (Src.ev env vs) st.m (st.nx+vs.length)})
   |false=>Ch p q r env (vs++[⟨false,.any⟩]) {st with m:=i.cr CD (Src.ev env vs) st.m (st.nx+vs.length)}))=some (vs',st')->ew Y draw (⟨i,g⟩::r) env vs st K:=by
   intro h;obtain⟨h1,h2⟩:=dq h;rw[br]at h1;have h3:=A1 h1.2;have h4:i.spec=false:=by revert h1;cases i<;>simp[aG.spec,aG.lone]
   have h5:i.jQ draw g=false:=by cases g<;>simp_all[aG.jQ,JV]
   rw[L3 (Y:=Y) h1.1,OF (Y:=Y) h1.1]at h2;cases hf:flag vs g
   .rw[hf]at h2;exact fin (d:=.any) h4 h5 h3 (fun h=>by rw[hf]at h;cases h) rfl (by rw[hf];exact h2)
   .rw[hf]at h2;obtain⟨h6,h7⟩:=dq h2;exact fin h4 h5 h3 (fun _=>⟨Qr h6,rfl⟩) rfl (by rw[hf];exact h7)
  cases i
  case callM f args=>
   obtain⟨h0,h⟩:=dq h;refine⟨CU h0,fun hf=>?_,fun hf=>?_⟩<;>rw[hf]at h
   .obtain⟨h1,h2⟩:=dq h;split at h2
    .rename_i d st1 h3;obtain⟨h4,h5⟩:=dq h2;exact⟨Bu h1,hq _ _ _ _ _ h3 _ ⟨by simpa using h4,ih h5 K hK⟩⟩
    .cases h2
   .exact ih h K hK
  case callvM f args=>
   obtain⟨h0,h⟩:=dq h;refine⟨CU h0,fun hf=>?_,fun hf=>?_⟩<;>rw[hf]at h
   .simp only at h;split at h
    .rename_i n caps h0;obtain⟨h1,h2⟩:=dq h;rw[br]at h1;split at h2
     .rename_i d st1 h3;obtain⟨h4,h5⟩:=dq h2;rw[h0];exact⟨rfl,Bu h1.2,by simpa using h1.1,hq _ _ _ _ _ h3 _ ⟨by simpa using h4,ih h5 K hK⟩⟩
     .cases h2
    .cases h
   .exact ih h K hK
  case call f args sh=>
   simp only[Ch]at h;obtain⟨h1,h2⟩:=dq h;cases hf:flag vs g
   .rw[hf]at h2;exact fin (d:=.any) rfl (by simp[aG.jQ,aG.calm]) (A1 h1) (fun h=>by rw[hf]at h;cases h) rfl (by rw[hf];exact h2)
   .rw[hf]at h2;obtain⟨h3,h4⟩:=dq h2;split at h4
    .rename_i ds h5;split at h4
     .rename_i d h6;obtain⟨h7,h8⟩:=dq h4;obtain⟨e1,e2⟩:=Nt h5;obtain⟨e3,e4⟩:=hp _ _ _ h6;refine fin (d:=d) rfl (by simp[aG.jQ,aG.calm]) (A1 h1) (fun _=>?_) rfl (by rw[hf];exact h8);simp only[aG.dE,aG.val,e2,e4];exact⟨⟨Bu h3,e1,e3,h7⟩,trivial⟩
     .cases h4
    .cases h4
  all_goals exact lon h
def gu {α:Type}{b:Bool}{a a':Option α}{x:α}(hm:a=some x->a'=some x)(h:eH b a=some x):eH b a'=some x:=by
 obtain⟨h1,h2⟩:=dq h;rw[h1];exact hm h2
def L8 {p p':EP}{q q':EM}(hp:∀f ds d,p f ds=some d->p' f ds=some d)(hq:∀f ds st d,q f ds st=some d->q' f ds st=some d):∀{ins:List GI}{env vs:List bI}{st:St}{x:List bI×St},Ch p q ins env vs st=some x->Ch p' q' ins env vs st=some x:=by
 intro ins;induction ins with
 |nil=>exact fun h=>h
 |cons gi r ih=>
  obtain⟨i,g⟩:=gi;intro env vs st x h;cases i
  case callM f args=>
   refine gu (fun h=>?_) h;cases hf:flag vs g<;>rw[hf]at h
   .exact ih h
   .refine gu (fun h=>?_) h;split at h
    .rename_i h1;rw[hq _ _ _ _ h1];exact gu (fun h=>ih h) h
    .cases h
  case callvM f args=>
   refine gu (fun h=>?_) h;cases hf:flag vs g<;>rw[hf]at h
   .exact ih h
   .simp only at h⊢;split at h
    .refine gu (fun h=>?_) h;split at h
     .rename_i h1;rw[hq _ _ _ _ h1];exact gu (fun h=>ih h) h
     .cases h
    .cases h
  case call f args sh=>
   refine gu (fun h=>?_) h;cases hf:flag vs g<;>rw[hf]at h
   .exact ih h
   .refine gu (fun h=>?_) h;split at h
    .split at h
     .rename_i h2;simp only[hp _ _ _ h2];exact gu (fun h=>ih h) h
     .cases h
    .cases h
  all_goals
   simp only[Ch]at h⊢;obtain⟨h1,h2⟩:=dq h;rw[h1];cases hf:flag vs g<;>rw[hf]at h2
   .exact ih h2
   .obtain⟨h3,h4⟩:=dq h2;simp only[h3,eH];exact ih h4
def uH (p:EP)(q:EM)(l:EL):AC->List bI->St->Option (Ex×List bI×St)
 | .reg _ ins cm,env,st=>match Ch p q ins env [] st with
  |some (vs,st')=>some (.normal,fZ env vs cm,st')
  |none=>none
 | .seq a b,env,st=>match uH p q l a env st with
  |some (.normal,e,s)=>uH p q l b e s
  |r=>r
 | .cond c a b,env,st=>match c.ev env []with
  |⟨true,.bool true⟩=>uH p q l a env st
  |⟨true,.bool false⟩=>uH p q l b env st
  |_=>none
 | .block id a,env,st=>match uH p q l a env st with
  |some (.exit j,e,s)=>if j=id then some (.normal,e,s)else some (.exit j,e,s)
  |r=>r
 | .loop a,env,st=>l a env st
 | .exit id,env,st=>some (.exit id,env,st)
 | .ret,env,st=>some (.ret,env,st)
 | .skip,env,st=>some (.normal,env,st)
def okL (Y:Ctx)(l:EL):Prop:=∀a env st e env' st',l a env st=some (e,env',st')->∀Q:Ex->List bI->St->Prop,Q e env' st'->bO Y (.loop a) Q env st
def jE {lo:Nat}{p:List bI->St->Prop}{env:List bI}{st:St}(h:p env st):Gh lo p env st:=⟨env,st,.refl _ _,h⟩
def Fj {Y:Ctx}{p:EP}{q:EM}{l:EL}(hp:O1 Y p)(hq:okQ Y q)(hl:okL Y l):∀{c:AC}{env:List bI}{st:St}{e:Ex}{env':List bI}{st':St},uH p q l c env st=some (e,env',st')->∀Q:Ex->List bI->St->Prop,Q e env' st'->bO Y c Q env st:=by
 intro c;induction c with
 |reg draw ins cm=>
  intro env st e env' st' h Q hQ;simp only[uH]at h;split at h
  .rename_i vs s1 h1;simp only[aP,dm]at h;obtain⟨rfl,rfl,rfl⟩:=h;exact jE (Ua hp hq h1 _ hQ)
  .cases h
 |seq a b iha ihb=>
  intro env st e env' st' h Q hQ;simp only[uH]at h;split at h
  .rename_i e1 s1 h1;exact jE (iha h1 _ (ihb h _ hQ))
  .rename_i h1;refine jE (iha h _ ?_);cases e with
   |normal=>exact absurd h (h1 _ _)
   |exit j=>exact hQ
   |ret=>exact hQ
 |cond c a b iha ihb=>
  intro env st e env' st' h Q hQ;simp only[uH]at h;split at h
  .rename_i h1;refine jE ⟨by rw[h1], ?_⟩;rw[h1];exact⟨fun _=>iha h _ hQ,fun h=>by cases h⟩
  .rename_i h1;refine jE ⟨by rw[h1], ?_⟩;rw[h1];exact⟨fun h=>(by cases h),fun _=>ihb h _ hQ⟩
  .cases h
 |block id a iha=>
  intro env st e env' st' h Q hQ;simp only[uH]at h;split at h
  .rename_i j e1 s1 h1;refine jE (iha h1 _ ?_);show if j=id then _ else _
   split at h
   .rename_i h2;simp only[aP,dm]at h;obtain⟨rfl,rfl,rfl⟩:=h;rw[ay h2];exact hQ
   .rename_i h2;simp only[aP,dm]at h;obtain⟨rfl,rfl,rfl⟩:=h;rw[aj h2];exact hQ
  .rename_i h1;refine jE (iha h _ ?_);cases e with
   |exit j=>exact absurd h (h1 _ _ _)
   |normal=>exact hQ
   |ret=>exact hQ
 |loop a _=>exact fun h=>hl _ _ _ _ _ _ h
 |exit id=>intro env st e env' st' h Q hQ;simp only[uH,aP,dm]at h;obtain⟨rfl,rfl,rfl⟩:=h;exact jE hQ
 |ret=>intro env st e env' st' h Q hQ;simp only[uH,aP,dm]at h;obtain⟨rfl,rfl,rfl⟩:=h;exact jE hQ
 |skip=>intro env st e env' st' h Q hQ;simp only[uH,aP,dm]at h;obtain⟨rfl,rfl,rfl⟩:=h;exact jE hQ
def L7 {p p':EP}{q q':EM}{l l':EL}(hp:∀f ds d,p f ds=some d->p' f ds=some d)(hq:∀f ds st d,q f ds st=some d->q' f ds st=some d)(hl:∀a env st d,l a env st=some d->l' a env st=some d):∀{c:AC}{env:List bI}{st:St}{x:Ex×List bI×St},uH p q l c env st=some x->uH p' q' l' c env st=some x:=by
 intro c;induction c with
 |reg draw ins cm=>
  intro env st x h;simp only[uH]at h⊢;split at h
  .rename_i h1;rw[L8 hp hq h1];exact h
  .cases h
 |seq a b iha ihb=>
  intro env st x h;simp only[uH]at h⊢;split at h
  .rename_i h1;rw[iha h1];exact ihb h
  .rename_i h1;rw[iha h];obtain⟨e,e1,s1⟩:=x;cases e with
   |normal=>exact absurd h (h1 _ _)
   |exit j=>rfl
   |ret=>rfl
 |cond c a b iha ihb=>
  intro env st x h;simp only[uH]at h⊢;split at h
  .exact iha h
  .exact ihb h
  .cases h
 |block id a iha=>
  intro env st x h;simp only[uH]at h⊢;split at h
  .rename_i h1;rw[iha h1];exact h
  .rename_i h1;rw[iha h];obtain⟨e,e1,s1⟩:=x;cases e with
   |exit j=>exact absurd h (h1 _ _ _)
   |normal=>rfl
   |ret=>rfl
 |loop a _=>exact fun h=>hl _ _ _ _ h
 |exit id=>exact fun h=>h
 |ret=>exact fun h=>h
 |skip=>exact fun h=>h
def Ex.Hq:Ex->Bool
 | .exit _=>false
 |_=>true
def Ob (m:List (Nat×bL))(env:List bI):List Ci->Bool
 |[]=>true
 |r::rs=>((env.getD r.s .un).ok&&match r.mem with
   |none=>true
   |some (n,_)=>ldB m n (env.getD r.s .un).d)&&Ob m env rs
def CV {e:Ex}(h:e.Hq=true):e.home:=by cases e<;>simp_all[Ex.Hq,Ex.home]
def HM {m:List (Nat×bL)}{env:List bI}:∀{l:List Ci},Ob m env l=true->mN m env l:=by
 intro l;induction l<;>grind [Ob,mN,MO]
structure EvS where
 p:EP
 q:EM
 l:EL
def evF (E:EvS)(a:ax)(ds:List D):Option D:=eH (decide (ds.length=a.np)) (match uH E.p E.q E.l a.body (fC a ds) ⟨0,[]⟩with
 |some (e,env,st)=>eH (e.Hq&&Ob st.m env a.res) (match a.res with
  |[r]=>QB st.m 9 (a.rsh.getD 0 []) (BZ st.m env r)
  |rs=>(U6 st.m a.rsh (n5 st.m env rs)).map .tup)
 |none=>none)
def evM (E:EvS)(a:ax)(ds:List D)(st:St):Option (D×St):=eH (decide (ds.length=a.np)) (match uH E.p E.q E.l a.body (fC a ds) st with
 |some (e,env,st')=>eH (e.Hq&&Ob st'.m env a.res) (some (jl a env st',st'))
 |none=>none)
def jP (tb:Nat->Option ax)(ex:EP):Nat->EvS
 |0=>⟨fun _ _=>none,fun _ _ _=>none,fun _ _ _=>none⟩
 |n+1=>⟨fun f ds=>match tb f with
   |some a=>evF (jP tb ex n) a ds
   |none=>ex f ds,fun f ds st=>match tb f with
   |some a=>evM (jP tb ex n) a ds st
   |none=>none,fun a env st=>match uH (jP tb ex n).p (jP tb ex n).q (jP tb ex n).l a env st with
   |some (.normal,e,s)=>(jP tb ex n).l a e s
   |r=>r⟩
section
variable {tb:Nat->Option ax} {ex:EP}
def zq (n:Nat):(∀f ds d,(jP tb ex n).p f ds=some d->(jP tb ex (n+1)).p f ds=some d)/\(∀f ds st d,(jP tb ex n).q f ds st=some d->(jP tb ex (n+1)).q f ds st=some d)/\∀a env st d,(jP tb ex n).l a env st=some d->(jP tb ex (n+1)).l a env st=some d:=by
 induction n with
 |zero=>exact⟨fun _ _ _ h=>(by cases h),fun _ _ _ _ h=>(by cases h),fun _ _ _ _ h=>by cases h⟩
 |succ n ih=>
  obtain⟨h1,h2,h3⟩:=ih;have hc:∀{c:AC} {env:List bI} {st:St} {x:Ex×List bI×St},uH (jP tb ex n).p (jP tb ex n).q (jP tb ex n).l c env st=some x->uH (jP tb ex (n+1)).p (jP tb ex (n+1)).q (jP tb ex (n+1)).l c env st=some x:=fun h=>L7 h1 h2 h3 h
  refine⟨fun f ds d h=>?_,fun f ds st d h=>?_,fun a env st d h=>?_⟩
  .simp only[jP]at h⊢;split at h
   .refine gu (fun h=>?_) h;split at h
    .rename_i h4;have:=hc h4;simp only[jP]at this;rw[this];exact h
    .cases h
   .exact h
  .simp only[jP]at h⊢;split at h
   .refine gu (fun h=>?_) h;split at h
    .rename_i h4;have:=hc h4;simp only[jP]at this;rw[this];exact h
    .cases h
   .exact h
  .rw[jP]at h⊢;simp only at h⊢;split at h
   .rename_i h4;rw[hc h4];exact h3 _ _ _ _ h
   .rename_i h4;rw[hc h];obtain⟨e,e1,s1⟩:=d;cases e with
    |normal=>exact absurd h (h4 _ _)
    |exit j=>rfl
    |ret=>rfl
def CI {n k f:Nat}{ds:List D}{d:D}(h:(jP tb ex n).p f ds=some d)(hk:n<=k):(jP tb ex k).p f ds=some d:=by
 induction hk with
 |refl=>exact h
 |step _ ih=>exact(zq _).1 _ _ _ ih
def Ma {n k f:Nat}{ds:List D}{st:St}{d:D×St}(h:(jP tb ex n).q f ds st=some d)(hk:n<=k):(jP tb ex k).q f ds st=some d:=by
 induction hk with
 |refl=>exact h
 |step _ ih=>exact(zq _).2.1 _ _ _ _ ih
end
noncomputable def Lg (P:Nat->Prop):Nat:=Classical.epsilon fun k=>P k/\∀j,P j->k<=j
def th {P:Nat->Prop}:∀{n:Nat},P n->P (Lg P)/\∀j,P j->Lg P<=j:=by
 have h:∀n,P n->∃k,P k/\∀j,P j->k<=j:=by
  intro n;induction n using Nat.strongRecOn with
  |_ n ih=>
   intro hn;by_cases h:∃j,P j/\j<n
   .obtain⟨j,h1,h2⟩:=h;exact ih j h2 h1
   .exact⟨n,hn,fun j hj=>by
     rcases dQ j n with h1|h1
     .exact absurd ⟨j,hj,h1⟩ h
     .exact h1⟩
 exact fun {n} hn=>Classical.epsilon_spec (h n hn)
section
variable {tb:Nat->Option ax} {ex:EP} {Y:Ctx}
def L9 {N:Nat}(hp:∀n,n<N->O1 Y (jP tb ex n).p)(hq:∀n,n<N->okQ Y (jP tb ex n).q):okL Y (jP tb ex N).l:=by
 intro a env st e env' st' h Q hQ
 let P:List bI->St->Nat->Prop:=fun env st n=>n<=N/\(jP tb ex n).l a env st=some (e,env',st')
 refine jE ⟨fun env st=>∃n,P env st n,fun env st=>Lg (P env st),⟨N,aM _,h⟩,fun env st ⟨n,hn⟩=>?_⟩;obtain⟨⟨h1,h2⟩,h3⟩:=th (P:=P env st) hn;obtain⟨k,hk⟩:∃k,Lg (P env st)=k:=⟨_,rfl⟩
 rw[hk]at h1 h2 h3;cases k with
 |zero=>cases h2
 |succ k=>
  rw[jP]at h2;simp only at h2;have ih:okL Y (jP tb ex k).l:=L9 (fun n h=>hp n ah) fun n h=>hq n ah
  split at h2
  .rename_i e1 s1 h4;refine Fj (hp k ah) (hq k ah) ih h4 _ ⟨e1,s1,.refl _ _,⟨k,ah,h2⟩, ?_⟩;have:=(th (P:=P e1 s1) (n:=k) ⟨ah,h2⟩).2 k ⟨ah,h2⟩;show Lg (P e1 s1)<Lg (P env st);omega
  .rename_i h4;refine Fj (hp k ah) (hq k ah) ih h2 _ ?_;cases e with
   |normal=>exact absurd h2 (h4 _ _)
   |exit j=>exact hQ
   |ret=>exact hQ
termination_by N
end
noncomputable def dr (tb:Nat->Option ax)(ex:EP)(k f:Nat):lF where
 key:=k
 rel ds d:=∃n,(jP tb ex n).p f ds=some d
 mu ds:=Lg fun n=>∃d,(jP tb ex n).p f ds=some d
 relF:=V4
 tr ds st K:=∃n d st',(jP tb ex n).q f ds st=some (d,st')/\K d st'
 muE ds st:=Lg fun n=>∃d,(jP tb ex n).q f ds st=some d
 mono _ _ _ _ h h1:=by obtain⟨n,d,st',h2,h3⟩:=h1;exact⟨n,d,st',h2,h _ _ h3⟩
section
variable {tb:Nat->Option ax} {ex:EP} {t:List (Nat×lF)} {k:Nat}
def yl {f:Nat}:VR (dr tb ex k f).rel:=by
 intro ds d d' ⟨n,h⟩ ⟨n',h'⟩;have h1:=CI h (Nat.le_max_left n n');rw[CI h' (Nat.le_max_right n n')]at h1;exact(bd h1).symm
def oY {f:Nat}{ds:List D}{d:D}{k' u n:Nat}(hr:lk t f lq=dr tb ex k f)(hk:k<k')(h:(jP tb ex n).p f ds=some d):(under t k' u).pre f ds/\(under t k' u).val f ds=d:=
 ZZ (hr▸yl) (.inl (by rw[hr];exact hk)) (by rw[hr];exact⟨n,h⟩)
def Mb (hrow:∀f a,tb f=some a->lk t f lq=dr tb ex k f)(hex:∀u,O1 (under t k u) ex){u n:Nat}(hn:n<u):O1 (under t k u) (jP tb ex n).p:=by
 intro f ds d h;cases n with
 |zero=>cases h
 |succ n=>
  cases hf:tb f with
  |none=>simp only[jP,hf]at h;exact hex u f ds d h
  |some a=>
   have hr:=hrow f a hf;refine ZZ (hr▸yl) (.inr ⟨by rw[hr];rfl, ?_⟩) (by rw[hr];exact⟨_,h⟩);rw[hr];have:=(th (P:=fun n=>∃d,(jP tb ex n).p f ds=some d) ⟨d,h⟩).2 _ ⟨d,h⟩;exact Nat.lt_of_le_of_lt this hn
def Mc (hrow:∀f a,tb f=some a->lk t f lq=dr tb ex k f)(hex:∀u,O1 (under t k u) ex){u n:Nat}(hn:n<u):okQ (under t k u) (jP tb ex n).q:=by
 intro f ds st d st' h K hK;cases n with
 |zero=>cases h
 |succ n=>
  cases hf:tb f with
  |none=>simp only[jP,hf]at h;cases h
  |some a=>
   have hr:=hrow f a hf;refine Kk (.inr ⟨by rw[hr];rfl, ?_⟩) (by rw[hr];exact⟨_,_,_,h,hK⟩);rw[hr];have:=(th (P:=fun n=>∃d,(jP tb ex n).q f ds st=some d) ⟨_,h⟩).2 _ ⟨_,h⟩;exact Nat.lt_of_le_of_lt this hn
def Hh (hrow:∀f a,tb f=some a->lk t f lq=dr tb ex k f)(hex:∀u,O1 (under t k u) ex){u n l:Nat}(hn:n<u){c:AC}{env:List bI}{st:St}{e:Ex}{env':List bI}{st':St}(h:uH (jP tb ex n).p (jP tb ex n).q (jP tb ex n).l c env st=some (e,env',st')){Q:Ex->List bI->St->Prop}(hQ:Q e env' st'):bO ((under t k u).at l) c Q env st:=
 Fj (Y:=(under t k u).at l) (Mb hrow hex hn) (Mc hrow hex hn) (L9 (fun n' h=>Mb hrow hex ah) fun n' h=>Mc hrow hex ah) h Q hQ
variable [di] {P:Program} {ν:List (Nat×Nat)} {cr:List Nat} {fid f:Nat} {a:ax}
def bT (hrow:∀f a,tb f=some a->lk t f lq=dr tb ex k f)(hex:∀u,O1 (under t k u) ex)(hmix:P.follows .mixedOrders=true)(hC:ER P ν cr fid a)(hf:tb f=some a):VT P ν cr t fid f:=by
 have hr:=hrow f a hf;refine⟨?_, ?_, ?_⟩<;>rw[hr]
 .intro ds d ⟨n,h⟩;obtain⟨⟨d',h1⟩,h2⟩:=th (P:=fun n=>∃d,(jP tb ex n).p f ds=some d) ⟨d,h⟩;have h3:d'=d:=yl (k:=k) ds d' d ⟨_,h1⟩ ⟨_,h⟩;subst h3;show Cl P ν cr (under t k (Lg fun n=>∃d,(jP tb ex n).p f ds=some d)) fid ds d';generalize (Lg fun n=>∃d,(jP tb ex n).p f ds=some d)=N at h1;cases N with
  |zero=>cases h1
  |succ N=>
   simp only[jP,hf]at h1;obtain⟨g1,g2⟩:=dq h1;split at g2
   .rename_i e env st g3;obtain⟨g4,g5⟩:=dq g2;rw[br]at g4;refine aJ hmix hC (by simpa using g1) (Hh hrow hex (Nat.lt_succ_self N) g3 ⟨CV g4.1,HM g4.2, ?_⟩);unfold Ea Oc;split at g5
    .rename_i r hres;rw[hres];exact Nu g5
    .rename_i rs hres;obtain⟨es,g6,rfl⟩:=cS.1 g5;have:=Nt g6;split
     .rename_i r hr;exact absurd hr (hres r)
     .exact⟨this.1,by rw[this.2]⟩
   .cases g2
 .exact Br
 .intro ds st K ⟨n,d,st',h,hK⟩;obtain⟨⟨d',h1⟩,h2⟩:=th (P:=fun n=>∃d,(jP tb ex n).q f ds st=some d) ⟨_,h⟩;have h3:d'=(d,st'):=by
   have:=Ma h1 (h2 n ⟨_,h⟩);rw[h]at this;exact(bd this).symm
  subst h3;show mf P ν cr (under t k (Lg fun n=>∃d,(jP tb ex n).q f ds st=some d)) fid ds st K;generalize (Lg fun n=>∃d,(jP tb ex n).q f ds st=some d)=N at h1;cases N with
  |zero=>cases h1
  |succ N=>
   simp only[jP,hf]at h1;obtain⟨g1,g2⟩:=dq h1;split at g2
   .rename_i e env s1 g3;obtain⟨g4,g5⟩:=dq g2;rw[br]at g4;simp only[aP,dm]at g5;obtain⟨g6,rfl⟩:=g5;intro hok x args hl hargs hs hfr;obtain⟨fn,hfn,hc,hn⟩:=hC.split;obtain⟨body,c1,_⟩:=fI hc;refine .inr ⟨fid,args,fY hfn hn (by rw[c1];rfl) args x.w, ?_⟩;refine Calls.mono (Ud (K:=K) hok hmix hfn hc hl hargs hs hfr ⟨by simpa using g1,Hh hrow hex (Nat.lt_succ_self N) g3 ⟨CV g4.1,HM g4.2, ?_⟩⟩) fun e w' he=>?_
    .rw[g6];exact hK
    .grind
   .cases g2
end
end
noncomputable def qw:ax:=b8 174
noncomputable def qx:ax:=b8 192
noncomputable def uk:ax:=b8 203
noncomputable def yf:ax:=b8 204
noncomputable def tW:ax:=b8 175
noncomputable def rV:ax:=b8 196
noncomputable def zY:ax:=b8 185
noncomputable def x9:ax:=b8 206
noncomputable def xr:ax:=b8 193
noncomputable def xu:ax:=b8 194
noncomputable def ux:ax:=b8 212
noncomputable def uw:ax:=b8 211
noncomputable def uj:ax:=b8 224
noncomputable def um:ax:=b8 225
noncomputable def ye:ax:=b8 226
noncomputable def yg:ax:=b8 227
noncomputable def qt:ax:=b8 197
noncomputable def qu:ax:=b8 195
noncomputable def uq:ax:=b8 205
noncomputable def ou:ax:=b8 214
noncomputable def Dg:ax:=b8 215
noncomputable def xw:ax:=b8 216
noncomputable def yp:ax:=b8 233
noncomputable def wK:ax:=b8 231
noncomputable def Ae:ax:=b8 234
noncomputable def kX:ax:=b8 245
noncomputable def zW:ax:=b8 246
noncomputable def uo:ax:=b8 247
noncomputable def z7:ax:=b8 248
noncomputable def yb:ax:=b8 249
noncomputable def z8:ax:=b8 250
noncomputable def D9:ax:=b8 251
noncomputable def Aa:ax:=b8 252
noncomputable def D8:ax:=b8 253
noncomputable def rU:ax:=b8 219
noncomputable def DL:ax:=b8 229
noncomputable def mr:ax:=b8 236
noncomputable def m9:ax:=b8 237
noncomputable def zG:ax:=b8 238
noncomputable def zF:ax:=b8 239
noncomputable def CA:ax:=b8 263
noncomputable def wL:ax:=b8 264
noncomputable def zl:ax:=b8 255
noncomputable def mz:ax:=b8 277
noncomputable def mA:ax:=b8 278
noncomputable def nk:ax:=b8 279
noncomputable def x6:ax:=b8 280
noncomputable def x5:ax:=b8 281
noncomputable def yc:ax:=b8 285
noncomputable def yd:ax:=b8 282
noncomputable def D7:ax:=b8 283
noncomputable def sj:ax:=b8 284
noncomputable def D6:ax:=b8 286
noncomputable def x8:ax:=b8 254
noncomputable def ot:ax:=b8 268
noncomputable def na:ax:=b8 269
noncomputable def ov:ax:=b8 270
noncomputable def oq:ax:=b8 271
noncomputable def zE:ax:=b8 272
noncomputable def zD:ax:=b8 273
noncomputable def zm:ax:=b8 288
noncomputable def tR:ax:=b8 287
noncomputable def nj:ax:=b8 304
noncomputable def xZ:ax:=b8 305
noncomputable def zX:ax:=b8 306
noncomputable def x7:ax:=b8 307
noncomputable def z6:ax:=b8 310
noncomputable def zZ:ax:=b8 308
noncomputable def ur:ax:=b8 309
noncomputable def pn:ax:=b8 295
noncomputable def my:ax:=b8 321
noncomputable def mB:ax:=b8 326
noncomputable def tbT:List (Nat×ax):=[(212,qw),(444,qx),(670,uk),(572,yf),(213,tW),(448,rV),(459,zY),(672,x9),(445,xr),(446,xu),(496,ux),(495,uw),(813,uj),(814,um),(744,ye),(745,yg),(449,qt),(447,qu),(671,uq),(660,ou),(661,Dg),(662,xw),(684,yp),(682,wK),(685,Ae),(952,kX),(953,zW),(954,uo),(896,z7),(897,yb),(898,z8),(899,D9),(900,Aa),(901,D8),(663,rU),(816,DL),(808,mr),(809,m9),(810,zG),(811,zF),(827,CA),(828,wL),(819,zl),(1032,mz),(1033,mA),(1034,nk),(1035,x6),(1036,x5),(482,yc),(1006,yd),(1007,D7),(1008,sj),(676,D6),(955,x8),(946,ot),(947,na),(948,ov),(949,oq),(950,zE),(951,zD),(957,zm),(956,tR),(1097,nj),(1098,xZ),(1099,zX),(1100,x7),(677,z6),(678,zZ),(1079,ur),(1031,pn),(1126,my),(1141,mB)]
end Go.Abs
section
set_option maxRecDepth 10000
namespace Go.Abs
def KY:List D->Option (List aU)
 |[]=>some []
 | .str s::r=>match KY r with
  |some l=>some (s::l)
  |none=>none
 |_=>none
def B2:∀{l:List D}{r:List aU},KY l=some r->l=r.map D.str:=by
 intro l;induction l with
 |nil=>intro r h;cases h;rfl
 |cons d l ih=>intro r h;cases d<;>simp only[KY]at h<;>grind
def tc (s:aU):Bool:=decide (s.length<=1048576)
def gQ:EP:=fun f ds=>match ds with
 |[.str s]=>bif Nat.beq f 349 ||Nat.beq f 357 then some (.bool (fj s))else bif Nat.beq f 208 ||Nat.beq f 216 then some (.bool (fS s))else
  bif Nat.beq f 658 ||Nat.beq f 667 then some (.tup [.int .i64 (tt s),.bool (kD s)])else none
 |[.int .i64 n]=>eH ((Nat.beq f 665 ||Nat.beq f 734)&&(decide (0<=n)&&decide (n<=9999))) (some (.str (jC n.toNat)))
 |[.str s,.int .u8 b]=>eH ((Nat.beq f 533 ||Nat.beq f 470)&&tc s) (some (.sl 1 ((bE s b).map D.str)))
 |[.str s,.str [124,124]]=>eH (tc s&&Nat.beq f 124) (some (.sl 1 ((iD s []).map D.str)))
 |[.str s,.str [b]]=>eH (tc s) (bif Nat.beq f 124 then some (.sl 1 ((bE s b.toNat).map D.str))else bif Nat.beq f 683&&b==32 then some (.str (wE s))else
  bif Nat.beq f 487 then some (.tup [.str (qh s b).1,.str (qh s b).2.1,.bool (qh s b).2.2])else bif Nat.beq f 254 then some (.tup [.str (nL s [b]).1,.bool (nL s [b]).2])else none)
 |[.sl 1 l]=>match KY l with
  |some l=>bif Nat.beq f 815 then some (.bool (rising l))else none
  |none=>none
 |[.sl 1 l,.int .u8 x]=>match KY l with
  |some l=>eH (Nat.beq f 249&&(decide (x=(x.toNat.toUInt8.toNat:Nat))&&tc (cL [x.toNat.toUInt8] l))) (some (.str (cL [x.toNat.toUInt8] l)))
  |none=>none
 |[.sl 1 l,.str s]=>match KY l with
  |some l=>eH (Nat.beq f 242&&(decide (l.length<=9)&&(decide (s.length<=4)&&l.all tc))) (some (.str (cL s l)))
  |none=>none
 |[.agg [.int .i64 a,.int .i64 b,.int .i64 c,.str p,.str q]]=>eH ((Nat.beq f 209 ||Nat.beq f 217)&&(tc p&&tc q)) (some (.bool (fE ⟨a,b,c,p,q⟩)))
 |_=>none
noncomputable def gX (n:Nat):Option ax:=lk (tbT.map fun p=>(p.1,some p.2)) n none
def Ub {Y:Ctx}(h349:JB Y)(h357:JC Y)(h208:Jz Y)(h216:EW Y)(h658:Pk Y)(h667:Pl Y)(h665:Sv Y)(h734:Sy Y)(h533:Lm Y)(h470:Pf Y)(h124:We Y)(h9124:Q8 Y)(h683:Xy Y)(h487:W6 Y)(h254:Wr Y)(h815:SB Y)(h249:Pb Y)(h242:Pa Y)(h209:uA Y)(h217:qB Y):O1 Y gQ:=by
 intro f ds d h;unfold gQ at h;split at h
 .simp only[Bool.cond_eq_ite,dW,Nat.beq_eq]at h;split at h
  .rename_i hf;cases h;rcases hf with rfl|rfl
   .exact h349 _
   .exact h357 _
  split at h
  .rename_i hf;cases h;rcases hf with rfl|rfl
   .exact h208 _
   .exact h216 _
  split at h
  .rename_i hf;cases h;rcases hf with rfl|rfl
   .exact h658 _
   .exact h667 _
  .cases h
 .obtain⟨h1,h2⟩:=dq h;simp only[dW,br,Nat.beq_eq,bU]at h1;cases h2;rcases h1 with⟨rfl|rfl,h1⟩
  .exact h665 _ h1
  .exact h734 _ h1
 .obtain⟨h1,h2⟩:=dq h;simp only[dW,br,Nat.beq_eq,tc,bU]at h1;cases h2;rcases h1 with⟨rfl|rfl,h1⟩
  .exact h533 _ _ h1
  .exact h470 _ _ h1
 .obtain⟨h1,h2⟩:=dq h;simp only[br,Nat.beq_eq,tc,bU]at h1;cases h2;obtain⟨h1,rfl⟩:=h1;exact h9124 _ h1
 .obtain⟨h1,h2⟩:=dq h;simp only[tc,bU]at h1;simp only[Bool.cond_eq_ite,br,Nat.beq_eq,beq_iff_eq]at h2;split at h2
  .rename_i hf;cases h2;subst hf;exact h124 _ _ h1
  split at h2
  .rename_i hf;cases h2;obtain⟨rfl,hb⟩:=hf;exact h683 _ _ hb h1
  split at h2
  .rename_i hf;cases h2;subst hf;exact h487 _ _ h1
  split at h2
  .rename_i hf;cases h2;subst hf;exact h254 _ _ h1 bg
  .cases h2
 .split at h
  .rename_i l hl;obtain rfl:=B2 hl;simp only[Bool.cond_eq_ite,Nat.beq_eq]at h;split at h
   .rename_i hf;cases h;subst hf;exact h815 _
   .cases h
  .cases h
 .rename_i lx x;split at h
  .rename_i l hl;obtain rfl:=B2 hl;obtain⟨h1,h2⟩:=dq h;simp only[br,Nat.beq_eq,tc,bU]at h1;cases h2;obtain⟨rfl,h3,h4⟩:=h1;revert h3 h4;generalize Nat.toUInt8 (Int.toNat x)=y;intro h3 h4;subst h3;exact h249 _ y (eP h4 bj)
  .cases h
 .split at h
  .rename_i l hl;obtain rfl:=B2 hl;obtain⟨h1,h2⟩:=dq h;simp only[br,Nat.beq_eq,tc,List.all_eq_true,bU]at h1;cases h2;obtain⟨rfl,h3,h4,h5⟩:=h1;exact h242 _ _ ah h4 fun t ht=>eP (h5 t ht) bj
  .cases h
 .obtain⟨h1,h2⟩:=dq h;simp only[dW,br,Nat.beq_eq,tc,bU]at h1;cases h2;rcases h1 with⟨rfl|rfl,h1⟩
  .exact h209 ⟨_,_,_,_,_⟩ h1
  .exact h217 ⟨_,_,_,_,_⟩ h1
 .cases h
def ig:Option D->Bool
 |some (.bool b)=>b
 |_=>false
def dV {o:Option D}{b:Bool}(hb:b=true)(h:ig o=true):o=some (.bool b):=by unfold ig at h;split at h<;>simp_all
def ib (c:Bool):Option D->Bool
 |some (.bool b)=>b==c
 |_=>false
def dU {o:Option D}{b:Bool}(h:ib b o=true):o=some (.bool b):=by unfold ib at h;split at h<;>simp_all
def om (x:Int×aU×aU):Option D->Bool
 |some (.tup [.int .i64 a,.str b,.str c])=>decide (a=x.1)&&(b==x.2.1&&c==x.2.2)
 |_=>false
def iZ {o:Option D}{x:Int×aU×aU}(h:om x o=true):o=some (.tup [.int .i64 x.1,.str x.2.1,.str x.2.2]):=by unfold om at h;split at h<;>simp_all
noncomputable abbrev eg (f:Nat)(ds:List D):Option D:=(jP gX gQ 60).p f ds
end Go.Abs
end
section
set_option maxRecDepth 10000
namespace Go.Abs
def Tf:ig (eg 212 [.str []])=true:=by decide+kernel
def Tg:ig (eg 212 [.str [111,115,32,61,32,108,105,110,117,120]])=true:=by decide+kernel
def Th:ig (eg 212 [.str [111,115,32,33,61,32,108,105,110,117,120]])=true:=by decide+kernel
def Zw {s:aU}(h:pw s):eg 212 [.str s]=some (.bool (r9 s)):=by
 simp only[pw,J9,cM,dI,or_false]at h;rcases h with rfl|rfl|rfl
 .exact dV bj Tf
 .exact dV bj Tg
 .exact dV bj Th
def TY:ig (eg 670 [.str []])=true:=by decide+kernel
def TZ:ig (eg 670 [.str [111,115,32,61,32,108,105,110,117,120]])=true:=by decide+kernel
def T0:ig (eg 670 [.str [111,115,32,33,61,32,108,105,110,117,120]])=true:=by decide+kernel
def ZC {s:aU}(h:pw s):eg 670 [.str s]=some (.bool (r9 s)):=by
 simp only[pw,J9,cM,dI,or_false]at h;rcases h with rfl|rfl|rfl
 .exact dV bj TY
 .exact dV bj TZ
 .exact dV bj T0
def TA:om (dR [63,111]) (eg 448 [.str [63,111]])=true:=by decide+kernel
def TB:om (dR [97,110,116,47,102]) (eg 448 [.str [97,110,116,47,102]])=true:=by decide+kernel
def TC:om (dR [98,101,101,47,102]) (eg 448 [.str [98,101,101,47,102]])=true:=by decide+kernel
def TD:om (dR [99,111,119,47,102]) (eg 448 [.str [99,111,119,47,102]])=true:=by decide+kernel
def TE:om (dR [100,111,103,47,102]) (eg 448 [.str [100,111,103,47,102]])=true:=by decide+kernel
def Zz {s:aU}(h:oo s):eg 448 [.str s]=some (.tup [.int .i64 (dR s).1,.str (dR s).2.1,.str (dR s).2.2]):=by
 simp only[oo,ML,cM,dI,or_false]at h;rcases h with rfl|rfl|rfl|rfl|rfl
 .exact iZ TA
 .exact iZ TB
 .exact iZ TC
 .exact iZ TD
 .exact iZ TE
def T1:om (dR [63,111]) (eg 672 [.str [63,111]])=true:=by decide+kernel
def T2:om (dR [97,110,116,47,102]) (eg 672 [.str [97,110,116,47,102]])=true:=by decide+kernel
def T3:om (dR [98,101,101,47,102]) (eg 672 [.str [98,101,101,47,102]])=true:=by decide+kernel
def T4:om (dR [99,111,119,47,102]) (eg 672 [.str [99,111,119,47,102]])=true:=by decide+kernel
def T5:om (dR [100,111,103,47,102]) (eg 672 [.str [100,111,103,47,102]])=true:=by decide+kernel
def ZD {s:aU}(h:oo s):eg 672 [.str s]=some (.tup [.int .i64 (dR s).1,.str (dR s).2.1,.str (dR s).2.2]):=by
 simp only[oo,ML,cM,dI,or_false]at h;rcases h with rfl|rfl|rfl|rfl|rfl
 .exact iZ T1
 .exact iZ T2
 .exact iZ T3
 .exact iZ T4
 .exact iZ T5
end Go.Abs
end
section
set_option maxRecDepth 10000
namespace Go.Abs
def Ts:ig (eg 444 [.str [42]])=true:=by decide+kernel
def Tt:ig (eg 444 [.str [94,49,46,48,46,48]])=true:=by decide+kernel
def Tu:ig (eg 444 [.str [61,49,46,50,46,48]])=true:=by decide+kernel
def Tv:ig (eg 444 [.str [62,61,49,46,50,46,48]])=true:=by decide+kernel
def Tw:ig (eg 444 [.str [60,50,46,48,46,48]])=true:=by decide+kernel
def Tx:ig (eg 444 [.str [94,50,46,48,46,48,45,97,46,49]])=true:=by decide+kernel
def Ty:ig (eg 444 [.str [61,49,46,48,46,48,32,124,124,32,61,50,46,48,46,48]])=true:=by decide+kernel
def Tz:ig (eg 444 [.str [33,61,49,46,50,46,48]])=true:=by decide+kernel
def Zy {s:aU}(h:oy s):eg 444 [.str s]=some (.bool (vB s)):=by
 simp only[oy,lU,cM,dI,or_false]at h;rcases h with rfl|rfl|rfl|rfl|rfl|rfl|rfl|rfl
 .exact dV bj Ts
 .exact dV bj Tt
 .exact dV bj Tu
 .exact dV bj Tv
 .exact dV bj Tw
 .exact dV bj Tx
 .exact dV bj Ty
 .exact dV bj Tz
end Go.Abs
end
section
set_option maxRecDepth 10000
namespace Go.Abs
def TP:ig (eg 572 [.str [42]])=true:=by decide+kernel
def TQ:ig (eg 572 [.str [94,49,46,48,46,48]])=true:=by decide+kernel
def TR:ig (eg 572 [.str [61,49,46,50,46,48]])=true:=by decide+kernel
def TS:ig (eg 572 [.str [62,61,49,46,50,46,48]])=true:=by decide+kernel
def TU:ig (eg 572 [.str [60,50,46,48,46,48]])=true:=by decide+kernel
def TV:ig (eg 572 [.str [94,50,46,48,46,48,45,97,46,49]])=true:=by decide+kernel
def TW:ig (eg 572 [.str [61,49,46,48,46,48,32,124,124,32,61,50,46,48,46,48]])=true:=by decide+kernel
def TX:ig (eg 572 [.str [33,61,49,46,50,46,48]])=true:=by decide+kernel
def ZB {s:aU}(h:oy s):eg 572 [.str s]=some (.bool (vB s)):=by
 simp only[oy,lU,cM,dI,or_false]at h;rcases h with rfl|rfl|rfl|rfl|rfl|rfl|rfl|rfl
 .exact dV bj TP
 .exact dV bj TQ
 .exact dV bj TR
 .exact dV bj TS
 .exact dV bj TU
 .exact dV bj TV
 .exact dV bj TW
 .exact dV bj TX
end Go.Abs
end
section
set_option maxRecDepth 10000
namespace Go.Abs
def Ti:ib (en []) (eg 213 [.sl 2 (([]:List cZ).map cZ.D)])=true:=by decide+kernel
def Tj:ib (en [⟨[102],[]⟩]) (eg 213 [.sl 2 (([⟨[102],[]⟩]:List cZ).map cZ.D)])=true:=by decide+kernel
def Tk:ib (en [⟨[102],[[63,111]]⟩]) (eg 213 [.sl 2 (([⟨[102],[[63,111]]⟩]:List cZ).map cZ.D)])=true:=by decide+kernel
def Tl:ib (en [⟨[102],[[97,110,116,47,102]]⟩]) (eg 213 [.sl 2 (([⟨[102],[[97,110,116,47,102]]⟩]:List cZ).map cZ.D)])=true:=by decide+kernel
def Tm:ib (en [⟨[102],[[98,101,101,47,102]]⟩]) (eg 213 [.sl 2 (([⟨[102],[[98,101,101,47,102]]⟩]:List cZ).map cZ.D)])=true:=by decide+kernel
def Tn:ib (en [⟨[102],[[99,111,119,47,102]]⟩]) (eg 213 [.sl 2 (([⟨[102],[[99,111,119,47,102]]⟩]:List cZ).map cZ.D)])=true:=by decide+kernel
def To:ib (en [⟨[102],[[100,111,103,47,102]]⟩]) (eg 213 [.sl 2 (([⟨[102],[[100,111,103,47,102]]⟩]:List cZ).map cZ.D)])=true:=by decide+kernel
def Tp:ib (en [⟨[102],[[63,111],[97,110,116,47,102]]⟩]) (eg 213 [.sl 2 (([⟨[102],[[63,111],[97,110,116,47,102]]⟩]:List cZ).map cZ.D)])=true:=by decide+kernel
def Tq:ib (en [⟨[102],[[63,111],[98,101,101,47,102]]⟩]) (eg 213 [.sl 2 (([⟨[102],[[63,111],[98,101,101,47,102]]⟩]:List cZ).map cZ.D)])=true:=by decide+kernel
def Tr:ib (en [⟨[102],[[63,111],[99,111,119,47,102]]⟩]) (eg 213 [.sl 2 (([⟨[102],[[63,111],[99,111,119,47,102]]⟩]:List cZ).map cZ.D)])=true:=by decide+kernel
def PV:ib (en [⟨[102],[[63,111],[100,111,103,47,102]]⟩]) (eg 213 [.sl 2 (([⟨[102],[[63,111],[100,111,103,47,102]]⟩]:List cZ).map cZ.D)])=true:=by decide+kernel
def Zx {l:List cZ}(h:je l):eg 213 [.sl 2 (l.map cZ.D)]=some (.bool (en l)):=by
 simp only[je,zw,ofL,List.map_cons,List.map_nil,cM,dI,or_false]at h;rcases h with rfl|rfl|rfl|rfl|rfl|rfl|rfl|rfl|rfl|rfl|rfl
 .exact dU Ti
 .exact dU Tj
 .exact dU Tk
 .exact dU Tl
 .exact dU Tm
 .exact dU Tn
 .exact dU To
 .exact dU Tp
 .exact dU Tq
 .exact dU Tr
 .exact dU PV
def TF:ib (en []) (eg 459 [.sl 2 (([]:List cZ).map cZ.D)])=true:=by decide+kernel
def TG:ib (en [⟨[102],[]⟩]) (eg 459 [.sl 2 (([⟨[102],[]⟩]:List cZ).map cZ.D)])=true:=by decide+kernel
def TH:ib (en [⟨[102],[[63,111]]⟩]) (eg 459 [.sl 2 (([⟨[102],[[63,111]]⟩]:List cZ).map cZ.D)])=true:=by decide+kernel
def TI:ib (en [⟨[102],[[97,110,116,47,102]]⟩]) (eg 459 [.sl 2 (([⟨[102],[[97,110,116,47,102]]⟩]:List cZ).map cZ.D)])=true:=by decide+kernel
def TJ:ib (en [⟨[102],[[98,101,101,47,102]]⟩]) (eg 459 [.sl 2 (([⟨[102],[[98,101,101,47,102]]⟩]:List cZ).map cZ.D)])=true:=by decide+kernel
def TK:ib (en [⟨[102],[[99,111,119,47,102]]⟩]) (eg 459 [.sl 2 (([⟨[102],[[99,111,119,47,102]]⟩]:List cZ).map cZ.D)])=true:=by decide+kernel
def TL:ib (en [⟨[102],[[100,111,103,47,102]]⟩]) (eg 459 [.sl 2 (([⟨[102],[[100,111,103,47,102]]⟩]:List cZ).map cZ.D)])=true:=by decide+kernel
def TM:ib (en [⟨[102],[[63,111],[97,110,116,47,102]]⟩]) (eg 459 [.sl 2 (([⟨[102],[[63,111],[97,110,116,47,102]]⟩]:List cZ).map cZ.D)])=true:=by decide+kernel
def TN:ib (en [⟨[102],[[63,111],[98,101,101,47,102]]⟩]) (eg 459 [.sl 2 (([⟨[102],[[63,111],[98,101,101,47,102]]⟩]:List cZ).map cZ.D)])=true:=by decide+kernel
def TO:ib (en [⟨[102],[[63,111],[99,111,119,47,102]]⟩]) (eg 459 [.sl 2 (([⟨[102],[[63,111],[99,111,119,47,102]]⟩]:List cZ).map cZ.D)])=true:=by decide+kernel
def PW:ib (en [⟨[102],[[63,111],[100,111,103,47,102]]⟩]) (eg 459 [.sl 2 (([⟨[102],[[63,111],[100,111,103,47,102]]⟩]:List cZ).map cZ.D)])=true:=by decide+kernel
def ZA {l:List cZ}(h:je l):eg 459 [.sl 2 (l.map cZ.D)]=some (.bool (en l)):=by
 simp only[je,zw,ofL,List.map_cons,List.map_nil,cM,dI,or_false]at h;rcases h with rfl|rfl|rfl|rfl|rfl|rfl|rfl|rfl|rfl|rfl|rfl
 .exact dU TF
 .exact dU TG
 .exact dU TH
 .exact dU TI
 .exact dU TJ
 .exact dU TK
 .exact dU TL
 .exact dU TM
 .exact dU TN
 .exact dU TO
 .exact dU PW
end Go.Abs
end
namespace Go.Abs
def bA {p:Prop}(h:p:=by((repeat intro _);exact ZZ PT (.inl (by assumption)) fun T hT=>(by apply hT<;>assumption))):p:=h
def bp {t:List (Nat×lF)}{key u q:Nat}:((under t key u).at q).cj:=qA t key u q
section
def V5 (T:FT):Prop:=∀(g:Gs) (n:Int),(n<=9223372036854775807)->(0<=g.i/\g.i<=1000000)->T (Gs.D g) [.int .i64 n] (.int .i64 (g.val n)) (Gs.D g.au)
def X1:sI (lL V5):=wN
def V6 (T:FT):Prop:=∀(g:Gs) (nm:aU) (v:aQ) (most:Int),(0<=g.i/\g.i<=970000)->(0<=most/\most<=100)->T (Gs.D g) [.str nm,aQ.D v,.int .i64 most] (Rec.D (ra g nm v most).1) (Gs.D (ra g nm v most).2)
def X2:sI (lL V6):=wN
def A124 (T:RT):Prop:=H5 T/\EK T
def V7 (T:FT):Prop:=∀(g:Gs) (l:List cC),(0<=g.i/\g.i<=960000)->(iC l/\1<=l.length/\l.length<=100)->T (Gs.D g) [.sl 2 (l.map cC.D)] (.sl 2 ((lS g l).1.map cC.D)) (Gs.D (lS g l).2)
def X4:sI (lL V7):=wN
def V8 (T:FT):Prop:=∀(g:Gs) (own:aU),(0<=g.i/\g.i<=980000)->T (Gs.D g) [.str own] (cG.D (kC g own).1) (Gs.D (kC g own).2)
def X5:sI (lL V8):=wN
def V9 (T:FT):Prop:=∀(g:Gs) (own:aU),(0<=g.i/\g.i<=990000)->T (Gs.D g) [.str own] (.str (dc g own).1) (Gs.D (dc g own).2)
def X6:sI (lL V9):=wN
def Wa (T:FT):Prop:=∀(g:Gs) (l:List cG),(0<=g.i/\g.i<=980000)->((∀n∈l,n.sm)/\l.length<=1000)->T (Gs.D g) [.sl 3 (l.map cG.D)] (cZ.D (kT g l).1) (Gs.D (kT g l).2)
def X7:sI (lL Wa):=wN
def Wb (T:FT):Prop:=∀(g:Gs) (own:aU),(0<=g.i/\g.i<=990000)->T (Gs.D g) [.str own] (dY.D (dP g own).1) (Gs.D (dP g own).2)
def X8:sI (lL Wb):=wN
def X3:VR (Bi EJ):=PT
noncomputable def a8:List (Nat×lF):=[(25,rP 1 OP),(29,rP 2 OQ),(36,rP 15 OR),(52,rP 17 OS),(70,rP 9 Ce),(71,rP 9 Ce),(72,rP 10 Cf),(73,rP 10 Cf),(74,rP 11 Cg),(75,rP 11 Cg),(89,rP 17 OT),(90,rP 15 OU),(94,rP 19 OV),(109,rF 2 V5),(110,rF 6 V6),(111,rP 1 H3),(112,rP 1 H4),(124,rP 1 A124),(135,rP 1 H6),(138,rP 2 vG),(142,rP 13 vH),(144,rP 3 vG),(145,rP 13 vH),(153,rP 1 H7),(154,rG 3 RW),(155,rG 14 RX),(156,rP 8 H8),(157,rG 13 O9),(159,rP 1 H9),(160,rP 3 Ia),(169,rP 14 vI),(170,rP 15 vQ),(175,rP 12 vI),(186,rP 16 vW),(189,rP 6 vT),(208,rP 1 vJ),(209,rP 4 vK),(210,rP 8 vL),(211,rP 6 Ib),(212,dr gX gQ 5 212),(213,dr gX gQ 5 213),(214,rP 6 Ig),(215,rP 6 vM),(216,rP 2 vJ),(217,rP 4 vK),(218,rP 8 Ih),(219,rP 6 vM),(220,rP 2 vN),(221,rP 2 vN),(242,rP 1 Ii),(249,rP 1 Ij),(254,rP 1 Ik),(264,rP 15 vP),(265,rP 16 vO),(266,rF 14 V7),(271,rP 17 vP),(272,rP 18 vO),(273,rP 13 vQ),(274,rP 13 vR),(295,rP 5 vS),(296,rF 5 V8),(297,rF 3 V9),(298,rF 3 Wa),(315,rP 6 vT),(316,rP 5 vZ),(336,rP 1 qd),(349,rP 1 vU),(353,rP 12 vV),(354,rP 2 Il),(355,rP 1 Im),(357,rP 2 vU),(358,rP 12 vV),(359,rP 1 Io),(374,rP 3 Ip),(375,rP 1 Iq),(376,rP 2 Ir),(377,rP 2 Is),(378,rP 3 It),(379,rP 7 Iu),(380,rG 12 Sb),(403,rP 13 Iv),(408,rP 3 Iw),(409,rP 11 Ix),(410,rP 14 vW),(417,rP 13 Iy),(418,rP 5 wi),(424,rP 5 vS),(440,rP 1 vX),(441,rP 3 Iz),(442,rP 2 IA),(443,rP 7 vY),(444,dr gX gQ 5 444),(445,dr gX gQ 5 445),(446,dr gX gQ 5 446),(447,dr gX gQ 5 447),(448,dr gX gQ 5 448),(449,dr gX gQ 5 449),(450,rG 2 Sd),(451,rP 5 vZ),(452,rG 1 Se),(453,rP 1 ID),(454,rP 1 IE),(455,rP 1 vX),(456,rP 3 IF),(457,rP 7 vL),(458,rP 6 IG),(459,dr gX gQ 5 459),(460,rP 6 IH),(461,rP 2 II),(462,rP 1 IJ),(463,rP 1 IK),(464,rP 1 IL),(470,rP 1 wg),(482,dr gX gQ 5 482),(487,rP 1 IM),(489,rG 1 Sg),(495,dr gX gQ 5 495),(496,dr gX gQ 5 496),(501,rP 6 wv),(502,rG 14 Si),(503,rP 13 IN),(504,rP 13 IP),(508,rP 14 IQ),(509,rG 16 Sj),(510,rP 1 IS),(511,rP 9 v7),(516,rP 2 v8),(530,rP 1 wc),(531,rP 1 IT),(532,rP 2 we),(533,rP 1 wg),(534,rP 3 wh),(535,rF 4 Wb),(536,rP 1 IU),(553,rP 5 wi),(554,rP 3 IV),(572,dr gX gQ 5 572),(580,rP 7 v7),(598,rP 2 IW),(599,rP 1 wc),(600,rP 1 IX),(601,rP 1 IY),(602,rP 6 IZ),(603,rP 1 I0),(604,rP 11 I1),(605,rP 10 I2),(617,rP 1 I3),(618,rP 12 I4),(622,rP 10 I5),(623,rP 12 wj),(624,rP 11 wm),(627,rP 10 wo),(628,rP 12 wj),(629,rP 11 wm),(630,rP 1 we),(631,rP 4 I6),(658,rP 1 wq),(659,rP 1 wu),(660,dr gX gQ 5 660),(661,dr gX gQ 5 661),(662,dr gX gQ 5 662),(663,dr gX gQ 5 663),(664,rG 1 Su),(665,rP 2 qd),(666,rP 1 I7),(667,rP 2 wq),(668,rP 1 wu),(669,rP 6 vY),(670,dr gX gQ 5 670),(671,dr gX gQ 5 671),(672,dr gX gQ 5 672),(673,rP 1 I8),(674,rP 1 I9),(676,dr gX gQ 5 676),(677,dr gX gQ 5 677),(678,dr gX gQ 5 678),(682,dr gX gQ 5 682),(683,rP 1 Ja),(684,dr gX gQ 5 684),(685,dr gX gQ 5 685),(689,rP 7 Jb),(690,rP 1 Jc),(691,rP 6 Jd),(695,rP 13 vR),(696,rP 1 Je),(697,rP 6 Jf),(698,rP 15 Jg),(699,rP 8 Jh),(700,rP 7 Ji),(701,rP 6 wv),(704,rP 1 Jj),(712,rP 10 wo),(714,rP 1 Jk),(734,rP 2 qd),(744,dr gX gQ 5 744),(745,dr gX gQ 5 745),(769,rP 5 Jl),(770,rP 9 wx),(771,rP 10 Jm),(772,rP 9 Jn),(777,rP 11 Jo),(778,rP 10 Jp),(780,rP 9 wx),(782,rP 9 wy),(783,rP 3 wh),(808,dr gX gQ 5 808),(809,dr gX gQ 5 809),(810,dr gX gQ 5 810),(811,dr gX gQ 5 811),(812,rP 3 Jq),(813,dr gX gQ 5 813),(814,dr gX gQ 5 814),(815,rP 1 Jr),(816,dr gX gQ 5 816),(819,dr gX gQ 5 819),(827,dr gX gQ 5 827),(828,dr gX gQ 5 828),(861,rP 9 wy),(882,rP 1 Js),(896,dr gX gQ 5 896),(897,dr gX gQ 5 897),(898,dr gX gQ 5 898),(899,dr gX gQ 5 899),(900,dr gX gQ 5 900),(901,dr gX gQ 5 901),(916,rP 8 wz),(917,rP 2 Jt),(918,rG 9 SC),(919,rP 8 Ju),(920,rP 7 Jv),(921,rG 7 Pm),(924,rP 1 Jw),(925,rP 8 wz),(926,rP 8 wA),(927,rP 1 v8),(946,dr gX gQ 5 946),(947,dr gX gQ 5 947),(948,dr gX gQ 5 948),(949,dr gX gQ 5 949),(950,dr gX gQ 5 950),(951,dr gX gQ 5 951),(952,dr gX gQ 5 952),(953,dr gX gQ 5 953),(954,dr gX gQ 5 954),(955,dr gX gQ 5 955),(956,dr gX gQ 5 956),(957,dr gX gQ 5 957),(980,rP 8 wA),(1006,dr gX gQ 5 1006),(1007,dr gX gQ 5 1007),(1008,dr gX gQ 5 1008),(1019,rP 7 sC),(1020,rP 6 sD),(1021,rP 7 EI),(1023,rP 7 sC),(1024,rP 6 sD),(1025,rP 6 sE),(1031,dr gX gQ 5 1031),(1032,dr gX gQ 5 1032),(1033,dr gX gQ 5 1033),(1034,dr gX gQ 5 1034),(1035,dr gX gQ 5 1035),(1036,dr gX gQ 5 1036),(1055,rP 6 sE),(1079,dr gX gQ 5 1079),(1086,rP 5 sF),(1087,rP 5 sF),(1097,dr gX gQ 5 1097),(1098,dr gX gQ 5 1098),(1099,dr gX gQ 5 1099),(1100,dr gX gQ 5 1100),(1126,dr gX gQ 5 1126),(1141,dr gX gQ 5 1141),(1215,rP 20 EJ)]
variable {k u v:Nat}
def O6 (F:Nat->lF):List (Nat×ax)->Prop
 |[]=>True
 |p::r=>lk a8 p.1 lq=F p.1/\O6 F r
def O6.ok {F:Nat->lF}:∀{l:List (Nat×ax)},O6 F l->∀f a,lk (l.map fun p=>(p.1,some p.2)) f none=some a->lk a8 f lq=F f
 |[],_,f,a,h=>by simp[lk]at h
 |p::r,h,f,a,h1=>by
  simp only[List.map_cons,lk]at h1;cases h2:Nat.beq p.1 f with
  |true=>rw[<-Nat.eq_of_beq_eq_true h2];exact h.1
  |false=>rw[h2]at h1;exact h.2.ok f a h1
def dJ:∀f a,gX f=some a->lk a8 f lq=dr gX gQ 5 f:=O6.ok (l:=tbT) ⟨rfl,rfl,rfl,rfl,rfl,rfl,rfl,rfl,rfl,rfl,rfl,rfl,rfl,rfl,rfl,rfl,rfl,rfl,rfl,rfl,rfl,rfl,rfl,rfl,rfl,rfl,rfl,rfl,rfl,rfl,rfl,rfl,rfl,rfl,rfl,rfl,rfl,rfl,rfl,rfl,rfl,rfl,rfl,rfl,rfl,rfl,rfl,rfl,rfl,rfl,rfl,rfl,rfl,rfl,rfl,rfl,rfl,rfl,rfl,rfl,rfl,rfl,rfl,rfl,rfl,rfl,rfl,rfl,rfl,rfl,rfl,rfl,trivial⟩
def G25 (hk:1<k:=by decide):C25 (under a8 k u):=bA
def G29 (hk:2<k:=by decide):C29 (under a8 k u):=bA
def G36 (hk:15<k:=by decide):C36 (under a8 k u):=bA
def G52 (hk:17<k:=by decide):C52 (under a8 k u):=bA
def G70 (hk:9<k:=by decide):C70 (under a8 k u):=bA
def G71 (hk:9<k:=by decide):C71 (under a8 k u):=bA
def G72 (hk:10<k:=by decide):C72 (under a8 k u):=bA
def G73 (hk:10<k:=by decide):C73 (under a8 k u):=bA
def G74 (hk:11<k:=by decide):C74 (under a8 k u):=bA
def G75 (hk:11<k:=by decide):C75 (under a8 k u):=bA
def G89 (hk:17<k:=by decide):C89 (under a8 k u):=bA
def G90 (hk:15<k:=by decide):C90 (under a8 k u):=bA
def G94 (hk:19<k:=by decide):C94 (under a8 k u):=bA
def sJ (hk:2<k:=by decide):rr (under a8 k u):=fun g n hp0 hp1=>UK X1 hk fun T h=>h g n hp0 hp1
def G110 (hk:6<k:=by decide):Wd (under a8 k u):=fun g nm v most hp0 hp1=>UK X2 hk fun T h=>h g nm v most hp0 hp1
def SH (hk:1<k:=by decide):O7 (under a8 k u):=bA
def SI (hk:1<k:=by decide):O8 (under a8 k u):=bA
def G124 (hk:1<k:=by decide):We (under a8 k u):=fun s b hp=>ZZ PT (.inl hk) fun T h=>h.1 s b hp
def YL (hk:1<k:=by decide):Q8 (under a8 k u):=fun s hp=>ZZ PT (.inl hk) fun T h=>h.2 s hp
def Yc (hk:1<k:=by decide):RR (under a8 k u):=bA
def Yd (hk:2<k:=by decide):RS (under a8 k u):=bA
def G142 (hk:13<k:=by decide):Wf (under a8 k u):=bA
def Ye (hk:3<k:=by decide):RV (under a8 k u):=bA
def G145 (hk:13<k:=by decide):Wg (under a8 k u):=bA
def G153 (hk:1<k:=by decide):Wh (under a8 k u):=bA
def G154 (hk:3<k:=by decide):RW (under a8 k u):=fun g few hp0 nx m K h0 hx hK=>Kk (.inl hk) fun T _ h=>h g few hp0 nx m K h0 hx hK
def G155 (hk:14<k:=by decide):RX (under a8 k u):=fun g n nm ft cs kk E most hE hp0 nx m K hx hW hK=>Kk (.inl hk) fun T _ h=>h g n nm ft cs kk E most hE hp0 nx m K hx hW hK
def Yf (hk:8<k:=by decide):RY (under a8 k u):=bA
def Yg (hk:13<k:=by decide):O9 (under a8 k u):=fun g n nm ft cs kk E hE hp0 nx m K hx hW hK=>Kk (.inl hk) fun T _ h=>h g n nm ft cs kk E hE hp0 nx m K hx hW hK
def G159 (hk:1<k:=by decide):Wi (under a8 k u):=bA
def G160 (hk:3<k:=by decide):Wj (under a8 k u):=bA
def Yh (hk:14<k:=by decide):RZ (under a8 k u):=bA
def Yi (hk:15<k:=by decide):R0 (under a8 k u):=bA
def Yj (hk:12<k:=by decide):R1 (under a8 k u):=bA
def Yk (hk:16<k:=by decide):R2 (under a8 k u):=bA
def G189 (hk:6<k:=by decide):Wk (under a8 k u):=bA
def Lv (hk:1<k:=by decide):Jz (under a8 k u):=bA
def wC (hk:4<k:=by decide):uA (under a8 k u):=bA
def G210 (hk:8<k:=by decide):Wl (under a8 k u):=bA
def Yl (hk:6<k:=by decide):R3 (under a8 k u):=bA
def G214 (hk:6<k:=by decide):Wn (under a8 k u):=bA
def Yn (hk:6<k:=by decide):R5 (under a8 k u):=bA
def JF (hk:2<k:=by decide):EW (under a8 k u):=bA
def rv (hk:4<k:=by decide):qB (under a8 k u):=bA
def G218 (hk:8<k:=by decide):Wo (under a8 k u):=bA
def Yo (hk:6<k:=by decide):R6 (under a8 k u):=bA
def G220 (hk:2<k:=by decide):Wp (under a8 k u):=bA
def G221 (hk:2<k:=by decide):Wq (under a8 k u):=bA
def SJ (hk:1<k:=by decide):Pa (under a8 k u):=bA
def SK (hk:1<k:=by decide):Pb (under a8 k u):=bA
def G254 (hk:1<k:=by decide):Wr (under a8 k u):=bA
def SL (hk:15<k:=by decide):Pc (under a8 k u):=bA
def Yp (hk:16<k:=by decide):R7 (under a8 k u):=bA
def G266 (hk:14<k:=by decide):Ws (under a8 k u):=fun g l hp0 hp1=>UK X4 hk fun T h=>h g l hp0 hp1
def Yq (hk:17<k:=by decide):R8 (under a8 k u):=bA
def G272 (hk:18<k:=by decide):Wt (under a8 k u):=bA
def G273 (hk:13<k:=by decide):Wu (under a8 k u):=bA
def G274 (hk:13<k:=by decide):Wv (under a8 k u):=bA
def Lw (hk:5<k:=by decide):JA (under a8 k u):=bA
def G296 (hk:5<k:=by decide):Ww (under a8 k u):=fun g own hp0=>UK X5 hk fun T h=>h g own hp0
def Yr (hk:3<k:=by decide):R9 (under a8 k u):=fun g own hp0=>UK X6 hk fun T h=>h g own hp0
def G298 (hk:3<k:=by decide):Wx (under a8 k u):=fun g l hp0 hp1=>UK X7 hk fun T h=>h g l hp0 hp1
def G315 (hk:6<k:=by decide):Wy (under a8 k u):=bA
def G316 (hk:5<k:=by decide):Wz (under a8 k u):=bA
def G336 (hk:1<k:=by decide):WA (under a8 k u):=bA
def Lx (hk:1<k:=by decide):JB (under a8 k u):=bA
def Ys (hk:12<k:=by decide):Sa (under a8 k u):=bA
def G354 (hk:2<k:=by decide):WB (under a8 k u):=bA
def G355 (hk:1<k:=by decide):WC (under a8 k u):=bA
def Ly (hk:2<k:=by decide):JC (under a8 k u):=bA
def Pn (hk:12<k:=by decide):Lk (under a8 k u):=bA
def G359 (hk:1<k:=by decide):WD (under a8 k u):=bA
def G374 (hk:3<k:=by decide):WE (under a8 k u):=bA
def Po (hk:1<k:=by decide):Ll (under a8 k u):=bA
def SM (hk:2<k:=by decide):Pd (under a8 k u):=bA
def G377 (hk:2<k:=by decide):WG (under a8 k u):=bA
def G378 (hk:3<k:=by decide):WH (under a8 k u):=bA
def G379 (hk:7<k:=by decide):WI (under a8 k u):=bA
def G380 (hk:12<k:=by decide):Sb (under a8 k u):=fun g xs hp0 kk E hE nx lc m K hn h0 h1 h10 hK=>Kk (.inl hk) fun T _ h=>h g xs hp0 kk E hE nx lc m K hn h0 h1 h10 hK
def G403 (hk:13<k:=by decide):WJ (under a8 k u):=bA
def G408 (hk:3<k:=by decide):WK (under a8 k u):=bA
def G409 (hk:11<k:=by decide):WL (under a8 k u):=bA
def G410 (hk:14<k:=by decide):WM (under a8 k u):=bA
def G417 (hk:13<k:=by decide):WN (under a8 k u):=bA
def G418 (hk:5<k:=by decide):WO (under a8 k u):=bA
def Lz (hk:5<k:=by decide):JD (under a8 k u):=bA
def G440 (hk:1<k:=by decide):WQ (under a8 k u):=bA
def G441 (hk:3<k:=by decide):WR (under a8 k u):=bA
def Yt (hk:2<k:=by decide):Sc (under a8 k u):=bA
def G443 (hk:7<k:=by decide):WS (under a8 k u):=bA
def G450 (hk:2<k:=by decide):Sd (under a8 k u):=fun ws t l lw nx m K h1 h2 h3 h4 h5 hK=>Kk (.inl hk) fun T _ h=>h ws t l lw nx m K h1 h2 h3 h4 h5 hK
def G451 (hk:5<k:=by decide):WV (under a8 k u):=bA
def G452 (hk:1<k:=by decide):Se (under a8 k u):=fun ds st K h1=>Kk (.inl hk) fun T _ h=>h ds st K h1
def Yu (hk:1<k:=by decide):Sf (under a8 k u):=bA
def SN (hk:1<k:=by decide):Pe (under a8 k u):=bA
def G455 (hk:1<k:=by decide):WW (under a8 k u):=bA
def G456 (hk:3<k:=by decide):WX (under a8 k u):=bA
def G457 (hk:7<k:=by decide):WY (under a8 k u):=bA
def G458 (hk:6<k:=by decide):WZ (under a8 k u):=bA
def G460 (hk:6<k:=by decide):W1 (under a8 k u):=bA
def G461 (hk:2<k:=by decide):W2 (under a8 k u):=bA
def G462 (hk:1<k:=by decide):W3 (under a8 k u):=bA
def G463 (hk:1<k:=by decide):W4 (under a8 k u):=bA
def G464 (hk:1<k:=by decide):W5 (under a8 k u):=bA
def SO (hk:1<k:=by decide):Pf (under a8 k u):=bA
def G487 (hk:1<k:=by decide):W6 (under a8 k u):=bA
def G489 (hk:1<k:=by decide):Sg (under a8 k u):=fun ds st K h1=>Kk (.inl hk) fun T _ h=>h ds st K h1
def G501 (hk:6<k:=by decide):W7 (under a8 k u):=bA
def G502 (hk:14<k:=by decide):Si (under a8 k u):=fun shop w x c kvs hp0 hp1 nx lm lc m K hlc hlm h1 h2 hK=>Kk (.inl hk) fun T _ h=>h shop w x c kvs hp0 hp1 nx lm lc m K hlc hlm h1 h2 hK
def G503 (hk:13<k:=by decide):W8 (under a8 k u):=bA
def G504 (hk:13<k:=by decide):W9 (under a8 k u):=bA
def G508 (hk:14<k:=by decide):Xa (under a8 k u):=bA
def G509 (hk:16<k:=by decide):Sj (under a8 k u):=fun shop w x c hp0 nx lc m K hlt h1 hK=>Kk (.inl hk) fun T _ h=>h shop w x c hp0 nx lc m K hlt h1 hK
def G510 (hk:1<k:=by decide):Xb (under a8 k u):=bA
def Yv (hk:9<k:=by decide):Sk (under a8 k u):=bA
def Yw (hk:2<k:=by decide):Sl (under a8 k u):=bA
def G530 (hk:1<k:=by decide):Xc (under a8 k u):=bA
def Yx (hk:1<k:=by decide):Sm (under a8 k u):=bA
def SP (hk:2<k:=by decide):Pg (under a8 k u):=bA
def Pp (hk:1<k:=by decide):Lm (under a8 k u):=bA
def G534 (hk:3<k:=by decide):Xd (under a8 k u):=bA
def G535 (hk:4<k:=by decide):Xe (under a8 k u):=fun g own hp0=>UK X8 hk fun T h=>h g own hp0
def G536 (hk:1<k:=by decide):Xf (under a8 k u):=bA
def G553 (hk:5<k:=by decide):Xg (under a8 k u):=bA
def G554 (hk:3<k:=by decide):Xh (under a8 k u):=bA
def Pq (hk:7<k:=by decide):Ln (under a8 k u):=bA
def G598 (hk:2<k:=by decide):Xi (under a8 k u):=bA
def Yz (hk:1<k:=by decide):So (under a8 k u):=bA
def YA (hk:1<k:=by decide):Sp (under a8 k u):=bA
def SQ (hk:1<k:=by decide):Ph (under a8 k u):=bA
def G602 (hk:6<k:=by decide):Xj (under a8 k u):=bA
def SR (hk:1<k:=by decide):Pj (under a8 k u):=bA
def G604 (hk:11<k:=by decide):Xk (under a8 k u):=bA
def G605 (hk:10<k:=by decide):Xl (under a8 k u):=bA
def G617 (hk:1<k:=by decide):Xm (under a8 k u):=bA
def G618 (hk:12<k:=by decide):Xn (under a8 k u):=bA
def G622 (hk:10<k:=by decide):Xo (under a8 k u):=bA
def G623 (hk:12<k:=by decide):Xp (under a8 k u):=bA
def YB (hk:11<k:=by decide):Sq (under a8 k u):=bA
def G627 (hk:10<k:=by decide):Xq (under a8 k u):=bA
def G628 (hk:12<k:=by decide):Xr (under a8 k u):=bA
def YC (hk:11<k:=by decide):Sr (under a8 k u):=bA
def Pr (hk:1<k:=by decide):Lo (under a8 k u):=bA
def G631 (hk:4<k:=by decide):Xs (under a8 k u):=bA
def SS (hk:1<k:=by decide):Pk (under a8 k u):=bA
def YD (hk:1<k:=by decide):Ss (under a8 k u):=bA
def G664 (hk:1<k:=by decide):Su (under a8 k u):=fun ds st K h1=>Kk (.inl hk) fun T _ h=>h ds st K h1
def YE (hk:2<k:=by decide):Sv (under a8 k u):=bA
def G666 (hk:1<k:=by decide):Xt (under a8 k u):=bA
def SU (hk:2<k:=by decide):Pl (under a8 k u):=bA
def YF (hk:1<k:=by decide):Sw (under a8 k u):=bA
def G669 (hk:6<k:=by decide):Xu (under a8 k u):=bA
def G673 (hk:1<k:=by decide):Xw (under a8 k u):=bA
def G674 (hk:1<k:=by decide):Xx (under a8 k u):=bA
def G683 (hk:1<k:=by decide):Xy (under a8 k u):=bA
def G689 (hk:7<k:=by decide):Xz (under a8 k u):=bA
def G690 (hk:1<k:=by decide):XA (under a8 k u):=bA
def G691 (hk:6<k:=by decide):XB (under a8 k u):=bA
def G695 (hk:13<k:=by decide):XC (under a8 k u):=bA
def G696 (hk:1<k:=by decide):XD (under a8 k u):=bA
def G697 (hk:6<k:=by decide):XE (under a8 k u):=bA
def G698 (hk:15<k:=by decide):XF (under a8 k u):=bA
def G699 (hk:8<k:=by decide):XG (under a8 k u):=bA
def G700 (hk:7<k:=by decide):XH (under a8 k u):=bA
def G701 (hk:6<k:=by decide):XI (under a8 k u):=bA
def G704 (hk:1<k:=by decide):XJ (under a8 k u):=bA
def G712 (hk:10<k:=by decide):XK (under a8 k u):=bA
def G714 (hk:1<k:=by decide):XL (under a8 k u):=bA
def YH (hk:2<k:=by decide):Sy (under a8 k u):=bA
def G769 (hk:5<k:=by decide):XM (under a8 k u):=bA
def Ps (hk:9<k:=by decide):Lp (under a8 k u):=bA
def G771 (hk:10<k:=by decide):XN (under a8 k u):=bA
def G772 (hk:9<k:=by decide):XO (under a8 k u):=bA
def G777 (hk:11<k:=by decide):XP (under a8 k u):=bA
def YI (hk:10<k:=by decide):Sz (under a8 k u):=bA
def YJ (hk:9<k:=by decide):SA (under a8 k u):=bA
def G782 (hk:9<k:=by decide):XQ (under a8 k u):=bA
def G783 (hk:3<k:=by decide):XR (under a8 k u):=bA
def G812 (hk:3<k:=by decide):XS (under a8 k u):=bA
def YK (hk:1<k:=by decide):SB (under a8 k u):=bA
def G861 (hk:9<k:=by decide):XT (under a8 k u):=bA
def G882 (hk:1<k:=by decide):XU (under a8 k u):=bA
def Pt (hk:8<k:=by decide):Lq (under a8 k u):=bA
def G917 (hk:2<k:=by decide):XV (under a8 k u):=bA
def G918 (hk:9<k:=by decide):SC (under a8 k u):=fun l hp0 nx lo m K h1 h2 hK=>Kk (.inl hk) fun T _ h=>h l hp0 nx lo m K h1 h2 hK
def YM (hk:8<k:=by decide):SD (under a8 k u):=bA
def YN (hk:7<k:=by decide):SE (under a8 k u):=bA
def YO (hk:7<k:=by decide):Pm (under a8 k u):=fun out f t hp0 nx lo m K h1 h2 hK=>Kk (.inl hk) fun T _ h=>h out f t hp0 nx lo m K h1 h2 hK
def G924 (hk:1<k:=by decide):XW (under a8 k u):=bA
def YP (hk:8<k:=by decide):SF (under a8 k u):=bA
def G926 (hk:8<k:=by decide):XX (under a8 k u):=bA
def G927 (hk:1<k:=by decide):XY (under a8 k u):=bA
def G980 (hk:8<k:=by decide):XZ (under a8 k u):=bA
def Ls (hk:7<k:=by decide):GS (under a8 k u):=bA
def Ck (hk:6<k:=by decide):zc (under a8 k u):=bA
def X9 (hk:7<k:=by decide):Q5 (under a8 k u):=bA
def Q9 (hk:7<k:=by decide):Li (under a8 k u):=bA
def Ra (hk:6<k:=by decide):Lj (under a8 k u):=bA
def Ya (hk:6<k:=by decide):Q6 (under a8 k u):=bA
def Yb (hk:6<k:=by decide):Q7 (under a8 k u):=bA
def Lt (hk:5<k:=by decide):GU (under a8 k u):=bA
def Lu (hk:5<k:=by decide):GV (under a8 k u):=bA
def Ym (hk:5<k:=by decide):R4 (under a8 k u):=fun s hp=>oY rfl hk (Zw hp)
def YG (hk:5<k:=by decide):Sx (under a8 k u):=fun s hp=>oY rfl hk (ZC hp)
def G448 (hk:5<k:=by decide):WU (under a8 k u):=fun s hp=>oY rfl hk (Zz hp)
def G672 (hk:5<k:=by decide):Xv (under a8 k u):=fun s hp=>oY rfl hk (ZD hp)
def G444 (hk:5<k:=by decide):WT (under a8 k u):=fun s hp=>oY rfl hk (Zy hp)
def Yy (hk:5<k:=by decide):Sn (under a8 k u):=fun s hp=>oY rfl hk (ZB hp)
def G213 (hk:5<k:=by decide):Wm (under a8 k u):=fun l hp=>oY rfl hk (Zx hp)
def G459 (hk:5<k:=by decide):W0 (under a8 k u):=fun l hp=>oY rfl hk (ZA hp)
def iq (u:Nat):O1 (under a8 5 u) gQ:=Ub Lx Ly Lv JF SS SU YE YH Pp SO G124 YL G683 G487 G254 YK SK SJ wC rv
end
def aK:(Go.Proofs.Tryz.prog).follows .mixedOrders=true:=sG
abbrev Ow [di](f n:Nat):Prop:=VT Go.Proofs.Tryz.prog uP Fi a8 f n
abbrev Cp (f:Nat)(a:ax):Prop:=ER Go.Proofs.Tryz.prog uP Fi f a
def ck {f:Nat}{a:ax}(h:((Go.Proofs.Tryz.prog).funcs[f]?).map (fun f=>(compile Go.Proofs.Tryz.prog uP Fi f,f.name== "runtime.NumGoroutine"))=some (some a,false):=by kernel_rfl):Cp f a:=h
end Go.Abs
