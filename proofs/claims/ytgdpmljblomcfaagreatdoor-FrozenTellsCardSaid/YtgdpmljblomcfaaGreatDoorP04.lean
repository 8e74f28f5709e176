/- A part of the proofs. -/
import Derived.Test.YtgdpmljblomcfaaGreatDoorP03
set_option linter.all false
set_option maxRecDepth 60000
set_option maxHeartbeats 2000000
noncomputable section
namespace Go.Abs
section
def B5 (m:List (Nat×bm))(l k n:Nat):Bool:=match look m l with
 |some (.buf k' es)=>decide (k=k')&&decide (n<=es.length)
 |_=>false
theorem wP {m:List (Nat×bm)}{l k n:Nat}(h:B5 m l k n=true):dW m l k n:=by
 unfold B5 at h;unfold dW;split at h<;>simp_all
def dT {α:Type}(b:Bool)(a:Option α):Option α:=match b with|true=>a|false=>none
def cB {α:Type}{b:Bool}{a:Option α}{x:α}(h:dT b a=some x):b=true/\a=some x:=by cases b<;>simp_all[dT]
def Rz {d e:D}(h:dT d.aR (some d)=some e):d.aR=true/\d=e:=⟨(cB h).1,aW (cB h).2⟩
def Xv (f:D->Option D):List D->Option (List D)
 |[]=>some []
 |d::r=>match f d with
  |some e=>match Xv f r with
   |some s=>some (e::s)
   |none=>none
  |none=>none
def puC (m:List (Nat×bm))(pv:List Sh->D->Option D):Sh->D->Option D
 | .a,d=>match d with
  | .aJ=>some (.sl 0 [])
  |d=>dT d.aR (some d)
 | .sl k cs,d=>match d with
  | .aJ=>some (.sl k [])
  | .own l k' i c=>dT (B5 m l k' (i+c)) ((Xv (pv cs) (((aH m l).drop i).take c)).map (.sl k'))
  |d=>dT d.aR (some d)
 | .pt cs,d=>match d with
  | .ptr l k i o=>dT (B5 m l k 0) ((Xv (pv cs) (aH m l)).map fun es=>.ref k es i o)
  |d=>dT d.aR (some d)
 | .kp _,_=>none
def puL (pc:Sh->D->Option D):List Sh->List D->Option (List D)
 |[],ds=>dT (aL ds) (some ds)
 |_::_,[]=>some []
 |s::r,d::ds=>match pc s d with
  |some e=>match puL pc r ds with
   |some es=>some (e::es)
   |none=>none
  |none=>none
def puV (m:List (Nat×bm)):Nat->List Sh->D->Option D
 |0,_,_=>none
 |n+1,ss,d=>match ss with
  |[]=>dT d.aR (some d)
  |s::r=>match d with
   | .agg cs=>(puL (puC m (puV m n)) (s::r) cs).map .agg
   |d=>puC m (puV m n) s d
def puS (m:List (Nat×bm)):List (List Sh)->List D->Option (List D)
 |_,[]=>some []
 |[],d::r=>match puV m 9 [.a] d with
  |some e=>match puS m [] r with
   |some es=>some (e::es)
   |none=>none
  |none=>none
 |s::ss,d::r=>match puV m 9 s d with
  |some e=>match puS m ss r with
   |some es=>some (e::es)
   |none=>none
  |none=>none
def Rg {P:D->Prop}{g f:D->_}(hf:∀d e,f d=some e->P d/\g d=e):∀{l r:List D},Xv f l=some r->(∀d∈l,P d)/\l.map g=r:=by
 intro l;induction l<;>grind [Xv]
section
variable {m:List (Nat×bm)}
def ajQ {pv:List Sh->D->Option D}(hv:∀s d e,pv s d=some e->gL m s d/\iX m s d=e){s:Sh}{d e:D}(h:puC m pv s d=some e):iv m s d/\kM m s d=e:=by
 cases s with
 |a=>cases d<;>simp only[puC,iv,kM]at h⊢ <;>first|exact Rz h|exact⟨rfl,aW h⟩
 |kp cs=>cases h
 |sl k cs=>
  cases d<;>simp only[puC,iv,kM]at h⊢
  case own l k' i c=>
   obtain⟨h1,h2⟩:=cB h;obtain⟨es,h3,rfl⟩:=dd.1 h2;obtain⟨h4,h5⟩:=Rg (hv cs) h3;exact⟨⟨wP h1,h4⟩,by rw[h5]⟩
  all_goals first|exact Rz h|exact⟨rfl,aW h⟩
 |pt cs=>
  cases d<;>simp only[puC,iv,kM]at h⊢
  case ptr l k i o=>
   obtain⟨h1,h2⟩:=cB h;obtain⟨es,h3,rfl⟩:=dd.1 h2;obtain⟨h4,h5⟩:=Rg (hv cs) h3;exact⟨⟨wP h1,h4⟩,by rw[h5]⟩
  all_goals first|exact Rz h|exact⟨rfl,aW h⟩
def ajR {pc:Sh->D->Option D}(hc:∀s d e,pc s d=some e->iv m s d/\kM m s d=e):∀{ss:List Sh}{ds es:List D},puL pc ss ds=some es->kf m ss ds/\nv m ss ds=es:=by
 intro ss;induction ss with
 |nil=>intro ds es h;simp only[kf,nv];exact⟨(cB h).1,aW (cB h).2⟩
 |cons s r ih=>
  intro ds es h;cases ds with
  |nil=>simp_all[puL,kf,nv]
  |cons d ds=>
   simp only[puL]at h;simp only[kf,nv]
   grind
theorem Yi:∀{n:Nat}{ss:List Sh}{d e:D},puV m n ss d=some e->gL m ss d/\iX m ss d=e:=by
 intro n;induction n with
 |zero=>intro ss d e h;cases h
 |succ n ih=>
  intro ss d e h;have hc:∀s d e,puC m (puV m n) s d=some e->iv m s d/\kM m s d=e:=fun s d e h=>ajQ (fun s d e h=>ih h) h
  cases ss with
  |nil=>simp only[gL,iX];exact Rz h
  |cons s r=>
   cases d
   case agg cs=>
    simp only[puV]at h;obtain⟨es,h3,rfl⟩:=dd.1 h;have:=ajR hc h3;simp only[gL,iX];exact⟨this.1,by rw[this.2]⟩
   all_goals simp only[puV]at h;simp only[gL,iX];exact hc _ _ _ h
def Yh:∀{sh:List (List Sh)}{ds es:List D},puS m sh ds=some es->je m sh ds/\iB m sh ds=es:=by
 intro sh ds;induction ds generalizing sh with
 |nil=>intro es h;cases sh<;>simp_all[puS,je,iB]
 |cons d r ih=>
  intro es h;cases sh<;>simp only[puS]at h<;>simp only[je,iB]<;>grind [Yi]
end
def QU (J:Src->aX)(len:Nat):List (Nat×Nat×Src)->Bool
 |[]=>true
 |(o,n,s)::r=>((J s).ok&&decide ((J s).d.cells.length=n))&&(decide (o+n<=len)&&QU J len r)
def Cf (J:Src->aX)(k n:Nat):List (Nat×Src)->Bool
 |[]=>true
 |(i,s)::r=>(decide (i<n)&&(J s).ok)&&(decide ((J s).d.cells.length=k)&&Cf J k n r)
def TS (J:Src->aX):List Src->Bool
 |[]=>true
 |s::r=>(J s).ok&&TS J r
theorem Wt {J:Src->aX}{len:Nat}:∀{l:List (Nat×Nat×Src)},QU J len l=true->zX J len l:=by
 intro l;induction l<;>grind [QU,zX]
theorem Tf {J:Src->aX}{k n:Nat}:∀{l:List (Nat×Src)},Cf J k n l=true->qz J k n l:=by
 intro l;induction l<;>grind [Cf,qz]
def Hq {J:Src->aX}:∀{l:List Src},TS J l=true->BJ J l:=by
 intro l;induction l<;>grind [TS,BJ]
def ldB (m:List (Nat×bm))(n:Nat):D->Bool
 | .ptr l k i o=>B5 m l k (i+1)&&decide (o+n<=k)
 | .ref k es i o=>decide (i<es.length)&&decide (o+n<=k)
 |_=>false
theorem Xi {m:List (Nat×bm)}{n:Nat}{d:D}(h:ldB m n d=true):Lm m n d:=by
 cases d<;>simp_all[ldB,Lm]<;>exact wP h.1
def binB (op:BinOp):D->D->Bool
 | .int k a,.int k' b=>match op with
  | .quo=>decide (k=k')&&decide (b≠0)
  | .rem=>decide (k=k')&&decide (b≠0)
  | .shl=>false
  | .shr=>false
  |_=>decide (k=k')
 | .str a,.str b=>match op with
  | .add=>decide (a.length+b.length<=9223372036854775807)
  | .eql=>true| .neq=>true| .lss=>true| .geq=>true| .leq=>true| .gtr=>true
  |_=>false
 |_,_=>false
theorem abq {op:BinOp}{a b:D}(h:binB op a b=true):AX op a b:=by
 cases a<;>cases b<;>cases op<;>simp_all[binB,AX]
def EF (o:Option D)(hi:Nat):Bool:=match o with
 |none=>true
 |some (.int _ n)=>decide (0<=n)&&decide (n<=hi)
 |_=>false
theorem abu {o:Option D}{hi:Nat}(h:EF o hi=true):m9 o hi:=by
 unfold EF at h;unfold m9;split at h<;>simp_all
def TR (J:Src->aX):Option Src->Bool
 |none=>true
 |some s=>(J s).ok
theorem ac6 {J:Src->aX}{o:Option Src}(h:TR J o=true):LG J o:=by cases o<;>simp_all[TR,LG]
def elsB (m:List (Nat×bm))(k:Nat):D->Bool
 | .sl k' _=>decide (k'=k)
 | .own l k' i n=>decide (k'=k)&&B5 m l k (i+n)
 | .str _=>decide (k=1)
 | .aJ=>true
 |_=>false
theorem ab9 {m:List (Nat×bm)}{k:Nat}{d:D}(h:elsB m k d=true):Cc m k d:=by
 cases d<;>simp_all[elsB,Cc]<;>exact wP h.2
def oblB (J:Src->aX)(m:List (Nat×bm)):ax->Bool
 | .mv x=>(J x).ok
 | .pick c a b=>(J c).ok&&match(J c).d with
  | .bool true=>(J a).ok
  | .bool false=>(J b).ok
  |_=>false
 | .box k x=>(J x).ok&&decide ((J x).d.cells.length=k)
 | .build z ps=>QU J z.length ps
 | .bsl k z n ps=>decide (z.cells.length=k)&&Cf J k n ps
 | .ld n _ p=>(J p).ok&&ldB m n (J p).d
 | .st n p v=>((J p).ok&&(J v).ok)&&(decide ((J v).d.cells.length=n)&&match(J p).d with
  | .ptr l k i o=>B5 m l k (i+1)&&decide (o+n<=k)
  |_=>false)
 | .nilck x=>(J x).ok&&match(J x).d with| .ptr .. =>true| .ref .. =>true|_=>false
 | .bin op x y=>((J x).ok&&(J y).ok)&&binB op (J x).d (J y).d
 | .mn _ x y=>((J x).ok&&(J y).ok)&&match(J x).d,(J y).d with| .int _ _,.int _ _=>true|_,_=>false
 | .un op x=>(J x).ok&&match op,(J x).d with
  | .not,.bool _=>true
  | .neg,.int _ _=>true
  |_,_=>false
 | .cvi _ x=>(J x).ok&&match(J x).d with| .int _ _=>true|_=>false
 | .mks k z ln cp=>((J ln).ok&&(J cp).ok)&&(decide (z.cells.length=k)&&match(J ln).d,(J cp).d with
  | .int _ n,.int _ c=>decide (0<=n)&&(decide (n<=c)&&decide (c<=1073741824))
  |_,_=>false)
 | .slS x lo hi=>((J x).ok&&TR J lo)&&(TR J hi&&match(J x).d with
  | .str s=>EF (dO J hi) s.length&&EF (dO J lo) (dZ (dO J hi) s.length)
  |_=>false)
 | .slA k x lo hi=>((J x).ok&&TR J lo)&&(TR J hi&&match(J x).d with
  | .sl k' es=>decide (k'=k)&&(EF (dO J hi) es.length&&EF (dO J lo) (dZ (dO J hi) es.length))
  | .own _ k' _ n=>decide (k'=k)&&(EF (dO J hi) n&&EF (dO J lo) (dZ (dO J hi) n))
  | .aJ=>EF (dO J hi) 0&&EF (dO J lo) 0
  |_=>false)
 | .slX k x hi mx=>((J x).ok&&(J hi).ok)&&((J mx).ok&&match(J hi).d,(J mx).d with
  | .int _ h,.int _ m=>decide (0<=h)&&(decide (h<=m)&&match(J x).d with
    | .sl k' es=>decide (k'=k)&&decide (m<=es.length)
    | .own _ k' _ n=>decide (k'=k)&&decide (m<=n)
    |_=>false)
  |_,_=>false)
 | .fa _ p=>(J p).ok&&match(J p).d with| .ptr .. =>true| .ref .. =>true|_=>false
 | .fld off n ag x=>(J x).ok&&match(J x).d with| .agg cs=>decide (off+n<=cs.length)&&(ag ||decide (n=1))|_=>false
 | .ia k x i=>((J x).ok&&(J i).ok)&&match(J x).d,(J i).d with
  | .sl k' es,.int _ n=>decide (k'=k)&&(decide (0<=n)&&decide (n<es.length))
  | .own _ k' _ c,.int _ n=>decide (k'=k)&&(decide (0<=n)&&decide (n<c))
  |_,_=>false
 | .iaP n _ x i=>((J x).ok&&(J i).ok)&&match(J x).d,(J i).d with
  | .ptr ..,.int _ c=>decide (0<=c)&&decide (c<n)
  | .ref ..,.int _ c=>decide (0<=c)&&decide (c<n)
  |_,_=>false
 | .ixS x i=>((J x).ok&&(J i).ok)&&match(J x).d,(J i).d with
  | .str s,.int _ n=>decide (0<=n)&&decide (n<s.length)
  |_,_=>false
 | .ixA n k ag x i=>((J x).ok&&(J i).ok)&&((ag ||decide (k=1))&&match(J x).d,(J i).d with
  | .agg cs,.int _ c=>decide (0<=c)&&(decide (c<n)&&decide (cs.length=n*k))
  |_,_=>false)
 | .ext x i=>(J x).ok&&match(J x).d with| .tup ds=>decide (i<ds.length)|_=>false
 | .len x=>(J x).ok&&match(J x).d with| .sl _ _=>true| .own .. =>true| .aJ=>true|_=>false
 | .lenS x=>(J x).ok&&match(J x).d with| .str _=>true|_=>false
 | .app k x y=>((J x).ok&&(J y).ok)&&(elsB m k (J y).d&&match(J x).d with
  | .own l k' i n=>decide (k'=k)&&(B5 m l k (i+n)&&decide (n+(qn m (J y).d).length<=1073741824))
  | .aJ=>decide ((qn m (J y).d).length<=1073741824)
  |_=>false)
 | .appN k y=>(J y).ok&&(elsB m k (J y).d&&decide ((qn m (J y).d).length<=1073741824))
 | .bslI k z n ps=>decide (z.cells.length=k)&&(Cf J k n ps&&aL (lV J (List.replicate n z) ps))
 | .ldU n _ p=>(J p).ok&&match(J p).d with
  | .ptr l k i o=>(B5 m l k (i+1)&&decide (o+n<=k))&& !aL (aH m l)
  | .ref k es i o=>decide (i<es.length)&&decide (o+n<=k)
  |_=>false
 | .ldW n _ p=>(J p).ok&&match(J p).d with
  | .ptr l k i o=>(B5 m l k (i+1)&&decide (o+n<=k))&&decide (4<k)
  | .ref k es i o=>decide (i<es.length)&&decide (o+n<=k)
  |_=>false
 | .ldI n _ p=>(J p).ok&&match(J p).d with
  | .ref k es i o=>decide (i<es.length)&&decide (o+n<=k)
  |_=>false
 | .stU n p v qs=>((J p).ok&&(J v).ok)&&(decide ((J v).d.cells.length=n)&&match(J p).d with
  | .ptr l k i o=>B5 m l k (i+1)&&(decide (o+n<=k)&&(decide (k<=4) ||qs.all fun q=>!(cq (J q).d).contains l))
  |_=>false)
 |_=>false
def ac4 {Y:Ctx}{J:Src->aX}{m:List (Nat×bm)}{i:ax}(h:oblB J m i=true):i.ey Y J m:=by
 cases i<;>simp only[oblB,aN,iD]at h;all_goals simp only[ax.ey]
 all_goals grind [Wt,Tf,wP,Xi,abq,abu,ab9,ac6]
def ax.spec:ax->Bool
 | .callM .. | .callvM .. | .isNl .. =>true
 |_=>false
def KP:Ctx:=⟨fun _ _=>False,fun _ _=>.any,fun _ _ _ _=>False,fun _ _ _=>False,fun _ _ _=>.any,fun _ _ _=>.any,0⟩
def ax.lone:ax->Bool
 | .call .. | .callv .. | .callM .. | .callvM .. | .callF .. | .isNl .. =>false
 |_=>true
def ZL {Y:Ctx}{J:Src->aX}{m:List (Nat×bm)}{L:Nat}{i:ax}(h:i.lone=true):i.val KP J m L=i.val Y J m L:=by
 cases i<;>first|rfl|cases h
def Wc {Y:Ctx}{J:Src->aX}{m:List (Nat×bm)}{L:Nat}{i:ax}(h:i.lone=true):i.bP KP J m L=i.bP Y J m L:=by
 cases i<;>first|rfl|cases h
def Tn (vs:List aX)(i:ax):Option (Nat×Bool)->Bool
 |none=>true
 |some (j,_)=>i.calm&&(!(vs.getD j .un).ok ||(vs.getD j .un).d.isBool)
def G1 {vs:List aX}{i:ax}{g:Option (Nat×Bool)}(h:Tn vs i g=true):UT vs i g:=by
 cases g<;>simp_all[Tn,UT]<;>grind
def Q4 (vs:List aX):Option (Nat×Bool)->Bool
 |none=>true
 |some (j,_)=>!(vs.getD j .un).ok ||(vs.getD j .un).d.isBool
def K5 {vs:List aX}{g:Option (Nat×Bool)}(h:Q4 vs g=true):yT vs g:=by
 cases g<;>simp_all[Q4,yT]<;>grind
abbrev EP:=Nat->List D->Option D
abbrev EM:=Nat->List D->St->Option (D×St)
abbrev EL:=AC->List aX->St->Option (Ex×List aX×St)
def Ko (p:EP)(q:EM):List GI->List aX->List aX->St->Option (List aX×St)
 |[],_,vs,st=>some (vs,{st with nx:=st.nx+vs.length})
 |⟨i,g⟩::r,env,vs,st=>match i with
  | .callM f args=>dT (Q4 vs g) (match flag vs g with
   |true=>dT (TS (Src.ev env vs) args) (match q f (iM (Src.ev env vs) args) {st with nx:=st.nx+vs.length}with
    |some (d,st')=>dT (decide (st.nx+vs.length<=st'.nx)) (Ko p q r env (vs++[⟨true,d⟩]) {st' with nx:=st'.nx-vs.length})
    |none=>none)
   |false=>Ko p q r env (vs++[⟨false,.any⟩]) st)
  | .callvM f args=>dT (Q4 vs g) (match flag vs g with
   |true=>match Src.ev env vs f with
    |⟨true,.fn n caps⟩=>dT (decide (n<2000000)&&TS (Src.ev env vs) args) (match q (NP n) (NO n (iM (Src.ev env vs) args) caps) {st with nx:=st.nx+vs.length}with
     |some (d,st')=>dT (decide (st.nx+vs.length<=st'.nx)) (Ko p q r env (vs++[⟨true,d⟩]) {st' with nx:=st'.nx-vs.length})
     |none=>none)
    |_=>none
   |false=>Ko p q r env (vs++[⟨false,.any⟩]) st)
  | .call f args sh=>dT (Tn vs i g) (match flag vs g with
   |true=>dT (TS (Src.ev env vs) args) (match puS st.m sh (iM (Src.ev env vs) args)with
    |some ds=>match p f ds with
     |some d=>dT (qu (iM (Src.ev env vs) args) d) (Ko p q r env (vs++[⟨true,d⟩]) st)
     |none=>none
    |none=>none)
   |false=>Ko p q r env (vs++[⟨false,.any⟩]) st)
  |i=>dT (i.lone&&Tn vs i g) (match flag vs g with
   |true=>dT (oblB (Src.ev env vs) st.m i) (Ko p q r env (vs++[⟨true,i.val KP (Src.ev env vs) st.m (st.nx+vs.length)⟩]) {st with m:=i.bP KP (Src.ev env vs) st.m (st.nx+vs.length)})
   |false=>Ko p q r env (vs++[⟨false,.any⟩]) {st with m:=i.bP KP (Src.ev env vs) st.m (st.nx+vs.length)})
def Ry (Y:Ctx)(p:EP):Prop:=∀f ds d,p f ds=some d->Y.pre f ds/\Y.val f ds=d
def okQ (Y:Ctx)(q:EM):Prop:=∀f ds st d st',q f ds st=some (d,st')->∀K:D->St->Prop,K d st'->Y.tr f ds st K
def aib {Y:Ctx}{p:EP}{q:EM}(hp:Ry Y p)(hq:okQ Y q){draw:Bool}:∀{ins:List GI}{env vs:List aX}{st:St}{vs':List aX}{st':St},Ko p q ins env vs st=some (vs',st')->∀K:List aX->St->Prop,K vs' st'->eM Y draw ins env vs st K:=by
 intro ins;induction ins with
 |nil=>intro env vs st vs' st' h K hK;simp only[Ko,aD,di]at h;obtain⟨rfl,rfl⟩:=h;exact hK
 |cons gi r ih=>
  obtain⟨i,g⟩:=gi;intro env vs st vs' st' h K hK;have fin:∀{d:D} {m':List (Nat×bm)},i.spec=false->i.k9 draw g=false->UT vs i g->(flag vs g=true->i.ey Y (Src.ev env vs) st.m/\i.val Y (Src.ev env vs) st.m (st.nx+vs.length)=d)->i.bP Y (Src.ev env vs) st.m (st.nx+vs.length)=m'->
    Ko p q r env (vs++[⟨flag vs g,d⟩]) {st with m:=m'} =some (vs',st')->eM Y draw (⟨i,g⟩::r) env vs st K:=by
   intro d m' h0 h1 h2 h3 h4 h5;have h6:=ih h5 K hK;subst h4;rw[show eM Y draw (⟨i,g⟩::r) env vs st K=(UT vs i g/\(flag vs g=true->i.ey Y (Src.ev env vs) st.m)/\((flag vs g=true->i.Kn draw (Src.ev env vs))->∃d,(flag vs g=true->i.val Y (Src.ev env vs) st.m (st.nx+vs.length)=d)/\
    eM Y draw r env (vs++[⟨flag vs g,d⟩]) {st with m:=i.bP Y (Src.ev env vs) st.m (st.nx+vs.length)} K))by
    cases i<;>first|(cases h0;done)|(simp only[eM];rw[h1];rfl)]
   exact⟨h2,fun h=>(h3 h).1,fun _=>⟨d,fun h=>(h3 h).2,h6⟩⟩
  have lon:(dT (i.lone&&Tn vs i g) (match flag vs g with
   |true=>dT (oblB (Src.ev env vs) st.m i) (Ko p q r env (vs++[⟨true,i.val KP (Src.ev env vs) st.m (st.nx+vs.length)⟩]) {st with m:=i.bP KP (Src.ev env vs) st.m (st.nx+vs.length)})
   |false=>Ko p q r env (vs++[⟨false,.any⟩]) {st with m:=i.bP KP (Src.ev env vs) st.m (st.nx+vs.length)}))=some (vs',st')->eM Y draw (⟨i,g⟩::r) env vs st K:=by
   intro h;obtain⟨h1,h2⟩:=cB h;rw[aN]at h1;have h3:=G1 h1.2;have h4:i.spec=false:=by revert h1;cases i<;>simp[ax.spec,ax.lone]
   have h5:i.k9 draw g=false:=by cases g<;>simp_all[ax.k9,Tn]
   rw[Wc (Y:=Y) h1.1,ZL (Y:=Y) h1.1]at h2;cases hf:flag vs g
   .rw[hf]at h2;exact fin (d:=.any) h4 h5 h3 (fun h=>by rw[hf]at h;cases h) rfl (by rw[hf];exact h2)
   .rw[hf]at h2;obtain⟨h6,h7⟩:=cB h2;exact fin h4 h5 h3 (fun _=>⟨ac4 h6,rfl⟩) rfl (by rw[hf];exact h7)
  cases i
  case callM f args=>
   obtain⟨h0,h⟩:=cB h;refine⟨K5 h0,fun hf=>?_,fun hf=>?_⟩<;>rw[hf]at h
   .obtain⟨h1,h2⟩:=cB h;split at h2
    .rename_i d st1 h3;obtain⟨h4,h5⟩:=cB h2;exact⟨Hq h1,hq _ _ _ _ _ h3 _ ⟨by simpa using h4,ih h5 K hK⟩⟩
    .cases h2
   .exact ih h K hK
  case callvM f args=>
   obtain⟨h0,h⟩:=cB h;refine⟨K5 h0,fun hf=>?_,fun hf=>?_⟩<;>rw[hf]at h
   .simp only at h;split at h
    .rename_i n caps h0;obtain⟨h1,h2⟩:=cB h;rw[aN]at h1;split at h2
     .rename_i d st1 h3;obtain⟨h4,h5⟩:=cB h2;rw[h0];exact⟨rfl,Hq h1.2,by simpa using h1.1,hq _ _ _ _ _ h3 _ ⟨by simpa using h4,ih h5 K hK⟩⟩
     .cases h2
    .cases h
   .exact ih h K hK
  case call f args sh=>
   simp only[Ko]at h;obtain⟨h1,h2⟩:=cB h;cases hf:flag vs g
   .rw[hf]at h2;exact fin (d:=.any) rfl (by simp[ax.k9,ax.calm]) (G1 h1) (fun h=>by rw[hf]at h;cases h) rfl (by rw[hf];exact h2)
   .rw[hf]at h2;obtain⟨h3,h4⟩:=cB h2;split at h4
    .rename_i ds h5;split at h4
     .rename_i d h6;obtain⟨h7,h8⟩:=cB h4;obtain⟨e1,e2⟩:=Yh h5;obtain⟨e3,e4⟩:=hp _ _ _ h6;refine fin (d:=d) rfl (by simp[ax.k9,ax.calm]) (G1 h1) (fun _=>?_) rfl (by rw[hf];exact h8);simp only[ax.ey,ax.val,e2,e4];exact⟨⟨Hq h3,e1,e3,h7⟩,trivial⟩
     .cases h4
    .cases h4
  all_goals exact lon h
def ib {α:Type}{b:Bool}{a a':Option α}{x:α}(hm:a=some x->a'=some x)(h:dT b a=some x):dT b a'=some x:=by
 obtain⟨h1,h2⟩:=cB h;rw[h1];exact hm h2
def Wf {p p':EP}{q q':EM}(hp:∀f ds d,p f ds=some d->p' f ds=some d)(hq:∀f ds st d,q f ds st=some d->q' f ds st=some d):∀{ins:List GI}{env vs:List aX}{st:St}{x:List aX×St},Ko p q ins env vs st=some x->Ko p' q' ins env vs st=some x:=by
 intro ins;induction ins with
 |nil=>exact fun h=>h
 |cons gi r ih=>
  obtain⟨i,g⟩:=gi;intro env vs st x h;cases i
  case callM f args=>
   refine ib (fun h=>?_) h;cases hf:flag vs g<;>rw[hf]at h
   .exact ih h
   .refine ib (fun h=>?_) h;split at h
    .rename_i h1;rw[hq _ _ _ _ h1];exact ib (fun h=>ih h) h
    .cases h
  case callvM f args=>
   refine ib (fun h=>?_) h;cases hf:flag vs g<;>rw[hf]at h
   .exact ih h
   .simp only at h⊢;split at h
    .refine ib (fun h=>?_) h;split at h
     .rename_i h1;rw[hq _ _ _ _ h1];exact ib (fun h=>ih h) h
     .cases h
    .cases h
  case call f args sh=>
   refine ib (fun h=>?_) h;cases hf:flag vs g<;>rw[hf]at h
   .exact ih h
   .refine ib (fun h=>?_) h;split at h
    .split at h
     .rename_i h2;simp only[hp _ _ _ h2];exact ib (fun h=>ih h) h
     .cases h
    .cases h
  all_goals
   simp only[Ko]at h⊢;obtain⟨h1,h2⟩:=cB h;rw[h1];cases hf:flag vs g<;>rw[hf]at h2
   .exact ih h2
   .obtain⟨h3,h4⟩:=cB h2;simp only[h3,dT];exact ih h4
def A0 (p:EP)(q:EM)(l:EL):AC->List aX->St->Option (Ex×List aX×St)
 | .reg _ ins cm,env,st=>match Ko p q ins env [] st with
  |some (vs,st')=>some (.normal,iy env vs cm,st')
  |none=>none
 | .seq a b,env,st=>match A0 p q l a env st with
  |some (.normal,e,s)=>A0 p q l b e s
  |r=>r
 | .cond c a b,env,st=>match c.ev env []with
  |⟨true,.bool true⟩=>A0 p q l a env st
  |⟨true,.bool false⟩=>A0 p q l b env st
  |_=>none
 | .block id a,env,st=>match A0 p q l a env st with
  |some (.exit j,e,s)=>if j=id then some (.normal,e,s)else some (.exit j,e,s)
  |r=>r
 | .loop a,env,st=>l a env st
 | .exit id,env,st=>some (.exit id,env,st)
 | .ret,env,st=>some (.ret,env,st)
 | .skip,env,st=>some (.normal,env,st)
def okL (Y:Ctx)(l:EL):Prop:=∀a env st e env' st',l a env st=some (e,env',st')->∀Q:Ex->List aX->St->Prop,Q e env' st'->dp Y (.loop a) Q env st
def kH {lo:Nat}{p:List aX->St->Prop}{env:List aX}{st:St}(h:p env st):Gh lo p env st:=⟨env,st,.refl _ _,h⟩
def NZ {Y:Ctx}{p:EP}{q:EM}{l:EL}(hp:Ry Y p)(hq:okQ Y q)(hl:okL Y l):∀{c:AC}{env:List aX}{st:St}{e:Ex}{env':List aX}{st':St},A0 p q l c env st=some (e,env',st')->∀Q:Ex->List aX->St->Prop,Q e env' st'->dp Y c Q env st:=by
 intro c;induction c with
 |reg draw ins cm=>
  intro env st e env' st' h Q hQ;simp only[A0]at h;split at h
  .rename_i vs s1 h1;simp only[aD,di]at h;obtain⟨rfl,rfl,rfl⟩:=h;exact kH (aib hp hq h1 _ hQ)
  .cases h
 |seq a b iha ihb=>
  intro env st e env' st' h Q hQ;simp only[A0]at h;split at h
  .rename_i e1 s1 h1;exact kH (iha h1 _ (ihb h _ hQ))
  .rename_i h1;refine kH (iha h _ ?_);cases e with
   |normal=>exact absurd h (h1 _ _)
   |exit j=>exact hQ
   |ret=>exact hQ
 |cond c a b iha ihb=>
  intro env st e env' st' h Q hQ;simp only[A0]at h;split at h
  .rename_i h1;refine kH ⟨by rw[h1], ?_⟩;rw[h1];exact⟨fun _=>iha h _ hQ,fun h=>ca⟩
  .rename_i h1;refine kH ⟨by rw[h1], ?_⟩;rw[h1];exact⟨fun h=>ca,fun _=>ihb h _ hQ⟩
  .cases h
 |block id a iha=>
  intro env st e env' st' h Q hQ;simp only[A0]at h;split at h
  .rename_i j e1 s1 h1;refine kH (iha h1 _ ?_);show if j=id then _ else _
   split at h
   .rename_i h2;simp only[aD,di]at h;obtain⟨rfl,rfl,rfl⟩:=h;rw[ak h2];exact hQ
   .rename_i h2;simp only[aD,di]at h;obtain⟨rfl,rfl,rfl⟩:=h;rw[ai h2];exact hQ
  .rename_i h1;refine kH (iha h _ ?_);cases e with
   |exit j=>exact absurd h (h1 _ _ _)
   |normal=>exact hQ
   |ret=>exact hQ
 |loop a _=>exact fun h=>hl _ _ _ _ _ _ h
 |exit id=>intro env st e env' st' h Q hQ;simp only[A0,aD,di]at h;obtain⟨rfl,rfl,rfl⟩:=h;exact kH hQ
 |ret=>intro env st e env' st' h Q hQ;simp only[A0,aD,di]at h;obtain⟨rfl,rfl,rfl⟩:=h;exact kH hQ
 |skip=>intro env st e env' st' h Q hQ;simp only[A0,aD,di]at h;obtain⟨rfl,rfl,rfl⟩:=h;exact kH hQ
def We {p p':EP}{q q':EM}{l l':EL}(hp:∀f ds d,p f ds=some d->p' f ds=some d)(hq:∀f ds st d,q f ds st=some d->q' f ds st=some d)(hl:∀a env st d,l a env st=some d->l' a env st=some d):∀{c:AC}{env:List aX}{st:St}{x:Ex×List aX×St},A0 p q l c env st=some x->A0 p' q' l' c env st=some x:=by
 intro c;induction c with
 |reg draw ins cm=>
  intro env st x h;simp only[A0]at h⊢;split at h
  .rename_i h1;rw[Wf hp hq h1];exact h
  .cases h
 |seq a b iha ihb=>
  intro env st x h;simp only[A0]at h⊢;split at h
  .rename_i h1;rw[iha h1];exact ihb h
  .rename_i h1;rw[iha h];obtain⟨e,e1,s1⟩:=x;cases e with
   |normal=>exact absurd h (h1 _ _)
   |exit j=>rfl
   |ret=>rfl
 |cond c a b iha ihb=>
  intro env st x h;simp only[A0]at h⊢;split at h
  .exact iha h
  .exact ihb h
  .cases h
 |block id a iha=>
  intro env st x h;simp only[A0]at h⊢;split at h
  .rename_i h1;rw[iha h1];exact h
  .rename_i h1;rw[iha h];obtain⟨e,e1,s1⟩:=x;cases e with
   |exit j=>exact absurd h (h1 _ _ _)
   |normal=>rfl
   |ret=>rfl
 |loop a _=>exact fun h=>hl _ _ _ _ h
 |exit id=>exact fun h=>h
 |ret=>exact fun h=>h
 |skip=>exact fun h=>h
def Ex.Q5:Ex->Bool
 | .exit _=>false
 |_=>true
def Zc (m:List (Nat×bm))(env:List aX):List GA->Bool
 |[]=>true
 |r::rs=>((env.getD r.s .un).ok&&match r.mem with
   |none=>true
   |some (n,_)=>ldB m n (env.getD r.s .un).d)&&Zc m env rs
def K6 {e:Ex}(h:e.Q5=true):e.home:=by cases e<;>simp_all[Ex.Q5,Ex.home]
def RZ {m:List (Nat×bm)}{env:List aX}:∀{l:List GA},Zc m env l=true->om m env l:=by
 intro l;induction l<;>grind [Zc,om,Xi]
structure EvS where
 p:EP
 q:EM
 l:EL
def evF (E:EvS)(a:aj)(ds:List D):Option D:=dT (decide (ds.length=a.np)) (match A0 E.p E.q E.l a.body (fq a ds) ⟨0,[]⟩with
 |some (e,env,st)=>dT (e.Q5&&Zc st.m env a.res) (match a.res with
  |[r]=>puV st.m 9 (a.rsh.getD 0 []) (H2 st.m env r)
  |rs=>(puS st.m a.rsh (qQ st.m env rs)).map .tup)
 |none=>none)
def evM (E:EvS)(a:aj)(ds:List D)(st:St):Option (D×St):=dT (decide (ds.length=a.np)) (match A0 E.p E.q E.l a.body (fq a ds) st with
 |some (e,env,st')=>dT (e.Q5&&Zc st'.m env a.res) (some (j3 a env st',st'))
 |none=>none)
def kY (tb:Nat->Option aj)(ex:EP):Nat->EvS
 |0=>⟨fun _ _=>none,fun _ _ _=>none,fun _ _ _=>none⟩
 |n+1=>⟨fun f ds=>match tb f with
   |some a=>evF (kY tb ex n) a ds
   |none=>ex f ds,fun f ds st=>match tb f with
   |some a=>evM (kY tb ex n) a ds st
   |none=>none,fun a env st=>match A0 (kY tb ex n).p (kY tb ex n).q (kY tb ex n).l a env st with
   |some (.normal,e,s)=>(kY tb ex n).l a e s
   |r=>r⟩
section
variable {tb:Nat->Option aj} {ex:EP}
def Fo (n:Nat):(∀f ds d,(kY tb ex n).p f ds=some d->(kY tb ex (n+1)).p f ds=some d)/\(∀f ds st d,(kY tb ex n).q f ds st=some d->(kY tb ex (n+1)).q f ds st=some d)/\∀a env st d,(kY tb ex n).l a env st=some d->(kY tb ex (n+1)).l a env st=some d:=by
 induction n with
 |zero=>exact⟨fun _ _ _ h=>ca,fun _ _ _ _ h=>ca,fun _ _ _ _ h=>ca⟩
 |succ n ih=>
  obtain⟨h1,h2,h3⟩:=ih;have hc:∀{c:AC} {env:List aX} {st:St} {x:Ex×List aX×St},A0 (kY tb ex n).p (kY tb ex n).q (kY tb ex n).l c env st=some x->A0 (kY tb ex (n+1)).p (kY tb ex (n+1)).q (kY tb ex (n+1)).l c env st=some x:=fun h=>We h1 h2 h3 h
  refine⟨fun f ds d h=>?_,fun f ds st d h=>?_,fun a env st d h=>?_⟩
  .simp only[kY]at h⊢;split at h
   .refine ib (fun h=>?_) h;split at h
    .rename_i h4;have:=hc h4;simp only[kY]at this;rw[this];exact h
    .cases h
   .exact h
  .simp only[kY]at h⊢;split at h
   .refine ib (fun h=>?_) h;split at h
    .rename_i h4;have:=hc h4;simp only[kY]at this;rw[this];exact h
    .cases h
   .exact h
  .rw[kY]at h⊢;simp only at h⊢;split at h
   .rename_i h4;rw[hc h4];exact h3 _ _ _ _ h
   .rename_i h4;rw[hc h];obtain⟨e,e1,s1⟩:=d;cases e with
    |normal=>exact absurd h (h4 _ _)
    |exit j=>rfl
    |ret=>rfl
def KV {n k f:Nat}{ds:List D}{d:D}(h:(kY tb ex n).p f ds=some d)(hk:n<=k):(kY tb ex k).p f ds=some d:=by
 induction hk with
 |refl=>exact h
 |step _ ih=>exact(Fo _).1 _ _ _ ih
def Wh {n k f:Nat}{ds:List D}{st:St}{d:D×St}(h:(kY tb ex n).q f ds st=some d)(hk:n<=k):(kY tb ex k).q f ds st=some d:=by
 induction hk with
 |refl=>exact h
 |step _ ih=>exact(Fo _).2.1 _ _ _ _ ih
end
def UU (P:Nat->Prop):Nat:=Classical.epsilon fun k=>P k/\∀j,P j->k<=j
def y1 {P:Nat->Prop}:∀{n:Nat},P n->P (UU P)/\∀j,P j->UU P<=j:=by
 have h:∀n,P n->∃k,P k/\∀j,P j->k<=j:=by
  intro n;induction n using Nat.strongRecOn with
  |_ n ih=>
   intro hn;by_cases h:∃j,P j/\j<n
   .obtain⟨j,h1,h2⟩:=h;exact ih j h2 h1
   .exact⟨n,hn,fun j hj=>by
     rcases eh j n with h1|h1
     .exact absurd ⟨j,hj,h1⟩ h
     .exact h1⟩
 exact fun {n} hn=>Classical.epsilon_spec (h n hn)
section
variable {tb:Nat->Option aj} {ex:EP} {Y:Ctx}
def Wg {N:Nat}(hp:∀n,n<N->Ry Y (kY tb ex n).p)(hq:∀n,n<N->okQ Y (kY tb ex n).q):okL Y (kY tb ex N).l:=by
 intro a env st e env' st' h Q hQ
 let P:List aX->St->Nat->Prop:=fun env st n=>n<=N/\(kY tb ex n).l a env st=some (e,env',st')
 refine kH ⟨fun env st=>∃n,P env st n,fun env st=>UU (P env st),⟨N,aP _,h⟩,fun env st ⟨n,hn⟩=>?_⟩;obtain⟨⟨h1,h2⟩,h3⟩:=y1 (P:=P env st) hn;obtain⟨k,hk⟩:∃k,UU (P env st)=k:=⟨_,rfl⟩
 rw[hk]at h1 h2 h3;cases k with
 |zero=>cases h2
 |succ k=>
  rw[kY]at h2;simp only at h2;have ih:okL Y (kY tb ex k).l:=Wg (fun n h=>hp n ae) fun n h=>hq n ae
  split at h2
  .rename_i e1 s1 h4;refine NZ (hp k ae) (hq k ae) ih h4 _ ⟨e1,s1,.refl _ _,⟨k,ae,h2⟩, ?_⟩;have:=(y1 (P:=P e1 s1) (n:=k) ⟨ae,h2⟩).2 k ⟨ae,h2⟩;show UU (P e1 s1)<UU (P env st);omega
  .rename_i h4;refine NZ (hp k ae) (hq k ae) ih h2 _ ?_;cases e with
   |normal=>exact absurd h2 (h4 _ _)
   |exit j=>exact hQ
   |ret=>exact hQ
termination_by N
end
def bW (tb:Nat->Option aj)(ex:EP)(k f:Nat):mA where
 key:=k
 rel ds d:=∃n,(kY tb ex n).p f ds=some d
 mu ds:=UU fun n=>∃d,(kY tb ex n).p f ds=some d
 relF:=noF
 tr ds st K:=∃n d st',(kY tb ex n).q f ds st=some (d,st')/\K d st'
 muE ds st:=UU fun n=>∃d,(kY tb ex n).q f ds st=some d
 mono _ _ _ _ h h1:=by obtain⟨n,d,st',h2,h3⟩:=h1;exact⟨n,d,st',h2,h _ _ h3⟩
section
variable {tb:Nat->Option aj} {ex:EP} {t:List (Nat×mA)} {k:Nat}
def DN {f:Nat}:Det (bW tb ex k f).rel:=by
 intro ds d d' ⟨n,h⟩ ⟨n',h'⟩;have h1:=KV h (Nat.le_max_left n n');rw[KV h' (Nat.le_max_right n n')]at h1;exact(aW h1).symm
def kE {f:Nat}{ds:List D}{d:D}{k' u n:Nat}(hr:lk t f mS=bW tb ex k f)(hk:k<k')(h:(kY tb ex n).p f ds=some d):(under t k' u).pre f ds/\(under t k' u).val f ds=d:=
 okp (hr▸DN) (.inl (by rw[hr];exact hk)) (by rw[hr];exact⟨n,h⟩)
def Wi (hrow:∀f a,tb f=some a->lk t f mS=bW tb ex k f)(hex:∀u,Ry (under t k u) ex){u n:Nat}(hn:n<u):Ry (under t k u) (kY tb ex n).p:=by
 intro f ds d h;cases n with
 |zero=>cases h
 |succ n=>
  cases hf:tb f with
  |none=>simp only[kY,hf]at h;exact hex u f ds d h
  |some a=>
   have hr:=hrow f a hf;refine okp (hr▸DN) (.inr ⟨by rw[hr];rfl, ?_⟩) (by rw[hr];exact⟨_,h⟩);rw[hr];have:=(y1 (P:=fun n=>∃d,(kY tb ex n).p f ds=some d) ⟨d,h⟩).2 _ ⟨d,h⟩;exact Nat.lt_of_le_of_lt this hn
def Wj (hrow:∀f a,tb f=some a->lk t f mS=bW tb ex k f)(hex:∀u,Ry (under t k u) ex){u n:Nat}(hn:n<u):okQ (under t k u) (kY tb ex n).q:=by
 intro f ds st d st' h K hK;cases n with
 |zero=>cases h
 |succ n=>
  cases hf:tb f with
  |none=>simp only[kY,hf]at h;cases h
  |some a=>
   have hr:=hrow f a hf;refine OM (.inr ⟨by rw[hr];rfl, ?_⟩) (by rw[hr];exact⟨_,_,_,h,hK⟩);rw[hr];have:=(y1 (P:=fun n=>∃d,(kY tb ex n).q f ds st=some d) ⟨_,h⟩).2 _ ⟨_,h⟩;exact Nat.lt_of_le_of_lt this hn
def QT (hrow:∀f a,tb f=some a->lk t f mS=bW tb ex k f)(hex:∀u,Ry (under t k u) ex){u n l:Nat}(hn:n<u){c:AC}{env:List aX}{st:St}{e:Ex}{env':List aX}{st':St}(h:A0 (kY tb ex n).p (kY tb ex n).q (kY tb ex n).l c env st=some (e,env',st')){Q:Ex->List aX->St->Prop}(hQ:Q e env' st'):dp ((under t k u).at l) c Q env st:=
 NZ (Y:=(under t k u).at l) (Wi hrow hex hn) (Wj hrow hex hn) (Wg (fun n' h=>Wi hrow hex ae) fun n' h=>Wj hrow hex ae) h Q hQ
variable [cN] {P:Program} {ν:List (Nat×Nat)} {bP:List Nat} {fid f:Nat} {a:aj}
def aK (hrow:∀f a,tb f=some a->lk t f mS=bW tb ex k f)(hex:∀u,Ry (under t k u) ex)(hmix:P.follows .mixedOrders=true)(hC:SP P ν bP fid a)(hf:tb f=some a):Owe P ν bP t fid f:=by
 have hr:=hrow f a hf;refine⟨?_, ?_, ?_⟩<;>rw[hr]
 .intro ds d ⟨n,h⟩;obtain⟨⟨d',h1⟩,h2⟩:=y1 (P:=fun n=>∃d,(kY tb ex n).p f ds=some d) ⟨d,h⟩;have h3:d'=d:=DN (k:=k) ds d' d ⟨_,h1⟩ ⟨_,h⟩;subst h3;show Kw P ν bP (under t k (UU fun n=>∃d,(kY tb ex n).p f ds=some d)) fid ds d';generalize (UU fun n=>∃d,(kY tb ex n).p f ds=some d)=N at h1;cases N with
  |zero=>cases h1
  |succ N=>
   simp only[kY,hf]at h1;obtain⟨g1,g2⟩:=cB h1;split at g2
   .rename_i e env st g3;obtain⟨g4,g5⟩:=cB g2;rw[aN]at g4;refine au hmix hC (by simpa using g1) (QT hrow hex (Nat.lt_succ_self N) g3 ⟨K6 g4.1,RZ g4.2, ?_⟩);unfold MB Zd;split at g5
    .rename_i r hres;rw[hres];exact Yi g5
    .rename_i rs hres;obtain⟨es,g6,rfl⟩:=dd.1 g5;have:=Yh g6;split
     .rename_i r hr;exact absurd hr (hres r)
     .exact⟨this.1,by rw[this.2]⟩
   .cases g2
 .exact Ho
 .intro ds st K ⟨n,d,st',h,hK⟩;obtain⟨⟨d',h1⟩,h2⟩:=y1 (P:=fun n=>∃d,(kY tb ex n).q f ds st=some d) ⟨_,h⟩;have h3:d'=(d,st'):=by
   have:=Wh h1 (h2 n ⟨_,h⟩);rw[h]at this;exact(aW this).symm
  subst h3;show rO P ν bP (under t k (UU fun n=>∃d,(kY tb ex n).q f ds st=some d)) fid ds st K;generalize (UU fun n=>∃d,(kY tb ex n).q f ds st=some d)=N at h1;cases N with
  |zero=>cases h1
  |succ N=>
   simp only[kY,hf]at h1;obtain⟨g1,g2⟩:=cB h1;split at g2
   .rename_i e env s1 g3;obtain⟨g4,g5⟩:=cB g2;rw[aN]at g4;simp only[aD,di]at g5;obtain⟨g6,rfl⟩:=g5;intro hok x args hl hargs hs hfr;obtain⟨fn,hfn,hc,hn⟩:=hC.split;obtain⟨body,c1,_⟩:=gG hc;refine .inr ⟨fid,args,gZ hfn hn (by rw[c1];rfl) args x.w, ?_⟩;refine Calls.mono (aih (K:=K) hok hmix hfn hc hl hargs hs hfr ⟨by simpa using g1,QT hrow hex (Nat.lt_succ_self N) g3 ⟨K6 g4.1,RZ g4.2, ?_⟩⟩) fun e w' he=>?_
    .rw[g6];exact hK
    .grind
   .cases g2
end
end
def ry:aj:=bc 242
def rA:aj:=bc 275
def uW:aj:=bc 175
def yk:aj:=bc 85
def uQ:aj:=bc 243
def sc:aj:=bc 279
def Ar:aj:=bc 129
def ya:aj:=bc 177
def xu:aj:=bc 276
def xw:aj:=bc 277
def vl:aj:=bc 300
def vj:aj:=bc 299
def uV:aj:=bc 212
def uX:aj:=bc 213
def yj:aj:=bc 135
def yl:aj:=bc 136
def rl:aj:=bc 280
def rm:aj:=bc 278
def u6:aj:=bc 176
def oO:aj:=bc 302
def CX:aj:=bc 303
def xx:aj:=bc 304
def yo:aj:=bc 324
def wU:aj:=bc 322
def AM:aj:=bc 325
def lh:aj:=bc 250
def Ap:aj:=bc 251
def uZ:aj:=bc 252
def AH:aj:=bc 181
def yf:aj:=bc 182
def AI:aj:=bc 183
def DJ:aj:=bc 184
def AJ:aj:=bc 185
def DG:aj:=bc 186
def sb:aj:=bc 307
def mP:aj:=bc 327
def nW:aj:=bc 328
def Ad:aj:=bc 329
def Ac:aj:=bc 330
def B9:aj:=bc 350
def wV:aj:=bc 351
def zQ:aj:=bc 342
def mU:aj:=bc 285
def mV:aj:=bc 286
def og:aj:=bc 287
def x8:aj:=bc 288
def x7:aj:=bc 289
def yg:aj:=bc 219
def yh:aj:=bc 216
def DF:aj:=bc 217
def sM:aj:=bc 218
def DE:aj:=bc 220
def oN:aj:=bc 355
def nX:aj:=bc 356
def oP:aj:=bc 357
def oM:aj:=bc 358
def Ab:aj:=bc 359
def Aa:aj:=bc 360
def zR:aj:=bc 368
def uO:aj:=bc 367
def oe:aj:=bc 311
def x6:aj:=bc 312
def Aq:aj:=bc 313
def x9:aj:=bc 314
def AG:aj:=bc 256
def AE:aj:=bc 254
def vi:aj:=bc 255
def pU:aj:=bc 375
def mT:aj:=bc 336
def mW:aj:=bc 364
def yc:aj:=bc 190
def DB:aj:=bc 267
def u7:aj:=bc 222
def va:aj:=bc 223
def yd:aj:=bc 224
def vc:aj:=bc 225
def ye:aj:=bc 296
def Au:aj:=bc 257
def yb:aj:=bc 259
def Av:aj:=bc 260
def Aw:aj:=bc 261
def FX:aj:=bc 292
def At:aj:=bc 290
def FV:aj:=bc 315
def Dz:aj:=bc 339
def Dv:aj:=bc 195
def As:aj:=bc 196
def Ax:aj:=bc 337
def Ay:aj:=bc 319
def FW:aj:=bc 320
def Az:aj:=bc 321
def x5:aj:=bc 228
def FY:aj:=bc 229
def DA:aj:=bc 341
def sI:aj:=bc 263
def DH:aj:=bc 264
def DC:aj:=bc 268
def uY:aj:=bc 291
def DI:aj:=bc 293
def Dy:aj:=bc 297
def vg:aj:=bc 316
def AB:aj:=bc 317
def AA:aj:=bc 318
def AF:aj:=bc 338
def ve:aj:=bc 340
def AD:aj:=bc 365
def yi:aj:=bc 366
def tbT:List (Nat×aj):=[(212,ry),(444,rA),(670,uW),(572,yk),(213,uQ),(448,sc),(459,Ar),(672,ya),(445,xu),(446,xw),(496,vl),(495,vj),(813,uV),(814,uX),(744,yj),(745,yl),(449,rl),(447,rm),(671,u6),(660,oO),(661,CX),(662,xx),(684,yo),(682,wU),(685,AM),(952,lh),(953,Ap),(954,uZ),(896,AH),(897,yf),(898,AI),(899,DJ),(900,AJ),(901,DG),(663,sb),(808,mP),(809,nW),(810,Ad),(811,Ac),(827,B9),(828,wV),(819,zQ),(1032,mU),(1033,mV),(1034,og),(1035,x8),(1036,x7),(482,yg),(1006,yh),(1007,DF),(1008,sM),(676,DE),(946,oN),(947,nX),(948,oP),(949,oM),(950,Ab),(951,Aa),(957,zR),(956,uO),(1097,oe),(1098,x6),(1099,Aq),(1100,x9),(677,AG),(678,AE),(1079,vi),(1031,pU),(1126,mT),(1141,mW),(156,yc),(374,DB),(376,u7),(377,va),(378,yd),(379,vc),(598,ye),(599,Au),(601,yb),(602,Av),(603,Aw),(604,FX),(769,At),(771,FV),(772,Dz),(907,Dv),(908,As),(918,Ax),(919,Ay),(920,FW),(921,Az),(1010,x5),(1011,FY),(1021,DA),(1081,sI),(1082,DH),(1085,DC),(1118,uY),(1119,DI),(1122,Dy),(1137,vg),(1138,AB),(1139,AA),(1144,AF),(1145,ve),(1147,AD),(1148,yi)]
def ad7 (T:List D->D->Prop):Prop:=∀(s:av),(ki s)->T [.str s] (cy.D (eR s))
def C908 (Y:Ctx):Prop:=ad7 (aE Y 908)
def ad6 (T:List D->D->Prop):Prop:=∀(s:av) (e:Env),(oQ s/\kX e)->T [.str s,Env.D e] (.bool (FI s e))
def C907 (Y:Ctx):Prop:=ad6 (aE Y 907)
def Z1 (T:List D->D->Prop):Prop:=∀(s:av),(ki s)->T [.str s] (.tup [cy.D (eR s),.int .i64 0])
def ad9 (Y:Ctx):Prop:=Z1 (aE Y 1011)
def Z2 (T:List D->D->Prop):Prop:=∀(s:cy),(s∈gT)->T [cy.D pD,cy.D s] (cy.D s)
def aej (Y:Ctx):Prop:=Z2 (aE Y 1085)
def Z4 (T:List D->D->Prop):Prop:=∀(v:bZ),(v∈bU)->T [bZ.D v] (cy.D (er v))
def Va (Y:Ctx):Prop:=Z4 (aE Y 156)
def JZ (T:List D->D->Prop):Prop:=∀(l:List ch) (nm:av),T [.sl 2 (l.map ch.D),.str nm] (.int .i64 (findF l nm 0))
def C955 (Y:Ctx):Prop:=JZ (aE Y 955)
def JN (T:List D->D->Prop):Prop:=∀(l:List ch) (nm:av),T [.sl 2 (l.map ch.D),.str nm] (.bool (isF l nm))
def C816 (Y:Ctx):Prop:=JN (aE Y 816)
end Go.Abs
section
set_option maxRecDepth 10000
namespace Go.Abs
def PL:List D->Option (List av)
 |[]=>some []
 | .str s::r=>match PL r with
  |some l=>some (s::l)
  |none=>none
 |_=>none
def BO:∀{l:List D}{r:List av},PL l=some r->l=r.map D.str:=by
 intro l;induction l with
 |nil=>intro r h;cases h;rfl
 |cons d l ih=>intro r h;cases d<;>simp only[PL]at h<;>grind
def uE (s:av):Bool:=decide (s.length<=1048576)
def exO:EP:=fun f ds=>match ds with
 |[.str s]=>bif Nat.beq f 349 ||Nat.beq f 357 then some (.bool (gr s))else bif Nat.beq f 208 ||Nat.beq f 216 then some (.bool (dn s))else
  bif Nat.beq f 658 ||Nat.beq f 667 then some (.tup [.int .i64 (C6 s),.bool (oc s)])else none
 |[.int .i64 n]=>dT ((Nat.beq f 665 ||Nat.beq f 734)&&(decide (0<=n)&&decide (n<=9999))) (some (.str (nL n.toNat)))
 |[.str s,.int .u8 b]=>dT ((Nat.beq f 533 ||Nat.beq f 470)&&uE s) (some (.sl 1 ((bd s b).map D.str)))
 |[.str s,.str [124,124]]=>dT (uE s&&Nat.beq f 124) (some (.sl 1 ((jh s []).map D.str)))
 |[.str s,.str [b]]=>dT (uE s) (bif Nat.beq f 124 then some (.sl 1 ((bd s b.toNat).map D.str))else bif Nat.beq f 683&&b==32 then some (.str (B4 s))else
  bif Nat.beq f 487 then some (.tup [.str (uC s b).1,.str (uC s b).2.1,.bool (uC s b).2.2])else bif Nat.beq f 254 then some (.tup [.str (qx s [b]).1,.bool (qx s [b]).2])else none)
 |[.sl 1 l]=>match PL l with
  |some l=>bif Nat.beq f 815 then some (.bool (rising l))else none
  |none=>none
 |[.sl 1 l,.int .u8 x]=>match PL l with
  |some l=>dT (Nat.beq f 249&&(decide (x=(x.toNat.toUInt8.toNat:Nat))&&uE (cv [x.toNat.toUInt8] l))) (some (.str (cv [x.toNat.toUInt8] l)))
  |none=>none
 |[.sl 1 l,.str s]=>match PL l with
  |some l=>dT (Nat.beq f 242&&(decide (l.length<=9)&&(decide (s.length<=4)&&l.all uE))) (some (.str (cv s l)))
  |none=>none
 |[.agg [.int .i64 a,.int .i64 b,.int .i64 c,.str p,.str q]]=>dT ((Nat.beq f 209 ||Nat.beq f 217)&&(uE p&&uE q)) (some (.bool (gy ⟨a,b,c,p,q⟩)))
 |_=>none
def eK (n:Nat):Option aj:=lk (tbT.map fun p=>(p.1,some p.2)) n none
def aie {Y:Ctx}(h349:SM Y)(h357:SN Y)(h208:SK Y)(h216:EA Y)(h658:C658 Y)(h667:C667 Y)(h665:C665 Y)(h734:C734 Y)(h533:U6 Y)(h470:C470 Y)(h124:C124 Y)(h9124:aen Y)(h683:C683 Y)(h487:C487 Y)(h254:C254 Y)(h815:C815 Y)(h249:C249 Y)(h242:C242 Y)(h209:AR Y)(h217:AS Y):Ry Y exO:=by
 intro f ds d h;unfold exO at h;split at h
 .simp only[Bool.cond_eq_ite,dI,Nat.beq_eq]at h;split at h
  .rename_i hf;cases h;rcases hf with rfl|rfl
   .exact h349 _
   .exact h357 _
  split at h
  .rename_i hf;cases h;rcases hf with rfl|rfl
   .exact h208 _
   .exact h216 _
  split at h
  .rename_i hf;cases h;rcases hf with rfl|rfl
   .exact h658 _
   .exact h667 _
  .cases h
 .obtain⟨h1,h2⟩:=cB h;simp only[dI,aN,Nat.beq_eq,bn]at h1;cases h2;rcases h1 with⟨rfl|rfl,h1⟩
  .exact h665 _ h1
  .exact h734 _ h1
 .obtain⟨h1,h2⟩:=cB h;simp only[dI,aN,Nat.beq_eq,uE,bn]at h1;cases h2;rcases h1 with⟨rfl|rfl,h1⟩
  .exact h533 _ _ h1
  .exact h470 _ _ h1
 .obtain⟨h1,h2⟩:=cB h;simp only[aN,Nat.beq_eq,uE,bn]at h1;cases h2;obtain⟨h1,rfl⟩:=h1;exact h9124 _ h1
 .obtain⟨h1,h2⟩:=cB h;simp only[uE,bn]at h1;simp only[Bool.cond_eq_ite,aN,Nat.beq_eq,beq_iff_eq]at h2;split at h2
  .rename_i hf;cases h2;subst hf;exact h124 _ _ h1
  split at h2
  .rename_i hf;cases h2;obtain⟨rfl,hb⟩:=hf;exact h683 _ _ hb h1
  split at h2
  .rename_i hf;cases h2;subst hf;exact h487 _ _ h1
  split at h2
  .rename_i hf;cases h2;subst hf;exact h254 _ _ h1 aG
  .cases h2
 .split at h
  .rename_i l hl;obtain rfl:=BO hl;simp only[Bool.cond_eq_ite,Nat.beq_eq]at h;split at h
   .rename_i hf;cases h;subst hf;exact h815 _
   .cases h
  .cases h
 .rename_i lx x;split at h
  .rename_i l hl;obtain rfl:=BO hl;obtain⟨h1,h2⟩:=cB h;simp only[aN,Nat.beq_eq,uE,bn]at h1;cases h2;obtain⟨rfl,h3,h4⟩:=h1;revert h3 h4;generalize Nat.toUInt8 (Int.toNat x)=y;intro h3 h4;subst h3;exact h249 _ y (eJ h4 aT)
  .cases h
 .split at h
  .rename_i l hl;obtain rfl:=BO hl;obtain⟨h1,h2⟩:=cB h;simp only[aN,Nat.beq_eq,uE,List.all_eq_true,bn]at h1;cases h2;obtain⟨rfl,h3,h4,h5⟩:=h1;exact h242 _ _ ae h4 fun t ht=>eJ (h5 t ht) aT
  .cases h
 .obtain⟨h1,h2⟩:=cB h;simp only[dI,aN,Nat.beq_eq,uE,bn]at h1;cases h2;rcases h1 with⟨rfl|rfl,h1⟩
  .exact h209 ⟨_,_,_,_,_⟩ h1
  .exact h217 ⟨_,_,_,_,_⟩ h1
 .cases h
def iW:Option D->Bool
 |some (.bool b)=>b
 |_=>false
def dM {o:Option D}{b:Bool}(hb:b=true)(h:iW o=true):o=some (.bool b):=by unfold iW at h;split at h<;>simp_all
def fA (c:Bool):Option D->Bool
 |some (.bool b)=>b==c
 |_=>false
def cA {o:Option D}{b:Bool}(h:fA b o=true):o=some (.bool b):=by unfold fA at h;split at h<;>simp_all
def rq (x:Int×av×av):Option D->Bool
 |some (.tup [.int .i64 a,.str b,.str c])=>decide (a=x.1)&&(b==x.2.1&&c==x.2.2)
 |_=>false
def jL {o:Option D}{x:Int×av×av}(h:rq x o=true):o=some (.tup [.int .i64 x.1,.str x.2.1,.str x.2.2]):=by unfold rq at h;split at h<;>simp_all
def verO:D->Option bZ
 | .agg [.int .i64 a,.int .i64 b,.int .i64 c,.str p,.str q]=>some ⟨a,b,c,p,q⟩
 |_=>none
def adX {d:D}{v:bZ}(h:verO d=some v):d=v.D:=by
 unfold verO at h;split at h
 .cases h;rfl
 .cases h
def cutO:D->Option Cut
 | .agg [.int .i64 e,.int .i64 a,.int .i64 b,.int .i64 c,.str p,.str q,.bool z]=>some ⟨e,⟨a,b,c,p,q⟩,z⟩
 |_=>none
def QN {d:D}{v:Cut}(h:cutO d=some v):d=v.D:=by
 unfold cutO at h;split at h
 .cases h;rfl
 .cases h
def F6:D->Option Span
 | .agg [.int .i64 e,.int .i64 a,.int .i64 b,.int .i64 c,.str p,.str q,.bool z,.int .i64 e',.int .i64 a',.int .i64 b',.int .i64 c',.str p',.str q',.bool z']=>some ⟨⟨e,⟨a,b,c,p,q⟩,z⟩,⟨e',⟨a',b',c',p',q'⟩,z'⟩⟩
 |_=>none
def yp {d:D}{v:Span}(h:F6 d=some v):d=v.D:=by
 unfold F6 at h;split at h
 .cases h;rfl
 .cases h
def CR {α:Type}(f:D->Option α):List D->Option (List α)
 |[]=>some []
 |d::r=>match f d with
  |some a=>match CR f r with
   |some l=>some (a::l)
   |none=>none
  |none=>none
def sv {α:Type}{f:D->Option α}{q:α->D}(hq:∀{d:D}{a:α},f d=some a->d=q a):∀{l:List D}{r:List α},CR f l=some r->l=r.map q
 |[],r,h=>by cases h;rfl
 |d::l,r,h=>by
  unfold CR at h;split at h
  .rename_i a ha;split at h
   .rename_i t ht;cases h;rw[hq ha,sv hq ht];rfl
   .cases h
  .cases h
def Wm:D->Option ch
 | .agg [.str n,.sl 1 l]=>match PL l with
  |some l=>some ⟨n,l⟩
  |none=>none
 |_=>none
def Wo {d:D}{v:ch}(h:Wm d=some v):d=v.D:=by
 unfold Wm at h;split at h
 .split at h
  .rename_i l hl;cases h;rw[BO hl];rfl
  .cases h
 .cases h
def smV (v:bZ):Bool:=uE v.pre&&uE v.build
def H8 {v:bZ}(h:smV v=true):v.sm:=by simpa[smV,uE,bZ.sm]using h
def smS (s:Span):Bool:=smV s.f.v&&smV s.t.v
def Zu {s:Span}(h:smS s=true):s.sm:=by
 rw[smS,aN]at h;exact⟨H8 h.1,H8 h.2⟩
def PH {l:List Span}(h:l.all smS=true):zN l:=fun s hs=>Zu (List.all_eq_true.1 h s hs)
def Q6 (d:D):Option cy:=match d with
 | .agg [.sl 14 a,.sl 14 b]=>match CR F6 a with
  |some a=>match CR F6 b with
   |some b=>some ⟨a,b⟩
   |none=>none
  |none=>none
 |_=>none
def K9 {d:D}{v:cy}(h:Q6 d=some v):d=v.D:=by
 unfold Q6 at h;split at h
 .split at h
  .rename_i a ha;split at h
   .rename_i b hb;cases h;rw[sv yp ha,sv yp hb];rfl
   .cases h
  .cases h
 .cases h
def ex1 (f:Nat)(d:D):Option D:=bif Nat.beq f 144 then(match d with
  | .agg [.str a,.str b,.str c]=>some (.bool (o8 ⟨a,b,c⟩))
  |_=>none)else bif Nat.beq f 600 then(match verO d with
  |some v=>some (.bool (vL v))
  |none=>none)else bif Nat.beq f 1019 then(match F6 d with
  |some s=>dT (smS s) (some (.bool (qa s)))
  |none=>none)else bif Nat.beq f 770 then(match Q6 d with
  |some s=>dT (s.rel.all smS&&s.pr.all smS) (some (.bool (wc s)))
  |none=>none)else bif Nat.beq f 916 then(match d with
  | .sl 14 l=>match CR F6 l with
   |some l=>dT (l.all smS) (some (.bool (sO l)))
   |none=>none
  |_=>none)else none
def exN:EP:=fun f ds=>match ds with
 |[]=>dT (Nat.beq f 375) (some (cy.D Rw))
 |[d]=>ex1 f d
 |[.sl 2 l,.str s]=>match CR Wm l with
  |some l=>dT (Nat.beq f 816) (some (.bool (isF l s)))
  |none=>none
 |[a,b]=>match cutO a with
  |some a=>match cutO b with
   |some b=>dT (Nat.beq f 1020&&(smV a.v&&smV b.v)) (some (.int .i64 (kV a b)))
   |none=>none
  |none=>none
 |_=>none
def aic {Y:Ctx}(h144:Nu Y)(h600:C600 Y)(h1019:Kt Y)(h770:U9 Y)(h916:Vb Y){f:Nat}{d e:D}(h:ex1 f d=some e):Y.pre f [d]/\Y.val f [d]=e:=by
 unfold ex1 at h;simp only[Bool.cond_eq_ite,Nat.beq_eq]at h;split at h
 .rename_i hf;subst hf;split at h
  .cases h;exact h144 ⟨_,_,_⟩
  .cases h
 split at h
 .rename_i hf;subst hf;split at h
  .rename_i v hv;cases h;rw[adX hv];exact h600 v
  .cases h
 split at h
 .rename_i hf;subst hf;split at h
  .rename_i s hs;obtain⟨h1,h2⟩:=cB h;cases h2;rw[yp hs];exact h1019 s (Zu h1)
  .cases h
 split at h
 .rename_i hf;subst hf;split at h
  .rename_i s hs;obtain⟨h1,h2⟩:=cB h;rw[aN]at h1;cases h2;rw[K9 hs];exact h770 s ⟨PH h1.1,PH h1.2⟩
  .cases h
 split at h
 .rename_i hf;subst hf;split at h
  .split at h
   .rename_i l hl;obtain⟨h1,h2⟩:=cB h;cases h2;rw[sv yp hl];exact h916 l (PH h1)
   .cases h
  .cases h
 .cases h
def aid {Y:Ctx}(h144:Nu Y)(h375:C375 Y)(h600:C600 Y)(h770:U9 Y)(h816:C816 Y)(h916:Vb Y)(h1019:Kt Y)(h1020:Qo Y):Ry Y exN:=by
 intro f ds d h;unfold exN at h;split at h
 .obtain⟨h1,h2⟩:=cB h;cases h2;obtain rfl:=Nat.eq_of_beq_eq_true h1;exact h375
 .exact aic h144 h600 h1019 h770 h916 h
 .split at h
  .rename_i l hl;obtain⟨h1,h2⟩:=cB h;cases h2;obtain rfl:=Nat.eq_of_beq_eq_true h1;rw[sv Wo hl];exact h816 _ _
  .cases h
 .split at h
  .rename_i a ha;split at h
   .rename_i b hb;obtain⟨h1,h2⟩:=cB h;simp only[aN]at h1;cases h2;obtain⟨h1,h3,h4⟩:=h1;obtain rfl:=Nat.eq_of_beq_eq_true h1;rw[QN ha,QN hb];exact h1020 _ _ ⟨H8 h3,H8 h4⟩
   .cases h
  .cases h
 .cases h
def eE:EP:=fun f ds=>match exO f ds with
 |some d=>some d
 |none=>exN f ds
def aif {Y:Ctx}(h1:Ry Y exO)(h2:Ry Y exN):Ry Y eE:=by
 intro f ds d h;unfold eE at h;split at h
 .rename_i e he;cases h;exact h1 f ds d he
 .exact h2 f ds d h
def Ec (v:cy):Option D->Bool
 |some d=>match Q6 d with
  |some x=>decide (x=v)
  |none=>false
 |none=>false
def gA {o:Option D}{v:cy}(h:Ec v o=true):o=some v.D:=by
 unfold Ec at h;split at h
 .split at h
  .rename_i x hx;rw[K9 hx,of_decide_eq_true h]
  .cases h
 .cases h
def vsZ (v:cy):Option D->Bool
 |some (.tup [d,.int .i64 0])=>Ec v (some d)
 |_=>false
def sS {o:Option D}{v:cy}(h:vsZ v o=true):o=some (.tup [v.D,.int .i64 0]):=by
 unfold vsZ at h;split at h
 .rw[aW (gA h)]
 .cases h
abbrev cn (f:Nat)(ds:List D):Option D:=(kY eK eE 60).p f ds
end Go.Abs
end
namespace Go.Abs
section
section
variable {Y:Ctx} {draw:Bool} {r:List GI} {env rs:List aX} {nx:Nat} {m:List (Nat×bm)} {K:List aX->St->Prop} {g:Option (Nat×Bool)} {f:Bool}
def r_mn {x y:Src}{fx fy:Bool}{k k2:IntKind}{a b:Int}(v:Int)(h:aA Y draw r env (⟨f,.int k v⟩::rs) nx m K)(hg:GF rs g f:=by first|exact rfl|exact⟨_,_,rfl,rfl⟩)(hx:bV env rs x=⟨fx,.int k a⟩:=by exact rfl)(hy:bV env rs y=⟨fy,.int k2 b⟩:=by exact rfl)(kx:f=true->fx=true:=by first|exact fun _=>rfl|exact fun h=>h|(intro h;simp_all))(ky:f=true->fy=true:=by first|exact fun _=>rfl|exact fun h=>h|(intro h;simp_all))(hv:f=true->(if b<a then b else a)=v):aA Y draw (⟨.mn false x y,g⟩::r) env rs nx m K:=
 bD rfl hg _ (fun hf=>by simp[ax.ey,hx,hy,kx hf,ky hf]) (fun hf=>by simp only[ax.val,hx,hy,iD,aU];rw[hv hf]) (fun _=>h)
end
end
def IP (T:List D->D->Prop):Prop:=∀(n:Int),(0<=n/\n<=40)->T [.int .i64 n] (.int .i64 (2^n.toNat))
def C381 (Y:Ctx):Prop:=IP (aE Y 381)
def Iw (T:List D->D->Prop):Prop:=∀(w:b6) (u:Int),(w.sm)->T [b6.D w,.int .i64 u] (.int .i64 (nR w.us u))
def C158 (Y:Ctx):Prop:=Iw (aE Y 158)
def IV (T:List D->D->Prop):Prop:=∀(w:b6) (x:Want),(w.sm/\x.sm)->T [b6.D w,Want.D x] (.int .i64 (uF w.us x))
def C415 (Y:Ctx):Prop:=IV (aE Y 415)
end Go.Abs
section
namespace Go.Abs
def RG {us:List c9}{r i n:Nat}(h:0<r)(hn:n<1000000):LV us r i n=LV us (r-1) (i+1) (if us[i]!.feat=[]then n*(us[i]!.cands.length+1)else n):=by
 obtain⟨q,rfl⟩:∃q,r=q+1:=⟨r-1,ae⟩
 rw[LV,ak hn];rfl
def Yf {us:List c9}{r i n:Nat}(h:r=0\/¬n<1000000):LV us r i n=n:=by
 cases r with
 |zero=>rfl
 |succ r=>rw[LV,ai ae]
def adi {us:List c9}{i:Nat}(h:us[i]!.cands.length<=16)(hn:vR us i<1000000):vR us (i+1)<=20000000:=by
 rw[vR];split
 .exact eJ (Nat.mul_le_mul (show vR us i<=1000000 by omega) (show us[i]!.cands.length+1<=17 by omega)) aT
 .omega
def ajN {us:List c9}{i:Nat}(h:us[i]!.feat=[]):((vR us i:Nat):Int)*(((us[i]!.cands.length:Nat):Int)+1)=((vR us (i+1):Nat):Int):=by rw[vR,ak h];push_cast;rfl
def ajM {us:List c9}{i:Nat}(h:¬us[i]!.feat=[]):vR us i=vR us (i+1):=by rw[vR,ai h]
def pW (us:List c9)(l:List Int)(u:Nat):List (List Int):=(List.range u).map (EY us l)
def TX (us:List c9)(l:List Int)(u:Nat):(pW us l u).length=u:=by simp[pW]
def ade (us:List c9)(l:List Int)(u:Nat):pW us l u++[EY us l u]=pW us l (u+1):=by simp[pW,List.range_succ]
def ord_z {us:List c9}{l:List Int}(h:l.length=0):jd us l=[]:=ak h
def ord_e {us:List c9}{l:List Int}(h:¬l.length=0):jd us l=pW us l us.length:=ai h
def WM {o:List Int}{p:Int}{j:Nat}(h:j<o.length):(oA (fun k=>decide (o[k]! =p)) 0 j ||decide (o[j]! =p))=oA (fun k=>decide (o[k]! =p)) 0 (j+1):=by
 rw[Bool.eq_iff_iff,dI,wI,wI];constructor
 .rintro(⟨i,h1,h2,h3⟩|h1)
  .exact⟨i,h1,ae,h3⟩
  .exact⟨j,ae,ae,h1⟩
 .rintro⟨i,h1,h2,h3⟩;rcases eh i j with h4|h4
  .exact .inl ⟨i,h1,h4,h3⟩
  .obtain rfl:i=j:=ae;exact .inr h3
def LM {n:Nat}{k:Int}:∀i,(kq n k i).length<=i
 |0=>aP _
 |i+1=>by
  have:=LM (n:=n) (k:=k) i;rw[kq];split
  .omega
  .rw[ct,List.length_singleton];omega
def ajC {n i:Nat}{k:Int}(h:Tq (kq n k i) (EZ n k i)=false):kq n k i++[EZ n k i]=kq n k (i+1):=by rw[kq,ai ju]
def ajB {n i:Nat}{k:Int}(h:Tq (kq n k i) (EZ n k i)=true):kq n k i=kq n k (i+1):=by rw[kq,ak h]
end Go.Abs
namespace Go.Abs
def Zb {a b:Int}(ha:0<=a):a.tmod b=a%b:=Int.tmod_eq_emod_of_nonneg ha
def ajF {i:Nat}{k:Int}(hi:i<=16):0<=(i:Int)*(1+k%3)/\(i:Int)*(1+k%3)<=48:=by
 have h1:=Int.emod_nonneg k (show(3:Int)≠0 by decide);have h2:=Int.emod_lt_of_pos k (show(0:Int)<3 by decide);exact⟨Int.mul_nonneg ae ae,Int.le_trans (Int.mul_le_mul (show(i:Int)<=16 by omega) (show 1+k%3<=3 by omega) ae ae) aT⟩
end Go.Abs
namespace Go.Abs
def acm (l k:Nat)(es:List Abs.D)(o:List (List Int)):lg l k es (o.map jK)=o.map jK:=jE l k es _ (bH (fun _=>rfl) _)
def Q0 (l k:Nat)(es:List Abs.D)(w:b6):iA l k es (b6.D w)=b6.D w:=rfl
end Go.Abs
end
section
namespace Go.Abs
def MZ (o:List Int)(n:Nat):∀i,(cI o n i).length<=o.length+i
 |0=>aP _
 |i+1=>by
  have:=MZ o n i;rw[cI];split
  .omega
  .rw[ct,List.length_singleton];omega
def akE {o:List Int}{n t:Nat}(h:Tq (cI o n t) ((n:Int) -1-(t:Int))=false):cI o n t++[((n:Nat):Int) -1-((t:Nat):Int)]=cI o n (t+1):=by rw[cI,ai ju]
def akD {o:List Int}{n t:Nat}(h:Tq (cI o n t) ((n:Int) -1-(t:Int))=true):cI o n t=cI o n (t+1):=by rw[cI,ak h]
def ajE {od:List (List Int)}{u:Int}(h:u<(od.length:Int)):cR od u=od[u.toNat]! :=ak h
def ajD {od:List (List Int)}{u:Int}(h:¬u<(od.length:Int)):cR od u=[]:=ai h
end Go.Abs
namespace Go.Abs
def vQ {m:j7}{od:List (List Int)}{c:List Int}{b:Bool}(hm:wE m)(hO:yH m od)(hc:Km m c)(h:nlB (OI (mi m od c)) b):(b=true->mi m od c=none)/\(b=false->∃d,mi m od c=some d):=by
 cases e:mi m od c with
 |none=>rw[e]at h;exact⟨fun _=>rfl,fun hb=>by rw[hb]at h;cases h⟩
 |some d=>
  have h2:=(oU hm hO _ _ hc e).2.1;have h3:=hm.1.1;refine⟨fun hb=>?_,fun _=>⟨d,rfl⟩⟩;rw[e]at h;have h4:d.map (D.int .i64)=[]:=h hb;have h5:=aw List.length h4;simp only[bj,b7]at h5;omega
end Go.Abs
end
namespace Go.Abs
def Xw {w:b6}{c:List Int}{x:Want}(hs:∀x∈w.us,x.cands.length<=16)(hc:ChP w.us c)(h0:0<=x.u)(h1:x.u<(w.us.length:Int)):SS w.us (z7 c) x↔qH w c x=true:=by
 obtain⟨u,hu⟩:∃u:Nat,x.u=((u:Nat):Int):=⟨x.u.toNat,ae⟩
 have hul:u<w.us.length:=ae;have hcu:=hc.2 u hul;unfold SS qH z7;rw[VM hu hul hs,hu,Int.toNat_natCast];simp only[aN,bn];constructor
 .rintro⟨⟨h2,h3⟩,h4⟩;have e:(c[u]! +1).toNat-1=c[u]!.toNat:=ae;rw[e]at h4;exact⟨ae,h4⟩
 .rintro⟨h2,h3⟩;have e:(c[u]! +1).toNat-1=c[u]!.toNat:=ae;rw[e];exact⟨⟨ae,ae⟩,h3⟩
def agB {w:b6}(hw:fN w=true):InW w:=by
 intro u hu c hc;obtain⟨i,hi,rfl⟩:=fU hu;obtain⟨k,hk,rfl⟩:=fU hc;exact Ef hw hi hk
def N0 {w:b6}{c:List Int}(hw:fN w=true)(hs:∀x∈w.us,x.cands.length<=16)(hc:ChP w.us c)(h:Ci (dy w.us) c=true):(ik w c=true/\mq w c=[])/\0<=c[0]! :=by
 have hS:=akx hw hs hc h;have hI:=agB hw;have hm:ik w c=true:=by
  unfold ik xb;rw[hw,fT,aN,bn,cb];refine⟨hc.1,fun j _ hj=>?_⟩;have:=hc.2 j (by rw[<-hc.1];exact hj);unfold EI;rw[aN,bn,bn];exact this
 refine⟨⟨hm,(ad0 hm).2 fun u hu h0=>?_⟩, ?_⟩
 .have hul:u<w.us.length:=by rw[<-hc.1];exact hu
  have hcu:=hc.2 u hul;have hk:z7 c u≠0:=by unfold z7;omega
  have e:z7 c u-1=c[u]!.toNat:=by unfold z7;omega
  obtain⟨_,_,_,g1,g2,_⟩:=hS;have g1:=g1 u hul hk;have g2:=g2 u hul hk;rw[e]at g1 g2;have hmem:aY w c u∈w.us[u]!.cands:=aq ae;obtain⟨hI1,hI2⟩:=hI _ (aq hul) _ hmem;refine⟨fun k hk=>?_,fun k hk=>?_⟩
  .obtain⟨x,hx,hmx⟩:=g1 _ (aq hk);have:=hI1 _ (aq hk) x hx;exact List.any_eq_true.2 ⟨x,hx,(Xw hs hc this.1 this.2).1 hmx⟩
  .have hx:=aq hk;have:=hI2 _ hx;cases hq:qH w c (aY w c u).bars[k]! with
   |false=>rfl
   |true=>exact absurd ((Xw hs hc this.1 this.2).2 hq) (g2 _ hx)
 .unfold Ci at h;rw[aN,bn]at h;exact h.1
section
section
variable {m:gV} {shop:List bN} {e:Env} {os:List Int}
abbrev fo (m:gV)(shop:List bN)(e:Env):b6×Int:=gY [m] shop e []
abbrev Nl (m:gV)(shop:List bN)(e:Env):cD:=yx [m] shop e []
def MT (h:¬(fo m shop e).2=0\/5000<Hy (fo m shop e).1.us):cZ m shop e os=((fo m shop e).1,[],false):=ak h
def MU (h:(fo m shop e).2=0/\¬5000<Hy (fo m shop e).1.us)(hn:lM (fo m shop e).1.us (jd (fo m shop e).1.us os)=none):cZ m shop e os=((fo m shop e).1,[],false):=by
 unfold cZ;rw[ai (by rintro(h1|h1);exact h1 h.1;exact h.2 h1),hn]
def MV (h:(fo m shop e).2=0/\¬5000<Hy (fo m shop e).1.us){c:List Int}(hn:lM (fo m shop e).1.us (jd (fo m shop e).1.us os)=some c):cZ m shop e os=((fo m shop e).1,Gj (fo m shop e).1 c,true):=by
 unfold cZ;rw[ai (by rintro(h1|h1);exact h1 h.1;exact h.2 h1),hn]
def rU (hy:qp (Nl m shop e))(h:(fo m shop e).2=0):Ks (fo m shop e).1/\fN (fo m shop e).1=true:=by
 unfold fo gY at*
 split at h
 .cases h
 .split at h
  .cases h
  .split at h
   .cases h
   .rename_i h3;have h4:(fO (Nl m shop e)).2=true:=by simpa using h3
    rw[ai (by assumption),ai (by assumption),ai h3];obtain⟨_,_,_,_,h5⟩:=Eg hy.p h4;exact⟨h5,PW hy h4⟩
def Tj (hy:qp (Nl m shop e))(h:(fo m shop e).2=0)(os:List Int):((((fo m shop e).1.sm/\(fo m shop e).1.us.length<=1000)/\Few (fo m shop e).1.us)/\fN (fo m shop e).1=true)/\yH (dy (fo m shop e).1.us) (jd (fo m shop e).1.us os):=by
 obtain⟨h1,h2⟩:=rU hy h;have:=h1.len;exact⟨⟨⟨⟨h1.sm,ae⟩,h1.few⟩,h2⟩,tu os⟩
def Ti (hy:qp (Nl m shop e))(h:(fo m shop e).2=0){c:List Int}(hn:lM (fo m shop e).1.us (jd (fo m shop e).1.us os)=some c):c.length<=1000:=by
 obtain⟨h1,h2⟩:=rU hy h;have h3:=(oU h1.msk (tu os) _ _ (xE _) hn).2.1;have h4:=h1.msk.1;omega
def KY (hy:qp (Nl m shop e))(h:(fo m shop e).2=0){b:Bool}(hb:nlB (OI (lM (fo m shop e).1.us (jd (fo m shop e).1.us os))) b):(b=true->lM (fo m shop e).1.us (jd (fo m shop e).1.us os)=none)/\(b=false->∃d,lM (fo m shop e).1.us (jd (fo m shop e).1.us os)=some d):=
 vQ (rU hy h).1.msk (tu os) (xE _) hb
end
end
section
section
variable {shop:List bN} {w:b6} {c:List Int} {e:Env} {u:Nat} {x:ei}
def OfP (shop:List bN)(w:b6)(c:List Int):Prop:=iP shop/\w.sm/\0<=c[0]!
def of_a (h:((fN w=false\/fJ shop=false)\/o8 e=false)\/ik w c=false):Hp shop e w c=(Hb,1):=ak h
def of_b (h:((fN w=true/\fJ shop=true)/\o8 e=true)/\ik w c=true)(h2:ik w c=false\/¬(mq w c).length=0):Hp shop e w c=(Hb,37):=by
 unfold Hp;rw[ai fV,ak (h2.resolve_left (by simp[h.2]))]
def of_x (h:((fN w=true/\fJ shop=true)/\o8 e=true)/\ik w c=true)(h2:ik w c=true/\(mq w c).length=0):Hp shop e w c=if ¬(sr shop w c).2=0 then(Hb,(sr shop w c).2)else(⟨e,(sr shop w c).1⟩,0):=by
 unfold Hp;rw[ai fV,ai (fun h3=>h3 h2.2)]
def of_c (h:((fN w=true/\fJ shop=true)/\o8 e=true)/\ik w c=true)(h2:ik w c=true/\(mq w c).length=0)(h0:(ek shop w.us c u).2=0)(hs:vo w.us c u=false)(hu:u<w.us.length)(k:Int)(hk:¬k=0)(hl:(mO shop w.us c u (kD w.us c u)).2=k):Hp shop e w c=(Hb,k):=by
 have h3:=TE h0 hs rfl (by rw[hl];exact hk);rw[hl]at h3;have h4:sr shop w c=([],k):=(FA (i:=u+1) (by rw[h3];exact hk) ae).trans h3;rw[of_x h h2,h4,ak hk]
def of_d (h:((fN w=true/\fJ shop=true)/\o8 e=true)/\ik w c=true)(h2:ik w c=true/\(mq w c).length=0)(h0:(sr shop w c).2=0):Hp shop e w c=(⟨e,(sr shop w c).1⟩,0):=by
 rw[of_x h h2,ai (fun h=>h h0)]
def aiV (h:x.sh=-1):mO shop w.us c u x=(⟨w.us[u]!.name,x.v,[],0,sa w.us c u⟩,0):=ak h
def aiW (h:¬x.sh=-1)(h2:x.sh<0\/(shop.length:Int)<=x.sh):(mO shop w.us c u x).2=12:=by unfold mO;rw[ai h,ak h2]
def aiX (h:¬x.sh=-1)(h2:¬x.sh<0/\¬(shop.length:Int)<=x.sh)(h3:(oC shop[x.sh.toNat]! w.us[u]!.name x.v).2=false):(mO shop w.us c u x).2=9:=by
 unfold mO oC at*
 rw[ai h,ai ae];split at h3
 .rename_i h4;rw[ak h4]
 .cases h3
def aiY (h:¬x.sh=-1)(h2:¬x.sh<0/\¬(shop.length:Int)<=x.sh)(h3:(oC shop[x.sh.toNat]! w.us[u]!.name x.v).2=true):mO shop w.us c u x=(⟨w.us[u]!.name,x.v,shop[x.sh.toNat]!.name,(oC shop[x.sh.toNat]! w.us[u]!.name x.v).1.sum,sa w.us c u⟩,0):=by
 unfold mO oC at*
 rw[ai h,ai ae];split at h3
 .cases h3
 .rename_i h4;rw[ai h4,ai h4]
end
def Rb (shop:List bN)(us:List c9)(c:List Int):ek shop us c 1=([],0):=by
 rw[ek];show(if((([],0):List dm×Int).2≠0)then _ else _)=_;rw[ai (fun h=>h rfl),ak (by unfold vo;simp)];rfl
def ai0 (l k:Nat)(es:List Abs.D)(x:dm):iA l k es (dm.D x)=dm.D x:=rfl
def acn (l k:Nat)(es:List Abs.D)(o:List dm):lg l k es (o.map dm.D)=o.map dm.D:=jE l k es _ (bH (fun _=>rfl) _)
end
section
def Nz (r:Rec):Prop:=r.v∈bU/\∀n∈r.needs,∀w∈n.any,∀f∈w.feats,f=fW
def GenS (l:List bN):Prop:=∀s∈l,∀x∈s.es,Nz x.r
def abk (g:Gs)(own:av):∀w∈(gU g own).1,∀f∈w.feats,f=fW:=by
 unfold gU;split
 .intro w hw;simp only[b9,cV,or_false]at hw;rcases hw with rfl|rfl<;>intro f hf<;>cases hf
 .split
  .intro w hw f hf;rw[aC.1 hw]at hf;exact aC.1 hf
  .intro w hw f hf;rw[aC.1 hw]at hf;cases hf
def XA (own:av)(g:Gs):∀i,∀n∈(nS own g i).1,∀w∈n.any,∀f∈w.feats,f=fW
 |0=>fun _ h=>by cases h
 |i+1=>fun n h=>by
  rcases List.mem_append.1 h with h|h
  .exact XA own g i n h
  .rw[aC.1 h];exact abk _ _
def RX (g:Gs)(nm:av){v:bZ}(hv:v∈bU)(most:Int):Nz (pj g nm v most).1:=⟨hv,XA nm g.aS _⟩
section
variable {P:Rec->Prop}
def Zk {l:List bN}{k:Nat}{p:bN×Int}(h:∀s∈l,∀x∈s.es,P x.r)(hp:∀x∈p.1.es,P x.r):∀s∈qS l k p,∀x∈s.es,P x.r:=by
 unfold qS;split
 .intro s hs;rcases List.mem_or_eq_of_mem_set hs with h1|rfl
  .exact h s h1
  .exact hp
 .exact h
def akQ {s:bN}{nm:av}{v:bZ}{on:Bool}(h:∀x∈s.es,P x.r):∀x∈(ow s nm v on).1.es,P x.r:=by
 unfold ow;split
 .intro x hx;cases hx
 .split
  .intro x hx;cases hx
  .rename_i h2;obtain⟨j,hj,hjl⟩:=(BL (l:=s.es) (nm:=nm) (v:=v)).resolve_left ae;rw[hj,Int.toNat_natCast];intro x hx;rcases List.mem_or_eq_of_mem_set hx with h1|rfl
   .exact h x h1
   .exact h s.es[j]! (aq hjl)
def put_P {s:bN}{r:Rec}(h:∀x∈s.es,P x.r)(hr:P r):∀x∈(kO s r).1.es,P x.r:=by
 unfold kO;split
 .intro x hx;cases hx
 .split
  .intro x hx;cases hx
  .split
   .intro x hx;cases hx
   .split
    .intro x hx;cases hx
    .intro x hx;rcases List.mem_append.1 hx with h1|h1
     .exact h x h1
     .rw[aC.1 h1];exact hr
def aeG {l:List bN}(h:∀s∈l,∀x∈s.es,P x.r)(k:Nat):∀x∈l[k]!.es,P x.r:=nT (P:=fun s:bN=>∀x∈s.es,P x.r) (fun _ h=>ca) h k
def pub_P {g:Gs}{l:List bN}(h:∀s∈l,∀x∈s.es,P x.r)(hr:∀h nm v,v∈bU->nm∈cF->P (pj h nm v 2).1):∀s∈(lG g l).1,∀x∈s.es,P x.r:=by
 have r4:=g.aS.eI 4 ae;have r5:=g.aS.aS.eI 4 ae;by_cases h1:g.aS.aS.aS.val 6=0
 .rw[show lG g l=(qS l (kG g l) (UY g l),g.aS.aS.aS.aS.aS)from ak h1];exact Zk h (akQ (aeG h _))
 .rw[show lG g l=(qS l (kG g l) (UW g l),(rcG g).2)from ai h1];exact Zk h (put_P (aeG h _) (hr _ _ _ (aq (by simp only[bU,bE,b7];omega)) (C0 ae)))
def pS_P {g:Gs}(hr:∀h nm v,v∈bU->nm∈cF->P (pj h nm v 2).1):∀i,∀s∈(pS g i).1,∀x∈s.es,P x.r
 |0=>fun s hs=>by
  simp only[pS,MR,b9,cV,or_false]at hs;rcases hs with rfl|rfl<;>intro x hx<;>cases hx
 |i+1=>by rw[pS];exact pub_P (pS_P hr i) hr
end
def Zr (ks:List Int)(most:Int):GenS (en ks most):=pS_P (fun h nm v hv _=>RX h nm hv 2) _
def WK {l:List bN}(h:GenS l):Vw l:=fun s hs x hx=>(h s hs x hx).1
def ZY (ks:List Int):(fD ks).r.v=bU[0]! :=by
 unfold fD;split
 .rfl
 .rfl
def ZX (ks:List Int):Nz (fD ks).r:=by
 unfold fD;split
 .exact RX _ GH aT 3
 .exact⟨aT,fun n hn=>by cases hn⟩
end
def Xp {y:cD}(h:qp y)(nm:av):∀x∈dK y nm,x.r.name=nm/\(x.sh=-1\/∃j i:Nat,x.sh=(j:Int)/\j<y.shop.length/\i<y.shop[j]!.es.length/\x.r=y.shop[j]!.es[i]!.r/\ie y.shop[j]! =true):=by
 unfold dK;split
 .rename_i h0;intro x hx;rw[aC.1 hx];refine⟨?_,.inl rfl⟩;rcases gJ (f:=isM nm) (l:=y.l) (k:=0)with⟨h1,_⟩|⟨j,h1,h2,h3,_⟩
  .have:lF y.l nm=-1:=h1;omega
  .have e:lF y.l nm=((0+j:Nat):Int):=h1;rw[e,Int.toNat_natCast,b8];simpa[isM]using h3
 .split
  .intro x hx;cases hx
  .rename_i h1;have h1:(cM y.shop y.pins nm).2.2=0:=Classical.not_not.1 h1;have h2:(gp y.shop y.pins nm).2=0:=by
    unfold cM at h1;split at h1
    .rename_i h3;exact absurd h1 h3
    .rename_i h3;exact Classical.not_not.1 h3
   obtain⟨hB,j,hj,hjl⟩:=pL h2;have e1:cM y.shop y.pins nm=((j:Int),ke y.shop[j]! nm,0):=by
    unfold cM;rw[ai (fun h=>h h2),hj,Int.toNat_natCast]
   rw[e1];simp only[Int.toNat_natCast];have hs:=H7 hB hjl;have e2:ke y.shop[j]! nm=eB y.shop[j]!.es nm y.shop[j]!.es.length:=by unfold ke;rw[hs,ai aG]
   intro x hx;obtain⟨⟨i,hi,e⟩,hsh⟩:=(pT (y:=y) (nm:=nm) (a:=j) _).2 x hx;have hr:=(su y.shop[j]! nm).2 i hi;have hn:=(vO hs (h.v _ (aq hjl)) nm _ (aP _)).2 i (by rw[<-e2];exact hi);exact⟨by rw[e,hn],.inr ⟨j,i.toNat,hsh,hjl,ae,e,hs⟩⟩
def FeK (k:Key):Prop:=k.f=[]\/k.f=nM\/k.f=fW
def SU (k:Key):Prop:=dn k.n=true/\FeK k
structure SY (y:cD):Prop where
 p:qp y
 g:GenS y.shop
 gm:∀m∈y.l,Nz m.r
def Xo {y:cD}(h:SY y)(nm:av):∀x∈dK y nm,Nz x.r:=by
 intro x hx;rcases(Xp h.p nm x hx).2 with hs|⟨j,i,_,hj,hi,e,_⟩
 ·
  unfold dK at hx;split at hx
  .rename_i h0;rw[aC.1 hx];obtain⟨j,hj,hjl⟩:=(qM y.l nm).resolve_left ae;rw[hj,Int.toNat_natCast];exact h.gm _ (aq hjl)
  .split at hx
   .cases hx
   .have h5:=(pT (y:=y) (nm:=nm) (a:=(cM y.shop y.pins nm).1.toNat) _).2 x hx;rw[h5.2]at hs;exact absurd hs ae
 .rw[e];exact h.g _ (aq hj) _ (aq hi)
def AV (P:Key->Prop)(l:List fK):Prop:=∀row∈l,∀a∈row,P a.k
def MF {P:Key->Prop}{a b:List fK}(h1:AV P a)(h2:AV P b):AV P (a++b):=fun r hr=>(List.mem_append.1 hr).elim (h1 r) (h2 r)
def DO {P:Key->Prop}:AV P []:=fun r hr=>by cases hr
def tw {P:Key->Prop}{α:Type}{f:α->List fK}{l:List α}(h:∀x∈l,AV P (f x)):AV P (l.flatMap f):=fun r hr=>by
 obtain⟨x,hx,hr⟩:=List.mem_flatMap.1 hr;exact h x hx r hr
def MG {P:Key->Prop}{k:Key}{s:cy}(h:P k):AV P [[⟨k,s⟩]]:=fun r hr b hb=>by
 rw[aC.1 hr]at hb;rw[aC.1 hb];exact h
def M5 {w:de}(hn:dn w.name=true)(hf:∀f∈w.feats,f=fW):∀k∈eS w,SU k:=by
 intro k hk;refine⟨by rw[D9 w k hk];exact hn, ?_⟩;unfold eS at hk;rcases List.mem_append.1 hk with h|h
 .split at h
  .split at h
   .rw[aC.1 h];exact .inl rfl
   .cases h
  .rw[aC.1 h];exact .inr (.inl rfl)
 .obtain⟨f,hf2,rfl⟩:=cC.1 h;exact .inr (.inr (hf f hf2))
def R2 {n:br}(hN:wF n)(hn:∀w∈n.any,dn w.name=true)(hf:∀w∈n.any,∀f∈w.feats,f=fW):AV SU (iG n):=by
 unfold iG;split
 .intro r hr a ha;obtain⟨k,hk,rfl⟩:=cC.1 hr;rw[aC.1 ha];have h0:=aq hN.1.1;exact M5 (hn _ h0) (hf _ h0) k hk
 .intro r hr a ha;rw[aC.1 hr]at ha;obtain⟨w,hw,rfl⟩:=cC.1 ha;exact M5 (hn w hw) (hf w hw) _ (aq (ot w).1)
def aiP {s:av}(h:rr s):(bL s).1=2\/((bL s).1=3/\(bL s).2.2=fW):=by
 have:∀s∈Ty,(bL s).1=2\/((bL s).1=3/\(bL s).2.2=fW):=by decide+kernel
 exact this s h
def X1 {r:Rec}(h:BY r)(hg:Nz r)(e:Env)(o:av):AV SU (qL r.needs e o):=tw fun n hn=>by
 unfold Bb;split
 .exact R2 ((gE h).2 n hn) (p0 h n hn) (hg.2 n hn)
 .exact DO
def XG {r:Rec}(h:BY r)(hg:Nz r)(e:Env)(ft:av):AV SU (dc r e ft):=by
 unfold dc;split
 .exact X1 h hg e []
 .refine MF (MG ⟨h.1.1.1,.inl rfl⟩) (tw fun s hs=>?_);have hi:=aiP ((xG h ft).2 s hs);unfold lZ;rw[ai (by rcases hi with h|h<;>omega)];split
  .exact X1 h hg e _
  .rename_i h2;obtain⟨_,h3⟩:=hi.resolve_left h2;refine tw fun n hn=>?_
   unfold ru;split
   .rename_i hc;have hN:=(gE h).2 n hn;refine MF ?_ (MG ⟨?_,.inr (.inr h3)⟩)
    .split
     .exact DO
     .exact R2 hN (p0 h n hn) (hg.2 n hn)
    .show dn (bL s).2.1=true;rw[<-hc.1.2];exact p0 h n hn _ (aq hN.1.1)
   .exact DO
def adB {y:cD}(hy:SY y)(k:Key):AV SU (df y k):=by
 unfold df;split
 .obtain⟨⟨⟨m,hm,hM⟩,_⟩,_⟩:=hy.p.p;intro r hr a ha;rw[hm]at hr;rw[aC.1 hr]at ha;rw[aC.1 ha];exact⟨(BE hM).1.1.1,.inr (.inl rfl)⟩
 .exact tw fun x hx=>XG ((xI hy.p.p k).2 x hx).1 (Xo hy k.n x (List.mem_filter.1 hx).1) y.e k.f
def RV {y:cD}(hy:SY y):∀(n:Nat){s:oY}{all:List Key},(∀k∈s.all,k=fZ\/SU k)->Be y n s=some all->∀k∈all,k=fZ\/SU k
 |0,s,all,_,h=>by cases h
 |n+1,s,all,hI,h=>by
  rw[Be]at h;split at h
  .obtain rfl:=aW h;exact hI
  .split at h
   .cases h
   .refine RV hy n (fun k hk=>?_) h;have hm:∀(row:fK) (s:oY),(∀a∈row,SU a.k)->(∀k∈s.all,k=fZ\/SU k)->∀k∈(row.foldl me s).all,k=fZ\/SU k:=by
     intro row;induction row with
     |nil=>intro s _ h;exact h
     |cons b r ih=>
      intro s hn h;refine ih _ (fun a ha=>hn a (.tail _ ha)) fun k hk=>?_
      rcases((HI s b).1 k).1 hk with h1|rfl
      .exact h k h1
      .exact .inr (hn b (.head _))
    have hm2:∀(l:List fK) (s:oY),AV SU l->(∀k∈s.all,k=fZ\/SU k)->∀k∈(OY s l).all,k=fZ\/SU k:=by
     intro l;induction l with
     |nil=>intro s _ h;exact h
     |cons b r ih=>
      intro s hn h;exact ih _ (fun row hr=>hn row (.tail _ hr)) (hm b s (hn b (.head _)) h)
    exact hm2 (df y s.todo[0]!) ⟨s.all,s.todo.drop 1⟩ (adB hy _) hI k hk
section
def BX (c:List Int)(is:List Bool):Prop:=is.length=c.length/\∀j:Nat,is[j]! =true->0<=c[j]!
def R7 (is:List Bool)(i j:Nat)(b:Bool)(h:(is.set i b)[j]! =true):(i=j/\b=true)\/is[j]! =true:=by
 by_cases e:i=j
 .subst e;rcases eh i is.length with h1|h1
  .rw[List.getElem!_eq_getElem?_getD,List.getElem?_set_self h1]at h;exact .inl ⟨rfl,ra⟩
  .rw[List.set_eq_of_length_le h1]at h;exact .inr h
 .rw[List.getElem!_eq_getElem?_getD,List.getElem?_set_ne e,<-List.getElem!_eq_getElem?_getD]at h;exact .inr h
section
variable {w:b6} {c:List Int} {is:List Bool}
def XE (w:b6)(c:List Int)(is:List Bool)(x:Want):List Bool:=is.set x.u.toNat (is[x.u.toNat]! ||qH w c x)
def ac0 (x:Want)(h:BX c is):BX c (XE w c is x):=by
 refine⟨by unfold XE;rw[List.length_set];exact h.1,fun j hj=>?_⟩;rcases R7 _ _ _ _ hj with⟨rfl,h1⟩|h1
 .rcases Bool.or_eq_true_iff.1 h1 with h2|h2
  .exact h.2 _ h2
  .unfold qH at h2;simp only[aN,bn]at h2;exact h2.1
 .exact h.2 _ h1
def Hl:∀(l:List Want){is:List Bool},BX c is->BX c (C1 w c is l)
 |[],_,h=>h
 |x::r,_,h=>Hl r (ac0 x h)
def Hj:∀(l:List oz){is:List Bool},BX c is->BX c (A7 w c is l)
 |[],_,h=>h
 |x::r,_,h=>Hj r (Hl x h)
def BG:∀(n:Nat){is:List Bool},BX c is->BX c (oD w c n is)
 |0,_,h=>h
 |n+1,_,h=>by
  rw[oD];unfold TL;split
  .exact Hj _ (BG n h)
  .exact BG n h
def Rn:∀(n:Nat){is:List Bool},BX c is->BX c (sz w c n is)
 |0,_,h=>h
 |n+1,_,h=>BG _ (Rn n h)
def acX:BX c (nu c):=by
 refine⟨by simp[nu],fun j hj=>?_⟩;rcases R7 _ _ _ _ hj with⟨rfl,h1⟩|h1
 .simpa using h1
 .exfalso;rcases eh j c.length with h2|h2<;>simp[List.getElem!_eq_getElem?_getD,h2]at h1
def aje {l:List Want}{q:Nat}(h:q<l.length):C1 w c is (l.take (q+1))=XE w c (C1 w c is (l.take q)) l[q]! :=by
 rw[List.take_add_one,List.getElem?_eq_getElem h,getElem!_pos l q h];simp only[C1,Option.toList_some,List.foldl_append,List.foldl_cons,List.foldl_nil,XE]
def ajd {l:List oz}{k:Nat}(h:k<l.length):A7 w c is (l.take (k+1))=C1 w c (A7 w c is (l.take k)) l[k]! :=by
 rw[List.take_add_one,List.getElem?_eq_getElem h,getElem!_pos l k h];simp only[A7,Option.toList_some,List.foldl_append,List.foldl_cons,List.foldl_nil]
def ajc {j:Nat}(h:(oD w c j is)[j]! =true):oD w c (j+1) is=A7 w c (oD w c j is) (aY w c j).needs:=by rw[oD];unfold TL;rw[ak h]
def ajb {j:Nat}(h:¬(oD w c j is)[j]! =true):oD w c (j+1) is=oD w c j is:=by rw[oD];unfold TL;rw[ai h]
def aeT {i:Nat}(h:i<is.length)(b:Bool):(is.map D.bool).set i (qb ((is.map D.bool).getD i .any) 1 1 0 (.bool b))=(is.set i b).map D.bool:=by
 rw[List.getD_eq_getElem?_getD,List.getElem?_map,List.getElem?_eq_getElem h,List.map_set];rfl
def acY (h:0<c.length):(List.replicate c.length (D.bool false)).set 0 (qb ((List.replicate c.length (D.bool false)).getD 0 .any) 1 1 0 (.bool (decide (0<=c[0]!))))=(nu c).map D.bool:=by
 have:=aeT (is:=List.replicate c.length false) (i:=0) ra (decide (0<=c[0]!));rw[List.map_replicate]at this;exact this
def ajf (h:ik w c=false):gX w c=[]:=ak h
def Rp (h:ik w c=true):gX w c=sz w c c.length (nu c):=ai fV
end
def CY {w:b6}{c:List Int}(h:ik w c=true):c.length=w.us.length/\(1<=c.length/\c.length<=48)/\∀i,i<c.length->-1<=c[i]! /\c[i]! <(w.us[i]!.cands.length:Int):=by
 have h2:=h;simp only[ik,aN]at h2;obtain⟨h3,h4⟩:=qC h2.2;exact⟨h3,Oy h,h4⟩
end
end Go.Abs
section
namespace Go.Abs
def ah7 (n:Int):kX (ff n):=by
 have h:=du n 3 aT;unfold kX ff;obtain⟨i,hi⟩:∃i:Nat,(bY n 3).toNat=i:=⟨_,rfl⟩
 rw[hi];have:i=0\/i=1\/i=2:=ae;rcases this with rfl|rfl|rfl<;>decide
def ad3 (ks ss:List Int)(most n:Int):SY (Nl (fD ks) (en ss most) (ff n)):=by
 have hg:=Zr ss most;have hy:=ZW ks;refine⟨⟨⟨⟨hy,DV _ _⟩,aG,(fun k hk=>by cases hk), ?_⟩,WK hg,fun m hm=>?_⟩,hg,fun m hm=>?_⟩
 .have:=(tE hy (i:=0) aG).2.2.1;have h2:(gK [fD ks]).length<=1:=this;show(gK [fD ks]).length<=1000;omega
 .rw[aC.1 hm,ZY];decide
 .rw[aC.1 hm];exact ZX ks
def NmS (l:List bN):Prop:=∀s∈l,s.name.length<=16
def Zm {l:List bN}{k:Nat}{s:bN}(h:NmS l)(hs:s.name.length<=16):NmS (l.set k s):=fun x hx=>by
 rcases List.mem_or_eq_of_mem_set hx with h1|rfl
 .exact h x h1
 .exact hs
def N6 {l:List bN}(h:NmS l)(k:Nat):l[k]!.name.length<=16:=nT (P:=fun s:bN=>s.name.length<=16) aT h k
def ajT {g:Gs}{l:List bN}(h:NmS l):NmS (lG g l).1:=by
 by_cases h1:g.aS.aS.aS.val 6=0
 .by_cases h2:(UY g l).2=0
  .rw[Yj h1 h2];refine Zm h ?_;have:=N6 h (kG g l);unfold UY ow;split
   .exact Nat.zero_le _
   .split
    .exact Nat.zero_le _
    .exact this
  .rw[Yk h1 h2];exact h
 .by_cases h2:(UW g l).2=0
  .rw[Yl h1 h2];refine Zm h ?_;have:=N6 h (kG g l);unfold UW kO;split
   .exact Nat.zero_le _
   .split
    .exact Nat.zero_le _
    .split
     .exact Nat.zero_le _
     .split
      .exact Nat.zero_le _
      .exact this
  .rw[Ym h1 h2];exact h
def ae0 (g:Gs):∀i,NmS (pS g i).1
 |0=>by
  intro s hs;simp only[pS,MR,b9,cV,or_false]at hs;rcases hs with rfl|rfl<;>decide
 |i+1=>ajT (ae0 g i)
def adM (ss:List Int)(most:Int):NmS (en ss most):=ae0 _ _
def NmU (w:b6):Prop:=∀u∈w.us,u.name.length<=16/\u.feat.length<=16
def acV {s:av}(h:dn s=true):s.length<=16:=by
 unfold dn at h;simp only[aN,bn]at h;exact h.1.1.1.2
def VN {y:cD}(hy:SY y)(h:(fO y).2=true):NmU (fO y).1:=by
 obtain⟨all,h1,h2,_,_⟩:=Eg hy.p.p h;have hk:=RV hy 49 (s:=oE) (all:=all) (fun k hk=>.inl (by simpa[oE]using hk)) h1;intro u hu;rw[h2]at hu;obtain⟨k,hk1,rfl⟩:=cC.1 hu;show k.n.length<=16/\k.f.length<=16;rcases hk k hk1 with rfl|⟨h3,h4⟩
 .decide
 .refine⟨acV h3, ?_⟩;rcases h4 with h4|h4|h4<;>rw[h4]<;>decide
structure Kx (n:Nat)(x:dm):Prop where
 v:x.v.sm
 name:x.name.length<=16
 shelf:x.shelf.length<=16
 nf:x.feats.length<=n
 ft:∀t∈x.feats,t.length<=16
structure NA (n:Nat)(l:jT):Prop where
 len:l.lines.length<=48
 lines:∀x∈l.lines,Kx n x
 env:∀i,(l.env.at i).length<=16
theorem NA.sm {n:Nat}{l:jT}(h:NA n l)(hn:n<=1000):l.sm:=by
 refine⟨by have:=h.len;omega,fun x hx=>?_,fun i=>by have:=h.env i;omega⟩;have k:=h.lines x hx;have k3:=k.name;have k4:=k.shelf;have k5:=k.nf;exact⟨k.v,ae,ae,ae,fun t ht=>by have:=k.ft t ht;omega⟩
def Kx.mono {n m:Nat}{x:dm}(h:Kx n x)(hm:n<=m):Kx m x:=⟨h.v,h.name,h.shelf,eJ h.nf hm,h.ft⟩
section
variable {shop:List bN} {w:b6} {c:List Int} {e:Env}
def Ce (hw:NmU w)(nm:av):∀i,i<=w.us.length->∀t∈jb w.us c nm i,t.length<=16
 |0,_=>fun t ht=>by cases ht
 |i+1,hi=>by
  rw[jb];split
  .intro t ht;rcases List.mem_append.1 ht with h|h
   .exact Ce hw nm i ae t h
   .rw[aC.1 h];exact(hw _ (aq ae)).2
  .exact Ce hw nm i ae
def aiZ (hs:NmS shop)(hm:w.sm)(hl:w.us.length<=48)(hw:NmU w){u:Nat}(hu:u<w.us.length)(h:(mO shop w.us c u (kD w.us c u)).2=0):Kx 48 (mO shop w.us c u (kD w.us c u)).1:=by
 have hn:=(hw _ (aq hu)).1;have hf:(sa w.us c u).length<=48:=eJ (vD _ _) hl;have hft:∀t∈sa w.us c u,t.length<=16:=Ce hw _ _ (aP _)
 have hv:(kD w.us c u).v.sm:=nT (P:=fun c:ei=>c.v.sm) ⟨aT,aT⟩ (fun c hc=>((hm _ (aq hu)).2 c hc).1) _;unfold mO at*
 split at h
 .rename_i h1;rw[ak h1];exact⟨hv,hn,Nat.zero_le _,hf,hft⟩
 .rename_i h1;rw[ai h1];split at h
  .cases h
  .rename_i h2;rw[ai h2];split at h
   .cases h
   .rename_i h3;rw[ai h3];exact⟨hv,hn,N6 hs _,hf,hft⟩
def Xk (hs:NmS shop)(hm:w.sm)(hl:w.us.length<=48)(hw:NmU w):∀i,i<=w.us.length->∀x∈(ek shop w.us c i).1,Kx 48 x
 |0,_=>fun x hx=>by cases hx
 |i+1,hi=>by
  have ih:=Xk hs hm hl hw i ae;rw[ek];split
  .exact ih
  .split
   .exact ih
   .split
    .intro x hx;cases hx
    .rename_i h3;intro x hx;rcases List.mem_append.1 hx with h|h
     .exact ih x h
     .rw[aC.1 h];exact aiZ hs hm hl hw ae (Classical.not_not.1 h3)
def of_w (hs:NmS shop)(hm:w.sm)(hl:w.us.length<=48)(hw:NmU w)(he:∀i,(e.at i).length<=16):NA 48 (Hp shop e w c).1:=by
 have h0:NA 48 Hb:=⟨aT,(fun x hx=>by cases hx),fun i=>by unfold Hb Env.at;grind⟩;unfold Hp;split
 .exact h0
 .split
  .exact h0
  .split
   .exact h0
   .exact⟨eJ (yY _) hl,Xk hs hm hl hw _ (aP _),he⟩
def VJ {n:Nat}{l:jT}(h:NA n l)(a b d:Int):NA (n+1) (iR l a b d):=by
 have hl:∀y∈l.lines,Kx (n+1) y:=fun y hy=>(h.lines y hy).mono ae
 have hlen:=h.len;have h7:∀t∈nm7,t.length<=16:=aT
 have h5:∀t∈sh5,t.length<=16:=aT
 have h3:∀t∈ft3,t.length<=16:=aT
 have h2:∀t∈bu3,t.length<=2:=aT
 have hset:∀(k:Nat) (x:dm),Kx (n+1) x->NA (n+1) ⟨l.env,l.lines.set k x⟩:=fun k x hx=>⟨by rw[List.length_set];exact hlen,fun y hy=>by
  rcases List.mem_or_eq_of_mem_set hy with h1|rfl
  .exact hl y h1
  .exact hx,h.env⟩
 unfold iR;split
 .exact⟨hlen,hl,h.env⟩
 .rename_i hne;have hpos:0<l.lines.length:=List.length_pos_iff.2 hne;have hr:=du a l.lines.length ae;have hx0:=h.lines _ (aq (show(bY a l.lines.length).toNat<l.lines.length by omega));have hx:=hx0.mono (show n<=n+1 by omega);simp only;split
  .exact hset _ _ ⟨hx.v,nT (P:=fun s:av=>s.length<=16) aT h7 _,hx.shelf,hx.nf,hx.ft⟩
  split
  .exact hset _ _ ⟨tA _,hx.name,hx.shelf,hx.nf,hx.ft⟩
  split
  .exact hset _ _ ⟨hx.v,hx.name,nT (P:=fun s:av=>s.length<=16) aT h5 _,hx.nf,hx.ft⟩
  split
  .exact hset _ _ ⟨hx.v,hx.name,hx.shelf,hx.nf,hx.ft⟩
  split
  .refine hset _ _ ⟨hx.v,hx.name,hx.shelf,by have:=hx0.nf;simp only[ct,List.length_singleton];omega,fun t ht=>?_⟩;rcases List.mem_append.1 ht with h1|h1
   .exact hx.ft t h1
   .rw[aC.1 h1];exact nT (P:=fun s:av=>s.length<=16) aT h3 _
  split
  .have hb:(bu3[(bY d 3).toNat]!).length<=2:=nT (P:=fun s:av=>s.length<=2) aT h2 _;exact hset _ _ ⟨⟨hx.v.1,eJ hb aT⟩,hx.name,hx.shelf,hx.nf,hx.ft⟩
  split
  .refine⟨by simp only[ct,eg,j5];omega,fun y hy=>?_,h.env⟩;rcases List.mem_append.1 hy with h1|h1
   .exact hl y (zG h1)
   .exact hl y (List.mem_of_mem_drop h1)
  .exact⟨hlen,hl,fun i=>QS _ i⟩
end
end Go.Abs
namespace Go.Abs
def UF {w:b6}{c:List Int}(h:ik w c=true)(h0:0<=c[0]!):0<=(Gj w c)[0]! :=by
 obtain⟨_,⟨h1,_⟩,_⟩:=CY h;rw[adT h ae];have h2:(nu c)[0]! =true:=by
  unfold nu;rw[List.getElem!_eq_getElem?_getD,List.getElem?_set_self dN];simpa using h0
 have h3:=(Hk (w:=w) (c:=c) c.length (nu c)).2 0 (by simp[nu];omega) h2;rw[Rp h,ak h3];exact h0
section
variable {m:gV} {shop:List bN} {e:Env} {os:List Int}
def UB (hy:SY (Nl m shop e))(h:(cZ m shop e os).2.2=true):((cZ m shop e os).1.sm/\(cZ m shop e os).1.us.length<=48/\NmU (cZ m shop e os).1)/\0<=(cZ m shop e os).2.1[0]! :=by
 by_cases h0:(fo m shop e).2≠0\/5000<Hy (fo m shop e).1.us
 .rw[MT h0]at h;cases h
 .have h1:(fo m shop e).2=0/\¬5000<Hy (fo m shop e).1.us:=⟨Classical.not_not.1 fun h2=>h0 (.inl h2),fun h2=>h0 (.inr h2)⟩;cases hf:lM (fo m shop e).1.us (jd (fo m shop e).1.us os)with
  |none=>rw[MU h1 hf]at h;cases h
  |some c=>
   obtain⟨hb,hw⟩:=rU hy.p h1.1;have hc:=oU hb.msk (tu os) _ _ (xE _) hf;have hs16:∀x∈(fo m shop e).1.us,x.cands.length<=16:=fun x hx=>(hb.u x hx).1
   obtain⟨⟨g1,_⟩,g2⟩:=N0 hw hs16 (abH hc.2) hc.1;rw[MV h1 hf];refine⟨⟨hb.sm,hb.len.2, ?_⟩,UF g1 g2⟩;have h2:=h1.1;unfold fo gY at h2⊢;split at h2
   .cases h2
   .split at h2
    .cases h2
    .split at h2
     .cases h2
     .rename_i h3;rw[ai (by assumption),ai (by assumption),ai h3];exact VN hy (by simpa using h3)
end
end Go.Abs
end
namespace Go.Abs
def P9 (T:List D->D->Prop):Prop:=∀(l:jT) (pa:Int) (pw:Int) (pb:Int),(l.sm)->T [jT.D l,.int .i64 pa,.int .i64 pw,.int .i64 pb] (jT.D (iR l pa pw pb))
def C93 (Y:Ctx):Prop:=P9 (aE Y 93)
section
def adx (g:Gs)(nm:av)(v:bZ):oZ 60 g (pj g nm v 3).2:=by
 have r:=(g.Sk (3+1)).1 ae;have h1:=xB nm g.aS (g.val (3+1)).toNat;have h2:=GN (nS nm g.aS (g.val (3+1)).toNat).2 nm;have h3:=GY (eA (nS nm g.aS (g.val (3+1)).toNat).2 nm).2 (nS nm g.aS (g.val (3+1)).toNat).1;show oZ 60 g (kZ (eA (nS nm g.aS (g.val (3+1)).toNat).2 nm).2 (nS nm g.aS (g.val (3+1)).toNat).1).2;rw[h1.2]at h3;have h4:=h1.1;unfold oZ at*
 simp only[Gs.XL]at*
 omega
section
variable {g:Gs}
def ajL (h:g.val 4=0):j0 g=([⟨cF[(g.aS.val 4).toNat]!,AN⟩],g.aS.aS):=ak h
def ajK (h:¬g.val 4=0):j0 g=([],g.aS):=ai h
def acy (h:g.val 4=0):Cx g=([⟨cF[(g.aS.val 4).toNat]!,j2[(g.aS.aS.val 8).toNat]!⟩],g.aS.aS.aS):=ak h
def acx (h:¬g.val 4=0):Cx g=([],g.aS):=ai h
def adh (g:Gs):oZ 2 g (j0 g).2:=by unfold j0 oZ;split<;>simp only[Gs.aS]<;>omega
end
end
def IM (T:List D->D->Prop):Prop:=∀(l:List gV) (nm:av),T [.sl 11 (l.map gV.D),.str nm] (.int .i64 (lF l nm))
def C356 (Y:Ctx):Prop:=IM (aE Y 356)
def II (T:List D->D->Prop):Prop:=∀(l:List iH),T [.sl 2 (l.map iH.D)] (.tup [.int .i64 (Db l).1,.int .i64 (Db l).2])
def C344 (Y:Ctx):Prop:=II (aE Y 344)
def IJ (T:List D->D->Prop):Prop:=∀(l:List kv),(∀x∈l,ki x.range)->T [.sl 2 (l.map kv.D)] (.tup [.int .i64 (Cy l).1,.int .i64 (Cy l).2])
def C345 (Y:Ctx):Prop:=IJ (aE Y 345)
def Is (T:List D->D->Prop):Prop:=∀(m:gV),(Xu m)->T [gV.D m] (.tup [.int .i64 (kC m).1,.int .i64 (kC m).2])
def C136 (Y:Ctx):Prop:=Is (aE Y 136)
def P2 (T:List D->D->Prop):Prop:=∀(ks:List Int),T [.sl 1 (ks.map (D.int .i64))] (.sl 11 ([fD ks].map gV.D))
def C28 (Y:Ctx):Prop:=P2 (aE Y 28)
def IW (T:List D->D->Prop):Prop:=∀(c:List Int) (x:dU),(Ky c x)->T [.sl 1 (c.map (D.int .i64)),dU.D x] (.bool (CZ c x))
def C416 (Y:Ctx):Prop:=IW (aE Y 416)
def Iz (T:List D->D->Prop):Prop:=∀(c:List Int) (l:List dU),(∀x∈l,Ky c x)->T [.sl 1 (c.map (D.int .i64)),.sl 2 (l.map dU.D)] (.bool (kd c l))
def C184 (Y:Ctx):Prop:=Iz (aE Y 184)
def JO (T:List D->D->Prop):Prop:=∀(al:List Int) (u:Int) (p:Int),(al=[])->T [.sl 1 (al.map (D.int .i64)),.int .i64 u,.int .i64 p] (.bool true)
def C829 (Y:Ctx):Prop:=JO (aE Y 829)
def Jv (T:List D->D->Prop):Prop:=∀(m:j7) (al:List Int) (c:List Int),((wE m/\Km m c)/\al=[])->T [j7.D m,.sl 1 (al.map (D.int .i64)),.sl 1 (c.map (D.int .i64))] (.bool (yK m c))
def C692 (Y:Ctx):Prop:=Jv (aE Y 692)
def JP (T:List D->D->Prop):Prop:=∀(od:List (List Int)) (u:Int) (n:Nat),(((0<=u/\u<=1000)/\n<=16)/\(cR od u).length<=16)->T [.sl 1 (od.map jK),.int .i64 u,.int .i64 ((n:Nat):Int)] (.sl 1 ((cI (cR od u) n n).map (D.int .i64)))
def C830 (Y:Ctx):Prop:=JP (aE Y 830)
def JQ (T:List D->D->Prop):Prop:=∀(l:List dU) (o:dU),T [.sl 2 (l.map dU.D),dU.D o] (.bool (offB l o))
def C831 (Y:Ctx):Prop:=JQ (aE Y 831)
def Jw (T:List D->D->Prop):Prop:=∀(m:j7) (al:List Int) (c:List Int),((wE m/\Km m c)/\al=[])->T [j7.D m,.sl 1 (al.map (D.int .i64)),.sl 1 (c.map (D.int .i64))] (.tup [.int .i64 (ea m c).1,.int .i64 (ea m c).2])
def C693 (Y:Ctx):Prop:=Jw (aE Y 693)
def Jx (T:List D->D->Prop):Prop:=∀(m:j7) (al:List Int) (od:List (List Int)) (c:List Int),((wE m/\Km m c)/\al=[]/\yH m od)->T [j7.D m,.sl 1 (al.map (D.int .i64)),.sl 1 (od.map jK),.sl 1 (c.map (D.int .i64))] (.sl 2 ((ed m od c).map dU.D))
def C694 (Y:Ctx):Prop:=Jx (aE Y 694)
def SG (T:List D->D->Prop):Prop:=∀(m:j7) (od:List (List Int)) (c:List Int),((wE m/\Km m c)/\yH m od)->T [j7.D m,Ask.D ⟨[],od⟩,.sl 1 (c.map (D.int .i64))] (OI (mi m od c))
def C505 (Y:Ctx):Prop:=SG (aE Y 505)
def aem (Y:Ctx)(u:Nat):Prop:=∀(m:j7) (od:List (List Int)) (c:List Int),((wE m/\Km m c)/\yH m od)->EW c<u->Y.pre 505 [j7.D m,Ask.D ⟨[],od⟩,.sl 1 (c.map (D.int .i64))]/\Y.val 505 [j7.D m,Ask.D ⟨[],od⟩,.sl 1 (c.map (D.int .i64))]=OI (mi m od c)
def Iy (T:List D->D->Prop):Prop:=∀(w:b6) (l:List Want),(w.sm/\(∀x∈l,x.sm)/\l.length<=1000)->T [b6.D w,.sl 3 (l.map Want.D)] (.sl 2 ((ew w.us l).map dU.D))
def C183 (Y:Ctx):Prop:=Iy (aE Y 183)
def P4 (T:List D->D->Prop):Prop:=∀(w:b6),((w.sm/\w.us.length<=1000)/\Few w.us)->T [b6.D w] ((dy w.us).D)
def C46 (Y:Ctx):Prop:=P4 (aE Y 46)
def IE (T:List D->D->Prop):Prop:=∀(w:b6) (od:List (List Int)),((((w.sm/\w.us.length<=1000)/\Few w.us)/\fN w=true)/\yH (dy w.us) od)->T [b6.D w,Ask.D ⟨[],od⟩] (OI (lM w.us od))
def C267 (Y:Ctx):Prop:=IE (aE Y 267)
def IF (T:List D->D->Prop):Prop:=∀(w:b6) (l:List Int),(w.sm/\w.us.length<=1000)->T [b6.D w,.sl 1 (l.map (D.int .i64))] (.sl 1 ((jd w.us l).map jK))
def C268 (Y:Ctx):Prop:=IF (aE Y 268)
def Ir (T:List D->D->Prop):Prop:=∀(w:b6),(w.sm)->T [b6.D w] (.int .i64 ((Hy w.us:Nat):Int))
def C114 (Y:Ctx):Prop:=Ir (aE Y 114)
def Jj (T:List D->D->Prop):Prop:=∀(l:List iH) (p:iH),(l.length<=10000)->T [.sl 2 (l.map iH.D),iH.D p] (.tup [.sl 2 ((lE l p).1.map iH.D),.bool (lE l p).2])
def C581 (Y:Ctx):Prop:=Jj (aE Y 581)
def It (T:List D->D->Prop):Prop:=∀(l:List gV),(wG l)->T [.sl 11 (l.map gV.D)] (.tup [.int .i64 0,.int .i64 0])
def U3 (Y:Ctx):Prop:=It (aE Y 143)
def El (T:List D->D->Prop):Prop:=∀(l:List gV) (nm:av),(wG l)->T [.sl 11 (l.map gV.D),.str nm] (.int .i64 (lF l nm))
def aea (Y:Ctx):Prop:=El (aE Y 1012)
def Eu (T:List D->D->Prop):Prop:=∀(s:bN) (nm:av),T [bN.D s,.str nm] (.bool (Cv nm s))
def ael (Y:Ctx):Prop:=Eu (aE Y 1121)
def C361 (Y:Ctx):Prop:=tW (aE Y 361)
def Et (T:List D->D->Prop):Prop:=∀(l:List iH),T [.sl 2 (l.map iH.D)] (.bool (Ai l))
def aek (Y:Ctx):Prop:=Et (aE Y 1120)
def Er (T:List D->D->Prop):Prop:=∀(shop:List bN) (ps:List iH) (nm:av),(iP shop)->T [.sl 2 (shop.map bN.D),.sl 2 (ps.map iH.D),.str nm] (.tup [.int .i64 (gp shop ps nm).1,.int .i64 (gp shop ps nm).2])
def aeh (Y:Ctx):Prop:=Er (aE Y 1083)
def Es (T:List D->D->Prop):Prop:=∀(s:bN) (nm:av),(∀x∈s.es,ic x.r)->T [bN.D s,.str nm] (.sl 1 ((ke s nm).map (D.int .i64)))
def aei (Y:Ctx):Prop:=Es (aE Y 1084)
def Em (T:List D->D->Prop):Prop:=∀(shop:List bN) (ps:List iH) (nm:av),(iP shop)->T [.sl 2 (shop.map bN.D),.sl 2 (ps.map iH.D),.str nm] (.tup [.int .i64 (cM shop ps nm).1,.sl 1 ((cM shop ps nm).2.1.map (D.int .i64)),.int .i64 (cM shop ps nm).2.2])
def aeb (Y:Ctx):Prop:=Em (aE Y 1013)
def En (T:List D->D->Prop):Prop:=∀(l:List gV) (nm:av),(wG l)->T [.sl 11 (l.map gV.D),.str nm] (.tup [cy.D (kI l nm),.int .i64 0])
def aec (Y:Ctx):Prop:=En (aE Y 1014)
def Eo (T:List D->D->Prop):Prop:=∀(y:cD) (ns:List av) (r:Rec),((∀k∈y.keeps,k.v.sm)/\r.v.sm)->T [cD.D y (fdR y ns),Rec.D r] (.bool (Lh y.keeps r))
def aed (Y:Ctx):Prop:=Eo (aE Y 1015)
def C909 (Y:Ctx):Prop:=∀(y:cD) (ns:List av) (nm:av),pC y->Ny Y 909 y (fun f=>[cD.D y f,.str nm]) ns ns (uG (dK y nm))
def C755 (Y:Ctx):Prop:=∀(y:cD) (ns:List av) (nm:av),pC y->ns.length<=1000->Ny Y 755 y (fun f=>[cD.D y f,.str nm]) ns (eL ns nm) (uG (dK y nm))
def C752 (Y:Ctx):Prop:=∀(y:cD) (ns:List av) (k:Key),pC y->ns.length<=999->Ny Y 752 y (fun f=>[cD.D y f,Key.D k]) ns (eL ns k.n) (uG (eH y k))
def C751 (Y:Ctx):Prop:=∀(y:cD) (ns:List av),(∀m∈y.l,m.r.v∈bU)->y.l.length<=1000->Ny Y 751 y (fun f=>[cD.D y f]) ns ns (.sl 1 ((eC y.l).map dR))
def JS (T:List D->D->Prop):Prop:=∀(a:Key) (b:Key),T [Key.D a,Key.D b] (.bool (eX a b))
def C902 (Y:Ctx):Prop:=JS (aE Y 902)
def Ep (T:List D->D->Prop):Prop:=∀(x:de),(x.feats.length<=10000)->T [de.D x] (.sl 2 ((eS x).map Key.D))
def aeg (Y:Ctx):Prop:=Ep (aE Y 1080)
def Ek (T:List D->D->Prop):Prop:=∀(n:br),(wF n/\n.sm)->T [br.D n] (.sl 1 ((iG n).map dR))
def UZ (Y:Ctx):Prop:=Ek (aE Y 1009)
def JW (T:List D->D->Prop):Prop:=∀(r:Rec) (e:Env) (nm:av) (ft:av),(BY r/\kX e)->T [Rec.D r,Env.D e,.str nm,.str ft] (.sl 1 ((iT r.needs e nm ft).map dR))
def C906 (Y:Ctx):Prop:=JW (aE Y 906)
def JU (T:List D->D->Prop):Prop:=∀(r:Rec) (e:Env) (o:av),(BY r/\kX e)->T [Rec.D r,Env.D e,.str o] (.sl 1 ((qL r.needs e o).map dR))
def C904 (Y:Ctx):Prop:=JU (aE Y 904)
def JV (T:List D->D->Prop):Prop:=∀(l:List ch) (nm:av),T [.sl 2 (l.map ch.D),.str nm] (.sl 1 ((uT l nm).map D.str))
def C905 (Y:Ctx):Prop:=JV (aE Y 905)
def JH (T:List D->D->Prop):Prop:=∀(r:Rec) (e:Env) (ft:av),((BY r/\r.v∈bU)/\kX e)->T [Rec.D r,Env.D e,.str ft] (.sl 1 ((dc r e ft).map dR))
def C753 (Y:Ctx):Prop:=JH (aE Y 753)
def JT (T:List D->D->Prop):Prop:=∀(l:List Key) (k:Key),T [.sl 2 (l.map Key.D),Key.D k] (.int .i64 (eP l k))
def C903 (Y:Ctx):Prop:=JT (aE Y 903)
def JG (T:List D->D->Prop):Prop:=∀(all:List Key) (l:List fK),(l.length<=1000/\∀r∈l,r.length<=1000)->T [.sl 2 (all.map Key.D),.sl 1 (l.map dR)] (.sl 1 ((dL all l).map jC))
def C750 (Y:Ctx):Prop:=JG (aE Y 750)
def JI (T:List D->D->Prop):Prop:=∀(all:List Key) (r:Rec) (e:Env),(BY r/\kX e)->T [.sl 2 (all.map Key.D),Rec.D r,Env.D e] (.sl 3 ((wN all r e).map Want.D))
def C754 (Y:Ctx):Prop:=JI (aE Y 754)
def C583 (Y:Ctx):Prop:=∀(y:cD) (ns:List av) (all:List Key) (k:Key),(qp y/\kX y.e)->ns.length<=990->Ny Y 583 y (fun f=>[cD.D y f,.sl 2 (all.map Key.D),Key.D k]) ns (jo ns k) (rV y all k)
def C748 (Y:Ctx):Prop:=∀(y:cD) (ns:List av) (k:Key),(qp y/\kX y.e)->ns.length<=998->Ny Y 748 y (fun f=>[cD.D y f,Key.D k]) ns (jo ns k) (.sl 1 ((df y k).map dR))
def JF (T:List D->D->Prop):Prop:=∀(l:List Key) (k:Key),(l.length<=200000)->T [.sl 2 (l.map Key.D),Key.D k] (.sl 2 ((sD l k).map Key.D))
def C749 (Y:Ctx):Prop:=JF (aE Y 749)
def C582 (Y:Ctx):Prop:=∀(y:cD) (ns:List av),(qp y/\kX y.e)->ns.length<=900->Ny Y 582 y (fun f=>[cD.D y f]) ns (sG y 49 oE ns) (qO y)
def C362 (Y:Ctx):Prop:=∀(y:cD),(qp y/\kX y.e)->WldC Y 362 y (zA y)
def IN (T:List D->D->Prop):Prop:=∀(l:List gV),(wG l)->T [.sl 11 (l.map gV.D)] (.tup [.sl 2 ((gK l).map iH.D),.int .i64 0])
def C360 (Y:Ctx):Prop:=IN (aE Y 360)
def Iu (T:List D->D->Prop):Prop:=∀(l:List gV) (shop:List bN) (e:Env) (ks:List Kp),(qp (yx l shop e ks)/\kX e)->T [.sl 11 (l.map gV.D),.sl 2 (shop.map bN.D),Env.D e,.sl 6 (ks.map Kp.D)] (.tup [b6.D (gY l shop e ks).1,.int .i64 (gY l shop e ks).2])
def C147 (Y:Ctx):Prop:=Iu (aE Y 147)
def Jb (T:List D->D->Prop):Prop:=∀(w:b6) (c:List Int),(w.sm)->T [b6.D w,.sl 1 (c.map (D.int .i64))] (.sl 1 ((gX w c).map D.bool))
def C506 (Y:Ctx):Prop:=Jb (aE Y 506)
def IG (T:List D->D->Prop):Prop:=∀(w:b6) (c:List Int),(w.sm)->(c.length<=1000)->T [b6.D w,.sl 1 (c.map (D.int .i64))] (.sl 1 ((Gj w c).map (D.int .i64)))
def C269 (Y:Ctx):Prop:=IG (aE Y 269)
def P7 (T:List D->D->Prop):Prop:=∀(m:gV) (shop:List bN) (e:Env) (os:List Int),(qp (Nl m shop e)/\kX e)->T [.sl 11 ([m].map gV.D),.sl 2 (shop.map bN.D),Env.D e,.sl 1 (os.map (D.int .i64))] (.tup [b6.D (cZ m shop e os).1,.sl 1 ((cZ m shop e os).2.1.map (D.int .i64)),.bool (cZ m shop e os).2.2])
def C91 (Y:Ctx):Prop:=P7 (aE Y 91)
def Jc (T:List D->D->Prop):Prop:=∀(w:b6) (c:List Int) (nm:av),((1<=w.us.length/\w.us.length<=1000)/\w.us.length<=c.length)->T [b6.D w,.sl 1 (c.map (D.int .i64)),.str nm] (.sl 1 ((jb w.us c nm w.us.length).map D.str))
def C507 (Y:Ctx):Prop:=Jc (aE Y 507)
def IH (T:List D->D->Prop):Prop:=∀(shop:List bN) (e:Env) (w:b6) (c:List Int),(OfP shop w c)->T [.sl 2 (shop.map bN.D),Env.D e,b6.D w,.sl 1 (c.map (D.int .i64))] (.tup [jT.D (Hp shop e w c).1,.int .i64 (Hp shop e w c).2])
def C270 (Y:Ctx):Prop:=IH (aE Y 270)
def P8 (T:List D->D->Prop):Prop:=∀(shop:List bN) (e:Env) (w:b6) (c:List Int),(OfP shop w c)->T [.sl 2 (shop.map bN.D),Env.D e,b6.D w,.sl 1 (c.map (D.int .i64))] (.tup [jT.D (Hp shop e w c).1,.bool (decide ((Hp shop e w c).2=0))])
def C92 (Y:Ctx):Prop:=P8 (aE Y 92)
def P0 (T:List D->D->Prop):Prop:=∀(ys:List Int) (ss:List Int) (os:List Int) (n:Int) (at1:Int) (wh:Int) (by1:Int) (ts:List Int),T [.sl 1 (ys.map (D.int .i64)),.sl 1 (ss.map (D.int .i64)),.sl 1 (os.map (D.int .i64)),.int .i64 n,.int .i64 at1,.int .i64 wh,.int .i64 by1,.sl 1 (ts.map (D.int .i64))] (.bool true)
def aM {p:Prop}(h:p:=by((repeat intro _);exact okp V2 (.inl (by assumption)) fun T hT=>(by apply hT<;>assumption))):p:=h
def aF {t:List (Nat×mA)}{key u q:Nat}:((under t key u).at q).bR:=D8 t key u q
def dA {α:Type}{a:Option α}{b c:α}(h:a=some b)(e:b=c:=by kernel_rfl):a=some c:=h.trans (congrArg some e)
end Go.Abs
section
namespace Go.Abs
def zvI {a:D}{k:IntKind}{n:Int}(h:a=.int k n):a=.int k n:=h
def zvS {a:D}{s:List UInt8}(h:a=.str s):a=.str s:=h
def zvB {a:D}{s:Bool}(h:a=.bool s):a=.bool s:=h
def zvL {a:D}{k:Nat}{s:List D}(h:a=.sl k s):a=.sl k s:=h
def zvO {a:D}{l k i n:Nat}(h:a=.own l k i n):a=.own l k i n:=h
def zvP {a:D}{l k i n:Nat}(h:a=.ptr l k i n):a=.ptr l k i n:=h
def zvN {a:D}(h:a=.aJ):a=.aJ:=h
def zC {α:Type}(q:α->D){a:D}{x:α}(h:a=q x):a=q x:=h
def zvW {e:D}{k n o:Nat}{ag:Bool}(h:kK e k n o ag=e):kK e k n o ag=e:=h
def fold {a v:D}(h:a=v:=by first|exact zvW rfl|exact zvI rfl|exact zvS rfl|exact zvB rfl|exact zvL rfl|exact zvO rfl|exact zvN rfl|exact zvP rfl|exact zC bZ.D rfl|exact zC Cut.D rfl|exact zC Span.D rfl|exact zC cy.D rfl|exact zC Want.D rfl|exact zC Key.D rfl|exact zC iH.D rfl|exact zC kv.D rfl|exact zC de.D rfl|exact zC br.D rfl|exact zC my.D rfl|exact zC ch.D rfl|exact zC Rec.D rfl|exact zC kr.D rfl|exact zC bN.D rfl|exact zC uA.D rfl|exact zC gV.D rfl|exact zC ei.D rfl|exact zC c9.D rfl|exact zC b6.D rfl|exact zC dU.D rfl|exact zC jk.D rfl|exact zC dm.D rfl|exact zC jT.D rfl|exact zC Env.D rfl|exact zC Kp.D rfl|exact zC jv.D rfl):a=v:=h
def pN {F q R:Prop}(h:Hid (F->q) wz)(a:F)(k:Hid q wz->R):R:=k ⟨h.1 a⟩
structure Hol {α:Type}(a:α):Prop
section
variable {Y:Ctx} {draw:Bool} {r:List GI} {env rs:List aX} {nx:Nat} {m:List (Nat×bm)} {K:List aX->St->Prop} {g:Option (Nat×Bool)} {f:Bool}
def aj5 {x:Src}{fx:Bool}{n l k o:Nat}{ag:Bool}{v:D}{d:D}(h:aA Y draw r env (⟨f,v⟩::rs) nx m K)(hg:GF rs g f:=by exact cE)(hx:bV env rs x=⟨fx,.ptr l k 0 o⟩:=by exact rfl)(kx:f=true->fx=true:=by exact bA)(hl:f=true->look m l=some (.buf k [d]):=by exact fun _=>rfl)(hv:kK d k n o ag=v:=by exact fold)(ho:o+n<=k:=by omega):aA Y draw (⟨.ld n ag x,g⟩::r) env rs nx m K:=pZ v h hg hx kx hl (fun _=>hv) ho
def aj8 {x:Src}{fx:Bool}{n k i o:Nat}{ag:Bool}{v:D}{α:Type} [Inhabited α]{q:α->D}{xs:List α}(h:aA Y draw r env (⟨f,v⟩::rs) nx m K)(hg:GF rs g f:=by exact cE)(hx:bV env rs x=⟨fx,.ref k (xs.map q) i o⟩:=by exact rfl)(kx:f=true->fx=true:=by exact bA)(hi:f=true->i<xs.length:=by exact rL)(hv:kK (q xs[i]!) k n o ag=v:=by exact fold)(ho:o+n<=k:=by omega):aA Y draw (⟨.ld n ag x,g⟩::r) env rs nx m K:=c8 v h hg hx kx hi (fun _=>hv) ho
def aj7 {x:Src}{fx:Bool}{n k i o:Nat}{ag:Bool}{v:D}{es:List D}(h:aA Y draw r env (⟨f,v⟩::rs) nx m K)(hg:GF rs g f:=by exact cE)(hx:bV env rs x=⟨fx,.ref k es i o⟩:=by exact rfl)(kx:f=true->fx=true:=by exact bA)(hi:f=true->i<es.length:=by intro _;simp only[List.length_cons,List.length_nil];omega)(hv:kK (es.getD i .any) k n o ag=v:=by exact fold)(ho:o+n<=k:=by omega):aA Y draw (⟨.ld n ag x,g⟩::r) env rs nx m K:=r_ldQ v h hg hx kx hi (fun _=>hv) ho
def aj6 {x:Src}{fx:Bool}{n l k i o:Nat}{ag:Bool}{v:D}{α:Type} [Inhabited α]{q:α->D}{xs:List α}(h:aA Y draw r env (⟨f,v⟩::rs) nx m K)(hg:GF rs g f:=by exact cE)(hx:bV env rs x=⟨fx,.ptr l k i o⟩:=by exact rfl)(kx:f=true->fx=true:=by exact bA)(hl:f=true->look m l=some (.buf k (xs.map q)):=by exact fun _=>rfl)(hi:f=true->i<xs.length:=by exact rL)(hv:kK (q xs[i]!) k n o ag=v:=by exact fold)(ho:o+n<=k:=by omega):aA Y draw (⟨.ld n ag x,g⟩::r) env rs nx m K:=oS v h hg hx kx hl hi (fun _=>hv) ho
def aj0 {x:Src}{fx:Bool}{i:Nat}{ds:List D}{v:D}(h:aA Y draw r env (⟨f,v⟩::rs) nx m K)(hg:GF rs g f:=by exact cE)(hx:bV env rs x=⟨fx,.tup ds⟩:=by exact rfl)(kx:f=true->fx=true:=by exact bA)(hv:ds.getD i .any=v:=by simp only[List.getD_cons_zero,List.getD_cons_succ];exact rfl)(hb:f=true->i<ds.length:=by intro _;simp only[List.length_cons,List.length_nil];omega):aA Y draw (⟨.ext x i,g⟩::r) env rs nx m K:=kP v h hg hx kx (fun _=>hv) hb
def r_stW {n l k o:Nat}{x y:Src}{d v:D}{m2:List (Nat×bm)}(h:aA Y draw r env (⟨true,.any⟩::rs) nx m2 K)(hx:bV env rs x=⟨true,.ptr l k 0 o⟩:=by exact rfl)(hy:bV env rs y=⟨true,v⟩:=by exact rfl)(hl:look m l=some (.buf k [d]):=by exact rfl)(hc:v.cells.length=n:=by exact rfl)(he:qb d k n o v=v:=by exact rfl)(ho:o+n<=k:=by omega)(hm:cL m l (.buf k [v])=m2:=by simp only[cL,cQ,Nat.reduceEqDiff,if_true,if_false,Nat.reduceAdd,reduceCtorEq];exact rfl):aA Y draw (⟨.st n x y,none⟩::r) env rs nx m K:=bS v h hx hy hl hc he ho hm
def ajZ {x y:Src}{fx fy:Bool}{ag:Bool}{ks:List CK}{a b:D}{v:Bool}(h:aA Y draw r env (⟨f,.bool (v)⟩::rs) nx m K)(hg:GF rs g f:=by exact cE)(hx:bV env rs x=⟨fx,a⟩:=by exact rfl)(hy:bV env rs y=⟨fy,b⟩:=by exact rfl)(kx:f=true->fx=true:=by exact bA)(ky:f=true->fy=true:=by exact bA)(hb:hR a.cells b.cells=v:=by first|exact bZ.eq _ _|exact Key.eqD _ _|exact eqBb _ _|exact iH.eq _ _|exact Env.eq _ _|exact Kp.eq _ _|exact my.eq _ _|exact dU.eq _ _)(h1:f=true->a.isAgg=ag/\b.isAgg=ag/\fu ks a.cells/\fu ks b.cells:=by exact uJ):aA Y draw (⟨.eqA false ag ks x y,g⟩::r) env rs nx m K:=r_eqP h hb hg hx hy kx ky h1
def ajY {x y:Src}{fx fy:Bool}{ag:Bool}{ks:List CK}{a b:D}{v:Bool}(h:aA Y draw r env (⟨f,.bool (!v)⟩::rs) nx m K)(hg:GF rs g f:=by exact cE)(hx:bV env rs x=⟨fx,a⟩:=by exact rfl)(hy:bV env rs y=⟨fy,b⟩:=by exact rfl)(kx:f=true->fx=true:=by exact bA)(ky:f=true->fy=true:=by exact bA)(hb:hR a.cells b.cells=v:=by first|exact bZ.eq _ _|exact Key.eqD _ _|exact eqBb _ _|exact iH.eq _ _|exact Env.eq _ _|exact Kp.eq _ _|exact my.eq _ _|exact dU.eq _ _)(h1:f=true->a.isAgg=ag/\b.isAgg=ag/\fu ks a.cells/\fu ks b.cells:=by exact uJ):aA Y draw (⟨.eqA true ag ks x y,g⟩::r) env rs nx m K:=r_eqN h hb hg hx hy kx ky h1
def adq {x y:Src}{fx fy:Bool}{a b:List UInt8}(h:aA Y draw r env (⟨f,.str (a++b)⟩::rs) nx m K)(hg:GF rs g f:=by exact cE)(hx:bV env rs x=⟨fx,.str a⟩:=by exact rfl)(hy:bV env rs y=⟨fy,.str b⟩:=by exact rfl)(kx:f=true->fx=true:=by exact bA)(ky:f=true->fy=true:=by exact bA)(hb:f=true->a.length+b.length<=9223372036854775807:=by intro _;simp only[List.length_append,List.length_cons,List.length_nil];omega):aA Y draw (⟨.bin .add x y,g⟩::r) env rs nx m K:=OT h hg hx hy kx ky hb
def adr {n:Nat}{args:List Src}{sh:List (List Sh)}{v:D}(h:aA Y draw r env (⟨f,v⟩::rs) nx m K)(hg:GF rs g f:=by exact cE)(hc:f=true->Y.pre n (jf m sh (iM (bV env rs) args))/\Y.val n (jf m sh (iM (bV env rs) args))=v:=by intro hf;apply_assumption (transparency:=.default) (exfalso:=false) (symm:=false) only[*];(all_goals first|assumption|omega|(simp at hf;omega)|grind))(ho:f=true->BJ (bV env rs) args:=by exact uJ)(hp:f=true->iU m sh (iM (bV env rs) args):=by exact uJ)(hk:f=true->qu (iM (bV env rs) args) v=true:=by exact fun _=>rfl):aA Y draw (⟨.call n args sh,g⟩::r) env rs nx m K:=bQ h hg hc (fun _=>rfl) ho hp hk
end
section
variable {Y:Ctx} {draw:Bool} {r:List GI} {env rs:List aX} {nx:Nat} {m:List (Nat×bm)} {K:List aX->St->Prop} {g:GI}
def tgW {a:AC}{Q:Ex->List aX->St->Prop}{st:St}(h:dp Y a Q env st):dp Y a Q env st:=h
def tgR (h:aA Y draw (g::r) env rs nx m K):aA Y draw (g::r) env rs nx m K:=h
def tgS {a:aj}{d:D}{ds:List D}(h:dp Y a.body (ND a d) (fq a ds) ⟨0,[]⟩):dp Y a.body (ND a d) (fq a ds) ⟨0,[]⟩:=h
def tgE (h:aA Y draw [] env rs nx m K):aA Y draw [] env rs nx m K:=h
def tgl1 {id:Nat}{a b:AC}{Q:Ex->List aX->St->Prop}{st:St}(h:dp Y (.seq (.block id (.loop a)) b) Q env st):dp Y (.seq (.block id (.loop a)) b) Q env st:=h
def tgl2 {id:Nat}{a:AC}{Q:Ex->List aX->St->Prop}{st:St}(h:dp Y (.block id (.loop a)) Q env st):dp Y (.block id (.loop a)) Q env st:=h
end
inductive Lc:List D->Nat->List aX->Prop
 |A {d:D} {ds:List D} {n:Nat} {e:List aX} (h:Lc ds n e):Lc (d::ds) n (⟨true,d⟩::e)
 |U {n n':Nat} {e:List aX} (hn:n=n'+1) (h:Lc [] n' e):Lc [] n (.un::e)
 |N {n:Nat} (hn:n=0):Lc [] n []
def Lc.eq {ds:List D}{n:Nat}{e:List aX}(h:Lc ds n e):(ds.map fun d=>⟨true,d⟩)++List.replicate n .un=e:=by
 induction h with
 |A _ ih=>simp[ih]
 |U hn _ ih=>subst hn;simpa[List.replicate_succ]using ih
 |N hn=>subst hn;rfl
def zst0 {Y:Ctx}{a:aj}{d:D}{ds:List D}{e:List aX}(h:dp (Y.at 0) a.body (ND a d) e ⟨0,[]⟩)(he:Lc ds (a.ns-a.np) e:=by repeat(first|apply Lc.A|apply Lc.U (by exact rfl)|exact Lc.N (by exact rfl))):dp (Y.at 0) a.body (ND a d) (fq a ds) ⟨0,[]⟩:=by
 unfold fq;rw[he.eq];exact h
def zsx {Y:Ctx}{a:aj}{d:D}{ds:List D}{q:Prop}(k:q)(h:Hid q wz->dp (Y.at 0) a.body (ND a d) (fq a ds) ⟨0,[]⟩:=by intro h;refine zst0 ?_;(first|refine aO ?_|refine fC ?_|refine fQ ?_|refine po ?_|refine Gu ?_|refine wp_ret ?_|refine ml ?_ hm|refine lH ?_ hm|skip);exact h.1):dp (Y.at 0) a.body (ND a d) (fq a ds) ⟨0,[]⟩:=h ⟨k⟩
def cH {p q:Prop}(k:q)(h:Hid q wz->p:=by
 intro h;first
 |((with_reducible refine tgR ?_);first|(refine bF ?_;exact h.1)|(refine mc ?_;exact h.1)|(refine aj5 ?_;exact h.1)|(refine aj8 ?_;exact h.1)|(refine aj7 ?_;exact h.1)|(refine aj6 ?_;exact h.1)|(refine zi ?_;exact h.1)|(refine akb ?_;exact h.1)|(refine OU ?_;exact h.1)|(refine Yz ?_;exact h.1)|(refine adr ?_;exact h.1)|(refine xX ?_;exact h.1)|(refine RJ ?_;exact h.1)|(refine Am ?_;exact h.1)|(refine uU ?_;exact h.1)|(refine Dn ?_;exact h.1)|exact Dl fun a=>(h.1:_->_) (a rfl rfl)|exact OX fun a=>(h.1:_->_) (a rfl rfl)|exact Dl fun _=>h.1|exact OX fun _=>h.1|(refine aj9 ?_;exact h.1)|exact cz _ h.1|exact aj3 h.1|exact sF _ h.1|exact aj4 h.1|(refine RM ?_;exact h.1)|(refine lO ?_;exact h.1)|(refine adq ?_;exact h.1)|(refine BN ?_;exact h.1)|(refine r_stW ?_;exact h.1)|exact bS _ h.1|(refine kQ ?_;exact h.1)|(refine aj2 ?_;exact h.1)|(refine pg ?_;exact h.1)|(refine akc ?_;exact h.1)|(refine HD ?_;exact h.1)|(refine aka ?_;exact h.1)|(refine HC ?_;exact h.1)|(refine aj1 ?_;exact h.1)|(refine aj0 ?_;exact h.1)|(refine akd ?_;exact h.1)|(refine ake ?_;exact h.1)|exact Dm fun a=>(h.1:_->_) (a rfl rfl)|exact Dm fun _=>h.1|exact An _ h.1|exact YC h.1|(refine cJ ?_;exact h.1)|(refine ajZ ?_;exact h.1)|(refine ajY ?_;exact h.1)|(refine r_rng ?_;exact h.1)|(refine r_s2b ?_;exact h.1)|(refine r_mkB ?_;exact h.1)|exact YH _ h.1|exact YK _ h.1|exact YJ _ h.1|exact Dp _ h.1|exact YI _ _ h.1|exact YL _ _ h.1|exact YM _ h.1|exact YO _ h.1|exact YN _ _ h.1)
 |((with_reducible refine tgW ?_);first|((with_reducible refine tgS ?_);exact zsx h.1)|with_reducible exact aO h.1|with_reducible exact fC h.1|with_reducible exact fQ h.1|with_reducible exact po h.1|with_reducible exact Gu h.1|with_reducible exact wp_ret h.1|with_reducible exact wp_skip h.1|with_reducible exact ov h.1|with_reducible exact wp_exit h.1|((fail_if_success with_reducible refine tgl1 ?_);with_reducible exact ml h.1 hm)|((fail_if_success with_reducible refine tgl2 ?_);with_reducible exact lH h.1 hm))
 |((with_reducible refine tgE ?_);first|(refine rrrh ?_;exact h.1)|(refine rrrg ?_;exact h.1))
 |with_reducible exact BQ.normal h.1|with_reducible exact BQ.ret h.1|with_reducible exact LQ.normal h.1|with_reducible exact LQ.out h.1|with_reducible exact LQ.ret h.1|with_reducible exact BQ.out h.1|with_reducible exact Np.normal h.1|with_reducible exact Np.ret h.1|with_reducible exact Bs.normal h.1|with_reducible exact Bs.ret h.1|with_reducible exact Np.out h.1|with_reducible exact Bs.out h.1|with_reducible exact CQ.normal h.1|with_reducible exact CQ.ret h.1|with_reducible exact CQ.other h.1|((with_reducible refine BQ.other ?_ h.1);exact rfl)|((with_reducible refine LQ.other ?_ h.1);exact rfl)|((with_reducible refine Np.other ?_ h.1);exact rfl)|((with_reducible refine Bs.other ?_ h.1);exact rfl)):p:=h ⟨k⟩
def zg {p q:Prop}(k:q)(h:Hid q wz->p:=by intro h;(repeat(refine cH ?_;try(intro a;apply pN h a;intro h)));exact h.1):p:=h ⟨k⟩
def zc {p q1 q2 c1 c2:Prop}(k1:c1->q1)(k2:c2->q2)(h:Hid (c1->q1) wz->Hid (c2->q2) wz->p:=by intro h1 h2;(repeat(refine cH ?_;try intro _));first|exact dE h1.1 h2.1|exact Bw h1.1 h2.1):p:=h ⟨k1⟩ ⟨k2⟩
def W8 (σ:List (Nat×Nat))(l:Nat):Option Nat:=match σ with
 |[]=>none
 |(a,b)::r=>bif Nat.beq b l then some a else W8 r l
def bo.nlx {lo c l l' k:Nat}{σ:List (Nat×Nat)}{m r:List (Nat×bm)}{es es':List D}(h:bo lo c σ m r)(hi:W8 σ l'=some l:=by exact rfl)(hl:mz lo σ l=some l':=by exact rfl)(hm:look m l=some (.buf k es):=by exact rfl)(he:es'=es:=by exact rfl)(hn:aL es=true:=by first|exact rfl|exact bH (fun _=>rfl) _):bo lo c σ m ((l',.buf k es')::r):=.nl l hl hm he hn h
def bo.eqx {lo c l l' k:Nat}{σ:List (Nat×Nat)}{m r:List (Nat×bm)}{es es':List D}(h:bo lo c σ m r)(hi:W8 σ l'=some l:=by exact rfl)(hl:mz lo σ l=some l':=by exact rfl)(hm:look m l=some (.buf k es):=by exact rfl)(he:oo lo σ es=some es':=by exact rfl):bo lo c σ m ((l',.buf k es')::r):=.eq l hl hm he h
def bo.rwx {lo c l l':Nat}{σ:List (Nat×Nat)}{m r:List (Nat×bm)}{s s':List UInt8}(h:bo lo c σ m r)(hi:W8 σ l'=some l:=by exact rfl)(hl:mz lo σ l=some l':=by exact rfl)(hm:look m l=some (.row s):=by exact rfl)(hs:s'=s:=by exact rfl):bo lo c σ m ((l',.row s')::r):=.rw l hl hm hs h
def bo.blx {lo c l l' l1 l2 n n':Nat}{u u':Bool}{σ:List (Nat×Nat)}{m r:List (Nat×bm)}(h:bo lo c σ m r)(hi:W8 σ l'=some l:=by exact rfl)(hl:mz lo σ l=some l':=by exact rfl)(hm:look m l=some (.bld (some l1) n u):=by exact rfl)(h1:mz lo σ l1=some l2:=by exact rfl)(hn:n'=n:=by exact rfl)(hu:u'=u:=by exact rfl):bo lo c σ m ((l',.bld (some l2) n' u')::r):=.bl l hl hm h1 hn hu h
def zge {lo:Nat}{σ:List (Nat×Nat)}{a b:List aX}(h:fk lo σ a b:=by repeat(first|exact fk.nil|refine fk.un ?_|refine fk.eq (by exact rfl) ?_|refine fk.nl (by exact rfl) (by exact rfl) ?_|refine fk.ni (Or.inr ⟨_,_,_,rfl⟩) ?_)):fk lo σ a b:=h
def zgm {lo c:Nat}{σ:List (Nat×Nat)}{m m':List (Nat×bm)}(h:bo lo c σ m m':=by repeat(first|exact bo.nil|refine bo.vI (by exact rfl) (by exact rfl) (by first|exact rfl|exact bH (fun _=>rfl) _) ?_|refine bo.Kr (by exact rfl) (by exact rfl) (by exact rfl) ?_|refine bo.Nr (by exact rfl) (by exact rfl) (by exact rfl) (by exact rfl) ?_|refine bo.nlx ?_|refine bo.eqx ?_|refine bo.rwx ?_|refine bo.blx ?_|refine bo.mt (by exact rfl) (by exact rfl) (by exact rfl) (by exact rfl) ?_)):bo lo c σ m m':=h
def zl0 {lo c nx nx2:Nat}{env:List aX}{m:List (Nat×bm)}{ι:Type}{F:ι->List aX}{G:ι->List (Nat×bm)}{P:ι->Prop}{μ:ι->Nat}{i j:ι}{σ:List (Nat×Nat)}(_:Hol j)(_:Hol σ)(hP:P j)(hm:μ j<μ i:=by(try dsimp only);omega)(hc:nx2=c:=by exact rfl)(h:fX lo c σ=true:=by exact rfl)(he:fk lo σ env (F j):=by exact zge)(hg:bo lo c σ m (G j):=by exact zgm):∃j,P j/\μ j<μ i/\aV lo env ⟨nx,m⟩ (F j) ⟨nx2,G j⟩:=⟨j,hP,hm,aV.to σ hc h he hg⟩
def zl {p q:Prop}{ι:Type}(j:ι)(σ:List (Nat×Nat))(k:q)(h:Hid q wz->Hol j->Hol σ->p:=by intro h a b;(repeat(refine cH ?_;try intro _));exact zl0 a b h.1):p:=h ⟨k⟩ ⟨⟩ ⟨⟩
def gh {p q:Prop}{ι:Type}(j:ι)(σ:List (Nat×Nat))(k:q)(h:Hid q wz->Hol j->Hol σ->p:=by intro h a b;(repeat(refine cH ?_;try intro _));exact zl0 a b ⟨by(try dsimp only);omega,h.1⟩):p:=h ⟨k⟩ ⟨⟩ ⟨⟩
def iq {p:Prop}{ι:Type}(j:ι)(σ:List (Nat×Nat))(h:Hol j->Hol σ->p:=by intro a b;(repeat(refine cH ?_;try intro _));exact zl0 a b (by(try dsimp only);omega)):p:=h ⟨⟩ ⟨⟩
def zro {a:aj}{d d2:D}{e:Ex}{nx:Nat}{m:List (Nat×bm)}{env:List aX}(h:d2=d)(he:e.home:=by exact trivial)(h1:om m env a.res:=by repeat' first|exact trivial|exact rfl|exact Nat.le_refl _|refine And.intro ?_ ?_)(h2:AP a env m:=by repeat' first|exact trivial|exact rfl|refine And.intro ?_ ?_)(h3:Nk a env m=d2:=by exact rfl):ND a d e env ⟨nx,m⟩:=PC he h1 h2 (h3.trans h)
def zrb {a:aj}{d d2:Bool}{e:Ex}{nx:Nat}{m:List (Nat×bm)}{env:List aX}(h:d2=d)(he:e.home:=by exact trivial)(h1:om m env a.res:=by repeat' first|exact trivial|exact rfl|exact Nat.le_refl _|refine And.intro ?_ ?_)(h2:AP a env m:=by repeat' first|exact trivial|exact rfl|refine And.intro ?_ ?_)(h3:Nk a env m=.bool d2:=by exact rfl):ND a (.bool d) e env ⟨nx,m⟩:=zro (congrArg _ h) he h1 h2 h3
def zrs {a:aj}{d d2:List UInt8}{e:Ex}{nx:Nat}{m:List (Nat×bm)}{env:List aX}(h:d2=d)(he:e.home:=by exact trivial)(h1:om m env a.res:=by repeat' first|exact trivial|exact rfl|exact Nat.le_refl _|refine And.intro ?_ ?_)(h2:AP a env m:=by repeat' first|exact trivial|exact rfl|refine And.intro ?_ ?_)(h3:Nk a env m=.str d2:=by exact rfl):ND a (.str d) e env ⟨nx,m⟩:=zro (congrArg _ h) he h1 h2 h3
def zri {a:aj}{d d2:Int}{e:Ex}{nx:Nat}{m:List (Nat×bm)}{env:List aX}(h:d2=d)(he:e.home:=by exact trivial)(h1:om m env a.res:=by repeat' first|exact trivial|exact rfl|exact Nat.le_refl _|refine And.intro ?_ ?_)(h2:AP a env m:=by repeat' first|exact trivial|exact rfl|refine And.intro ?_ ?_)(h3:Nk a env m=.int .i64 d2:=by exact rfl):ND a (.int .i64 d) e env ⟨nx,m⟩:=zro (congrArg _ h) he h1 h2 h3
def zr {p q:Prop}(k:q)(h:Hid q wz->p:=by intro h;(repeat(refine cH ?_;try intro _));first|exact zrb h.1|exact zrs h.1|exact zri h.1|exact zro h.1):p:=h ⟨k⟩
def mr {p:Prop}(h:p:=by(repeat(refine cH ?_;try intro _));first|exact zrb rfl|exact zrs rfl|exact zri rfl|exact zro rfl):p:=h
def uns:Nat->List aX->List aX
 |0,r=>r
 |n+1,r=>.un::uns n r
def SE:=List aX->List aX
def SE.u (n:Nat):SE:=uns n
def SE.e (d:D):SE:=fun r=>⟨true,d⟩::r
def SE.i (n:Int):SE:=fun r=>⟨true,.int .i64 n⟩::r
def SE.p (l k:Nat):SE:=fun r=>⟨true,.ptr l k 0 0⟩::r
def SE.o (l k n:Nat):SE:=fun r=>⟨true,.own l k 0 n⟩::r
def SE.m {α:Type}(k:Nat)(xs:List α)(q:α->D):SE:=fun r=>⟨true,.sl k (xs.map q)⟩::r
def spE:List SE->List aX
 |[]=>[]
 |f::r=>f (spE r)
section
variable {Y:Ctx} {Q:Ex->List aX->St->Prop} {a r:AC} {id nx:Nat} {env:List aX} {m:List (Nat×bm)}
def zf (htr:Y.bR)(F:Nat->List SE)(G:Nat->List (Nat×bm))(c:Nat)(P:Nat->Prop)(μ:Nat->Nat)(hP:P 0)(σ:List (Nat×Nat)){F2:Nat->List aX}(hr:∀i,P i->dp Y a (LQ Y id r (fun env2 st2=>∃j,P j/\μ j<μ i/\aV Y.lo env2 st2 (F2 j) ⟨c,G j⟩) Q) (F2 i) ⟨c,G i⟩)(hF:∀i,spE (F i)=F2 i:=by intro i;simp only[spE,SE.u,SE.e,SE.i,SE.p,SE.o,SE.m,uns];exact rfl)(h:fX Y.lo c σ=true:=by exact rfl)(he:fk Y.lo σ env (F2 0):=by exact zge)(hg:bo Y.lo c σ m (G 0):=by exact zgm):dp Y (.seq (.block id (.loop a)) r) Q env ⟨nx,m⟩:=fP htr F2 G c P μ 0 hP (aV.to σ rfl h he hg) hr
def zfx (htr:Y.bR){ι:Type}(i0:ι)(F:ι->List SE)(G:ι->List (Nat×bm))(c:Nat)(P:ι->Prop)(μ:ι->Nat)(hP:P i0)(σ:List (Nat×Nat)){F2:ι->List aX}(hr:∀i,P i->dp Y a (LQ Y id r (fun env2 st2=>∃j,P j/\μ j<μ i/\aV Y.lo env2 st2 (F2 j) ⟨c,G j⟩) Q) (F2 i) ⟨c,G i⟩)(hF:∀i,spE (F i)=F2 i:=by intro i;simp only[spE,SE.u,SE.e,SE.i,SE.p,SE.o,SE.m,uns];exact rfl)(h:fX Y.lo c σ=true:=by exact rfl)(he:fk Y.lo σ env (F2 i0):=by exact zge)(hg:bo Y.lo c σ m (G i0):=by exact zgm):dp Y (.seq (.block id (.loop a)) r) Q env ⟨nx,m⟩:=fP htr F2 G c P μ i0 hP (aV.to σ rfl h he hg) hr
def Z0 (htr:Y.bR)(F:Nat->List SE)(G:Nat->List (Nat×bm))(c:Nat)(P:Nat->Prop)(μ:Nat->Nat)(hP:P 0)(σ:List (Nat×Nat)){F2:Nat->List aX}(hr:∀i,P i->dp Y a (Bs id (fun env2 st2=>∃j,P j/\μ j<μ i/\aV Y.lo env2 st2 (F2 j) ⟨c,G j⟩) Q) (F2 i) ⟨c,G i⟩)(hF:∀i,spE (F i)=F2 i:=by intro i;simp only[spE,SE.u,SE.e,SE.i,SE.p,SE.o,SE.m,uns];exact rfl)(h:fX Y.lo c σ=true:=by exact rfl)(he:fk Y.lo σ env (F2 0):=by exact zge)(hg:bo Y.lo c σ m (G 0):=by exact zgm):dp Y (.block id (.loop a)) Q env ⟨nx,m⟩:=Ip htr F2 G c P μ 0 hP (aV.to σ rfl h he hg) hr
def zfxL (htr:Y.bR){ι:Type}(i0:ι)(F:ι->List SE)(G:ι->List (Nat×bm))(c:Nat)(P:ι->Prop)(μ:ι->Nat)(hP:P i0)(σ:List (Nat×Nat)){F2:ι->List aX}(hr:∀i,P i->dp Y a (Bs id (fun env2 st2=>∃j,P j/\μ j<μ i/\aV Y.lo env2 st2 (F2 j) ⟨c,G j⟩) Q) (F2 i) ⟨c,G i⟩)(hF:∀i,spE (F i)=F2 i:=by intro i;simp only[spE,SE.u,SE.e,SE.i,SE.p,SE.o,SE.m,uns];exact rfl)(h:fX Y.lo c σ=true:=by exact rfl)(he:fk Y.lo σ env (F2 i0):=by exact zge)(hg:bo Y.lo c σ m (G i0):=by exact zgm):dp Y (.block id (.loop a)) Q env ⟨nx,m⟩:=Ip htr F2 G c P μ i0 hP (aV.to σ rfl h he hg) hr
end
end Go.Abs
namespace Go.Abs
abbrev cu (Y:Ctx)(a:aj)(ds:List D)(d:D):Prop:=wkk Y a d ds
def zk1 {p q:Prop}(k:q)(h:Hid q wz->p:=by intro h;(iterate 1(refine cH ?_;try(intro a;apply pN h a;intro h)));exact h.1):p:=h ⟨k⟩
def cx {p q:Prop}(k:q)(h:Hid q wz->p:=by intro h;(iterate 2(refine cH ?_;try(intro a;apply pN h a;intro h)));exact h.1):p:=h ⟨k⟩
def dx {p q:Prop}(k:q)(h:Hid q wz->p:=by intro h;(iterate 3(refine cH ?_;try(intro a;apply pN h a;intro h)));exact h.1):p:=h ⟨k⟩
def ez {p q:Prop}(k:q)(h:Hid q wz->p:=by intro h;(iterate 4(refine cH ?_;try(intro a;apply pN h a;intro h)));exact h.1):p:=h ⟨k⟩
def ko {p q:Prop}(k:q)(h:Hid q wz->p:=by intro h;(iterate 5(refine cH ?_;try(intro a;apply pN h a;intro h)));exact h.1):p:=h ⟨k⟩
def jS {p q:Prop}(k:q)(h:Hid q wz->p:=by intro h;(iterate 6(refine cH ?_;try(intro a;apply pN h a;intro h)));exact h.1):p:=h ⟨k⟩
def qo {p q:Prop}(k:q)(h:Hid q wz->p:=by intro h;(iterate 7(refine cH ?_;try(intro a;apply pN h a;intro h)));exact h.1):p:=h ⟨k⟩
def pA {p q:Prop}(k:q)(h:Hid q wz->p:=by intro h;(iterate 8(refine cH ?_;try(intro a;apply pN h a;intro h)));exact h.1):p:=h ⟨k⟩
def wA {p q:Prop}(k:q)(h:Hid q wz->p:=by intro h;(iterate 9(refine cH ?_;try(intro a;apply pN h a;intro h)));exact h.1):p:=h ⟨k⟩
def uK {p q:Prop}(k:q)(h:Hid q wz->p:=by intro h;(iterate 10(refine cH ?_;try(intro a;apply pN h a;intro h)));exact h.1):p:=h ⟨k⟩
def Bo {p q:Prop}(k:q)(h:Hid q wz->p:=by intro h;(iterate 11(refine cH ?_;try(intro a;apply pN h a;intro h)));exact h.1):p:=h ⟨k⟩
def Fa {p q:Prop}(k:q)(h:Hid q wz->p:=by intro h;(iterate 12(refine cH ?_;try(intro a;apply pN h a;intro h)));exact h.1):p:=h ⟨k⟩
def Bp {p q:Prop}(k:q)(h:Hid q wz->p:=by intro h;(iterate 13(refine cH ?_;try(intro a;apply pN h a;intro h)));exact h.1):p:=h ⟨k⟩
def fG {p q:Prop}(k:q)(h:Hid q wz->p:=by intro h;(iterate 14(refine cH ?_;try(intro a;apply pN h a;intro h)));exact h.1):p:=h ⟨k⟩
def Bq {p q:Prop}(k:q)(h:Hid q wz->p:=by intro h;(iterate 15(refine cH ?_;try(intro a;apply pN h a;intro h)));exact h.1):p:=h ⟨k⟩
def zk17 {p q:Prop}(k:q)(h:Hid q wz->p:=by intro h;(iterate 17(refine cH ?_;try(intro a;apply pN h a;intro h)));exact h.1):p:=h ⟨k⟩
def zk18 {p q:Prop}(k:q)(h:Hid q wz->p:=by intro h;(iterate 18(refine cH ?_;try(intro a;apply pN h a;intro h)));exact h.1):p:=h ⟨k⟩
def zk20 {p q:Prop}(k:q)(h:Hid q wz->p:=by intro h;(iterate 20(refine cH ?_;try(intro a;apply pN h a;intro h)));exact h.1):p:=h ⟨k⟩
def zk21 {p q:Prop}(k:q)(h:Hid q wz->p:=by intro h;(iterate 21(refine cH ?_;try(intro a;apply pN h a;intro h)));exact h.1):p:=h ⟨k⟩
end Go.Abs
end
end
