/- A part of the proofs. -/
import Derived.IntWalk
import Derived.KernelRfl
import Derived.Lib.TrimUEq
import Derived.Test.YtaeimnechonnmaaGreatDoorP04
set_option linter.all false
set_option maxRecDepth 4000
namespace Go.Abs
section
section
variable {Y:Ctx} {draw:Bool} {r:List GI} {env rs:List bH} {nx:Nat} {m:List (Nat×bz)} {K:List bH->St->Prop} {g:Option (Nat×Bool)} {f:Bool}
def at8 (s:List UInt8)(i:Nat):Int:=((s.getD i 0).toNat:Int)
def Ft (s:List UInt8)(i:Nat):0<=at8 s i/\at8 s i<256:=by
 have:=(s.getD i 0).toNat_lt;unfold at8;omega
def wrap_i64 {a:Int}(h1:-9223372036854775808<=a)(h2:a<=9223372036854775807):IntKind.i64.wrap a=a:=IntWalk.i64_in _ ae
def lO (a b:List UInt8):(a==b)=decide (a=b):=by
 grind
def getD_map {α:Type} [Inhabited α]{q:α->D}{xs:List α}{i:Nat}(h:i<xs.length):(xs.map q).getD i .any=q xs[i]! :=by
 simp[List.getD,h]
def GF (rs:List bH):Option (Nat×Bool)->Bool->Prop
 |none,f=>f=true
 |some (j,w),f=>∃ok b,cE [] rs (.l j)=⟨ok,.bool b⟩/\(ok&&(b==w))=f
def GF.flag (h:GF rs g f):flag rs.reverse g=f/\xb rs.reverse g:=by
 cases g with
 |none=>exact⟨h.symm,trivial⟩
 |some jw=>
  obtain⟨j,w⟩:=jw;obtain⟨ok,b,h1,h2⟩:=h;have h3:rs.reverse.getD j .un=⟨ok,.bool b⟩:=by rw[<-h1,<-kD];rfl
  simp only[Abs.flag,xb,h3,h2,D.isBool];exact⟨trivial,fun _=>trivial⟩
def GR {i:aB}(hM:i.ch=false)(hF:i.ll draw g=false)(hC:g.isSome=true->i.calm=true)(hg:GF rs g f)(d:D)(ho:f=true->i.dz Y (cE env rs) m)
  (hv:f=true->i.val Y (cE env rs) m (nx+rs.length)=d) (m':List (Nat×bz)) (hm:i.cn Y (cE env rs) m (nx+rs.length)=m')
  (h:(f=true->i.wR draw (cE env rs))->aC Y draw r env (⟨f,d⟩::rs) nx m' K):aC Y draw (⟨i,g⟩::r) env rs nx m K:=by
 obtain⟨hf,hb⟩:=hg.flag;unfold aC;rw[ic hM hF,kD,hf];refine⟨?_,ho,fun ha=>⟨d,by simpa using hv, ?_⟩⟩
 .cases g with
  |none=>trivial
  |some jw=>exact⟨hC rfl,hb⟩
 grind [aC]
def fH {i:aB}(hC:i.calm=true)(hg:GF rs g f)(d:D)(ho:f=true->i.dz Y (cE env rs) m)
  (hv:f=true->i.val Y (cE env rs) m (nx+rs.length)=d) (m':List (Nat×bz)) (hm:i.cn Y (cE env rs) m (nx+rs.length)=m')
  (h:(f=true->i.wR draw (cE env rs))->aC Y draw r env (⟨f,d⟩::rs) nx m' K):aC Y draw (⟨i,g⟩::r) env rs nx m K:=
 GR (by cases i<;>first|rfl|cases hC) (by simp[aB.ll,hC]) (fun _=>hC) hg d ho hv m' hm h
def bT {i:aB}(hC:i.pure=true)(hg:GF rs g f)(d:D)(ho:f=true->i.dz Y (cE env rs) m)
  (hv:f=true->i.val Y (cE env rs) m (nx+rs.length)=d) 
  (h:(f=true->i.wR draw (cE env rs))->aC Y draw r env (⟨f,d⟩::rs) nx m K):aC Y draw (⟨i,g⟩::r) env rs nx m K:=
 fH (Eu hC) hg d ho hv m (y7 hC) h
def o8 {i:aB}(hM:i.ch=false)(d:D)(ho:i.dz Y (cE env rs) m)
  (hv:i.val Y (cE env rs) m (nx+rs.length)=d) (m':List (Nat×bz)) (hm:i.cn Y (cE env rs) m (nx+rs.length)=m')
  (h:i.wR draw (cE env rs)->aC Y draw r env (⟨true,d⟩::rs) nx m' K):aC Y draw (⟨i,none⟩::r) env rs nx m K:=
 GR hM (by simp[aB.ll]) (fun h=>by cases h) rfl d (fun _=>ho) (fun _=>hv) m' hm (fun ha=>h (ha rfl))
def GV {i:aB}{j:Nat}{w:Bool}(hM:i.ch=false)(hC:i.calm=false)(hg:GF rs (some (j,w)) f)(h1:f=true->∃d,i.dz Y (cE env rs) m/\i.val Y (cE env rs) m (nx+rs.length)=d/\∃m',i.cn Y (cE env rs) m (nx+rs.length)=m'/\aC Y false r env (⟨true,d⟩::rs) nx m' K)
  (h2:f=false->aC Y false r env (⟨false,.any⟩::rs) nx m K):aC Y false (⟨i,some (j,w)⟩::r) env rs nx m K:=by
 obtain⟨hf,hb⟩:=hg.flag
 grind [aC,qV,aB.ll,kD]
def Po {x:Src}{fx:Bool}{d:D}(h:aC Y draw r env (⟨f,d⟩::rs) nx m K)(hg:GF rs g f:=by exact du)(hx:cE env rs x=⟨fx,d⟩:=by exact rfl)(kx:f=true->fx=true:=by exact cw):aC Y draw (⟨.mv x,g⟩::r) env rs nx m K:=
 bT rfl hg _ (fun hf=>by simp[aB.dz,hx,kx hf]) (fun hf=>by simp[aB.val,hx]) (fun ha=>h)
def Pp {x:Src}{fx:Bool}{b:Bool}(h:aC Y draw r env (⟨f,.bool (!b)⟩::rs) nx m K)(hg:GF rs g f:=by exact du)(hx:cE env rs x=⟨fx,.bool b⟩:=by exact rfl)(kx:f=true->fx=true:=by exact cw):aC Y draw (⟨.un .not x,g⟩::r) env rs nx m K:=
 bT rfl hg _ (fun hf=>by simp[aB.dz,hx,kx hf]) (fun hf=>by simp[aB.val,hx]) (fun ha=>h)
def r_or {c b:Src}{fc fb t y:Bool}(h:aC Y draw r env (⟨f,.bool (t ||y)⟩::rs) nx m K)(hg:GF rs g f:=by exact du)(hc:cE env rs c=⟨fc,.bool t⟩:=by exact rfl)(hb:cE env rs b=⟨fb,.bool y⟩:=by exact rfl)(kc:f=true->fc=true:=by exact cw)(kb:f=true->t=false->fb=true:=by intro h1 h2;first|(rw[h2];exact rfl)|(rw[h2,h1];rfl)|(rw[h1,h2];rfl)|simp_all):aC Y draw (⟨.pick c (.c (.bool true)) b,g⟩::r) env rs nx m K:=
 bT rfl hg _ (fun hf=>by simp only[aB.dz,hc,hb];exact⟨kc hf,fun _=>rfl,fun e=>kb hf e⟩) (fun hf=>by simp only[aB.val,hc,hb];cases t<;>rfl) (fun _=>h)
def Ph {c a:Src}{fc fa t y:Bool}(h:aC Y draw r env (⟨f,.bool (t&&y)⟩::rs) nx m K)(hg:GF rs g f:=by exact du)(hc:cE env rs c=⟨fc,.bool t⟩:=by exact rfl)(ha:cE env rs a=⟨fa,.bool y⟩:=by exact rfl)(kc:f=true->fc=true:=by exact cw)(ka:f=true->t=true->fa=true:=by intro h1 h2;first|(rw[h2];exact rfl)|(rw[h2,h1];rfl)|(rw[h1,h2];rfl)|simp_all):aC Y draw (⟨.pick c a (.c (.bool false)),g⟩::r) env rs nx m K:=
 bT rfl hg _ (fun hf=>by simp only[aB.dz,hc,ha];exact⟨kc hf,fun e=>ka hf e,fun _=>rfl⟩) (fun hf=>by simp only[aB.val,hc,ha];cases t<;>rfl) (fun _=>h)
def aG {x y:Src}{fx fy:Bool}{a b:Int}(h:aC Y draw r env (⟨f,.int .i64 (a+b)⟩::rs) nx m K)(hg:GF rs g f:=by exact du)(hx:cE env rs x=⟨fx,.int .i64 a⟩:=by exact rfl)(hy:cE env rs y=⟨fy,.int .i64 b⟩:=by exact rfl)(kx:f=true->fx=true:=by exact cw)(ky:f=true->fy=true:=by exact cw)(hb:f=true->-9223372036854775808<=a+b/\a+b<=9223372036854775807:=by exact zU):aC Y draw (⟨.bin .add x y,g⟩::r) env rs nx m K:=
 bT rfl hg _ (fun hf=>by simp[aB.dz,hx,hy,kx hf,ky hf,ik]) (fun hf=>by simp only[aB.val,hx,hy,iS];rw[wrap_i64 (hb hf).1 (hb hf).2]) (fun ha=>h)
def eS {x y:Src}{fx fy:Bool}{a b:Int}(h:aC Y draw r env (⟨f,.int .i64 (a-b)⟩::rs) nx m K)(hg:GF rs g f:=by exact du)(hx:cE env rs x=⟨fx,.int .i64 a⟩:=by exact rfl)(hy:cE env rs y=⟨fy,.int .i64 b⟩:=by exact rfl)(kx:f=true->fx=true:=by exact cw)(ky:f=true->fy=true:=by exact cw)(hb:f=true->-9223372036854775808<=a-b/\a-b<=9223372036854775807:=by exact zU):aC Y draw (⟨.bin .sub x y,g⟩::r) env rs nx m K:=
 bT rfl hg _ (fun hf=>by simp[aB.dz,hx,hy,kx hf,ky hf,ik]) (fun hf=>by simp only[aB.val,hx,hy,iS];rw[wrap_i64 (hb hf).1 (hb hf).2]) (fun ha=>h)
def G8 {x y:Src}{fx fy:Bool}{k:IntKind}{a b:Int}(v:Int)(h:aC Y draw r env (⟨f,.int k v⟩::rs) nx m K)(hg:GF rs g f:=by exact du)(hx:cE env rs x=⟨fx,.int k a⟩:=by exact rfl)(hy:cE env rs y=⟨fy,.int k b⟩:=by exact rfl)(kx:f=true->fx=true:=by exact cw)(ky:f=true->fy=true:=by exact cw)(hb:f=true->k.wrap (a-b)=v):aC Y draw (⟨.bin .sub x y,g⟩::r) env rs nx m K:=
 bT rfl hg _ (fun hf=>by simp[aB.dz,hx,hy,kx hf,ky hf,ik]) (fun hf=>by simp only[aB.val,hx,hy,iS];rw[hb hf]) (fun ha=>h)
def xF {x y:Src}{fx fy:Bool}{a b:Int}(h:aC Y draw r env (⟨f,.int .i64 (a*b)⟩::rs) nx m K)(hg:GF rs g f:=by exact du)(hx:cE env rs x=⟨fx,.int .i64 a⟩:=by exact rfl)(hy:cE env rs y=⟨fy,.int .i64 b⟩:=by exact rfl)(kx:f=true->fx=true:=by exact cw)(ky:f=true->fy=true:=by exact cw)(hb:f=true->-9223372036854775808<=a*b/\a*b<=9223372036854775807:=by exact zU):aC Y draw (⟨.bin .mul x y,g⟩::r) env rs nx m K:=
 bT rfl hg _ (fun hf=>by simp[aB.dz,hx,hy,kx hf,ky hf,ik]) (fun hf=>by simp only[aB.val,hx,hy,iS];rw[wrap_i64 (hb hf).1 (hb hf).2]) (fun ha=>h)
def G3 {x y:Src}{fx fy:Bool}{k:IntKind}{a b:Int}(v:Int)(h:aC Y draw r env (⟨f,.int k v⟩::rs) nx m K)(hg:GF rs g f:=by exact du)(hx:cE env rs x=⟨fx,.int k a⟩:=by exact rfl)(hy:cE env rs y=⟨fy,.int k b⟩:=by exact rfl)(kx:f=true->fx=true:=by exact cw)(ky:f=true->fy=true:=by exact cw)(hn:f=true->b≠0)(hb:f=true->a.tmod b=v):aC Y draw (⟨.bin .rem x y,g⟩::r) env rs nx m K:=
 bT rfl hg _ (fun hf=>by simp[aB.dz,hx,hy,kx hf,ky hf,ik,hn hf]) (fun hf=>by simp only[aB.val,hx,hy,iS];rw[hb hf]) (fun ha=>h)
def we {x y:Src}{fx fy:Bool}{k k2:IntKind}{a b:Int}(v:Int)(h:aC Y draw r env (⟨f,.int k v⟩::rs) nx m K)(hg:GF rs g f:=by exact du)(hx:cE env rs x=⟨fx,.int k a⟩:=by exact rfl)(hy:cE env rs y=⟨fy,.int k2 b⟩:=by exact rfl)(kx:f=true->fx=true:=by exact cw)(ky:f=true->fy=true:=by exact cw)(hn:f=true->0<=b:=by exact uM)(hb:f=true->k.wrap (a*2^(min b.toNat k.bits))=v):aC Y draw (⟨.bin .shl x y,g⟩::r) env rs nx m K:=
 bT rfl hg _ (fun hf=>by simp[aB.dz,hx,hy,kx hf,ky hf,ik,hn hf]) (fun hf=>by simp only[aB.val,hx,hy,iS];rw[hb hf]) (fun ha=>h)
def G4 {x y:Src}{fx fy:Bool}{k k2:IntKind}{a b:Int}(v:Int)(h:aC Y draw r env (⟨f,.int k v⟩::rs) nx m K)(hg:GF rs g f:=by exact du)(hx:cE env rs x=⟨fx,.int k a⟩:=by exact rfl)(hy:cE env rs y=⟨fy,.int k2 b⟩:=by exact rfl)(kx:f=true->fx=true:=by exact cw)(ky:f=true->fy=true:=by exact cw)(hn:f=true->0<=b:=by exact uM)(hb:f=true->a.fdiv (2^(min b.toNat k.bits))=v):aC Y draw (⟨.bin .shr x y,g⟩::r) env rs nx m K:=
 bT rfl hg _ (fun hf=>by simp[aB.dz,hx,hy,kx hf,ky hf,ik,hn hf]) (fun hf=>by simp only[aB.val,hx,hy,iS];rw[hb hf]) (fun ha=>h)
def gK {x y:Src}{fx fy:Bool}{k:IntKind}{a b:Int}(v:Int)(h:aC Y draw r env (⟨f,.int k v⟩::rs) nx m K)(hg:GF rs g f:=by exact du)(hx:cE env rs x=⟨fx,.int k a⟩:=by exact rfl)(hy:cE env rs y=⟨fy,.int k b⟩:=by exact rfl)(kx:f=true->fx=true:=by exact cw)(ky:f=true->fy=true:=by exact cw)(hb:f=true->k.wrap (((BitVec.ofInt k.bits a)&&&(BitVec.ofInt k.bits b)).toNat)=v):aC Y draw (⟨.bin .and x y,g⟩::r) env rs nx m K:=
 bT rfl hg _ (fun hf=>by simp[aB.dz,hx,hy,kx hf,ky hf,ik]) (fun hf=>by simp only[aB.val,hx,hy,iS];rw[hb hf]) (fun ha=>h)
def Cg {x y:Src}{fx fy:Bool}{k:IntKind}{a b:Int}(v:Int)(h:aC Y draw r env (⟨f,.int k v⟩::rs) nx m K)(hg:GF rs g f:=by exact du)(hx:cE env rs x=⟨fx,.int k a⟩:=by exact rfl)(hy:cE env rs y=⟨fy,.int k b⟩:=by exact rfl)(kx:f=true->fx=true:=by exact cw)(ky:f=true->fy=true:=by exact cw)(hb:f=true->k.wrap (((BitVec.ofInt k.bits a) |||(BitVec.ofInt k.bits b)).toNat)=v):aC Y draw (⟨.bin .or x y,g⟩::r) env rs nx m K:=
 bT rfl hg _ (fun hf=>by simp[aB.dz,hx,hy,kx hf,ky hf,ik]) (fun hf=>by simp only[aB.val,hx,hy,iS];rw[hb hf]) (fun ha=>h)
def nY {x y:Src}{fx fy:Bool}{k:IntKind}{a b:Int}(v:Int)(h:aC Y draw r env (⟨f,.int k v⟩::rs) nx m K)(hg:GF rs g f:=by exact du)(hx:cE env rs x=⟨fx,.int k a⟩:=by exact rfl)(hy:cE env rs y=⟨fy,.int k b⟩:=by exact rfl)(kx:f=true->fx=true:=by exact cw)(ky:f=true->fy=true:=by exact cw)(hb:f=true->k.wrap (((BitVec.ofInt k.bits a)&&& ~~~ (BitVec.ofInt k.bits b)).toNat)=v):aC Y draw (⟨.bin .andNot x y,g⟩::r) env rs nx m K:=
 bT rfl hg _ (fun hf=>by simp[aB.dz,hx,hy,kx hf,ky hf,ik]) (fun hf=>by simp only[aB.val,hx,hy,iS];rw[hb hf]) (fun ha=>h)
def A2 {x y:Src}{fx fy:Bool}{k:IntKind}{a b:Int}(h:aC Y draw r env (⟨f,.bool (decide (a<b))⟩::rs) nx m K)(hg:GF rs g f:=by exact du)(hx:cE env rs x=⟨fx,.int k a⟩:=by exact rfl)(hy:cE env rs y=⟨fy,.int k b⟩:=by exact rfl)(kx:f=true->fx=true:=by exact cw)(ky:f=true->fy=true:=by exact cw):aC Y draw (⟨.bin .lss x y,g⟩::r) env rs nx m K:=
 bT rfl hg _ (fun hf=>by simp[aB.dz,hx,hy,kx hf,ky hf,ik]) (fun hf=>by simp only[aB.val,hx,hy,iS]<;>rfl) (fun ha=>h)
def Mg {x y:Src}{fx fy:Bool}{k:IntKind}{a b:Int}(h:aC Y draw r env (⟨f,.bool (decide (a<=b))⟩::rs) nx m K)(hg:GF rs g f:=by exact du)(hx:cE env rs x=⟨fx,.int k a⟩:=by exact rfl)(hy:cE env rs y=⟨fy,.int k b⟩:=by exact rfl)(kx:f=true->fx=true:=by exact cw)(ky:f=true->fy=true:=by exact cw):aC Y draw (⟨.bin .leq x y,g⟩::r) env rs nx m K:=
 bT rfl hg _ (fun hf=>by simp[aB.dz,hx,hy,kx hf,ky hf,ik]) (fun hf=>by simp only[aB.val,hx,hy,iS]<;>rfl) (fun ha=>h)
def Mb {x y:Src}{fx fy:Bool}{k:IntKind}{a b:Int}(h:aC Y draw r env (⟨f,.bool (decide (b<a))⟩::rs) nx m K)(hg:GF rs g f:=by exact du)(hx:cE env rs x=⟨fx,.int k a⟩:=by exact rfl)(hy:cE env rs y=⟨fy,.int k b⟩:=by exact rfl)(kx:f=true->fx=true:=by exact cw)(ky:f=true->fy=true:=by exact cw):aC Y draw (⟨.bin .gtr x y,g⟩::r) env rs nx m K:=
 bT rfl hg _ (fun hf=>by simp[aB.dz,hx,hy,kx hf,ky hf,ik]) (fun hf=>by simp only[aB.val,hx,hy,iS]<;>rfl) (fun ha=>h)
def L9 {x y:Src}{fx fy:Bool}{k:IntKind}{a b:Int}(h:aC Y draw r env (⟨f,.bool (decide (b<=a))⟩::rs) nx m K)(hg:GF rs g f:=by exact du)(hx:cE env rs x=⟨fx,.int k a⟩:=by exact rfl)(hy:cE env rs y=⟨fy,.int k b⟩:=by exact rfl)(kx:f=true->fx=true:=by exact cw)(ky:f=true->fy=true:=by exact cw):aC Y draw (⟨.bin .geq x y,g⟩::r) env rs nx m K:=
 bT rfl hg _ (fun hf=>by simp[aB.dz,hx,hy,kx hf,ky hf,ik]) (fun hf=>by simp only[aB.val,hx,hy,iS]<;>rfl) (fun ha=>h)
def L7 {x y:Src}{fx fy:Bool}{k:IntKind}{a b:Int}(h:aC Y draw r env (⟨f,.bool (decide (a=b))⟩::rs) nx m K)(hg:GF rs g f:=by exact du)(hx:cE env rs x=⟨fx,.int k a⟩:=by exact rfl)(hy:cE env rs y=⟨fy,.int k b⟩:=by exact rfl)(kx:f=true->fx=true:=by exact cw)(ky:f=true->fy=true:=by exact cw):aC Y draw (⟨.bin .eql x y,g⟩::r) env rs nx m K:=
 bT rfl hg _ (fun hf=>by simp[aB.dz,hx,hy,kx hf,ky hf,ik]) (fun hf=>by simp only[aB.val,hx,hy,iS]<;>rfl) (fun ha=>h)
def Mj {x y:Src}{fx fy:Bool}{k:IntKind}{a b:Int}(h:aC Y draw r env (⟨f,.bool (!decide (a=b))⟩::rs) nx m K)(hg:GF rs g f:=by exact du)(hx:cE env rs x=⟨fx,.int k a⟩:=by exact rfl)(hy:cE env rs y=⟨fy,.int k b⟩:=by exact rfl)(kx:f=true->fx=true:=by exact cw)(ky:f=true->fy=true:=by exact cw):aC Y draw (⟨.bin .neq x y,g⟩::r) env rs nx m K:=
 bT rfl hg _ (fun hf=>by simp[aB.dz,hx,hy,kx hf,ky hf,ik]) (fun hf=>by simp only[aB.val,hx,hy,iS]<;>rfl) (fun ha=>h)
def Mi {x y:Src}{fx fy:Bool}{a b:List UInt8}(h:aC Y draw r env (⟨f,.bool (Op.bytesLess a b)⟩::rs) nx m K)(hg:GF rs g f:=by exact du)(hx:cE env rs x=⟨fx,.str a⟩:=by exact rfl)(hy:cE env rs y=⟨fy,.str b⟩:=by exact rfl)(kx:f=true->fx=true:=by exact cw)(ky:f=true->fy=true:=by exact cw):aC Y draw (⟨.bin .lss x y,g⟩::r) env rs nx m K:=
 bT rfl hg _ (fun hf=>by simp[aB.dz,hx,hy,kx hf,ky hf,ik]) (fun hf=>by simp only[aB.val,hx,hy,iS,lO]) (fun ha=>h)
def Mh {x y:Src}{fx fy:Bool}{a b:List UInt8}(h:aC Y draw r env (⟨f,.bool (Op.bytesLess a b ||decide (a=b))⟩::rs) nx m K)(hg:GF rs g f:=by exact du)(hx:cE env rs x=⟨fx,.str a⟩:=by exact rfl)(hy:cE env rs y=⟨fy,.str b⟩:=by exact rfl)(kx:f=true->fx=true:=by exact cw)(ky:f=true->fy=true:=by exact cw):aC Y draw (⟨.bin .leq x y,g⟩::r) env rs nx m K:=
 bT rfl hg _ (fun hf=>by simp[aB.dz,hx,hy,kx hf,ky hf,ik]) (fun hf=>by simp only[aB.val,hx,hy,iS,lO]) (fun ha=>h)
def Mc {x y:Src}{fx fy:Bool}{a b:List UInt8}(h:aC Y draw r env (⟨f,.bool (!(Op.bytesLess a b ||decide (a=b)))⟩::rs) nx m K)(hg:GF rs g f:=by exact du)(hx:cE env rs x=⟨fx,.str a⟩:=by exact rfl)(hy:cE env rs y=⟨fy,.str b⟩:=by exact rfl)(kx:f=true->fx=true:=by exact cw)(ky:f=true->fy=true:=by exact cw):aC Y draw (⟨.bin .gtr x y,g⟩::r) env rs nx m K:=
 bT rfl hg _ (fun hf=>by simp[aB.dz,hx,hy,kx hf,ky hf,ik]) (fun hf=>by simp only[aB.val,hx,hy,iS,lO]) (fun ha=>h)
def Ma {x y:Src}{fx fy:Bool}{a b:List UInt8}(h:aC Y draw r env (⟨f,.bool (!Op.bytesLess a b)⟩::rs) nx m K)(hg:GF rs g f:=by exact du)(hx:cE env rs x=⟨fx,.str a⟩:=by exact rfl)(hy:cE env rs y=⟨fy,.str b⟩:=by exact rfl)(kx:f=true->fx=true:=by exact cw)(ky:f=true->fy=true:=by exact cw):aC Y draw (⟨.bin .geq x y,g⟩::r) env rs nx m K:=
 bT rfl hg _ (fun hf=>by simp[aB.dz,hx,hy,kx hf,ky hf,ik]) (fun hf=>by simp only[aB.val,hx,hy,iS,lO]) (fun ha=>h)
def L8 {x y:Src}{fx fy:Bool}{a b:List UInt8}(h:aC Y draw r env (⟨f,.bool (decide (a=b))⟩::rs) nx m K)(hg:GF rs g f:=by exact du)(hx:cE env rs x=⟨fx,.str a⟩:=by exact rfl)(hy:cE env rs y=⟨fy,.str b⟩:=by exact rfl)(kx:f=true->fx=true:=by exact cw)(ky:f=true->fy=true:=by exact cw):aC Y draw (⟨.bin .eql x y,g⟩::r) env rs nx m K:=
 bT rfl hg _ (fun hf=>by simp[aB.dz,hx,hy,kx hf,ky hf,ik]) (fun hf=>by simp only[aB.val,hx,hy,iS,lO]) (fun ha=>h)
def Mk {x y:Src}{fx fy:Bool}{a b:List UInt8}(h:aC Y draw r env (⟨f,.bool (!decide (a=b))⟩::rs) nx m K)(hg:GF rs g f:=by exact du)(hx:cE env rs x=⟨fx,.str a⟩:=by exact rfl)(hy:cE env rs y=⟨fy,.str b⟩:=by exact rfl)(kx:f=true->fx=true:=by exact cw)(ky:f=true->fy=true:=by exact cw):aC Y draw (⟨.bin .neq x y,g⟩::r) env rs nx m K:=
 bT rfl hg _ (fun hf=>by simp[aB.dz,hx,hy,kx hf,ky hf,ik]) (fun hf=>by simp only[aB.val,hx,hy,iS,lO]) (fun ha=>h)
def wc {x y:Src}{fx fy:Bool}{ag:Bool}{ks:List CK}{a b:D}{v:Bool}(h:aC Y draw r env (⟨f,.bool (v)⟩::rs) nx m K)(hb:gH a.cells b.cells=v)(hg:GF rs g f:=by exact du)(hx:cE env rs x=⟨fx,a⟩:=by exact rfl)(hy:cE env rs y=⟨fy,b⟩:=by exact rfl)(kx:f=true->fx=true:=by exact cw)(ky:f=true->fy=true:=by exact cw)(h1:f=true->a.isAgg=ag/\b.isAgg=ag/\eG ks a.cells/\eG ks b.cells:=by exact q7):aC Y draw (⟨.eqA false ag ks x y,g⟩::r) env rs nx m K:=
 bT rfl hg _ (fun hf=>by simp only[aB.dz,hx,hy];exact⟨kx hf,ky hf,h1 hf⟩) (fun hf=>by simp only[aB.val,hx,hy];rw[hb];rfl) (fun ha=>h)
def GU {x y:Src}{fx fy:Bool}{ag:Bool}{ks:List CK}{a b:D}{v:Bool}(h:aC Y draw r env (⟨f,.bool (!v)⟩::rs) nx m K)(hb:gH a.cells b.cells=v)(hg:GF rs g f:=by exact du)(hx:cE env rs x=⟨fx,a⟩:=by exact rfl)(hy:cE env rs y=⟨fy,b⟩:=by exact rfl)(kx:f=true->fx=true:=by exact cw)(ky:f=true->fy=true:=by exact cw)(h1:f=true->a.isAgg=ag/\b.isAgg=ag/\eG ks a.cells/\eG ks b.cells:=by exact q7):aC Y draw (⟨.eqA true ag ks x y,g⟩::r) env rs nx m K:=
 bT rfl hg _ (fun hf=>by simp only[aB.dz,hx,hy];exact⟨kx hf,ky hf,h1 hf⟩) (fun hf=>by simp only[aB.val,hx,hy];rw[hb];rfl) (fun ha=>h)
def wb {x:Src}{fx:Bool}{k k2:IntKind}{a:Int}(v:Int)(h:aC Y draw r env (⟨f,.int k v⟩::rs) nx m K)(hg:GF rs g f:=by exact du)(hx:cE env rs x=⟨fx,.int k2 a⟩:=by exact rfl)(kx:f=true->fx=true:=by exact cw)(hb:f=true->k.wrap a=v):aC Y draw (⟨.cvi k x,g⟩::r) env rs nx m K:=
 bT rfl hg _ (fun hf=>by simp[aB.dz,hx,kx hf]) (fun hf=>by simp only[aB.val,hx];rw[hb hf]) (fun ha=>h)
def G0 {x:Src}{fx:Bool}{s:List UInt8}(h:(f=true->draw=false->s.length<=9223372036854775807)->aC Y draw r env (⟨f,.int .i64 s.length⟩::rs) nx m K)(hg:GF rs g f:=by exact du)(hx:cE env rs x=⟨fx,.str s⟩:=by exact rfl)(kx:f=true->fx=true:=by exact cw):aC Y draw (⟨.lenS x,g⟩::r) env rs nx m K:=
 bT rfl hg _ (fun hf=>by simp[aB.dz,hx,kx hf]) (fun hf=>by simp[aB.val,hx]) (fun ha=>h (fun hf hd=>by have:=ha hf;subst hd;simpa[aB.wR,hx,kx hf]using this))
def GY {x:Src}{fx:Bool}{α:Type}{k:Nat}{q:α->D}{xs:List α}(h:(f=true->draw=false->xs.length<=9223372036854775807)->aC Y draw r env (⟨f,.int .i64 xs.length⟩::rs) nx m K)(hg:GF rs g f:=by exact du)(hx:cE env rs x=⟨fx,.sl k (xs.map q)⟩:=by exact rfl)(kx:f=true->fx=true:=by exact cw):aC Y draw (⟨.len x,g⟩::r) env rs nx m K:=
 bT rfl hg _ (fun hf=>by simp[aB.dz,hx,kx hf]) (fun hf=>by simp[aB.val,hx]) (fun ha=>h (fun hf hd=>by have:=ha hf;subst hd;simpa[aB.wR,hx,kx hf]using this))
def GZ {x:Src}{fx:Bool}{l k i n:Nat}(h:(f=true->draw=false->n<=9223372036854775807)->aC Y draw r env (⟨f,.int .i64 n⟩::rs) nx m K)(hg:GF rs g f:=by exact du)(hx:cE env rs x=⟨fx,.own l k i n⟩:=by exact rfl)(kx:f=true->fx=true:=by exact cw):aC Y draw (⟨.len x,g⟩::r) env rs nx m K:=
 bT rfl hg _ (fun hf=>by simp[aB.dz,hx,kx hf]) (fun hf=>by simp[aB.val,hx]) (fun ha=>h (fun hf hd=>by have:=ha hf;subst hd;simpa[aB.wR,hx,kx hf]using this))
def Mf {x:Src}{fx:Bool}(h:aC Y draw r env (⟨f,.int .i64 0⟩::rs) nx m K)(hg:GF rs g f:=by exact du)(hx:cE env rs x=⟨fx,.aA⟩:=by exact rfl)(kx:f=true->fx=true:=by exact cw):aC Y draw (⟨.len x,g⟩::r) env rs nx m K:=
 bT rfl hg _ (fun hf=>by simp[aB.dz,hx,kx hf]) (fun hf=>by simp[aB.val,hx]) (fun ha=>h)
def Ml {x:Src}{fx:Bool}{l k i o:Nat}(h:aC Y draw r env (⟨f,.ptr l k i o⟩::rs) nx m K)(hg:GF rs g f:=by exact du)(hx:cE env rs x=⟨fx,.ptr l k i o⟩:=by exact rfl)(kx:f=true->fx=true:=by exact cw):aC Y draw (⟨.nilck x,g⟩::r) env rs nx m K:=
 bT rfl hg _ (fun hf=>by simp[aB.dz,hx,kx hf]) (fun hf=>by simp[aB.val,hx]) (fun ha=>h)
def Mm {x:Src}{fx:Bool}{k i o:Nat}{es:List D}(h:aC Y draw r env (⟨f,.ref k es i o⟩::rs) nx m K)(hg:GF rs g f:=by exact du)(hx:cE env rs x=⟨fx,.ref k es i o⟩:=by exact rfl)(kx:f=true->fx=true:=by exact cw):aC Y draw (⟨.nilck x,g⟩::r) env rs nx m K:=
 bT rfl hg _ (fun hf=>by simp[aB.dz,hx,kx hf]) (fun hf=>by simp[aB.val,hx]) (fun ha=>h)
def Pk {x:Src}{fx:Bool}{off l k i o:Nat}(h:aC Y draw r env (⟨f,.ptr l k i (o+off)⟩::rs) nx m K)(hg:GF rs g f:=by exact du)(hx:cE env rs x=⟨fx,.ptr l k i o⟩:=by exact rfl)(kx:f=true->fx=true:=by exact cw):aC Y draw (⟨.fa off x,g⟩::r) env rs nx m K:=
 bT rfl hg _ (fun hf=>by simp[aB.dz,hx,kx hf]) (fun hf=>by simp[aB.val,hx]) (fun ha=>h)
def Pl {x:Src}{fx:Bool}{off k i o:Nat}{es:List D}(h:aC Y draw r env (⟨f,.ref k es i (o+off)⟩::rs) nx m K)(hg:GF rs g f:=by exact du)(hx:cE env rs x=⟨fx,.ref k es i o⟩:=by exact rfl)(kx:f=true->fx=true:=by exact cw):aC Y draw (⟨.fa off x,g⟩::r) env rs nx m K:=
 bT rfl hg _ (fun hf=>by simp[aB.dz,hx,kx hf]) (fun hf=>by simp[aB.val,hx]) (fun ha=>h)
def bh {x y:Src}{fx fy:Bool}{α:Type}{k:Nat}{q:α->D}{xs:List α}{i:Int}{kk:IntKind}(j:Nat)(h:aC Y draw r env (⟨f,.ref k (xs.map q) j 0⟩::rs) nx m K)(hg:GF rs g f:=by exact du)(hx:cE env rs x=⟨fx,.sl k (xs.map q)⟩:=by exact rfl)(hy:cE env rs y=⟨fy,.int kk i⟩:=by exact rfl)(kx:f=true->fx=true:=by exact cw)(ky:f=true->fy=true:=by exact cw)(hj:f=true->i=(j:Int):=by exact uL)(hb:f=true->j<xs.length:=by exact uM):aC Y draw (⟨.ia k x y,g⟩::r) env rs nx m K:=
 bT rfl hg _ (fun hf=>by simp only[aB.dz,hx,hy,aS];exact⟨kx hf,ky hf,trivial,by have:=hj hf;omega,by have:=hj hf;have:=hb hf;omega⟩) (fun hf=>by simp only[aB.val,hx,hy];rw[hj hf];rfl) (fun ha=>h)
def eZ {x y:Src}{fx fy:Bool}{l k i0 n:Nat}{i:Int}{kk:IntKind}(j:Nat)(h:aC Y draw r env (⟨f,.ptr l k (i0+j) 0⟩::rs) nx m K)(hg:GF rs g f:=by exact du)(hx:cE env rs x=⟨fx,.own l k i0 n⟩:=by exact rfl)(hy:cE env rs y=⟨fy,.int kk i⟩:=by exact rfl)(kx:f=true->fx=true:=by exact cw)(ky:f=true->fy=true:=by exact cw)(hj:f=true->i=(j:Int):=by exact uL)(hb:f=true->j<n:=by exact uM):aC Y draw (⟨.ia k x y,g⟩::r) env rs nx m K:=
 bT rfl hg _ (fun hf=>by simp only[aB.dz,hx,hy];exact⟨kx hf,ky hf,trivial,by have:=hj hf;omega,by have:=hj hf;have:=hb hf;omega⟩) (fun hf=>by simp only[aB.val,hx,hy];rw[hj hf];rfl) (fun ha=>h)
def GX {x y:Src}{fx fy:Bool}{s:List UInt8}{i:Int}{kk:IntKind}(j:Nat)(h:aC Y draw r env (⟨f,.int .u8 (at8 s j)⟩::rs) nx m K)(hg:GF rs g f:=by exact du)(hx:cE env rs x=⟨fx,.str s⟩:=by exact rfl)(hy:cE env rs y=⟨fy,.int kk i⟩:=by exact rfl)(kx:f=true->fx=true:=by exact cw)(ky:f=true->fy=true:=by exact cw)(hj:f=true->i=(j:Int):=by exact uL)(hb:f=true->j<s.length:=by exact uM):aC Y draw (⟨.ixS x y,g⟩::r) env rs nx m K:=
 bT rfl hg _ (fun hf=>by simp only[aB.dz,hx,hy];exact⟨kx hf,ky hf,by have:=hj hf;omega,by have:=hj hf;have:=hb hf;omega⟩) (fun hf=>by simp only[aB.val,hx,hy];rw[hj hf];rfl) (fun ha=>h)
def GW {x y:Src}{fx fy:Bool}{α:Type}{k:Nat}{q:α->D}{xs:List α}{i:Int}{kk:IntKind}(h:aC Y draw r env (⟨f,.ref k (xs.map q) i.toNat 0⟩::rs) nx m K)(hg:GF rs g f:=by exact du)(hx:cE env rs x=⟨fx,.sl k (xs.map q)⟩:=by exact rfl)(hy:cE env rs y=⟨fy,.int kk i⟩:=by exact rfl)(kx:f=true->fx=true:=by exact cw)(ky:f=true->fy=true:=by exact cw)(hb:f=true->0<=i/\i<(xs.length:Nat):=by exact zU):aC Y draw (⟨.ia k x y,g⟩::r) env rs nx m K:=
 bT rfl hg _ (fun hf=>by simp only[aB.dz,hx,hy,aS];exact⟨kx hf,ky hf,trivial,(hb hf).1,(hb hf).2⟩) (fun hf=>by simp only[aB.val,hx,hy]<;>rfl) (fun ha=>h)
def Md {x y:Src}{fx fy:Bool}{l k i0 n:Nat}{i:Int}{kk:IntKind}(h:aC Y draw r env (⟨f,.ptr l k (i0+i.toNat) 0⟩::rs) nx m K)(hg:GF rs g f:=by exact du)(hx:cE env rs x=⟨fx,.own l k i0 n⟩:=by exact rfl)(hy:cE env rs y=⟨fy,.int kk i⟩:=by exact rfl)(kx:f=true->fx=true:=by exact cw)(ky:f=true->fy=true:=by exact cw)(hb:f=true->0<=i/\i<(n:Nat):=by exact zU):aC Y draw (⟨.ia k x y,g⟩::r) env rs nx m K:=
 bT rfl hg _ (fun hf=>by simp only[aB.dz,hx,hy,aS];exact⟨kx hf,ky hf,trivial,(hb hf).1,(hb hf).2⟩) (fun hf=>by simp only[aB.val,hx,hy]<;>rfl) (fun ha=>h)
def Me {x y:Src}{fx fy:Bool}{s:List UInt8}{i:Int}{kk:IntKind}(h:aC Y draw r env (⟨f,.int .u8 (at8 s i.toNat)⟩::rs) nx m K)(hg:GF rs g f:=by exact du)(hx:cE env rs x=⟨fx,.str s⟩:=by exact rfl)(hy:cE env rs y=⟨fy,.int kk i⟩:=by exact rfl)(kx:f=true->fx=true:=by exact cw)(ky:f=true->fy=true:=by exact cw)(hb:f=true->0<=i/\i<(s.length:Nat):=by exact zU):aC Y draw (⟨.ixS x y,g⟩::r) env rs nx m K:=
 bT rfl hg _ (fun hf=>by simp only[aB.dz,hx,hy,aS];exact⟨kx hf,ky hf,(hb hf).1,(hb hf).2⟩) (fun hf=>by simp only[aB.val,hx,hy]<;>rfl) (fun ha=>h)
def zc {x y:Src}{fx fy:Bool}{s:List UInt8}{k2:IntKind}{a:Int}(i:Nat)(h:aC Y draw r env (⟨f,.str (s.drop i)⟩::rs) nx m K)(hg:GF rs g f:=by exact du)(hx:cE env rs x=⟨fx,.str s⟩:=by exact rfl)(hy:cE env rs y=⟨fy,.int k2 a⟩:=by exact rfl)(kx:f=true->fx=true:=by exact cw)(ky:f=true->fy=true:=by exact cw)(hi:f=true->a=(i:Int):=by exact uL)(hb:f=true->i<=s.length:=by exact uM):aC Y draw (⟨.slS x (some y) none,g⟩::r) env rs nx m K:=
 bT rfl hg _ (fun hf=>by simp only[aB.dz,E3,dO,hx,hy];have:=hb hf;have:=hi hf;refine⟨kx hf,ky hf,trivial, ?_⟩;simp only[lQ,dM,ca,b7,Int.ofNat_eq_natCast];omega) (fun hf=>by simp only[aB.val,dO,dM,hx,hy];rw[hi hf];simp) (fun ha=>h)
def za {x y:Src}{fx fy:Bool}{α:Type}{k:Nat}{q:α->D}{s:List α}{k2:IntKind}{a:Int}(i:Nat)(h:aC Y draw r env (⟨f,.sl k ((s.drop i).map q)⟩::rs) nx m K)(hg:GF rs g f:=by exact du)(hx:cE env rs x=⟨fx,.sl k (s.map q)⟩:=by exact rfl)(hy:cE env rs y=⟨fy,.int k2 a⟩:=by exact rfl)(kx:f=true->fx=true:=by exact cw)(ky:f=true->fy=true:=by exact cw)(hi:f=true->a=(i:Int):=by exact uL)(hb:f=true->i<=s.length:=by exact uM):aC Y draw (⟨.slA k x (some y) none,g⟩::r) env rs nx m K:=
 bT rfl hg _ (fun hf=>by simp only[aB.dz,E3,dO,hx,hy,aS];have:=hb hf;have:=hi hf;refine⟨kx hf,ky hf,trivial,trivial, ?_⟩;simp only[lQ,dM,ca,b7,Int.ofNat_eq_natCast];omega) (fun hf=>by simp only[aB.val,dO,dM,hx,hy];rw[hi hf];first|(simp only[List.take_length,Int.toNat_natCast,List.map_drop];done)|simp[List.map_drop,List.map_take]) (fun ha=>h)
def G5 {x z:Src}{fx fz:Bool}{α:Type}{k:Nat}{q:α->D}{s:List α}{k3:IntKind}{c:Int}(j:Nat)(h:aC Y draw r env (⟨f,.sl k ((s.take j).map q)⟩::rs) nx m K)(hg:GF rs g f:=by exact du)(hx:cE env rs x=⟨fx,.sl k (s.map q)⟩:=by exact rfl)(hz:cE env rs z=⟨fz,.int k3 c⟩:=by exact rfl)(kx:f=true->fx=true:=by exact cw)(kz:f=true->fz=true:=by exact cw)(hj:f=true->c=(j:Int):=by exact uL)(hb:f=true->j<=s.length:=by exact uM):aC Y draw (⟨.slA k x none (some z),g⟩::r) env rs nx m K:=
 bT rfl hg _ (fun hf=>by simp only[aB.dz,E3,dO,hx,hz,aS];have:=hb hf;have:=hj hf;refine⟨kx hf,trivial,kz hf,trivial, ?_⟩;simp only[lQ,dM,ca,b7,Int.ofNat_eq_natCast];omega) (fun hf=>by simp only[aB.val,dO,dM,hx,hz];rw[hj hf];first|(simp only[List.take_length,Int.toNat_natCast,List.map_drop];done)|simp[List.map_drop,List.map_take]) (fun ha=>h)
def G7 {x z:Src}{fx fz:Bool}{l k i0 n:Nat}{k3:IntKind}{c:Int}(j:Nat)(h:aC Y draw r env (⟨f,.own l k i0 j⟩::rs) nx m K)(hg:GF rs g f:=by exact du)(hx:cE env rs x=⟨fx,.own l k i0 n⟩:=by exact rfl)(hz:cE env rs z=⟨fz,.int k3 c⟩:=by exact rfl)(kx:f=true->fx=true:=by exact cw)(kz:f=true->fz=true:=by exact cw)(hj:f=true->c=(j:Int):=by exact uL)(hb:f=true->j<=n:=by exact uM):aC Y draw (⟨.slA k x none (some z),g⟩::r) env rs nx m K:=
 bT rfl hg _ (fun hf=>by simp only[aB.dz,E3,dO,hx,hz];have:=hb hf;have:=hj hf;refine⟨kx hf,trivial,kz hf,trivial, ?_⟩;simp only[lQ,dM,ca,b7,Int.ofNat_eq_natCast];omega) (fun hf=>by simp only[aB.val,dO,dM,hx,hz];rw[hj hf];simp) (fun ha=>h)
def zb {x y z:Src}{fx fy fz:Bool}{s:List UInt8}{k2:IntKind}{a:Int}(i:Nat){k3:IntKind}{c:Int}(j:Nat)(h:aC Y draw r env (⟨f,.str ((s.take j).drop i)⟩::rs) nx m K)(hg:GF rs g f:=by exact du)(hx:cE env rs x=⟨fx,.str s⟩:=by exact rfl)(hy:cE env rs y=⟨fy,.int k2 a⟩:=by exact rfl)(hz:cE env rs z=⟨fz,.int k3 c⟩:=by exact rfl)(kx:f=true->fx=true:=by exact cw)(ky:f=true->fy=true:=by exact cw)(kz:f=true->fz=true:=by exact cw)(hi:f=true->a=(i:Int):=by exact uL)(hj:f=true->c=(j:Int):=by exact uL)(hb:f=true->i<=j/\j<=s.length:=by exact zU):aC Y draw (⟨.slS x (some y) (some z),g⟩::r) env rs nx m K:=
 bT rfl hg _ (fun hf=>by simp only[aB.dz,E3,dO,hx,hy,hz];have:=hb hf;have:=hi hf;have:=hj hf;refine⟨kx hf,ky hf,kz hf, ?_⟩;simp only[lQ,dM,ca,b7,Int.ofNat_eq_natCast];omega) (fun hf=>by simp only[aB.val,dO,dM,hx,hy,hz];rw[hi hf,hj hf];simp) (fun ha=>h)
def G6 {x y z:Src}{fx fy fz:Bool}{α:Type}{k:Nat}{q:α->D}{s:List α}{k2:IntKind}{a:Int}(i:Nat){k3:IntKind}{c:Int}(j:Nat)(h:aC Y draw r env (⟨f,.sl k (((s.take j).drop i).map q)⟩::rs) nx m K)(hg:GF rs g f:=by exact du)(hx:cE env rs x=⟨fx,.sl k (s.map q)⟩:=by exact rfl)(hy:cE env rs y=⟨fy,.int k2 a⟩:=by exact rfl)(hz:cE env rs z=⟨fz,.int k3 c⟩:=by exact rfl)(kx:f=true->fx=true:=by exact cw)(ky:f=true->fy=true:=by exact cw)(kz:f=true->fz=true:=by exact cw)(hi:f=true->a=(i:Int):=by exact uL)(hj:f=true->c=(j:Int):=by exact uL)(hb:f=true->i<=j/\j<=s.length:=by exact zU):aC Y draw (⟨.slA k x (some y) (some z),g⟩::r) env rs nx m K:=
 bT rfl hg _ (fun hf=>by simp only[aB.dz,E3,dO,hx,hy,hz,aS];have:=hb hf;have:=hi hf;have:=hj hf;refine⟨kx hf,ky hf,kz hf,trivial, ?_⟩;simp only[lQ,dM,ca,b7,Int.ofNat_eq_natCast];omega) (fun hf=>by simp only[aB.val,dO,dM,hx,hy,hz];rw[hi hf,hj hf];first|(simp only[List.take_length,Int.toNat_natCast,List.map_drop];done)|simp[List.map_drop,List.map_take]) (fun ha=>h)
def fV {x:Src}{fx:Bool}{i:Nat}{ds:List D}(v:D)(h:aC Y draw r env (⟨f,v⟩::rs) nx m K)(hg:GF rs g f:=by exact du)(hx:cE env rs x=⟨fx,.tup ds⟩:=by exact rfl)(kx:f=true->fx=true:=by exact cw)(hv:f=true->ds.getD i .any=v:=by exact fun _=>rfl)(hb:f=true->i<ds.length:=by intro _;simp only[bR,cd];omega):aC Y draw (⟨.ext x i,g⟩::r) env rs nx m K:=
 bT rfl hg _ (fun hf=>by simp only[aB.dz,hx];exact⟨kx hf,hb hf⟩) (fun hf=>by simp only[aB.val,hx];exact hv hf) (fun ha=>h)
def dp {z:List D}{ps:List (Nat×Nat×Src)}(v:List D)(h:aC Y draw r env (⟨f,.agg v⟩::rs) nx m K)(hg:GF rs g f:=by exact du)(hv:f=true->tj (cE env rs) z ps=v:=by exact fun _=>rfl)(ho:f=true->vM (cE env rs) z.length ps:=by exact q7):aC Y draw (⟨.build z ps,g⟩::r) env rs nx m K:=
 bT rfl hg _ (fun hf=>ho hf) (fun hf=>by simp only[aB.val];rw[hv hf]) (fun _=>h)
def bw {z:List D}{ps:List (Nat×Nat×Src)}(d:D)(h:aC Y draw r env (⟨f,d⟩::rs) nx m K)(hg:GF rs g f:=by exact du)(hv:f=true->D.agg (tj (cE env rs) z ps)=d:=by exact fun _=>rfl)(ho:f=true->vM (cE env rs) z.length ps:=by exact q7):aC Y draw (⟨.build z ps,g⟩::r) env rs nx m K:=
 bT rfl hg _ (fun hf=>ho hf) (fun hf=>by simp only[aB.val];exact hv hf) (fun _=>h)
def LK {e:D}{n o:Nat}{ag:Bool}(h:e.isAgg=ag):oc e n n o ag=e:=by simp[oc,h]
def aV {x:Src}{fx:Bool}{n l:Nat}{ag:Bool}{d:D}(h:aC Y draw r env (⟨f,d⟩::rs) nx m K)(hg:GF rs g f:=by exact du)(hx:cE env rs x=⟨fx,.ptr l n 0 0⟩:=by exact rfl)(kx:f=true->fx=true:=by exact cw)(hl:f=true->look m l=some (.buf n [d]):=by exact fun _=>rfl)(ha:f=true->d.isAgg=ag:=by exact fun _=>rfl):aC Y draw (⟨.ld n ag x,g⟩::r) env rs nx m K:=
 fH rfl hg _ (fun hf=>by simp only[aB.dz,hx,xh,er,hl hf];exact⟨kx hf,⟨trivial,bc⟩,ae⟩) (fun hf=>by simp only[aB.val,hx,uU,aX,hl hf,gM];exact LK (ha hf)) m rfl (fun ha=>h)
def ay {x:Src}{fx:Bool}{n l k o:Nat}{ag:Bool}{d:D}(v:D)(h:aC Y draw r env (⟨f,v⟩::rs) nx m K)(hg:GF rs g f:=by exact du)(hx:cE env rs x=⟨fx,.ptr l k 0 o⟩:=by exact rfl)(kx:f=true->fx=true:=by exact cw)(hl:f=true->look m l=some (.buf k [d]):=by exact fun _=>rfl)(hv:f=true->oc d k n o ag=v:=by exact fun _=>rfl)(ho:o+n<=k:=by omega):aC Y draw (⟨.ld n ag x,g⟩::r) env rs nx m K:=
 fH rfl hg _ (fun hf=>by simp only[aB.dz,hx,xh,er,hl hf];exact⟨kx hf,⟨trivial,bc⟩,ho⟩) (fun hf=>by simp only[aB.val,hx,uU,aX,hl hf,gM];exact hv hf) m rfl (fun ha=>h)
def hZ {x:Src}{fx:Bool}{α:Type} [Inhabited α]{n l k i o:Nat}{ag:Bool}{q:α->D}{xs:List α}(v:D)(h:aC Y draw r env (⟨f,v⟩::rs) nx m K)(hg:GF rs g f:=by exact du)(hx:cE env rs x=⟨fx,.ptr l k i o⟩:=by exact rfl)(kx:f=true->fx=true:=by exact cw)(hl:f=true->look m l=some (.buf k (xs.map q)):=by exact fun _=>rfl)(hi:f=true->i<xs.length:=by exact uM)(hv:f=true->oc (q xs[i]!) k n o ag=v:=by exact fun _=>rfl)(ho:o+n<=k:=by omega):aC Y draw (⟨.ld n ag x,g⟩::r) env rs nx m K:=
 fH rfl hg _ (fun hf=>by simp only[aB.dz,hx,xh,er,hl hf,aS];exact⟨kx hf,⟨trivial,by have:=hi hf;omega⟩,ho⟩) (fun hf=>by simp only[aB.val,hx,uU,aX,hl hf];rw[getD_map (hi hf)];exact hv hf) m rfl (fun ha=>h)
def bd {x:Src}{fx:Bool}{α:Type} [Inhabited α]{n k i o:Nat}{ag:Bool}{q:α->D}{xs:List α}(v:D)(h:aC Y draw r env (⟨f,v⟩::rs) nx m K)(hg:GF rs g f:=by exact du)(hx:cE env rs x=⟨fx,.ref k (xs.map q) i o⟩:=by exact rfl)(kx:f=true->fx=true:=by exact cw)(hi:f=true->i<xs.length:=by exact uM)(hv:f=true->oc (q xs[i]!) k n o ag=v:=by exact fun _=>rfl)(ho:o+n<=k:=by omega):aC Y draw (⟨.ld n ag x,g⟩::r) env rs nx m K:=
 fH rfl hg _ (fun hf=>by simp only[aB.dz,hx,xh,aS];exact⟨kx hf,hi hf,ho⟩) (fun hf=>by simp only[aB.val,hx,uU];rw[getD_map (hi hf)];exact hv hf) m rfl (fun ha=>h)
def ib {x:Src}{fx:Bool}{n k i o:Nat}{ag:Bool}{es:List D}(v:D)(h:aC Y draw r env (⟨f,v⟩::rs) nx m K)(hg:GF rs g f:=by exact du)(hx:cE env rs x=⟨fx,.ref k es i o⟩:=by exact rfl)(kx:f=true->fx=true:=by exact cw)(hi:f=true->i<es.length:=by intro _;simp only[bR,cd];omega)(hv:f=true->oc (es.getD i .any) k n o ag=v:=by exact fun _=>rfl)(ho:o+n<=k:=by omega):aC Y draw (⟨.ld n ag x,g⟩::r) env rs nx m K:=
 fH rfl hg _ (fun hf=>by simp only[aB.dz,hx,xh];exact⟨kx hf,hi hf,ho⟩) (fun hf=>by simp only[aB.val,hx,uU];exact hv hf) m rfl (fun ha=>h)
def Pj {x:Src}{fx:Bool}{k:Nat}{d:D}{L:Nat}{m2:List (Nat×bz)}(h:aC Y draw r env (⟨f,.ptr L k 0 0⟩::rs) nx m2 K)(hg:GF rs g f:=by exact du)(hx:cE env rs x=⟨fx,d⟩:=by exact rfl)(kx:f=true->fx=true:=by exact cw)(hc:d.cells.length=k:=by exact rfl)(hL:nx+rs.length=L:=by exact r7)(hm:cH m L (.buf k [d])=m2:=by simp only[cH,cv,Nat.reduceEqDiff,aT,aN,Nat.reduceAdd,reduceCtorEq];exact rfl):aC Y draw (⟨.box k x,g⟩::r) env rs nx m K:=
 fH rfl hg _ (fun hf=>by simp only[aB.dz,hx];exact⟨kx hf,hc⟩) (fun hf=>by simp only[aB.val,hx,hL]) _ (by simp only[aB.cn,hx,hL];exact hm) (fun _=>h)
def Pm {L:Nat}{m2:List (Nat×bz)}(h:aC Y draw r env (⟨f,.ptr L 2 0 0⟩::rs) nx m2 K)(hg:GF rs g f:=by exact du)(hL:nx+rs.length=L:=by exact r7)(hm:cH m L (.bld none 0 false)=m2:=by simp only[cH,cv,Nat.reduceEqDiff,aT,aN,Nat.reduceAdd,reduceCtorEq];exact rfl):aC Y draw (⟨.mkB,g⟩::r) env rs nx m K:=
 fH rfl hg _ (fun _=>trivial) (fun hf=>by simp only[aB.val,hL]) _ (by simp only[aB.cn,hL];exact hm) (fun _=>h)
def Ps {x:Src}{fx:Bool}{s:List UInt8}{L:Nat}{m2:List (Nat×bz)}(h:aC Y draw r env (⟨f,.own L 1 0 s.length⟩::rs) nx m2 K)(hg:GF rs g f:=by exact du)(hx:cE env rs x=⟨fx,.str s⟩:=by exact rfl)(kx:f=true->fx=true:=by exact cw)(hL:nx+rs.length=L:=by exact r7)(hm:cH m L (.buf 1 (s.map fun b=>.int .u8 b.toNat))=m2:=by simp only[cH,cv,Nat.reduceEqDiff,aT,aN,Nat.reduceAdd,reduceCtorEq];exact rfl):aC Y draw (⟨.s2b x,g⟩::r) env rs nx m K:=
 fH rfl hg _ (fun hf=>by simp only[aB.dz,hx];exact⟨kx hf,trivial⟩) (fun hf=>by simp only[aB.val,hx,hL]) _ (by simp only[aB.cn,hx,hL];exact hm) (fun _=>h)
def Pr {x:Src}{fx:Bool}{s:List UInt8}{L:Nat}{m2:List (Nat×bz)}(h:aC Y draw r env (⟨f,.it L⟩::rs) nx m2 K)(hg:GF rs g f:=by exact du)(hx:cE env rs x=⟨fx,.str s⟩:=by exact rfl)(kx:f=true->fx=true:=by exact cw)(hL:nx+rs.length=L:=by exact r7)(hm:cH m L (.iter s 0)=m2:=by simp only[cH,cv,Nat.reduceEqDiff,aT,aN,Nat.reduceAdd,reduceCtorEq];exact rfl):aC Y draw (⟨.rng x,g⟩::r) env rs nx m K:=
 fH rfl hg _ (fun hf=>by simp only[aB.dz,hx];exact⟨kx hf,trivial⟩) (fun hf=>by simp only[aB.val,hx,hL]) _ (by simp only[aB.cn,hx,hL];exact hm) (fun _=>h)
def cS {k n:Nat}{z:D}{ps:List (Nat×Src)}{L:Nat}{m2:List (Nat×bz)}(es:List D)(h:aC Y draw r env (⟨f,.own L k 0 n⟩::rs) nx m2 K)(hg:GF rs g f:=by exact du)(he:jq (cE env rs) (List.replicate n z) ps=es:=by exact rfl)(ho:f=true->na (cE env rs) k n ps:=by exact q7)(hz:z.cells.length=k:=by exact rfl)(hL:nx+rs.length=L:=by exact r7)(hm:cH m L (.buf k es)=m2:=by simp only[cH,cv,Nat.reduceEqDiff,aT,aN,Nat.reduceAdd,reduceCtorEq];exact rfl):aC Y draw (⟨.bsl k z n ps,g⟩::r) env rs nx m K:=
 fH rfl hg _ (fun hf=>⟨hz,ho hf⟩) (fun hf=>by simp only[aB.val,hL]) _ (by simp only[aB.cn,he,hL];exact hm) (fun _=>h)
def dA {n l k o:Nat}{x y:Src}{d v:D}{m2:List (Nat×bz)}(e:D)(h:aC Y draw r env (⟨true,.any⟩::rs) nx m2 K)(hx:cE env rs x=⟨true,.ptr l k 0 o⟩:=by exact rfl)(hy:cE env rs y=⟨true,v⟩:=by exact rfl)(hl:look m l=some (.buf k [d]):=by exact rfl)(hc:v.cells.length=n:=by exact rfl)(he:pY d k n o v=e:=by exact rfl)(ho:o+n<=k:=by omega)(hm:cH m l (.buf k [e])=m2:=by simp only[cH,cv,Nat.reduceEqDiff,aT,aN,Nat.reduceAdd,reduceCtorEq];exact rfl):aC Y draw (⟨.st n x y,none⟩::r) env rs nx m K:=
 o8 rfl _ (by simp only[aB.dz,hx,hy,er,hl];exact⟨trivial,trivial,hc,⟨trivial,bc⟩,ho⟩) rfl _ (by simp only[aB.cn,hx,hy,aX,hl,gM,List.set_cons_zero,he];exact hm) (fun _=>h)
def lB {n l k i o:Nat}{x y:Src}{v:D}{es:List D}{m2:List (Nat×bz)}(es2:List D)(h:aC Y draw r env (⟨true,.any⟩::rs) nx m2 K)(hx:cE env rs x=⟨true,.ptr l k i o⟩:=by exact rfl)(hy:cE env rs y=⟨true,v⟩:=by exact rfl)(hl:look m l=some (.buf k es):=by exact rfl)(hi:i<es.length)(hc:v.cells.length=n:=by exact rfl)(he:es.set i (pY (es.getD i .any) k n o v)=es2)(ho:o+n<=k:=by omega)(hm:cH m l (.buf k es2)=m2:=by simp only[cH,cv,Nat.reduceEqDiff,aT,aN,Nat.reduceAdd,reduceCtorEq];exact rfl):aC Y draw (⟨.st n x y,none⟩::r) env rs nx m K:=
 o8 rfl _ (by simp only[aB.dz,hx,hy,er,hl];exact⟨trivial,trivial,hc,⟨trivial,ae⟩,ho⟩) rfl _ (by simp only[aB.cn,hx,hy,aX,hl,he];exact hm) (fun _=>h)
def pk (m:List (Nat×bz))(k:Nat)(d:D)(ys:List D):Prop:=w9 m k d/\mF m d=ys
def pk.sl {k:Nat}{es:List D}:pk m k (.sl k es) es:=⟨rfl,rfl⟩
def pk.aA {k:Nat}:pk m k .aA []:=⟨trivial,rfl⟩
def pk.own {l k i n:Nat}{es:List D}(hl:look m l=some (.buf k es))(hb:i+n<=es.length):pk m k (.own l k i n) ((es.drop i).take n):=⟨⟨rfl,by simp only[er,hl];exact⟨trivial,hb⟩⟩,by simp only[mF,aX,hl]⟩
def pk.all {l k n:Nat}{es:List D}(hl:look m l=some (.buf k es))(hb:n=es.length):pk m k (.own l k 0 n) es:=by
 have:=pk.own (i:=0) (n:=n) hl ae;simpa[hb]using this
def pk.str {s:List UInt8}:pk m 1 (.str s) (s.map fun b=>.int .u8 b.toNat):=⟨rfl,rfl⟩
def xA {k n:Nat}{x y:Src}{d:D}{ys:List D}{L:Nat}{m2:List (Nat×bz)}(h:aC Y draw r env (⟨true,.own L k 0 n⟩::rs) nx m2 K)(hx:cE env rs x=⟨true,.aA⟩:=by exact rfl)(hy:cE env rs y=⟨true,d⟩:=by exact rfl)(he:pk m k d ys)(hn:ys.length=n)(hb:n<=1073741824:=by omega)(hL:nx+rs.length=L:=by exact r7)(hm:cH m L (.buf k ys)=m2:=by simp only[cH,cv,Nat.reduceEqDiff,aT,aN,Nat.reduceAdd,reduceCtorEq];exact rfl):aC Y draw (⟨.app k x y,none⟩::r) env rs nx m K:=
 o8 rfl _ (by simp only[aB.dz,hx,hy,he.2,hn];exact⟨trivial,trivial,he.1,hb⟩) (by simp only[aB.val,hx,hy,he.2,hn,hL]) _ (by simp only[aB.cn,hx,hy,he.2,hL];exact hm) (fun _=>h)
def Jm {k n:Nat}{y:Src}{fy:Bool}{d:D}{ys:List D}{L:Nat}{m2:List (Nat×bz)}(h:aC Y draw r env (⟨f,.own L k 0 n⟩::rs) nx m2 K)(hg:GF rs g f:=by exact du)(hy:cE env rs y=⟨fy,d⟩:=by exact rfl)(ky:f=true->fy=true:=by exact cw)(he:pk m k d ys)(hn:ys.length=n)(hb:n<=1073741824:=by omega)(hL:nx+rs.length=L:=by exact r7)(hm:cH m L (.buf k ys)=m2:=by simp only[cH,cv,Nat.reduceEqDiff,aT,aN,Nat.reduceAdd,reduceCtorEq];exact rfl):aC Y draw (⟨.appN k y,g⟩::r) env rs nx m K:=
 fH rfl hg _ (fun hf=>by simp only[aB.dz,hy,he.2,hn];exact⟨ky hf,he.1,hb⟩) (fun hf=>by simp only[aB.val,hy,he.2,hn,hL]) _ (by simp only[aB.cn,hy,he.2,hL];exact hm) (fun _=>h)
def ui {k l i a n:Nat}{x y:Src}{d:D}{xs ys:List D}{L:Nat}{m2:List (Nat×bz)}(zs:List D)(h:aC Y draw r env (⟨true,.own L k 0 n⟩::rs) nx m2 K)(hx:cE env rs x=⟨true,.own l k i a⟩:=by exact rfl)(hy:cE env rs y=⟨true,d⟩:=by exact rfl)(hl:look m l=some (.buf k xs):=by exact rfl)(ha:i+a<=xs.length)(he:pk m k d ys)(hz:(xs.drop i).take a++ys=zs)(hn:a+ys.length=n)(hb:n<=1073741824:=by omega)(hL:nx+rs.length=L:=by exact r7)(hm:cH (cv m l) L (.buf k zs)=m2:=by simp only[cH,cv,Nat.reduceEqDiff,aT,aN,Nat.reduceAdd,reduceCtorEq];exact rfl):aC Y draw (⟨.app k x y,none⟩::r) env rs nx m K:=
 o8 rfl _ (by simp only[aB.dz,hx,hy,he.2,er,hl,hn];exact⟨trivial,trivial,he.1,trivial,⟨trivial,ha⟩,hb⟩) (by simp only[aB.val,hx,hy,he.2,hn,hL]) _ (by simp only[aB.cn,hx,hy,he.2,aX,hl,hz,hL];exact hm) (fun _=>h)
def fm {α:Type}{q:α->D}{xs:List α}{e:α}{k l ly:Nat}{x y:Src}{L:Nat}{m2:List (Nat×bz)}(h:aC Y draw r env (⟨true,.own L k 0 (xs++[e]).length⟩::rs) nx m2 K)(hx:cE env rs x=⟨true,.own l k 0 xs.length⟩:=by exact rfl)(hy:cE env rs y=⟨true,.own ly k 0 1⟩:=by exact rfl)(hl:look m l=some (.buf k (xs.map q)):=by exact rfl)(he:look m ly=some (.buf k [q e]):=by exact rfl)(hb:xs.length+1<=1073741824:=by omega)(hL:nx+rs.length=L:=by exact r7)(hm:cH (cv m l) L (.buf k ((xs++[e]).map q))=m2:=by simp only[cH,cv,Nat.reduceEqDiff,aT,aN,Nat.reduceAdd,reduceCtorEq];exact rfl):aC Y draw (⟨.app k x y,none⟩::r) env rs nx m K:=
 ui (zs:=(xs++[e]).map q) (hx:=hx) (hy:=hy) (hl:=hl) (ha:=bc) (he:=pk.all (es:=[q e]) he rfl) (hz:=by rw[bS,gL bc];simp) (hn:=bc) (hb:=ea) (hL:=hL) (hm:=hm) (h:=h)
def xB {α:Type}{q:α->D}{xs ys:List α}{k l:Nat}{x y:Src}{d:D}{L:Nat}{m2:List (Nat×bz)}(h:aC Y draw r env (⟨true,.own L k 0 (xs++ys).length⟩::rs) nx m2 K)(hx:cE env rs x=⟨true,.own l k 0 xs.length⟩:=by exact rfl)(hy:cE env rs y=⟨true,d⟩:=by exact rfl)(hl:look m l=some (.buf k (xs.map q)):=by exact rfl)(he:pk m k d (ys.map q))(hb:xs.length+ys.length<=1073741824:=by omega)(hL:nx+rs.length=L:=by exact r7)(hm:cH (cv m l) L (.buf k ((xs++ys).map q))=m2:=by simp only[cH,cv,Nat.reduceEqDiff,aT,aN,Nat.reduceAdd,reduceCtorEq];exact rfl):aC Y draw (⟨.app k x y,none⟩::r) env rs nx m K:=
 ui (zs:=(xs++ys).map q) (hx:=hx) (hy:=hy) (hl:=hl) (ha:=bc) (he:=he) (hz:=by rw[bS,gL bc];simp) (hn:=bc) (hb:=ea) (hL:=hL) (hm:=hm) (h:=h)
def G2 {x:Src}{l pos:Nat}{s:List UInt8}{m2:List (Nat×bz)}(c w:Nat)(h:aC Y draw r env (⟨true,.tup [.bool true,.int .i64 pos,.int .i32 c]⟩::rs) nx m2 K)(hx:cE env rs x=⟨true,.it l⟩:=by exact rfl)(hl:look m l=some (.iter s pos):=by exact rfl)(hp:pos<s.length)(hc:qm s pos=(c,w))(hm:cH m l (.iter s (pos+w))=m2:=by simp only[cH,cv,Nat.reduceEqDiff,aT,aN,Nat.reduceAdd,reduceCtorEq];exact rfl):aC Y draw (⟨.bo x,none⟩::r) env rs nx m K:=
 o8 rfl _ (by simp only[aB.dz,hx,hl];exact⟨trivial,trivial⟩) (by simp only[aB.val,hx,hl,hc,hp,decide_true,cond_true]) _ (by simp only[aB.cn,hx,hl,hc,hp,decide_true,cond_true];exact hm) (fun _=>h)
def G1 {x:Src}{l pos:Nat}{s:List UInt8}(h:aC Y draw r env (⟨true,.tup [.bool false]⟩::rs) nx m K)(hx:cE env rs x=⟨true,.it l⟩:=by exact rfl)(hl:look m l=some (.iter s pos):=by exact rfl)(hp:¬pos<s.length):aC Y draw (⟨.bo x,none⟩::r) env rs nx m K:=
 o8 rfl _ (by simp only[aB.dz,hx,hl];exact⟨trivial,trivial⟩) (by simp only[aB.val,hx,hl,hp,decide_false,cond_false]) _ (by simp only[aB.cn,hx,hl,hp,decide_false,cond_false]) (fun _=>h)
def aq {n:Nat}{args:List Src}{sh:List (List Sh)}{WW:List D}{v:D}(h:aC Y draw r env (⟨f,v⟩::rs) nx m K)(hg:GF rs g f:=by exact du)(hc:Y.pre n WW/\Y.val n WW=v)(ha:f=true->jc m sh (fP (cE env rs) args)=WW:=by exact fun _=>rfl)(ho:f=true->ry (cE env rs) args:=by exact q7)(hp:f=true->iD m sh (fP (cE env rs) args):=by exact q7)(hk:f=true->m4 (fP (cE env rs) args) v=true:=by exact fun _=>rfl):aC Y draw (⟨.call n args sh,g⟩::r) env rs nx m K:=
 fH rfl hg _ (fun hf=>by simp only[aB.dz,(cL _ _ _).1,ha hf,hc.2];exact⟨ho hf,(cL _ _ _).2.2 (hp hf),hc.1,hk hf⟩) (fun hf=>by simp only[aB.val,(cL _ _ _).1,ha hf,hc.2]) m rfl (fun _=>h)
def bQ {n:Nat}{args:List Src}{sh:List (List Sh)}{WW:List D}{v:D}(h:aC Y draw r env (⟨f,v⟩::rs) nx m K)(hg:GF rs g f:=by exact du)(hc:f=true->Y.pre n WW/\Y.val n WW=v)(ha:f=true->jc m sh (fP (cE env rs) args)=WW:=by exact fun _=>rfl)(ho:f=true->ry (cE env rs) args:=by exact q7)(hp:f=true->iD m sh (fP (cE env rs) args):=by exact q7)(hk:f=true->m4 (fP (cE env rs) args) v=true:=by exact fun _=>rfl):aC Y draw (⟨.call n args sh,g⟩::r) env rs nx m K:=
 fH rfl hg _ (fun hf=>by simp only[aB.dz,(cL _ _ _).1,ha hf,(hc hf).2];exact⟨ho hf,(cL _ _ _).2.2 (hp hf),(hc hf).1,hk hf⟩) (fun hf=>by simp only[aB.val,(cL _ _ _).1,ha hf,(hc hf).2]) m rfl (fun _=>h)
def sz {n:Nat}{x:Src}{fx:Bool}{caps:List D}{args:List Src}{sh:List (List Sh)}{WW:List D}{v:D}(h:aC Y draw r env (⟨f,v⟩::rs) nx m K)(hg:GF rs g f:=by exact du)(hx:cE env rs x=⟨fx,.fn n caps⟩:=by exact rfl)(kx:f=true->fx=true:=by exact cw)(hb:n<1000000:=by decide)(hc:f=true->Y.pre n WW/\Y.val n WW=v)(ha:f=true->jc m sh (fP (cE env rs) args++caps)=WW:=by exact fun _=>rfl)(ho:f=true->ry (cE env rs) args:=by exact q7)(hp:f=true->iD m sh (fP (cE env rs) args++caps):=by exact q7)(hk:f=true->m4 (fP (cE env rs) args++caps) v=true:=by exact fun _=>rfl):aC Y draw (⟨.callv x args sh,g⟩::r) env rs nx m K:=
 fH rfl hg _ (fun hf=>by simp only[aB.dz,hx,(cL _ _ _).1,ha hf,(hc hf).2];exact⟨kx hf,ho hf,hb,(cL _ _ _).2.2 (hp hf),(hc hf).1,hk hf⟩) (fun hf=>by simp only[aB.val,hx,(cL _ _ _).1,ha hf,(hc hf).2]) m rfl (fun _=>h)
def Ch {n:Nat}{caps:List Src}(cs:List D)(h:aC Y draw r env (⟨f,.fn n cs⟩::rs) nx m K)(hg:GF rs g f:=by exact du)(hc:f=true->fP (cE env rs) caps=cs:=by exact fun _=>rfl)(ho:f=true->ry (cE env rs) caps:=by exact q7):aC Y draw (⟨.mkf n caps,g⟩::r) env rs nx m K:=
 bT rfl hg _ (fun hf=>ho hf) (fun hf=>by simp only[aB.val,hc hf]) (fun _=>h)
def jj {n l k:Nat}{x:Src}{args:List Src}{sh:List (List Sh)}{d v e:D}{WW:List D}{m2:List (Nat×bz)}(h:aC Y draw r env (⟨true,v⟩::rs) nx m2 K)(hx:cE env rs x=⟨true,.ptr l k 0 0⟩:=by exact rfl)(hl:look m l=some (.buf k [d]):=by exact rfl)(hd:d.a8=true:=by exact rfl)(hc:Y.fp n d WW/\Y.fv n d WW=v/\Y.fs n d WW=e)(ha:jc [] sh (fP (cE env rs) args)=WW:=by exact rfl)(ho:ry (cE env rs) args:=by repeat' first|exact trivial|exact rfl|refine And.intro ?_ ?_|decide)(hn:aL (fP (cE env rs) args)=true:=by exact rfl)(hm:cH m l (.buf k [e])=m2:=by simp only[cH,cv,Nat.reduceEqDiff,aT,aN,Nat.reduceAdd,reduceCtorEq];exact rfl):aC Y draw (⟨.callF n x args sh,none⟩::r) env rs nx m K:=
 o8 rfl _ (by simp only[aB.dz,hx,er,aX,hl,gM,(cL _ _ _).1,ha];exact⟨trivial,ho,hn,trivial,trivial,⟨trivial,bc⟩,bc,hd,hc.1⟩) (by simp only[aB.val,hx,aX,hl,gM,(cL _ _ _).1,ha,hc.2.1]) _ (by simp only[aB.cn,hx,aX,hl,gM,(cL _ _ _).1,ha,hc.2.2];exact hm) (fun _=>h)
end
end
end Go.Abs
section
namespace Go.Abs
abbrev dk:=List UInt8
structure a7 where
 major:Int
 minor:Int
 patch:Int
 pre:dk
 build:dk
 deriving Inhabited,DecidableEq
def a7.D (v:a7):D:=.agg [.int .i64 v.major,.int .i64 v.minor,.int .i64 v.patch,.str v.pre,.str v.build]
structure r8 where
 name:dk
 v:a7
 shelf:dk
 sum:Int
 feats:List dk
 deriving Inhabited,DecidableEq
def r8.D (x:r8):D:=.agg [.str x.name,.int .i64 x.v.major,.int .i64 x.v.minor,.int .i64 x.v.patch,.str x.v.pre,.str x.v.build,.str x.shelf,.int .u64 x.sum,.sl 1 (x.feats.map D.str)]
structure Env where
 e0:dk
 e1:dk
 e2:dk
 deriving Inhabited,DecidableEq
def Env.D (e:Env):D:=.agg [.str e.e0,.str e.e1,.str e.e2]
structure x7 where
 env:Env
 lines:List r8
 deriving Inhabited,DecidableEq
def x7.D (l:x7):D:=.agg [.str l.env.e0,.str l.env.e1,.str l.env.e2,.sl 9 (l.lines.map r8.D)]
end Go.Abs
namespace Go.Abs
theorem xa (a b:List UInt8):Lz (.str a) (.str b)=decide (a=b):=lO a b
theorem sn (k k2:IntKind)(a b:Int):Lz (.int k a) (.int k2 b)=decide (a=b):=rfl
def a7.eq (a b:a7):gH (a7.D a).cells (a7.D b).cells=decide (a=b):=by
 obtain⟨a1,a2,a3,a4,a5⟩:=a;obtain⟨b1,b2,b3,b4,b5⟩:=b
 grind [a7.D,D.cells,gH,xa,sn]
def Env.eq (a b:Env):gH (Env.D a).cells (Env.D b).cells=decide (a=b):=by
 obtain⟨a1,a2,a3⟩:=a;obtain⟨b1,b2,b3⟩:=b
 grind [Env.D,D.cells,gH,xa,sn]
theorem a7.inj {a b:a7}(h:a7.D a=a7.D b):a=b:=by
 obtain⟨a1,a2,a3,a4,a5⟩:=a;obtain⟨b1,b2,b3,b4,b5⟩:=b
 grind [a7.D]
theorem Env.inj {a b:Env}(h:Env.D a=Env.D b):a=b:=by
 obtain⟨a1,a2,a3⟩:=a;obtain⟨b1,b2,b3⟩:=b
 grind [Env.D]
theorem map_inj {α:Type}{q:α->D}(hq:∀a b,q a=q b->a=b):∀{xs ys:List α},xs.map q=ys.map q->xs=ys
 |[],[],_=>rfl
 |[],_::_,h=>by simp at h
 |_::_,[],h=>by simp at h
 |a::r,b::s,h=>by
  simp only[List.map_cons,q8]at h;rw[hq a b h.1,map_inj hq h.2]
theorem str_inj (a b:List UInt8)(h:D.str a=D.str b):a=b:=by simpa using h
theorem r8.inj {a b:r8}(h:r8.D a=r8.D b):a=b:=by
 obtain⟨a1,⟨v1,v2,v3,v4,v5⟩,a2,a3,a4⟩:=a;obtain⟨b1,⟨w1,w2,w3,w4,w5⟩,b2,b3,b4⟩:=b
 grind [r8.D,map_inj,str_inj]
theorem x7.inj {a b:x7}(h:x7.D a=x7.D b):a=b:=by
 obtain⟨⟨a1,a2,a3⟩,a4⟩:=a;obtain⟨⟨b1,b2,b3⟩,b4⟩:=b
 grind [x7.D,map_inj,r8.inj]
end Go.Abs
end
section
namespace Go.Abs
def allI (p:Nat->Bool):Nat->Nat->Bool
 |_,0=>true
 |i,k+1=>p i&&allI p (i+1) k
def dh (p:Nat->Bool)(i n:Nat):Bool:=allI p i (n-i)
def bB {p:Nat->Bool}{i n:Nat}(h:i<n):dh p i n=(p i&&dh p (i+1) n):=by
 unfold dh;rw[show n-i=(n-(i+1))+1 by omega];rfl
def dy {p:Nat->Bool}{i n:Nat}(h:n<=i):dh p i n=true:=by
 unfold dh;rw[show n-i=0 by omega];rfl
theorem ym {p:Nat->Bool}:∀{k i:Nat},allI p i k=true↔∀j,i<=j->j<i+k->p j=true
 |0,i=>by simp[allI];intro j h1 h2;omega
 |k+1,i=>by
  simp only[allI,bp,ym (k:=k)]
  grind
def dr {p:Nat->Bool}{i n:Nat}:dh p i n=true↔∀j,i<=j->j<n->p j=true:=by
 grind [dh,ym]
end Go.Abs
namespace Go.Abs
def dW {a a' b b':D}(h1:a=a')(h2:b=b'):D.tup [a,b]=D.tup [a',b']:=by rw[h1,h2]
end Go.Abs
namespace Go.Abs
end Go.Abs
namespace Go.Abs
def yy (s:dk)(pos:Nat)(h:pos<s.length):∃c w,qm s pos=(c,w)/\1<=w/\((w=1/\(c:Int)=at8 s pos/\c<128)\/(128<=c/\128<=at8 s pos)):=by
 refine⟨(qm s pos).1,(qm s pos).2,rfl, ?_⟩;have e:qm s pos=Lib.decodeN (s.length-pos) (s.getD pos 0).toNat (s.getD (pos+1) 0).toNat (s.getD (pos+2) 0).toNat (s.getD (pos+3) 0).toNat:=Lib.decode_N ⟨⟨s⟩⟩ pos;rw[e];unfold at8;generalize (s.getD pos 0).toNat=b0;generalize (s.getD (pos+1) 0).toNat=b1;generalize (s.getD (pos+2) 0).toNat=b2;generalize (s.getD (pos+3) 0).toNat=b3;generalize s.length-pos=n;by_cases hb:b0<128
 .unfold Lib.decodeN;rw[aw hb];exact⟨aJ _,.inl ⟨rfl,rfl,hb⟩⟩
 .unfold Lib.decodeN
  grind
end Go.Abs
namespace Go.Abs
def Cx {α:Type}{q:α->D}{xs:List α}{m:List (Nat×bz)}{l:Nat}(hq:∀x,xV m [.a] (q x)=q x)(hl:look m l=some (.buf 1 (xs.map q))):xV m [.sl 1 [.a]] (.own l 1 0 xs.length)=.sl 1 (xs.map q):=by
 show D.sl 1 _=_;simp only[aX,hl,bS,aD,List.map_map];congr 1;apply List.map_congr_left;intro x _;have:=hq x;simp only[Function.comp];generalize q x=d at this;cases d<;>exact this
def zS {α:Type}{q:α->D}{xs:List α}{m:List (Nat×bz)}{l:Nat}(hq:∀x,H5 m [.a] (q x))(hl:look m l=some (.buf 1 (xs.map q))):H5 m [.sl 1 [.a]] (.own l 1 0 xs.length):=by
 grind [H5,Kx,JV,er,aX,aD]
end Go.Abs
end
namespace Go.Abs
def AO (c:Int):Bool:=decide (97<=c)&&decide (c<=122)
def cV (c:Int):Bool:=decide (48<=c)&&decide (c<=57)
def dX (s:dk):Nat:=s.foldl (fun n b=>n*10+(b.toNat-48)) 0
def jI (s:dk):Bool:=decide (1<=s.length)&&decide (s.length<=9)&& !(decide (1<s.length)&&decide (at8 s 0=48))&&dh (fun i=>cV (at8 s i)) 0 s.length&&decide (dX s<=9999)
def rU (s:dk):Int:=if jI s=true then(dX s:Int)else 0
def p7 (s:dk)(i:Nat)(h:i<s.length):s.take (i+1)=s.take i++[s.getD i 0]:=by
 rw[List.take_succ];simp[h]
def rv (s:dk)(i:Nat)(h:i<s.length):dX (s.take (i+1))=dX (s.take i)*10+((at8 s i).toNat-48):=by
 rw[p7 s i h];simp[dX,List.foldl_append,at8]
def Em (s:dk):dX s+23<=23*10^s.length:=by
 have:∀(s:dk) (n k:Nat),n+23<=23*10^k->s.foldl (fun n b=>n*10+(b.toNat-48)) n+23<=23*10^(k+s.length):=by
  intro s;induction s with
  |nil=>intro n k h;simpa using h
  |cons b r ih=>
   intro n k h;have hb:=b.toNat_lt;have:=ih (n*10+(b.toNat-48)) (k+1) (by rw[Nat.pow_succ];omega);simp only[List.foldl_cons,bR];rw[show k+(r.length+1)=k+1+r.length by omega];exact this
 have:=this s 0 0 bc;simpa[dX]using this
def pR (s:dk)(i:Nat)(h:i<=9):dX (s.take i)<=23000000000:=by
 have h1:=Em (s.take i);have h2:(s.take i).length<=9:=ea;have h3:10^(s.take i).length<=10^9:=Nat.pow_le_pow_right ae h2;omega
def yX (s:dk):∀n:Nat,s.foldl (fun n b=>n*10+(b.toNat-48)) n=n*10^s.length+dX s:=by
 unfold dX;induction s with
 |nil=>intro n;simp
 |cons b r ih=>
  intro n;simp only[List.foldl_cons,bR];rw[ih,ih (0*10+(b.toNat-48)),Nat.pow_succ];simp only[Nat.zero_mul,aW,Nat.add_mul];rw[Nat.mul_assoc n 10,Nat.mul_comm 10];omega
def ru (b:UInt8)(r:dk):dX (b::r)=(b.toNat-48)*10^r.length+dX r:=by
 have:=yX r (0*10+(b.toNat-48));simp only[dX,List.foldl_cons]at this⊢;rw[this];simp
def rk {b:UInt8}{r:dk}(h:dh (fun i=>cV (at8 (b::r) i)) 0 (b::r).length=true):cV b.toNat=true/\dh (fun i=>cV (at8 r i)) 0 r.length=true:=by
 rw[dr]at h;refine⟨by simpa[at8]using h 0 ae bc, ?_⟩;rw[dr];intro j _ hj;simpa[at8]using h (j+1) ae ea
def vY:∀(s:dk),dh (fun i=>cV (at8 s i)) 0 s.length=true->dX s<10^s.length
 |[],_=>by simp[dX]
 |b::r,h=>by
  obtain⟨h1,h2⟩:=rk h;have:=vY r h2;rw[ru,bR,Nat.pow_succ];simp only[cV,bp,b9]at h1;have h3:b.toNat-48<=9:=ae;have:=gY (10^r.length) h3;omega
def El {b:UInt8}{r:dk}(h:49<=b.toNat):10^r.length<=dX (b::r):=by
 rw[ru];have:=gY (10^r.length) (show 1<=b.toNat-48 by omega);omega
def Gn (s:dk):jI s=(decide (1<=s.length)&&decide (s.length<=4)&& !(decide (1<s.length)&&decide (at8 s 0=48))&&dh (fun i=>cV (at8 s i)) 0 s.length):=by
 unfold jI;cases hd:dh (fun i=>cV (at8 s i)) 0 s.length with
 |false=>simp
 |true=>
  have hlt:=vY s hd;by_cases h4:s.length<=4
  .have:10^s.length<=10^4:=Nat.pow_le_pow_right ae h4;rw[cj h4,cj (by omega:s.length<=9),cj (by omega:dX s<=9999)];simp
  .rw[cZ h4]
   match s,hd,h4 with
   |b::r,hd,h4=>
    by_cases h0:at8 (b::r) 0=48
    .rw[cj h0,cj (by omega:1<(b::r).length)];simp
    .have h1:=(rk hd).1;simp only[cV,bp,b9]at h1;have h2:49<=b.toNat:=by
      simp[at8]at h0;omega
     have h3:=El (r:=r) h2;have:10^4<=10^r.length:=Nat.pow_le_pow_right ae (by simp at h4;omega);rw[cZ (by omega:¬dX (b::r)<=9999)];simp
def gX (b:Int):dk->dk->List dk
 |[],cur=>[cur]
 |c::r,cur=>if(c.toNat:Int)=b then cur::gX b r []else gX b r (cur++[c])
def bm (s:dk)(b:Int):List dk:=gX b s []
def BT (s:dk)(i:Nat)(h:i<s.length):s.drop i=s.getD i 0::s.drop (i+1):=by
 rw[kl h];simp[h]
def wx {s:dk}{b:Int}{i fr:Nat}(h:i<s.length)(he:at8 s i=b):gX b (s.drop i) ((s.take i).drop fr)=((s.take i).drop fr)::gX b (s.drop (i+1)) ((s.take (i+1)).drop (i+1)):=by
 rw[BT s i h];have h2:(s.take (i+1)).drop (i+1)=[]:=bc;rw[h2];simp only[gX];rw[aw (by simpa[at8]using he)]
def wy {s:dk}{b:Int}{i fr:Nat}(h:i<s.length)(hf:fr<=i)(he:¬at8 s i=b):gX b (s.drop i) ((s.take i).drop fr)=gX b (s.drop (i+1)) ((s.take (i+1)).drop fr):=by
 rw[BT s i h,p7 s i h,List.drop_append_of_le_length ea];simp only[gX];rw[ai (by simpa[at8]using he)]
def uv {s:dk}{b:Int}{i fr:Nat}(h:s.length<=i):gX b (s.drop i) ((s.take i).drop fr)=[s.drop fr]:=by
 rw[mr h,gL h];rfl
def pd (b:Int):∀(s cur:dk),(gX b s cur).length<=s.length+1
 |[],cur=>by simp[gX]
 |c::r,cur=>by
  simp only[gX];split
  .have:=pd b r [];simp;omega
  .have:=pd b r (cur++[c]);simp;omega
def pc (s:dk)(b:Int):(bm s b).length<=s.length+1:=pd b s []
def j0 (c:Int):Bool:=AO c ||cV c ||decide (c=45)
def od (t:dk):Bool:=decide (1<=t.length)&&decide (t.length<=8)&&dh (fun i=>j0 (at8 t i)) 0 t.length
def cB (t:dk):Bool:=dh (fun i=>cV (at8 t i)) 0 t.length&&decide (0<t.length)
def fJ (p:Bool)(t:dk):Bool:=od t&& !(p&&cB t&& !jI t)
def lG (s:dk)(p:Bool):Bool:=decide ((bm s 46).length<=4)&&dh (fun i=>fJ p (bm s 46)[i]!) 0 (bm s 46).length
def rB (s:dk)(p:Bool):Bool:=decide (s=[]) ||lG s p
def Aw (n:Int):Bool:=decide (0<=n)&&decide (n<=9999)
def jC (v:a7):Bool:=Aw v.major&&Aw v.minor&&Aw v.patch&&rB v.pre true&&rB v.build false
def a7.sm (v:a7):Prop:=v.pre.length<=1048576/\v.build.length<=1048576
def Env.at (e:Env):Nat->dk
 |0=>e.e0
 |1=>e.e1
 |_=>e.e2
def Env.ld (e:Env){i:Nat}(h:i<3):oc (Env.D e) 3 1 (0+i*1) false=.str (e.at i):=by
 match i,h with
 |0,_=>rfl
 |1,_=>rfl
 |2,_=>rfl
def x7.ld (l:x7){i:Nat}(h:i<3):oc (x7.D l) 4 1 (0+i*1) false=.str (l.env.at i):=by
 match i,h with
 |0,_=>rfl
 |1,_=>rfl
 |2,_=>rfl
def Env.cut (e:Env){i:Nat}(h:i<3):Abs.cut [.str e.e0,.str e.e1,.str e.e2] (i*1) 1 false=.str (e.at i):=by
 match i,h with
 |0,_=>rfl
 |1,_=>rfl
 |2,_=>rfl
def r8.sm (x:r8):Prop:=x.v.sm/\x.name.length<=1048576/\x.shelf.length<=1048576/\x.feats.length<=1048576/\∀t∈x.feats,t.length<=1048576
def x7.sm (l:x7):Prop:=l.lines.length<=1048576/\(∀x∈l.lines,x.sm)/\∀i,(l.env.at i).length<=1048576
theorem aj {α:Type} [Inhabited α]{l:List α}{i:Nat}(h:i<l.length):l[i]! ∈l:=by
 simp[h]
structure Kp where
 name:dk
 v:a7
 deriving Inhabited,DecidableEq
def Kp.D (x:Kp):D:=.agg [.str x.name,.int .i64 x.v.major,.int .i64 x.v.minor,.int .i64 x.v.patch,.str x.v.pre,.str x.v.build]
def Hu {α:Type} [Inhabited α] [DecidableEq α]{a b:List α}(h:a.length=b.length):decide (a=b)=dh (fun i=>decide (a[i]! =b[i]!)) 0 a.length:=by
 rw[Bool.eq_iff_iff,b9,dr];constructor
 .rintro rfl j _ _;simp
 .intro hj;apply List.ext_getElem h
  grind
def r8.same {a b:r8}(e1:a.name=b.name)(e2:a.v=b.v)(e3:a.shelf=b.shelf)(e4:a.sum=b.sum)(e5:a.feats.length=b.feats.length):decide (a=b)=dh (fun i=>decide (a.feats[i]! =b.feats[i]!)) 0 a.feats.length:=by
 rw[<-Hu e5];obtain⟨a1,a2,a3,a4,a5⟩:=a;obtain⟨b1,b2,b3,b4,b5⟩:=b
 grind
def Env.sm (e:Env):Prop:=∀i,(e.at i).length<=1048576
end Go.Abs
section
namespace Go.Abs
def fG (v n:Int):Int:=if n<1 then 0 else if v.tmod n<0 then v.tmod n+n else v.tmod n
def uB (v n:Int)(h:1<=n):-n<v.tmod n/\v.tmod n<n:=⟨Int.lt_tmod_of_pos v ae,Int.tmod_lt_of_pos v ae⟩
def iC (v n:Int)(h:1<=n):0<=fG v n/\fG v n<n:=by
 have:=uB v n h
 grind [fG]
def x8 (l:List Int)(i:Int):Int:=if i<0\/(l.length:Int)<=i then i.tmod 3 else l[i.toNat]!
structure Gs where
 l:List Int
 i:Int
 deriving Inhabited
def Gs.D (g:Gs):D:=.agg [.sl 1 (g.l.map (D.int .i64)),.int .i64 g.i]
def Gs.val (g:Gs)(n:Int):Int:=fG (x8 g.l g.i) n
def Gs.bo (g:Gs):Gs:=⟨g.l,g.i+1⟩
def cutL (s:dk)(b:UInt8):dk×dk×Bool:=match s.findIdx? (fun c=>c==b)with
 |some k=>(s.take k,s.drop (k+1),true)
 |none=>(s,[],false)
structure Ka where
 s:dk
 at':Nat
 n:Nat
def Ka.D (r:Ka):D:=.agg [.str r.s,.int .i64 (r.at':Nat),.int .i64 (r.n:Nat)]
def Ka.ln (r:Ka):dk×dk×Bool:=cutL (r.s.drop r.at') 10
def Ka.bo (r:Ka):Ka:=⟨r.s,if r.ln.2.2=true then r.at'+(r.ln.1.length+1)else r.at',r.n+1⟩
end Go.Abs
namespace Go.Abs
end Go.Abs
namespace Go.Abs
end Go.Abs
namespace Go.Abs
end Go.Abs
namespace Go.Abs
end Go.Abs
namespace Go.Abs
variable {e:Env} {f:Nat} {r:Ka} {ls:List r8}
end Go.Abs
namespace Go.Abs
end Go.Abs
end
namespace Go.Abs
section
section
variable {Y:Ctx} {draw:Bool} {r:List GI} {env rs:List bH} {nx:Nat} {m:List (Nat×bz)} {K:List bH->St->Prop} {g:Option (Nat×Bool)} {f:Bool}
def GS {n l k j:Nat}{w:Bool}{x:Src}{args:List Src}{sh:List (List Sh)}{d v e:D}{WW:List D}{m2:List (Nat×bz)}(h:aC Y false r env (⟨true,v⟩::rs) nx m2 K)(hg:GF rs (some (j,w)) true:=by exact⟨_,_,rfl,rfl⟩)(hx:cE env rs x=⟨true,.ptr l k 0 0⟩:=by exact rfl)(hl:look m l=some (.buf k [d]):=by exact rfl)(hd:d.a8=true:=by exact rfl)(hc:Y.fp n d WW/\Y.fv n d WW=v/\Y.fs n d WW=e)(ha:jc [] sh (fP (cE env rs) args)=WW:=by exact rfl)(ho:ry (cE env rs) args:=by repeat' first|exact trivial|exact rfl|refine And.intro ?_ ?_|decide)(hn:aL (fP (cE env rs) args)=true:=by exact rfl)(hm:cH m l (.buf k [e])=m2:=by simp only[cH,cv,Nat.reduceEqDiff,aT,aN,Nat.reduceAdd,reduceCtorEq];exact rfl):aC Y false (⟨.callF n x args sh,some (j,w)⟩::r) env rs nx m K:=
 GV rfl rfl hg (fun _=>⟨v,by simp only[aB.dz,hx,er,aX,hl,gM,(cL _ _ _).1,ha];exact⟨trivial,ho,hn,trivial,trivial,⟨trivial,bc⟩,bc,hd,hc.1⟩,by simp only[aB.val,hx,aX,hl,gM,(cL _ _ _).1,ha,hc.2.1],m2,by simp only[aB.cn,hx,aX,hl,gM,(cL _ _ _).1,ha,hc.2.2];exact hm,h⟩) (fun h=>by cases h)
def L6 {i:aB}{j:Nat}{w:Bool}(h:aC Y false r env (⟨false,.any⟩::rs) nx m K)(hM:i.ch=false:=by exact rfl)(hC:i.calm=false:=by exact rfl)(hg:GF rs (some (j,w)) false:=by exact⟨_,_,rfl,rfl⟩):aC Y false (⟨i,some (j,w)⟩::r) env rs nx m K:=
 GV hM hC hg (fun h=>by cases h) (fun _=>h)
def Pq {i:aB}{j:Nat}{w:Bool}(d:D)(h:aC Y draw r env (⟨false,d⟩::rs) nx m K)(hC:i.pure=true:=by exact rfl)(hg:GF rs (some (j,w)) false:=by exact⟨_,_,rfl,rfl⟩):aC Y draw (⟨i,some (j,w)⟩::r) env rs nx m K:=
 bT hC hg d (fun h=>by cases h) (fun h=>by cases h) (fun _=>h)
def L5 {k n:Nat}{z:D}{ps:List (Nat×Src)}(es:List D)(h:aC Y draw r env (⟨f,.sl k es⟩::rs) nx m K)(hg:GF rs g f:=by exact du)(he:jq (cE env rs) (List.replicate n z) ps=es:=by exact rfl)(ho:f=true->na (cE env rs) k n ps:=by exact q7)(hz:z.cells.length=k:=by exact rfl)(hn:f=true->aL es=true:=by exact fun _=>rfl):aC Y draw (⟨.bslI k z n ps,g⟩::r) env rs nx m K:=
 bT rfl hg _ (fun hf=>by simp only[aB.dz,he];exact⟨hz,ho hf,hn hf⟩) (fun hf=>by simp only[aB.val,he]) (fun _=>h)
def eH {n:Nat}{args:List Src}{WW:List D}{v:D}{nx':Nat}{m':List (Nat×bz)}(h:aC Y draw r env (⟨true,v⟩::rs) nx' m' K)
  (hc:∀K':D->St->Prop,K' v ⟨nx'+rs.length,m'⟩->Y.tr n WW ⟨nx+rs.length,m⟩ K') (hn:nx<=nx') (ha:fP (cE env rs) args=WW:=by exact rfl)
  (ho:ry (cE env rs) args:=by repeat' first|exact trivial|exact rfl|refine And.intro ?_ ?_):aC Y draw (⟨.callM n args,none⟩::r) env rs nx m K:=by
 unfold aC;show True/\(true=true->ry (Src.ev env rs.reverse) args/\Y.tr n (fP (Src.ev env rs.reverse) args) {nx:=nx+rs.reverse.length,m:=m} _)/\(true=false->_)
 grind [kD,aC]
end
end
end Go.Abs
section
namespace Go.Abs
def cC:List a7:=[⟨1,0,0,[],[]⟩,⟨1,2,0,[],[]⟩,⟨2,0,0,[97,46,49],[]⟩,⟨2,0,0,[],[]⟩]
def nlS:List dk->D
 |[]=>.aA
 |a::r=>.sl 1 ((a::r).map D.str)
def r8.N (x:r8):Go.Abs.D:=.agg [.str x.name,.int .i64 x.v.major,.int .i64 x.v.minor,.int .i64 x.v.patch,.str x.v.pre,.str x.v.build,.str x.shelf,.int .u64 x.sum,nlS x.feats]
end Go.Abs
namespace Go.Abs
def r8.F (name:dk)(v:a7)(shelf:dk)(sum:Int)(fs:Go.Abs.D):Go.Abs.D:=.agg [.str name,.int .i64 v.major,.int .i64 v.minor,.int .i64 v.patch,.str v.pre,.str v.build,.str shelf,.int .u64 sum,fs]
mutual
theorem oI (l k:Nat)(es:List D):∀d:D,d.a8=true->eO l k es d=d
 | .agg a,h=>by simp only[eO,iv l k es a (by simpa[D.a8]using h)]
 | .tup a,h=>by simp only[eO,iv l k es a (by simpa[D.a8]using h)]
 | .fn n a,h=>by simp only[eO,iv l k es a (by simpa[D.a8]using h)]
 | .own ..,h=>by simp[D.a8]at h
 | .ptr ..,h=>by simp[D.a8]at h
 | .it ..,h=>by simp[D.a8]at h
 | .any,_| .bool _,_| .int ..,_| .str _,_| .aA,_| .sl ..,_| .ref ..,_| .nilp,_| .nilf,_=>rfl
theorem iv (l k:Nat)(es:List D):∀ds:List D,aL ds=true->fA l k es ds=ds
 |[],_=>rfl
 |d::r,h=>by
  simp only[aL,bp]at h;simp only[fA,oI l k es d h.1,iv l k es r h.2]
end
end Go.Abs
namespace Go.Abs
end Go.Abs
namespace Go.Abs
end Go.Abs
namespace Go.Abs
end Go.Abs
namespace Go.Abs
end Go.Abs
namespace Go.Abs
end Go.Abs
end
section
namespace Go.Abs
end Go.Abs
namespace Go.Abs
def Kp.eq (a b:Kp):gH (Kp.D a).cells (Kp.D b).cells=decide (a=b):=by
 obtain⟨n1,⟨a1,a2,a3,a4,a5⟩⟩:=a;obtain⟨n2,⟨b1,b2,b3,b4,b5⟩⟩:=b
 grind [Kp.D,D.cells,gH,xa,sn]
structure r8.ok (n:Nat)(x:r8):Prop where
 pre:x.v.pre.length<=3
 build:x.v.build.length<=2
 name:x.name.length<=16
 shelf:x.shelf.length<=16
 nf:x.feats.length<=n
 ft:∀t∈x.feats,t.length<=16
 sum:0<=x.sum/\x.sum<18446744073709551616
structure x7.ok (n:Nat)(l:x7):Prop where
 len:l.lines.length<=4
 lines:∀x∈l.lines,x.ok n
 env:∀i,(l.env.at i).length<=16
theorem x7.ok.sm {n:Nat}{l:x7}(h:l.ok n)(hn:n<=1000):l.sm:=by
 refine⟨by have:=h.len;omega,fun x hx=>?_,fun i=>by have:=h.env i;omega⟩;have k:=h.lines x hx;have k1:=k.pre;have k2:=k.build;have k3:=k.name;have k4:=k.shelf;have k5:=k.nf;exact⟨⟨ae,ae⟩,ae,ae,ae,fun t ht=>by have:=k.ft t ht;omega⟩
def r8.ok.mono {n m:Nat}{x:r8}(h:x.ok n)(hm:n<=m):x.ok m:=⟨h.pre,h.build,h.name,h.shelf,dQ h.nf hm,h.ft,h.sum⟩
end Go.Abs
end
namespace Go.Abs
section
def lk {α:Type}:List (Nat×α)->Nat->α->α
 |[],_,d=>d
 |(a,b)::r,n,d=>bif Nat.beq a n then b else lk r n d
structure Row where
 key:Nat
 pre:List D->Prop
 val:List D->D
structure OQ where
 pre:D->List D->Prop
 val:D->List D->D
 new:D->List D->D
def Row.no:Row:=⟨0,fun _=>False,fun _=>.any⟩
def OQ.no:OQ:=⟨fun _ _=>False,fun _ _=>.any,fun _ _=>.any⟩
section
variable [dc] {P:Program} {ν:List (Nat×Nat)} {cn:List Nat} {Y:Ctx}
end
end
section
variable [dc]
section
variable {P:Program} {ν:List (Nat×Nat)} {cn:List Nat} {Y:Ctx}
def RD.re {x x':X}{σ:List (Nat×Nat)}(hw:x'.w=x.w)(hI:x'.I=x.I)(hβ:∀l l',eP 0 σ l=some l'->x'.β l'=x.β l){v:Value}{d d':D}(hv:RD ν x v d)(hd:Ix 0 σ d d'):RD ν x' v d':=by
 rcases hd with⟨rfl,hn⟩|hd|hd
 .exact hv.a8 hn (fun _ h=>by rw[hI];exact h) (fun _ _=>by rw[hw])
 .grind [RD.rn]
 grind [RD.nl]
def kH.re {x x':X}{σ:List (Nat×Nat)}(hw:x'.w=x.w)(hI:x'.I=x.I)(hβ:∀l l',eP 0 σ l=some l'->x'.β l'=x.β l){b base tot:Nat}{b0 blk:bz}(o2:kH ν x b base tot b0)(q3:lK 0 σ b0 blk):kH ν x' b base tot blk:=by
 cases b0 with
 |iter s p=>
  cases blk with
  |iter s' p'=>simp only[lK]at q3;obtain⟨rfl,rfl⟩:=q3;simp only[kH,hw]at o2⊢;exact o2
  |_=>simp[lK]at q3
 |row s=>
  cases blk with
  |row s'=>simp only[lK]at q3;subst q3;simp only[kH,hw]at o2⊢;exact o2
  |_=>simp[lK]at q3
 |bld o n u=>
  cases blk with
  |bld o' n' u'=>
   simp only[lK]at q3;obtain⟨q3,rfl,rfl⟩:=q3;obtain⟨p1,v,p2,p3⟩:=o2;refine⟨p1,v,by rw[hw];exact p2, ?_⟩;cases o with
   |none=>simp only at q3;subst q3;exact p3
   |some l0=>
    obtain⟨l1,q4,rfl⟩:=q3;obtain⟨g,t,p4,p5,p6⟩:=p3;exact⟨g,t,p4,p5,by rw[hβ l0 l1 q4];exact p6⟩
  |_=>simp[lK]at q3
 |buf k es=>
  cases blk with
  |iter s' p'=>simp[lK]at q3
  |row s'=>simp[lK]at q3
  |bld o' n' u'=>simp[lK]at q3
  |buf k' es'=>
   simp only[lK]at q3;obtain⟨rfl,q3⟩:=q3;obtain⟨p1,p2,cc,T,fr,p3,p4,p5,p6⟩:=o2;rw[<-hw]at p3;rcases q3 with⟨rfl,hn⟩|q3|q3
   .exact⟨p1,p2,cc,T,fr,p3,p4,p5,fun i hi=>⟨(p6 i hi).1,fun j hj=>⟨((p6 i hi).2 j hj).1,RD.re hw hI hβ ((p6 i hi).2 j hj).2 (.inl ⟨rfl,iY (cq hn i) j⟩)⟩⟩⟩
   .obtain⟨r1,r2⟩:=fW q3;refine⟨p1,ae,cc,T,fr,p3,p4,p5,fun i hi=>?_⟩;have hi':i<es.length:=ae;obtain⟨s1,s2⟩:=wm (r2 i hi');exact⟨s1.trans (p6 i hi').1,fun j hj=>⟨((p6 i hi').2 j hj).1,RD.re hw hI hβ ((p6 i hi').2 j hj).2 (.inr (.inl (s2 j (by rw[(p6 i hi').1];exact hj))))⟩⟩
   .obtain⟨r1,r2⟩:=mT q3;refine⟨p1,ae,cc,T,fr,p3,p4,p5,fun i hi=>?_⟩;have hi':i<es.length:=ae;obtain⟨s1,s2⟩:=vC (r2 i hi');exact⟨s1.trans (p6 i hi').1,fun j hj=>⟨((p6 i hi').2 j hj).1,RD.re hw hI hβ ((p6 i hi').2 j hj).2 (.inr (.inr (s2 j (by rw[(p6 i hi').1];exact hj))))⟩⟩
def Ck {lo c:Nat}{σ:List (Nat×Nat)}{l l':Nat}(h0:ez 0 c σ=true)(h:eP 0 σ l=some l'):l'<c/\(l,l')∈σ:=by
 obtain⟨h1,h2⟩:=pU h0 h
 grind
def pQ {c:Nat}:∀{σ:List (Nat×Nat)}{a b:Nat},ez 0 c σ=true->(a,b)∈σ->eP 0 σ a=some b
 |[],a,b,_,h=>by cases h
 |(a0,b0)::r,a,b,h0,h=>by
  unfold eP;simp only[ez,bp,List.all_eq_true,ey]at h0;obtain⟨_,_,p4,p5⟩:=h0;rcases dq.1 h with h|h
  .simp only[dP]at h;obtain⟨rfl,rfl⟩:=h;simp
  .have:=(p4 _ h).1;simp only at this;have hne:Nat.beq a0 a=false:=by
    cases hb:Nat.beq a0 a with
    |false=>rfl
    |true=>obtain rfl:=Nat.eq_of_beq_eq_true hb;simp at this
   rw[hne];exact pQ p5 h
structure Fr (σi σo:List (Nat×Nat))(q q1:Nat)(m0 m1:List (Nat×bz))(st st':St):Prop where
 oki:ez 0 q σi=true
 oko:ez 0 st'.nx σo=true
 nx:st.nx<=st'.nx
 lt:∀l i,(l,i)∈σi->look st.m l≠none
 io:∀i l,(i,l)∈σo->(l,i)∈σi\/st.nx<=l
 m0:∀i b,look m0 i=some b->∃l b',(l,i)∈σi/\look st.m l=some b'/\lK 0 σi b' b
 m1:∀l b,look st'.m l=some b->(∃i b1,(i,l)∈σo/\look m1 i=some b1/\lK 0 σo b1 b)\/(ju σo l=none/\(∀i,(l,i)∉σi)/\look st.m l=some b)
def IQ {fid:Nat}{fn:Func}{af:aE}{K:D->St->Prop}(hΓ:Ok P ν cn Y)(hmix:P.follows .mixedOrders=true)(hf:P.funcs[fid]? =some fn)(hc:compile P ν cn fn=some af)
  {x:X} {args:Array Value} {ds cs:List D} {st:St} {σi:List (Nat×Nat)} {q:Nat} {m0:List (Nat×bz)} (hl:args.size=ds.length) (hargs:∀i,i<ds.length->RD ν x (args.getD i undef) (ds.getD i .any))
  (hs:ef ν x (look st.m)) (hfr:ee st x) (hlen:cs.length=ds.length) (hds:∀i,i<ds.length->Ix 0 σi (ds.getD i .any) (cs.getD i .any)) (hnp:cs.length=af.np)
  (oki:ez 0 q σi=true) (hlt:∀l i,(l,i)∈σi->look st.m l≠none) (hm0:∀i b,look m0 i=some b->∃l b',(l,i)∈σi/\look st.m l=some b'/\lK 0 σi b' b)
  (hw:bX (Y.at q) af.body (fun e env st1=>e.home/\nB st1.m env af.res/\∃(σo:List (Nat×Nat)) (q1:Nat) (m1:List (Nat×bz)) (st':St) (vd':D),Fr σi σo q q1 m0 m1 st st'/\Ix 0 σo (jd af env st1) vd'/\K vd' st'/\∀i,look st1.m i=look m1 i) (fh af cs) ⟨q,m0⟩):
  Calls P fid args x.w fun
   | .returned v,w'=>∃x' d st',K d st'/\x'.w=w'/\Step x x'/\RD ν x' v d/\ef ν x' (look st'.m)/\ee st' x'
   |_,_=>False:=by
 obtain⟨body,c1,c2,c3,c4,c5,c6⟩:=gu hc
 let x0:X:=⟨x.w,x.I,fun i=>(ju σi i).bind x.β⟩
 have hx0:∀l i,(l,i)∈σi->x0.β i=x.β l:=fun l i h=>by simp only[x0,sv oki h,Option.bind_some]
 have hβ0:∀l i,eP 0 σi l=some i->x0.β i=x.β l:=fun l i h=>hx0 l i (Ck (lo:=0) oki h).2
 have hx0':∀i p,x0.β i=some p->∃l,(l,i)∈σi/\x.β l=some p/\i<q:=by
  intro i p h;obtain⟨l,h1,h2⟩:=Option.bind_eq_some_iff.1 (show(ju σi i).bind x.β=some p from h);exact⟨l,jv h1,h2,nK oki (jv h1)⟩
 have hs0:ef ν x0 (look m0):=by
  refine⟨fun i blk b base tot e1 e2=>?_,fun i j b base tot base' tot' e1 e2 e3 e4=>?_,hs.imm,fun i b base tot e=>?_,dc.le x _ (fun _ h=>h) (fun _ _=>rfl) hs.gd⟩
  .obtain⟨l,b',h1,h2,h3⟩:=hm0 i blk e1;rw[hx0 l i h1]at e2;obtain⟨o1,o2⟩:=hs.own l b' b base tot h2 e2;exact⟨o1,kH.re (x:=x) (x':=x0) rfl rfl hβ0 o2 h3⟩
  .obtain⟨l,h1,h2,_⟩:=hx0' i _ e3;obtain⟨l',h1',h2',_⟩:=hx0' j _ e4;have:=hs.inj l l' b base tot base' tot' (hlt _ _ h1) (hlt _ _ h1') h2 h2';subst this;have:=pQ oki h1;rw[pQ oki h1']at this;exact(ba this).symm
  .obtain⟨l,_,h2,_⟩:=hx0' i _ e;exact hs.dM l b base tot h2
 have hf0:ee ⟨q,m0⟩ x0:=by
  refine⟨fun i hi=>?_,fun i hi=>?_⟩
  .cases h:x0.β i with
   |none=>rfl
   |some p=>obtain⟨_,_,_,h4⟩:=hx0' i p h;simp only at hi;omega
  .cases h:look m0 i with
   |none=>exact absurd h hi
   |some b=>obtain⟨l,b',h1,_⟩:=hm0 i b h;exact nK oki h1
 have hi:=qX (P:=P) (ν:=ν) (cn:=cn) (x:=x0) (ds:=cs) (st:=⟨q,m0⟩) c4 c5 c6 (args:=args) ae hnp (fun i hi=>RD.re (x:=x) (x':=x0) rfl rfl hβ0 (hargs i ae) (hds i ae)) hs0 hf0;have hcs:=oD (C:={P,ν,cn,slots:=slotsOf fn,ntmps:=fn.ntmps,vm:=EP P fn}) (hΓ.at q) (kG fn).1 hmix x0 (fun l h=>hf0.β l h) body af.body c2 _ _ _ _ x0 hw hi (.refl _);refine calls_of_wp hf c1 (wp_mono hcs fun e a w' hp=>?_);obtain⟨e',x',env',st1,he,hxw,hst,hi',hh,hro,σo,q1,m1,st',vd',hfm,hvd,hK,hlk⟩:=hp;subst hxw;obtain⟨v,r1,r2,r3⟩:=nC hΓ.small hi' c3 hro
 let x2:X:=⟨x'.w,x'.I,fun l=>match ju σo l with|some i=>x'.β i|none=>x.β l⟩
 have hx2:∀i l,(i,l)∈σo->x2.β l=x'.β i:=fun i l h=>by simp only[x2,sv hfm.oko h]
 have hx2n:∀l,ju σo l=none->x2.β l=x.β l:=fun l h=>by simp only[x2,h]
 have hβ2:∀i l,eP 0 σo i=some l->x2.β l=x'.β i:=fun i l h=>hx2 i l (Ck (lo:=0) hfm.oko h).2
 have hx0s:∀l i p,(l,i)∈σi->x.β l=some p->x'.β i=some p:=fun l i p h e=>hst.β _ _ (by rw[hx0 l i h];exact e)

 have hnew:∀i p,x'.β i=some p->(∃l,(l,i)∈σi/\x.β l=some p)\/x.w.heap.size<=p.1\/∃l p',(∃j,(l,j)∈σi)/\x.β l=some p'/\p'.1=p.1:=by
  intro i p e;rcases hst.newβ i p e with h|h|⟨j,p',h1,h2⟩
  .obtain⟨l,h3,h4,_⟩:=hx0' i p h;exact .inl ⟨l,h3,h4⟩
  .exact .inr (.inl h)
  .obtain⟨l,h3,h4,_⟩:=hx0' j p' h1;exact .inr (.inr ⟨l,p',⟨j,h3⟩,h4,h2⟩)
 have hstep:Step x x2:=by
  refine⟨hst.os,hst.tape,hst.output,hst.size,hst.I,hst.keep,fun l p hp=>?_,fun b hb hn=>hst.old b hb fun i p h e=>?_,fun b h=>?_,fun l p h=>?_⟩
  .cases h:ju σo l with
   |none=>rw[hx2n l h];exact hp
   |some i=>
    have hm:=jv h;rw[hx2 i l hm];rcases hfm.io i l hm with h2|h2
    .exact hx0s l i p h2 hp
    .rw[hfr.β l h2]at hp;cases hp
  .obtain⟨l,_,h2,_⟩:=hx0' i p h;exact hn l p h2 e
  .rcases hst.newI b h with h|h|⟨i,p,h1,h2⟩
   .exact .inl h
   .exact .inr (.inl h)
   .obtain⟨l,_,h3,_⟩:=hx0' i p h1;exact .inr (.inr ⟨l,p,h3,h2⟩)
  .cases h1:ju σo l with
   |none=>rw[hx2n l h1]at h;exact .inl h
   |some i=>
    have hm:=jv h1;rw[hx2 i l hm]at h;rcases hnew i p h with⟨l',h2,h3⟩|h2|⟨l',p',_,h3,h4⟩
    .exact .inr (.inr ⟨l',p,h3,rfl⟩)
    .exact .inr (.inl h2)
    .exact .inr (.inr ⟨l',p',h3,h4⟩)
 have hsim:ef ν x2 (look st'.m):=by
  refine⟨fun l blk b base tot e1 e2=>?_,fun l1 l2 b base tot base' tot' e1 e2 e3 e4=>?_,hi'.kg.imm,fun l b base tot e=>?_,dc.le x' _ (fun _ h=>h) (fun _ _=>rfl) hi'.kg.gd⟩
  .rcases hfm.m1 l blk e1 with⟨i,b1,h1,h2,h3⟩|⟨h1,h2,h3⟩
   .rw[hx2 i l h1]at e2;obtain⟨o1,o2⟩:=hi'.kg.own i b1 b base tot (by rw[hlk];exact h2) e2;exact⟨o1,kH.re (x:=x') (x':=x2) rfl rfl hβ2 o2 h3⟩
   .rw[hx2n l h1]at e2;obtain⟨o1,o2⟩:=hs.own l blk b base tot h3 e2;have hlt:=hs.dM l b base tot e2;have hno:∀i p,x0.β i=some p->p.1≠b:=by
     rintro i ⟨b',base',tot'⟩ h e;simp only at e;subst e;obtain⟨l',h4,h5,_⟩:=hx0' i _ h;have:=hs.inj l' l b' base' tot' base tot (hfm.lt _ _ h4) (by rw[h3];simp) h5 e2;subst this;exact h2 _ h4
    refine⟨fun h=>?_,o2.mono hstep.le (hst.old b hlt hno)⟩;rcases hst.newI b h with h|h|⟨i,p,h4,h5⟩
    .exact o1 h
    .exact absurd hlt (Nat.not_lt.2 h)
    .exact hno i p h4 h5
  .have mix:∀l1 l2 base tot base' tot',(∃i b1,(i,l1)∈σo/\look m1 i=some b1)->ju σo l2=none->(∀i,(l2,i)∉σi)->look st.m l2≠none->x2.β l1=some (b,base,tot)->x2.β l2=some (b,base',tot')->False:=by
    rintro l1 l2 base tot base' tot' ⟨i,b1,h1,h2⟩ h3 h4 h5 e3 e4;rw[hx2 i l1 h1]at e3;rw[hx2n l2 h3]at e4;rcases hnew i _ e3 with⟨l',h6,h7⟩|h6|⟨l',⟨pb,pt,pq⟩,⟨j,h6⟩,h7,h8⟩
    .have:=hs.inj l' l2 b base tot base' tot' (hfm.lt _ _ h6) h5 h7 e4;subst this;exact h4 _ h6
    .have:=hs.dM l2 b base' tot' e4;simp only at h6;omega
    .simp only at h8;subst h8;have:=hs.inj l' l2 pb pt pq base' tot' (hfm.lt _ _ h6) h5 h7 e4;subst this;exact h4 _ h6
   cases f1:look st'.m l1 with
   |none=>exact absurd f1 e1
   |some b1=>
    cases f2:look st'.m l2 with
    |none=>exact absurd f2 e2
    |some b2=>
     rcases hfm.m1 l1 b1 f1 with⟨i,c1,h1,h2,_⟩|⟨h1,h2,h3⟩<;>rcases hfm.m1 l2 b2 f2 with⟨j,c2,k1,k2,_⟩|⟨k1,k2,k3⟩
     .rw[hx2 i l1 h1]at e3;rw[hx2 j l2 k1]at e4;have:=hi'.kg.inj i j b base tot base' tot' (by rw[hlk,h2];simp) (by rw[hlk,k2];simp) e3 e4;subst this;have:=pQ hfm.oko h1;rw[pQ hfm.oko k1]at this;exact(ba this).symm
     .exact(mix l1 l2 base tot base' tot' ⟨i,c1,h1,h2⟩ k1 k2 (by rw[k3];simp) e3 e4).elim
     .exact(mix l2 l1 base' tot' base tot ⟨j,c2,k1,k2⟩ h1 h2 (by rw[h3];simp) e4 e3).elim
     .rw[hx2n l1 h1]at e3;rw[hx2n l2 k1]at e4;exact hs.inj l1 l2 b base tot base' tot' (by rw[h3];simp) (by rw[k3];simp) e3 e4
  .cases h1:ju σo l with
   |none=>rw[hx2n l h1]at e;exact jg (hs.dM l b base tot e) hst.size
   |some i=>
    rw[hx2 i l (jv h1)]at e;exact hi'.kg.dM i b base tot e
 have hfr2:ee st' x2:=by
  refine⟨fun l hl=>?_,fun l hl=>?_⟩
  .cases h1:ju σo l with
   |none=>rw[hx2n l h1];exact hfr.β l (by have:=hfm.nx;omega)
   |some i=>have:=nK hfm.oko (jv h1);omega
  .cases f1:look st'.m l with
   |none=>exact absurd f1 hl
   |some b1=>
    rcases hfm.m1 l b1 f1 with⟨i,c1,h1,_⟩|⟨_,_,h3⟩
    .exact nK hfm.oko h1
    .have:=hfr.m l (by rw[h3];simp);have:=hfm.nx;omega
 have hrd:=RD.re (ν:=ν) (x:=x') (x':=x2) rfl rfl hβ2 r2 hvd;rcases Ex.xr hh with h|h<;>rw[h]at he<;>subst he<;>exact⟨hi'.defers,v,r1,x2,vd',st',hK,rfl,hstep,hrd,hsim,hfr2⟩
end
end
section
structure OR where
 tr:List D->St->(D->St->Prop)->Prop
 mu:List D->St->Nat
 mono:∀(ds:List D) (st:St) (K K':D->St->Prop),(∀d st',K d st'->K' d st')->tr ds st K->tr ds st K'
def OR.no:OR:=⟨fun _ _ _=>False,fun _ _=>0,fun _ _ _ _ _ h=>h⟩
def ko (af:aE)(Q:D->List (Nat×bz)->Prop):Ex->List bH->St->Prop:=fun e env st=>e.home/\nB st.m env af.res/\∃m1,(∀i,look st.m i=look m1 i)/\Q (jd af env st) m1
def dV {af:aE}{Q:D->List (Nat×bz)->Prop}{vd:D}{m1:List (Nat×bz)}{e:Ex}{env:List bH}{st:St}(h1:e.home)(h2:nB st.m env af.res)(h3:jd af env st=vd)(h4:st.m=m1)(h5:Q vd m1):ko af Q e env st:=⟨h1,h2,m1,fun i=>by rw[h4],by rw[h3];exact h5⟩
section
variable [dc] {P:Program} {ν:List (Nat×Nat)} {cn:List Nat} {Y:Ctx}
end
end
section
abbrev RT:=List D->D->Prop
abbrev FT:=D->List D->D->D->Prop
abbrev TT:=List D->St->(D->St->Prop)->Prop
def yf (T:TT):Prop:=∀ds st K K',(∀d st',K d st'->K' d st')->T ds st K->T ds st K'
def tz (A:RT->Prop):RT:=fun ds d=>∀T,A T->T ds d
def tx (A:FT->Prop):FT:=fun d ds v s=>∀T,A T->T d ds v s
def Kv (T:TT):Ctx:=⟨fun _ _=>False,fun _ _=>.any,fun _=>T,fun _ _ _=>False,fun _ _ _=>.any,fun _ _ _=>.any,0⟩
def Ga (C:Ctx->Prop):TT:=fun ds st K=>∀T,yf T->C (Kv T)->T ds st K
def yM (C:Ctx->Prop):yf (Ga C):=fun _ _ _ _ h h1 T hT hC=>hT _ _ _ _ h (h1 T hT hC)
def noR:RT:=fun _ _=>False
def Pe:FT:=fun _ _ _ _=>False
def noT:TT:=fun _ _ _=>False
def tV:yf noT:=fun _ _ _ _ _ h=>h.elim
structure k9 where
 key:Nat
 rel:RT
 mu:List D->Nat
 relF:FT
 tr:TT
 muE:List D->St->Nat
 mono:yf tr
def mu0:List D->Nat:=fun _=>0
def I6:List D->St->Nat:=fun _ _=>0
def ku:k9:=⟨0,noR,mu0,Pe,noT,I6,tV⟩
def rP (k:Nat)(A:RT->Prop)(mu:List D->Nat:=mu0):k9:=⟨k,tz A,mu,Pe,noT,I6,tV⟩
def rF (k:Nat)(A:FT->Prop):k9:=⟨k,noR,mu0,tx A,noT,I6,tV⟩
def rG (k:Nat)(C:Ctx->Prop)(mu:List D->St->Nat:=I6):k9:=⟨k,noR,mu0,Pe,Ga C,mu,yM C⟩
noncomputable def pick (r:D->Prop):D:=Classical.epsilon r
def iZ {r:D->Prop}(h:∃d,r d):r (pick r):=Classical.epsilon_spec h
def MC (R:RT):Prop:=∀ds d d',R ds d->R ds d'->d=d'
def Ah (R:FT):Prop:=∀d ds v s v' s',R d ds v s->R d ds v' s'->v=v'/\s=s'
def FK {A:RT->Prop}(h:A fun ds d=>A fun ds' d'=>ds'=ds->d=d'):MC (tz A):=fun ds d d' h1 h2=>h2 _ (h1 _ h) rfl
def IJ {A:FT->Prop}(h:A fun d ds v s=>A fun d' ds' v' s'=>d'=d->ds'=ds->v=v'/\s=s'):Ah (tx A):=fun d ds v s v' s' h1 h2=>h2 _ (h1 _ h) rfl rfl
noncomputable def vg (t:List (Nat×k9)):Ctx where
 pre n ds:=∃d,(lk t n ku).rel ds d
 val n ds:=pick ((lk t n ku).rel ds)
 tr n:=(lk t n ku).tr
 fp n d ds:=∃v s,(lk t n ku).relF d ds v s
 fv n d ds:=pick fun v=>∃s,(lk t n ku).relF d ds v s
 fs n d ds:=pick fun s=>∃v,(lk t n ku).relF d ds v s
 lo:=0
def Ha (t:List (Nat×k9)):Lg:=⟨fun n=>(lk t n ku).key,fun n=>(lk t n ku).mu,fun n=>(lk t n ku).muE⟩
noncomputable abbrev under (t:List (Nat×k9))(k u:Nat):Ctx:=(vg t).under (Ha t) k u
def ox (t:List (Nat×k9))(k u n:Nat):(((vg t).under (Ha t) k u).at n).cF:=
 fun f ds st K K' h hh=>⟨hh.1,(lk t f ku).mono ds st K K' h hh.2⟩
section
variable {t:List (Nat×k9)} {n k u:Nat} {ds:List D} {d v s:D} {st:St} {K:D->St->Prop}
def okp (hD:MC (lk t n ku).rel)(hk:(lk t n ku).key<k\/(lk t n ku).key=k/\(lk t n ku).mu ds<u)(h:(lk t n ku).rel ds d):(under t k u).pre n ds/\(under t k u).val n ds=d:=
 ⟨⟨hk,d,h⟩,hD _ _ _ (iZ ⟨d,h⟩) h⟩
def okf (hD:Ah (lk t n ku).relF)(hk:(lk t n ku).key<k)(h:(lk t n ku).relF d ds v s):(under t k u).fp n d ds/\(under t k u).fv n d ds=v/\(under t k u).fs n d ds=s:=by
 refine⟨⟨.inl hk,v,s,h⟩, ?_, ?_⟩
 .obtain⟨s',h'⟩:=iZ (r:=fun v=>∃s,(lk t n ku).relF d ds v s) ⟨v,s,h⟩;exact(hD _ _ _ _ _ _ h' h).1
 .obtain⟨v',h'⟩:=iZ (r:=fun s=>∃v,(lk t n ku).relF d ds v s) ⟨s,v,h⟩;exact(hD _ _ _ _ _ _ h' h).2
def Ce (hk:(lk t n ku).key<k\/(lk t n ku).key=k/\(lk t n ku).muE ds st<u)(h:(lk t n ku).tr ds st K):(under t k u).tr n ds st K:=⟨hk,h⟩
end
section
variable [dc] {P:Program} {ν:List (Nat×Nat)} {cn:List Nat} {Y:Ctx} {t:List (Nat×k9)} {fid n key:Nat}
def BA (P:Program)(ν:List (Nat×Nat))(cn:List Nat)(Y:Ctx)(fid:Nat)(ds:List D)(d:D):Prop:=Ok P ν cn Y->∀(x:X) (args:Array Value),args.size=ds.length->(∀i,i<ds.length->RD ν x (args.getD i undef) (ds.getD i .any))->aL ds=true->
  (∀b,x.I b->b<x.w.heap.size)->dc.gd x->ig P x (fun v x'=>mU x x'/\RD ν x' v d) ((callFunc fid args).run P x.w)
def BB (P:Program)(ν:List (Nat×Nat))(cn:List Nat)(Y:Ctx)(fid:Nat)(d:D)(ds:List D)(vd new:D):Prop:=Ok P ν cn Y->∀(x:X) (f:Nat->Option bz) (args:Array Value) (l k:Nat),args.size=ds.length+1->
   RD ν x (args.getD 0 undef) (.ptr l k 0 0)->(∀i,i<ds.length->RD ν x (args.getD (i+1) undef) (ds.getD i .any))->ef ν x f->f l=some (.buf k [d])->d.a8=true->aL ds=true->
   ig P x (fun v x'=>Step x x'/\RD ν x' v vd/\ef ν x' (fun l'=>if l'=l then some (.buf k [new])else f l')/\x'.β=x.β) ((callFunc fid args).run P x.w)
def kv (P:Program)(ν:List (Nat×Nat))(cn:List Nat)(Y:Ctx)(fid:Nat)(ds:List D)(st:St)(K:D->St->Prop):Prop:=Ok P ν cn Y->∀(x:X) (args:Array Value),args.size=ds.length->(∀i,i<ds.length->RD ν x (args.getD i undef) (ds.getD i .any))->ef ν x (look st.m)->ee st x->
  ig P x (fun v x'=>∃d st',K d st'/\Step x x'/\RD ν x' v d/\ef ν x' (look st'.m)/\ee st' x') ((callFunc fid args).run P x.w)
structure MD (P:Program)(ν:List (Nat×Nat))(cn:List Nat)(t:List (Nat×k9))(fid n:Nat):Prop where
 p:∀ds d,(lk t n ku).rel ds d->BA P ν cn (under t (lk t n ku).key ((lk t n ku).mu ds)) fid ds d
 f:Ah (lk t n ku).relF/\∀d ds v s,(lk t n ku).relF d ds v s->BB P ν cn (under t (lk t n ku).key ((lk t n ku).mu (d::ds))) fid d ds v s
 g:∀ds st K,(lk t n ku).tr ds st K->kv P ν cn (under t (lk t n ku).key ((lk t n ku).muE ds st)) fid ds st K
def okA (hsm:∀fid n,dd ν fid=some n->n<1000000)(hB:∀t,cn.contains (1000000000+t)=true->t=dc.tB)(hG:∀g,cn.contains (500000000+g)=true->dc.gz g)(h:∀fid n,dd ν fid=some n->MD P ν cn t fid n):Ok P ν cn (vg t):=by
 refine Pf (Ha t) hsm hB hG (fun fid n hn ds hp hok=>(h fid n hn).p ds _ (iZ hp) hok) (fun fid n hn _ d ds hp hok=>?_) (fun fid n hn ds st K htr hok=>(h fid n hn).g ds st K htr hok);obtain⟨v,s,hr⟩:=hp;obtain⟨hD,hf⟩:=(h fid n hn).f;have h2:(vg t).fv n d ds=v/\(vg t).fs n d ds=s:=by
  constructor
  .obtain⟨s',h'⟩:=iZ (r:=fun v=>∃s,(lk t n ku).relF d ds v s) ⟨v,s,hr⟩;exact(hD _ _ _ _ _ _ h' hr).1
  .obtain⟨v',h'⟩:=iZ (r:=fun s=>∃v,(lk t n ku).relF d ds v s) ⟨s,v,hr⟩;exact(hD _ _ _ _ _ _ h' hr).2
 rw[h2.1,h2.2];exact hf d ds v s hr hok
def xo {Y:D->List D->Ctx}:Ah Pe/\∀d ds v s,Pe d ds v s->BB P ν cn (Y d ds) fid d ds v s:=⟨fun _ _ _ _ _ _ h=>h.elim,fun _ _ _ _ h=>h.elim⟩
def bU {A:RT->Prop}{mu:List D->Nat}(hr:lk t n ku=rP key A mu)(h:A fun ds d=>BA P ν cn (under t key (mu ds)) fid ds d):MD P ν cn t fid n:=by
 refine⟨?_, ?_, ?_⟩<;>rw[hr]
 .exact fun ds d hd=>hd (fun ds d=>BA P ν cn (under t key (mu ds)) fid ds d) h
 .exact xo
 .exact fun _ _ _ h=>h.elim
def oweF {A:FT->Prop}(hr:lk t n ku=rF key A)(hD:Ah (tx A))(h:A fun d ds v s=>BB P ν cn (under t key 0) fid d ds v s):MD P ν cn t fid n:=by
 refine⟨?_, ?_, ?_⟩<;>rw[hr]
 .exact fun _ _ h=>h.elim
 .exact⟨hD,fun d ds v s hd=>hd _ h⟩
 .exact fun _ _ _ h=>h.elim
def D9 {Y:List D->St->Ctx}:yf fun ds st K=>kv P ν cn (Y ds st) fid ds st K:=fun ds st K K' h hg hok x args hl ha hs hf=>(hg hok x args hl ha hs hf).mono fun v x' ⟨d,st',h1,h2⟩=>⟨d,st',h _ _ h1,h2⟩
def ud {C:Ctx->Prop}{mu:List D->St->Nat}(hr:lk t n ku=rG key C mu)(h:C (Kv fun ds st K=>kv P ν cn (under t key (mu ds st)) fid ds st K)):MD P ν cn t fid n:=by
 refine⟨?_, ?_, ?_⟩<;>rw[hr]
 .exact fun _ _ h=>h.elim
 .exact xo
 .exact fun ds st K hd=>hd (fun ds st K=>kv P ν cn (under t key (mu ds st)) fid ds st K) D9 h
def Ab (P:Program)(ν:List (Nat×Nat))(cn:List Nat)(fid:Nat)(af:aE):Prop:=(P.funcs[fid]?).map (fun f=>(compile P ν cn f,f.name== "runtime.NumGoroutine"))=some (some af,false)
def Ab.split {af:aE}(h:Ab P ν cn fid af):∃fn,P.funcs[fid]? =some fn/\compile P ν cn fn=some af/\(fn.name== "runtime.NumGoroutine")=false:=by
 grind [Ab]
def aZ {af:aE}{ds:List D}{d:D}(hmix:P.follows .mixedOrders=true)(hC:Ab P ν cn fid af)(h1:ds.length=af.np)(h2:bX (Y.at 0) af.body (ME af d) (fh af ds) ⟨0,[]⟩):BA P ν cn Y fid ds d:=by
 intro hok x args hl hargs hnl himm hgd;obtain⟨fn,hf,hc,hn⟩:=hC.split;obtain⟨body,c1,_⟩:=gu hc;exact .inr ⟨fid,args,im hf hn (by rw[c1];rfl) args x.w,IS hok hmix hf hc hl hargs hnl himm hgd h1 h2⟩
def O2 {af:aE}{d:D}{ds:List D}{vd new:D}(k0:Nat)(hmix:P.follows .mixedOrders=true)(hC:Ab P ν cn fid af)(h1:ds.length+1=af.np)(hk:d.cells.length=k0)
  (h2:bX (Y.at 1) af.body (Lh af k0 vd new) (fh af (.ptr 0 k0 0 0::ds)) ⟨1,[(0,.buf k0 [d])]⟩):BB P ν cn Y fid d ds vd new:=by
 intro hok x f args l k hl h0 hargs hs hfl hd hnl;obtain⟨fn,hf,hc,hn⟩:=hC.split;obtain⟨body,c1,_⟩:=gu hc;have hkk:k=k0:=by
  generalize args.getD 0 undef=v0 at h0;cases h0 with
  |ptr _ _ _ _ b base tot at_ hβ hat=>
   obtain⟨p1,p2,c,T,fr,p3,p4,p5,p6⟩:=(hs.own l _ b base tot hfl hβ).2;have:=(p6 0 bc).1
   grind
 subst hkk;exact .inr ⟨fid,args,im hf hn (by rw[c1];rfl) args x.w,IP hok hmix hf hc hl h0 hargs hs hfl hd hnl h1 h2⟩
def pH {af:aE}{ds:List D}{st:St}{K:D->St->Prop}{σi:List (Nat×Nat)}{q:Nat}{m0:List (Nat×bz)}{cs:List D}{Q:D->List (Nat×bz)->Prop}(hmono:∀q,(Y.at q).cF)(hmix:P.follows .mixedOrders=true)(hC:Ab P ν cn fid af)
  (h1:cs.length=ds.length) (h2:∀i,i<ds.length->Ix 0 σi (ds.getD i .any) (cs.getD i .any)) (h3:cs.length=af.np)
  (h4:ez 0 q σi=true) (h5:∀l i,(l,i)∈σi->look st.m l≠none) (h6:∀i b,look m0 i=some b->∃l b',(l,i)∈σi/\look st.m l=some b'/\lK 0 σi b' b)
  (h7:bX (Y.at q) af.body (ko af Q) (fh af cs) ⟨q,m0⟩) (h8:∀d m1,Q d m1->∃(σo:List (Nat×Nat)) (q1:Nat) (st':St) (vd':D),Fr σi σo q q1 m0 m1 st st'/\Ix 0 σo d vd'/\K vd' st'):kv P ν cn Y fid ds st K:=by
 intro hok x args hl hargs hs hfr;obtain⟨fn,hf,hc,hn⟩:=hC.split;obtain⟨body,c1,_⟩:=gu hc;refine .inr ⟨fid,args,im hf hn (by rw[c1];rfl) args x.w, ?_⟩;refine Calls.mono (IQ (K:=K) hok hmix hf hc hl hargs hs hfr h1 h2 h3 h4 h5 h6 (fD (hmono q) _ _ _ _ _ (fun e env st1 h=>?_) h7)) fun e w' he=>?_
 .obtain⟨g1,g2,m1,g3,g4⟩:=h
  grind
 grind
end
end
theorem rS {α:Type}{f:α->D}(hf:∀x y,f x=f y↔x=y):∀a b:List α,a.map f=b.map f↔a=b
 |[],[]=>bc
 |[],_::_=>bc
 |_::_,[]=>bc
 |x::a,y::b=>by simp only[List.map_cons,q8,hf,rS hf a b]
def LF (a b:Nat):((a:Nat):Int)=(b:Nat)↔a=b:=ae
theorem iU8 (x y:UInt8):((x.toNat:Nat):Int)=(y.toNat:Nat)↔x=y:=(LF _ _).trans Bw
def O7 (a b:List dk):a.map D.str=b.map D.str↔a=b:=rS (fun _ _=>bc) a b
def LD (a b:List Int):a.map (D.int .i64)=b.map (D.int .i64)↔a=b:=rS (fun _ _=>bc) a b
def iByt (a b:dk):(a.map fun c=>D.int .u8 c.toNat)=(b.map fun c=>D.int .u8 c.toNat)↔a=b:=by grind [rS,iU8]
def iVer (a b:a7):a7.D a=a7.D b↔a=b:=by cases a;cases b;simp[a7.D]
def Jh [dc]{P:Program}{ν:List (Nat×Nat)}{cn:List Nat}{t:List (Nat×k9)}{fid n:Nat}(hr:lk t n ku=ku):MD P ν cn t fid n:=by
 refine⟨?_, ?_, ?_⟩<;>rw[hr]
 .exact fun _ _ h=>h.elim
 .exact xo
 .exact fun _ _ _ h=>h.elim
structure Cut where
 e:Int
 v:a7
 a:Bool
 deriving Inhabited,DecidableEq
def Cut.D (c:Cut):D:=.agg [.int .i64 c.e,.int .i64 c.v.major,.int .i64 c.v.minor,.int .i64 c.v.patch,.str c.v.pre,.str c.v.build,.bool c.a]
structure Span where
 f:Cut
 t:Cut
 deriving Inhabited,DecidableEq
def Span.D (s:Span):D:=.agg [.int .i64 s.f.e,.int .i64 s.f.v.major,.int .i64 s.f.v.minor,.int .i64 s.f.v.patch,.str s.f.v.pre,.str s.f.v.build,.bool s.f.a,
 .int .i64 s.t.e,.int .i64 s.t.v.major,.int .i64 s.t.v.minor,.int .i64 s.t.v.patch,.str s.t.v.pre,.str s.t.v.build,.bool s.t.a]
structure bn where
 rel:List Span
 pr:List Span
 deriving Inhabited,DecidableEq
def bn.D (s:bn):D:=.agg [.sl 14 (s.rel.map Span.D),.sl 14 (s.pr.map Span.D)]
structure Want where
 u:Int
 s:bn
 deriving Inhabited,DecidableEq
def Want.D (w:Want):D:=.agg [.int .i64 w.u,.sl 14 (w.s.rel.map Span.D),.sl 14 (w.s.pr.map Span.D)]
abbrev kp:=List Want
def dF (r:kp):D:=.sl 3 (r.map Want.D)
structure dI where
 v:a7
 sh:Int
 needs:List kp
 bars:List Want
 deriving Inhabited,DecidableEq
def dI.D (c:dI):D:=.agg [.int .i64 c.v.major,.int .i64 c.v.minor,.int .i64 c.v.patch,.str c.v.pre,.str c.v.build,.int .i64 c.sh,.sl 1 (c.needs.map dF),.sl 3 (c.bars.map Want.D)]
structure bN where
 name:dk
 feat:dk
 cands:List dI
 deriving Inhabited,DecidableEq
def bN.D (u:bN):D:=.agg [.str u.name,.str u.feat,.sl 8 (u.cands.map dI.D)]
structure bI where
 us:List bN
 deriving Inhabited,DecidableEq
def bI.D (w:bI):D:=.agg [.sl 3 (w.us.map bN.D)]
structure bK where
 u:Int
 m:Int
 deriving Inhabited,DecidableEq
def bK.D (t:bK):D:=.agg [.int .i64 t.u,.int .i64 t.m]
structure ar where
 kind:Int
 unit:Int
 a:Int
 b:Int
 terms:List bK
 deriving Inhabited,DecidableEq
def ar.D (r:ar):D:=.agg [.int .i64 r.kind,.int .i64 r.unit,.int .i64 r.a,.int .i64 r.b,.sl 2 (r.terms.map bK.D)]
structure aY where
 w:bI
 allow:List Int
 rows:List ar
 deriving Inhabited,DecidableEq
def aY.D (c:aY):D:=.agg [.sl 3 (c.w.us.map bN.D),.sl 1 (c.allow.map (D.int .i64)),.sl 5 (c.rows.map ar.D)]
def IL (a b:Bool):gH (D.bool a).cells (D.bool b).cells=decide (a=b):=by cases a<;>cases b<;>rfl
def qq (f:Nat->Int):Nat->Nat->Int
 |_,0=>0
 |i,k+1=>if f i=0 then qq f (i+1) k else f i
def fQ (f:Nat->Int)(i n:Nat):Int:=qq f i (n-i)
def D5 {f:Nat->Int}{i n:Nat}(h:i<n)(hf:f i=0):fQ f i n=fQ f (i+1) n:=by
 unfold fQ;obtain⟨k,hk⟩:∃k,n-i=k+1:=⟨n-i-1,ae⟩
 grind [qq]
def Av {f:Nat->Int}{i n:Nat}(h:i<n)(hf:f i≠0):fQ f i n=f i:=by
 unfold fQ;obtain⟨k,hk⟩:∃k,n-i=k+1:=⟨n-i-1,ae⟩
 rw[hk];simp only[qq,hf,aN]
def D4 {f:Nat->Int}{i n:Nat}(h:n<=i):fQ f i n=0:=by
 unfold fQ;rw[show n-i=0 by omega];rfl
def cW (a b:Int):Int:=if a<b then-1 else if b<a then 1 else 0
def kq (a b:dk):Int:=if Op.bytesLess a b=true then-1 else if a=b then 0 else 1
def oe (a b:dk):Int:=if cB a=true/\cB b=true then cW (rU a) (rU b)else if cB a=true then-1 else if cB b=true then 1 else kq a b
def zC (l m:List dk):Nat->Nat->Int
 |_,0=>cW l.length m.length
 |i,k+1=>if oe l[i]! m[i]! ≠0 then oe l[i]! m[i]! else zC l m (i+1) k
def ov (l m:List dk)(i:Nat):Int:=zC l m i (min l.length m.length-i)
def wA {l m:List dk}{i:Nat}(h:i<l.length/\i<m.length)(hn:oe l[i]! m[i]! ≠0):ov l m i=oe l[i]! m[i]! :=by
 unfold ov;rw[show min l.length m.length-i=(min l.length m.length-(i+1))+1 by omega,zC,aw hn]
def zB {l m:List dk}{i:Nat}(h:i<l.length/\i<m.length)(hn:oe l[i]! m[i]! =0):ov l m i=ov l m (i+1):=by
 unfold ov;rw[show min l.length m.length-i=(min l.length m.length-(i+1))+1 by omega,zC,ai (by rw[hn];simp)]
def wz {l m:List dk}{i:Nat}(h:l.length<=i\/m.length<=i):ov l m i=cW l.length m.length:=by
 unfold ov;rw[show min l.length m.length-i=0 by omega,zC]
def qM (a b:dk):Int:=if a=b then 0 else if a=[]then 1 else if b=[]then-1 else ov (bm a 46) (bm b 46) 0
def j4 (a b:a7):Int:=if jC a=false\/jC b=false then 0 else
 if cW a.major b.major≠0 then cW a.major b.major else if cW a.minor b.minor≠0 then cW a.minor b.minor else
 if cW a.patch b.patch≠0 then cW a.patch b.patch else qM a.pre b.pre
def jm (v:a7):a7:=⟨v.major,v.minor,v.patch,v.pre,[]⟩
theorem DZ (a:Int):cW a a=0:=by simp[cW]
def qk {a b:Int}:cW a b=0↔a=b:=by
 grind [cW]
def D0 {a b:a7}(h:jm a=jm b):j4 a b=0:=by
 grind [jm,j4,qM,DZ]
theorem FR (x y z:Int):fQ (fun i=>[x,y,z][i]!) 0 [x,y,z].length=if x≠0 then x else if y≠0 then y else z:=by
 grind [fQ,qq]
def FV {x y z:Int}(h:fQ (fun i=>[x,y,z][i]!) 0 [x,y,z].length=0):x=0/\y=0/\z=0:=by
 grind [FR]
def FU {a b:a7}(hv:¬(jC a=false\/jC b=false))(h:¬fQ (fun i=>[cW a.major b.major,cW a.minor b.minor,cW a.patch b.patch][i]!) 0 [cW a.major b.major,cW a.minor b.minor,cW a.patch b.patch].length=0):
  fQ (fun i=>[cW a.major b.major,cW a.minor b.minor,cW a.patch b.patch][i]!) 0 [cW a.major b.major,cW a.minor b.minor,cW a.patch b.patch].length=j4 a b:=by
 grind [FR,j4]
def FI {a b:a7}(hv:¬(jC a=false\/jC b=false))(h1:cW a.major b.major=0)(h2:cW a.minor b.minor=0)(h3:cW a.patch b.patch=0):j4 a b=qM a.pre b.pre:=by
 grind [j4]
def IG {a b:a7}(h1:cW a.major b.major=0)(h2:cW a.minor b.minor=0)(h3:cW a.patch b.patch=0)(h4:a.pre=b.pre):jm a=jm b:=by
 unfold jm;rw[qk.1 h1,qk.1 h2,qk.1 h3,h4]
def Cut.sm (c:Cut):Prop:=c.v.sm
def Span.sm (s:Span):Prop:=s.f.sm/\s.t.sm
def bA (l:List Span):Prop:=∀s∈l,s.sm
def bn.sm (s:bn):Prop:=bA s.rel/\bA s.pr
def Want.sm (w:Want):Prop:=w.s.sm
def dI.sm (c:dI):Prop:=c.v.sm/\(∀r∈c.needs,∀w∈r,w.sm)/\∀w∈c.bars,w.sm
def bN.sm (u:bN):Prop:=u.cands.length<=16/\∀c∈u.cands,c.sm
def bI.sm (w:bI):Prop:=∀u∈w.us,u.sm
def zV:a7:=⟨0,0,0,[],[]⟩
def kr (c:Cut):Bool:=if c.e=0 then jC c.v&&decide (c.v.build=[])else(decide (c.e=-1) ||decide (c.e=1))&&decide (c.v=zV)&& !c.a
def fw (a b:Cut):Int:=if kr a=false\/kr b=false then 0 else if a.e≠0\/b.e≠0 then cW a.e b.e else
 if j4 a.v b.v≠0 then j4 a.v b.v else if a.a=b.a then 0 else if b.a=true then-1 else 1
def jA (s:Span):Bool:=kr s.f&&kr s.t&&decide (fw s.f s.t<0)
def fN (c:Cut)(v:a7):Bool:=if kr c=false\/jC v=false then false else if c.e≠0 then decide (c.e<0)else decide (j4 c.v v<0) ||(decide (j4 c.v v=0)&& !c.a)
def kN (s:Span)(v:a7):Bool:=jA s&&jC v&&fN s.f v&& !fN s.t v
def rV (l:List Span)(i:Nat):Bool:=jA l[i]! && !(decide (0<i)&&decide (0<=fw l[i-1]!.t l[i]!.f))
def kU (l:List Span):Bool:=dh (rV l) 0 l.length
def uY (f:Nat->Bool)(i n:Nat):Bool:=!dh (fun i=>!f i) i n
def nN {f:Nat->Bool}{i n:Nat}(h:i<n):uY f i n=(f i ||uY f (i+1) n):=by
 unfold uY;rw[bB h];simp
def wP {f:Nat->Bool}{i n:Nat}(h:n<=i):uY f i n=false:=by
 unfold uY;rw[dy h];rfl
def mi (l:List Span)(v:a7):Bool:=kU l&&uY (fun i=>kN l[i]! v) 0 l.length
def oR (v:a7):Bool:=decide (v.major=0)&&decide (v.minor=0)&&decide (v.patch=0)
def je (c:Cut):Bool:=decide (c.e≠0) ||(!c.a&&decide (c.v.pre=[])&& !oR c.v)
def lE (c:Cut):Bool:=decide (c.e≠0) ||(!c.a&&decide (c.v.pre=[])&& !decide (c.v=zV))
def ml (s:bn):Bool:=kU s.rel&&kU s.pr&&dh (fun i=>je s.rel[i]!.f&&je s.rel[i]!.t) 0 s.rel.length
def Kt (s:bn):Bool:=dh (fun i=>lE s.rel[i]!.f&&lE s.rel[i]!.t) 0 s.rel.length&&(kU s.rel&&kU s.pr)
def mG (s:bn)(v:a7):Bool:=ml s&&jC v&&(if v.pre=[]then mi s.rel v else mi s.pr v)
def uu {c:Cut}(h:kr c=true):lE c=je c:=by
 obtain⟨e,⟨a,b,c,p,q⟩,f⟩:=c;by_cases he:e=0
 .simp only[kr,he,aT,bp,b9]at h;obtain⟨_,rfl⟩:=h;simp only[lE,je,oR,zV,a7.mk.injEq];by_cases h1:p=[]<;>by_cases h2:a=0<;>by_cases h3:b=0<;>by_cases h4:c=0<;>simp[h1,h2,h3,h4]
 .simp[lE,je,he]
def Hs {l:List Span}(h:kU l=true){i:Nat}(hi:i<l.length):kr l[i]!.f=true/\kr l[i]!.t=true:=by
 unfold kU at h;rw[dr]at h;have:=h i ae hi;simp only[rV,jA,bp]at this;exact⟨this.1.1.1,this.1.1.2⟩
def JB (s:bn):Kt s=ml s:=by
 unfold Kt ml;cases h:kU s.rel with
 |false=>simp
 |true=>
  have:dh (fun i=>lE s.rel[i]!.f&&lE s.rel[i]!.t) 0 s.rel.length=dh (fun i=>je s.rel[i]!.f&&je s.rel[i]!.t) 0 s.rel.length:=by
   rw[Bool.eq_iff_iff,dr,dr];constructor<;>intro g j h1 h2<;>have q:=Hs h h2<;>have:=g j h1 h2<;>rw[uu q.1,uu q.2]at* <;>exact this
  rw[this];cases kU s.pr<;>simp
def lZ:Cut:=⟨-1,zV,false⟩
def pM:Cut:=⟨1,zV,false⟩
def kA (v:a7):Cut:=⟨0,jm v,false⟩
def sg (v:a7):Cut:=⟨0,jm v,true⟩
def mJ (v:a7):a7:=⟨v.major,v.minor,v.patch,[],[]⟩
def eu (v:a7)(p:Int):a7:=if p=0 then⟨v.major+1,0,0,[],[]⟩else if p=1 then⟨v.major,v.minor+1,0,[],[]⟩else⟨v.major,v.minor,v.patch+1,[],[]⟩
def fe (v:a7)(p:Int):a7×Bool:=if jC v=false\/p<0\/2<p then(zV,false)else if jC (eu v p)=false then(zV,false)else(eu v p,true)
def tT (v:a7):Nat->a7×Bool
 |0=>(zV,false)
 |n+1=>if(fe v (n:Int)).2=true then((fe v (n:Int)).1,true)else tT v n
def hJ (v:a7):a7×Bool:=if jC v=false then(zV,false)else if v.pre≠[]then(mJ v,true)else tT v 3
def mW (v:a7):Cut:=if oR v=true then lZ else kA (mJ v)
def yq (v:a7):Cut:=if(hJ (mJ v)).2=false then pM else kA (hJ (mJ v)).1
def kP (l:List Cut)(c:Cut)(i:Nat):Nat:=i+((l.drop i).takeWhile fun x=>decide (fw x c<0)).length
def IZ {l:List Cut}{c:Cut}{i:Nat}(h:i<l.length)(hc:fw l[i]! c<0):kP l c i=kP l c (i+1):=by
 unfold kP;rw[kl h,List.takeWhile_cons_of_pos (by simpa[h]using hc)];simp;omega
def I0 {l:List Cut}{c:Cut}{i:Nat}(h:i<l.length->¬fw l[i]! c<0):kP l c i=i:=by
 unfold kP;rcases cJ i l.length with hi|hi
 .rw[kl hi,List.takeWhile_cons_of_neg (by simpa[hi]using h hi)];rfl
 .rw[mr hi];rfl
def rI (l:List Cut)(c:Cut):List Cut:=if kP l c 0<l.length/\fw l[kP l c 0]! c=0 then l else(l.take (kP l c 0)++[c])++l.drop (kP l c 0)
def lj (l:List Span):Nat->List Cut
 |0=>[lZ,pM]
 |i+1=>rI (rI (lj l i) l[i]!.f) l[i]!.t
def cA (l:List Span):List Cut:=lj l l.length
def oJ (l:List Span)(f t:Cut):Bool:=uY (fun i=>decide (fw l[i]!.f f<=0)&&decide (fw t l[i]!.t<=0)) 0 l.length
def j7 (l:List Span)(f t:Cut):List Span:=if 0<l.length/\fw l[l.length-1]!.t f=0 then l.set (l.length-1) ⟨l[l.length-1]!.f,t⟩else l++[⟨f,t⟩]
def dY (p:Cut->Cut->Bool)(c:List Cut):Nat->List Span
 |0=>[]
 |i+1=>if p c[i]! c[i+1]! =true then j7 (dY p c i) c[i]! c[i+1]! else dY p c i
def zm (p:Cut->Cut->Bool)(c:List Cut):List Span:=dY p c (c.length-1)
def nr (l:List Span):List Span×Bool:=if dh (fun i=>jA l[i]!) 0 l.length=true then(zm (oJ l) (cA l),true)else([],false)
def E4 (a b:List Span):List Span:=if kU a=false\/kU b=false then []else(nr (a++b)).1
def rT (a:List Span):List Span:=if kU a=false then []else zm (fun x y=>!oJ a x y) (cA a)
def tW:bn:=⟨[],[]⟩
def ph:List Span:=[⟨lZ,pM⟩]
def uX:bn:=⟨ph,ph⟩
def bE (v:a7):bn:=if jC v=false then tW else if v.pre≠[]then⟨[],[⟨kA v,sg v⟩]⟩else⟨[⟨mW v,yq v⟩],[]⟩
def GC (a b:bn):bn:=if ml a=false\/ml b=false then tW else⟨E4 a.rel b.rel,E4 a.pr b.pr⟩
def vw (a:bn):bn:=if ml a=false then tW else⟨rT a.rel,rT a.pr⟩
def mR (l:List Cut):Prop:=∀c∈l,c.sm
def DP (l:List Span):Prop:=bA l/\l.length<=1000
def Al (s:bn):Prop:=DP s.rel/\DP s.pr
def rC:zV.sm:=by simp[zV,a7.sm]
def nR:lZ.sm:=rC
def pN:pM.sm:=rC
def sk {v:a7}(h:v.sm):(jm v).sm:=⟨h.1,by simp[jm]⟩
def xP (v:a7):(mJ v).sm:=by simp[mJ,a7.sm]
def pw (v:a7)(p:Int):(eu v p).sm:=by unfold eu;split<;>(try split)<;>simp[a7.sm]
def Fx (v:a7)(p:Int):(fe v p).1.sm:=by unfold fe;split<;>(try split)<;>first|exact rC|exact pw v p
def yS (v:a7):∀n,(tT v n).1.sm
 |0=>rC
 |n+1=>by
  rw[tT];split
  .exact Fx v _
  .exact yS v n
def Gk (v:a7):(hJ v).1.sm:=by
 unfold hJ;repeat' split
 all_goals first|exact rC|exact xP v|exact yS v _
def HM {v:a7}(h:jC v=true):(0<=v.major/\v.major<=9999)/\(0<=v.minor/\v.minor<=9999)/\0<=v.patch/\v.patch<=9999:=by
 simp only[jC,Aw,bp,b9]at h;omega
def w6 {l:List Cut}{c:Cut}(hl:mR l)(hc:c.sm):mR (rI l c):=by
 unfold rI;split
 .exact hl
 .intro x hx;simp only[List.mem_append,bl]at hx;rcases hx with(hx|rfl)|hx
  .exact hl _ (HY hx)
  .exact hc
  .exact hl _ (List.mem_of_mem_drop hx)
def ta (l:List Cut)(c:Cut):(rI l c).length<=l.length+1:=by
 unfold rI;split<;>simp<;>omega
def tf {l:List Span}(hl:bA l):∀{i:Nat},i<=l.length->mR (lj l i)
 |0,_=>by intro x hx;simp[lj]at hx;rcases hx with rfl|rfl;exact nR;exact pN
 |i+1,h=>w6 (w6 (tf hl ae) (hl _ (aj ae)).1) (hl _ (aj ae)).2
def pA {l:List Span}(hl:bA l):mR (cA l):=tf hl (aJ _)
def ql (l:List Span):∀i,(lj l i).length<=2+2*i
 |0=>by simp[lj]
 |i+1=>by
  have h1:=ql l i;have h2:=ta (lj l i) l[i]!.f;have h3:=ta (rI (lj l i) l[i]!.f) l[i]!.t;simp only[lj];omega
def nQ (l:List Span):(cA l).length<=2+2*l.length:=ql l _
def F2 {l:List Span}{f t:Cut}(hl:bA l)(hf:f.sm)(ht:t.sm):bA (j7 l f t):=by
 unfold j7;split
 .rename_i h;intro x hx;rcases List.mem_or_eq_of_mem_set hx with hx|rfl
  .exact hl x hx
  .exact⟨(hl _ (aj ae)).1,ht⟩
 .intro x hx;rcases List.mem_append.1 hx with hx|hx
  .exact hl x hx
  .obtain rfl:=bl.1 hx;exact⟨hf,ht⟩
def qt (l:List Span)(f t:Cut):(j7 l f t).length<=l.length+1:=by
 unfold j7;split<;>simp
def nF {p:Cut->Cut->Bool}{c:List Cut}(hc:mR c):∀{i:Nat},i<c.length\/i=0->bA (dY p c i)
 |0,_=>fun _ h=>by cases h
 |i+1,h=>by
  rw[dY];split
  .exact F2 (nF hc ae) (hc _ (aj ae)) (hc _ (aj ae))
  .exact nF hc ae
def n5 {p:Cut->Cut->Bool}{c:List Cut}:∀i,(dY p c i).length<=i
 |0=>by simp[dY]
 |i+1=>by
  have h1:=n5 (p:=p) (c:=c) i;rw[dY];split
  .have:=qt (dY p c i) c[i]! c[i+1]!;omega
  .omega
def zn {p:Cut->Cut->Bool}{c:List Cut}(hc:mR c):bA (zm p c):=nF hc ae
def wq {p:Cut->Cut->Bool}{c:List Cut}:(zm p c).length<=c.length:=by
 have:=n5 (p:=p) (c:=c) (c.length-1);unfold zm;omega
def Fs {a b:List Span}(ha:bA a)(hb:bA b):bA (a++b):=fun x hx=>(List.mem_append.1 hx).elim (ha x) (hb x)
def iX:bA []:=fun _ h=>by cases h
def GB {a b:List Span}(ha:bA a)(hb:bA b):bA (E4 a b):=by
 unfold E4 nr;split
 .exact iX
 .split
  .exact zn (pA (Fs ha hb))
  .exact iX
def Cb {a:List Span}(ha:bA a):bA (rT a):=by
 unfold rT;split
 .exact iX
 .exact zn (pA ha)
def L2 {a b:bn}(ha:a.sm)(hb:b.sm):(GC a b).sm:=by
 unfold GC;split
 .exact⟨iX,iX⟩
 .exact⟨GB ha.1 hb.1,GB ha.2 hb.2⟩
def I9 {a:bn}(ha:a.sm):(vw a).sm:=by
 unfold vw;split
 .exact⟨iX,iX⟩
 .exact⟨Cb ha.1,Cb ha.2⟩
def DR (v:a7):(mW v).sm:=by
 unfold mW;split
 .exact nR
 .exact sk (xP v)
def IE (v:a7):(yq v).sm:=by
 unfold yq;split
 .exact pN
 .exact sk (Gk _)
def vI {v:a7}(h:v.sm):(bE v).sm:=by
 unfold bE;split
 .exact⟨iX,iX⟩
 .split
  .exact⟨iX,fun x hx=>by obtain rfl:=bl.1 hx;exact⟨sk h,sk h⟩⟩
  .exact⟨fun x hx=>by obtain rfl:=bl.1 hx;exact⟨DR v,IE v⟩,iX⟩
def BC:uX.sm:=⟨fun x hx=>by obtain rfl:=bl.1 hx;exact⟨nR,pN⟩,fun x hx=>by obtain rfl:=bl.1 hx;exact⟨nR,pN⟩⟩
def Mx {xs:List Span}{k:Nat}{t:Cut}(h:k<xs.length):(xs.map Span.D).set k (pY ((xs.map Span.D).getD k .any) 14 7 7 (Cut.D t))=(xs.set k ⟨xs[k]!.f,t⟩).map Span.D:=by
 rw[getD_map h,List.map_set];rfl
structure Key where
 n:dk
 f:dk
 deriving Inhabited
def Key.D (k:Key):D:=.agg [.str k.n,.str k.f]
def oy (n:Int)(w:Want):Bool:=decide (0<w.u)&&decide (w.u<n)&&ml w.s
def pg (n:Int)(l:List Want):Bool:=dh (fun i=>oy n l[i]!) 0 l.length
def ot (n:Int)(l:List Want):Bool:=pg n l&&(decide (0<l.length)&&decide (l.length<=24))
def m5 (n:Int)(c:dI):Bool:=decide (c.needs.length<=24)&&decide (c.bars.length<=24)&&dh (fun i=>ot n c.needs[i]!) 0 c.needs.length&&pg n c.bars
def uc (a b:Key):Int:=if kq a.n b.n≠0 then kq a.n b.n else kq a.f b.f
def wO (a b:bN):Bool:=Op.bytesLess a.name b.name ||(decide (a.name=b.name)&&Op.bytesLess a.feat b.feat)
def ri (n:Int)(cs:List dI)(k:Nat):Bool:=jC cs[k]!.v&&m5 n cs[k]! && !(decide (0<k)&&decide (0<=j4 cs[k-1]!.v cs[k]!.v))
def uF (us:List bN)(i:Nat):Bool:=!(decide (0<i)&&decide (us[i]!.name=[]))&& !(decide (1<i)&& !wO us[i-1]! us[i]!)&&decide (us[i]!.cands.length<=16)&&dh (ri us.length us[i]!.cands) 0 us[i]!.cands.length
def B1 (us:List bN):Bool:=decide (us[0]!.name=[])&&decide (us[0]!.feat=[])&&decide (us[0]!.cands.length=1)
def xX (w:bI):Bool:=decide (1<=w.us.length)&&decide (w.us.length<=48)&&B1 w.us&&dh (uF w.us) 0 w.us.length
def Gb (a:dk):Op.bytesLess a a=false:=by
 induction a with
 |nil=>rfl
 |cons x r ih=>unfold Op.bytesLess;simp[ih]
def Ep (a b:bN):decide (0<=uc ⟨a.name,a.feat⟩ ⟨b.name,b.feat⟩)=!wO a b:=by
 unfold uc wO kq;have h:=Gb b.name;by_cases h1:Op.bytesLess a.name b.name=true<;>by_cases h2:a.name=b.name<;>by_cases h3:Op.bytesLess a.feat b.feat=true<;>by_cases h4:a.feat=b.feat<;>simp_all
def O5 (a b:Cut):Cut.D a=Cut.D b↔a=b:=by
 obtain⟨e,⟨v1,v2,v3,v4,v5⟩,x⟩:=a;obtain⟨e',⟨w1,w2,w3,w4,w5⟩,x'⟩:=b;simp[Cut.D,and_assoc]
def O6 (a b:List Cut):a.map Cut.D=b.map Cut.D↔a=b:=rS O5 a b
def Ki (a b:Span):Span.D a=Span.D b↔a=b:=by
 obtain⟨⟨e,⟨v1,v2,v3,v4,v5⟩,x⟩,⟨f,⟨u1,u2,u3,u4,u5⟩,y⟩⟩:=a;obtain⟨⟨e',⟨w1,w2,w3,w4,w5⟩,x'⟩,⟨f',⟨t1,t2,t3,t4,t5⟩,y'⟩⟩:=b;simp[Span.D,and_assoc]
def AD (a b:List Span):a.map Span.D=b.map Span.D↔a=b:=rS Ki a b
def iSet (a b:bn):bn.D a=bn.D b↔a=b:=by cases a;cases b;simp[bn.D,AD]
def Kj (a b:Want):Want.D a=Want.D b↔a=b:=by
 obtain⟨u,⟨x,y⟩⟩:=a;obtain⟨u',⟨x',y'⟩⟩:=b;simp[Want.D,AD]
def AE (a b:List Want):a.map Want.D=b.map Want.D↔a=b:=rS Kj a b
def Kk (a b:kp):dF a=dF b↔a=b:=by simp[dF,AE]
def F5 (a b:List kp):a.map dF=b.map dF↔a=b:=rS Kk a b
def O4 (a b:dI):dI.D a=dI.D b↔a=b:=by
 obtain⟨⟨v1,v2,v3,v4,v5⟩,s,x,y⟩:=a;obtain⟨⟨w1,w2,w3,w4,w5⟩,s',x',y'⟩:=b;simp[dI.D,F5,AE,and_assoc]
def Kg (a b:List dI):a.map dI.D=b.map dI.D↔a=b:=rS O4 a b
def O9 (a b:bN):bN.D a=bN.D b↔a=b:=by cases a;cases b;simp[bN.D,Kg]
def B2 (a b:List bN):a.map bN.D=b.map bN.D↔a=b:=rS O9 a b
def iWld (a b:bI):bI.D a=bI.D b↔a=b:=by cases a;cases b;simp[bI.D,B2]
def O8 (a b:bK):bK.D a=bK.D b↔a=b:=by cases a;cases b;simp[bK.D]
def F4 (a b:List bK):a.map bK.D=b.map bK.D↔a=b:=rS O8 a b
def Kh (a b:ar):ar.D a=ar.D b↔a=b:=by cases a;cases b;simp[ar.D,F4]
def AB (a b:List ar):a.map ar.D=b.map ar.D↔a=b:=rS Kh a b
def LB (a b:aY):aY.D a=aY.D b↔a=b:=by
 obtain⟨⟨x⟩,y,z⟩:=a;obtain⟨⟨x'⟩,y',z'⟩:=b;simp[aY.D,B2,LD,AB]
def iKey (a b:Key):Key.D a=Key.D b↔a=b:=by cases a;cases b;simp[Key.D]
def iTag (a b:Bool):((bif a then 929 else 933)=(bif b then 929 else 933:Nat))↔a=b:=by cases a<;>cases b<;>simp
def iGs (a b:Gs):Gs.D a=Gs.D b↔a=b:=by cases a;cases b;simp[Gs.D,LD]
def OY {A:FT->Prop}(h:A (fun d ds v s=>A fun d' ds' v' s'=>d'=d->ds'=ds->v=v'/\s=s'):=by
 (repeat' first|apply And.intro|intro _)
 all_goals rename_i e' e
 all_goals (try simp only[q8,D.str.injEq,D.int.injEq,D.bool.injEq,D.sl.injEq,iGs,O7,iU8,Bw,LF,b7,ca]at e e')
 all_goals first|rfl|(simp only[e,e'];done)|simp_all):Ah (tx A):=IJ h
def DT (m:Int)(i:Nat):Bool:=decide (IntKind.i64.wrap ((BitVec.ofInt 64 (m.fdiv (2^(min (i:Int).toNat 64))))&&&(BitVec.ofInt 64 1)).toNat=1)
def sy (m:Int)(vs:List a7):Nat->bn
 |0=>tW
 |i+1=>if DT m i=true then GC (sy m vs i) (bE vs[i]!)else sy m vs i
def rX (g:Gs)(vs:List a7):bn:=if g.bo.val 6=0 then uX else if g.bo.val 6=1 then vw (sy (g.val 8) vs vs.length)else sy (g.val 8) vs vs.length
def cu (g:Gs)(n:Nat)(vs:Nat->List a7):Want:=⟨1+g.val ((n:Int) -1),rX g.bo (vs (1+g.val ((n:Int) -1)).toNat)⟩
def Gs.ed (g:Gs):Gs:=g.bo.bo.bo
def iA (n:Nat)(vs:Nat->List a7):Nat->Gs->List kp->List kp×Gs
 |0,g,acc=>(acc,g)
 |k+1,g,acc=>if g.ed.val 3=0 then iA n vs k g.ed.bo.ed (acc++[[cu g n vs,cu g.ed.bo n vs]])else iA n vs k g.ed.bo (acc++[[cu g n vs]])
def ax (g:Gs)(n:Nat)(vs:Nat->List a7)(most:Int):List kp×Gs:=iA n vs (g.val (most+1)).toNat g.bo []
def n8 (n:Nat)(s:bn):Prop:=s.sm/\s.rel.length<=n/\s.pr.length<=n
def n8.s {n:Nat}{s:bn}(h:n8 n s)(hn:n<=1000):Al s:=⟨⟨h.1.1,dQ h.2.1 hn⟩,⟨h.1.2,dQ h.2.2 hn⟩⟩
def n8.mono {n k:Nat}{s:bn}(h:n8 n s)(hn:n<=k):n8 k s:=⟨h.1,dQ h.2.1 hn,dQ h.2.2 hn⟩
def I7 {n:Nat}:n8 n tW:=⟨⟨iX,iX⟩,Nat.zero_le _,Nat.zero_le _⟩
def pD {v:a7}(h:v.sm):n8 1 (bE v):=by
 refine⟨vI h, ?_, ?_⟩<;>(unfold bE;split;exact Nat.zero_le _;split<;>simp)
def Cf (a b:List Span):(E4 a b).length<=2+2*(a.length+b.length):=by
 unfold E4 nr;split
 .exact Nat.zero_le _
 .split
  .have h1:=wq (p:=oJ (a++b)) (c:=cA (a++b));have h2:=nQ (a++b);simp only[cD]at h2;dsimp only;omega
  .exact Nat.zero_le _
def yW (a:List Span):(rT a).length<=2+2*a.length:=by
 unfold rT;split
 .exact Nat.zero_le _
 .have h1:=wq (p:=fun x y=>!oJ a x y) (c:=cA a);have h2:=nQ a;omega
def Pg {a b:bn}{n k:Nat}(ha:n8 n a)(hb:n8 k b):n8 (2+2*(n+k)) (GC a b):=by
 refine⟨L2 ha.1 hb.1, ?_, ?_⟩<;>unfold GC<;>split
 .exact Nat.zero_le _
 .have:=Cf a.rel b.rel;have:=ha.2.1;have:=hb.2.1;dsimp only;omega
 .exact Nat.zero_le _
 .have:=Cf a.pr b.pr;have:=ha.2.2;have:=hb.2.2;dsimp only;omega
def LR {a:bn}{n:Nat}(ha:n8 n a):n8 (2+2*n) (vw a):=by
 refine⟨I9 ha.1, ?_, ?_⟩<;>unfold vw<;>split
 .exact Nat.zero_le _
 .have:=yW a.rel;have:=ha.2.1;dsimp only;omega
 .exact Nat.zero_le _
 .have:=yW a.pr;have:=ha.2.2;dsimp only;omega
def Kr {m:Int}{vs:List a7}(hv:∀v∈vs,v.sm):∀{k:Nat},k<=vs.length->n8 (4*2^k-4) (sy m vs k)
 |0,_=>I7
 |k+1,h=>by
  have ih:=Kr (m:=m) hv (show k<=vs.length by omega);have h2:4*2^(k+1)=8*2^k:=by rw[Nat.pow_succ];omega
  have h1:1<=2^k:=Nat.one_le_two_pow;rw[sy];split
  .exact(Pg ih (pD (hv _ (aj ae)))).mono ae
  .exact ih.mono ae
def Ln:n8 1 uX:=⟨BC,bJ,bJ⟩
def GA {m:Int}{vs:List a7}(hv:∀v∈vs,v.sm)(h4:vs.length<=4){k:Nat}(hk:k<=vs.length):n8 60 (sy m vs k):=(Kr hv hk).mono (by
 have:2^k<=2^4:=Nat.pow_le_pow_right bJ ae;omega)
def Mp {g:Gs}{vs:List a7}(hv:∀v∈vs,v.sm)(h4:vs.length<=4):n8 122 (rX g vs):=by
 have h:=GA (m:=g.val 8) hv h4 (aJ _);unfold rX;split
 .exact Ln.mono bJ
 .split
  .exact LR h
  .exact h.mono bJ
inductive NF where
 |nil|sl (l:List kp)|own (k:Nat)
 deriving Inhabited
inductive BF where
 |nil|sl (l:List Want)|own (k:Nat)
 deriving Inhabited
def NF.D (e:Nat):NF->D
 | .nil=>.aA
 | .sl l=>.sl 1 (l.map dF)
 | .own k=>.own e 1 0 k
def BF.D (e:Nat):BF->D
 | .nil=>.aA
 | .sl l=>.sl 3 (l.map Want.D)
 | .own k=>.own e 3 0 k
structure CW where
 v:a7
 sh:Int
 n:NF
 b:BF
 deriving Inhabited
def CW.D (e:Nat)(c:CW):D:=.agg [.int .i64 c.v.major,.int .i64 c.v.minor,.int .i64 c.v.patch,.str c.v.pre,.str c.v.build,.int .i64 c.sh,c.n.D e,c.b.D e]
def NF.pl:NF->Bool
 | .own _=>false
 |_=>true
def BF.pl:BF->Bool
 | .own _=>false
 |_=>true
def CW.pl (c:CW):Bool:=c.n.pl&&c.b.pl
def Ek (l:List Want):aL (l.map Want.D)=true:=bP (fun _=>by simp only[Want.D,D.a8,aL,eL]) _
def Ej (r:kp):(dF r).a8=true:=by simp only[dF,D.a8]
def hO (l:List kp):aL (l.map dF)=true:=bP Ej _
def CW.a8 {e:Nat}{c:CW}(h:c.pl=true):(c.D e).a8=true:=by
 obtain⟨v,sh,n,b⟩:=c;cases n<;>cases b<;>first|(simp[CW.pl,NF.pl,BF.pl]at h;done)|rfl
theorem CW.rn {e e' lo:Nat}{σ:List (Nat×Nat)}(h:eP lo σ e=some e')(c:CW):jE lo σ (c.D e)=some (c.D e'):=by
 obtain⟨v,sh,n,b⟩:=c;cases n<;>cases b<;>simp[CW.D,NF.D,BF.D,jE,gS,pT,h]
def di {e e' lo:Nat}{σ:List (Nat×Nat)}(h:eP lo σ e=some e'):∀xs:List CW,gS lo σ (xs.map (CW.D e))=some (xs.map (CW.D e'))
 |[]=>rfl
 |c::r=>by simp only[List.map_cons,gS,CW.rn h c,di h r]
def CW.O0 {l e k:Nat}{es:List Abs.D}(h:e≠l)(c:CW):eO l k es (c.D e)=c.D e:=by
 obtain⟨v,sh,n,b⟩:=c;cases n<;>cases b<;>simp[CW.D,NF.D,BF.D,eO,fA,h]
def fu {l e k:Nat}{es:List D}(h:e≠l):∀xs:List CW,fA l k es (xs.map (CW.D e))=xs.map (CW.D e)
 |[]=>rfl
 |c::r=>by simp only[List.map_cons,fA,CW.O0 (es:=es) (k:=k) h c,fu h r]
def CW.pl_e {e e':Nat}{c:CW}(h:c.pl=true):c.D e=c.D e':=by
 obtain⟨v,sh,n,b⟩:=c;cases n<;>cases b<;>first|(simp[CW.pl,NF.pl,BF.pl]at h;done)|rfl
def sj {e e':Nat}{xs:List CW}(h:∀c∈xs,c.pl=true):xs.map (CW.D e)=xs.map (CW.D e'):=List.map_congr_left fun c hc=>CW.pl_e (h c hc)
def b8 {e:Nat}:∀{xs:List CW},(∀c∈xs,c.pl=true)->aL (xs.map (CW.D e))=true
 |[],_=>rfl
 |c::r,h=>by simp only[List.map_cons,aL,CW.a8 (h c (.head _)),b8 fun x hx=>h x (.tail _ hx),eL]
def tG {α β:Type} [Inhabited α] [Inhabited β]{f:α->β}{xs:List α}{i:Nat}(h:i<xs.length):(xs.map f)[i]! =f xs[i]! :=by
 simp[List.getElem!_eq_getElem?_getD,h]
def UD (nm ft:Nat->dk)(ln:Nat->Nat)(j:Nat):D:=.agg [.str (nm j),.str (ft j),.own (2+j) 8 0 (ln j)]
def UB (n:Nat)(nm ft:Nat->dk)(ln:Nat->Nat):List D:=(List.range n).map (UD nm ft ln)
def jY {n i:Nat}(h:i<n):(List.range n)[i]! =i:=by
 simp[List.getElem!_eq_getElem?_getD,h]
def mV {l k n:Nat}{es:List D}{nm ft:Nat->dk}{ln:Nat->Nat}(h:8≠k):fA l k es (UB n nm ft ln)=UB n nm ft ln:=by
 unfold UB;generalize List.range n=r;induction r with
 |nil=>rfl
 |cons a r ih=>simp only[List.map_cons,fA,ih,UD,eO,h,cx,cy,aN]
def iL {lo n:Nat}{nm ft:Nat->dk}{ln:Nat->Nat}(σ:List (Nat×Nat))(h:∀j,j<n->eP lo σ (2+j)=some (2+j)):gS lo σ (UB n nm ft ln)=some (UB n nm ft ln):=by
 unfold UB;have h2:∀j∈List.range n,eP lo σ (2+j)=some (2+j):=fun j hj=>h j (List.mem_range.1 hj)
 revert h2;generalize List.range n=r;intro h2;induction r with
 |nil=>rfl
 |cons a r ih=>
  have:=h2 a (.head _);simp only[List.map_cons,gS,UD,jE,pT,this,ih fun j hj=>h2 j (.tail _ hj)]
def gy {a b:bz}{r:List (Nat×bz)}(cs:Nat->List D){v:Nat}(h:v<8):look ((0,a)::(1,b)::(2,.buf 8 (cs 0))::(3,.buf 8 (cs 1))::(4,.buf 8 (cs 2))::(5,.buf 8 (cs 3))::(6,.buf 8 (cs 4))::(7,.buf 8 (cs 5))::(8,.buf 8 (cs 6))::(9,.buf 8 (cs 7))::r) (2+v)=some (.buf 8 (cs v)):=by
 match v,h with
 |0,_=>rfl
 |1,_=>rfl
 |2,_=>rfl
 |3,_=>rfl
 |4,_=>rfl
 |5,_=>rfl
 |6,_=>rfl
 |7,_=>rfl
def IB (m:List (Nat×bz))(g:Gs)(n:Nat)(nm ft:Nat->dk)(cs:Nat->List CW)(kk:Nat)(E:List D):Prop:=
 look m 0=some (.buf 2 [g.D])/\look m 1=some (.buf 3 (UB n nm ft fun j=>(cs j).length))/\(∀v,v<8->look m (2+v)=some (.buf 8 ((cs v).map (CW.D 10))))/\look m 10=some (.buf kk E)
def eight {P:Nat->Prop}(h0:P 0)(h1:P 1)(h2:P 2)(h3:P 3)(h4:P 4)(h5:P 5)(h6:P 6)(h7:P 7):∀v,v<8->P v
 |0,_=>h0
 |1,_=>h1
 |2,_=>h2
 |3,_=>h3
 |4,_=>h4
 |5,_=>h5
 |6,_=>h6
 |7,_=>h7
def Fe (n:Nat)(cs:Nat->List CW):Prop:=(2<=n/\n<=8)/\∀t,(cs t).length<=4/\∀c∈cs t,c.v.sm
def fX (cs:Nat->List CW)(t:Nat):List a7:=(cs t).map CW.v
def fR (l k:Nat)(es:List D)(rs:List kp):fA l k es (rs.map dF)=rs.map dF:=iv l k es _ (hO rs)
def eW (l k:Nat)(es:List D)(rs:List Want):fA l k es (rs.map Want.D)=rs.map Want.D:=iv l k es _ (Ek rs)
def Want.fz (l k:Nat)(es:List Abs.D)(w:Want):eO l k es w.D=w.D:=oI l k es _ (by simp only[Want.D,D.a8,aL,eL])
def Gs.fz (l k:Nat)(es:List Abs.D)(g:Gs):eO l k es g.D=g.D:=oI l k es _ (by simp only[Gs.D,D.a8,aL,eL])
def Hr {lo l:Nat}{σ:List (Nat×Nat)}(h:l<lo)(hs:(σ.all fun p=>Nat.ble lo p.1)=true:=by rfl):eP lo σ l=some l:=by
 induction σ with
 |nil=>simp[eP,Nat.blt,show Nat.ble (l+1) lo=true from ea]
 |cons a r ih=>
  simp only[List.all_cons,bp,Nat.ble_eq]at hs;have hb:Nat.beq a.1 l=false:=by
   cases e:Nat.beq a.1 l with
   |false=>rfl
   |true=>have:=Nat.eq_of_beq_eq_true e;omega
  simp only[eP,hb,cond_false];exact ih (by simpa using hs.2)
structure RU where
 name:dk
 feat:dk
 cs:List CW
 deriving Inhabited
def aM (v:a7):CW:=⟨v,0,.nil,.nil⟩
def uN:CW:=⟨zV,-1,.nil,.nil⟩
def bq:List dk:=[[97,110,116],[98,101,101],[99,111,119],[100,111,103],[101,108,107]]
def tN:bq.length=5:=rfl
def bg (m:Int):Nat->List a7
 |0=>[]
 |i+1=>if DT m i=true then bg m i++[cC[i]!]else bg m i
def eM (vs:List a7):Nat->Gs->List a7->List a7×Gs
 |0,g,acc=>(acc,g)
 |r+1,g,acc=>eM vs r g.bo (if 0<g.val 3 then acc++[vs[vs.length-(r+1)]!]else acc)
def eC (few:Int):Nat->Gs->List RU->List RU×Gs
 |0,g,us=>(us,g.bo)
 |r+1,g,us=>
  if((4-r:Nat):Int)<1+g.val few then
   if 4-r<2/\g.bo.bo.val 3=0 then
    eC few r (eM (bg (g.bo.val 16) 4) (bg (g.bo.val 16) 4).length g.ed []).2
     ((us++[⟨bq[4-r]!,[],(bg (g.bo.val 16) 4).map aM⟩])++[⟨bq[4-r]!,[102],(eM (bg (g.bo.val 16) 4) (bg (g.bo.val 16) 4).length g.ed []).1.map aM⟩])
   else eC few r (if 4-r<2 then g.ed else g.bo.bo) (us++[⟨bq[4-r]!,[],(bg (g.bo.val 16) 4).map aM⟩])
  else(us,g.bo)
def rY:List RU:=[⟨[],[],[uN]⟩]
def dZ (g:Gs)(few:Int):List RU×Gs:=eC few 5 g rY
def vE (us:List RU):List D:=UB us.length (fun j=>us[j]!.name) (fun j=>us[j]!.feat) (fun j=>us[j]!.cs.length)
def UM (g:Gs)(us:List RU):List (Nat×bz):=[(0,.buf 2 [g.D]),(1,.buf 3 (vE us)),(2,.buf 8 (us[0]!.cs.map (CW.D 10))),(3,.buf 8 (us[1]!.cs.map (CW.D 10))),(4,.buf 8 (us[2]!.cs.map (CW.D 10))),
 (5,.buf 8 (us[3]!.cs.map (CW.D 10))),(6,.buf 8 (us[4]!.cs.map (CW.D 10))),(7,.buf 8 (us[5]!.cs.map (CW.D 10))),(8,.buf 8 (us[6]!.cs.map (CW.D 10))),(9,.buf 8 (us[7]!.cs.map (CW.D 10)))]
def js {us:List RU}{x:RU}{t:Nat}(h:t<us.length):(us++[x])[t]! =us[t]! :=by
 simp[List.getElem!_eq_getElem?_getD,List.getElem?_append_left h]
def jt {us:List RU}{x:RU}{t:Nat}(h:t=us.length):(us++[x])[t]! =x:=by
 subst h;simp[List.getElem!_eq_getElem?_getD]
def pG {us:List RU}{t:Nat}(h:us.length<=t):us[t]! =default:=by
 simp[List.getElem!_eq_getElem?_getD,h]
def Iy (us:List RU)(x:RU):vE (us++[x])=vE us++[.agg [.str x.name,.str x.feat,.own (2+us.length) 8 0 x.cs.length]]:=by
 unfold vE UB;rw[cD,List.length_singleton,List.range_succ,List.map_append];congr 1
 .apply List.map_congr_left;intro j hj;simp only[UD,js (List.mem_range.1 hj)]
 .simp only[List.map_cons,List.map_nil,UD,jt rfl]
def zk {lo:Nat}{σ:List (Nat×Nat)}:∀{a b a' b':List D},gS lo σ a=some a'->gS lo σ b=some b'->gS lo σ (a++b)=some (a'++b')
 |[],b,a',b',h1,h2=>by simp only[gS,aO]at h1;subst h1;exact h2
 |d::r,b,a',b',h1,h2=>by
  simp only[gS]at h1;split at h1
  .rename_i d' r' e1 e2;obtain rfl:=ba h1;simp only[pj,gS,e1,zk e2 h2]
  .cases h1
def Bo (LU LC p:Nat):List (Nat×Nat):=(LU,1)::(LC,2+p)::(List.range p).map fun t=>(2+t,2+t)
def eo {a b:Nat}(h:a≠b):Nat.beq a b=false:=by
 cases e:Nat.beq a b with
 |false=>rfl
 |true=>exact absurd (Nat.eq_of_beq_eq_true e) h
def Ku {lo:Nat}:∀{r:List Nat}{t:Nat},t∈r->eP lo (r.map fun t=>(2+t,2+t)) (2+t)=some (2+t)
 |a::r,t,h=>by
  simp only[List.map_cons,eP];cases e:Nat.beq (2+a) (2+t)with
  |true=>rw[cond_true,Nat.eq_of_beq_eq_true e]
  |false=>
   rw[cond_false];rcases dq.1 h with rfl|h
   .simp at e
   .exact Ku h
def Hx {LU LC p t:Nat}(hU:10<=LU)(hC:10<=LC)(hp:p<8)(ht:t<p):eP 1 (Bo LU LC p) (2+t)=some (2+t):=by
 simp only[Bo,eP,eo (show LU≠2+t by omega),eo (show LC≠2+t by omega),cond_false];exact Ku (List.mem_range.2 ht)
def Ms {LU LC p:Nat}(hU:10<=LU)(hC:10<=LC)(hne:LU≠LC)(hp:p<8):ez 1 10 (Bo LU LC p)=true:=by
 have b1:=eo hne;have b2:=eo (Ne.symm hne);have u2:=eo (show 2≠LU by omega);have u3:=eo (show 3≠LU by omega);have u4:=eo (show 4≠LU by omega);have u5:=eo (show 5≠LU by omega);have u6:=eo (show 6≠LU by omega);have u7:=eo (show 7≠LU by omega);have u8:=eo (show 8≠LU by omega);have c2:=eo (show 2≠LC by omega);have c3:=eo (show 3≠LC by omega);have c4:=eo (show 4≠LC by omega);have c5:=eo (show 5≠LC by omega);have c6:=eo (show 6≠LC by omega);have c7:=eo (show 7≠LC by omega);have c8:=eo (show 8≠LC by omega)
 match p,hp with
 |0,_|1,_|2,_|3,_|4,_|5,_|6,_|7,_=>
  simp only[Bo,List.range,List.range.loop,List.map_cons,List.map_nil,ez,List.all_cons,List.all_nil,b1,b2,u2,u3,u4,u5,u6,u7,u8,c2,c3,c4,c5,c6,c7,c8,Nat.reduceAdd,Bool.not_false,nJ,eL];rfl
def Px {LU LC p t:Nat}(hp:p<t)(h8:t<8):((Bo LU LC p).all fun q=>!Nat.beq q.2 (2+t))=true:=by
 simp only[Bo,List.all_cons,bp,ey,List.all_eq_true,fq,List.mem_range];refine⟨eo ae,eo ae, ?_⟩;rintro q ⟨j,hj,rfl⟩;exact eo (by simp only;omega)
def Pa (r:List Nat):eP 1 (r.map fun t=>(2+t,2+t)) 0=some 0:=by
 induction r with
 |nil=>rfl
 |cons a r ih=>simp only[List.map_cons,eP,eo (show 2+a≠0 by omega),cond_false];exact ih
def Bl {lo k i n l l':Nat}{σ:List (Nat×Nat)}(h:eP lo σ l=some l'):jE lo σ (.own l k i n)=some (.own l' k i n):=by simp only[jE,pT,h]
def Cl {a b k:Nat}{c d:Nat}{r:List (Nat×Nat)}(h:eP 1 r 0=some 0)(ha:a≠0)(hb:c≠0):jE 1 ((a,b)::(c,d)::r) (.ptr 0 k 0 0)=some (.ptr 0 k 0 0):=by simp only[jE,pT,eP,eo ha,eo hb,cond_false,h]
def Pw {LU LC p:Nat}(hU:10<=LU)(hC:10<=LC):eP 1 (Bo LU LC p) 0=some 0:=by
 simp only[Bo,eP,eo (show LU≠0 by omega),eo (show LC≠0 by omega),cond_false];generalize List.range p=r;induction r with
 |nil=>rfl
 |cons a r ih=>simp only[List.map_cons,eP,eo (show 2+a≠0 by omega),cond_false];exact ih
def RU.pl (u:RU):Prop:=∀c∈u.cs,c.pl=true
def wC {nx LU LC:Nat}{g:Gs}{us:List RU}{x:RU}{m:List (Nat×bz)}{env env':List bH}(hp:us.length<8)(hU:10<=LU)(hC:10<=LC)(hne:LU≠LC)(hpl:∀u∈us,u.pl)(hx:x.pl)(h0:look m 0=some (.buf 2 [g.D]))
  (h1:look m LU=some (.buf 3 (vE us++[.agg [.str x.name,.str x.feat,.own LC 8 0 x.cs.length]]))) (h2:look m LC=some (.buf 8 (x.cs.map (CW.D 10)))) (hcs:∀t,t<us.length->look m (2+t)=some (.buf 8 (us[t]!.cs.map (CW.D 10))))
  (he:∀r,eP 1 r 0=some 0->aI 1 ((LU,1)::(LC,2+us.length)::r) env env'):aP 1 env ⟨nx,m⟩ env' ⟨10,UM g (us++[x])⟩:=by
 refine aP.to (Bo LU LC us.length) rfl (Ms hU hC hne hp) (he _ (Pa _)) ?_;have hLC:eP 1 (Bo LU LC us.length) LC=some (2+us.length):=by simp only[Bo,eP,eo hne,cond_false,Nat.beq_refl,cond_true]
 have ent:∀t,t<8->((∃l b,eP 1 (Bo LU LC us.length) l=some (2+t)/\look m l=some b/\lK 1 (Bo LU LC us.length) b (.buf 8 ((us++[x])[t]!.cs.map (CW.D 10))))\/
   (Nat.ble 1 (2+t)=true/\Nat.blt (2+t) 10=true/\(Bo LU LC us.length).all (fun p=>!Nat.beq p.2 (2+t))=true/\∃k,bz.buf 8 ((us++[x])[t]!.cs.map (CW.D 10))=.buf k [])):=by
  intro t ht;rcases Nat.lt_trichotomy t us.length with h|h|h
  .exact .inl ⟨2+t,_,Hx hU hC hp h,hcs t h,rfl,.inl ⟨by rw[js h],b8 (hpl _ (aj h))⟩⟩
  .subst h;exact .inl ⟨LC,_,hLC,h2,rfl,.inl ⟨by rw[jt rfl],b8 hx⟩⟩
  .refine .inr ⟨by rw[Nat.ble_eq];omega,by rw[Nat.blt,Nat.ble_eq];omega,Px h ht,8, ?_⟩;rw[pG ea];rfl
 refine⟨.inl ⟨0,_,Pw hU hC,h0,rfl,.inl ⟨rfl,rfl⟩⟩,.inl ⟨LU,_,by simp only[Bo,eP,Nat.beq_refl,cond_true],h1,rfl,.inr (.inl ?_)⟩,ent 0 bJ,ent 1 bJ,ent 2 bJ,ent 3 bJ,ent 4 bJ,ent 5 bJ,ent 6 bJ,ent 7 bJ,trivial⟩;rw[Iy];refine zk (iL _ fun j hj=>Hx hU hC hp hj) ?_;simp only[gS,jE,pT,hLC]
def jW (m:Int):∀i,(bg m i).length<=i
 |0=>aJ _
 |i+1=>by
  have:=jW m i;rw[bg];split
  .simp only[cD,List.length_singleton];omega
  .omega
def wE:cC.length=4:=rfl
def pn (m:Int):∀i,i<=4->∀v∈bg m i,v.sm
 |0,_,v,h=>by cases h
 |i+1,hi,v,h=>by
  rw[bg]at h;have hm:∀v∈cC,v.sm:=by
   intro v hv;simp only[cC,dq,dR,or_false]at hv;rcases hv with rfl|rfl|rfl|rfl<;>simp[a7.sm]
  split at h
  .rcases List.mem_append.1 h with h|h
   .exact pn m i ae v h
   .obtain rfl:=bl.1 h;exact hm _ (aj (by rw[wE];omega))
  .exact pn m i ae v h
def eK (vs:List a7):∀c∈vs.map aM,c.pl=true:=by
 intro c hc;obtain⟨v,_,rfl⟩:=fq.1 hc;rfl
def yN {a:bz}{r:List (Nat×bz)}(cs:Nat->List D){v:Nat}(h:v<8):look ((0,a)::(2,.buf 8 (cs 0))::(3,.buf 8 (cs 1))::(4,.buf 8 (cs 2))::(5,.buf 8 (cs 3))::(6,.buf 8 (cs 4))::(7,.buf 8 (cs 5))::(8,.buf 8 (cs 6))::(9,.buf 8 (cs 7))::r) (2+v)=some (.buf 8 (cs v)):=by
 match v,h with
 |0,_=>rfl
 |1,_=>rfl
 |2,_=>rfl
 |3,_=>rfl
 |4,_=>rfl
 |5,_=>rfl
 |6,_=>rfl
 |7,_=>rfl
def iF {us:List RU}(h:∀u∈us,u.pl)(t:Nat):aL (us[t]!.cs.map (CW.D 10))=true:=by
 rcases cJ t us.length with ht|ht
 .exact b8 (h _ (aj ht))
 .rw[pG ht];rfl
def GH {us:List RU}{x:RU}(h:∀u∈us,u.pl)(hx:x.pl):∀u∈us++[x],u.pl:=fun u hu=>(List.mem_append.1 hu).elim (h u) fun e=>by obtain rfl:=bl.1 e;exact hx
def lL {lo:Nat}{us:List RU}(σ:List (Nat×Nat))(h:∀j,j<us.length->eP lo σ (2+j)=some (2+j)):gS lo σ (vE us)=some (vE us):=iL σ h
def gB {lo v:Nat}{r:List (Nat×Nat)}(h:v<8):eP lo ((1,1)::(2,2)::(3,3)::(4,4)::(5,5)::(6,6)::(7,7)::(8,8)::(9,9)::r) (2+v)=some (2+v):=by
 match v,h with
 |0,_=>rfl
 |1,_=>rfl
 |2,_=>rfl
 |3,_=>rfl
 |4,_=>rfl
 |5,_=>rfl
 |6,_=>rfl
 |7,_=>rfl
def vJ (vs:List a7):∀r g acc,(eM vs r g acc).1.length<=acc.length+r
 |0,g,acc=>aJ _
 |r+1,g,acc=>by
  have:=vJ vs r g.bo (if 0<g.val 3 then acc++[vs[vs.length-(r+1)]!]else acc);rw[eM];split at this<;>rename_i h
  .rw[aw h];simp only[cD,List.length_singleton]at this;omega
  .rw[ai h];omega
def Gs.wD (g:Gs)(n:Int):(1<=n->0<=g.val n/\g.val n<n)/\(n<1->g.val n=0):=⟨fun h=>iC _ _ h,fun h=>by simp only[Gs.val,fG];rw[aw h]⟩
def EN {few:Int}{i:Nat}{h:Gs}{us:List RU}(h5:i<5)(hl:(i:Int)<1+h.val few):eC few (5-i) h us=
   if i<2/\h.bo.bo.val 3=0 then
    eC few (4-i) (eM (bg (h.bo.val 16) 4) (bg (h.bo.val 16) 4).length h.ed []).2
     ((us++[⟨bq[i]!,[],(bg (h.bo.val 16) 4).map aM⟩])++[⟨bq[i]!,[102],(eM (bg (h.bo.val 16) 4) (bg (h.bo.val 16) 4).length h.ed []).1.map aM⟩])
   else eC few (4-i) (if i<2 then h.ed else h.bo.bo) (us++[⟨bq[i]!,[],(bg (h.bo.val 16) 4).map aM⟩]):=by
 obtain⟨r,hr⟩:∃r,5-i=r+1:=⟨4-i,ae⟩
 rw[hr,eC];obtain rfl:r=4-i:=ae;rw[show 4-(4-i)=i by omega,aw hl]
def Br {few:Int}{i:Nat}{h:Gs}{us:List RU}(h5:i<=5)(hl:i=5\/¬(i:Int)<1+h.val few):eC few (5-i) h us=(us,h.bo):=by
 rcases cJ i 5 with h6|h6
 .obtain⟨r,hr⟩:∃r,5-i=r+1:=⟨4-i,ae⟩
  rw[hr,eC];obtain rfl:r=4-i:=ae;rw[show 4-(4-i)=i by omega,ai (by rcases hl with hl|hl;omega;exact hl)]
 .rw[show 5-i=0 by omega,eC]
def FP {vs:List a7}{j:Nat}{k:Gs}{acc:List a7}(hj:j<vs.length):eM vs (vs.length-j) k acc=eM vs (vs.length-(j+1)) k.bo (if 0<k.val 3 then acc++[vs[j]!]else acc):=by
 obtain⟨r,hr⟩:∃r,vs.length-j=r+1:=⟨vs.length-j-1,ae⟩
 rw[hr,eM,<-hr,show vs.length-(vs.length-j)=j by omega,show r=vs.length-(j+1)by omega]
end Go.Abs
