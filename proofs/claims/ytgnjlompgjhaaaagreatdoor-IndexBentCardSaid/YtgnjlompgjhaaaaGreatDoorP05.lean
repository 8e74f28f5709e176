/- A part of the proofs. -/
import Derived.IntWalk
import Derived.KernelRfl
import Derived.Lib.TrimUEq
import Derived.Test.YtgnjlompgjhaaaaGreatDoorP04
set_option linter.all false
set_option maxRecDepth 60000
set_option maxHeartbeats 2000000
namespace Go.Abs
section
section
variable {Y:Ctx} {draw:Bool} {r:List GI} {env rs:List ch} {nx:Nat} {m:List (Nat×bX)} {K:List ch->St->Prop} {g:Option (Nat×Bool)} {f:Bool}
def at8 (s:List UInt8)(i:Nat):Int:=((s.getD i 0).toNat:Int)
def wz (s:List UInt8)(i:Nat):0<=at8 s i/\at8 s i<256:=by
 have:=(s.getD i 0).toNat_lt;unfold at8;omega
def D.Zb:D->Bool
 | .str _=>true
 |_=>false
def wrap_i64 {a:Int}(h1:-9223372036854775808<=a)(h2:a<=9223372036854775807):IntKind.i64.wrap a=a:=IntWalk.i64_in _ ae
def qt (a b:List UInt8):(a==b)=decide (a=b):=by
 grind
def getD_map {α:Type} [Inhabited α]{q:α->D}{xs:List α}{i:Nat}(h:i<xs.length):(xs.map q).getD i .any=q xs[i]! :=by
 simp[List.getD,h]
def ZX (b:UInt8):(D.int .u8 b.toNat).u8=b:=by simp[D.u8]
def US (s:List UInt8):D.str ((s.map fun b=>D.int .u8 b.toNat).map D.u8)=.str s:=by
 congr 1;rw[List.map_map]
 conv=>rhs;rw[<-List.map_id s]
 apply List.map_congr_left;intro b _;exact ZX b
def GF (rs:List ch):Option (Nat×Bool)->Bool->Prop
 |none,f=>f=true
 |some (j,w),f=>∃ok b,cQ [] rs (.l j)=⟨ok,.bool b⟩/\(ok&&(b==w))=f
def GF.flag (h:GF rs g f):flag rs.reverse g=f/\wT rs.reverse g:=by
 cases g with
 |none=>exact⟨h.symm,trivial⟩
 |some jw=>
  obtain⟨j,w⟩:=jw;obtain⟨ok,b,h1,h2⟩:=h;have h3:rs.reverse.getD j .un=⟨ok,.bool b⟩:=by rw[<-h1,<-nQ];rfl
  simp only[Abs.flag,wT,h3,h2,D.isBool];exact⟨trivial,fun _=>trivial⟩
def Ti {i:aV}(hM:i.dD=false)(hF:i.rR draw g=false)(hC:g.isSome=true->i.calm=true)(hg:GF rs g f)(d:D)(ho:f=true->i.eA Y (cQ env rs) m)
  (hv:f=true->i.val Y (cQ env rs) m (nx+rs.length)=d) (m':List (Nat×bX)) (hm:i.c8 Y (cQ env rs) m (nx+rs.length)=m')
  (h:(f=true->i.F9 draw (cQ env rs))->aM Y draw r env (⟨f,d⟩::rs) nx m' K):aM Y draw (⟨i,g⟩::r) env rs nx m K:=by
 obtain⟨hf,hb⟩:=hg.flag;unfold aM;rw[oe hM hF,nQ,hf];refine⟨?_,ho,fun ha=>⟨d,by simpa using hv, ?_⟩⟩
 .cases g with
  |none=>trivial
  |some jw=>exact⟨hC rfl,hb⟩
 grind [aM]
def iH {i:aV}(hC:i.calm=true)(hg:GF rs g f)(d:D)(ho:f=true->i.eA Y (cQ env rs) m)
  (hv:f=true->i.val Y (cQ env rs) m (nx+rs.length)=d) (m':List (Nat×bX)) (hm:i.c8 Y (cQ env rs) m (nx+rs.length)=m')
  (h:(f=true->i.F9 draw (cQ env rs))->aM Y draw r env (⟨f,d⟩::rs) nx m' K):aM Y draw (⟨i,g⟩::r) env rs nx m K:=
 Ti (by cases i<;>first|rfl|cases hC) (by simp[aV.rR,hC]) (fun _=>hC) hg d ho hv m' hm h
def cg {i:aV}(hC:i.pure=true)(hg:GF rs g f)(d:D)(ho:f=true->i.eA Y (cQ env rs) m)
  (hv:f=true->i.val Y (cQ env rs) m (nx+rs.length)=d) 
  (h:(f=true->i.F9 draw (cQ env rs))->aM Y draw r env (⟨f,d⟩::rs) nx m K):aM Y draw (⟨i,g⟩::r) env rs nx m K:=
 iH (PF hC) hg d ho hv m (Ta hC) h
def sn {i:aV}(hM:i.dD=false)(d:D)(ho:i.eA Y (cQ env rs) m)
  (hv:i.val Y (cQ env rs) m (nx+rs.length)=d) (m':List (Nat×bX)) (hm:i.c8 Y (cQ env rs) m (nx+rs.length)=m')
  (h:i.F9 draw (cQ env rs)->aM Y draw r env (⟨true,d⟩::rs) nx m' K):aM Y draw (⟨i,none⟩::r) env rs nx m K:=
 Ti hM (by simp[aV.rR]) (fun h=>by cases h) rfl d (fun _=>ho) (fun _=>hv) m' hm (fun ha=>h (ha rfl))
def r_mv {x:Src}{fx:Bool}{d:D}(h:aM Y draw r env (⟨f,d⟩::rs) nx m K)(hg:GF rs g f:=by exact dt)(hx:cQ env rs x=⟨fx,d⟩:=by exact rfl)(kx:f=true->fx=true:=by exact cv):aM Y draw (⟨.mv x,g⟩::r) env rs nx m K:=
 cg rfl hg _ (fun hf=>by simp[aV.eA,hx,kx hf]) (fun hf=>by simp[aV.val,hx]) (fun ha=>h)
def r_not {x:Src}{fx:Bool}{b:Bool}(h:aM Y draw r env (⟨f,.bool (!b)⟩::rs) nx m K)(hg:GF rs g f:=by exact dt)(hx:cQ env rs x=⟨fx,.bool b⟩:=by exact rfl)(kx:f=true->fx=true:=by exact cv):aM Y draw (⟨.un .not x,g⟩::r) env rs nx m K:=
 cg rfl hg _ (fun hf=>by simp[aV.eA,hx,kx hf]) (fun hf=>by simp[aV.val,hx]) (fun ha=>h)
def r_or {c b:Src}{fc fb t y:Bool}(h:aM Y draw r env (⟨f,.bool (t ||y)⟩::rs) nx m K)(hg:GF rs g f:=by exact dt)(hc:cQ env rs c=⟨fc,.bool t⟩:=by exact rfl)(hb:cQ env rs b=⟨fb,.bool y⟩:=by exact rfl)(kc:f=true->fc=true:=by exact cv)(kb:f=true->t=false->fb=true:=by intro h1 h2;first|(rw[h2];exact rfl)|(rw[h2,h1];rfl)|(rw[h1,h2];rfl)|simp_all):aM Y draw (⟨.pick c (.c (.bool true)) b,g⟩::r) env rs nx m K:=
 cg rfl hg _ (fun hf=>by simp only[aV.eA,hc,hb];exact⟨kc hf,fun _=>rfl,fun e=>kb hf e⟩) (fun hf=>by simp only[aV.val,hc,hb];cases t<;>rfl) (fun _=>h)
def Te {c a:Src}{fc fa t y:Bool}(h:aM Y draw r env (⟨f,.bool (t&&y)⟩::rs) nx m K)(hg:GF rs g f:=by exact dt)(hc:cQ env rs c=⟨fc,.bool t⟩:=by exact rfl)(ha:cQ env rs a=⟨fa,.bool y⟩:=by exact rfl)(kc:f=true->fc=true:=by exact cv)(ka:f=true->t=true->fa=true:=by intro h1 h2;first|(rw[h2];exact rfl)|(rw[h2,h1];rfl)|(rw[h1,h2];rfl)|simp_all):aM Y draw (⟨.pick c a (.c (.bool false)),g⟩::r) env rs nx m K:=
 cg rfl hg _ (fun hf=>by simp only[aV.eA,hc,ha];exact⟨kc hf,fun e=>ka hf e,fun _=>rfl⟩) (fun hf=>by simp only[aV.val,hc,ha];cases t<;>rfl) (fun _=>h)
def V7 {x y:Src}{fx fy:Bool}{a b:Int}(h:aM Y draw r env (⟨f,.int .i64 (a+b)⟩::rs) nx m K)(hg:GF rs g f:=by exact dt)(hx:cQ env rs x=⟨fx,.int .i64 a⟩:=by exact rfl)(hy:cQ env rs y=⟨fy,.int .i64 b⟩:=by exact rfl)(kx:f=true->fx=true:=by exact cv)(ky:f=true->fy=true:=by exact cv)(hb:f=true->-9223372036854775808<=a+b/\a+b<=9223372036854775807:=by exact IL):aM Y draw (⟨.bin .add x y,g⟩::r) env rs nx m K:=
 cg rfl hg _ (fun hf=>by simp[aV.eA,hx,hy,kx hf,ky hf,jS]) (fun hf=>by simp only[aV.val,hx,hy,kj];rw[wrap_i64 (hb hf).1 (hb hf).2]) (fun ha=>h)
def BE {x y:Src}{fx fy:Bool}{k:IntKind}{a b:Int}(v:Int)(h:aM Y draw r env (⟨f,.int k v⟩::rs) nx m K)(hg:GF rs g f:=by exact dt)(hx:cQ env rs x=⟨fx,.int k a⟩:=by exact rfl)(hy:cQ env rs y=⟨fy,.int k b⟩:=by exact rfl)(kx:f=true->fx=true:=by exact cv)(ky:f=true->fy=true:=by exact cv)(hb:f=true->k.wrap (a+b)=v):aM Y draw (⟨.bin .add x y,g⟩::r) env rs nx m K:=
 cg rfl hg _ (fun hf=>by simp[aV.eA,hx,hy,kx hf,ky hf,jS]) (fun hf=>by simp only[aV.val,hx,hy,kj];rw[hb hf]) (fun ha=>h)
def Md {x y:Src}{fx fy:Bool}{a b:Int}(h:aM Y draw r env (⟨f,.int .i64 (a-b)⟩::rs) nx m K)(hg:GF rs g f:=by exact dt)(hx:cQ env rs x=⟨fx,.int .i64 a⟩:=by exact rfl)(hy:cQ env rs y=⟨fy,.int .i64 b⟩:=by exact rfl)(kx:f=true->fx=true:=by exact cv)(ky:f=true->fy=true:=by exact cv)(hb:f=true->-9223372036854775808<=a-b/\a-b<=9223372036854775807:=by exact IL):aM Y draw (⟨.bin .sub x y,g⟩::r) env rs nx m K:=
 cg rfl hg _ (fun hf=>by simp[aV.eA,hx,hy,kx hf,ky hf,jS]) (fun hf=>by simp only[aV.val,hx,hy,kj];rw[wrap_i64 (hb hf).1 (hb hf).2]) (fun ha=>h)
def qM {x y:Src}{fx fy:Bool}{k:IntKind}{a b:Int}(v:Int)(h:aM Y draw r env (⟨f,.int k v⟩::rs) nx m K)(hg:GF rs g f:=by exact dt)(hx:cQ env rs x=⟨fx,.int k a⟩:=by exact rfl)(hy:cQ env rs y=⟨fy,.int k b⟩:=by exact rfl)(kx:f=true->fx=true:=by exact cv)(ky:f=true->fy=true:=by exact cv)(hb:f=true->k.wrap (a-b)=v):aM Y draw (⟨.bin .sub x y,g⟩::r) env rs nx m K:=
 cg rfl hg _ (fun hf=>by simp[aV.eA,hx,hy,kx hf,ky hf,jS]) (fun hf=>by simp only[aV.val,hx,hy,kj];rw[hb hf]) (fun ha=>h)
def nW {x y:Src}{fx fy:Bool}{a b:Int}(h:aM Y draw r env (⟨f,.int .i64 (a*b)⟩::rs) nx m K)(hg:GF rs g f:=by exact dt)(hx:cQ env rs x=⟨fx,.int .i64 a⟩:=by exact rfl)(hy:cQ env rs y=⟨fy,.int .i64 b⟩:=by exact rfl)(kx:f=true->fx=true:=by exact cv)(ky:f=true->fy=true:=by exact cv)(hb:f=true->-9223372036854775808<=a*b/\a*b<=9223372036854775807:=by exact IL):aM Y draw (⟨.bin .mul x y,g⟩::r) env rs nx m K:=
 cg rfl hg _ (fun hf=>by simp[aV.eA,hx,hy,kx hf,ky hf,jS]) (fun hf=>by simp only[aV.val,hx,hy,kj];rw[wrap_i64 (hb hf).1 (hb hf).2]) (fun ha=>h)
def Ts {x y:Src}{fx fy:Bool}{k:IntKind}{a b:Int}(v:Int)(h:aM Y draw r env (⟨f,.int k v⟩::rs) nx m K)(hg:GF rs g f:=by exact dt)(hx:cQ env rs x=⟨fx,.int k a⟩:=by exact rfl)(hy:cQ env rs y=⟨fy,.int k b⟩:=by exact rfl)(kx:f=true->fx=true:=by exact cv)(ky:f=true->fy=true:=by exact cv)(hb:f=true->k.wrap (a*b)=v):aM Y draw (⟨.bin .mul x y,g⟩::r) env rs nx m K:=
 cg rfl hg _ (fun hf=>by simp[aV.eA,hx,hy,kx hf,ky hf,jS]) (fun hf=>by simp only[aV.val,hx,hy,kj];rw[hb hf]) (fun ha=>h)
def r_quo {x y:Src}{fx fy:Bool}{k:IntKind}{a b:Int}(v:Int)(h:aM Y draw r env (⟨f,.int k v⟩::rs) nx m K)(hg:GF rs g f:=by exact dt)(hx:cQ env rs x=⟨fx,.int k a⟩:=by exact rfl)(hy:cQ env rs y=⟨fy,.int k b⟩:=by exact rfl)(kx:f=true->fx=true:=by exact cv)(ky:f=true->fy=true:=by exact cv)(hn:f=true->b≠0)(hb:f=true->k.wrap (a.tdiv b)=v):aM Y draw (⟨.bin .quo x y,g⟩::r) env rs nx m K:=
 cg rfl hg _ (fun hf=>by simp[aV.eA,hx,hy,kx hf,ky hf,jS,hn hf]) (fun hf=>by simp only[aV.val,hx,hy,kj];rw[hb hf]) (fun ha=>h)
def Mc {x y:Src}{fx fy:Bool}{k:IntKind}{a b:Int}(v:Int)(h:aM Y draw r env (⟨f,.int k v⟩::rs) nx m K)(hg:GF rs g f:=by exact dt)(hx:cQ env rs x=⟨fx,.int k a⟩:=by exact rfl)(hy:cQ env rs y=⟨fy,.int k b⟩:=by exact rfl)(kx:f=true->fx=true:=by exact cv)(ky:f=true->fy=true:=by exact cv)(hn:f=true->b≠0)(hb:f=true->a.tmod b=v):aM Y draw (⟨.bin .rem x y,g⟩::r) env rs nx m K:=
 cg rfl hg _ (fun hf=>by simp[aV.eA,hx,hy,kx hf,ky hf,jS,hn hf]) (fun hf=>by simp only[aV.val,hx,hy,kj];rw[hb hf]) (fun ha=>h)
def HF {x y:Src}{fx fy:Bool}{k k2:IntKind}{a b:Int}(v:Int)(h:aM Y draw r env (⟨f,.int k v⟩::rs) nx m K)(hg:GF rs g f:=by exact dt)(hx:cQ env rs x=⟨fx,.int k a⟩:=by exact rfl)(hy:cQ env rs y=⟨fy,.int k2 b⟩:=by exact rfl)(kx:f=true->fx=true:=by exact cv)(ky:f=true->fy=true:=by exact cv)(hn:f=true->0<=b:=by exact vg)(hb:f=true->k.wrap (a*2^(min b.toNat k.bits))=v):aM Y draw (⟨.bin .shl x y,g⟩::r) env rs nx m K:=
 cg rfl hg _ (fun hf=>by simp[aV.eA,hx,hy,kx hf,ky hf,jS,hn hf]) (fun hf=>by simp only[aV.val,hx,hy,kj];rw[hb hf]) (fun ha=>h)
def tV {x y:Src}{fx fy:Bool}{k k2:IntKind}{a b:Int}(v:Int)(h:aM Y draw r env (⟨f,.int k v⟩::rs) nx m K)(hg:GF rs g f:=by exact dt)(hx:cQ env rs x=⟨fx,.int k a⟩:=by exact rfl)(hy:cQ env rs y=⟨fy,.int k2 b⟩:=by exact rfl)(kx:f=true->fx=true:=by exact cv)(ky:f=true->fy=true:=by exact cv)(hn:f=true->0<=b:=by exact vg)(hb:f=true->a.fdiv (2^(min b.toNat k.bits))=v):aM Y draw (⟨.bin .shr x y,g⟩::r) env rs nx m K:=
 cg rfl hg _ (fun hf=>by simp[aV.eA,hx,hy,kx hf,ky hf,jS,hn hf]) (fun hf=>by simp only[aV.val,hx,hy,kj];rw[hb hf]) (fun ha=>h)
def uO {x y:Src}{fx fy:Bool}{k:IntKind}{a b:Int}(v:Int)(h:aM Y draw r env (⟨f,.int k v⟩::rs) nx m K)(hg:GF rs g f:=by exact dt)(hx:cQ env rs x=⟨fx,.int k a⟩:=by exact rfl)(hy:cQ env rs y=⟨fy,.int k b⟩:=by exact rfl)(kx:f=true->fx=true:=by exact cv)(ky:f=true->fy=true:=by exact cv)(hb:f=true->k.wrap (((BitVec.ofInt k.bits a)&&&(BitVec.ofInt k.bits b)).toNat)=v):aM Y draw (⟨.bin .and x y,g⟩::r) env rs nx m K:=
 cg rfl hg _ (fun hf=>by simp[aV.eA,hx,hy,kx hf,ky hf,jS]) (fun hf=>by simp only[aV.val,hx,hy,kj];rw[hb hf]) (fun ha=>h)
def HE {x y:Src}{fx fy:Bool}{k:IntKind}{a b:Int}(v:Int)(h:aM Y draw r env (⟨f,.int k v⟩::rs) nx m K)(hg:GF rs g f:=by exact dt)(hx:cQ env rs x=⟨fx,.int k a⟩:=by exact rfl)(hy:cQ env rs y=⟨fy,.int k b⟩:=by exact rfl)(kx:f=true->fx=true:=by exact cv)(ky:f=true->fy=true:=by exact cv)(hb:f=true->k.wrap (((BitVec.ofInt k.bits a) |||(BitVec.ofInt k.bits b)).toNat)=v):aM Y draw (⟨.bin .or x y,g⟩::r) env rs nx m K:=
 cg rfl hg _ (fun hf=>by simp[aV.eA,hx,hy,kx hf,ky hf,jS]) (fun hf=>by simp only[aV.val,hx,hy,kj];rw[hb hf]) (fun ha=>h)
def Fp {x y:Src}{fx fy:Bool}{k:IntKind}{a b:Int}(v:Int)(h:aM Y draw r env (⟨f,.int k v⟩::rs) nx m K)(hg:GF rs g f:=by exact dt)(hx:cQ env rs x=⟨fx,.int k a⟩:=by exact rfl)(hy:cQ env rs y=⟨fy,.int k b⟩:=by exact rfl)(kx:f=true->fx=true:=by exact cv)(ky:f=true->fy=true:=by exact cv)(hb:f=true->k.wrap (((BitVec.ofInt k.bits a)^^^(BitVec.ofInt k.bits b)).toNat)=v):aM Y draw (⟨.bin .xor x y,g⟩::r) env rs nx m K:=
 cg rfl hg _ (fun hf=>by simp[aV.eA,hx,hy,kx hf,ky hf,jS]) (fun hf=>by simp only[aV.val,hx,hy,kj];rw[hb hf]) (fun ha=>h)
def Tq {x y:Src}{fx fy:Bool}{k:IntKind}{a b:Int}(h:aM Y draw r env (⟨f,.bool (decide (a<b))⟩::rs) nx m K)(hg:GF rs g f:=by exact dt)(hx:cQ env rs x=⟨fx,.int k a⟩:=by exact rfl)(hy:cQ env rs y=⟨fy,.int k b⟩:=by exact rfl)(kx:f=true->fx=true:=by exact cv)(ky:f=true->fy=true:=by exact cv):aM Y draw (⟨.bin .lss x y,g⟩::r) env rs nx m K:=
 cg rfl hg _ (fun hf=>by simp[aV.eA,hx,hy,kx hf,ky hf,jS]) (fun hf=>by simp only[aV.val,hx,hy,kj]<;>rfl) (fun ha=>h)
def ZE {x y:Src}{fx fy:Bool}{k:IntKind}{a b:Int}(h:aM Y draw r env (⟨f,.bool (decide (a<=b))⟩::rs) nx m K)(hg:GF rs g f:=by exact dt)(hx:cQ env rs x=⟨fx,.int k a⟩:=by exact rfl)(hy:cQ env rs y=⟨fy,.int k b⟩:=by exact rfl)(kx:f=true->fx=true:=by exact cv)(ky:f=true->fy=true:=by exact cv):aM Y draw (⟨.bin .leq x y,g⟩::r) env rs nx m K:=
 cg rfl hg _ (fun hf=>by simp[aV.eA,hx,hy,kx hf,ky hf,jS]) (fun hf=>by simp only[aV.val,hx,hy,kj]<;>rfl) (fun ha=>h)
def J1 {x y:Src}{fx fy:Bool}{k:IntKind}{a b:Int}(h:aM Y draw r env (⟨f,.bool (decide (b<a))⟩::rs) nx m K)(hg:GF rs g f:=by exact dt)(hx:cQ env rs x=⟨fx,.int k a⟩:=by exact rfl)(hy:cQ env rs y=⟨fy,.int k b⟩:=by exact rfl)(kx:f=true->fx=true:=by exact cv)(ky:f=true->fy=true:=by exact cv):aM Y draw (⟨.bin .gtr x y,g⟩::r) env rs nx m K:=
 cg rfl hg _ (fun hf=>by simp[aV.eA,hx,hy,kx hf,ky hf,jS]) (fun hf=>by simp only[aV.val,hx,hy,kj]<;>rfl) (fun ha=>h)
def Zz {x y:Src}{fx fy:Bool}{k:IntKind}{a b:Int}(h:aM Y draw r env (⟨f,.bool (decide (b<=a))⟩::rs) nx m K)(hg:GF rs g f:=by exact dt)(hx:cQ env rs x=⟨fx,.int k a⟩:=by exact rfl)(hy:cQ env rs y=⟨fy,.int k b⟩:=by exact rfl)(kx:f=true->fx=true:=by exact cv)(ky:f=true->fy=true:=by exact cv):aM Y draw (⟨.bin .geq x y,g⟩::r) env rs nx m K:=
 cg rfl hg _ (fun hf=>by simp[aV.eA,hx,hy,kx hf,ky hf,jS]) (fun hf=>by simp only[aV.val,hx,hy,kj]<;>rfl) (fun ha=>h)
def Zx {x y:Src}{fx fy:Bool}{k:IntKind}{a b:Int}(h:aM Y draw r env (⟨f,.bool (decide (a=b))⟩::rs) nx m K)(hg:GF rs g f:=by exact dt)(hx:cQ env rs x=⟨fx,.int k a⟩:=by exact rfl)(hy:cQ env rs y=⟨fy,.int k b⟩:=by exact rfl)(kx:f=true->fx=true:=by exact cv)(ky:f=true->fy=true:=by exact cv):aM Y draw (⟨.bin .eql x y,g⟩::r) env rs nx m K:=
 cg rfl hg _ (fun hf=>by simp[aV.eA,hx,hy,kx hf,ky hf,jS]) (fun hf=>by simp only[aV.val,hx,hy,kj]<;>rfl) (fun ha=>h)
def ZG {x y:Src}{fx fy:Bool}{k:IntKind}{a b:Int}(h:aM Y draw r env (⟨f,.bool (!decide (a=b))⟩::rs) nx m K)(hg:GF rs g f:=by exact dt)(hx:cQ env rs x=⟨fx,.int k a⟩:=by exact rfl)(hy:cQ env rs y=⟨fy,.int k b⟩:=by exact rfl)(kx:f=true->fx=true:=by exact cv)(ky:f=true->fy=true:=by exact cv):aM Y draw (⟨.bin .neq x y,g⟩::r) env rs nx m K:=
 cg rfl hg _ (fun hf=>by simp[aV.eA,hx,hy,kx hf,ky hf,jS]) (fun hf=>by simp only[aV.val,hx,hy,kj]<;>rfl) (fun ha=>h)
def Tr {x y:Src}{fx fy:Bool}{a b:List UInt8}(h:aM Y draw r env (⟨f,.bool (Op.bytesLess a b)⟩::rs) nx m K)(hg:GF rs g f:=by exact dt)(hx:cQ env rs x=⟨fx,.str a⟩:=by exact rfl)(hy:cQ env rs y=⟨fy,.str b⟩:=by exact rfl)(kx:f=true->fx=true:=by exact cv)(ky:f=true->fy=true:=by exact cv):aM Y draw (⟨.bin .lss x y,g⟩::r) env rs nx m K:=
 cg rfl hg _ (fun hf=>by simp[aV.eA,hx,hy,kx hf,ky hf,jS]) (fun hf=>by simp only[aV.val,hx,hy,kj,qt]) (fun ha=>h)
def ZF {x y:Src}{fx fy:Bool}{a b:List UInt8}(h:aM Y draw r env (⟨f,.bool (Op.bytesLess a b ||decide (a=b))⟩::rs) nx m K)(hg:GF rs g f:=by exact dt)(hx:cQ env rs x=⟨fx,.str a⟩:=by exact rfl)(hy:cQ env rs y=⟨fy,.str b⟩:=by exact rfl)(kx:f=true->fx=true:=by exact cv)(ky:f=true->fy=true:=by exact cv):aM Y draw (⟨.bin .leq x y,g⟩::r) env rs nx m K:=
 cg rfl hg _ (fun hf=>by simp[aV.eA,hx,hy,kx hf,ky hf,jS]) (fun hf=>by simp only[aV.val,hx,hy,kj,qt]) (fun ha=>h)
def J2 {x y:Src}{fx fy:Bool}{a b:List UInt8}(h:aM Y draw r env (⟨f,.bool (!(Op.bytesLess a b ||decide (a=b)))⟩::rs) nx m K)(hg:GF rs g f:=by exact dt)(hx:cQ env rs x=⟨fx,.str a⟩:=by exact rfl)(hy:cQ env rs y=⟨fy,.str b⟩:=by exact rfl)(kx:f=true->fx=true:=by exact cv)(ky:f=true->fy=true:=by exact cv):aM Y draw (⟨.bin .gtr x y,g⟩::r) env rs nx m K:=
 cg rfl hg _ (fun hf=>by simp[aV.eA,hx,hy,kx hf,ky hf,jS]) (fun hf=>by simp only[aV.val,hx,hy,kj,qt]) (fun ha=>h)
def ZA {x y:Src}{fx fy:Bool}{a b:List UInt8}(h:aM Y draw r env (⟨f,.bool (!Op.bytesLess a b)⟩::rs) nx m K)(hg:GF rs g f:=by exact dt)(hx:cQ env rs x=⟨fx,.str a⟩:=by exact rfl)(hy:cQ env rs y=⟨fy,.str b⟩:=by exact rfl)(kx:f=true->fx=true:=by exact cv)(ky:f=true->fy=true:=by exact cv):aM Y draw (⟨.bin .geq x y,g⟩::r) env rs nx m K:=
 cg rfl hg _ (fun hf=>by simp[aV.eA,hx,hy,kx hf,ky hf,jS]) (fun hf=>by simp only[aV.val,hx,hy,kj,qt]) (fun ha=>h)
def Zy {x y:Src}{fx fy:Bool}{a b:List UInt8}(h:aM Y draw r env (⟨f,.bool (decide (a=b))⟩::rs) nx m K)(hg:GF rs g f:=by exact dt)(hx:cQ env rs x=⟨fx,.str a⟩:=by exact rfl)(hy:cQ env rs y=⟨fy,.str b⟩:=by exact rfl)(kx:f=true->fx=true:=by exact cv)(ky:f=true->fy=true:=by exact cv):aM Y draw (⟨.bin .eql x y,g⟩::r) env rs nx m K:=
 cg rfl hg _ (fun hf=>by simp[aV.eA,hx,hy,kx hf,ky hf,jS]) (fun hf=>by simp only[aV.val,hx,hy,kj,qt]) (fun ha=>h)
def ZH {x y:Src}{fx fy:Bool}{a b:List UInt8}(h:aM Y draw r env (⟨f,.bool (!decide (a=b))⟩::rs) nx m K)(hg:GF rs g f:=by exact dt)(hx:cQ env rs x=⟨fx,.str a⟩:=by exact rfl)(hy:cQ env rs y=⟨fy,.str b⟩:=by exact rfl)(kx:f=true->fx=true:=by exact cv)(ky:f=true->fy=true:=by exact cv):aM Y draw (⟨.bin .neq x y,g⟩::r) env rs nx m K:=
 cg rfl hg _ (fun hf=>by simp[aV.eA,hx,hy,kx hf,ky hf,jS]) (fun hf=>by simp only[aV.val,hx,hy,kj,qt]) (fun ha=>h)
def dk {x y:Src}{fx fy:Bool}{a b:List UInt8}(h:aM Y draw r env (⟨f,.str (a++b)⟩::rs) nx m K)(hg:GF rs g f:=by exact dt)(hx:cQ env rs x=⟨fx,.str a⟩:=by exact rfl)(hy:cQ env rs y=⟨fy,.str b⟩:=by exact rfl)(kx:f=true->fx=true:=by exact cv)(ky:f=true->fy=true:=by exact cv)(hb:f=true->a.length+b.length<=9223372036854775807):aM Y draw (⟨.bin .add x y,g⟩::r) env rs nx m K:=
 cg rfl hg _ (fun hf=>by simp[aV.eA,hx,hy,kx hf,ky hf,jS,hb hf]) (fun hf=>by simp only[aV.val,hx,hy,kj]) (fun ha=>h)
def Xl {x y:Src}{fx fy:Bool}{ag:Bool}{ks:List CK}{a b:D}{v:Bool}(h:aM Y draw r env (⟨f,.bool (v)⟩::rs) nx m K)(hb:jt a.cells b.cells=v)(hg:GF rs g f:=by exact dt)(hx:cQ env rs x=⟨fx,a⟩:=by exact rfl)(hy:cQ env rs y=⟨fy,b⟩:=by exact rfl)(kx:f=true->fx=true:=by exact cv)(ky:f=true->fy=true:=by exact cv)(h1:f=true->a.isAgg=ag/\b.isAgg=ag/\gN ks a.cells/\gN ks b.cells:=by exact yW):aM Y draw (⟨.eqA false ag ks x y,g⟩::r) env rs nx m K:=
 cg rfl hg _ (fun hf=>by simp only[aV.eA,hx,hy];exact⟨kx hf,ky hf,h1 hf⟩) (fun hf=>by simp only[aV.val,hx,hy];rw[hb];rfl) (fun ha=>h)
def Ma {x y:Src}{fx fy:Bool}{ag:Bool}{ks:List CK}{a b:D}{v:Bool}(h:aM Y draw r env (⟨f,.bool (!v)⟩::rs) nx m K)(hb:jt a.cells b.cells=v)(hg:GF rs g f:=by exact dt)(hx:cQ env rs x=⟨fx,a⟩:=by exact rfl)(hy:cQ env rs y=⟨fy,b⟩:=by exact rfl)(kx:f=true->fx=true:=by exact cv)(ky:f=true->fy=true:=by exact cv)(h1:f=true->a.isAgg=ag/\b.isAgg=ag/\gN ks a.cells/\gN ks b.cells:=by exact yW):aM Y draw (⟨.eqA true ag ks x y,g⟩::r) env rs nx m K:=
 cg rfl hg _ (fun hf=>by simp only[aV.eA,hx,hy];exact⟨kx hf,ky hf,h1 hf⟩) (fun hf=>by simp only[aV.val,hx,hy];rw[hb];rfl) (fun ha=>h)
def lT {x:Src}{fx:Bool}{k k2:IntKind}{a:Int}(v:Int)(h:aM Y draw r env (⟨f,.int k v⟩::rs) nx m K)(hg:GF rs g f:=by exact dt)(hx:cQ env rs x=⟨fx,.int k2 a⟩:=by exact rfl)(kx:f=true->fx=true:=by exact cv)(hb:f=true->k.wrap a=v):aM Y draw (⟨.cvi k x,g⟩::r) env rs nx m K:=
 cg rfl hg _ (fun hf=>by simp[aV.eA,hx,kx hf]) (fun hf=>by simp only[aV.val,hx];rw[hb hf]) (fun ha=>h)
def Tp {x:Src}{fx:Bool}{s:List UInt8}(h:(f=true->draw=false->s.length<=9223372036854775807)->aM Y draw r env (⟨f,.int .i64 s.length⟩::rs) nx m K)(hg:GF rs g f:=by exact dt)(hx:cQ env rs x=⟨fx,.str s⟩:=by exact rfl)(kx:f=true->fx=true:=by exact cv):aM Y draw (⟨.lenS x,g⟩::r) env rs nx m K:=
 cg rfl hg _ (fun hf=>by simp[aV.eA,hx,kx hf]) (fun hf=>by simp[aV.val,hx]) (fun ha=>h (fun hf hd=>by have:=ha hf;subst hd;simpa[aV.F9,hx,kx hf]using this))
def Tn {x:Src}{fx:Bool}{α:Type}{k:Nat}{q:α->D}{xs:List α}(h:(f=true->draw=false->xs.length<=9223372036854775807)->aM Y draw r env (⟨f,.int .i64 xs.length⟩::rs) nx m K)(hg:GF rs g f:=by exact dt)(hx:cQ env rs x=⟨fx,.sl k (xs.map q)⟩:=by exact rfl)(kx:f=true->fx=true:=by exact cv):aM Y draw (⟨.len x,g⟩::r) env rs nx m K:=
 cg rfl hg _ (fun hf=>by simp[aV.eA,hx,kx hf]) (fun hf=>by simp[aV.val,hx]) (fun ha=>h (fun hf hd=>by have:=ha hf;subst hd;simpa[aV.F9,hx,kx hf]using this))
def To {x:Src}{fx:Bool}{l k i n:Nat}(h:(f=true->draw=false->n<=9223372036854775807)->aM Y draw r env (⟨f,.int .i64 n⟩::rs) nx m K)(hg:GF rs g f:=by exact dt)(hx:cQ env rs x=⟨fx,.own l k i n⟩:=by exact rfl)(kx:f=true->fx=true:=by exact cv):aM Y draw (⟨.len x,g⟩::r) env rs nx m K:=
 cg rfl hg _ (fun hf=>by simp[aV.eA,hx,kx hf]) (fun hf=>by simp[aV.val,hx]) (fun ha=>h (fun hf hd=>by have:=ha hf;subst hd;simpa[aV.F9,hx,kx hf]using this))
def ZD {x:Src}{fx:Bool}(h:aM Y draw r env (⟨f,.int .i64 0⟩::rs) nx m K)(hg:GF rs g f:=by exact dt)(hx:cQ env rs x=⟨fx,.bq⟩:=by exact rfl)(kx:f=true->fx=true:=by exact cv):aM Y draw (⟨.len x,g⟩::r) env rs nx m K:=
 cg rfl hg _ (fun hf=>by simp[aV.eA,hx,kx hf]) (fun hf=>by simp[aV.val,hx]) (fun ha=>h)
def ZI {x:Src}{fx:Bool}{l k i o:Nat}(h:aM Y draw r env (⟨f,.ptr l k i o⟩::rs) nx m K)(hg:GF rs g f:=by exact dt)(hx:cQ env rs x=⟨fx,.ptr l k i o⟩:=by exact rfl)(kx:f=true->fx=true:=by exact cv):aM Y draw (⟨.nilck x,g⟩::r) env rs nx m K:=
 cg rfl hg _ (fun hf=>by simp[aV.eA,hx,kx hf]) (fun hf=>by simp[aV.val,hx]) (fun ha=>h)
def ZJ {x:Src}{fx:Bool}{k i o:Nat}{es:List D}(h:aM Y draw r env (⟨f,.ref k es i o⟩::rs) nx m K)(hg:GF rs g f:=by exact dt)(hx:cQ env rs x=⟨fx,.ref k es i o⟩:=by exact rfl)(kx:f=true->fx=true:=by exact cv):aM Y draw (⟨.nilck x,g⟩::r) env rs nx m K:=
 cg rfl hg _ (fun hf=>by simp[aV.eA,hx,kx hf]) (fun hf=>by simp[aV.val,hx]) (fun ha=>h)
def r_faP {x:Src}{fx:Bool}{off l k i o:Nat}(h:aM Y draw r env (⟨f,.ptr l k i (o+off)⟩::rs) nx m K)(hg:GF rs g f:=by exact dt)(hx:cQ env rs x=⟨fx,.ptr l k i o⟩:=by exact rfl)(kx:f=true->fx=true:=by exact cv):aM Y draw (⟨.fa off x,g⟩::r) env rs nx m K:=
 cg rfl hg _ (fun hf=>by simp[aV.eA,hx,kx hf]) (fun hf=>by simp[aV.val,hx]) (fun ha=>h)
def r_faR {x:Src}{fx:Bool}{off k i o:Nat}{es:List D}(h:aM Y draw r env (⟨f,.ref k es i (o+off)⟩::rs) nx m K)(hg:GF rs g f:=by exact dt)(hx:cQ env rs x=⟨fx,.ref k es i o⟩:=by exact rfl)(kx:f=true->fx=true:=by exact cv):aM Y draw (⟨.fa off x,g⟩::r) env rs nx m K:=
 cg rfl hg _ (fun hf=>by simp[aV.eA,hx,kx hf]) (fun hf=>by simp[aV.val,hx]) (fun ha=>h)
def bI {x y:Src}{fx fy:Bool}{α:Type}{k:Nat}{q:α->D}{xs:List α}{i:Int}{kk:IntKind}(j:Nat)(h:aM Y draw r env (⟨f,.ref k (xs.map q) j 0⟩::rs) nx m K)(hg:GF rs g f:=by exact dt)(hx:cQ env rs x=⟨fx,.sl k (xs.map q)⟩:=by exact rfl)(hy:cQ env rs y=⟨fy,.int kk i⟩:=by exact rfl)(kx:f=true->fx=true:=by exact cv)(ky:f=true->fy=true:=by exact cv)(hj:f=true->i=(j:Int):=by exact wi)(hb:f=true->j<xs.length:=by exact vg):aM Y draw (⟨.ia k x y,g⟩::r) env rs nx m K:=
 cg rfl hg _ (fun hf=>by simp only[aV.eA,hx,hy,bO];exact⟨kx hf,ky hf,trivial,by have:=hj hf;omega,by have:=hj hf;have:=hb hf;omega⟩) (fun hf=>by simp only[aV.val,hx,hy];rw[hj hf];rfl) (fun ha=>h)
def iv {x y:Src}{fx fy:Bool}{l k i0 n:Nat}{i:Int}{kk:IntKind}(j:Nat)(h:aM Y draw r env (⟨f,.ptr l k (i0+j) 0⟩::rs) nx m K)(hg:GF rs g f:=by exact dt)(hx:cQ env rs x=⟨fx,.own l k i0 n⟩:=by exact rfl)(hy:cQ env rs y=⟨fy,.int kk i⟩:=by exact rfl)(kx:f=true->fx=true:=by exact cv)(ky:f=true->fy=true:=by exact cv)(hj:f=true->i=(j:Int):=by exact wi)(hb:f=true->j<n:=by exact vg):aM Y draw (⟨.ia k x y,g⟩::r) env rs nx m K:=
 cg rfl hg _ (fun hf=>by simp only[aV.eA,hx,hy];exact⟨kx hf,ky hf,trivial,by have:=hj hf;omega,by have:=hj hf;have:=hb hf;omega⟩) (fun hf=>by simp only[aV.val,hx,hy];rw[hj hf];rfl) (fun ha=>h)
def sk {x y:Src}{fx fy:Bool}{l k k2 n i0 o:Nat}{i:Int}{kk:IntKind}(j:Nat)(h:aM Y draw r env (⟨f,.ptr l k2 i0 (o+j*k)⟩::rs) nx m K)(hg:GF rs g f:=by exact dt)(hx:cQ env rs x=⟨fx,.ptr l k2 i0 o⟩:=by exact rfl)(hy:cQ env rs y=⟨fy,.int kk i⟩:=by exact rfl)(kx:f=true->fx=true:=by exact cv)(ky:f=true->fy=true:=by exact cv)(hj:f=true->i=(j:Int):=by exact wi)(hb:f=true->j<n:=by exact vg):aM Y draw (⟨.iaP n k x y,g⟩::r) env rs nx m K:=
 cg rfl hg _ (fun hf=>by simp only[aV.eA,hx,hy];exact⟨kx hf,ky hf,by have:=hj hf;omega,by have:=hj hf;have:=hb hf;omega⟩) (fun hf=>by simp only[aV.val,hx,hy];rw[hj hf];rfl) (fun ha=>h)
def J3 {x y:Src}{fx fy:Bool}{k k2 n i0 o:Nat}{es:List D}{i:Int}{kk:IntKind}(j:Nat)(h:aM Y draw r env (⟨f,.ref k2 es i0 (o+j*k)⟩::rs) nx m K)(hg:GF rs g f:=by exact dt)(hx:cQ env rs x=⟨fx,.ref k2 es i0 o⟩:=by exact rfl)(hy:cQ env rs y=⟨fy,.int kk i⟩:=by exact rfl)(kx:f=true->fx=true:=by exact cv)(ky:f=true->fy=true:=by exact cv)(hj:f=true->i=(j:Int):=by first|exact fun _=>rfl|(intro _;omega))(hb:f=true->j<n:=by intro _;omega):aM Y draw (⟨.iaP n k x y,g⟩::r) env rs nx m K:=
 cg rfl hg _ (fun hf=>by simp only[aV.eA,hx,hy];exact⟨kx hf,ky hf,by have:=hj hf;omega,by have:=hj hf;have:=hb hf;omega⟩) (fun hf=>by simp only[aV.val,hx,hy];rw[hj hf];rfl) (fun ha=>h)
def qe {x y:Src}{fx fy:Bool}{s:List UInt8}{i:Int}{kk:IntKind}(j:Nat)(h:aM Y draw r env (⟨f,.int .u8 (at8 s j)⟩::rs) nx m K)(hg:GF rs g f:=by exact dt)(hx:cQ env rs x=⟨fx,.str s⟩:=by exact rfl)(hy:cQ env rs y=⟨fy,.int kk i⟩:=by exact rfl)(kx:f=true->fx=true:=by exact cv)(ky:f=true->fy=true:=by exact cv)(hj:f=true->i=(j:Int):=by exact wi)(hb:f=true->j<s.length:=by exact vg):aM Y draw (⟨.ixS x y,g⟩::r) env rs nx m K:=
 cg rfl hg _ (fun hf=>by simp only[aV.eA,hx,hy];exact⟨kx hf,ky hf,by have:=hj hf;omega,by have:=hj hf;have:=hb hf;omega⟩) (fun hf=>by simp only[aV.val,hx,hy];rw[hj hf];rfl) (fun ha=>h)
def Mb {x y:Src}{fx fy:Bool}{n k:Nat}{ag:Bool}{cs:List D}{i:Int}{kk:IntKind}(j:Nat)(v:D)(h:aM Y draw r env (⟨f,v⟩::rs) nx m K)(hg:GF rs g f:=by exact dt)(hx:cQ env rs x=⟨fx,.agg cs⟩:=by exact rfl)(hy:cQ env rs y=⟨fy,.int kk i⟩:=by exact rfl)(kx:f=true->fx=true:=by exact cv)(ky:f=true->fy=true:=by exact cv)(hj:f=true->i=(j:Int):=by exact wi)(hb:f=true->j<n:=by exact vg)(hl:cs.length=n*k:=by exact rfl)(h1:ag=false->k=1:=by intro h;first|exact rfl|cases h)(hv:f=true->cut cs (j*k) k ag=v):aM Y draw (⟨.ixA n k ag x y,g⟩::r) env rs nx m K:=
 cg rfl hg _ (fun hf=>by simp only[aV.eA,hx,hy];exact⟨kx hf,ky hf,h1,by have:=hj hf;omega,by have:=hj hf;have:=hb hf;omega,hl⟩) (fun hf=>by simp only[aV.val,hx,hy];rw[<-hv hf,hj hf];rfl) (fun ha=>h)
def Tj {x y:Src}{fx fy:Bool}{α:Type}{k:Nat}{q:α->D}{xs:List α}{i:Int}{kk:IntKind}(h:aM Y draw r env (⟨f,.ref k (xs.map q) i.toNat 0⟩::rs) nx m K)(hg:GF rs g f:=by exact dt)(hx:cQ env rs x=⟨fx,.sl k (xs.map q)⟩:=by exact rfl)(hy:cQ env rs y=⟨fy,.int kk i⟩:=by exact rfl)(kx:f=true->fx=true:=by exact cv)(ky:f=true->fy=true:=by exact cv)(hb:f=true->0<=i/\i<(xs.length:Nat):=by exact IL):aM Y draw (⟨.ia k x y,g⟩::r) env rs nx m K:=
 cg rfl hg _ (fun hf=>by simp only[aV.eA,hx,hy,bO];exact⟨kx hf,ky hf,trivial,(hb hf).1,(hb hf).2⟩) (fun hf=>by simp only[aV.val,hx,hy]<;>rfl) (fun ha=>h)
def ZB {x y:Src}{fx fy:Bool}{l k i0 n:Nat}{i:Int}{kk:IntKind}(h:aM Y draw r env (⟨f,.ptr l k (i0+i.toNat) 0⟩::rs) nx m K)(hg:GF rs g f:=by exact dt)(hx:cQ env rs x=⟨fx,.own l k i0 n⟩:=by exact rfl)(hy:cQ env rs y=⟨fy,.int kk i⟩:=by exact rfl)(kx:f=true->fx=true:=by exact cv)(ky:f=true->fy=true:=by exact cv)(hb:f=true->0<=i/\i<(n:Nat):=by exact IL):aM Y draw (⟨.ia k x y,g⟩::r) env rs nx m K:=
 cg rfl hg _ (fun hf=>by simp only[aV.eA,hx,hy,bO];exact⟨kx hf,ky hf,trivial,(hb hf).1,(hb hf).2⟩) (fun hf=>by simp only[aV.val,hx,hy]<;>rfl) (fun ha=>h)
def ZC {x y:Src}{fx fy:Bool}{s:List UInt8}{i:Int}{kk:IntKind}(h:aM Y draw r env (⟨f,.int .u8 (at8 s i.toNat)⟩::rs) nx m K)(hg:GF rs g f:=by exact dt)(hx:cQ env rs x=⟨fx,.str s⟩:=by exact rfl)(hy:cQ env rs y=⟨fy,.int kk i⟩:=by exact rfl)(kx:f=true->fx=true:=by exact cv)(ky:f=true->fy=true:=by exact cv)(hb:f=true->0<=i/\i<(s.length:Nat):=by exact IL):aM Y draw (⟨.ixS x y,g⟩::r) env rs nx m K:=
 cg rfl hg _ (fun hf=>by simp only[aV.eA,hx,hy,bO];exact⟨kx hf,ky hf,(hb hf).1,(hb hf).2⟩) (fun hf=>by simp only[aV.val,hx,hy]<;>rfl) (fun ha=>h)
def fB {x y:Src}{fx fy:Bool}{s:List UInt8}{k2:IntKind}{a:Int}(i:Nat)(h:aM Y draw r env (⟨f,.str (s.drop i)⟩::rs) nx m K)(hg:GF rs g f:=by exact dt)(hx:cQ env rs x=⟨fx,.str s⟩:=by exact rfl)(hy:cQ env rs y=⟨fy,.int k2 a⟩:=by exact rfl)(kx:f=true->fx=true:=by exact cv)(ky:f=true->fy=true:=by exact cv)(hi:f=true->a=(i:Int):=by exact wi)(hb:f=true->i<=s.length:=by exact vg):aM Y draw (⟨.slS x (some y) none,g⟩::r) env rs nx m K:=
 cg rfl hg _ (fun hf=>by simp only[aV.eA,Pu,dO,hx,hy];have:=hb hf;have:=hi hf;refine⟨kx hf,ky hf,trivial, ?_⟩;simp only[pN,fe,ct,cu,Int.ofNat_eq_natCast];omega) (fun hf=>by simp only[aV.val,dO,fe,hx,hy];rw[hi hf];simp) (fun ha=>h)
def sr {x y:Src}{fx fy:Bool}{α:Type}{k:Nat}{q:α->D}{s:List α}{k2:IntKind}{a:Int}(i:Nat)(h:aM Y draw r env (⟨f,.sl k ((s.drop i).map q)⟩::rs) nx m K)(hg:GF rs g f:=by exact dt)(hx:cQ env rs x=⟨fx,.sl k (s.map q)⟩:=by exact rfl)(hy:cQ env rs y=⟨fy,.int k2 a⟩:=by exact rfl)(kx:f=true->fx=true:=by exact cv)(ky:f=true->fy=true:=by exact cv)(hi:f=true->a=(i:Int):=by exact wi)(hb:f=true->i<=s.length:=by exact vg):aM Y draw (⟨.slA k x (some y) none,g⟩::r) env rs nx m K:=
 cg rfl hg _ (fun hf=>by simp only[aV.eA,Pu,dO,hx,hy,bO];have:=hb hf;have:=hi hf;refine⟨kx hf,ky hf,trivial,trivial, ?_⟩;simp only[pN,fe,ct,cu,Int.ofNat_eq_natCast];omega) (fun hf=>by simp only[aV.val,dO,fe,hx,hy];rw[hi hf];first|(simp only[List.take_length,Int.toNat_natCast,List.map_drop];done)|simp[List.map_drop,List.map_take]) (fun ha=>h)
def lu {x z:Src}{fx fz:Bool}{s:List UInt8}{k3:IntKind}{c:Int}(j:Nat)(h:aM Y draw r env (⟨f,.str (s.take j)⟩::rs) nx m K)(hg:GF rs g f:=by exact dt)(hx:cQ env rs x=⟨fx,.str s⟩:=by exact rfl)(hz:cQ env rs z=⟨fz,.int k3 c⟩:=by exact rfl)(kx:f=true->fx=true:=by exact cv)(kz:f=true->fz=true:=by exact cv)(hj:f=true->c=(j:Int):=by exact wi)(hb:f=true->j<=s.length:=by exact vg):aM Y draw (⟨.slS x none (some z),g⟩::r) env rs nx m K:=
 cg rfl hg _ (fun hf=>by simp only[aV.eA,Pu,dO,hx,hz];have:=hb hf;have:=hj hf;refine⟨kx hf,trivial,kz hf, ?_⟩;simp only[pN,fe,ct,cu,Int.ofNat_eq_natCast];omega) (fun hf=>by simp only[aV.val,dO,fe,hx,hz];rw[hj hf];simp) (fun ha=>h)
def oJ {x z:Src}{fx fz:Bool}{α:Type}{k:Nat}{q:α->D}{s:List α}{k3:IntKind}{c:Int}(j:Nat)(h:aM Y draw r env (⟨f,.sl k ((s.take j).map q)⟩::rs) nx m K)(hg:GF rs g f:=by exact dt)(hx:cQ env rs x=⟨fx,.sl k (s.map q)⟩:=by exact rfl)(hz:cQ env rs z=⟨fz,.int k3 c⟩:=by exact rfl)(kx:f=true->fx=true:=by exact cv)(kz:f=true->fz=true:=by exact cv)(hj:f=true->c=(j:Int):=by exact wi)(hb:f=true->j<=s.length:=by exact vg):aM Y draw (⟨.slA k x none (some z),g⟩::r) env rs nx m K:=
 cg rfl hg _ (fun hf=>by simp only[aV.eA,Pu,dO,hx,hz,bO];have:=hb hf;have:=hj hf;refine⟨kx hf,trivial,kz hf,trivial, ?_⟩;simp only[pN,fe,ct,cu,Int.ofNat_eq_natCast];omega) (fun hf=>by simp only[aV.val,dO,fe,hx,hz];rw[hj hf];first|(simp only[List.take_length,Int.toNat_natCast,List.map_drop];done)|simp[List.map_drop,List.map_take]) (fun ha=>h)
def vX {x z:Src}{fx fz:Bool}{l k i0 n:Nat}{k3:IntKind}{c:Int}(j:Nat)(h:aM Y draw r env (⟨f,.own l k i0 j⟩::rs) nx m K)(hg:GF rs g f:=by exact dt)(hx:cQ env rs x=⟨fx,.own l k i0 n⟩:=by exact rfl)(hz:cQ env rs z=⟨fz,.int k3 c⟩:=by exact rfl)(kx:f=true->fx=true:=by exact cv)(kz:f=true->fz=true:=by exact cv)(hj:f=true->c=(j:Int):=by exact wi)(hb:f=true->j<=n:=by exact vg):aM Y draw (⟨.slA k x none (some z),g⟩::r) env rs nx m K:=
 cg rfl hg _ (fun hf=>by simp only[aV.eA,Pu,dO,hx,hz];have:=hb hf;have:=hj hf;refine⟨kx hf,trivial,kz hf,trivial, ?_⟩;simp only[pN,fe,ct,cu,Int.ofNat_eq_natCast];omega) (fun hf=>by simp only[aV.val,dO,fe,hx,hz];rw[hj hf];simp) (fun ha=>h)
def BH {x y z:Src}{fx fy fz:Bool}{s:List UInt8}{k2:IntKind}{a:Int}(i:Nat){k3:IntKind}{c:Int}(j:Nat)(h:aM Y draw r env (⟨f,.str ((s.take j).drop i)⟩::rs) nx m K)(hg:GF rs g f:=by exact dt)(hx:cQ env rs x=⟨fx,.str s⟩:=by exact rfl)(hy:cQ env rs y=⟨fy,.int k2 a⟩:=by exact rfl)(hz:cQ env rs z=⟨fz,.int k3 c⟩:=by exact rfl)(kx:f=true->fx=true:=by exact cv)(ky:f=true->fy=true:=by exact cv)(kz:f=true->fz=true:=by exact cv)(hi:f=true->a=(i:Int):=by exact wi)(hj:f=true->c=(j:Int):=by exact wi)(hb:f=true->i<=j/\j<=s.length:=by exact IL):aM Y draw (⟨.slS x (some y) (some z),g⟩::r) env rs nx m K:=
 cg rfl hg _ (fun hf=>by simp only[aV.eA,Pu,dO,hx,hy,hz];have:=hb hf;have:=hi hf;have:=hj hf;refine⟨kx hf,ky hf,kz hf, ?_⟩;simp only[pN,fe,ct,cu,Int.ofNat_eq_natCast];omega) (fun hf=>by simp only[aV.val,dO,fe,hx,hy,hz];rw[hi hf,hj hf];simp) (fun ha=>h)
def BG {x y z:Src}{fx fy fz:Bool}{α:Type}{k:Nat}{q:α->D}{s:List α}{k2:IntKind}{a:Int}(i:Nat){k3:IntKind}{c:Int}(j:Nat)(h:aM Y draw r env (⟨f,.sl k (((s.take j).drop i).map q)⟩::rs) nx m K)(hg:GF rs g f:=by exact dt)(hx:cQ env rs x=⟨fx,.sl k (s.map q)⟩:=by exact rfl)(hy:cQ env rs y=⟨fy,.int k2 a⟩:=by exact rfl)(hz:cQ env rs z=⟨fz,.int k3 c⟩:=by exact rfl)(kx:f=true->fx=true:=by exact cv)(ky:f=true->fy=true:=by exact cv)(kz:f=true->fz=true:=by exact cv)(hi:f=true->a=(i:Int):=by exact wi)(hj:f=true->c=(j:Int):=by exact wi)(hb:f=true->i<=j/\j<=s.length:=by exact IL):aM Y draw (⟨.slA k x (some y) (some z),g⟩::r) env rs nx m K:=
 cg rfl hg _ (fun hf=>by simp only[aV.eA,Pu,dO,hx,hy,hz,bO];have:=hb hf;have:=hi hf;have:=hj hf;refine⟨kx hf,ky hf,kz hf,trivial, ?_⟩;simp only[pN,fe,ct,cu,Int.ofNat_eq_natCast];omega) (fun hf=>by simp only[aV.val,dO,fe,hx,hy,hz];rw[hi hf,hj hf];first|(simp only[List.take_length,Int.toNat_natCast,List.map_drop];done)|simp[List.map_drop,List.map_take]) (fun ha=>h)
def eZ {x:Src}{fx:Bool}{i:Nat}{ds:List D}(v:D)(h:aM Y draw r env (⟨f,v⟩::rs) nx m K)(hg:GF rs g f:=by exact dt)(hx:cQ env rs x=⟨fx,.tup ds⟩:=by exact rfl)(kx:f=true->fx=true:=by exact cv)(hv:f=true->ds.getD i .any=v:=by exact fun _=>rfl)(hb:f=true->i<ds.length:=by intro _;simp only[aP,a8];omega):aM Y draw (⟨.ext x i,g⟩::r) env rs nx m K:=
 cg rfl hg _ (fun hf=>by simp only[aV.eA,hx];exact⟨kx hf,hb hf⟩) (fun hf=>by simp only[aV.val,hx];exact hv hf) (fun ha=>h)
def df {z:List D}{ps:List (Nat×Nat×Src)}(v:List D)(h:aM Y draw r env (⟨f,.agg v⟩::rs) nx m K)(hg:GF rs g f:=by exact dt)(hv:f=true->AM (cQ env rs) z ps=v:=by exact fun _=>rfl)(ho:f=true->Di (cQ env rs) z.length ps:=by exact yW):aM Y draw (⟨.build z ps,g⟩::r) env rs nx m K:=
 cg rfl hg _ (fun hf=>ho hf) (fun hf=>by simp only[aV.val];rw[hv hf]) (fun _=>h)
def bg {z:List D}{ps:List (Nat×Nat×Src)}(d:D)(h:aM Y draw r env (⟨f,d⟩::rs) nx m K)(hg:GF rs g f:=by exact dt)(hv:f=true->D.agg (AM (cQ env rs) z ps)=d:=by exact fun _=>rfl)(ho:f=true->Di (cQ env rs) z.length ps:=by exact yW):aM Y draw (⟨.build z ps,g⟩::r) env rs nx m K:=
 cg rfl hg _ (fun hf=>ho hf) (fun hf=>by simp only[aV.val];exact hv hf) (fun _=>h)
def Ze {e:D}{n o:Nat}{ag:Bool}(h:e.isAgg=ag):nT e n n o ag=e:=by simp[nT,h]
def cA {x:Src}{fx:Bool}{n l:Nat}{ag:Bool}{d:D}(h:aM Y draw r env (⟨f,d⟩::rs) nx m K)(hg:GF rs g f:=by exact dt)(hx:cQ env rs x=⟨fx,.ptr l n 0 0⟩:=by exact rfl)(kx:f=true->fx=true:=by exact cv)(hl:f=true->look m l=some (.buf n [d]):=by exact fun _=>rfl)(ha:f=true->d.isAgg=ag:=by exact fun _=>rfl):aM Y draw (⟨.ld n ag x,g⟩::r) env rs nx m K:=
 iH rfl hg _ (fun hf=>by simp only[aV.eA,hx,Hh,fZ,hl hf];exact⟨kx hf,⟨trivial,aJ⟩,ae⟩) (fun hf=>by simp only[aV.val,hx,Dx,bD,hl hf,jC];exact Ze (ha hf)) m rfl (fun ha=>h)
def aT {x:Src}{fx:Bool}{n l k o:Nat}{ag:Bool}{d:D}(v:D)(h:aM Y draw r env (⟨f,v⟩::rs) nx m K)(hg:GF rs g f:=by exact dt)(hx:cQ env rs x=⟨fx,.ptr l k 0 o⟩:=by exact rfl)(kx:f=true->fx=true:=by exact cv)(hl:f=true->look m l=some (.buf k [d]):=by exact fun _=>rfl)(hv:f=true->nT d k n o ag=v:=by exact fun _=>rfl)(ho:o+n<=k:=by omega):aM Y draw (⟨.ld n ag x,g⟩::r) env rs nx m K:=
 iH rfl hg _ (fun hf=>by simp only[aV.eA,hx,Hh,fZ,hl hf];exact⟨kx hf,⟨trivial,aJ⟩,ho⟩) (fun hf=>by simp only[aV.val,hx,Dx,bD,hl hf,jC];exact hv hf) m rfl (fun ha=>h)
def Tk {x:Src}{fx:Bool}{n l k i o:Nat}{ag:Bool}{es:List D}(v:D)(h:aM Y draw r env (⟨f,v⟩::rs) nx m K)(hg:GF rs g f:=by exact dt)(hx:cQ env rs x=⟨fx,.ptr l k i o⟩:=by exact rfl)(kx:f=true->fx=true:=by exact cv)(hl:f=true->look m l=some (.buf k es):=by exact fun _=>rfl)(hi:f=true->i<es.length)(hv:f=true->nT (es.getD i .any) k n o ag=v)(ho:o+n<=k:=by omega):aM Y draw (⟨.ld n ag x,g⟩::r) env rs nx m K:=
 iH rfl hg _ (fun hf=>by simp only[aV.eA,hx,Hh,fZ,hl hf];exact⟨kx hf,⟨trivial,by have:=hi hf;omega⟩,ho⟩) (fun hf=>by simp only[aV.val,hx,Dx,bD,hl hf];exact hv hf) m rfl (fun ha=>h)
def qf {x:Src}{fx:Bool}{α:Type} [Inhabited α]{n l k i o:Nat}{ag:Bool}{q:α->D}{xs:List α}(v:D)(h:aM Y draw r env (⟨f,v⟩::rs) nx m K)(hg:GF rs g f:=by exact dt)(hx:cQ env rs x=⟨fx,.ptr l k i o⟩:=by exact rfl)(kx:f=true->fx=true:=by exact cv)(hl:f=true->look m l=some (.buf k (xs.map q)):=by exact fun _=>rfl)(hi:f=true->i<xs.length:=by exact vg)(hv:f=true->nT (q xs[i]!) k n o ag=v:=by exact fun _=>rfl)(ho:o+n<=k:=by omega):aM Y draw (⟨.ld n ag x,g⟩::r) env rs nx m K:=
 iH rfl hg _ (fun hf=>by simp only[aV.eA,hx,Hh,fZ,hl hf,bO];exact⟨kx hf,⟨trivial,by have:=hi hf;omega⟩,ho⟩) (fun hf=>by simp only[aV.val,hx,Dx,bD,hl hf];rw[getD_map (hi hf)];exact hv hf) m rfl (fun ha=>h)
def bE {x:Src}{fx:Bool}{α:Type} [Inhabited α]{n k i o:Nat}{ag:Bool}{q:α->D}{xs:List α}(v:D)(h:aM Y draw r env (⟨f,v⟩::rs) nx m K)(hg:GF rs g f:=by exact dt)(hx:cQ env rs x=⟨fx,.ref k (xs.map q) i o⟩:=by exact rfl)(kx:f=true->fx=true:=by exact cv)(hi:f=true->i<xs.length:=by exact vg)(hv:f=true->nT (q xs[i]!) k n o ag=v:=by exact fun _=>rfl)(ho:o+n<=k:=by omega):aM Y draw (⟨.ld n ag x,g⟩::r) env rs nx m K:=
 iH rfl hg _ (fun hf=>by simp only[aV.eA,hx,Hh,bO];exact⟨kx hf,hi hf,ho⟩) (fun hf=>by simp only[aV.val,hx,Dx];rw[getD_map (hi hf)];exact hv hf) m rfl (fun ha=>h)
def ff {x:Src}{fx:Bool}{n k i o:Nat}{ag:Bool}{es:List D}(v:D)(h:aM Y draw r env (⟨f,v⟩::rs) nx m K)(hg:GF rs g f:=by exact dt)(hx:cQ env rs x=⟨fx,.ref k es i o⟩:=by exact rfl)(kx:f=true->fx=true:=by exact cv)(hi:f=true->i<es.length:=by intro _;simp only[aP,a8];omega)(hv:f=true->nT (es.getD i .any) k n o ag=v:=by exact fun _=>rfl)(ho:o+n<=k:=by omega):aM Y draw (⟨.ld n ag x,g⟩::r) env rs nx m K:=
 iH rfl hg _ (fun hf=>by simp only[aV.eA,hx,Hh];exact⟨kx hf,hi hf,ho⟩) (fun hf=>by simp only[aV.val,hx,Dx];exact hv hf) m rfl (fun ha=>h)
def BF {x:Src}{fx:Bool}{n k i o:Nat}{ag:Bool}{es:List D}(v:D)(h:aM Y draw r env (⟨f,v⟩::rs) nx m K)(hg:GF rs g f:=by exact dt)(hx:cQ env rs x=⟨fx,.ref k es i o⟩:=by exact rfl)(kx:f=true->fx=true:=by exact cv)(hi:f=true->i<es.length:=by intro _;simp only[aP,a8];omega)(hv:f=true->nT (es.getD i .any) k n o ag=v:=by exact fun _=>rfl)(ho:o+n<=k:=by omega):aM Y draw (⟨.ldI n ag x,g⟩::r) env rs nx m K:=
 cg rfl hg _ (fun hf=>by simp only[aV.eA,hx,Hh];exact⟨kx hf,hi hf,ho⟩) (fun hf=>by simp only[aV.val,hx,Dx];exact hv hf) (fun ha=>h)
def r_box {x:Src}{fx:Bool}{k:Nat}{d:D}{L:Nat}{m2:List (Nat×bX)}(h:aM Y draw r env (⟨f,.ptr L k 0 0⟩::rs) nx m2 K)(hg:GF rs g f:=by exact dt)(hx:cQ env rs x=⟨fx,d⟩:=by exact rfl)(kx:f=true->fx=true:=by exact cv)(hc:d.cells.length=k:=by exact rfl)(hL:nx+rs.length=L:=by exact xS)(hm:dH m L (.buf k [d])=m2:=by simp only[dH,cJ,Nat.reduceEqDiff,aW,aX,Nat.reduceAdd,reduceCtorEq];exact rfl):aM Y draw (⟨.box k x,g⟩::r) env rs nx m K:=
 iH rfl hg _ (fun hf=>by simp only[aV.eA,hx];exact⟨kx hf,hc⟩) (fun hf=>by simp only[aV.val,hx,hL]) _ (by simp only[aV.c8,hx,hL];exact hm) (fun _=>h)
def r_mkB {L:Nat}{m2:List (Nat×bX)}(h:aM Y draw r env (⟨f,.ptr L 2 0 0⟩::rs) nx m2 K)(hg:GF rs g f:=by exact dt)(hL:nx+rs.length=L:=by exact xS)(hm:dH m L (.bld none 0 false)=m2:=by simp only[dH,cJ,Nat.reduceEqDiff,aW,aX,Nat.reduceAdd,reduceCtorEq];exact rfl):aM Y draw (⟨.mkB,g⟩::r) env rs nx m K:=
 iH rfl hg _ (fun _=>trivial) (fun hf=>by simp only[aV.val,hL]) _ (by simp only[aV.c8,hL];exact hm) (fun _=>h)
def r_s2b {x:Src}{fx:Bool}{s:List UInt8}{L:Nat}{m2:List (Nat×bX)}(h:aM Y draw r env (⟨f,.own L 1 0 s.length⟩::rs) nx m2 K)(hg:GF rs g f:=by exact dt)(hx:cQ env rs x=⟨fx,.str s⟩:=by exact rfl)(kx:f=true->fx=true:=by exact cv)(hL:nx+rs.length=L:=by exact xS)(hm:dH m L (.buf 1 (s.map fun b=>.int .u8 b.toNat))=m2:=by simp only[dH,cJ,Nat.reduceEqDiff,aW,aX,Nat.reduceAdd,reduceCtorEq];exact rfl):aM Y draw (⟨.s2b x,g⟩::r) env rs nx m K:=
 iH rfl hg _ (fun hf=>by simp only[aV.eA,hx];exact⟨kx hf,trivial⟩) (fun hf=>by simp only[aV.val,hx,hL]) _ (by simp only[aV.c8,hx,hL];exact hm) (fun _=>h)
def r_rng {x:Src}{fx:Bool}{s:List UInt8}{L:Nat}{m2:List (Nat×bX)}(h:aM Y draw r env (⟨f,.it L⟩::rs) nx m2 K)(hg:GF rs g f:=by exact dt)(hx:cQ env rs x=⟨fx,.str s⟩:=by exact rfl)(kx:f=true->fx=true:=by exact cv)(hL:nx+rs.length=L:=by exact xS)(hm:dH m L (.iter s 0)=m2:=by simp only[dH,cJ,Nat.reduceEqDiff,aW,aX,Nat.reduceAdd,reduceCtorEq];exact rfl):aM Y draw (⟨.yu x,g⟩::r) env rs nx m K:=
 iH rfl hg _ (fun hf=>by simp only[aV.eA,hx];exact⟨kx hf,trivial⟩) (fun hf=>by simp only[aV.val,hx,hL]) _ (by simp only[aV.c8,hx,hL];exact hm) (fun _=>h)
def dh {k n:Nat}{z:D}{ps:List (Nat×Src)}{L:Nat}{m2:List (Nat×bX)}(es:List D)(h:aM Y draw r env (⟨f,.own L k 0 n⟩::rs) nx m2 K)(hg:GF rs g f:=by exact dt)(he:nI (cQ env rs) (List.replicate n z) ps=es:=by exact rfl)(ho:f=true->uo (cQ env rs) k n ps:=by exact yW)(hz:z.cells.length=k:=by exact rfl)(hL:nx+rs.length=L:=by exact xS)(hm:dH m L (.buf k es)=m2:=by simp only[dH,cJ,Nat.reduceEqDiff,aW,aX,Nat.reduceAdd,reduceCtorEq];exact rfl):aM Y draw (⟨.bsl k z n ps,g⟩::r) env rs nx m K:=
 iH rfl hg _ (fun hf=>⟨hz,ho hf⟩) (fun hf=>by simp only[aV.val,hL]) _ (by simp only[aV.c8,he,hL];exact hm) (fun _=>h)
def Xn {k:Nat}{z:D}{x y:Src}{k1 k2:IntKind}{a c:Int}{L:Nat}{m2:List (Nat×bX)}(n:Nat)(h:aM Y draw r env (⟨true,.own L k 0 n⟩::rs) nx m2 K)(hx:cQ env rs x=⟨true,.int k1 a⟩:=by exact rfl)(hy:cQ env rs y=⟨true,.int k2 c⟩:=by exact rfl)(hn:a=(n:Int):=by first|exact rfl|omega)(hc:a<=c/\c<=1073741824:=by constructor<;>omega)(hz:z.cells.length=k:=by exact rfl)(hL:nx+rs.length=L:=by exact xS)(hm:dH m L (.buf k (List.replicate n z))=m2:=by simp only[dH,cJ,Nat.reduceEqDiff,aW,aX,Nat.reduceAdd,reduceCtorEq];exact rfl):aM Y draw (⟨.mks k z x y,none⟩::r) env rs nx m K:=
 sn rfl _ (by simp only[aV.eA,hx,hy];exact⟨trivial,trivial,hz,ae,hc.1,hc.2⟩) (by simp only[aV.val,hx,hL,D.nat,hn];rfl) _ (by simp only[aV.c8,hx,hL,D.nat,hn];exact hm) (fun _=>h)
def aI {n l k o:Nat}{x y:Src}{d v:D}{m2:List (Nat×bX)}(e:D)(h:aM Y draw r env (⟨true,.any⟩::rs) nx m2 K)(hx:cQ env rs x=⟨true,.ptr l k 0 o⟩:=by exact rfl)(hy:cQ env rs y=⟨true,v⟩:=by exact rfl)(hl:look m l=some (.buf k [d]):=by exact rfl)(hc:v.cells.length=n:=by exact rfl)(he:v7 d k n o v=e:=by exact rfl)(ho:o+n<=k:=by omega)(hm:dH m l (.buf k [e])=m2:=by simp only[dH,cJ,Nat.reduceEqDiff,aW,aX,Nat.reduceAdd,reduceCtorEq];exact rfl):aM Y draw (⟨.st n x y,none⟩::r) env rs nx m K:=
 sn rfl _ (by simp only[aV.eA,hx,hy,fZ,hl];exact⟨trivial,trivial,hc,⟨trivial,aJ⟩,ho⟩) rfl _ (by simp only[aV.c8,hx,hy,bD,hl,jC,List.set_cons_zero,he];exact hm) (fun _=>h)
def su {n l k i o:Nat}{x y:Src}{v:D}{es:List D}{m2:List (Nat×bX)}(es2:List D)(h:aM Y draw r env (⟨true,.any⟩::rs) nx m2 K)(hx:cQ env rs x=⟨true,.ptr l k i o⟩:=by exact rfl)(hy:cQ env rs y=⟨true,v⟩:=by exact rfl)(hl:look m l=some (.buf k es):=by exact rfl)(hi:i<es.length)(hc:v.cells.length=n:=by exact rfl)(he:es.set i (v7 (es.getD i .any) k n o v)=es2)(ho:o+n<=k:=by omega)(hm:dH m l (.buf k es2)=m2:=by simp only[dH,cJ,Nat.reduceEqDiff,aW,aX,Nat.reduceAdd,reduceCtorEq];exact rfl):aM Y draw (⟨.st n x y,none⟩::r) env rs nx m K:=
 sn rfl _ (by simp only[aV.eA,hx,hy,fZ,hl];exact⟨trivial,trivial,hc,⟨trivial,ae⟩,ho⟩) rfl _ (by simp only[aV.c8,hx,hy,bD,hl,he];exact hm) (fun _=>h)
def sR (m:List (Nat×bX))(k:Nat)(d:D)(ys:List D):Prop:=EN m k d/\rl m d=ys
def sR.sl {k:Nat}{es:List D}:sR m k (.sl k es) es:=⟨rfl,rfl⟩
def sR.bq {k:Nat}:sR m k .bq []:=⟨trivial,rfl⟩
def sR.own {l k i n:Nat}{es:List D}(hl:look m l=some (.buf k es))(hb:i+n<=es.length):sR m k (.own l k i n) ((es.drop i).take n):=⟨⟨rfl,by simp only[fZ,hl];exact⟨trivial,hb⟩⟩,by simp only[rl,bD,hl]⟩
def sR.all {l k n:Nat}{es:List D}(hl:look m l=some (.buf k es))(hb:n=es.length):sR m k (.own l k 0 n) es:=by
 have:=sR.own (i:=0) (n:=n) hl ae;simpa[hb]using this
def sR.str {s:List UInt8}:sR m 1 (.str s) (s.map fun b=>.int .u8 b.toNat):=⟨rfl,rfl⟩
def Tg {k n:Nat}{x y:Src}{d:D}{ys:List D}{L:Nat}{m2:List (Nat×bX)}(h:aM Y draw r env (⟨true,.own L k 0 n⟩::rs) nx m2 K)(hx:cQ env rs x=⟨true,.bq⟩:=by exact rfl)(hy:cQ env rs y=⟨true,d⟩:=by exact rfl)(he:sR m k d ys)(hn:ys.length=n)(hb:n<=1073741824:=by omega)(hL:nx+rs.length=L:=by exact xS)(hm:dH m L (.buf k ys)=m2:=by simp only[dH,cJ,Nat.reduceEqDiff,aW,aX,Nat.reduceAdd,reduceCtorEq];exact rfl):aM Y draw (⟨.app k x y,none⟩::r) env rs nx m K:=
 sn rfl _ (by simp only[aV.eA,hx,hy,he.2,hn];exact⟨trivial,trivial,he.1,hb⟩) (by simp only[aV.val,hx,hy,he.2,hn,hL]) _ (by simp only[aV.c8,hx,hy,he.2,hL];exact hm) (fun _=>h)
def L9 {k n:Nat}{y:Src}{fy:Bool}{d:D}{ys:List D}{L:Nat}{m2:List (Nat×bX)}(h:aM Y draw r env (⟨f,.own L k 0 n⟩::rs) nx m2 K)(hg:GF rs g f:=by exact dt)(hy:cQ env rs y=⟨fy,d⟩:=by exact rfl)(ky:f=true->fy=true:=by exact cv)(he:sR m k d ys)(hn:ys.length=n)(hb:n<=1073741824:=by omega)(hL:nx+rs.length=L:=by exact xS)(hm:dH m L (.buf k ys)=m2:=by simp only[dH,cJ,Nat.reduceEqDiff,aW,aX,Nat.reduceAdd,reduceCtorEq];exact rfl):aM Y draw (⟨.appN k y,g⟩::r) env rs nx m K:=
 iH rfl hg _ (fun hf=>by simp only[aV.eA,hy,he.2,hn];exact⟨ky hf,he.1,hb⟩) (fun hf=>by simp only[aV.val,hy,he.2,hn,hL]) _ (by simp only[aV.c8,hy,he.2,hL];exact hm) (fun _=>h)
def yr {k l i a n:Nat}{x y:Src}{d:D}{xs ys:List D}{L:Nat}{m2:List (Nat×bX)}(zs:List D)(h:aM Y draw r env (⟨true,.own L k 0 n⟩::rs) nx m2 K)(hx:cQ env rs x=⟨true,.own l k i a⟩:=by exact rfl)(hy:cQ env rs y=⟨true,d⟩:=by exact rfl)(hl:look m l=some (.buf k xs):=by exact rfl)(ha:i+a<=xs.length)(he:sR m k d ys)(hz:(xs.drop i).take a++ys=zs)(hn:a+ys.length=n)(hb:n<=1073741824:=by omega)(hL:nx+rs.length=L:=by exact xS)(hm:dH (cJ m l) L (.buf k zs)=m2:=by simp only[dH,cJ,Nat.reduceEqDiff,aW,aX,Nat.reduceAdd,reduceCtorEq];exact rfl):aM Y draw (⟨.app k x y,none⟩::r) env rs nx m K:=
 sn rfl _ (by simp only[aV.eA,hx,hy,he.2,fZ,hl,hn];exact⟨trivial,trivial,he.1,trivial,⟨trivial,ha⟩,hb⟩) (by simp only[aV.val,hx,hy,he.2,hn,hL]) _ (by simp only[aV.c8,hx,hy,he.2,bD,hl,hz,hL];exact hm) (fun _=>h)
def gV {α:Type}{q:α->D}{xs:List α}{e:α}{k l ly:Nat}{x y:Src}{L:Nat}{m2:List (Nat×bX)}(h:aM Y draw r env (⟨true,.own L k 0 (xs++[e]).length⟩::rs) nx m2 K)(hx:cQ env rs x=⟨true,.own l k 0 xs.length⟩:=by exact rfl)(hy:cQ env rs y=⟨true,.own ly k 0 1⟩:=by exact rfl)(hl:look m l=some (.buf k (xs.map q)):=by exact rfl)(he:look m ly=some (.buf k [q e]):=by exact rfl)(hb:xs.length+1<=1073741824:=by omega)(hL:nx+rs.length=L:=by exact xS)(hm:dH (cJ m l) L (.buf k ((xs++[e]).map q))=m2:=by simp only[dH,cJ,Nat.reduceEqDiff,aW,aX,Nat.reduceAdd,reduceCtorEq];exact rfl):aM Y draw (⟨.app k x y,none⟩::r) env rs nx m K:=
 yr (zs:=(xs++[e]).map q) (hx:=hx) (hy:=hy) (hl:=hl) (ha:=aJ) (he:=sR.all (es:=[q e]) he rfl) (hz:=by rw[bZ,ee aJ];simp) (hn:=aJ) (hb:=cZ) (hL:=hL) (hm:=hm) (h:=h)
def Th {α:Type}{q:α->D}{xs ys:List α}{k l:Nat}{x y:Src}{d:D}{L:Nat}{m2:List (Nat×bX)}(h:aM Y draw r env (⟨true,.own L k 0 (xs++ys).length⟩::rs) nx m2 K)(hx:cQ env rs x=⟨true,.own l k 0 xs.length⟩:=by exact rfl)(hy:cQ env rs y=⟨true,d⟩:=by exact rfl)(hl:look m l=some (.buf k (xs.map q)):=by exact rfl)(he:sR m k d (ys.map q))(hb:xs.length+ys.length<=1073741824:=by omega)(hL:nx+rs.length=L:=by exact xS)(hm:dH (cJ m l) L (.buf k ((xs++ys).map q))=m2:=by simp only[dH,cJ,Nat.reduceEqDiff,aW,aX,Nat.reduceAdd,reduceCtorEq];exact rfl):aM Y draw (⟨.app k x y,none⟩::r) env rs nx m K:=
 yr (zs:=(xs++ys).map q) (hx:=hx) (hy:=hy) (hl:=hl) (ha:=aJ) (he:=he) (hz:=by rw[bZ,ee aJ];simp) (hn:=aJ) (hb:=cZ) (hL:=hL) (hm:=hm) (h:=h)
def HD {x:Src}{fx:Bool}{d:D}{ys:List D}(s:List UInt8)(h:aM Y draw r env (⟨f,.str s⟩::rs) nx m K)(hg:GF rs g f:=by exact dt)(hx:cQ env rs x=⟨fx,d⟩:=by exact rfl)(kx:f=true->fx=true:=by exact cv)(he:f=true->sR m 1 d ys)(hs:f=true->ys=s.map fun b=>.int .u8 b.toNat)(hd:d.Zb=false:=by exact rfl):aM Y draw (⟨.b2s x,g⟩::r) env rs nx m K:=
 iH rfl hg _ (fun hf=>by
  simp only[aV.eA,hx,(he hf).2,hs hf];refine⟨kx hf,(by cases d<;>first|trivial|(cases hd)),(he hf).1,fun e hm=>?_⟩;obtain⟨b,_,rfl⟩:=ez.1 hm;have:=b.toNat_lt;exact⟨rfl,ae,ae⟩) (fun hf=>by simp only[aV.val,hx,(he hf).2,hs hf];rw[US]) m rfl (fun _=>h)
def Ft {x:Src}{l pos:Nat}{s:List UInt8}{m2:List (Nat×bX)}(c w:Nat)(h:aM Y draw r env (⟨true,.tup [.bool true,.int .i64 pos,.int .i32 c]⟩::rs) nx m2 K)(hx:cQ env rs x=⟨true,.it l⟩:=by exact rfl)(hl:look m l=some (.iter s pos):=by exact rfl)(hp:pos<s.length)(hc:wF s pos=(c,w))(hm:dH m l (.iter s (pos+w))=m2:=by simp only[dH,cJ,Nat.reduceEqDiff,aW,aX,Nat.reduceAdd,reduceCtorEq];exact rfl):aM Y draw (⟨.Gd x,none⟩::r) env rs nx m K:=
 sn rfl _ (by simp only[aV.eA,hx,hl];exact⟨trivial,trivial⟩) (by simp only[aV.val,hx,hl,hc,hp,decide_true,cond_true]) _ (by simp only[aV.c8,hx,hl,hc,hp,decide_true,cond_true];exact hm) (fun _=>h)
def Fs {x:Src}{l pos:Nat}{s:List UInt8}(h:aM Y draw r env (⟨true,.tup [.bool false]⟩::rs) nx m K)(hx:cQ env rs x=⟨true,.it l⟩:=by exact rfl)(hl:look m l=some (.iter s pos):=by exact rfl)(hp:¬pos<s.length):aM Y draw (⟨.Gd x,none⟩::r) env rs nx m K:=
 sn rfl _ (by simp only[aV.eA,hx,hl];exact⟨trivial,trivial⟩) (by simp only[aV.val,hx,hl,hp,decide_false,cond_false]) _ (by simp only[aV.c8,hx,hl,hp,decide_false,cond_false]) (fun _=>h)
def aq {n:Nat}{args:List Src}{sh:List (List Sh)}{apT:List D}{v:D}(h:aM Y draw r env (⟨f,v⟩::rs) nx m K)(hg:GF rs g f:=by exact dt)(hc:Y.pre n apT/\Y.val n apT=v)(ha:f=true->oK m sh (jo (cQ env rs) args)=apT:=by exact fun _=>rfl)(ho:f=true->xo (cQ env rs) args:=by exact yW)(hp:f=true->lv m sh (jo (cQ env rs) args):=by exact yW)(hk:f=true->uf (jo (cQ env rs) args) v=true:=by exact fun _=>rfl):aM Y draw (⟨.call n args sh,g⟩::r) env rs nx m K:=
 iH rfl hg _ (fun hf=>by simp only[aV.eA,(eB _ _ _).1,ha hf,hc.2];exact⟨ho hf,(eB _ _ _).2.2 (hp hf),hc.1,hk hf⟩) (fun hf=>by simp only[aV.val,(eB _ _ _).1,ha hf,hc.2]) m rfl (fun _=>h)
def c9 {n:Nat}{args:List Src}{sh:List (List Sh)}{apT:List D}{v:D}(h:aM Y draw r env (⟨f,v⟩::rs) nx m K)(hg:GF rs g f:=by exact dt)(hc:f=true->Y.pre n apT/\Y.val n apT=v)(ha:f=true->oK m sh (jo (cQ env rs) args)=apT:=by exact fun _=>rfl)(ho:f=true->xo (cQ env rs) args:=by exact yW)(hp:f=true->lv m sh (jo (cQ env rs) args):=by exact yW)(hk:f=true->uf (jo (cQ env rs) args) v=true:=by exact fun _=>rfl):aM Y draw (⟨.call n args sh,g⟩::r) env rs nx m K:=
 iH rfl hg _ (fun hf=>by simp only[aV.eA,(eB _ _ _).1,ha hf,(hc hf).2];exact⟨ho hf,(eB _ _ _).2.2 (hp hf),(hc hf).1,hk hf⟩) (fun hf=>by simp only[aV.val,(eB _ _ _).1,ha hf,(hc hf).2]) m rfl (fun _=>h)
def V8 {n:Nat}{x:Src}{fx:Bool}{caps:List D}{args:List Src}{sh:List (List Sh)}{apT:List D}{v:D}(h:aM Y draw r env (⟨f,v⟩::rs) nx m K)(hg:GF rs g f:=by exact dt)(hx:cQ env rs x=⟨fx,.fn n caps⟩:=by exact rfl)(kx:f=true->fx=true:=by exact cv)(hb:n<1000000:=by decide)(hc:f=true->Y.pre n apT/\Y.val n apT=v)(ha:f=true->oK m sh (jo (cQ env rs) args++caps)=apT:=by exact fun _=>rfl)(ho:f=true->xo (cQ env rs) args:=by exact yW)(hp:f=true->lv m sh (jo (cQ env rs) args++caps):=by exact yW)(hk:f=true->uf (jo (cQ env rs) args++caps) v=true:=by exact fun _=>rfl):aM Y draw (⟨.callv x args sh,g⟩::r) env rs nx m K:=
 iH rfl hg _ (fun hf=>by simp only[aV.eA,hx,(eB _ _ _).1,ha hf,(hc hf).2];exact⟨kx hf,ho hf,hb,(eB _ _ _).2.2 (hp hf),(hc hf).1,hk hf⟩) (fun hf=>by simp only[aV.val,hx,(eB _ _ _).1,ha hf,(hc hf).2]) m rfl (fun _=>h)
def Xm {n:Nat}{caps:List Src}(cs:List D)(h:aM Y draw r env (⟨f,.fn n cs⟩::rs) nx m K)(hg:GF rs g f:=by exact dt)(hc:f=true->jo (cQ env rs) caps=cs:=by exact fun _=>rfl)(ho:f=true->xo (cQ env rs) caps:=by exact yW):aM Y draw (⟨.mkf n caps,g⟩::r) env rs nx m K:=
 cg rfl hg _ (fun hf=>ho hf) (fun hf=>by simp only[aV.val,hc hf]) (fun _=>h)
def nV {n l k:Nat}{x:Src}{args:List Src}{sh:List (List Sh)}{d v e:D}{apT:List D}{m2:List (Nat×bX)}(h:aM Y draw r env (⟨true,v⟩::rs) nx m2 K)(hx:cQ env rs x=⟨true,.ptr l k 0 0⟩:=by exact rfl)(hl:look m l=some (.buf k [d]):=by exact rfl)(hd:d.bJ=true:=by exact rfl)(hc:Y.fp n d apT/\Y.fv n d apT=v/\Y.fs n d apT=e)(ha:oK [] sh (jo (cQ env rs) args)=apT:=by exact rfl)(ho:xo (cQ env rs) args:=by repeat' first|exact trivial|exact rfl|refine And.intro ?_ ?_|decide)(hn:bH (jo (cQ env rs) args)=true:=by exact rfl)(hm:dH m l (.buf k [e])=m2:=by simp only[dH,cJ,Nat.reduceEqDiff,aW,aX,Nat.reduceAdd,reduceCtorEq];exact rfl):aM Y draw (⟨.callF n x args sh,none⟩::r) env rs nx m K:=
 sn rfl _ (by simp only[aV.eA,hx,fZ,bD,hl,jC,(eB _ _ _).1,ha];exact⟨trivial,ho,hn,trivial,trivial,⟨trivial,aJ⟩,aJ,hd,hc.1⟩) (by simp only[aV.val,hx,bD,hl,jC,(eB _ _ _).1,ha,hc.2.1]) _ (by simp only[aV.c8,hx,bD,hl,jC,(eB _ _ _).1,ha,hc.2.2];exact hm) (fun _=>h)
end
end
end Go.Abs
section
namespace Go.Abs
abbrev au:=List UInt8
structure cq where
 major:Int
 minor:Int
 patch:Int
 pre:au
 build:au
 deriving Inhabited,DecidableEq
def cq.D (v:cq):D:=.agg [.int .i64 v.major,.int .i64 v.minor,.int .i64 v.patch,.str v.pre,.str v.build]
structure wq where
 name:au
 v:cq
 shelf:au
 sum:Int
 feats:List au
 deriving Inhabited,DecidableEq
def wq.D (x:wq):D:=.agg [.str x.name,.int .i64 x.v.major,.int .i64 x.v.minor,.int .i64 x.v.patch,.str x.v.pre,.str x.v.build,.str x.shelf,.int .u64 x.sum,.sl 1 (x.feats.map D.str)]
structure Env where
 e0:au
 e1:au
 e2:au
 deriving Inhabited,DecidableEq
def Env.D (e:Env):D:=.agg [.str e.e0,.str e.e1,.str e.e2]
structure F7 where
 env:Env
 lines:List wq
 deriving Inhabited,DecidableEq
def F7.D (l:F7):D:=.agg [.str l.env.e0,.str l.env.e1,.str l.env.e2,.sl 9 (l.lines.map wq.D)]
end Go.Abs
namespace Go.Abs
theorem vH (a b:List UInt8):YY (.str a) (.str b)=decide (a=b):=qt a b
theorem zb (k k2:IntKind)(a b:Int):YY (.int k a) (.int k2 b)=decide (a=b):=rfl
def cq.eq (a b:cq):jt (cq.D a).cells (cq.D b).cells=decide (a=b):=by
 obtain⟨a1,a2,a3,a4,a5⟩:=a;obtain⟨b1,b2,b3,b4,b5⟩:=b
 grind [cq.D,D.cells,jt,vH,zb]
def Env.eq (a b:Env):jt (Env.D a).cells (Env.D b).cells=decide (a=b):=by
 obtain⟨a1,a2,a3⟩:=a;obtain⟨b1,b2,b3⟩:=b
 grind [Env.D,D.cells,jt,vH,zb]
theorem cq.inj {a b:cq}(h:cq.D a=cq.D b):a=b:=by
 obtain⟨a1,a2,a3,a4,a5⟩:=a;obtain⟨b1,b2,b3,b4,b5⟩:=b
 grind [cq.D]
theorem Env.inj {a b:Env}(h:Env.D a=Env.D b):a=b:=by
 obtain⟨a1,a2,a3⟩:=a;obtain⟨b1,b2,b3⟩:=b
 grind [Env.D]
theorem map_inj {α:Type}{q:α->D}(hq:∀a b,q a=q b->a=b):∀{xs ys:List α},xs.map q=ys.map q->xs=ys
 |[],[],_=>rfl
 |[],_::_,h=>by simp at h
 |_::_,[],h=>by simp at h
 |a::r,b::s,h=>by
  simp only[List.map_cons,oU]at h;rw[hq a b h.1,map_inj hq h.2]
theorem str_inj (a b:List UInt8)(h:D.str a=D.str b):a=b:=by simpa using h
theorem wq.inj {a b:wq}(h:wq.D a=wq.D b):a=b:=by
 obtain⟨a1,⟨v1,v2,v3,v4,v5⟩,a2,a3,a4⟩:=a;obtain⟨b1,⟨w1,w2,w3,w4,w5⟩,b2,b3,b4⟩:=b
 grind [wq.D,map_inj,str_inj]
theorem F7.inj {a b:F7}(h:F7.D a=F7.D b):a=b:=by
 obtain⟨⟨a1,a2,a3⟩,a4⟩:=a;obtain⟨⟨b1,b2,b3⟩,b4⟩:=b
 grind [F7.D,map_inj,wq.inj]
end Go.Abs
end
section
namespace Go.Abs
def allI (p:Nat->Bool):Nat->Nat->Bool
 |_,0=>true
 |i,k+1=>p i&&allI p (i+1) k
def cS (p:Nat->Bool)(i n:Nat):Bool:=allI p i (n-i)
theorem aU {p:Nat->Bool}{i n:Nat}(h:i<n):cS p i n=(p i&&cS p (i+1) n):=by
 unfold cS;rw[show n-i=(n-(i+1))+1 by omega];rfl
def cn {p:Nat->Bool}{i n:Nat}(h:n<=i):cS p i n=true:=by
 unfold cS;rw[show n-i=0 by omega];rfl
theorem Gv {p:Nat->Bool}:∀{k i:Nat},allI p i k=true↔∀j,i<=j->j<i+k->p j=true
 |0,i=>by simp[allI];intro j h1 h2;omega
 |k+1,i=>by
  simp only[allI,bC,Gv (k:=k)]
  grind
theorem eD {p:Nat->Bool}{i n:Nat}:cS p i n=true↔∀j,i<=j->j<n->p j=true:=by
 grind [cS,Gv]
end Go.Abs
namespace Go.Abs
def aH {a a' b b':D}(h1:a=a')(h2:b=b'):D.tup [a,b]=D.tup [a',b']:=by rw[h1,h2]
def dj {a a' b b' c c':D}(h1:a=a')(h2:b=b')(h3:c=c'):D.tup [a,b,c]=D.tup [a',b',c']:=by rw[h1,h2,h3]
end Go.Abs
namespace Go.Abs
def ld8 (s:au)(i:Nat):nT (D.int .u8 (s[i]!).toNat) 1 1 0 false=.int .u8 (at8 s i):=by
 simp only[nT,D.isAgg,at8];simp;rfl
end Go.Abs
namespace Go.Abs
def vE (s:au)(pos:Nat)(h:pos<s.length):∃c w,wF s pos=(c,w)/\1<=w/\((w=1/\(c:Int)=at8 s pos/\c<128)\/(128<=c/\128<=at8 s pos)):=by
 refine⟨(wF s pos).1,(wF s pos).2,rfl, ?_⟩;have e:wF s pos=Lib.decodeN (s.length-pos) (s.getD pos 0).toNat (s.getD (pos+1) 0).toNat (s.getD (pos+2) 0).toNat (s.getD (pos+3) 0).toNat:=Lib.decode_N ⟨⟨s⟩⟩ pos;rw[e];unfold at8;generalize (s.getD pos 0).toNat=b0;generalize (s.getD (pos+1) 0).toNat=b1;generalize (s.getD (pos+2) 0).toNat=b2;generalize (s.getD (pos+3) 0).toNat=b3;generalize s.length-pos=n;by_cases hb:b0<128
 .unfold Lib.decodeN;rw[aw hb];exact⟨aL _,.inl ⟨rfl,rfl,hb⟩⟩
 .unfold Lib.decodeN
  grind
end Go.Abs
namespace Go.Abs
def pB {α:Type}{q:α->D}{xs:List α}{m:List (Nat×bX)}{l:Nat}(hq:∀x,xV m [.a] (q x)=q x)(hl:look m l=some (.buf 1 (xs.map q))):xV m [.sl 1 [.a]] (.own l 1 0 xs.length)=.sl 1 (xs.map q):=by
 show D.sl 1 _=_;simp only[bD,hl,bZ,aN,List.map_map];congr 1;apply List.map_congr_left;intro x _;have:=hq x;simp only[Function.comp];generalize q x=d at this;cases d<;>exact this
def nj {α:Type}{q:α->D}{xs:List α}{m:List (Nat×bX)}{l:Nat}(hq:∀x,Uj m [.a] (q x))(hl:look m l=some (.buf 1 (xs.map q))):Uj m [.sl 1 [.a]] (.own l 1 0 xs.length):=by
 grind [Uj,Xs,Xr,fZ,bD,aN]
end Go.Abs
end
namespace Go.Abs
def iG (c:Int):Bool:=decide (97<=c)&&decide (c<=122)
def bn (c:Int):Bool:=decide (48<=c)&&decide (c<=57)
def zy (c:Int):Bool:=iG c ||bn c ||decide (c=95)
def cW (s:au):Bool:=decide (1<=s.length)&&decide (s.length<=12)&&cS (fun i=>zy (at8 s i)) 0 s.length
def Zi (s:au)(i:Nat):Bool:=(iG (at8 s i) ||bn (at8 s i) ||decide (at8 s i=45))&& !(decide (at8 s i=45)&&decide (at8 s (i-1)=45))
def dL (s:au):Bool:=decide (1<=s.length)&&decide (s.length<=16)&&iG (at8 s 0)&& !decide (at8 s (s.length-1)=45)&&cS (Zi s) 1 s.length
def pK (s:au)(i:Nat):Bool:=iG (at8 s i) ||(bn (at8 s i)&& !decide (i=0)) ||(decide (at8 s i=45)&& !decide (i=0)&& !decide (i=s.length-1)&& !decide (at8 s (i-1)=45))
def VL (s:au)(h1:1<=s.length)(h2:s.length<=16):dL s=cS (pK s) 0 s.length:=by
 rw[Bool.eq_iff_iff];simp only[dL,ca h1,ca h2,gH,bC,bd,bc,eD];constructor
 .rintro⟨⟨h3,h4⟩,h5⟩ j _ hj;rcases Nat.eq_zero_or_pos j with rfl|hp
  .simp[pK,h3]
  .have:=h5 j hp hj;simp only[Zi,bC,cN,bd,dz,aK,bc]at this;simp only[pK,bC,cN,bd,aK,bc];rcases this with⟨(h6|h6)|h6,h7⟩
   .exact Or.inl (Or.inl h6)
   .exact Or.inl (Or.inr ⟨h6,ae⟩)
   .refine Or.inr ⟨⟨⟨h6,ae⟩, ?_⟩, ?_⟩
    .rintro rfl;exact h4 h6
    .rcases h7 with h7|h7
     .exact absurd h6 h7
     .exact h7
 .intro h;have h0:=h 0 ae ae;have hlow:iG (at8 s 0)=true:=by simpa[pK]using h0
  refine⟨⟨hlow, ?_⟩,fun j hj1 hj2=>?_⟩
  .intro he;have hl:=h (s.length-1) ae ae;rcases Nat.eq_or_lt_of_le h1 with e|e
   .rw[<-e]at he;simp only[Nat.sub_self]at he;simp only[iG,bC,aK]at hlow;omega
   .simp only[pK,he,iG,bn]at hl;simp at hl
  .have:=h j ae hj2;simp only[pK,bC,cN,bd,aK,bc]at this;simp only[Zi,bC,cN,bd,dz,aK,bc];rcases this with(h6|h6)|h6
   .refine⟨Or.inl (Or.inl h6),Or.inl ?_⟩;simp only[iG,bC,aK]at h6;omega
   .refine⟨Or.inl (Or.inr h6.1),Or.inl ?_⟩;have:=h6.1;simp only[bn,bC,aK]at this;omega
   .exact⟨Or.inr h6.1.1.1,Or.inr h6.2⟩
def dM (s:au):Nat:=s.foldl (fun n b=>n*10+(b.toNat-48)) 0
def fW (s:au):Bool:=decide (1<=s.length)&&decide (s.length<=9)&& !(decide (1<s.length)&&decide (at8 s 0=48))&&cS (fun i=>bn (at8 s i)) 0 s.length&&decide (dM s<=9999)
def eg (s:au):Int:=if fW s=true then(dM s:Int)else 0
theorem lI (s:au)(i:Nat)(h:i<s.length):s.take (i+1)=s.take i++[s.getD i 0]:=by
 rw[List.take_succ];simp[h]
def yn (s:au)(i:Nat)(h:i<s.length):dM (s.take (i+1))=dM (s.take i)*10+((at8 s i).toNat-48):=by
 rw[lI s i h];simp[dM,List.foldl_append,at8]
def Pt (s:au):dM s+23<=23*10^s.length:=by
 have:∀(s:au) (n k:Nat),n+23<=23*10^k->s.foldl (fun n b=>n*10+(b.toNat-48)) n+23<=23*10^(k+s.length):=by
  intro s;induction s with
  |nil=>intro n k h;simpa using h
  |cons b r ih=>
   intro n k h;have hb:=b.toNat_lt;have:=ih (n*10+(b.toNat-48)) (k+1) (by rw[Nat.pow_succ];omega);simp only[List.foldl_cons,aP];rw[show k+(r.length+1)=k+1+r.length by omega];exact this
 have:=this s 0 0 aJ;simpa[dM]using this
def vW (s:au)(i:Nat)(h:i<=9):dM (s.take i)<=23000000000:=by
 have h1:=Pt (s.take i);have h2:(s.take i).length<=9:=cZ;have h3:10^(s.take i).length<=10^9:=Nat.pow_le_pow_right ae h2;omega
def Hs (s:au):∀n:Nat,s.foldl (fun n b=>n*10+(b.toNat-48)) n=n*10^s.length+dM s:=by
 unfold dM;induction s with
 |nil=>intro n;simp
 |cons b r ih=>
  intro n;simp only[List.foldl_cons,aP];rw[ih,ih (0*10+(b.toNat-48)),Nat.pow_succ];simp only[Nat.zero_mul,bR,Nat.add_mul];rw[Nat.mul_assoc n 10,Nat.mul_comm 10];omega
def ym (b:UInt8)(r:au):dM (b::r)=(b.toNat-48)*10^r.length+dM r:=by
 have:=Hs r (0*10+(b.toNat-48));simp only[dM,List.foldl_cons]at this⊢;rw[this];simp
def yc {b:UInt8}{r:au}(h:cS (fun i=>bn (at8 (b::r) i)) 0 (b::r).length=true):bn b.toNat=true/\cS (fun i=>bn (at8 r i)) 0 r.length=true:=by
 rw[eD]at h;refine⟨by simpa[at8]using h 0 ae aJ, ?_⟩;rw[eD];intro j _ hj;simpa[at8]using h (j+1) ae cZ
def DK:∀(s:au),cS (fun i=>bn (at8 s i)) 0 s.length=true->dM s<10^s.length
 |[],_=>by simp[dM]
 |b::r,h=>by
  obtain⟨h1,h2⟩:=yc h;have:=DK r h2;rw[ym,aP,Nat.pow_succ];simp only[bn,bC,aK]at h1;have h3:b.toNat-48<=9:=ae;have:=fo (10^r.length) h3;omega
theorem DJ {b:UInt8}{r:au}(h:49<=b.toNat):10^r.length<=dM (b::r):=by
 rw[ym];have:=fo (10^r.length) (show 1<=b.toNat-48 by omega);omega
theorem Fe (s:au):fW s=(decide (1<=s.length)&&decide (s.length<=4)&& !(decide (1<s.length)&&decide (at8 s 0=48))&&cS (fun i=>bn (at8 s i)) 0 s.length):=by
 unfold fW;cases hd:cS (fun i=>bn (at8 s i)) 0 s.length with
 |false=>simp
 |true=>
  have hlt:=DK s hd;by_cases h4:s.length<=4
  .have:10^s.length<=10^4:=Nat.pow_le_pow_right ae h4;rw[ca h4,ca (by omega:s.length<=9),ca (by omega:dM s<=9999)];simp
  .rw[cI h4]
   match s,hd,h4 with
   |b::r,hd,h4=>
    by_cases h0:at8 (b::r) 0=48
    .rw[ca h0,ca (by omega:1<(b::r).length)];simp
    .have h1:=(yc hd).1;simp only[bn,bC,aK]at h1;have h2:49<=b.toNat:=by
      simp[at8]at h0;omega
     have h3:=DJ (r:=r) h2;have:10^4<=10^r.length:=Nat.pow_le_pow_right ae (by simp at h4;omega);rw[cI (by omega:¬dM (b::r)<=9999)];simp
def dg (n:Nat):UInt8:=UInt8.ofNat (48+n)
def EK:Nat->Nat->au
 |0,n=>[dg n]
 |f+1,n=>if n<10 then [dg n]else EK f (n/10)++[dg (n%10)]
def dJ (n:Nat):au:=EK n n
def Li:∀(f g n:Nat),n<=f->n<=g->EK f n=EK g n
 |0,0,n,_,_=>rfl
 |0,g+1,n,h,_=>by
  obtain rfl:n=0:=ae;simp[EK]
 |f+1,0,n,_,h=>by
  obtain rfl:n=0:=ae;simp[EK]
 |f+1,g+1,n,h1,h2=>by
  simp only[EK];split
  .rfl
  .rw[Li f g (n/10) ae ae]
theorem mK {n:Nat}(h:n<10):dJ n=[dg n]:=by
 unfold dJ;cases n<;>simp[EK,h]
theorem nP {n:Nat}(h:9<n):dJ n=dJ (n/10)++[dg (n%10)]:=by
 unfold dJ;obtain⟨k,rfl⟩:∃k,n=k+1:=⟨n-1,ae⟩
 simp only[EK];rw[ak ae,Li k ((k+1) /10) _ ae ae]
def eK:∀(k n:Nat),n<10^k->0<k->(dJ n).length<=k:=by
 intro k;induction k with
 |zero=>intro n _ h;omega
 |succ k ih=>
  intro n h _;by_cases h10:n<10
  .rw[mK h10];simp
  .rw[nP ae];have hk:0<k:=by
    rcases Nat.eq_zero_or_pos k with rfl|h0
    .simp at h;omega
    .exact h0
   have:=ih (n/10) (by rw[Nat.pow_succ]at h;omega) hk;simp;omega
theorem Dc {n:Nat}(h:n<10):((dg n).toNat:Int)=48+n:=by
 have:(48+n)%256=48+n:=Nat.mod_eq_of_lt ae;simp[dg,this]
def cE (b:Int):au->au->List au
 |[],cur=>[cur]
 |c::r,cur=>if(c.toNat:Int)=b then cur::cE b r []else cE b r (cur++[c])
def ai (s:au)(b:Int):List au:=cE b s []
def mL (s:au)(i:Nat)(h:i<s.length):s.drop i=s.getD i 0::s.drop (i+1):=by
 rw[je h];simp[h]
def D6 {s:au}{b:Int}{i fr:Nat}(h:i<s.length)(he:at8 s i=b):cE b (s.drop i) ((s.take i).drop fr)=((s.take i).drop fr)::cE b (s.drop (i+1)) ((s.take (i+1)).drop (i+1)):=by
 rw[mL s i h];have h2:(s.take (i+1)).drop (i+1)=[]:=aJ;rw[h2];simp only[cE];rw[aw (by simpa[at8]using he)]
def D7 {s:au}{b:Int}{i fr:Nat}(h:i<s.length)(hf:fr<=i)(he:¬at8 s i=b):cE b (s.drop i) ((s.take i).drop fr)=cE b (s.drop (i+1)) ((s.take (i+1)).drop fr):=by
 rw[mL s i h,lI s i h,List.drop_append_of_le_length cZ];simp only[cE];rw[ak (by simpa[at8]using he)]
def B6 {s:au}{b:Int}{i fr:Nat}(h:s.length<=i):cE b (s.drop i) ((s.take i).drop fr)=[s.drop fr]:=by
 rw[lM h,ee h];rfl
def uV (b:Int):∀(s cur:au),(cE b s cur).length<=s.length+1
 |[],cur=>by simp[cE]
 |c::r,cur=>by
  simp only[cE];split
  .have:=uV b r [];simp;omega
  .have:=uV b r (cur++[c]);simp;omega
theorem dm (s:au)(b:Int):(ai s b).length<=s.length+1:=uV b s []
theorem er (b:Int)(s cur:au):1<=(cE b s cur).length:=by
 induction s generalizing cur with
 |nil=>simp[cE]
 |cons c r ih=>
  simp only[cE];split
  .simp
  .exact ih _
def iz (s:au)(b:Int)(i:Nat):au×au:=match(s.drop i).findIdx? (fun c=>decide ((c.toNat:Int)=b))with
 |some k=>(s.drop (i+k+1),s.take (i+k))
 |none=>([],s)
def aG (s:au)(b:Int):au×au:=iz s b 0
def Aw {s:au}{b:Int}{i:Nat}(h:i<s.length)(he:at8 s i=b):iz s b i=(s.drop (i+1),s.take i):=by
 unfold iz;rw[mL s i h,List.findIdx?_cons];simp only[at8]at he;rw[aw (by simpa using he)];rfl
def Ax {s:au}{b:Int}{i:Nat}(h:i<s.length)(he:¬at8 s i=b):iz s b i=iz s b (i+1):=by
 unfold iz;rw[mL s i h,List.findIdx?_cons];simp only[at8]at he;simp only[he,decide_false,fS,aX];cases(s.drop (i+1)).findIdx? (fun c=>decide ((c.toNat:Int)=b))with
 |none=>rfl
 |some k=>simp only[Option.map_some];rw[show i+(k+1)=i+1+k by omega]
def xY {s:au}{b:Int}{i:Nat}(h:s.length<=i):iz s b i=([],s):=by
 unfold iz;rw[lM h];rfl
def nX (c:Int):Bool:=iG c ||bn c ||decide (c=45)
def sJ (t:au):Bool:=decide (1<=t.length)&&decide (t.length<=8)&&cS (fun i=>nX (at8 t i)) 0 t.length
def dd (t:au):Bool:=cS (fun i=>bn (at8 t i)) 0 t.length&&decide (0<t.length)
def iT (p:Bool)(t:au):Bool:=sJ t&& !(p&&dd t&& !fW t)
def px (s:au)(p:Bool):Bool:=decide ((ai s 46).length<=4)&&cS (fun i=>iT p (ai s 46)[i]!) 0 (ai s 46).length
def sK (s:au)(p:Bool):Bool:=decide (s=[]) ||px s p
def qz (n:Int):Bool:=decide (0<=n)&&decide (n<=9999)
def e8 (v:cq):Bool:=qz v.major&&qz v.minor&&qz v.patch&&sK v.pre true&&sK v.build false
def sN (v:cq):au:=dJ v.major.toNat++[46]++dJ v.minor.toNat++[46]++dJ v.patch.toNat++(if v.pre=[]then []else 45::v.pre)++(if v.build=[]then []else 43::v.build)
def kf (v:cq):au:=if e8 v=true then sN v else []
def cq.sm (v:cq):Prop:=v.pre.length<=1048576/\v.build.length<=1048576
def VZ (a b:Int):Int:=IntKind.u64.wrap ((BitVec.ofInt 64 a |||BitVec.ofInt 64 b).toNat)
def Cl (a b:Int):Int:=IntKind.u64.wrap ((BitVec.ofInt 64 a^^^BitVec.ofInt 64 b).toNat)
def tW (a:Int)(k:Nat):Int:=IntKind.u64.wrap (a*2^k)
def sG (a:Int)(k:Nat):Int:=a.fdiv (2^k)
def ZP (h:Int)(k:Nat):Int:=VZ (tW h k) (sG h (64-k))
def Mo (h:Int)(c:Int):Int:=IntKind.u64.wrap (ZP (Cl h c) 13*18397679294719823053)
def xM (s:au):Int:=s.foldl (fun h c=>Mo h c.toNat) 11400714819323198485
def Iq (s:au):Int:=Cl (xM s) (sG (xM s) 29)
def Ed (s:au)(i:Nat)(h:i<s.length):xM (s.take (i+1))=Mo (xM (s.take i)) (at8 s i):=by
 grind [lI,xM,at8]
def LZ (n:Int)(i:Nat):Nat:=(BitVec.ofInt 64 (sG n (4*i))&&&15#64).toNat
theorem xl (n:Int)(i:Nat):LZ n i<16:=by
 unfold LZ;rw[BitVec.toNat_and];exact Nat.lt_of_le_of_lt Nat.and_le_right aF
def Hp (n:Int)(i:Nat):IntKind.u64.wrap ((BitVec.ofInt 64 (sG n (4*i))&&&BitVec.ofInt 64 15).toNat)=(LZ n i:Nat):=by
 have h:=xl n i;unfold LZ at h⊢;have e:BitVec.ofInt 64 15=15#64:=aF;rw[e,IntKind.wrap_u64];omega
def tK (k:Nat):UInt8:=([48,49,50,51,52,53,54,55,56,57,97,98,99,100,101,102]:au).getD k 0
def fQ (n:Int):au:=(List.range 16).map fun j=>tK (LZ n (15-j))
theorem ig (n:Int):(fQ n).length=16:=by simp[fQ]
def KR (n:Int)(k:Nat)(h:k<=16):((fQ n).take k).length=k:=by simp[ig];omega
def B8 (n:Int)(k:Nat)(h:k<16):(fQ n).take (k+1)=(fQ n).take k++[([48,49,50,51,52,53,54,55,56,57,97,98,99,100,101,102]:au).getD (LZ n (15-k)) 0]:=by
 grind [lI,ig,fQ,tK]
def Vu (k:Nat)(h:k<10):((tK k).toNat:Int)=48+k:=by
 have:∀k:Fin 10,((tK k.1).toNat:Int)=48+k.1:=aF
 exact this ⟨k,h⟩
def Vt (k:Nat)(h:10<=k)(h2:k<16):((tK k).toNat:Int)=87+k:=by
 have:∀k:Fin 16,10<=k.1->((tK k.1).toNat:Int)=87+k.1:=aF
 exact this ⟨k,h2⟩ h
def we (n:Int)(i:Nat):au:=List.replicate (16-i) 0++(fQ n).drop (16-i)
theorem tC (n:Int)(i:Nat):(we n i).length=16:=by simp[we,ig]
def Qs (n:Int):we n 16=fQ n:=by simp[we]
def Qt (n:Int)(i:Nat)(h:i<16):we n (i+1)=(we n i).set (15-i) (tK (LZ n i)):=by
 apply List.ext_getElem
 .simp[tC]
 grind [tC,we,fQ]
def jI (c:Int):Bool:=bn c ||(decide (97<=c)&&decide (c<=102))
def rp (c:Int):Int:=if bn c=true then c-48 else c-87
def sw (n c:Int):Int:=VZ (tW n 4) (rp c)
def oL (s:au):Int:=s.foldl (fun n c=>sw n c.toNat) 0
def uR (s:au)(i:Nat)(h:i<s.length):oL (s.take (i+1))=sw (oL (s.take i)) (at8 s i):=by
 grind [lI,oL,at8]
def iQ (s:au):Bool:=decide (s.length=16)&&cS (fun i=>jI (at8 s i)) 0 s.length
def pr (s:au):Int:=if iQ s=true then oL s else 0
def Env.at (e:Env):Nat->au
 |0=>e.e0
 |1=>e.e1
 |_=>e.e2
def Env.ld (e:Env){i:Nat}(h:i<3):nT (Env.D e) 3 1 (0+i*1) false=.str (e.at i):=by
 match i,h with
 |0,_=>rfl
 |1,_=>rfl
 |2,_=>rfl
def F7.ld (l:F7){i:Nat}(h:i<3):nT (F7.D l) 4 1 (0+i*1) false=.str (l.env.at i):=by
 match i,h with
 |0,_=>rfl
 |1,_=>rfl
 |2,_=>rfl
def Env.cut (e:Env){i:Nat}(h:i<3):Abs.cut [.str e.e0,.str e.e1,.str e.e2] (i*1) 1 false=.str (e.at i):=by
 match i,h with
 |0,_=>rfl
 |1,_=>rfl
 |2,_=>rfl
def wq.sm (x:wq):Prop:=x.v.sm/\x.name.length<=1048576/\x.shelf.length<=1048576/\x.feats.length<=1048576/\∀t∈x.feats,t.length<=1048576
def F7.sm (l:F7):Prop:=l.lines.length<=1048576/\(∀x∈l.lines,x.sm)/\∀i,(l.env.at i).length<=1048576
theorem bF {α:Type} [Inhabited α]{l:List α}{i:Nat}(h:i<l.length):l[i]! ∈l:=by
 simp[h]
structure Kp where
 name:au
 v:cq
 deriving Inhabited,DecidableEq
def Kp.D (x:Kp):D:=.agg [.str x.name,.int .i64 x.v.major,.int .i64 x.v.minor,.int .i64 x.v.patch,.str x.v.pre,.str x.v.build]
theorem qh {α:Type} [Inhabited α] [DecidableEq α]{a b:List α}(h:a.length=b.length):decide (a=b)=cS (fun i=>decide (a[i]! =b[i]!)) 0 a.length:=by
 rw[Bool.eq_iff_iff,aK,eD];constructor
 .rintro rfl j _ _;simp
 .intro hj;apply List.ext_getElem h
  grind
def wq.same {a b:wq}(e1:a.name=b.name)(e2:a.v=b.v)(e3:a.shelf=b.shelf)(e4:a.sum=b.sum)(e5:a.feats.length=b.feats.length):decide (a=b)=cS (fun i=>decide (a.feats[i]! =b.feats[i]!)) 0 a.feats.length:=by
 rw[<-qh e5];obtain⟨a1,a2,a3,a4,a5⟩:=a;obtain⟨b1,b2,b3,b4,b5⟩:=b
 grind
def aS (b:au):List au->au
 |[]=>[]
 |[t]=>t
 |t::u::r=>t++b++aS b (u::r)
theorem gr (b t:au)(r:List au)(h:r≠[]):aS b (t::r)=t++b++aS b r:=by
 cases r with
 |nil=>exact absurd rfl h
 |cons u r=>rfl
def rQ {α:Type}(q:α->au)(B:Nat):∀l:List α,(∀x∈l,(q x).length<=B)->((l.map q).flatten).length<=l.length*B
 |[],_=>aJ
 |a::r,h=>by
  have h1:=h a (.head _);have h2:=rQ q B r fun x hx=>h x (.tail _ hx)
  simp only[List.map_cons,List.flatten_cons,bQ,aP,Nat.succ_mul];omega
def Ce (v:cq)(h:v.sm):(kf v).length<=2097200:=by
 unfold kf;split
 .rename_i hv;simp only[e8,bC]at hv;obtain⟨⟨⟨⟨hv1,hv2⟩,hv3⟩,_⟩,_⟩:=hv;simp only[qz,bC,aK]at hv1 hv2 hv3;have hl1:=eK 4 v.major.toNat ae ae;have hl2:=eK 4 v.minor.toNat ae ae;have hl3:=eK 4 v.patch.toNat ae ae;obtain⟨h1,h2⟩:=h
  grind [sN]
 .simp
def Env.sm (e:Env):Prop:=∀i,(e.at i).length<=1048576
end Go.Abs
section
namespace Go.Abs
def Zv (v n:Int):Int:=if n<1 then 0 else if v.tmod n<0 then v.tmod n+n else v.tmod n
def KU (v n:Int)(h:1<=n):-n<v.tmod n/\v.tmod n<n:=⟨Int.lt_tmod_of_pos v ae,Int.tmod_lt_of_pos v ae⟩
def atI (l:List Int)(i:Int):Int:=if i<0\/(l.length:Int)<=i then i.tmod 3 else l[i.toNat]!
structure Gs where
 l:List Int
 i:Int
 deriving Inhabited
def Gs.D (g:Gs):D:=.agg [.sl 1 (g.l.map (D.int .i64)),.int .i64 g.i]
def Gs.val (g:Gs)(n:Int):Int:=Zv (atI g.l g.i) n
def Gs.Gd (g:Gs):Gs:=⟨g.l,g.i+1⟩
def iD (s:au)(b:UInt8):au×au×Bool:=match s.findIdx? (fun c=>c==b)with
 |some k=>(s.take k,s.drop (k+1),true)
 |none=>(s,[],false)
def cV (s p:au):au×Bool:=if p.isPrefixOf s=true then(s.drop p.length,true)else(s,false)
def Rr (s:au)(b:UInt8):(iD s b).1.length<=s.length/\((iD s b).2.2=true->(iD s b).1.length+1<=s.length):=by
 unfold iD;split
 .rename_i k h;have:=List.findIdx?_eq_some_iff_findIdx_eq.1 h;simp only[eu];omega
 .simp
structure WX where
 s:au
 at':Nat
 n:Nat
def WX.D (r:WX):D:=.agg [.str r.s,.int .i64 (r.at':Nat),.int .i64 (r.n:Nat)]
def WX.ln (r:WX):au×au×Bool:=iD (r.s.drop r.at') 10
def WX.Gd (r:WX):WX:=⟨r.s,if r.ln.2.2=true then r.at'+(r.ln.1.length+1)else r.at',r.n+1⟩
def gz:cq:=⟨0,0,0,[],[]⟩
def gv (s:au):Option cq:=
 let a:=aG s 43
 let b:=aG a.2 45
 let l:=ai b.2 46
 if l.length=3/\fW l[0]! =true/\fW l[1]! =true/\fW l[2]! =true then
  let v:cq:=⟨eg l[0]!,eg l[1]!,eg l[2]!,b.1,a.1⟩
  if e8 v=true/\kf v=s then some v else none
 else none
def Pn (l:List au)(i:Nat):D:=.agg [.int .i64 (if 0<i then eg l[0]! else 0),.int .i64 (if 1<i then eg l[1]! else 0),.int .i64 (if 2<i then eg l[2]! else 0)]
def Hn (l:List au)(i:Nat)(h:i<3):v7 (Pn l i) 3 1 (0+i*1) (.int .i64 (eg l[i]!))=Pn l (i+1):=by
 match i,h with
 |0,_=>rfl
 |1,_=>rfl
 |2,_=>rfl
def kE (s:au)(b:Int):(aG s b).1.length<=s.length/\(aG s b).2.length<=s.length:=by
 grind [aG,iz]
def uW (b:Int):∀(s cur:au),∀t∈cE b s cur,t.length<=cur.length+s.length
 |[],cur,t,h=>by simp only[cE,cK]at h;subst h;simp
 |c::r,cur,t,h=>by
  simp only[cE]at h;split at h
  .rcases cb.1 h with rfl|h
   .simp
   .have:=uW b r [] t h;simp at this⊢;omega
  .have:=uW b r (cur++[c]) t h;simp at this⊢;omega
def dT (s:au)(b:Int){t:au}(h:t∈ai s b):t.length<=s.length:=by
 have:=uW b s [] t h;simpa using this
theorem qO (s:au)(b:Int){i:Nat}(h:i<(ai s b).length):((ai s b)[i]!).length<=s.length:=dT s b (bF h)
end Go.Abs
namespace Go.Abs
def o9 (s:au):Int:=if(gv s).isSome=true then 0 else 5
end Go.Abs
namespace Go.Abs
end Go.Abs
namespace Go.Abs
def Wr {s:au}(h:s.length<=1048576):((gv s).getD gz).sm:=by
 have h0:gz.sm:=⟨by simp[gz],by simp[gz]⟩;cases hq:gv s with
 |none=>exact h0
 |some v=>
  simp only[Option.getD_some];simp only[gv]at hq;split at hq
  .split at hq
   .obtain rfl:=bL hq;have h1:=kE s 43;have h2:=kE (aG s 43).2 45;exact⟨by simp only;omega,by simp only;omega⟩
   .cases hq
  .cases hq
def T7 (s:au):decide (o9 s=0)=(gv s).isSome:=by
 unfold o9;cases(gv s)<;>simp
end Go.Abs
namespace Go.Abs
def Jq (s p:au):(cV s p).1.length<=s.length:=by
 unfold cV;split<;>simp
end Go.Abs
namespace Go.Abs
variable {e:Env} {f:Nat} {r:WX} {ls:List wq}
end Go.Abs
namespace Go.Abs
end Go.Abs
end
namespace Go.Abs
section
section
variable {Y:Ctx} {draw:Bool} {r:List GI} {env rs:List ch} {nx:Nat} {m:List (Nat×bX)} {K:List ch->St->Prop} {g:Option (Nat×Bool)} {f:Bool}
def r_off {i:aV}{j:Nat}{w:Bool}(d:D)(h:aM Y draw r env (⟨false,d⟩::rs) nx m K)(hC:i.pure=true:=by exact rfl)(hg:GF rs (some (j,w)) false:=by exact⟨_,_,rfl,rfl⟩):aM Y draw (⟨i,some (j,w)⟩::r) env rs nx m K:=
 cg hC hg d (fun h=>by cases h) (fun h=>by cases h) (fun _=>h)
def cy {n:Nat}{args:List Src}{apT:List D}{v:D}{nx':Nat}{m':List (Nat×bX)}(h:aM Y draw r env (⟨true,v⟩::rs) nx' m' K)
  (hc:∀K':D->St->Prop,K' v ⟨nx'+rs.length,m'⟩->Y.tr n apT ⟨nx+rs.length,m⟩ K') (hn:nx<=nx') (ha:jo (cQ env rs) args=apT:=by exact rfl)
  (ho:xo (cQ env rs) args:=by repeat' first|exact trivial|exact rfl|refine And.intro ?_ ?_):aM Y draw (⟨.callM n args,none⟩::r) env rs nx m K:=by
 unfold aM;show True/\(true=true->xo (Src.ev env rs.reverse) args/\Y.tr n (jo (Src.ev env rs.reverse) args) {nx:=nx+rs.reverse.length,m:=m} _)/\(true=false->_)
 grind [nQ,aM]
def ZL {l k i0 n:Nat}{x y z:Src}{fx fy fz:Bool}{kh km:IntKind}{h' m':Int}(j:Nat)(h:aM Y draw r env (⟨f,.own l k i0 j⟩::rs) nx m K)(hg:GF rs g f:=by exact dt)(hx:cQ env rs x=⟨fx,.own l k i0 n⟩:=by exact rfl)(hy:cQ env rs y=⟨fy,.int kh h'⟩:=by exact rfl)(hz:cQ env rs z=⟨fz,.int km m'⟩:=by exact rfl)
  (kx:f=true->fx=true:=by exact cv) (ky:f=true->fy=true:=by exact cv) (kz:f=true->fz=true:=by exact cv)
  (hj:f=true->h'=(j:Int)) (hb:f=true->(j:Int)<=m'/\m'<=(n:Int)):aM Y draw (⟨.slX k x y z,g⟩::r) env rs nx m K:=
 cg rfl hg _ (fun hf=>by have h1:=hj hf;have h2:=hb hf;simp only[aV.eA,hx,hy,hz];exact⟨kx hf,ky hf,kz hf,ae,ae,trivial,h2.2⟩) (fun hf=>by simp only[aV.val,hx,hy];rw[hj hf,Int.toNat_natCast]) (fun _=>h)
def ZK {α:Type}{q:α->D}{s:List α}{k:Nat}{x y z:Src}{fx fy fz:Bool}{kh km:IntKind}{h' m':Int}(j:Nat)(h:aM Y draw r env (⟨f,.sl k ((s.take j).map q)⟩::rs) nx m K)(hg:GF rs g f:=by exact dt)(hx:cQ env rs x=⟨fx,.sl k (s.map q)⟩:=by exact rfl)(hy:cQ env rs y=⟨fy,.int kh h'⟩:=by exact rfl)(hz:cQ env rs z=⟨fz,.int km m'⟩:=by exact rfl)
  (kx:f=true->fx=true:=by exact cv) (ky:f=true->fy=true:=by exact cv) (kz:f=true->fz=true:=by exact cv)
  (hj:f=true->h'=(j:Int)) (hb:f=true->(j:Int)<=m'/\m'<=(s.length:Int)):aM Y draw (⟨.slX k x y z,g⟩::r) env rs nx m K:=
 cg rfl hg _ (fun hf=>by have h1:=hj hf;have h2:=hb hf;simp only[aV.eA,hx,hy,hz,bO];exact⟨kx hf,ky hf,kz hf,ae,ae,trivial,h2.2⟩) (fun hf=>by simp only[aV.val,hx,hy];rw[hj hf,Int.toNat_natCast,List.map_take]) (fun _=>h)
def gR {n:Nat}{args:List Src}{apT:List D}{ι:Type}(P:ι->Prop)(V:ι->D)(nx':Nat)(M:ι->List (Nat×bX))(h:∀i,P i->aM Y draw r env (⟨true,V i⟩::rs) nx' (M i) K)
  (hc:∀K':D->St->Prop,(∀i,P i->K' (V i) ⟨nx'+rs.length,M i⟩)->Y.tr n apT ⟨nx+rs.length,m⟩ K') (hn:nx<=nx') (ha:jo (cQ env rs) args=apT:=by exact rfl)
  (ho:xo (cQ env rs) args:=by repeat' first|exact trivial|exact rfl|refine And.intro ?_ ?_):aM Y draw (⟨.callM n args,none⟩::r) env rs nx m K:=by
 unfold aM;show True/\(true=true->xo (Src.ev env rs.reverse) args/\Y.tr n (jo (Src.ev env rs.reverse) args) {nx:=nx+rs.reverse.length,m:=m} _)/\(true=false->_)
 grind [nQ,aM]
def xx {n j:Nat}{w:Bool}{args:List Src}{apT:List D}{ι:Type}(P:ι->Prop)(V:ι->D)(nx':Nat)(M:ι->List (Nat×bX))(h:∀i,P i->aM Y draw r env (⟨true,V i⟩::rs) nx' (M i) K)(hg:GF rs (some (j,w)) true:=by exact⟨_,_,rfl,rfl⟩)
  (hc:∀K':D->St->Prop,(∀i,P i->K' (V i) ⟨nx'+rs.length,M i⟩)->Y.tr n apT ⟨nx+rs.length,m⟩ K') (hn:nx<=nx') (ha:jo (cQ env rs) args=apT:=by exact rfl)
  (ho:xo (cQ env rs) args:=by repeat' first|exact trivial|exact rfl|refine And.intro ?_ ?_):aM Y draw (⟨.callM n args,some (j,w)⟩::r) env rs nx m K:=by
 unfold aM;show wT rs.reverse (some (j,w))/\(flag rs.reverse (some (j,w))=true->xo (Src.ev env rs.reverse) args/\Y.tr n (jo (Src.ev env rs.reverse) args) {nx:=nx+rs.reverse.length,m:=m} _)/\(flag rs.reverse (some (j,w))=false->_);obtain⟨hg1,hg2⟩:=hg.flag
 grind [nQ,aM]
def Fq {n j:Nat}{w:Bool}{args:List Src}(h:aM Y draw r env (⟨false,.any⟩::rs) nx m K)(hg:GF rs (some (j,w)) false:=by exact⟨_,_,rfl,rfl⟩):aM Y draw (⟨.callM n args,some (j,w)⟩::r) env rs nx m K:=by
 unfold aM;show wT rs.reverse (some (j,w))/\(flag rs.reverse (some (j,w))=true->_)/\(flag rs.reverse (some (j,w))=false->_);obtain⟨hg1,hg2⟩:=hg.flag
 grind [aM]
def Tf {c a:Src}{fc t:Bool}(h:aM Y draw r env (⟨f,.bool false⟩::rs) nx m K)(hg:GF rs g f:=by exact dt)(hc:cQ env rs c=⟨fc,.bool t⟩:=by exact rfl)(kc:f=true->fc=true:=by exact fun _=>rfl)(ht:t=false:=by exact rfl):aM Y draw (⟨.pick c a (.c (.bool false)),g⟩::r) env rs nx m K:=by
 subst ht;refine cg rfl hg _ (fun hf=>?_) (fun hf=>?_) (fun _=>h)
 .simp only[aV.eA,hc];exact⟨kc hf,⟨fun h=>absurd h aJ,fun _=>rfl⟩⟩
 .simp only[aV.val,hc];have:cQ env rs (.c (.bool false))=⟨true,.bool false⟩:=rfl;rw[this];cases(cQ env rs a).d<;>rfl
def PG {n:Nat}{x:Src}{caps:List D}{args:List Src}{apT:List D}{ι:Type}(P:ι->Prop)(V:ι->D)(nx':Nat)(M:ι->List (Nat×bX))(h:∀i,P i->aM Y draw r env (⟨true,V i⟩::rs) nx' (M i) K)
  (hc:∀K':D->St->Prop,(∀i,P i->K' (V i) ⟨nx'+rs.length,M i⟩)->Y.tr (Cy n) apT ⟨nx+rs.length,m⟩ K') (hn:nx<=nx') (hn2:n<2000000:=by decide) (hg:GF rs g true:=by exact dt) (hx:cQ env rs x=⟨true,.fn n caps⟩:=by exact rfl) (ha:Ay n (jo (cQ env rs) args) caps=apT:=by exact rfl)
  (ho:xo (cQ env rs) args:=by repeat' first|exact trivial|exact rfl|refine And.intro ?_ ?_):aM Y draw (⟨.callvM x args,g⟩::r) env rs nx m K:=by
 unfold aM;show wT rs.reverse g/\(flag rs.reverse g=true->(Src.ev env rs.reverse x).ok=true/\xo (Src.ev env rs.reverse) args/\match(Src.ev env rs.reverse x).d with
   | .fn n caps=>n<2000000/\Y.tr (Cy n) (Ay n (jo (Src.ev env rs.reverse) args) caps) {nx:=nx+rs.reverse.length,m:=m} _
   |_=>False)/\(flag rs.reverse g=false->_)
 rw[nQ,List.length_reverse];simp only[hx,ha];have hf:wT rs.reverse g/\flag rs.reverse g=true:=by
  cases g with
  |none=>exact⟨trivial,rfl⟩
  |some jw=>obtain⟨j,w⟩:=jw;exact⟨hg.flag.2,hg.flag.1⟩
 refine⟨hf.1,fun _=>⟨trivial,ho,hn2,hc _ fun i hi=>⟨by show nx+rs.length<=nx'+rs.length;omega, ?_⟩⟩,fun h=>by rw[hf.2]at h;cases h⟩;have:=h i hi
 grind [aM]
def od {n:Nat}{x:Src}{caps:List D}{args:List Src}{apT:List D}{ι:Type}(P:ι->Prop)(V:ι->D)(nx':Nat)(M:ι->List (Nat×bX))(h:∀i,P i->aM Y draw r env (⟨true,V i⟩::rs) nx' (M i) K)
  (hc:∀K':D->St->Prop,(∀i,P i->K' (V i) ⟨nx'+rs.length,M i⟩)->Y.tr (Cy n) apT ⟨nx+rs.length,m⟩ K') (hn:nx<=nx') (hn2:n<2000000:=by decide) (hx:cQ env rs x=⟨true,.fn n caps⟩:=by exact rfl) (ha:Ay n (jo (cQ env rs) args) caps=apT:=by exact rfl)
  (ho:xo (cQ env rs) args:=by repeat' first|exact trivial|exact rfl|refine And.intro ?_ ?_):aM Y draw (⟨.callvM x args,none⟩::r) env rs nx m K:=PG P V nx' M h hc hn hn2 rfl hx ha ho
def Tm {x:Src}{fx:Bool}{α:Type} [Inhabited α]{n k i o:Nat}{ag:Bool}{q:α->D}{xs:List α}(v:D)(h:aM Y draw r env (⟨f,v⟩::rs) nx m K)(hg:GF rs g f:=by exact dt)(hx:cQ env rs x=⟨fx,.ref k (xs.map q) i o⟩:=by exact rfl)(kx:f=true->fx=true:=by exact cv)(hi:f=true->i<xs.length:=by exact vg)(hv:f=true->nT (q xs[i]!) k n o ag=v:=by exact fun _=>rfl)(ho:o+n<=k:=by omega):aM Y draw (⟨.ldU n ag x,g⟩::r) env rs nx m K:=
 iH rfl hg _ (fun hf=>by simp only[aV.eA,hx,Hh,bO];exact⟨kx hf,hi hf,ho⟩) (fun hf=>by simp only[aV.val,hx,Dx];rw[getD_map (hi hf)];exact hv hf) m rfl (fun ha=>h)
def Tl {x:Src}{fx:Bool}{n l k o:Nat}{ag:Bool}{d:D}(v:D)(h:aM Y draw r env (⟨f,v⟩::rs) nx m K)(hg:GF rs g f:=by exact dt)(hx:cQ env rs x=⟨fx,.ptr l k 0 o⟩:=by exact rfl)(kx:f=true->fx=true:=by exact cv)(hl:f=true->look m l=some (.buf k [d]):=by exact fun _=>rfl)(hv:f=true->nT d k n o ag=v:=by exact fun _=>rfl)(ho:o+n<=k:=by omega)(hd:f=true->d.bJ=false:=by exact fun _=>rfl):aM Y draw (⟨.ldU n ag x,g⟩::r) env rs nx m K:=
 iH rfl hg _ (fun hf=>by simp only[aV.eA,hx,Hh,fZ,hl hf];exact⟨kx hf,⟨⟨trivial,aJ⟩,ho⟩,by simp only[bD,hl hf,bH,hd hf];rfl⟩) (fun hf=>by simp only[aV.val,hx,Dx,bD,hl hf,jC];exact hv hf) m rfl (fun ha=>h)
end
end
end Go.Abs
section
namespace Go.Abs
def VR:List au->D
 |[]=>.bq
 |a::r=>.sl 1 ((a::r).map D.str)
def DI:∀l,(VR l).bJ=true
 |[]=>rfl
 |a::r=>rfl
def wq.N (x:wq):Go.Abs.D:=.agg [.str x.name,.int .i64 x.v.major,.int .i64 x.v.minor,.int .i64 x.v.patch,.str x.v.pre,.str x.v.build,.str x.shelf,.int .u64 x.sum,VR x.feats]
def wq.pd (x:wq):x.N.bJ=true:=by
 have:=DI x.feats;simp only[wq.N,D.bJ,bH,this,nE]
end Go.Abs
namespace Go.Abs
def wq.F (name:au)(v:cq)(shelf:au)(sum:Int)(fs:Go.Abs.D):Go.Abs.D:=.agg [.str name,.int .i64 v.major,.int .i64 v.minor,.int .i64 v.patch,.str v.pre,.str v.build,.str shelf,.int .u64 sum,fs]
mutual
theorem Y3 (l k:Nat)(es:List D):∀d:D,d.bJ=true->iL l k es d=d
 | .agg a,h=>by simp only[iL,qA l k es a (by simpa[D.bJ]using h)]
 | .tup a,h=>by simp only[iL,qA l k es a (by simpa[D.bJ]using h)]
 | .fn n a,h=>by simp only[iL,qA l k es a (by simpa[D.bJ]using h)]
 | .own ..,h=>by simp[D.bJ]at h
 | .ptr ..,h=>by simp[D.bJ]at h
 | .it ..,h=>by simp[D.bJ]at h
 | .any,_| .bool _,_| .int ..,_| .str _,_| .bq,_| .sl ..,_| .ref ..,_| .nilp,_| .nilf,_=>rfl
theorem qA (l k:Nat)(es:List D):∀ds:List D,bH ds=true->iV l k es ds=ds
 |[],_=>rfl
 |d::r,h=>by
  simp only[bH,bC]at h;simp only[iV,Y3 l k es d h.1,qA l k es r h.2]
end
end Go.Abs
namespace Go.Abs
end Go.Abs
namespace Go.Abs
end Go.Abs
namespace Go.Abs
end Go.Abs
namespace Go.Abs
end Go.Abs
namespace Go.Abs
end Go.Abs
end
section
namespace Go.Abs
end Go.Abs
namespace Go.Abs
def Kp.eq (a b:Kp):jt (Kp.D a).cells (Kp.D b).cells=decide (a=b):=by
 obtain⟨n1,⟨a1,a2,a3,a4,a5⟩⟩:=a;obtain⟨n2,⟨b1,b2,b3,b4,b5⟩⟩:=b
 grind [Kp.D,D.cells,jt,vH,zb]
structure wq.ok (n:Nat)(x:wq):Prop where
 pre:x.v.pre.length<=3
 build:x.v.build.length<=2
 name:x.name.length<=16
 shelf:x.shelf.length<=16
 nf:x.feats.length<=n
 ft:∀t∈x.feats,t.length<=16
 sum:0<=x.sum/\x.sum<18446744073709551616
structure F7.ok (n:Nat)(l:F7):Prop where
 len:l.lines.length<=4
 lines:∀x∈l.lines,x.ok n
 env:∀i,(l.env.at i).length<=16
def F7.ok.sm {n:Nat}{l:F7}(h:l.ok n)(hn:n<=1000):l.sm:=by
 refine⟨by have:=h.len;omega,fun x hx=>?_,fun i=>by have:=h.env i;omega⟩;have k:=h.lines x hx;have k1:=k.pre;have k2:=k.build;have k3:=k.name;have k4:=k.shelf;have k5:=k.nf;exact⟨⟨ae,ae⟩,ae,ae,ae,fun t ht=>by have:=k.ft t ht;omega⟩
def wq.ok.mono {n m:Nat}{x:wq}(h:x.ok n)(hm:n<=m):x.ok m:=⟨h.pre,h.build,h.name,h.shelf,dp h.nf hm,h.ft,h.sum⟩
end Go.Abs
end
namespace Go.Abs
section
def lk {α:Type}:List (Nat×α)->Nat->α->α
 |[],_,d=>d
 |(a,b)::r,n,d=>bif Nat.beq a n then b else lk r n d
structure Row where
 key:Nat
 pre:List D->Prop
 val:List D->D
structure RowF where
 pre:D->List D->Prop
 val:D->List D->D
 new:D->List D->D
def Row.no:Row:=⟨0,fun _=>False,fun _=>.any⟩
def RowF.no:RowF:=⟨fun _ _=>False,fun _ _=>.any,fun _ _=>.any⟩
section
variable [dS] {P:Program} {ν:List (Nat×Nat)} {c8:List Nat} {Y:Ctx}
end
end
section
variable [dS]
section
variable {P:Program} {ν:List (Nat×Nat)} {c8:List Nat} {Y:Ctx}
def RD.re {x x':X}{σ:List (Nat×Nat)}(hw:x'.w=x.w)(hI:x'.I=x.I)(hβ:∀l l',lU 0 σ l=some l'->x'.β l'=x.β l){v:Value}{d d':D}(hv:RD ν x v d)(hd:Us 0 σ d d'):RD ν x' v d':=by
 rcases hd with⟨rfl,hn⟩|hd|hd
 .exact hv.bJ hn (fun _ h=>by rw[hI];exact h) (fun _ _=>by rw[hw])
 .grind [RD.rn]
 grind [RD.nl]
def pC.re {x x':X}{σ:List (Nat×Nat)}(hw:x'.w=x.w)(hI:x'.I=x.I)(hβ:∀l l',lU 0 σ l=some l'->x'.β l'=x.β l){b base tot:Nat}{b0 blk:bX}(o2:pC ν x b base tot b0)(q3:sS 0 σ b0 blk):pC ν x' b base tot blk:=by
 cases b0 with
 |iter s p=>
  cases blk with
  |iter s' p'=>simp only[sS]at q3;obtain⟨rfl,rfl⟩:=q3;simp only[pC,hw]at o2⊢;exact o2
  |_=>simp[sS]at q3
 |row s=>
  cases blk with
  |row s'=>simp only[sS]at q3;subst q3;simp only[pC,hw]at o2⊢;exact o2
  |_=>simp[sS]at q3
 |bld o n u=>
  cases blk with
  |bld o' n' u'=>
   simp only[sS]at q3;obtain⟨q3,rfl,rfl⟩:=q3;obtain⟨p1,v,p2,p3⟩:=o2;refine⟨p1,v,by rw[hw];exact p2, ?_⟩;cases o with
   |none=>simp only at q3;subst q3;exact p3
   |some l0=>
    obtain⟨l1,q4,rfl⟩:=q3;obtain⟨g,t,p4,p5,p6⟩:=p3;exact⟨g,t,p4,p5,by rw[hβ l0 l1 q4];exact p6⟩
  |_=>simp[sS]at q3
 |buf k es=>
  cases blk with
  |iter s' p'=>simp[sS]at q3
  |row s'=>simp[sS]at q3
  |bld o' n' u'=>simp[sS]at q3
  |buf k' es'=>
   simp only[sS]at q3;obtain⟨rfl,q3⟩:=q3;obtain⟨p1,p2,cc,T,fr,p3,p4,p5,p6⟩:=o2;rw[<-hw]at p3;rcases q3 with⟨rfl,hn⟩|q3|q3
   .exact⟨p1,p2,cc,T,fr,p3,p4,p5,fun i hi=>⟨(p6 i hi).1,fun j hj=>⟨((p6 i hi).2 j hj).1,RD.re hw hI hβ ((p6 i hi).2 j hj).2 (.inl ⟨rfl,mw (dn hn i) j⟩)⟩⟩⟩
   .obtain⟨r1,r2⟩:=ke q3;refine⟨p1,ae,cc,T,fr,p3,p4,p5,fun i hi=>?_⟩;have hi':i<es.length:=ae;obtain⟨s1,s2⟩:=DW (r2 i hi');exact⟨s1.trans (p6 i hi').1,fun j hj=>⟨((p6 i hi').2 j hj).1,RD.re hw hI hβ ((p6 i hi').2 j hj).2 (.inr (.inl (s2 j (by rw[(p6 i hi').1];exact hj))))⟩⟩
   .obtain⟨r1,r2⟩:=ry q3;refine⟨p1,ae,cc,T,fr,p3,p4,p5,fun i hi=>?_⟩;have hi':i<es.length:=ae;obtain⟨s1,s2⟩:=CY (r2 i hi');exact⟨s1.trans (p6 i hi').1,fun j hj=>⟨((p6 i hi').2 j hj).1,RD.re hw hI hβ ((p6 i hi').2 j hj).2 (.inr (.inr (s2 j (by rw[(p6 i hi').1];exact hj))))⟩⟩
def Mi {lo c:Nat}{σ:List (Nat×Nat)}{l l':Nat}(h0:gT 0 c σ=true)(h:lU 0 σ l=some l'):l'<c/\(l,l')∈σ:=by
 obtain⟨h1,h2⟩:=vZ h0 h
 grind
def vV {c:Nat}:∀{σ:List (Nat×Nat)}{a b:Nat},gT 0 c σ=true->(a,b)∈σ->lU 0 σ a=some b
 |[],a,b,_,h=>by cases h
 |(a0,b0)::r,a,b,h0,h=>by
  unfold lU;simp only[gT,bC,List.all_eq_true,bd]at h0;obtain⟨_,_,p4,p5⟩:=h0;rcases cb.1 h with h|h
  .simp only[eH]at h;obtain⟨rfl,rfl⟩:=h;simp
  .have:=(p4 _ h).1;simp only at this;have hne:Nat.beq a0 a=false:=by
    cases hb:Nat.beq a0 a with
    |false=>rfl
    |true=>obtain rfl:=Nat.eq_of_beq_eq_true hb;simp at this
   rw[hne];exact vV p5 h
structure Fr (σi σo:List (Nat×Nat))(q q1:Nat)(m0 m1:List (Nat×bX))(st st':St):Prop where
 oki:gT 0 q σi=true
 oko:gT 0 st'.nx σo=true
 nx:st.nx<=st'.nx
 lt:∀l i,(l,i)∈σi->look st.m l≠none
 io:∀i l,(i,l)∈σo->(l,i)∈σi\/st.nx<=l
 m0:∀i b,look m0 i=some b->∃l b',(l,i)∈σi/\look st.m l=some b'/\sS 0 σi b' b
 m1:∀l b,look st'.m l=some b->(∃i b1,(i,l)∈σo/\look m1 i=some b1/\sS 0 σo b1 b)\/(me σo l=none/\(∀i,(l,i)∉σi)/\look st.m l=some b)
def Vc {fid:Nat}{fn:Func}{af:aC}{K:D->St->Prop}(hΓ:Ok P ν c8 Y)(hmix:P.follows .mixedOrders=true)(hf:P.funcs[fid]? =some fn)(hc:compile P ν c8 fn=some af)
  {x:X} {args:Array Value} {ds cs:List D} {st:St} {σi:List (Nat×Nat)} {q:Nat} {m0:List (Nat×bX)} (hl:args.size=ds.length) (hargs:∀i,i<ds.length->RD ν x (args.getD i undef) (ds.getD i .any))
  (hs:gE ν x (look st.m)) (hfr:gB st x) (hlen:cs.length=ds.length) (hds:∀i,i<ds.length->Us 0 σi (ds.getD i .any) (cs.getD i .any)) (hnp:cs.length=af.np)
  (oki:gT 0 q σi=true) (hlt:∀l i,(l,i)∈σi->look st.m l≠none) (hm0:∀i b,look m0 i=some b->∃l b',(l,i)∈σi/\look st.m l=some b'/\sS 0 σi b' b)
  (hw:bK (Y.at q) af.body (fun e env st1=>e.home/\rr st1.m env af.res/\∃(σo:List (Nat×Nat)) (q1:Nat) (m1:List (Nat×bX)) (st':St) (vd':D),Fr σi σo q q1 m0 m1 st st'/\Us 0 σo (mE af env st1) vd'/\K vd' st'/\∀i,look st1.m i=look m1 i) (fF af cs) ⟨q,m0⟩):
  Calls P fid args x.w fun
   | .returned v,w'=>∃x' d st',K d st'/\x'.w=w'/\Step x x'/\RD ν x' v d/\gE ν x' (look st'.m)/\gB st' x'
   |_,_=>False:=by
 obtain⟨body,c1,c2,c3,c4,c5,c6⟩:=jF hc
 let x0:X:=⟨x.w,x.I,fun i=>(me σi i).bind x.β⟩
 have hx0:∀l i,(l,i)∈σi->x0.β i=x.β l:=fun l i h=>by simp only[x0,zi oki h,Option.bind_some]
 have hβ0:∀l i,lU 0 σi l=some i->x0.β i=x.β l:=fun l i h=>hx0 l i (Mi (lo:=0) oki h).2
 have hx0':∀i p,x0.β i=some p->∃l,(l,i)∈σi/\x.β l=some p/\i<q:=by
  intro i p h;obtain⟨l,h1,h2⟩:=Option.bind_eq_some_iff.1 (show(me σi i).bind x.β=some p from h);exact⟨l,mY h1,h2,sT oki (mY h1)⟩
 have hs0:gE ν x0 (look m0):=by
  refine⟨fun i blk b base tot e1 e2=>?_,fun i j b base tot base' tot' e1 e2 e3 e4=>?_,hs.imm,fun i b base tot e=>?_,dS.le x _ (fun _ h=>h) (fun _ _=>rfl) hs.gd⟩
  .obtain⟨l,b',h1,h2,h3⟩:=hm0 i blk e1;rw[hx0 l i h1]at e2;obtain⟨o1,o2⟩:=hs.own l b' b base tot h2 e2;exact⟨o1,pC.re (x:=x) (x':=x0) rfl rfl hβ0 o2 h3⟩
  .obtain⟨l,h1,h2,_⟩:=hx0' i _ e3;obtain⟨l',h1',h2',_⟩:=hx0' j _ e4;have:=hs.inj l l' b base tot base' tot' (hlt _ _ h1) (hlt _ _ h1') h2 h2';subst this;have:=vV oki h1;rw[vV oki h1']at this;exact(bL this).symm
  .obtain⟨l,_,h2,_⟩:=hx0' i _ e;exact hs.fe l b base tot h2
 have hf0:gB ⟨q,m0⟩ x0:=by
  refine⟨fun i hi=>?_,fun i hi=>?_⟩
  .cases h:x0.β i with
   |none=>rfl
   |some p=>obtain⟨_,_,_,h4⟩:=hx0' i p h;simp only at hi;omega
  .cases h:look m0 i with
   |none=>exact absurd h hi
   |some b=>obtain⟨l,b',h1,_⟩:=hm0 i b h;exact sT oki h1
 have hi:=xI (P:=P) (ν:=ν) (c8:=c8) (x:=x0) (ds:=cs) (st:=⟨q,m0⟩) c4 c5 c6 (args:=args) ae hnp (fun i hi=>RD.re (x:=x) (x':=x0) rfl rfl hβ0 (hargs i ae) (hds i ae)) hs0 hf0;have hcs:=uh (C:={P,ν,c8,slots:=slotsOf fn,ntmps:=fn.ntmps,vm:=Qv P fn}) (hΓ.at q) (pw fn).1 hmix x0 (fun l h=>hf0.β l h) body af.body c2 _ _ _ _ x0 hw hi (.refl _);refine calls_of_wp hf c1 (wp_mono hcs fun e a w' hp=>?_);obtain⟨e',x',env',st1,he,hxw,hst,hi',hh,hro,σo,q1,m1,st',vd',hfm,hvd,hK,hlk⟩:=hp;subst hxw;obtain⟨v,r1,r2,r3⟩:=sA hΓ.small hi' c3 hro
 let x2:X:=⟨x'.w,x'.I,fun l=>match me σo l with|some i=>x'.β i|none=>x.β l⟩
 have hx2:∀i l,(i,l)∈σo->x2.β l=x'.β i:=fun i l h=>by simp only[x2,zi hfm.oko h]
 have hx2n:∀l,me σo l=none->x2.β l=x.β l:=fun l h=>by simp only[x2,h]
 have hβ2:∀i l,lU 0 σo i=some l->x2.β l=x'.β i:=fun i l h=>hx2 i l (Mi (lo:=0) hfm.oko h).2
 have hx0s:∀l i p,(l,i)∈σi->x.β l=some p->x'.β i=some p:=fun l i p h e=>hst.β _ _ (by rw[hx0 l i h];exact e)

 have hnew:∀i p,x'.β i=some p->(∃l,(l,i)∈σi/\x.β l=some p)\/x.w.heap.size<=p.1\/∃l p',(∃j,(l,j)∈σi)/\x.β l=some p'/\p'.1=p.1:=by
  intro i p e;rcases hst.newβ i p e with h|h|⟨j,p',h1,h2⟩
  .obtain⟨l,h3,h4,_⟩:=hx0' i p h;exact .inl ⟨l,h3,h4⟩
  .exact .inr (.inl h)
  .obtain⟨l,h3,h4,_⟩:=hx0' j p' h1;exact .inr (.inr ⟨l,p',⟨j,h3⟩,h4,h2⟩)
 have hstep:Step x x2:=by
  refine⟨hst.os,hst.tape,hst.output,hst.size,hst.I,hst.oB,fun l p hp=>?_,fun b hb hn=>hst.old b hb fun i p h e=>?_,fun b h=>?_,fun l p h=>?_⟩
  .cases h:me σo l with
   |none=>rw[hx2n l h];exact hp
   |some i=>
    have hm:=mY h;rw[hx2 i l hm];rcases hfm.io i l hm with h2|h2
    .exact hx0s l i p h2 hp
    .rw[hfr.β l h2]at hp;cases hp
  .obtain⟨l,_,h2,_⟩:=hx0' i p h;exact hn l p h2 e
  .rcases hst.newI b h with h|h|⟨i,p,h1,h2⟩
   .exact .inl h
   .exact .inr (.inl h)
   .obtain⟨l,_,h3,_⟩:=hx0' i p h1;exact .inr (.inr ⟨l,p,h3,h2⟩)
  .cases h1:me σo l with
   |none=>rw[hx2n l h1]at h;exact .inl h
   |some i=>
    have hm:=mY h1;rw[hx2 i l hm]at h;rcases hnew i p h with⟨l',h2,h3⟩|h2|⟨l',p',_,h3,h4⟩
    .exact .inr (.inr ⟨l',p,h3,rfl⟩)
    .exact .inr (.inl h2)
    .exact .inr (.inr ⟨l',p',h3,h4⟩)
 have hsim:gE ν x2 (look st'.m):=by
  refine⟨fun l blk b base tot e1 e2=>?_,fun l1 l2 b base tot base' tot' e1 e2 e3 e4=>?_,hi'.oZ.imm,fun l b base tot e=>?_,dS.le x' _ (fun _ h=>h) (fun _ _=>rfl) hi'.oZ.gd⟩
  .rcases hfm.m1 l blk e1 with⟨i,b1,h1,h2,h3⟩|⟨h1,h2,h3⟩
   .rw[hx2 i l h1]at e2;obtain⟨o1,o2⟩:=hi'.oZ.own i b1 b base tot (by rw[hlk];exact h2) e2;exact⟨o1,pC.re (x:=x') (x':=x2) rfl rfl hβ2 o2 h3⟩
   .rw[hx2n l h1]at e2;obtain⟨o1,o2⟩:=hs.own l blk b base tot h3 e2;have hlt:=hs.fe l b base tot e2;have hno:∀i p,x0.β i=some p->p.1≠b:=by
     rintro i ⟨b',base',tot'⟩ h e;simp only at e;subst e;obtain⟨l',h4,h5,_⟩:=hx0' i _ h;have:=hs.inj l' l b' base' tot' base tot (hfm.lt _ _ h4) (by rw[h3];simp) h5 e2;subst this;exact h2 _ h4
    refine⟨fun h=>?_,o2.mono hstep.le (hst.old b hlt hno)⟩;rcases hst.newI b h with h|h|⟨i,p,h4,h5⟩
    .exact o1 h
    .exact absurd hlt (Nat.not_lt.2 h)
    .exact hno i p h4 h5
  .have mix:∀l1 l2 base tot base' tot',(∃i b1,(i,l1)∈σo/\look m1 i=some b1)->me σo l2=none->(∀i,(l2,i)∉σi)->look st.m l2≠none->x2.β l1=some (b,base,tot)->x2.β l2=some (b,base',tot')->False:=by
    rintro l1 l2 base tot base' tot' ⟨i,b1,h1,h2⟩ h3 h4 h5 e3 e4;rw[hx2 i l1 h1]at e3;rw[hx2n l2 h3]at e4;rcases hnew i _ e3 with⟨l',h6,h7⟩|h6|⟨l',⟨pb,pt,pq⟩,⟨j,h6⟩,h7,h8⟩
    .have:=hs.inj l' l2 b base tot base' tot' (hfm.lt _ _ h6) h5 h7 e4;subst this;exact h4 _ h6
    .have:=hs.fe l2 b base' tot' e4;simp only at h6;omega
    .simp only at h8;subst h8;have:=hs.inj l' l2 pb pt pq base' tot' (hfm.lt _ _ h6) h5 h7 e4;subst this;exact h4 _ h6
   cases f1:look st'.m l1 with
   |none=>exact absurd f1 e1
   |some b1=>
    cases f2:look st'.m l2 with
    |none=>exact absurd f2 e2
    |some b2=>
     rcases hfm.m1 l1 b1 f1 with⟨i,c1,h1,h2,_⟩|⟨h1,h2,h3⟩<;>rcases hfm.m1 l2 b2 f2 with⟨j,c2,k1,k2,_⟩|⟨k1,k2,k3⟩
     .rw[hx2 i l1 h1]at e3;rw[hx2 j l2 k1]at e4;have:=hi'.oZ.inj i j b base tot base' tot' (by rw[hlk,h2];simp) (by rw[hlk,k2];simp) e3 e4;subst this;have:=vV hfm.oko h1;rw[vV hfm.oko k1]at this;exact(bL this).symm
     .exact(mix l1 l2 base tot base' tot' ⟨i,c1,h1,h2⟩ k1 k2 (by rw[k3];simp) e3 e4).elim
     .exact(mix l2 l1 base' tot' base tot ⟨j,c2,k1,k2⟩ h1 h2 (by rw[h3];simp) e4 e3).elim
     .rw[hx2n l1 h1]at e3;rw[hx2n l2 k1]at e4;exact hs.inj l1 l2 b base tot base' tot' (by rw[h3];simp) (by rw[k3];simp) e3 e4
  .cases h1:me σo l with
   |none=>rw[hx2n l h1]at e;exact fq (hs.fe l b base tot e) hst.size
   |some i=>
    rw[hx2 i l (mY h1)]at e;exact hi'.oZ.fe i b base tot e
 have hfr2:gB st' x2:=by
  refine⟨fun l hl=>?_,fun l hl=>?_⟩
  .cases h1:me σo l with
   |none=>rw[hx2n l h1];exact hfr.β l (by have:=hfm.nx;omega)
   |some i=>have:=sT hfm.oko (mY h1);omega
  .cases f1:look st'.m l with
   |none=>exact absurd f1 hl
   |some b1=>
    rcases hfm.m1 l b1 f1 with⟨i,c1,h1,_⟩|⟨_,_,h3⟩
    .exact sT hfm.oko h1
    .have:=hfr.m l (by rw[h3];simp);have:=hfm.nx;omega
 have hrd:=RD.re (ν:=ν) (x:=x') (x':=x2) rfl rfl hβ2 r2 hvd;rcases Ex.Fg hh with h|h<;>rw[h]at he<;>subst he<;>exact⟨hi'.defers,v,r1,x2,vd',st',hK,rfl,hstep,hrd,hsim,hfr2⟩
end
end
section
structure RowT where
 tr:List D->St->(D->St->Prop)->Prop
 mu:List D->St->Nat
 mono:∀(ds:List D) (st:St) (K K':D->St->Prop),(∀d st',K d st'->K' d st')->tr ds st K->tr ds st K'
def RowT.no:RowT:=⟨fun _ _ _=>False,fun _ _=>0,fun _ _ _ _ _ h=>h⟩
def j5 (af:aC)(Q:D->List (Nat×bX)->Prop):Ex->List ch->St->Prop:=fun e env st=>e.home/\rr st.m env af.res/\∃m1,(∀i,look st.m i=look m1 i)/\Q (mE af env st) m1
def bP {af:aC}{Q:D->List (Nat×bX)->Prop}{vd:D}{m1:List (Nat×bX)}{e:Ex}{env:List ch}{st:St}(h1:e.home)(h2:rr st.m env af.res)(h3:mE af env st=vd)(h4:st.m=m1)(h5:Q vd m1):j5 af Q e env st:=⟨h1,h2,m1,fun i=>by rw[h4],by rw[h3];exact h5⟩
def One (vd:D)(m1:List (Nat×bX)):D->List (Nat×bX)->Prop:=fun d m=>d=vd/\m=m1
def oneq (vd:D)(m1:List (Nat×bX)):One vd m1 vd m1:=⟨rfl,rfl⟩
section
variable [dS] {P:Program} {ν:List (Nat×Nat)} {c8:List Nat} {Y:Ctx}
def Q3 (P:Program)(ν:List (Nat×Nat))(Γ':Ctx)(c8:List Nat)(tr:List D->St->(D->St->Prop)->Prop)(fid:Nat):Prop:=
 ∀(ds:List D) (st:St) (K:D->St->Prop),tr ds st K->Ok P ν c8 Γ'->∀(x:X) (args:Array Value),args.size=ds.length->(∀i,i<ds.length->RD ν x (args.getD i undef) (ds.getD i .any))->gE ν x (look st.m)->gB st x->
  jZ P x (fun v x'=>∃d st',K d st'/\Step x x'/\RD ν x' v d/\gE ν x' (look st'.m)/\gB st' x') ((callFunc fid args).run P x.w)
end
end
section
abbrev RT:=List D->D->Prop
abbrev FT:=D->List D->D->D->Prop
abbrev TT:=List D->St->(D->St->Prop)->Prop
def Gf (T:TT):Prop:=∀ds st K K',(∀d st',K d st'->K' d st')->T ds st K->T ds st K'
def E9 (A:RT->Prop):RT:=fun ds d=>∀T,A T->T ds d
def pJ (A:FT->Prop):FT:=fun d ds v s=>∀T,A T->T d ds v s
def T0 (T:TT):Ctx:=⟨fun _ _=>False,fun _ _=>.any,fun _=>T,fun _ _ _=>False,fun _ _ _=>.any,fun _ _ _=>.any,0⟩
def JN (C:Ctx->Prop):TT:=fun ds st K=>∀T,Gf T->C (T0 T)->T ds st K
def yj (C:Ctx->Prop):Gf (JN C):=fun _ _ _ _ h h1 T hT hC=>hT _ _ _ _ h (h1 T hT hC)
def noR:RT:=fun _ _=>False
def noF:FT:=fun _ _ _ _=>False
def noT:TT:=fun _ _ _=>False
def Bh:Gf noT:=fun _ _ _ _ _ h=>h.elim
structure rh where
 key:Nat
 rel:RT
 mu:List D->Nat
 relF:FT
 tr:TT
 muE:List D->St->Nat
 mono:Gf tr
def mu0:List D->Nat:=fun _=>0
def Sp:List D->St->Nat:=fun _ _=>0
def nM:rh:=⟨0,noR,mu0,noF,noT,Sp,Bh⟩
def rP (k:Nat)(A:RT->Prop)(mu:List D->Nat:=mu0):rh:=⟨k,E9 A,mu,noF,noT,Sp,Bh⟩
def rF (k:Nat)(A:FT->Prop):rh:=⟨k,noR,mu0,pJ A,noT,Sp,Bh⟩
def rG (k:Nat)(C:Ctx->Prop)(mu:List D->St->Nat:=Sp):rh:=⟨k,noR,mu0,noF,JN C,mu,yj C⟩
def rFG (k:Nat)(A:FT->Prop)(C:Ctx->Prop):rh:=⟨k,noR,mu0,pJ A,JN C,Sp,yj C⟩
noncomputable def pick (r:D->Prop):D:=Classical.epsilon r
def my {r:D->Prop}(h:∃d,r d):r (pick r):=Classical.epsilon_spec h
def Det (R:RT):Prop:=∀ds d d',R ds d->R ds d'->d=d'
def Al (R:FT):Prop:=∀d ds v s v' s',R d ds v s->R d ds v' s'->v=v'/\s=s'
def YU {A:RT->Prop}(h:A fun ds d=>A fun ds' d'=>ds'=ds->d=d'):Det (E9 A):=fun ds d d' h1 h2=>h2 _ (h1 _ h) rfl
def U2 {A:FT->Prop}(h:A fun d ds v s=>A fun d' ds' v' s'=>d'=d->ds'=ds->v=v'/\s=s'):Al (pJ A):=fun d ds v s v' s' h1 h2=>h2 _ (h1 _ h) rfl rfl
noncomputable def CB (t:List (Nat×rh)):Ctx where
 pre n ds:=∃d,(lk t n nM).rel ds d
 val n ds:=pick ((lk t n nM).rel ds)
 tr n:=(lk t n nM).tr
 fp n d ds:=∃v s,(lk t n nM).relF d ds v s
 fv n d ds:=pick fun v=>∃s,(lk t n nM).relF d ds v s
 fs n d ds:=pick fun s=>∃v,(lk t n nM).relF d ds v s
 lo:=0
def Tt (t:List (Nat×rh)):YC:=⟨fun n=>(lk t n nM).key,fun n=>(lk t n nM).mu,fun n=>(lk t n nM).muE⟩
noncomputable abbrev under (t:List (Nat×rh))(k u:Nat):Ctx:=(CB t).under (Tt t) k u
def wg (t:List (Nat×rh))(k u n:Nat):(((CB t).under (Tt t) k u).at n).b8:=
 fun f ds st K K' h hh=>⟨hh.1,(lk t f nM).mono ds st K K' h hh.2⟩
section
variable {t:List (Nat×rh)} {n k u:Nat} {ds:List D} {d v s:D} {st:St} {K:D->St->Prop}
def okp (hD:Det (lk t n nM).rel)(hk:(lk t n nM).key<k\/(lk t n nM).key=k/\(lk t n nM).mu ds<u)(h:(lk t n nM).rel ds d):(under t k u).pre n ds/\(under t k u).val n ds=d:=
 ⟨⟨hk,d,h⟩,hD _ _ _ (my ⟨d,h⟩) h⟩
def okf (hD:Al (lk t n nM).relF)(hk:(lk t n nM).key<k)(h:(lk t n nM).relF d ds v s):(under t k u).fp n d ds/\(under t k u).fv n d ds=v/\(under t k u).fs n d ds=s:=by
 refine⟨⟨.inl hk,v,s,h⟩, ?_, ?_⟩
 .obtain⟨s',h'⟩:=my (r:=fun v=>∃s,(lk t n nM).relF d ds v s) ⟨v,s,h⟩;exact(hD _ _ _ _ _ _ h' h).1
 .obtain⟨v',h'⟩:=my (r:=fun s=>∃v,(lk t n nM).relF d ds v s) ⟨s,v,h⟩;exact(hD _ _ _ _ _ _ h' h).2
def vj (hk:(lk t n nM).key<k\/(lk t n nM).key=k/\(lk t n nM).muE ds st<u)(h:(lk t n nM).tr ds st K):(under t k u).tr n ds st K:=⟨hk,h⟩
end
section
variable [dS] {P:Program} {ν:List (Nat×Nat)} {c8:List Nat} {Y:Ctx} {t:List (Nat×rh)} {fid n key:Nat}
def K2 (P:Program)(ν:List (Nat×Nat))(c8:List Nat)(Y:Ctx)(fid:Nat)(ds:List D)(d:D):Prop:=Ok P ν c8 Y->∀(x:X) (args:Array Value),args.size=ds.length->(∀i,i<ds.length->RD ν x (args.getD i undef) (ds.getD i .any))->bH ds=true->
  (∀b,x.I b->b<x.w.heap.size)->dS.gd x->jZ P x (fun v x'=>ou x x'/\RD ν x' v d) ((callFunc fid args).run P x.w)
def CX (P:Program)(ν:List (Nat×Nat))(c8:List Nat)(Y:Ctx)(fid:Nat)(d:D)(ds:List D)(vd new:D):Prop:=Ok P ν c8 Y->∀(x:X) (f:Nat->Option bX) (args:Array Value) (l k:Nat),args.size=ds.length+1->
   RD ν x (args.getD 0 undef) (.ptr l k 0 0)->(∀i,i<ds.length->RD ν x (args.getD (i+1) undef) (ds.getD i .any))->gE ν x f->f l=some (.buf k [d])->d.bJ=true->bH ds=true->
   jZ P x (fun v x'=>Step x x'/\RD ν x' v vd/\gE ν x' (fun l'=>if l'=l then some (.buf k [new])else f l')/\x'.β=x.β) ((callFunc fid args).run P x.w)
def pc (P:Program)(ν:List (Nat×Nat))(c8:List Nat)(Y:Ctx)(fid:Nat)(ds:List D)(st:St)(K:D->St->Prop):Prop:=Ok P ν c8 Y->∀(x:X) (args:Array Value),args.size=ds.length->(∀i,i<ds.length->RD ν x (args.getD i undef) (ds.getD i .any))->gE ν x (look st.m)->gB st x->
  jZ P x (fun v x'=>∃d st',K d st'/\Step x x'/\RD ν x' v d/\gE ν x' (look st'.m)/\gB st' x') ((callFunc fid args).run P x.w)
structure Z5 (P:Program)(ν:List (Nat×Nat))(c8:List Nat)(t:List (Nat×rh))(fid n:Nat):Prop where
 p:∀ds d,(lk t n nM).rel ds d->K2 P ν c8 (under t (lk t n nM).key ((lk t n nM).mu ds)) fid ds d
 f:Al (lk t n nM).relF/\∀d ds v s,(lk t n nM).relF d ds v s->CX P ν c8 (under t (lk t n nM).key ((lk t n nM).mu (d::ds))) fid d ds v s
 g:∀ds st K,(lk t n nM).tr ds st K->pc P ν c8 (under t (lk t n nM).key ((lk t n nM).muE ds st)) fid ds st K
def okA (hsm:∀fid n,eX ν fid=some n->n<1000000)(hB:∀t,c8.contains (1000000000+t)=true->t=dS.tB)(h:∀fid n,eX ν fid=some n->Z5 P ν c8 t fid n):Ok P ν c8 (CB t):=by
 refine ok_of (Tt t) hsm hB (fun fid n hn ds hp hok=>(h fid n hn).p ds _ (my hp) hok) (fun fid n hn _ d ds hp hok=>?_) (fun fid n hn ds st K htr hok=>(h fid n hn).g ds st K htr hok);obtain⟨v,s,hr⟩:=hp;obtain⟨hD,hf⟩:=(h fid n hn).f;have h2:(CB t).fv n d ds=v/\(CB t).fs n d ds=s:=by
  constructor
  .obtain⟨s',h'⟩:=my (r:=fun v=>∃s,(lk t n nM).relF d ds v s) ⟨v,s,hr⟩;exact(hD _ _ _ _ _ _ h' hr).1
  .obtain⟨v',h'⟩:=my (r:=fun s=>∃v,(lk t n nM).relF d ds v s) ⟨s,v,hr⟩;exact(hD _ _ _ _ _ _ h' hr).2
 rw[h2.1,h2.2];exact hf d ds v s hr hok
def L0 {Y:D->List D->Ctx}:Al noF/\∀d ds v s,noF d ds v s->CX P ν c8 (Y d ds) fid d ds v s:=⟨fun _ _ _ _ _ _ h=>h.elim,fun _ _ _ _ h=>h.elim⟩
def bw {A:RT->Prop}{mu:List D->Nat}(hr:lk t n nM=rP key A mu)(h:A fun ds d=>K2 P ν c8 (under t key (mu ds)) fid ds d):Z5 P ν c8 t fid n:=by
 refine⟨?_, ?_, ?_⟩<;>rw[hr]
 .exact fun ds d hd=>hd (fun ds d=>K2 P ν c8 (under t key (mu ds)) fid ds d) h
 .exact L0
 .exact fun _ _ _ h=>h.elim
def Zu {A:FT->Prop}(hr:lk t n nM=rF key A)(hD:Al (pJ A))(h:A fun d ds v s=>CX P ν c8 (under t key 0) fid d ds v s):Z5 P ν c8 t fid n:=by
 refine⟨?_, ?_, ?_⟩<;>rw[hr]
 .exact fun _ _ h=>h.elim
 .exact⟨hD,fun d ds v s hd=>hd _ h⟩
 .exact fun _ _ _ h=>h.elim
def Dq {Y:List D->St->Ctx}:Gf fun ds st K=>pc P ν c8 (Y ds st) fid ds st K:=fun ds st K K' h hg hok x args hl ha hs hf=>(hg hok x args hl ha hs hf).mono fun v x' ⟨d,st',h1,h2⟩=>⟨d,st',h _ _ h1,h2⟩
def m6 {C:Ctx->Prop}{mu:List D->St->Nat}(hr:lk t n nM=rG key C mu)(h:C (T0 fun ds st K=>pc P ν c8 (under t key (mu ds st)) fid ds st K)):Z5 P ν c8 t fid n:=by
 refine⟨?_, ?_, ?_⟩<;>rw[hr]
 .exact fun _ _ h=>h.elim
 .exact L0
 .exact fun ds st K hd=>hd (fun ds st K=>pc P ν c8 (under t key (mu ds st)) fid ds st K) Dq h
def oweFG {A:FT->Prop}{C:Ctx->Prop}(hr:lk t n nM=rFG key A C)(hD:Al (pJ A))(h:A fun d ds v s=>CX P ν c8 (under t key 0) fid d ds v s)(h2:C (T0 fun ds st K=>pc P ν c8 (under t key 0) fid ds st K)):Z5 P ν c8 t fid n:=by
 refine⟨?_, ?_, ?_⟩<;>rw[hr]
 .exact fun _ _ h=>h.elim
 .exact⟨hD,fun d ds v s hd=>hd _ h⟩
 .exact fun ds st K hd=>hd _ Dq h2
def K0 (P:Program)(ν:List (Nat×Nat))(c8:List Nat)(fid:Nat)(af:aC):Prop:=(P.funcs[fid]?).map (fun f=>(compile P ν c8 f,f.name== "runtime.NumGoroutine"))=some (some af,false)
def K0.split {af:aC}(h:K0 P ν c8 fid af):∃fn,P.funcs[fid]? =some fn/\compile P ν c8 fn=some af/\(fn.name== "runtime.NumGoroutine")=false:=by
 grind [K0]
def aO {af:aC}{ds:List D}{d:D}(hmix:P.follows .mixedOrders=true)(hC:K0 P ν c8 fid af)(h1:ds.length=af.np)(h2:bK (Y.at 0) af.body (YF af d) (fF af ds) ⟨0,[]⟩):K2 P ν c8 Y fid ds d:=by
 intro hok x args hl hargs hnl himm hgd;obtain⟨fn,hf,hc,hn⟩:=hC.split;obtain⟨body,c1,_⟩:=jF hc;exact .inr ⟨fid,args,js hf hn (by rw[c1];rfl) args x.w,Vd hok hmix hf hc hl hargs hnl himm hgd h1 h2⟩
def GZ {af:aC}{d:D}{ds:List D}{vd new:D}(k0:Nat)(hmix:P.follows .mixedOrders=true)(hC:K0 P ν c8 fid af)(h1:ds.length+1=af.np)(hk:d.cells.length=k0)
  (h2:bK (Y.at 1) af.body (Oh af k0 vd new) (fF af (.ptr 0 k0 0 0::ds)) ⟨1,[(0,.buf k0 [d])]⟩):CX P ν c8 Y fid d ds vd new:=by
 intro hok x f args l k hl h0 hargs hs hfl hd hnl;obtain⟨fn,hf,hc,hn⟩:=hC.split;obtain⟨body,c1,_⟩:=jF hc;have hkk:k=k0:=by
  generalize args.getD 0 undef=v0 at h0;cases h0 with
  |ptr _ _ _ _ b base tot at_ hβ hat=>
   obtain⟨p1,p2,c,T,fr,p3,p4,p5,p6⟩:=(hs.own l _ b base tot hfl hβ).2;have:=(p6 0 aJ).1
   grind
 subst hkk;exact .inr ⟨fid,args,js hf hn (by rw[c1];rfl) args x.w,Vb hok hmix hf hc hl h0 hargs hs hfl hd hnl h1 h2⟩
def Vn {k l:Nat}{d:D}{ds:List D}{vd new:D}{st:St}{K:D->St->Prop}(h:CX P ν c8 Y fid d ds vd new)(hl:look st.m l=some (.buf k [d]))(hd:d.bJ=true)(hnl:bH ds=true)(hK:K vd ⟨st.nx,dH st.m l (.buf k [new])⟩):
  pc P ν c8 Y fid (.ptr l k 0 0::ds) st K:=by
 intro hok x args hl2 hargs hs hf;refine(h hok x (look st.m) args l k (by simpa using hl2) (hargs 0 aJ) (fun i hi=>hargs (i+1) (by simpa using hi)) hs hl hd hnl).mono ?_;rintro v x' ⟨h1,h2,h3,h4⟩;have e:(fun l'=>if l'=l then some (.buf k [new])else look st.m l')=look (dH st.m l (.buf k [new])):=by
  funext l';rw[cL]
 refine⟨vd,_,hK,h1,h2,e▸h3,fun l' hl'=>by rw[h4];exact hf.β l' hl',fun l' hl'=>?_⟩;rw[cL]at hl';split at hl'
 .rename_i e;subst e;exact hf.m _ (by rw[hl];simp)
 .exact hf.m _ hl'
def yh {af:aC}{ds:List D}{st:St}{K:D->St->Prop}{σi:List (Nat×Nat)}{q:Nat}{m0:List (Nat×bX)}{cs:List D}{Q:D->List (Nat×bX)->Prop}(hmono:∀q,(Y.at q).b8)(hmix:P.follows .mixedOrders=true)(hC:K0 P ν c8 fid af)
  (h1:cs.length=ds.length) (h2:∀i,i<ds.length->Us 0 σi (ds.getD i .any) (cs.getD i .any)) (h3:cs.length=af.np)
  (h4:gT 0 q σi=true) (h5:∀l i,(l,i)∈σi->look st.m l≠none) (h6:∀i b,look m0 i=some b->∃l b',(l,i)∈σi/\look st.m l=some b'/\sS 0 σi b' b)
  (h7:bK (Y.at q) af.body (j5 af Q) (fF af cs) ⟨q,m0⟩) (h8:∀d m1,Q d m1->∃(σo:List (Nat×Nat)) (q1:Nat) (st':St) (vd':D),Fr σi σo q q1 m0 m1 st st'/\Us 0 σo d vd'/\K vd' st'):pc P ν c8 Y fid ds st K:=by
 intro hok x args hl hargs hs hfr;obtain⟨fn,hf,hc,hn⟩:=hC.split;obtain⟨body,c1,_⟩:=jF hc;refine .inr ⟨fid,args,js hf hn (by rw[c1];rfl) args x.w, ?_⟩;refine Calls.mono (Vc (K:=K) hok hmix hf hc hl hargs hs hfr h1 h2 h3 h4 h5 h6 (il (hmono q) _ _ _ _ _ (fun e env st1 h=>?_) h7)) fun e w' he=>?_
 .obtain⟨g1,g2,m1,g3,g4⟩:=h
  grind
 grind
end
end
end Go.Abs
section
namespace Go.Abs
structure bT where
 name:au
 range:au
 feats:List au
 bare:Bool
 deriving Inhabited,DecidableEq
def bT.D (x:bT):D:=.agg [.str x.name,.str x.range,.sl 1 (x.feats.map D.str),.bool x.bare]
structure bp where
 any:List bT
 when':au
 option:au
 deriving Inhabited,DecidableEq
def bp.D (x:bp):D:=.agg [.sl 4 (x.any.map bT.D),.str x.when',.str x.option]
structure fA where
 name:au
 range:au
 when':au
 deriving Inhabited,DecidableEq
def fA.D (x:fA):D:=.agg [.str x.name,.str x.range,.str x.when']
structure b7 where
 name:au
 of:List au
 deriving Inhabited,DecidableEq
def b7.D (x:b7):D:=.agg [.str x.name,.sl 1 (x.of.map D.str)]
structure Rec where
 name:au
 v:cq
 needs:List bp
 bars:List fA
 feats:List b7
 deriving Inhabited,DecidableEq
def Rec.D (x:Rec):D:=.agg [.str x.name,.int .i64 x.v.major,.int .i64 x.v.minor,.int .i64 x.v.patch,.str x.v.pre,.str x.v.build,.sl 3 (x.needs.map bp.D),.sl 3 (x.bars.map fA.D),.sl 2 (x.feats.map b7.D)]
structure dI where
 op:Int
 parts:Int
 v:cq
 deriving Inhabited,DecidableEq
def dI.D (x:dI):D:=.agg [.int .i64 x.op,.int .i64 x.parts,.int .i64 x.v.major,.int .i64 x.v.minor,.int .i64 x.v.patch,.str x.v.pre,.str x.v.build]
structure Nd where
 op:Int
 a:Int
 b:Int
 key:Int
 text:au
 deriving Inhabited,DecidableEq
def Nd.D (x:Nd):D:=.agg [.int .i64 x.op,.int .i64 x.a,.int .i64 x.b,.int .i64 x.key,.str x.text]
def fA.eq (a b:fA):jt (fA.D a).cells (fA.D b).cells=decide (a=b):=by
 obtain⟨a1,a2,a3⟩:=a;obtain⟨b1,b2,b3⟩:=b
 grind [fA.D,D.cells,jt,vH]
def bT.same {a b:bT}(e1:a.name=b.name)(e2:a.range=b.range)(e3:a.bare=b.bare):decide (a=b)=decide (a.feats=b.feats):=by
 obtain⟨a1,a2,a3,a4⟩:=a;obtain⟨b1,b2,b3,b4⟩:=b
 grind
def rising (l:List au):Bool:=cS (fun i=>Op.bytesLess l[i-1]! l[i]!) 1 l.length
def dK (s:au):Int×au×au:=
 if cW s=true then(1,s,[])
 else if s.length>0/\at8 s 0=63/\cW (s.drop 1)=true then(2,s.drop 1,[])
 else if(ai s 47).length=2/\dL (ai s 47)[0]! =true/\cW (ai s 47)[1]! =true then(3,(ai s 47)[0]!,(ai s 47)[1]!)
 else(0,[],[])
def findF (l:List b7)(nm:au)(i:Nat):Int:=match(l.drop i).findIdx? (fun x=>decide (x.name=nm))with
 |some k=>((i+k:Nat):Int)
 |none=>-1
def GN {l:List b7}{nm:au}{i:Nat}(h:i<l.length)(he:l[i]!.name=nm):findF l nm i=(i:Nat):=by
 unfold findF;rw[je h,List.findIdx?_cons]
 grind
def GO {l:List b7}{nm:au}{i:Nat}(h:i<l.length)(he:¬l[i]!.name=nm):findF l nm i=findF l nm (i+1):=by
 unfold findF;have:¬l[i].name=nm:=by simpa[h]using he
 rw[je h,List.findIdx?_cons]
 grind
def Dj {l:List b7}{nm:au}{i:Nat}(h:l.length<=i):findF l nm i=-1:=by
 unfold findF;rw[lM h];rfl
def W3:au:=[100,101,102,97,117,108,116]
def R5 (l:List b7)(nm:au):Bool:=decide (nm=W3) ||decide (0<=findF l nm 0)
def jb (l:List b7)(s:au):Bool:=!(decide ((dK s).1=0) ||(decide ((dK s).1=1)&& !R5 l (dK s).2.1))
def mg (l:List b7)(of:List au):Bool:=decide (of.length<=6)&&rising of&&cS (fun i=>jb l of[i]!) 0 of.length
def jT (l:List b7)(i:Nat):Bool:=cW l[i]!.name&& !(decide (0<i)&& !Op.bytesLess l[i-1]!.name l[i]!.name)&&mg l l[i]!.of
def iE (l:List b7):Bool:=decide (l.length<=8)&&cS (jT l) 0 l.length
def b7.sm (x:b7):Prop:=x.name.length<=1048576/\x.of.length<=1048576/\∀t∈x.of,t.length<=1048576
def zd (l:List b7):Prop:=∀x∈l,x.sm
def tf (b:au):∀(l:List au) (i:Nat),(aS b (l.take i)).length<=(aS b l).length
 |[],i=>aJ
 |[t],0=>by simp[aS]
 |[t],i+1=>aJ
 |t::u::r,0=>by simp[aS]
 |t::u::r,1=>by simp[aS]
 |t::u::r,i+2=>by
  have:=tf b (u::r) (i+1)
  grind [aS]
theorem uC (b t:au):∀(l:List au),l≠[]->aS b (l++[t])=aS b l++b++t
 |[],h=>absurd rfl h
 |[u],_=>by simp[aS]
 |u::v::r,_=>by
  have:=uC b t (v::r) aJ
  grind [aS]
def qE (b:au)(l:List au)(i:Nat)(h:i<l.length):aS b (l.take (i+1))=(if 0<i then aS b (l.take i)++b else [])++l[i]! :=by
 have e:l.take (i+1)=l.take i++[l[i]!]:=by
  rw[List.take_add_one,List.getElem?_eq_getElem h];simp[h]
 rw[e];by_cases h0:0<i
 .rw[aw h0,uC _ _ _ (by intro hn;have:=aj List.length hn;simp only[eu,a8]at this;omega)]
 grind [aS]
end Go.Abs
namespace Go.Abs
def Lz {s:au}(h0:cW s=true):dK s=(1,s,[]):=by simp only[dK,aw h0]
def LA {s:au}(h0:cW s=false)(h:(0<(s.length:Int)/\at8 s 0=63)/\cW (s.drop 1)=true):dK s=(2,s.drop 1,[]):=by
 grind [dK]
theorem Hc {s:au}(h:(¬0<(s.length:Int)\/¬at8 s 0=63)\/cW (s.drop 1)=false):¬(s.length>0/\at8 s 0=63/\cW (s.drop 1)=true):=by
 grind
def LB {s:au}(h0:cW s=false)(h:(¬0<(s.length:Int)\/¬at8 s 0=63)\/cW (s.drop 1)=false)(h2:(((ai s 47).length:Int)=2/\dL (ai s 47)[0]! =true)/\cW (ai s 47)[1]! =true):dK s=((3:Int),(ai s 47)[0]!,(ai s 47)[1]!):=by
 grind [dK,Hc]
def Ly {s:au}(h0:cW s=false)(h:(¬0<(s.length:Int)\/¬at8 s 0=63)\/cW (s.drop 1)=false)(h2:(¬((ai s 47).length:Int)=2\/dL (ai s 47)[0]! =false)\/cW (ai s 47)[1]! =false):dK s=(0,[],[]):=by
 grind [dK,Hc]
end Go.Abs
end
namespace Go.Abs
theorem vw (s:au)(i:Nat)(h:i<s.length):at8 s i=((s[i]'h).toNat:Int):=by simp[at8,h]
def vt (p:Int->Bool)(s:au):cS (fun i=>p (at8 s i)) 0 s.length=true↔∀c∈s,p c.toNat=true:=by
 rw[eD];constructor
 .intro h c hc;obtain⟨i,hi,rfl⟩:=List.getElem_of_mem hc
  grind [vw]
 grind [vw]
theorem sI {b:Int}:∀{s cur:au},(∀c∈s,(c.toNat:Int)≠b)->cE b s cur=[cur++s]
 |[],cur,_=>by simp[cE]
 |c::r,cur,h=>by
  simp only[cE];rw[ak (h c (.head _)),sI (fun d hd=>h d (.tail _ hd))];simp
theorem uX {b:Int}{x:UInt8}(hx:(x.toNat:Int)=b)(r:au):∀{w cur:au},(∀c∈w,(c.toNat:Int)≠b)->cE b (w++x::r) cur=(cur++w)::cE b r []
 |[],cur,_=>by simp[cE,hx]
 |c::w,cur,h=>by
  simp only[fD,cE];rw[ak (h c (.head _)),uX hx r (fun d hd=>h d (.tail _ hd))];simp
def kJ {b:Int}{x:UInt8}(hx:(x.toNat:Int)=b):∀{ws:List au},ws≠[]->(∀w∈ws,∀c∈w,(c.toNat:Int)≠b)->ai (aS [x] ws) b=ws
 |[],h,_=>absurd rfl h
 |[w],_,h=>by
  show cE b w []=[w];rw[sI (h w (.head _))];rfl
 |w::u::r,_,h=>by
  have ih:=kJ (ws:=u::r) hx aJ (fun v hv=>h v (.tail _ hv));show cE b (w++[x]++aS [x] (u::r)) []=_;rw[ey,List.singleton_append,uX hx _ (h w (.head _))];rw[show cE b (aS [x] (u::r)) []=u::r from ih];rfl
def rZ {b:Int}{x:UInt8}(hx:(x.toNat:Int)=b):∀(s cur:au),aS [x] (cE b s cur)=cur++s
 |[],cur=>by simp[cE,aS]
 |c::r,cur=>by
  simp only[cE];split
  .rename_i h;rw[gr _ _ _ (by intro h;have:=er b r [];rw[h]at this;simp at this),rZ hx r []];have:c=x:=im.1 ae;simp[this]
  .rw[rZ hx r];simp
theorem ju {b:Int}{x:UInt8}(hx:(x.toNat:Int)=b)(s:au):aS [x] (ai s b)=s:=by
 unfold ai;rw[rZ hx];rfl
def GP {p:UInt8->Bool}{w:au}{x:UInt8}{r:au}(h:∀c∈w,p c=false)(hx:p x=true):(w++x::r).findIdx? p=some w.length:=by
 grind
def Av {b:Int}{w:au}(h:∀c∈w,(c.toNat:Int)≠b):aG w b=([],w):=by
 unfold aG iz
 grind
def xX {b:Int}{w r:au}{x:UInt8}(h:∀c∈w,(c.toNat:Int)≠b)(hx:(x.toNat:Int)=b):aG (w++x::r) b=(r,w):=by
 unfold aG iz;rw[bZ,GP (fun c hc=>by simpa using h c hc) (by simpa using hx)];simp
theorem GD {n:Nat}(h:n<10):bn (dg n).toNat=true:=by
 grind [Dc,bn]
def vD {Q:Nat->Prop}(h1:∀n,n<10->Q n)(h2:∀n,9<n->Q (n/10)->Q n)(n:Nat):Q n:=by
 induction n using Nat.strongRecOn with
 |ind n ih=>
  grind
theorem ir (n:Nat):∀c∈dJ n,bn c.toNat=true:=by
 refine vD (Q:=fun n=>∀c∈dJ n,bn c.toNat=true) (fun n h c hc=>?_) (fun n h ih c hc=>?_) n
 .grind [mK,GD]
 grind [nP,GD]
theorem Bk (s:au)(c:UInt8):dM (s++[c])=dM s*10+(c.toNat-48):=by
 simp[dM,List.foldl_append]
def Hr (n:Nat):dM (dJ n)=n:=by
 refine vD (Q:=fun n=>dM (dJ n)=n) (fun n h=>?_) (fun n h ih=>?_) n
 .grind [mK,Dc,dM]
 grind [nP,Bk,Dc]
theorem y0 (n:Nat):dJ n≠[]:=by
 refine vD (Q:=fun n=>dJ n≠[]) (fun n h=>?_) (fun n h ih=>?_) n
 .rw[mK h];simp
 .rw[nP h];simp
theorem OE (n:Nat)(h:0<n):at8 (dJ n) 0≠48:=by
 refine vD (Q:=fun n=>0<n->at8 (dJ n) 0≠48) (fun n h h0=>?_) (fun n h ih h0=>?_) n h
 .grind [mK,Dc,at8]
 grind [nP,y0,at8,dJ]
def tp {n:Nat}(h:n<=9999):fW (dJ n)=true:=by
 rw[Fe];have h1:=List.length_pos_iff.2 (y0 n);have h2:=eK 4 n ae ae;have h3:cS (fun i=>bn (at8 (dJ n) i)) 0 (dJ n).length=true:=(vt bn _).2 (ir n)
 grind [dJ,mK,OE]
def xm {n:Nat}(h:n<=9999):eg (dJ n)=(n:Int):=by
 rw[eg,aw (tp h),Hr]
theorem n9 (x:UInt8):∀(ws:List au) (c:UInt8),c∈aS [x] ws->c=x\/∃w∈ws,c∈w
 |[],c,h=>by simp[aS]at h
 |[w],c,h=>.inr ⟨w,.head _,h⟩
 |w::u::r,c,h=>by
  rw[gr _ _ _ aJ]at h;simp only[List.mem_append,cK]at h;rcases h with(h|h)|h
  .exact .inr ⟨w,.head _,h⟩
  .exact .inl h
  .rcases n9 x (u::r) c h with h|⟨v,hv,hc⟩
   .exact .inl h
   .exact .inr ⟨v,.tail _ hv,hc⟩
def It {s:au}{p:Bool}(h:sK s p=true){c:UInt8}(hc:c∈s):nX c.toNat=true\/c=46:=by
 simp only[sK,cN,aK,px,bC,eD]at h;rcases h with rfl|⟨_,h⟩
 .cases hc
 .rw[<-ju (b:=46) (x:=46) rfl s]at hc;rcases n9 46 _ c hc with rfl|⟨w,hw,hcw⟩
  .exact .inr rfl
  .left;obtain⟨i,hi,rfl⟩:=List.getElem_of_mem hw;have:=h i ae hi;rw[show(ai s 46)[i]! =(ai s 46)[i]by simp[hi]]at this;simp only[iT,sJ,bC]at this;exact(vt nX _).1 this.1.2 c hcw
def FO {s:au}{p:Bool}(h:sK s p=true){c:UInt8}(hc:c∈s):c.toNat≠43/\c.toNat≠32/\c.toNat≠10:=by
 rcases It h hc with h|rfl
 .grind [nX,iG,bn]
 .decide
def rJ {c:UInt8}(h:bn c.toNat=true):c.toNat≠46/\c.toNat≠45/\c.toNat≠43/\c.toNat≠32/\c.toNat≠10:=by
 grind [bn]
def coreS (v:cq):au:=dJ v.major.toNat++[46]++dJ v.minor.toNat++[46]++dJ v.patch.toNat
def EJ (v:cq){c:UInt8}(h:c∈coreS v):c.toNat≠45/\c.toNat≠43/\c.toNat≠32/\c.toNat≠10:=by
 simp only[coreS,List.mem_append,cK]at h;rcases h with(((h|rfl)|h)|rfl)|h
 .exact(rJ (ir _ c h)).2
 .decide
 .exact(rJ (ir _ c h)).2
 .decide
 .exact(rJ (ir _ c h)).2
theorem xO (v:cq):sN v=coreS v++(if v.pre=[]then []else 45::v.pre)++(if v.build=[]then []else 43::v.build):=rfl
def Ws {v:cq}(h:e8 v=true){c:UInt8}(hc:c∈sN v):c.toNat≠32/\c.toNat≠10:=by
 simp only[e8,bC]at h;rw[xO]at hc;simp only[List.mem_append]at hc;rcases hc with(hc|hc)|hc
 .exact(EJ v hc).2.2
 .split at hc
  .cases hc
  .rcases cb.1 hc with rfl|hc
   .decide
   .exact(FO h.1.2 hc).2
 .split at hc
  .cases hc
  .rcases cb.1 hc with rfl|hc
   .decide
   .exact(FO h.2 hc).2
def Z0 {v:cq}(h:e8 v=true):gv (kf v)=some v:=by
 have h0:=h;simp only[e8,qz,bC,aK]at h;obtain⟨⟨⟨⟨h1,h2⟩,h3⟩,h4⟩,h5⟩:=h;have e0:kf v=sN v:=by rw[kf,aw h0]

 have hcp:∀c∈coreS v++(if v.pre=[]then []else 45::v.pre),(c.toNat:Int)≠43:=fun c hc=>by
  rcases List.mem_append.1 hc with hc|hc
  .have:=(EJ v hc).2.1;omega
  .split at hc
   .cases hc
   .rcases cb.1 hc with rfl|hc
    .decide
    .have:=(FO h4 hc).1;omega
 have e1:aG (sN v) 43=(v.build,coreS v++(if v.pre=[]then []else 45::v.pre)):=by
  rw[xO];generalize coreS v++(if v.pre=[]then []else 45::v.pre)=q at hcp⊢;split
  .rename_i hb;rw[gX,Av hcp,hb]
  .exact xX hcp aF
 have hc45:∀c∈coreS v,(c.toNat:Int)≠45:=fun c hc=>by have:=(EJ v hc).1;omega
 have e2:aG (coreS v++(if v.pre=[]then []else 45::v.pre)) 45=(v.pre,coreS v):=by
  split
  .rename_i hb;rw[gX,Av hc45,hb]
  .exact xX hc45 aF
 have e3:ai (coreS v) 46=[dJ v.major.toNat,dJ v.minor.toNat,dJ v.patch.toNat]:=by
  have:=kJ (b:=46) (x:=46) rfl (ws:=[dJ v.major.toNat,dJ v.minor.toNat,dJ v.patch.toNat]) aJ (fun w hw c hc=>by
   have hd:bn c.toNat=true:=by
    simp only[cb,eJ,or_false]at hw;rcases hw with rfl|rfl|rfl<;>exact ir _ c hc
   have:=(rJ hd).1;omega)
  rw[<-this];simp[aS,coreS]
 have n1:=tp (n:=v.major.toNat) ae;have n2:=tp (n:=v.minor.toNat) ae;have n3:=tp (n:=v.patch.toNat) ae;have o1:=xm (n:=v.major.toNat) ae;have o2:=xm (n:=v.minor.toNat) ae;have o3:=xm (n:=v.patch.toNat) ae;have ev:(⟨((v.major.toNat:Nat):Int),((v.minor.toNat:Nat):Int),((v.patch.toNat:Nat):Int),v.pre,v.build⟩:cq)=v:=by
  obtain⟨a,b,c,d,e⟩:=v;simp only[cq.mk.injEq,cO,cu];simp only at h1 h2 h3;omega
 rw[e0];simp only[gv,e1,e2,e3];rw[aw ⟨rfl,n1,n2,n3⟩];simp only[List.getElem!_cons_zero,List.getElem!_cons_succ,o1,o2,o3,ev];rw[aw ⟨h0,e0⟩]
def Ik {Q:au->Prop}(h0:Q [])(h1:∀s c,Q s->Q (s++[c]))(s:au):Q s:=by
 have:∀r:au,Q r.reverse:=by
  intro r;induction r with
  |nil=>exact h0
  |cons c r ih=>rw[List.reverse_cons];exact h1 _ _ ih
 simpa using this s.reverse
def VQ (N i:Nat)(h:N<2^64):LZ (N:Int) i=N/16^i%16:=by
 unfold LZ sG;have e1:(N:Int).fdiv (2^(4*i))=((N/2^(4*i):Nat):Int):=by
  grind
 rw[e1,BitVec.ofInt_natCast,BitVec.toNat_and,BitVec.toNat_ofNat];have h2:N/2^(4*i)<2^64:=Nat.lt_of_le_of_lt (Nat.div_le_self _ _) h;rw[Nat.mod_eq_of_lt h2];have e2:(15#64).toNat=2^4-1:=rfl;rw[e2,Nat.and_two_pow_sub_one_eq_mod,show(16:Nat)^i=2^(4*i)by rw[Nat.pow_mul]]
def hv (c:UInt8):Nat:=if bn c.toNat=true then c.toNat-48 else c.toNat-87
def Lu {c:UInt8}(h:jI c.toNat=true):rp c.toNat=(hv c:Int)/\hv c<16:=by
 simp only[jI,bn,cN,bC,aK]at h;unfold rp hv
 grind [bn]
theorem V0 {N h:Nat}(hN:N<2^60)(hh:h<16):VZ (tW (N:Int) 4) (h:Int)=((N*16+h:Nat):Int):=by
 have e1:tW (N:Int) 4=((N*16:Nat):Int):=by
  unfold tW;rw[IntKind.wrap_u64];omega
 rw[e1];unfold VZ;rw[BitVec.ofInt_natCast,BitVec.ofInt_natCast,BitVec.toNat_or,BitVec.toNat_ofNat,BitVec.toNat_ofNat,Nat.mod_eq_of_lt (show N*16<2^64 by omega),Nat.mod_eq_of_lt (show h<2^64 by omega)];have e2:N*16 |||h=N*16+h:=by
  have:=Nat.shiftLeft_add_eq_or_of_lt (show h<2^4 by omega) N;rw[Nat.shiftLeft_eq]at this;exact this.symm
 rw[e2,IntKind.wrap_u64];omega
def pH (s:au):Nat:=s.foldl (fun n c=>n*16+hv c) 0
theorem wU (s:au)(c:UInt8):pH (s++[c])=pH s*16+hv c:=by simp[pH,List.foldl_append]
def Vw:∀(s:au),(∀c∈s,jI c.toNat=true)->pH s<16^s.length:=by
 intro s;refine Ik (Q:=fun s=>(∀c∈s,jI c.toNat=true)->pH s<16^s.length) (fun _=>by simp[pH]) (fun s c ih h=>?_) s
 .have h1:=ih fun d hd=>h d (by simp[hd])
  have h2:=(Lu (h c aJ)).2
  grind [wU]
def PI:∀(s:au),s.length<=16->(∀c∈s,jI c.toNat=true)->oL s=(pH s:Int):=by
 intro s;refine Ik (Q:=fun s=>s.length<=16->(∀c∈s,jI c.toNat=true)->oL s=(pH s:Int)) (fun _ _=>rfl) (fun s c ih hl h=>?_) s
 .rw[bQ,List.length_singleton]at hl;have hs:=fun d (hd:d∈s)=>h d (by simp[hd])
  have h1:=ih ae hs;have h2:=Lu (h c aJ);have h3:=Vw s hs;have h4:16^s.length<=16^15:=Nat.pow_le_pow_right ae ae
  grind [oL,sw,wU,V0]
def PH (s:au):iQ s=true↔s.length=16/\∀c∈s,jI c.toNat=true:=by
 unfold iQ;rw[bC,aK,vt jI]
theorem G2 {k:Nat}(h:k<16):jI (tK k).toNat=true/\hv (tK k)=k:=by
 have:∀k:Fin 16,jI (tK k.1).toNat=true/\hv (tK k.1)=k.1:=aF
 exact this ⟨k,h⟩
def Eh (n:Int):∀c∈fQ n,jI c.toNat=true:=by grind [fQ,G2,xl]
theorem BI (n:Int):iQ (fQ n)=true:=(PH _).2 ⟨ig n,Eh n⟩
def Dr (N:Nat)(h:N<2^64):∀k,k<=16->pH ((fQ N).take k)=N/16^(16-k)
 |0,_=>by
  rw[List.take_zero];rw[Nat.div_eq_of_lt (show N<16^(16-0)by omega)];rfl
 |k+1,hk=>by
  have ih:=Dr N h k ae;have e:(fQ (N:Int)).take (k+1)=(fQ (N:Int)).take k++[tK (LZ N (15-k))]:=B8 _ k ae;rw[e,wU,ih,(G2 (xl _ _)).2,VQ N _ h];have e2:16^(16-k)=16^(15-k)*16:=by rw[<-Nat.pow_succ];congr 1;omega
  rw[e2,<-Nat.div_div_eq_div_mul,show 16-(k+1)=15-k by omega];omega
theorem J5 {n:Int}(h0:0<=n)(h1:n<18446744073709551616):pr (fQ n)=n:=by
 obtain⟨N,rfl⟩:∃N:Nat,n=N:=⟨n.toNat,ae⟩
 rw[pr,aw (BI _),PI _ (by rw[ig];omega) (Eh _)];have:=Dr N ae 16 ae
 grind [ig]
def IK (a b:Int):0<=Cl a b/\Cl a b<18446744073709551616:=by
 unfold Cl;rw[IntKind.wrap_u64];omega
def KO (s:au):0<=Iq s/\Iq s<18446744073709551616:=IK _ _
theorem Mx {s:au}(h:cW s=true){c:UInt8}(hc:c∈s):zy c.toNat=true:=by
 simp only[cW,bC]at h;exact(vt zy s).1 h.2 c hc
def My {s:au}(h:cW s=true){c:UInt8}(hc:c∈s):c.toNat≠32/\c.toNat≠10/\c.toNat≠45:=by
 grind [Mx,zy,iG,bn]
def Wv {s:au}(h:cW s=true):s≠[]:=by
 rintro rfl;simp[cW]at h
def zj {s:au}(h:dL s=true):s≠[]/\iG (at8 s 0)=true/\∀c∈s,c.toNat≠32/\c.toNat≠10:=by
 simp only[dL,bC,aK,eD]at h;obtain⟨⟨⟨⟨h1,h2⟩,h3⟩,h4⟩,h5⟩:=h;refine⟨by rintro rfl;simp at h1,h3,fun c hc=>?_⟩;obtain⟨i,hi,rfl⟩:=List.getElem_of_mem hc;rcases Nat.eq_zero_or_pos i with rfl|hp
 .grind [vw,iG]
 grind [Zi,vw,iG,bn]
def wq.wf (x:wq):Prop:=0<=x.sum/\x.sum<18446744073709551616
def F7.wf (l:F7):Prop:=∀x∈l.lines,x.wf
end Go.Abs
section
namespace Go.Abs
theorem yz {b:Int}{x:UInt8}(hx:(x.toNat:Int)=b):∀(s cur:au),cE b s cur=match s.findIdx? (fun c=>c==x)with
  |some k=>(cur++s.take k)::cE b (s.drop (k+1)) []
  |none=>[cur++s]
 |[],cur=>by simp[cE]
 |c::r,cur=>by
  simp only[cE,List.findIdx?_cons];by_cases h:c=x
  .subst h;rw[aw hx];simp
  .have h1:¬(c.toNat:Int)=b:=fun e=>h (im.1 ae)
   have h2:(c==x)=false:=by simpa using h
   rw[ak h1,h2,yz hx r (cur++[c])]
   grind
def D9 (s:au)(x:UInt8):ai s x.toNat=if(iD s x).2.2=true then(iD s x).1::ai (iD s x).2.1 x.toNat else [s]:=by
 grind [ai,iD,yz]
def D1 {s:au}:(((iD s 47).2.2=true/\dL (iD s 47).1=true)/\cW (iD s 47).2.1=true)↔(((ai s 47).length:Int)=2/\dL (ai s 47)[0]! =true)/\cW (ai s 47)[1]! =true:=by
 have h:=D9 s 47;rw[show(((47:UInt8).toNat:Nat):Int)=47 from rfl]at h;by_cases hc:(iD s 47).2.2=true
 .rw[aw hc]at h;rw[h];have hj:=ju (b:=47) (x:=47) rfl (iD s 47).2.1;constructor
  .grind [ai,iD,cE,sI,Mx,zy,iG,bn]
  .rintro⟨⟨h1,h2⟩,h3⟩;refine⟨⟨hc,h2⟩, ?_⟩;generalize ai (iD s 47).2.1 47=q at hj h1 h3
   match q,h1 with
   |[y],_=>
    have:y=(iD s 47).2.1:=hj;rw[<-this];exact h3
   |[],h1=>simp at h1
   |_::_::_,h1=>simp at h1;omega
 .rw[ak hc]at h;rw[h];constructor
  .rintro⟨⟨h1,_⟩,_⟩;exact absurd h1 hc
  .rintro⟨⟨h1,_⟩,_⟩;simp at h1
def Hl {s:au}:(cV s [63]).2=true↔0<(s.length:Int)/\at8 s 0=63:=by
 match s with
 |[]=>simp[cV,List.isPrefixOf]
 |c::r=>
  have e:((c.toNat:Int)=63)↔c=63:=⟨fun h=>im.1 (by have:(63:UInt8).toNat=63:=rfl;omega),fun h=>by subst h;rfl⟩
  grind [cV,at8]
theorem DA {s:au}(h:(cV s [63]).2=true):(cV s [63]).1=s.drop 1:=by
 grind [cV]
def VD {s:au}(h0:cW s=false)(h:(cV s [63]).2=true/\cW (cV s [63]).1=true):dK s=(2,(cV s [63]).1,[]):=by
 rw[DA h.1]at h⊢;exact LA h0 ⟨Hl.1 h.1,h.2⟩
def LC {s:au}(h:(cV s [63]).2=false\/cW (cV s [63]).1=false):(¬0<(s.length:Int)\/¬at8 s 0=63)\/cW (s.drop 1)=false:=by
 by_cases hp:(cV s [63]).2=true
 .grind [DA]
 .have:=fun h2=>hp (Hl.2 h2)
  grind
def VE {s:au}(h0:cW s=false)(h:(cV s [63]).2=false\/cW (cV s [63]).1=false)(h2:((iD s 47).2.2=true/\dL (iD s 47).1=true)/\cW (iD s 47).2.1=true):dK s=((3:Int),(iD s 47).1,(iD s 47).2.1):=by
 have h3:=D1.1 h2;rw[LB h0 (LC h) h3];have hs:=D9 s 47;rw[show(((47:UInt8).toNat:Nat):Int)=47 from rfl,aw h2.1.1]at hs;have hj:=ju (b:=47) (x:=47) rfl (iD s 47).2.1;have hl:=h3.1.1;rw[hs]at hl⊢;generalize ai (iD s 47).2.1 47=q at hj hl
 match q,hl with
 |[y],_=>
  have:y=(iD s 47).2.1:=hj;rw[<-this];rfl
 |[],h1=>simp at h1
 |_::_::_,h1=>simp at h1;omega
def VC {s:au}(h0:cW s=false)(h:(cV s [63]).2=false\/cW (cV s [63]).1=false)(h2:((iD s 47).2.2=false\/dL (iD s 47).1=false)\/cW (iD s 47).2.1=false):dK s=(0,[],[]):=by
 refine Ly h0 (LC h) ?_;have hn:¬((((ai s 47).length:Int)=2/\dL (ai s 47)[0]! =true)/\cW (ai s 47)[1]! =true):=fun h3=>by
  obtain⟨⟨g1,g2⟩,g3⟩:=D1.2 h3
  grind
 grind
end Go.Abs
namespace Go.Abs
def OL {l:List b7}{i:Nat}(h:(!cW l[i]!.name ||(decide ((0:Int)<(i:Int))&& !Op.bytesLess l[i-1]!.name l[i]!.name) ||decide ((6:Int)<(l[i]!.of.length:Int)) ||!rising l[i]!.of)=false):
  jT l i=cS (fun j=>jb l l[i]!.of[j]!) 0 l[i]!.of.length:=by
 grind [jT,mg]
def OK {l:List b7}{i:Nat}(h:(!cW l[i]!.name ||(decide ((0:Int)<(i:Int))&& !Op.bytesLess l[i-1]!.name l[i]!.name) ||decide ((6:Int)<(l[i]!.of.length:Int)) ||!rising l[i]!.of)=true):
  jT l i=false:=by
 grind [jT,mg,cW,rising]
end Go.Abs
end
