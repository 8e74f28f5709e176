/- A part of the proofs. -/
import Derived.Test.YtgnjlompgjhaaaaGreatDoorP04
set_option linter.all false
set_option maxRecDepth 4000
section
namespace Go.Abs
variable {Y:Ctx}(hm:(Y.at 0).bU)
structure cg where
 name:au
 range:au
 feats:List au
 bare:Bool
 deriving Inhabited,DecidableEq
def cg.D (x:cg):D:=.agg [.str x.name,.str x.range,.sl 1 (x.feats.map D.str),.bool x.bare]
structure bS where
 any:List cg
 when':au
 option:au
 deriving Inhabited,DecidableEq
def bS.D (x:bS):D:=.agg [.sl 4 (x.any.map cg.D),.str x.when',.str x.option]
structure iT where
 name:au
 range:au
 when':au
 deriving Inhabited,DecidableEq
def iT.D (x:iT):D:=.agg [.str x.name,.str x.range,.str x.when']
structure bW where
 name:au
 of:List au
 deriving Inhabited,DecidableEq
def bW.D (x:bW):D:=.agg [.str x.name,.sl 1 (x.of.map D.str)]
structure Rec where
 name:au
 v:c9
 needs:List bS
 bars:List iT
 feats:List bW
 deriving Inhabited,DecidableEq
def Rec.D (x:Rec):D:=.agg [.str x.name,.int .i64 x.v.major,.int .i64 x.v.minor,.int .i64 x.v.patch,.str x.v.pre,.str x.v.build,.sl 3 (x.needs.map bS.D),.sl 3 (x.bars.map iT.D),.sl 2 (x.feats.map bW.D)]
structure dc where
 op:Int
 parts:Int
 v:c9
 deriving Inhabited,DecidableEq
def dc.D (x:dc):D:=.agg [.int .i64 x.op,.int .i64 x.parts,.int .i64 x.v.major,.int .i64 x.v.minor,.int .i64 x.v.patch,.str x.v.pre,.str x.v.build]
structure Nd where
 op:Int
 a:Int
 b:Int
 key:Int
 text:au
 deriving Inhabited,DecidableEq
def Nd.D (x:Nd):D:=.agg [.int .i64 x.op,.int .i64 x.a,.int .i64 x.b,.int .i64 x.key,.str x.text]
def iT.eq (a b:iT):iC (iT.D a).cells (iT.D b).cells=decide (a=b):=by
 obtain⟨a1,a2,a3⟩:=a;obtain⟨b1,b2,b3⟩:=b
 grind [iT.D,D.cells,iC,tv]
def cg.same {a b:cg}(e1:a.name=b.name)(e2:a.range=b.range)(e3:a.bare=b.bare):decide (a=b)=decide (a.feats=b.feats):=by
 obtain⟨a1,a2,a3,a4⟩:=a;obtain⟨b1,b2,b3,b4⟩:=b
 grind
def rising (l:List au):Bool:=cI (fun i=>Op.bytesLess l[i-1]! l[i]!) 1 l.length
def dd (s:au):Int×au×au:=
 if cu s=true then(1,s,[])
 else if s.length>0/\at8 s 0=63/\cu (s.drop 1)=true then(2,s.drop 1,[])
 else if(aq s 47).length=2/\du (aq s 47)[0]! =true/\cu (aq s 47)[1]! =true then(3,(aq s 47)[0]!,(aq s 47)[1]!)
 else(0,[],[])
def findF (l:List bW)(nm:au)(i:Nat):Int:=match(l.drop i).findIdx? (fun x=>decide (x.name=nm))with
 |some k=>((i+k:Nat):Int)
 |none=>-1
def Dy {l:List bW}{nm:au}{i:Nat}(h:i<l.length)(he:l[i]!.name=nm):findF l nm i=(i:Nat):=by
 unfold findF;rw[kW h,List.findIdx?_cons]
 grind
def Dz {l:List bW}{nm:au}{i:Nat}(h:i<l.length)(he:¬l[i]!.name=nm):findF l nm i=findF l nm (i+1):=by
 unfold findF;have:¬l[i].name=nm:=by simpa[h]using he
 rw[kW h,List.findIdx?_cons]
 grind
def AH {l:List bW}{nm:au}{i:Nat}(h:l.length<=i):findF l nm i=-1:=by
 unfold findF;rw[nr h];rfl
def SL:au:=[100,101,102,97,117,108,116]
def Og (l:List bW)(nm:au):Bool:=decide (nm=SL) ||decide (0<=findF l nm 0)
def ig (l:List bW)(s:au):Bool:=!(decide ((dd s).1=0) ||(decide ((dd s).1=1)&& !Og l (dd s).2.1))
def kO (l:List bW)(of:List au):Bool:=decide (of.length<=6)&&rising of&&cI (fun i=>ig l of[i]!) 0 of.length
def ja (l:List bW)(i:Nat):Bool:=cu l[i]!.name&& !(decide (0<i)&& !Op.bytesLess l[i-1]!.name l[i]!.name)&&kO l l[i]!.of
def gP (l:List bW):Bool:=decide (l.length<=8)&&cI (ja l) 0 l.length
def bW.sm (x:bW):Prop:=x.name.length<=1048576/\x.of.length<=1048576/\∀t∈x.of,t.length<=1048576
def wR (l:List bW):Prop:=∀x∈l,x.sm
def rh (b:au):∀(l:List au) (i:Nat),(aT b (l.take i)).length<=(aT b l).length
 |[],i=>aQ
 |[t],0=>by simp[aT]
 |[t],i+1=>aQ
 |t::u::r,0=>by simp[aT]
 |t::u::r,1=>by simp[aT]
 |t::u::r,i+2=>by
  have:=rh b (u::r) (i+1)
  grind [aT]
theorem sw (b t:au):∀(l:List au),l≠[]->aT b (l++[t])=aT b l++b++t
 |[],h=>absurd rfl h
 |[u],_=>by simp[aT]
 |u::v::r,_=>by
  have:=sw b t (v::r) aQ
  grind [aT]
def oX (b:au)(l:List au)(i:Nat)(h:i<l.length):aT b (l.take (i+1))=(if 0<i then aT b (l.take i)++b else [])++l[i]! :=by
 have e:l.take (i+1)=l.take i++[l[i]!]:=by
  rw[List.take_add_one,List.getElem?_eq_getElem h];simp[h]
 rw[e];by_cases h0:0<i
 .rw[ax h0,sw _ _ _ (by intro hn;have:=ar List.length hn;simp only[fA,aC]at this;omega)]
 grind [aT]
end Go.Abs
namespace Go.Abs
variable {Y:Ctx}(hm:(Y.at 0).bU)
def H6 {s:au}(h0:cu s=true):dd s=(1,s,[]):=by simp only[dd,ax h0]
def H7 {s:au}(h0:cu s=false)(h:(0<(s.length:Int)/\at8 s 0=63)/\cu (s.drop 1)=true):dd s=(2,s.drop 1,[]):=by
 grind [dd]
theorem DX {s:au}(h:(¬0<(s.length:Int)\/¬at8 s 0=63)\/cu (s.drop 1)=false):¬(s.length>0/\at8 s 0=63/\cu (s.drop 1)=true):=by
 grind
def H8 {s:au}(h0:cu s=false)(h:(¬0<(s.length:Int)\/¬at8 s 0=63)\/cu (s.drop 1)=false)(h2:(((aq s 47).length:Int)=2/\du (aq s 47)[0]! =true)/\cu (aq s 47)[1]! =true):dd s=((3:Int),(aq s 47)[0]!,(aq s 47)[1]!):=by
 grind [dd,DX]
def H5 {s:au}(h0:cu s=false)(h:(¬0<(s.length:Int)\/¬at8 s 0=63)\/cu (s.drop 1)=false)(h2:(¬((aq s 47).length:Int)=2\/du (aq s 47)[0]! =false)\/cu (aq s 47)[1]! =false):dd s=(0,[],[]):=by
 grind [dd,DX]
end Go.Abs
end
namespace Go.Abs
variable {Y:Ctx}(hm:(Y.at 0).bU)
theorem te (s:au)(i:Nat)(h:i<s.length):at8 s i=((s[i]'h).toNat:Int):=by simp[at8,h]
def td (p:Int->Bool)(s:au):cI (fun i=>p (at8 s i)) 0 s.length=true↔∀c∈s,p c.toNat=true:=by
 rw[eo];constructor
 .intro h c hc;obtain⟨i,hi,rfl⟩:=List.getElem_of_mem hc
  grind [te]
 grind [te]
theorem qF {b:Int}:∀{s cur:au},(∀c∈s,(c.toNat:Int)≠b)->ca b s cur=[cur++s]
 |[],cur,_=>by simp[ca]
 |c::r,cur,h=>by
  simp only[ca];rw[ai (h c (.head _)),qF (fun d hd=>h d (.tail _ hd))];simp
theorem sP {b:Int}{x:UInt8}(hx:(x.toNat:Int)=b)(r:au):∀{w cur:au},(∀c∈w,(c.toNat:Int)≠b)->ca b (w++x::r) cur=(cur++w)::ca b r []
 |[],cur,_=>by simp[ca,hx]
 |c::w,cur,h=>by
  simp only[eN,ca];rw[ai (h c (.head _)),sP hx r (fun d hd=>h d (.tail _ hd))];simp
def jD {b:Int}{x:UInt8}(hx:(x.toNat:Int)=b):∀{ws:List au},ws≠[]->(∀w∈ws,∀c∈w,(c.toNat:Int)≠b)->aq (aT [x] ws) b=ws
 |[],h,_=>absurd rfl h
 |[w],_,h=>by
  show ca b w []=[w];rw[qF (h w (.head _))];rfl
 |w::u::r,_,h=>by
  have ih:=jD (ws:=u::r) hx aQ (fun v hv=>h v (.tail _ hv));show ca b (w++[x]++aT [x] (u::r)) []=_;rw[dx,List.singleton_append,sP hx _ (h w (.head _))];rw[show ca b (aT [x] (u::r)) []=u::r from ih];rfl
def qe {b:Int}{x:UInt8}(hx:(x.toNat:Int)=b):∀(s cur:au),aT [x] (ca b s cur)=cur++s
 |[],cur=>by simp[ca,aT]
 |c::r,cur=>by
  simp only[ca];split
  .rename_i h;rw[gS _ _ _ (by intro h;have:=ff b r [];rw[h]at this;simp at this),qe hx r []];have:c=x:=je.1 ae;simp[this]
  .rw[qe hx r];simp
theorem lB {b:Int}{x:UInt8}(hx:(x.toNat:Int)=b)(s:au):aT [x] (aq s b)=s:=by
 unfold aq;rw[qe hx];rfl
def DA {p:UInt8->Bool}{w:au}{x:UInt8}{r:au}(h:∀c∈w,p c=false)(hx:p x=true):(w++x::r).findIdx? p=some w.length:=by
 grind
def yb {b:Int}{w:au}(h:∀c∈w,(c.toNat:Int)≠b):nw w b=([],w):=by
 unfold nw BN
 grind
def vG {b:Int}{w r:au}{x:UInt8}(h:∀c∈w,(c.toNat:Int)≠b)(hx:(x.toNat:Int)=b):nw (w++x::r) b=(r,w):=by
 unfold nw BN;rw[de,DA (fun c hc=>by simpa using h c hc) (by simpa using hx)];simp
theorem Dt {n:Nat}(h:n<10):a8 (dg n).toNat=true:=by
 grind [AA,a8]
def tp {Q:Nat->Prop}(h1:∀n,n<10->Q n)(h2:∀n,9<n->Q (n/10)->Q n)(n:Nat):Q n:=by
 induction n using Nat.strongRecOn with
 |ind n ih=>
  grind
theorem gC (n:Nat):∀c∈dp n,a8 c.toNat=true:=by
 refine tp (Q:=fun n=>∀c∈dp n,a8 c.toNat=true) (fun n h c hc=>?_) (fun n h ih c hc=>?_) n
 .grind [mw,Dt]
 grind [ny,Dt]
theorem GQ (s:au)(c:UInt8):dL (s++[c])=dL s*10+(c.toNat-48):=by
 simp[dL,List.foldl_append]
def Ec (n:Nat):dL (dp n)=n:=by
 refine tp (Q:=fun n=>dL (dp n)=n) (fun n h=>?_) (fun n h ih=>?_) n
 .grind [mw,AA,dL]
 grind [ny,GQ,AA]
theorem wN (n:Nat):dp n≠[]:=by
 refine tp (Q:=fun n=>dp n≠[]) (fun n h=>?_) (fun n h ih=>?_) n
 .rw[mw h];simp
 .rw[ny h];simp
theorem KP (n:Nat)(h:0<n):at8 (dp n) 0≠48:=by
 refine tp (Q:=fun n=>0<n->at8 (dp n) 0≠48) (fun n h h0=>?_) (fun n h ih h0=>?_) n h
 .grind [mw,AA,at8]
 grind [ny,wN,at8,dp]
def rl {n:Nat}(h:n<=9999):iE (dp n)=true:=by
 rw[Ck];have h1:=List.length_pos_iff.2 (wN n);have h2:=dU 4 n ae ae;have h3:cI (fun i=>a8 (at8 (dp n) i)) 0 (dp n).length=true:=(td a8 _).2 (gC n)
 grind [dp,mw,KP]
def uR {n:Nat}(h:n<=9999):jL (dp n)=(n:Int):=by
 rw[jL,ax (rl h),Ec]
theorem mM (x:UInt8):∀(ws:List au) (c:UInt8),c∈aT [x] ws->c=x\/∃w∈ws,c∈w
 |[],c,h=>by simp[aT]at h
 |[w],c,h=>.inr ⟨w,.head _,h⟩
 |w::u::r,c,h=>by
  rw[gS _ _ _ aQ]at h;simp only[List.mem_append,cz]at h;rcases h with(h|h)|h
  .exact .inr ⟨w,.head _,h⟩
  .exact .inl h
  .rcases mM x (u::r) c h with h|⟨v,hv,hc⟩
   .exact .inl h
   .exact .inr ⟨v,.tail _ hv,hc⟩
def E5 {s:au}{p:Bool}(h:qI s p=true){c:UInt8}(hc:c∈s):mF c.toNat=true\/c=46:=by
 simp only[qI,c8,aY,nI,bp,eo]at h;rcases h with rfl|⟨_,h⟩
 .cases hc
 .rw[<-lB (b:=46) (x:=46) rfl s]at hc;rcases mM 46 _ c hc with rfl|⟨w,hw,hcw⟩
  .exact .inr rfl
  .left;obtain⟨i,hi,rfl⟩:=List.getElem_of_mem hw;have:=h i ae hi;rw[show(aq s 46)[i]! =(aq s 46)[i]by simp[hi]]at this;simp only[hY,qH,bp]at this;exact(td mF _).1 this.1.2 c hcw
def CP {s:au}{p:Bool}(h:qI s p=true){c:UInt8}(hc:c∈s):c.toNat≠43/\c.toNat≠32/\c.toNat≠10:=by
 rcases E5 h hc with h|rfl
 .grind [mF,gT,a8]
 .decide
def pV {c:UInt8}(h:a8 c.toNat=true):c.toNat≠46/\c.toNat≠45/\c.toNat≠43/\c.toNat≠32/\c.toNat≠10:=by
 grind [a8]
def coreS (v:c9):au:=dp v.major.toNat++[46]++dp v.minor.toNat++[46]++dp v.patch.toNat
def BV (v:c9){c:UInt8}(h:c∈coreS v):c.toNat≠45/\c.toNat≠43/\c.toNat≠32/\c.toNat≠10:=by
 simp only[coreS,List.mem_append,cz]at h;rcases h with(((h|rfl)|h)|rfl)|h
 .exact(pV (gC _ c h)).2
 .decide
 .exact(pV (gC _ c h)).2
 .decide
 .exact(pV (gC _ c h)).2
theorem vu (v:c9):rM v=coreS v++(if v.pre=[]then []else 45::v.pre)++(if v.build=[]then []else 43::v.build):=rfl
def Sc {v:c9}(h:eH v=true){c:UInt8}(hc:c∈rM v):c.toNat≠32/\c.toNat≠10:=by
 simp only[eH,bp]at h;rw[vu]at hc;simp only[List.mem_append]at hc;rcases hc with(hc|hc)|hc
 .exact(BV v hc).2.2
 .split at hc
  .cases hc
  .rcases bZ.1 hc with rfl|hc
   .decide
   .exact(CP h.1.2 hc).2
 .split at hc
  .cases hc
  .rcases bZ.1 hc with rfl|hc
   .decide
   .exact(CP h.2 hc).2
def VK {v:c9}(h:eH v=true):Sb (jN v)=some v:=by
 have h0:=h;simp only[eH,oS,bp,aY]at h;obtain⟨⟨⟨⟨h1,h2⟩,h3⟩,h4⟩,h5⟩:=h;have e0:jN v=rM v:=by rw[jN,ax h0]

 have hcp:∀c∈coreS v++(if v.pre=[]then []else 45::v.pre),(c.toNat:Int)≠43:=fun c hc=>by
  rcases List.mem_append.1 hc with hc|hc
  .have:=(BV v hc).2.1;omega
  .split at hc
   .cases hc
   .rcases bZ.1 hc with rfl|hc
    .decide
    .have:=(CP h4 hc).1;omega
 have e1:nw (rM v) 43=(v.build,coreS v++(if v.pre=[]then []else 45::v.pre)):=by
  rw[vu];generalize coreS v++(if v.pre=[]then []else 45::v.pre)=q at hcp⊢;split
  .rename_i hb;rw[jy,yb hcp,hb]
  .exact vG hcp aG
 have hc45:∀c∈coreS v,(c.toNat:Int)≠45:=fun c hc=>by have:=(BV v hc).1;omega
 have e2:nw (coreS v++(if v.pre=[]then []else 45::v.pre)) 45=(v.pre,coreS v):=by
  split
  .rename_i hb;rw[jy,yb hc45,hb]
  .exact vG hc45 aG
 have e3:aq (coreS v) 46=[dp v.major.toNat,dp v.minor.toNat,dp v.patch.toNat]:=by
  have:=jD (b:=46) (x:=46) rfl (ws:=[dp v.major.toNat,dp v.minor.toNat,dp v.patch.toNat]) aQ (fun w hw c hc=>by
   have hd:a8 c.toNat=true:=by
    simp only[bZ,dX,or_false]at hw;rcases hw with rfl|rfl|rfl<;>exact gC _ c hc
   have:=(pV hd).1;omega)
  rw[<-this];simp[aT,coreS]
 have n1:=rl (n:=v.major.toNat) ae;have n2:=rl (n:=v.minor.toNat) ae;have n3:=rl (n:=v.patch.toNat) ae;have o1:=uR (n:=v.major.toNat) ae;have o2:=uR (n:=v.minor.toNat) ae;have o3:=uR (n:=v.patch.toNat) ae;have ev:(⟨((v.major.toNat:Nat):Int),((v.minor.toNat:Nat):Int),((v.patch.toNat:Nat):Int),v.pre,v.build⟩:c9)=v:=by
  obtain⟨a,b,c,d,e⟩:=v;simp only[c9.mk.injEq,fR,dT];simp only at h1 h2 h3;omega
 rw[e0];simp only[Sb,e1,e2,e3];rw[ax ⟨rfl,n1,n2,n3⟩];simp only[List.getElem!_cons_zero,List.getElem!_cons_succ,o1,o2,o3,ev];rw[ax ⟨h0,e0⟩]
def EZ {Q:au->Prop}(h0:Q [])(h1:∀s c,Q s->Q (s++[c]))(s:au):Q s:=by
 have:∀r:au,Q r.reverse:=by
  intro r;induction r with
  |nil=>exact h0
  |cons c r ih=>rw[List.reverse_cons];exact h1 _ _ ih
 simpa using this s.reverse
def RC (N i:Nat)(h:N<2^64):LG (N:Int) i=N/16^i%16:=by
 unfold LG r0;have e1:(N:Int).fdiv (2^(4*i))=((N/2^(4*i):Nat):Int):=by
  grind
 rw[e1,BitVec.ofInt_natCast,BitVec.toNat_and,BitVec.toNat_ofNat];have h2:N/2^(4*i)<2^64:=Nat.lt_of_le_of_lt (Nat.div_le_self _ _) h;rw[Nat.mod_eq_of_lt h2];have e2:(15#64).toNat=2^4-1:=rfl;rw[e2,Nat.and_two_pow_sub_one_eq_mod,show(16:Nat)^i=2^(4*i)by rw[Nat.pow_mul]]
def hv (c:UInt8):Nat:=if a8 c.toNat=true then c.toNat-48 else c.toNat-87
def H2 {c:UInt8}(h:oq c.toNat=true):Gm c.toNat=(hv c:Int)/\hv c<16:=by
 simp only[oq,a8,c8,bp,aY]at h;unfold Gm hv
 grind [a8]
theorem RL {N h:Nat}(hN:N<2^60)(hh:h<16):RJ (tW (N:Int) 4) (h:Int)=((N*16+h:Nat):Int):=by
 have e1:tW (N:Int) 4=((N*16:Nat):Int):=by
  unfold tW;rw[IntKind.wrap_u64];omega
 rw[e1];unfold RJ;rw[BitVec.ofInt_natCast,BitVec.ofInt_natCast,BitVec.toNat_or,BitVec.toNat_ofNat,BitVec.toNat_ofNat,Nat.mod_eq_of_lt (show N*16<2^64 by omega),Nat.mod_eq_of_lt (show h<2^64 by omega)];have e2:N*16 |||h=N*16+h:=by
  have:=Nat.shiftLeft_add_eq_or_of_lt (show h<2^4 by omega) N;rw[Nat.shiftLeft_eq]at this;exact this.symm
 rw[e2,IntKind.wrap_u64];omega
def nS (s:au):Nat:=s.foldl (fun n c=>n*16+hv c) 0
theorem uD (s:au)(c:UInt8):nS (s++[c])=nS s*16+hv c:=by simp[nS,List.foldl_append]
def Rm:∀(s:au),(∀c∈s,oq c.toNat=true)->nS s<16^s.length:=by
 intro s;refine EZ (Q:=fun s=>(∀c∈s,oq c.toNat=true)->nS s<16^s.length) (fun _=>by simp[nS]) (fun s c ih h=>?_) s
 .have h1:=ih fun d hd=>h d (by simp[hd])
  have h2:=(H2 (h c aQ)).2
  grind [uD]
def LV:∀(s:au),s.length<=16->(∀c∈s,oq c.toNat=true)->pA s=(nS s:Int):=by
 intro s;refine EZ (Q:=fun s=>s.length<=16->(∀c∈s,oq c.toNat=true)->pA s=(nS s:Int)) (fun _ _=>rfl) (fun s c ih hl h=>?_) s
 .rw[bJ,List.length_singleton]at hl;have hs:=fun d (hd:d∈s)=>h d (by simp[hd])
  have h1:=ih ae hs;have h2:=H2 (h c aQ);have h3:=Rm s hs;have h4:16^s.length<=16^15:=Nat.pow_le_pow_right ae ae
  grind [pA,qv,uD,RL]
def LU (s:au):mi s=true↔s.length=16/\∀c∈s,oq c.toNat=true:=by
 unfold mi;rw[bp,aY,td oq]
theorem DN {k:Nat}(h:k<16):oq (rE k).toNat=true/\hv (rE k)=k:=by
 have:∀k:Fin 16,oq (rE k.1).toNat=true/\hv (rE k.1)=k.1:=aG
 exact this ⟨k,h⟩
def Bw (n:Int):∀c∈fU n,oq c.toNat=true:=by grind [fU,DN,yS]
theorem zi (n:Int):mi (fU n)=true:=(LU _).2 ⟨jF n,Bw n⟩
def AN (N:Nat)(h:N<2^64):∀k,k<=16->nS ((fU N).take k)=N/16^(16-k)
 |0,_=>by
  rw[List.take_zero];rw[Nat.div_eq_of_lt (show N<16^(16-0)by omega)];rfl
 |k+1,hk=>by
  have ih:=AN N h k ae;have e:(fU (N:Int)).take (k+1)=(fU (N:Int)).take k++[rE (LG N (15-k))]:=Hu _ k ae;rw[e,uD,ih,(DN (yS _ _)).2,RC N _ h];have e2:16^(16-k)=16^(15-k)*16:=by rw[<-Nat.pow_succ];congr 1;omega
  rw[e2,<-Nat.div_div_eq_div_mul,show 16-(k+1)=15-k by omega];omega
theorem GX {n:Int}(h0:0<=n)(h1:n<18446744073709551616):tR (fU n)=n:=by
 obtain⟨N,rfl⟩:∃N:Nat,n=N:=⟨n.toNat,ae⟩
 rw[tR,ax (zi _),LV _ (by rw[jF];omega) (Bw _)];have:=AN N ae 16 ae
 grind [jF]
def Fo (a b:Int):0<=zI a b/\zI a b<18446744073709551616:=by
 unfold zI;rw[IntKind.wrap_u64];omega
def Ht (s:au):0<=E2 s/\E2 s<18446744073709551616:=Fo _ _
theorem Jb {s:au}(h:cu s=true){c:UInt8}(hc:c∈s):xe c.toNat=true:=by
 simp only[cu,bp]at h;exact(td xe s).1 h.2 c hc
def Jc {s:au}(h:cu s=true){c:UInt8}(hc:c∈s):c.toNat≠32/\c.toNat≠10/\c.toNat≠45:=by
 grind [Jb,xe,gT,a8]
def Sf {s:au}(h:cu s=true):s≠[]:=by
 rintro rfl;simp[cu]at h
def wZ {s:au}(h:du s=true):s≠[]/\gT (at8 s 0)=true/\∀c∈s,c.toNat≠32/\c.toNat≠10:=by
 simp only[du,bp,aY,eo]at h;obtain⟨⟨⟨⟨h1,h2⟩,h3⟩,h4⟩,h5⟩:=h;refine⟨by rintro rfl;simp at h1,h3,fun c hc=>?_⟩;obtain⟨i,hi,rfl⟩:=List.getElem_of_mem hc;rcases Nat.eq_zero_or_pos i with rfl|hp
 .grind [te,gT]
 grind [UY,te,gT,a8]
def wK.wf (x:wK):Prop:=0<=x.sum/\x.sum<18446744073709551616
def C4.wf (l:C4):Prop:=∀x∈l.lines,x.wf
end Go.Abs
section
namespace Go.Abs
variable {Y:Ctx}(hm:(Y.at 0).bU)
theorem wc {b:Int}{x:UInt8}(hx:(x.toNat:Int)=b):∀(s cur:au),ca b s cur=match s.findIdx? (fun c=>c==x)with
  |some k=>(cur++s.take k)::ca b (s.drop (k+1)) []
  |none=>[cur++s]
 |[],cur=>by simp[ca]
 |c::r,cur=>by
  simp only[ca,List.findIdx?_cons];by_cases h:c=x
  .subst h;rw[ax hx];simp
  .have h1:¬(c.toNat:Int)=b:=fun e=>h (je.1 ae)
   have h2:(c==x)=false:=by simpa using h
   rw[ai h1,h2,wc hx r (cur++[c])]
   grind
def Bm (s:au)(x:UInt8):aq s x.toNat=if(gO s x).2.2=true then(gO s x).1::aq (gO s x).2.1 x.toNat else [s]:=by
 grind [aq,gO,wc]
def Bf {s:au}:(((gO s 47).2.2=true/\du (gO s 47).1=true)/\cu (gO s 47).2.1=true)↔(((aq s 47).length:Int)=2/\du (aq s 47)[0]! =true)/\cu (aq s 47)[1]! =true:=by
 have h:=Bm s 47;rw[show(((47:UInt8).toNat:Nat):Int)=47 from rfl]at h;by_cases hc:(gO s 47).2.2=true
 .rw[ax hc]at h;rw[h];have hj:=lB (b:=47) (x:=47) rfl (gO s 47).2.1;constructor
  .grind [aq,gO,ca,qF,Jb,xe,gT,a8]
  .rintro⟨⟨h1,h2⟩,h3⟩;refine⟨⟨hc,h2⟩, ?_⟩;generalize aq (gO s 47).2.1 47=q at hj h1 h3
   match q,h1 with
   |[y],_=>
    have:y=(gO s 47).2.1:=hj;rw[<-this];exact h3
   |[],h1=>simp at h1
   |_::_::_,h1=>simp at h1;omega
 .rw[ai hc]at h;rw[h];constructor
  .rintro⟨⟨h1,_⟩,_⟩;exact absurd h1 hc
  .rintro⟨⟨h1,_⟩,_⟩;simp at h1
def D6 {s:au}:(cQ s [63]).2=true↔0<(s.length:Int)/\at8 s 0=63:=by
 match s with
 |[]=>simp[cQ,List.isPrefixOf]
 |c::r=>
  have e:((c.toNat:Int)=63)↔c=63:=⟨fun h=>je.1 (by have:(63:UInt8).toNat=63:=rfl;omega),fun h=>by subst h;rfl⟩
  grind [cQ,at8]
theorem AY {s:au}(h:(cQ s [63]).2=true):(cQ s [63]).1=s.drop 1:=by
 grind [cQ]
def Rq {s:au}(h0:cu s=false)(h:(cQ s [63]).2=true/\cu (cQ s [63]).1=true):dd s=(2,(cQ s [63]).1,[]):=by
 rw[AY h.1]at h⊢;exact H7 h0 ⟨D6.1 h.1,h.2⟩
def H9 {s:au}(h:(cQ s [63]).2=false\/cu (cQ s [63]).1=false):(¬0<(s.length:Int)\/¬at8 s 0=63)\/cu (s.drop 1)=false:=by
 by_cases hp:(cQ s [63]).2=true
 .grind [AY]
 .have:=fun h2=>hp (D6.2 h2)
  grind
def Rr {s:au}(h0:cu s=false)(h:(cQ s [63]).2=false\/cu (cQ s [63]).1=false)(h2:((gO s 47).2.2=true/\du (gO s 47).1=true)/\cu (gO s 47).2.1=true):dd s=((3:Int),(gO s 47).1,(gO s 47).2.1):=by
 have h3:=Bf.1 h2;rw[H8 h0 (H9 h) h3];have hs:=Bm s 47;rw[show(((47:UInt8).toNat:Nat):Int)=47 from rfl,ax h2.1.1]at hs;have hj:=lB (b:=47) (x:=47) rfl (gO s 47).2.1;have hl:=h3.1.1;rw[hs]at hl⊢;generalize aq (gO s 47).2.1 47=q at hj hl
 match q,hl with
 |[y],_=>
  have:y=(gO s 47).2.1:=hj;rw[<-this];rfl
 |[],h1=>simp at h1
 |_::_::_,h1=>simp at h1;omega
def Rp {s:au}(h0:cu s=false)(h:(cQ s [63]).2=false\/cu (cQ s [63]).1=false)(h2:((gO s 47).2.2=false\/du (gO s 47).1=false)\/cu (gO s 47).2.1=false):dd s=(0,[],[]):=by
 refine H5 h0 (H9 h) ?_;have hn:¬((((aq s 47).length:Int)=2/\du (aq s 47)[0]! =true)/\cu (aq s 47)[1]! =true):=fun h3=>by
  obtain⟨⟨g1,g2⟩,g3⟩:=Bf.2 h3
  grind
 grind
end Go.Abs
namespace Go.Abs
variable {Y:Ctx}(hm:(Y.at 0).bU)
def KU {l:List bW}{i:Nat}(h:(!cu l[i]!.name ||(decide ((0:Int)<(i:Int))&& !Op.bytesLess l[i-1]!.name l[i]!.name) ||decide ((6:Int)<(l[i]!.of.length:Int)) ||!rising l[i]!.of)=false):
  ja l i=cI (fun j=>ig l l[i]!.of[j]!) 0 l[i]!.of.length:=by
 grind [ja,kO]
def KT {l:List bW}{i:Nat}(h:(!cu l[i]!.name ||(decide ((0:Int)<(i:Int))&& !Op.bytesLess l[i-1]!.name l[i]!.name) ||decide ((6:Int)<(l[i]!.of.length:Int)) ||!rising l[i]!.of)=true):
  ja l i=false:=by
 grind [ja,kO,cu,rising]
end Go.Abs
end
section
namespace Go.Abs
variable {Y:Ctx}(hm:(Y.at 0).bU)
def dj (op:Int):au:=if op=1 then [61]else if op=2 then [33,61]else if op=3 then [60]else if op=4 then [60,61]else if op=5 then [62]else if op=6 then [62,61]else if op=7 then [94]else if op=8 then [126]else []
def vi (op:Int):(dj op).length<=2:=by
 grind [dj]
def r8 (s w:au):Bool:=decide (w.length<=s.length)&&decide (s.take w.length=w)
def pC (c:dc):Bool:=(decide (0<c.parts) ||decide (c.v.major=0))&&(decide (1<c.parts) ||decide (c.v.minor=0))&&(decide (2<c.parts) ||decide (c.v.patch=0))
def ml (c:dc):Bool:=decide (1<=c.op)&&decide (c.op<=9)&&eH c.v&&decide (c.v.build=[])&&decide ((if c.op=9 then 0 else 1)<=c.parts)&&decide (c.parts<=if c.op=9 then 2 else 3)&&(decide (3<=c.parts) ||decide (c.v.pre=[]))&&pC c
def dc.sm (c:dc):Prop:=c.v.sm
def Dq {c:dc}(h:(decide (c.op<1) ||decide (9<c.op) ||!eH c.v ||!decide (c.v.build=[]))=true):ml c=false:=by
 unfold ml
 grind
def Ay {c:dc}(h:(decide (c.op<1) ||decide (9<c.op) ||!eH c.v ||!decide (c.v.build=[]))=false):1<=c.op/\c.op<=9/\eH c.v=true/\c.v.build=[]:=by
 grind
end Go.Abs
namespace Go.Abs
variable {Y:Ctx}(hm:(Y.at 0).bU)
def qV {c:dc}(hy:1<=c.op/\c.op<=9/\eH c.v=true/\c.v.build=[]){lo hi:Int}(hlo:(if c.op=9 then 0 else 1)=lo)(hhi:(if c.op=9 then 2 else 3)=hi):
  ml c=(!(decide (c.parts<lo) ||decide (hi<c.parts) ||(decide (c.parts<3)&& !decide (c.v.pre=[])))&&pC c):=by
 grind [ml]
end Go.Abs
namespace Go.Abs
variable {Y:Ctx}(hm:(Y.at 0).bU)
def dc.lW (c:dc):List Int:=[c.v.major,c.v.minor,c.v.patch]
def fJ (c:dc):Nat->au
 |0=>[]
 |i+1=>fJ c i++(if 0<i then [46]else [])++dp (c.lW[i]!).toNat
def kI (c:dc):au:=if c.op=9 then(if 0<c.parts then [46]else [])++[42]else if c.v.pre=[]then []else 45::c.v.pre
def ll (c:dc):au:=dj c.op++fJ c c.parts.toNat++kI c
def dH (c:dc):au:=if ml c=true then ll c else []
def qj {c:dc}(h:eH c.v=true)(i:Nat):0<=c.lW[i]! /\c.lW[i]! <=9999:=by
 simp only[eH,oS,bp,aY]at h
 match i with
 |0=>exact h.1.1.1.1
 |1=>exact h.1.1.1.2
 |2=>exact h.1.1.2
 |k+3=>exact(by simp[dc.lW]:0<=c.lW[k+3]! /\c.lW[k+3]! <=9999)
def rm {c:dc}(h:eH c.v=true):∀i,(fJ c i).length<=5*i
 |0=>by simp[fJ]
 |i+1=>by
  have:=rm h i;have hn:=qj h i;have:=dU 4 (c.lW[i]!).toNat ae ae
  grind [fJ]
def n8 {c:dc}(h:ml c=true):eH c.v=true/\0<=c.parts/\c.parts<=3/\1<=c.op/\c.op<=9:=by
 grind [ml]
end Go.Abs
namespace Go.Abs
variable {Y:Ctx}(hm:(Y.at 0).bU)
def lH (c:dc):List au:=(c.lW.map fun n=>dp n.toNat).take c.parts.toNat
def A3 (c:dc):∀i,i<=3->aT [46] ((c.lW.map fun n=>dp n.toNat).take i)=fJ c i
 |0,_=>by simp[aT,fJ]
 |i+1,h=>by
  have hl:i<(c.lW.map fun n=>dp n.toNat).length:=by simp[dc.lW];omega
  have hl2:i<c.lW.length:=by show i<3;omega
  rw[oX _ _ _ hl,A3 c i ae];simp only[fJ];have e:(c.lW.map fun n=>dp n.toNat)[i]! =dp (c.lW[i]!).toNat:=by simp[hl2]
  rw[e];split
  .simp
  grind [fJ]
theorem E8 {c:dc}(h:c.parts<=3):(lH c).length=c.parts.toNat:=by
 simp[lH,dc.lW];omega
theorem Bx {c:dc}(h:c.parts<=3):aT [46] (lH c)=fJ c c.parts.toNat:=A3 c _ ae
def vt {c:dc}(h0:0<=c.parts)(h:c.parts<=3):aT [46] (lH c++[[42]])=fJ c c.parts.toNat++((if 0<c.parts then [46]else [])++[42]):=by
 by_cases hp:0<c.parts
 .grind [sw,E8,Bx]
 .have:c.parts.toNat=0:=ae;rw[ai hp,this];have e:lH c=[]:=by simp[lH,this]
  rw[e];rfl
end Go.Abs
namespace Go.Abs
variable {Y:Ctx}(hm:(Y.at 0).bU)
def opsL:List Int:=[2,4,6,1,3,5,7,8]
def pe (s:au)(i:Nat):Option Int:=(opsL.drop i).find? fun o=>r8 s (dj o)
def gv (s:au):Int×au:=match pe s 0 with
 |some o=>(o,s.drop (dj o).length)
 |none=>if 0<s.length/\at8 s (s.length-1)=42 then(9,s)else(7,s)
def Iu {s:au}{i:Nat}(h:i<8)(hb:r8 s (dj opsL[i]!)=true):pe s i=some opsL[i]! :=by
 have hl:i<opsL.length:=h;unfold pe;rw[kW hl,List.find?_cons]
 grind
def Iv {s:au}{i:Nat}(h:i<8)(hb:r8 s (dj opsL[i]!)=false):pe s i=pe s (i+1):=by
 have hl:i<opsL.length:=h;unfold pe;rw[kW hl,List.find?_cons]
 grind
def yX {s:au}{i:Nat}(h:8<=i):pe s i=none:=by
 unfold pe;rw[nr h];rfl
def hE (s:au)(i:Nat):au×au:=match(s.drop i).findIdx? (fun c=>c==45)with
 |some k=>(s.take (i+k),s.drop (i+k+1))
 |none=>(s,[])
def Iz {s:au}{i:Nat}(h:i<s.length)(he:at8 s i=45):hE s i=(s.take i,s.drop (i+1)):=by
 unfold hE;rw[nA s i h,List.findIdx?_cons];have:s.getD i 0=45:=je.1 (by simp only[at8]at he;show(s.getD i 0).toNat=45;omega);rw[this];rfl
def IA {s:au}{i:Nat}(h:i<s.length)(he:¬at8 s i=45):hE s i=hE s (i+1):=by
 unfold hE;rw[nA s i h,List.findIdx?_cons];have:(s.getD i 0==45)=false:=by
  rw[beq_eq_false_iff_ne];intro e;exact he (by simp only[at8,e];rfl)
 grind
def Em {s:au}{i:Nat}(h:s.length<=i):hE s i=(s,[]):=by
 unfold hE;rw[nr h];rfl
end Go.Abs
namespace Go.Abs
variable {Y:Ctx}(hm:(Y.at 0).bU)
def eK (l:List au):Bool:=decide (l.length<=3)&&cI (fun i=>iE l[i]!) 0 l.length
def OM (l:List au):c9:=⟨if 0<l.length then jL l[0]! else 0,if 1<l.length then jL l[1]! else 0,if 2<l.length then jL l[2]! else 0,[],[]⟩
def yU (l:List au):c9:=if eK l=true then OM l else rN
end Go.Abs
namespace Go.Abs
variable {Y:Ctx}(hm:(Y.at 0).bU)
def ec:dc:=⟨0,0,rN⟩
def Bc (op:Int)(l:List au):List au:=if op=9 then l.take (l.length-1)else l
def fF (op:Int)(l:List au)(pre:au):dc:=⟨op,(l.length:Nat),{OM l with pre:=pre}⟩
def vU (s:au)(op:Int)(l:List au)(pre:au):Bool:=eK l&& !(decide (dH (fF op l pre)=[]) ||(!decide (dH (fF op l pre)=s)&& !decide (dH (fF op l pre)=94::s)))
def ea (s:au):Option dc:=
 let o:=gv s
 let p:=hE o.2 0
 let l:=Bc o.1 (aq p.1 46)
 if vU s o.1 l p.2=true then some (fF o.1 l p.2)else none
def zt (s:au):(gv s).2.length<=s.length:=by
 grind [gv]
def za (s:au):(hE s 0).1.length<=s.length/\(hE s 0).2.length<=s.length:=by
 unfold hE;split<;>simp<;>omega
end Go.Abs
namespace Go.Abs
variable {Y:Ctx}(hm:(Y.at 0).bU)
def dw (s:au):Int×au:=match pe s 0 with
 |some o=>(o,s.drop (dj o).length)
 |none=>(9,s)
def eD (s:au):au×au:=hE (dw s).2 0
def ed (s:au):List au:=Bc (dw s).1 (aq (eD s).1 46)
def nn (s:au):Prop:=(dw s).1=9->(aq (eD s).1 46)[(aq (eD s).1 46).length-1]! =[42]
instance (s:au):Decidable (nn s):=by unfold nn;exact inferInstance
def eu (s:au):dc:=fF (dw s).1 (ed s) (eD s).2
def gG (s:au):Option dc:=if nn s/\eK (ed s)=true/\ml (eu s)=true/\dH (eu s)=s then some (eu s)else none
def Ir (l:List au)(i:Nat):c9:=⟨if 0<i then jL l[0]! else 0,if 1<i then jL l[1]! else 0,if 2<i then jL l[2]! else 0,[],[]⟩
def LW (s:au):(dw s).2.length<=s.length:=by
 unfold dw;split<;>simp
def j6 {s:au}(h:¬(nn s/\eK (ed s)=true/\ml (eu s)=true/\dH (eu s)=s)):gG s=none:=by
 unfold gG;rw[ai h]
end Go.Abs
namespace Go.Abs
variable {Y:Ctx}(hm:(Y.at 0).bU)
def mb (s:au):Option dc:=if(gG s).isSome=true then gG s else gG (94::s)
def E7 (c:dc):bG:=.buf 1 [.str (dp c.v.major.toNat),.str (dp c.v.minor.toNat),.str (dp c.v.patch.toNat)]
def zz (c:dc):[D.str (dp c.v.major.toNat),D.str (dp c.v.minor.toNat),D.str (dp c.v.patch.toNat)].take c.parts.toNat=(lH c).map D.str:=by
 unfold lH dc.lW;rw[List.map_take];rfl
def Sa {c:dc}{m:List (Nat×bG)}{l:Nat}(hl:look m l=some (E7 c)):xV m [.sl 1 [.a]] (.own l 1 0 c.parts.toNat)=.sl 1 ((lH c).map D.str):=by
 show D.sl 1 _=_;simp only[bj,hl,E7,de,zz,List.map_map];congr 1
def P3 {c:dc}{m:List (Nat×bG)}{l:Nat}(h:c.parts<=3)(hl:look m l=some (E7 c)):Qq m [.sl 1 [.a]] (.own l 1 0 c.parts.toNat):=by
 simp only[Qq,Tb,Ta];refine⟨by simp[fS,hl,E7];omega, ?_⟩;simp only[bj,hl,E7,de,zz];intro e he;obtain⟨x,_,rfl⟩:=dN.1 he;trivial
end Go.Abs
end
namespace Go.Abs
variable {Y:Ctx}(hm:(Y.at 0).bU)
def qW {c:dc}(h:dH c≠[]):ml c=true/\dH c=ll c:=by
 grind [dH]
def Cm {s:au}{op:Int}{l:List au}{pre:au}:vU s op l pre=true↔eK l=true/\dH (fF op l pre)≠[]/\(dH (fF op l pre)=s\/dH (fF op l pre)=94::s):=by
 grind [vU]
def y7 (c:UInt8):Prop:=c≠33/\c≠60/\c≠61/\c≠62/\c≠94/\c≠126
theorem pW {c:UInt8}(h:a8 c.toNat=true):y7 c/\c≠42:=by
 simp only[a8,bp,aY]at h;refine⟨⟨?_, ?_, ?_, ?_, ?_, ?_⟩, ?_⟩<;>rintro rfl<;>revert h<;>decide
def Ee {k:dc}:∀(i:Nat) (c:UInt8),c∈fJ k i->a8 c.toNat=true\/c=46
 |0,c,h=>by simp[fJ]at h
 |i+1,c,h=>by
  simp only[fJ,List.mem_append]at h;rcases h with(h|h)|h
  .exact Ee i c h
  .grind
  .exact .inl (gC _ c h)
def yV (k:dc):∀i,0<i->∃c r,fJ k i=c::r/\a8 c.toNat=true
 |0,h=>ae
 |1,_=>by
  have hd:=gC (k.lW[0]!).toNat;have hn:=wN (k.lW[0]!).toNat;simp only[fJ,Nat.lt_irrefl,br,eS];generalize dp (k.lW[0]!).toNat=w at hd hn
  match w,hn with
  |c::r,_=>exact⟨c,r,rfl,hd c (.head _)⟩
 |i+2,_=>by
  obtain⟨c,r,h1,h2⟩:=yV k (i+1) ae
  grind [dp,fJ]
def KK {c:dc}(h:ml c=true)(h9:c.op≠9):0<c.parts.toNat:=by
 grind [ml]
def LK {s:au}{o:Int}(h:pe s 0=some o):1<=o/\o<=8/\∃x t,s=x::t/\¬y7 x/\(x=94->o=7):=by
 have hm:=List.mem_of_find?_eq_some h;have hb:=List.find?_some h;simp only[r8,bp,aY]at hb;obtain⟨h1,h2⟩:=hb;have hne:s≠[]\/dj o=[]:=by
  grind
 simp only[opsL,de,bZ,dX,or_false]at hm;have key:∀w:au,w≠[]->s.take w.length=w->∃x t t',s=x::t/\w=x::t':=by
  intro w hw hs
  match w,hw with
  |x::t',_=>
   match s with
   |[]=>simp at hs
   |y::t=>
    grind
 rcases hm with rfl|rfl|rfl|rfl|rfl|rfl|rfl|rfl
 all_goals
  refine⟨ae,ae, ?_⟩;obtain⟨x,t,t',e1,e2⟩:=key _ aG h2;have hxx:=ar (fun w:au=>w.headD 0) e2;simp only[List.headD_cons]at hxx;refine⟨x,t,e1, ?_, ?_⟩
  .rw[<-hxx];unfold y7;decide
  .rw[<-hxx];decide
theorem yW (t:au):pe (94::t) 0=some 7:=by
 unfold pe opsL;have hn:∀w:au,w≠[]->w.headD 0≠94->r8 (94::t) w=false:=by
  intro w hw hx
  match w,hw with
  |x::r,_=>
   grind [r8]
 have hy:r8 (94::t) (dj 7)=true:=by
  grind [r8,dj]
 simp only[de,List.find?_cons,hn _ (show dj 2≠[]by decide) aG,hn _ (show dj 4≠[]by decide) aG,hn _ (show dj 6≠[]by decide) aG,hn _ (show dj 1≠[]by decide) aG,
  hn _ (show dj 3≠[]by decide) aG,hn _ (show dj 5≠[]by decide) aG,hy]
def Eo (t:au):dw (94::t)=(7,t):=by
 grind [dw,yW,dj]
def zu (b:Int):∀(s cur:au),∃r l,ca b s cur=(cur++r)::l
 |[],cur=>⟨[],[],by simp[ca]⟩
 |c::s,cur=>by
  simp only[ca];split
  .exact⟨[],_,by rw[jy]⟩
  .obtain⟨r,l,h⟩:=zu b s (cur++[c]);exact⟨c::r,l,by rw[h];simp⟩
def Mu {x:UInt8}{t:au}(h:¬y7 x):eK (aq (hE (x::t) 0).1 46)=false:=by
 have hx:x≠45/\x≠46/\a8 x.toNat=false:=by
  grind [y7,a8,pW]
 have hp:∃r,(hE (x::t) 0).1=x::r:=by
  unfold hE;rw[de,List.findIdx?_cons];rw[ai (by simpa using hx.1)];cases t.findIdx? (fun c=>c==45)with
  |none=>exact⟨t,rfl⟩
  |some k=>exact⟨t.take k,aQ⟩
 obtain⟨r,hr⟩:=hp;rw[hr];have h46:¬((x.toNat:Int)=46):=fun e=>hx.2.1 (je.1 (by show x.toNat=46;omega))
 obtain⟨q,l,hs⟩:=zu 46 r [x]
 grind [aq,ca,eK,aR,iE,Ck,a8,at8]
def S3 {s:au}(h:gv s=dw s):ea s=if vU s (dw s).1 (ed s) (eD s).2=true then some (eu s)else none:=by
 unfold ea;simp only[h];rfl
def zj {s:au}:gG s=if nn s/\eK (ed s)=true/\ml (eu s)=true/\dH (eu s)=s then some (eu s)else none:=rfl
def LR {s:au}(h:∀c∈s,c≠45):hE s 0=(s,[]):=by
 grind [hE]
def Bp {k:dc}(hb:ml k=true)(h9:k.op=9):ll k=aT [46] (lH k++[[42]]):=by
 obtain⟨_,h0,h3,_,_⟩:=n8 hb;rw[vt h0 h3];unfold ll kI;rw[ax h9,h9];rfl
theorem qJ {k:dc}{w:au}(h:w∈lH k++[[42]]){c:UInt8}(hc:c∈w):a8 c.toNat=true\/c=42:=by
 rcases List.mem_append.1 h with h|h
 .have:=qP h
  grind [gC]
 grind
def Bo {k:dc}{s:au}(hb:ml k=true)(h9:k.op=9)(hs:ll k=s):(0<s.length/\at8 s (s.length-1)=42)/\hE s 0=(s,[])/\aq s 46=lH k++[[42]]:=by
 have ht:=Bp hb h9;obtain⟨_,h0,h3,_,_⟩:=n8 hb;rw[hs]at ht;have hch:∀c∈s,a8 c.toNat=true\/c=42\/c=46:=by
  grind [mM,qJ]
 refine⟨?_,LR (fun c hc=>?_), ?_⟩
 .have he:∃q,s=q++[42]:=by
   rw[ht,vt h0 h3];exact⟨fJ k k.parts.toNat++(if 0<k.parts then [46]else []),by rw[dx]⟩
  obtain⟨q,rfl⟩:=he;simp[at8]
 .rintro rfl;rcases hch 45 hc with h|h|h
  .revert h;decide
  .revert h;decide
  .revert h;decide
 .rw[ht];refine jD (b:=46) (x:=46) rfl aQ fun w hw c hc=>?_
  rcases qJ hw hc with h|h
  .have:=(pV h).1;omega
  .rw[h];decide
def yf {k:dc}{s:au}(hb:ml k=true)(h7:k.op=7)(hs:ll k=94::s):(∀c∈s,c≠42)/\∃c r,s=c::r/\a8 c.toNat=true:=by
 have hp:=KK hb ae;have e:s=fJ k k.parts.toNat++kI k:=by
  unfold ll at hs;rw[h7,show dj 7=[94]by decide]at hs;simpa using hs.symm
 obtain⟨c,r,h1,h2⟩:=yV k _ hp;refine⟨fun c hc=>?_,c,r++kI k,by rw[e,h1];rfl,h2⟩;rw[e]at hc;rcases List.mem_append.1 hc with hc|hc
 .rcases Ee _ c hc with h|h
  .exact(pW h).2
  .rw[h];decide
 .unfold kI at hc;rw[ai ae]at hc;split at hc
  .cases hc
  .rcases bZ.1 hc with rfl|hc
   .decide
   .have hv:=(n8 hb).1;simp only[eH,bp]at hv;rcases E5 hv.1.2 hc with h|h
    .rintro rfl;revert h;decide
    .rw[h];decide
def w9 {s:au}:vU s (dw s).1 (ed s) (eD s).2=true↔eK (ed s)=true/\dH (eu s)≠[]/\(dH (eu s)=s\/dH (eu s)=94::s):=Cm
def NB (s:au):mb s=ea s:=by
 have hcar:dw (94::s)=(7,s):=Eo s;have hL7:ed (94::s)=aq (hE s 0).1 46:=by
  unfold ed eD;rw[hcar];rfl
 have hK7:eu (94::s)=fF 7 (aq (hE s 0).1 46) (hE s 0).2:=by
  unfold eu;rw[hL7];unfold eD;rw[hcar]
 cases ho:pe s 0 with
 |some o=>
  obtain⟨o1,o8,x,t,hs,hx,hx94⟩:=LK ho;have hrw:dw s=(o,s.drop (dj o).length):=by simp only[dw,ho]
  have hsp:gv s=dw s:=by rw[hrw];simp only[gv,ho]
  have hstar:nn s:=by
   intro h;rw[hrw]at h;simp only at h;omega
  have hcn:gG (94::s)=none:=j6 fun h=>by
   have:=h.2.1;rw[hL7,hs,Mu hx]at this;cases this
  have hop:(eu s).op=o:=by show(dw s).1=o;rw[hrw]
  rw[S3 hsp];by_cases hk:eK (ed s)=true/\dH (eu s)=s
  .have hne:dH (eu s)≠[]:=by rw[hk.2,hs];simp
   have hb:=(qW hne).1;have hr:gG s=some (eu s):=by rw[zj,ax ⟨hstar,hk.1,hb,hk.2⟩]
   have hok:vU s (dw s).1 (ed s) (eD s).2=true:=w9.2 ⟨hk.1,hne,.inl hk.2⟩;rw[ax hok];unfold mb;rw[hr];rfl
  .have hr:gG s=none:=j6 fun h=>hk ⟨h.2.1,h.2.2.2⟩
   have hok:¬vU s (dw s).1 (ed s) (eD s).2=true:=fun h=>by
    obtain⟨h1,h2,h3⟩:=w9.1 h;rcases h3 with h3|h3
    .exact hk ⟨h1,h3⟩
    .obtain⟨hb,he⟩:=qW h2;have h3':ll (eu s)=94::s:=by rw[<-he];exact h3
     have h7:o=7:=by
      have hh:∃y w,dj o=y::w/\(y=94->o=7):=by
       have:o=1\/o=2\/o=3\/o=4\/o=5\/o=6\/o=7\/o=8:=ae;rcases this with rfl|rfl|rfl|rfl|rfl|rfl|rfl|rfl
       .exact⟨61,[],aG,aG⟩
       .exact⟨33,[61],aG,aG⟩
       .exact⟨60,[],aG,aG⟩
       .exact⟨60,[61],aG,aG⟩
       .exact⟨62,[],aG,aG⟩
       .exact⟨62,[61],aG,aG⟩
       .exact⟨94,[],aG,aG⟩
       .exact⟨126,[],aG,aG⟩
      obtain⟨y,w,e1,e2⟩:=hh;unfold ll at h3';rw[hop,e1]at h3';simp only[eN,vA]at h3';exact e2 h3'.1
     obtain⟨_,c,r,e1,e2⟩:=yf hb (by rw[hop];exact h7) h3';rw[hs]at e1;simp only[vA]at e1;rw[<-e1.1]at e2;exact hx (pW e2).1
   rw[ai hok];unfold mb;rw[hr,ai aQ,hcn]
 |none=>
  have hrw:dw s=(9,s):=by simp only[dw,ho]
  have h94:∀t,s≠94::t:=by
   rintro t rfl;rw[yW]at ho;cases ho
  have hop:(eu s).op=9:=by show(dw s).1=9;rw[hrw]
  have hst7:nn (94::s):=by
   intro h;rw[hcar]at h;simp only at h;omega
  by_cases hl:0<s.length/\at8 s (s.length-1)=42
  .have hsp:gv s=dw s:=by rw[hrw];simp only[gv,ho,ax hl]
   have hcn:gG (94::s)=none:=j6 fun h=>by
    obtain⟨_,h2,h3,h4⟩:=h;have he:=(qW (c:=eu (94::s)) (by rw[h4];simp)).2;rw[h4]at he;have hno:=(yf h3 (by rw[hK7];rfl) he.symm).1;have hmem:s[s.length-1]'(ae)∈s:=List.getElem_mem _;refine hno _ hmem (je.1 ?_);have:=hl.2;rw[te s _ ae]at this;show _=42;omega
   rw[S3 hsp];by_cases hk:eK (ed s)=true/\dH (eu s)=s
   .have hne:dH (eu s)≠[]:=by
     rw[hk.2];intro h;rw[h]at hl;simp at hl
    obtain⟨hb,he⟩:=qW hne;obtain⟨_,g2,g3⟩:=Bo (s:=s) hb hop (he.symm.trans hk.2);have hstar:nn s:=by
     intro _;have hP:eD s=(s,[]):=by unfold eD;rw[hrw];exact g2
     rw[hP];simp only;rw[g3];simp
    have hr:gG s=some (eu s):=by rw[zj,ax ⟨hstar,hk.1,hb,hk.2⟩]
    have hok:vU s (dw s).1 (ed s) (eD s).2=true:=w9.2 ⟨hk.1,hne,.inl hk.2⟩;rw[ax hok];unfold mb;rw[hr];rfl
   .have hr:gG s=none:=j6 fun h=>hk ⟨h.2.1,h.2.2.2⟩
    have hok:¬vU s (dw s).1 (ed s) (eD s).2=true:=fun h=>by
     obtain⟨h1,h2,h3⟩:=w9.1 h;rcases h3 with h3|h3
     .exact hk ⟨h1,h3⟩
     .obtain⟨hb,he⟩:=qW h2;have h3':ll (eu s)=94::s:=by rw[<-he];exact h3
      have ht:=Bp hb hop;rw[h3']at ht;have hm:(94:UInt8)∈aT [46] (lH (eu s)++[[42]]):=by rw[<-ht];simp
      rcases mM 46 _ _ hm with h|⟨w,hw,hcw⟩
      .revert h;decide
      .rcases qJ hw hcw with h|h
       .revert h;decide
       .revert h;decide
    rw[ai hok];unfold mb;rw[hr,ai aQ,hcn]
  .have hsp:gv s=(7,s):=by simp only[gv,ho,ai hl]
   have hr:gG s=none:=j6 fun h=>by
    obtain⟨h1,h2,h3,h4⟩:=h;have he:ll (eu s)=s:=(ax h3:dH (eu s)=ll (eu s)).symm.trans h4;exact hl (Bo h3 hop he).1
   have h6:ea s=if vU s 7 (aq (hE s 0).1 46) (hE s 0).2=true then some (eu (94::s))else none:=by
    unfold ea;simp only[hsp];rw[hK7];rfl
   have hRC:mb s=gG (94::s):=by
    unfold mb;rw[hr];rfl
   rw[hRC,h6,zj];by_cases hok:vU s 7 (aq (hE s 0).1 46) (hE s 0).2=true
   .rw[ax hok];obtain⟨h1,h2,h3⟩:=Cm.1 hok;obtain⟨hb,he⟩:=qW h2;rcases h3 with h3|h3
    .exfalso;rw[he]at h3;have hh:∃w,ll (fF 7 (aq (hE s 0).1 46) (hE s 0).2)=94::w:=by
      unfold ll;exact⟨_,rfl⟩
     obtain⟨w,hw⟩:=hh;exact h94 w (by rw[<-h3,hw])
    .rw[ax ⟨hst7,by rw[hL7];exact h1,by rw[hK7];exact hb,by rw[hK7];exact h3⟩]
   .rw[ai hok,ai];rintro⟨_,g2,g3,g4⟩;rw[hK7]at g3 g4;rw[hL7]at g2;exact hok (Cm.2 ⟨g2,by rw[g4];simp,.inr g4⟩)
abbrev Alt:=List dc
abbrev xY:=List Alt
def pN (a:Alt):D:=.sl 7 (a.map dc.D)
def FR (a:Alt):(pN a).bF=true:=rfl
def nB (l k:Nat)(es:List D)(r:List Alt):oe l k es (r.map pN)=r.map pN:=yv l k es _ (bH FR _)
def gU (r:xY):D:=.agg [.sl 1 (r.map pN)]
def jU (a:Alt):Bool:=decide (1<=a.length)&&decide (a.length<=6)&&cI (fun k=>ml a[k]!) 0 a.length
def jK (r:xY):Bool:=decide (1<=r.length)&&decide (r.length<=6)&&cI (fun i=>jU r[i]!) 0 r.length
def iY (a:Alt):au:=aT [44,32] (a.map dH)
def CL (r:xY):au:=aT [32,124,124,32] (r.map iY)
def dc.lo (c:dc):Prop:=c.v.pre.length<=1000/\c.v.build.length<=1000
def dc.lo.sm {c:dc}(h:c.lo):c.v.sm:=⟨cT h.1 aG,cT h.2 aG⟩
def nj (r:xY):Prop:=∀a∈r,∀c∈a,c.lo
def rI (b:au)(l:List au)(i:Nat):au:=if 0<i then aT b (l.take i)++b else []
def uJ (b:au)(l:List au)(i:Nat)(h:i<l.length):aT b (l.take (i+1))=rI b l i++l[i]! :=oX b l i h
def O9 (b:au)(l:List au){i:Nat}(h:¬0<i):aT b (l.take i)=rI b l i:=by
 grind [rI,aT]
def yg {c:dc}(h:c.lo):(dH c).length<=1100:=by
 unfold dH;split
 .rename_i hb;obtain⟨hv,h0,h3,_⟩:=n8 hb;have h1:=vi c.op;have h2:=rm hv c.parts.toNat;have ht:(kI c).length<=1001:=by
   unfold kI;have:=h.1
   grind
  simp only[ll,bJ];omega
 .simp
def qc (b:au)(M:Nat):∀(l:List au),(∀t∈l,t.length<=M)->(aT b l).length<=l.length*(M+b.length)
 |[],_=>by simp[aT]
 |[t],h=>by
  grind [aT]
 |t::u::r,h=>by
  have h1:=h t (.head _);have h2:=qc b M (u::r) fun x hx=>h x (.tail _ hx)
  simp only[aT,bJ];simp only[az,Nat.add_mul,Nat.one_mul]at h2⊢;omega
def Ce {α β:Type} [Inhabited α] [Inhabited β](f:α->β)(l:List α){i:Nat}(h:i<l.length):(l.map f)[i]! =f l[i]! :=by
 simp[h]
def x5 {a:Alt}(h:∀c∈a,c.lo)(hl:a.length<=6):(iY a).length<=6612:=by
 have:=qc [44,32] 1100 (a.map dH) (fun t ht=>by
  obtain⟨c,hc,rfl⟩:=dN.1 ht;exact yg (h c hc))
 grind [iY]
def yn {r:xY}(h:jK r=true){i:Nat}(hi:i<r.length):jU r[i]! =true:=by
 simp only[jK,bp,aY]at h;exact eo.1 h.2 i ae hi
def uf {a:Alt}(h:jU a=true):1<=a.length/\a.length<=6:=by
 grind [jU]
def PS {r:xY}(h:jK r=true)(hs:nj r):(CL r).length<=40000:=by
 have h6:r.length<=6:=by simp only[jK,bp,aY]at h;exact h.1.2
 have:=qc [32,124,124,32] 6612 (r.map iY) (fun t ht=>by
  obtain⟨a,ha,rfl⟩:=dN.1 ht;obtain⟨i,hi,rfl⟩:=List.mem_iff_getElem.1 ha;have h1:=yn h hi;rw[show r[i]! =r[i]by simp[hi]]at h1;exact x5 (hs _ ha) (uf h1).2)
 grind [CL]
def ib {α β:Type} [Inhabited α](f:α->β)(l:List α){i:Nat}(h:i<l.length):(l.map f).take (i+1)=(l.map f).take i++[f l[i]!]:=by
 rw[List.take_add_one];simp[h]
def sz (r:xY):Bool:=jK r&&decide ((CL r).length<=96)
def vZ (r:xY):au:=if sz r=true then CL r else []
def aI:au->au->List au
 |[],cur=>[cur]
 |[c],cur=>[cur++[c]]
 |c::d::r,cur=>if c=124/\d=124 then cur::aI r []else aI (d::r) (cur++[c])
def jV:au->au
 |[]=>[]
 |c::r=>if c=32 then jV r else c::r
def dZ (s:au):au:=(jV (jV s).reverse).reverse
theorem qR:∀s,(jV s).length<=s.length
 |[]=>aS _
 |c::r=>by
  unfold jV;split
  .have:=qR r;simp only[az];omega
  .exact aS _
theorem ui (s:au):(dZ s).length<=s.length:=by
 grind [qR,jV,dZ]
def nk:∀(s cur:au),(aI s cur).length<=s.length+1/\(∀t∈aI s cur,t.length<=cur.length+s.length)
 |[],cur=>by simp[aI]
 |[c],cur=>by simp[aI]
 |c::d::r,cur=>by
  unfold aI;split
  .have:=nk r []
   grind
  .have:=nk (d::r) (cur++[c])
   grind
def ZU (t:au):Bool:=cI (fun k=>(ea (dZ (aq t 44)[k]!)).isSome) 0 (aq t 44).length
def zp (s:au):Bool:=cI (fun i=>ZU (aI s [])[i]!) 0 (aI s []).length
def lO (t:au):Alt:=(aq t 44).map fun x=>(ea (dZ x)).getD ec
def hX (s:au):xY:=(aI s []).map lO
def hH (s:au):xY×Int:=
 if 96<s.length then([],3)else if zp s=false then([],6)else if jK (hX s)=false then([],6)else if 96<(CL (hX s)).length then([],3)else(hX s,0)
def rp (s:au):Bool:=decide ((hH s).2=0)&&decide (vZ (hH s).1=s)
theorem Nz {s:au}(h:s.length<=1000):((ea s).getD ec).lo:=by
 unfold ea;simp only;split
 .have h1:=zt s;have h2:=za (gv s).2;exact⟨by show(hE (gv s).2 0).2.length<=1000;omega,by show([]:au).length<=1000;decide⟩
 .exact⟨by show([]:au).length<=1000;decide,by show([]:au).length<=1000;decide⟩
theorem CM {s:au}(h:s.length<=1000):nj (hX s):=by
 intro a ha c hc;obtain⟨t,ht,rfl⟩:=dN.1 ha;obtain⟨x,hx,rfl⟩:=dN.1 hc;have h1:=(nk s []).2 t ht;have h2:=iI t 44 hx
 grind [ui,Nz]
def IV {s:au}:nj (hH s).1/\((hH s).2=0->jK (hH s).1=true):=by
 unfold hH;split
 .exact⟨(fun a ha=>by cases ha),fun h=>by cases h⟩
 .split
  .exact⟨(fun a ha=>by cases ha),fun h=>by cases h⟩
  .split
   .exact⟨(fun a ha=>by cases ha),fun h=>by cases h⟩
   .rename_i hf;split
    .exact⟨(fun a ha=>by cases ha),fun h=>by cases h⟩
    grind [CM]
theorem Hr {s:au}{i:Nat}(cur:au)(h:i+1<s.length)(h1:at8 s i=124)(h2:at8 s (i+1)=124):aI (s.drop i) cur=cur::aI (s.drop (i+2)) []:=by
 rw[nA s i ae,nA s (i+1) h];have e1:s.getD i 0=124:=je.1 (by simp only[at8]at h1;show(s.getD i 0).toNat=124;omega);have e2:s.getD (i+1) 0=124:=je.1 (by simp only[at8]at h2;show(s.getD (i+1) 0).toNat=124;omega)
 grind [aI]
def E0 {s:au}{i:Nat}(cur:au)(h:i+1<s.length)(hn:¬(at8 s i=124/\at8 s (i+1)=124)):aI (s.drop i) cur=aI (s.drop (i+1)) (cur++[s.getD i 0]):=by
 rw[nA s i ae,nA s (i+1) h];simp only[aI];rw[ai];rintro⟨e1,e2⟩;exact hn ⟨by simp only[at8,e1];rfl,by simp only[at8,e2];rfl⟩
def Hq {s:au}{i:Nat}(cur:au)(h:s.length<=i+1):aI (s.drop i) cur=[cur++s.drop i]:=by
 have hl:(s.drop i).length<=1:=by rw[qN];omega
 match s.drop i,hl with
 |[],_=>simp[aI]
 |[c],_=>simp[aI]
def NH {s:au}{i fr:Nat}(h:i<s.length)(hf:fr<=i):(s.take i).drop fr++[s.getD i 0]=(s.take (i+1)).drop fr:=by
 rw[List.take_add_one,List.drop_append_of_le_length (by rw[fA];omega)];simp[h]
def rR (s:au)(i fr:Nat)(acc:List au):Prop:=aI s []=acc++aI (s.drop (max i fr)) ((s.take (max i fr)).drop fr)
def KC {s:au}{i fr:Nat}{acc:List au}(hI:rR s i fr acc)(h:i+1<s.length)(hc:(at8 s i=124/\at8 s (i+1)=124)/\(fr:Int)<=i):rR s (i+1) (i+2) (acc++[(s.take i).drop fr]):=by
 grind [rR,Hr]
def Nh {s:au}{i fr:Nat}{acc:List au}(hI:rR s i fr acc)(h:i+1<s.length)(hf:fr<=i+1)(hc:(¬at8 s i=124\/¬at8 s (i+1)=124)\/¬(fr:Int)<=i):rR s (i+1) fr acc:=by
 unfold rR at hI⊢;by_cases hl:fr<=i
 .rw[hI,Nat.max_eq_left hl,E0 _ h (by rcases hc with(hc|hc)|hc;exact fun h=>hc h.1;exact fun h=>hc h.2;omega),Nat.max_eq_left ae,NH ae hl]
 grind
def KB {s:au}{i fr:Nat}{acc:List au}(hI:rR s i fr acc)(h:s.length<=i+1)(hl:fr<=s.length):aI s []=acc++[s.drop fr]:=by
 unfold rR at hI;rw[hI,Hq _ (by have:=Nat.le_max_left i fr;omega)];congr 2
 conv=>rhs;rw[<-List.take_append_drop (max i fr) s]
 grind
def Aq {t:au}(h:0<t.length)(h0:at8 t 0=32):jV t=jV (t.drop 1):=by
 match t,h with
 |c::r,_=>
  have:c=32:=je.1 (by have h0:((c.toNat:Nat):Int)=32:=h0;show c.toNat=32;omega);subst this;simp[jV]
theorem x9 {t:au}(h:¬(0:Int)<(t.length:Nat)\/¬at8 t 0=32):jV t=t:=by
 match t with
 |[]=>rfl
 |c::r=>
  rcases h with h|h
  .simp only[az]at h;omega
  .simp only[jV];rw[ai];rintro rfl;exact h rfl
def ya (u:au):au:=(jV u.reverse).reverse
theorem HI {u:au}(h:0<u.length):at8 u.reverse 0=at8 u (u.length-1):=by
 grind [at8]
def KF {u:au}(h:0<u.length)(h0:at8 u (u.length-1)=32):ya u=ya (u.take (u.length-1)):=by
 unfold ya;rw[Aq (by simpa using h) (by rw[HI h];exact h0)];congr 2;rw[List.drop_reverse]
def FX {u:au}(h:¬(0:Int)<(u.length:Nat)\/¬at8 u (u.length-1)=32):ya u=u:=by
 grind [ya,x9,HI]
def Nd.eq (a b:Nd):iC (Nd.D a).cells (Nd.D b).cells=decide (a=b):=by
 obtain⟨a1,a2,a3,a4,a5⟩:=a;obtain⟨b1,b2,b3,b4,b5⟩:=b
 grind [Nd.D,D.cells,iC,tv,wP]
def jW (n:Nd):Bool:=decide (n.key=0)&&decide (n.text=[])
def nD (n:Nd):Bool:=decide (n.op=1)&&decide (0<=n.key)&&decide (n.key<3)&&cu n.text&&decide (n.a=0)&&decide (n.b=0)
def iJ (n:Nd)(i:Nat)(o:List Int):Option (List Int):=
 if nD n=true then some (o++[(i:Int)])
 else if(((n.op=2/\jW n=true)/\0<o.length)/\n.a=o[o.length-1]!)/\n.b=0 then some (o.take (o.length-1)++[(i:Int)])
 else if((((n.op=3\/n.op=4)/\jW n=true)/\1<o.length)/\n.a=o[o.length-2]!)/\n.b=o[o.length-1]! then some (o.take (o.length-2)++[(i:Int)])
 else none
def mf:List Nd->Nat->List Int->Option (List Int)
 |[],_,o=>some o
 |n::r,i,o=>match iJ n i o with
  |some o'=>mf r (i+1) o'
  |none=>none
def nJ (l:List Nd):Bool:=match mf l 0 []with
 |some o=>decide (l.length=0) ||decide (o.length=1)
 |none=>false
def AB {α:Type} [Inhabited α](l:List α){i:Nat}(h:i<l.length):l.drop i=l[i]! ::l.drop (i+1):=by
 rw[kW h];simp[h]
def iF {l:List Nd}{i:Nat}{o o':List Int}(h:i<l.length)(hs:iJ l[i]! i o=some o'):mf (l.drop i) i o=mf (l.drop (i+1)) (i+1) o':=by
 rw[AB l h];simp only[mf,hs]
def fO {l:List Nd}{i:Nat}{o:List Int}(h:i<l.length)(hs:iJ l[i]! i o=none):mf (l.drop i) i o=none:=by
 rw[AB l h];simp only[mf,hs]
def A4 {l:List Nd}{i:Nat}{o:List Int}(h:l.length<=i):mf (l.drop i) i o=some o:=by
 rw[nr h];rfl
def E9 {l:List Nd}(h:mf l 0 []=none):nJ l=false:=by simp only[nJ,h]
def jG {l:List Nd}(h:mf l 0 []=none):(true&&nJ l)=false:=by rw[E9 h];rfl
def C6 (S:List Int):Int->List Int->Prop
 |e,[]=>e=0
 |e,t::r=>t=e-1/\0<=t/\0<=S[t.toNat]! /\S[t.toNat]! <=t/\C6 S S[t.toNat]! r
def BT {S:List Int}{i:Nat}{v:Int}:∀{r:List Int}{e:Int},e<=i->C6 S e r->C6 (S.set i v) e r
 |[],e,_,h=>h
 |t::r,e,he,⟨h1,h2,h3,h4,h5⟩=>by
  have hg:(S.set i v)[t.toNat]! =S[t.toNat]! :=by
   grind
  exact⟨h1,h2,by rw[hg];exact h3,by rw[hg];exact h4,by rw[hg];exact BT ae h5⟩
def R8 {S:List Int}{i:Nat}{v:Int}(h:i<S.length):(S.set i v)[i]! =v:=by
 simp[h]
def tk {S:List Int}{i:Nat}{v:Int}{r:List Int}(h:i<S.length)(h0:0<=v)(h1:v<=i)(hc:C6 S v r):C6 (S.set i v) ((i+1:Nat):Int) ((i:Int)::r):=by
 have hg:(S.set i v)[((i:Nat):Int).toNat]! =v:=by rw[Int.toNat_natCast];exact R8 h
 exact⟨ae,ae,by rw[hg];exact h0,by rw[hg];exact h1,by rw[hg];exact BT ae hc⟩
def tl {S:List Int}{i:Nat}{o:List Int}(h:C6 S (i:Nat) o.reverse):(0<o.length↔1<=i)/\(1<=i->o[o.length-1]! =(i:Int) -1/\0<=S[i-1]! /\S[i-1]! <=(i:Int) -1/\C6 S S[i-1]! (o.take (o.length-1)).reverse):=by
 rcases List.eq_nil_or_concat o with rfl|⟨p,t,rfl⟩
 .have h:((i:Nat):Int)=0:=h
  grind
 .rw[List.concat_eq_append,List.reverse_append,List.reverse_singleton,List.singleton_append]at h;obtain⟨h1,h2,h3,h4,h5⟩:=h
  grind
def BU {S:List Int}{i:Nat}{o:List Int}(h:C6 S (i:Nat) o.reverse):(1<o.length↔1<=i/\1<=S[i-1]!)/\(1<o.length->o[o.length-2]! =S[i-1]! -1/\0<=S[(S[i-1]! -1).toNat]! /\S[(S[i-1]! -1).toNat]! <=S[i-1]! -1/\C6 S S[(S[i-1]! -1).toNat]! (o.take (o.length-2)).reverse):=by
 obtain⟨h1,h2⟩:=tl h;by_cases hi:1<=i
 .obtain⟨g1,g2,g3,g4⟩:=h2 hi;have hl:=h1.2 hi;rcases List.eq_nil_or_concat o with rfl|⟨p,t,rfl⟩
  .simp at hl
  .rw[List.concat_eq_append]at g4⊢;rw[List.take_append_of_le_length aQ,dM aQ]at g4;rcases List.eq_nil_or_concat p with rfl|⟨q,u,rfl⟩
   .have g4:S[i-1]! =0:=g4;exact⟨⟨fun h=>absurd h aQ,fun h=>ae⟩,fun h=>absurd h aQ⟩
   .rw[List.concat_eq_append]at g4⊢;rw[List.reverse_append,List.reverse_singleton,List.singleton_append]at g4;obtain⟨k1,k2,k3,k4,k5⟩:=g4;subst k1;refine⟨⟨fun _=>⟨hi,ae⟩,fun _=>aQ⟩,fun _=>⟨aQ,k3,k4, ?_⟩⟩;rw[dx,List.take_append_of_le_length aQ,dM aQ];exact k5
 .have:¬0<o.length:=fun h=>hi (h1.1 h)
  exact⟨⟨fun h=>ae,fun h=>absurd h.1 hi⟩,fun h=>ae⟩
def P4 {S:List Int}{n:Nat}{o:List Int}(t1:0<o.length↔1<=n)(t2:1<=n->o[o.length-1]! =(n:Int) -1/\0<=S[n-1]! /\S[n-1]! <=(n:Int) -1/\C6 S S[n-1]! (o.take (o.length-1)).reverse)(u1:1<o.length↔1<=n/\1<=S[n-1]!):
  (decide (n=0) ||decide (o.length=1))=(decide ((n:Nat)=(0:Int)) ||decide (S[n-1]! =0)):=by
 grind
theorem yH {n:Nd}(h:nD n=true):n.op=1:=by grind [nD]
def Hs {n:Nd}{i:Nat}{o:List Int}(h:nD n=true):iJ n i o=some (o++[(i:Int)]):=ax h
def CO {n:Nd}{i:Nat}{o:List Int}(h1:n.op=1)(h:nD n=false):iJ n i o=none:=by
 grind [iJ]
def E1 {n:Nd}{i:Nat}{o:List Int}(h1:n.op≠1)(h2:n.op≠2)(h3:n.op≠3)(h4:n.op≠4):iJ n i o=none:=by
 grind [iJ,yH]
def vl {S:List Int}{n:Nd}{i:Nat}{o:List Int}(hc:C6 S (i:Nat) o.reverse)(h2:n.op=2):iJ n i o=if(1<=i/\n.a=(i:Int) -1/\n.b=0)/\jW n=true then some (o.take (o.length-1)++[(i:Int)])else none:=by
 obtain⟨t1,t2⟩:=tl hc
 grind [iJ,yH,jW]
def mT {S:List Int}{n:Nd}{i:Nat}{o:List Int}(hc:C6 S (i:Nat) o.reverse)(h2:n.op=3\/n.op=4):iJ n i o=if(2<=i/\n.b=(i:Int) -1/\1<=S[i-1]! /\n.a=S[i-1]! -1)/\jW n=true then some (o.take (o.length-2)++[(i:Int)])else none:=by
 obtain⟨t1,t2⟩:=tl hc;obtain⟨u1,u2⟩:=BU hc;unfold iJ;rw[ai (fun h=>by have:=yH h;omega),ai (by rintro⟨⟨⟨⟨h,_⟩,_⟩,_⟩,_⟩;omega)];by_cases hk:(2<=i/\n.b=(i:Int) -1/\1<=S[i-1]! /\n.a=S[i-1]! -1)/\jW n=true
 .grind
 .rw[ai hk,ai]
  grind
def jc (l:List Nd):Prop:=∀j,j<l.length->(l[j]!.op=1->0<=l[j]!.key/\l[j]!.key<3/\l[j]!.text.length<=12)/\(l[j]!.op≠1->0<=l[j]!.a/\l[j]!.a<j)/\(l[j]!.op≠1->l[j]!.op≠2->0<=l[j]!.b/\l[j]!.b<j)
def GS {l:List Nd}:∀(k i:Nat) (o o':List Int),i+k=l.length->(∀x∈o,0<=x/\x<(i:Int))->mf (l.drop i) i o=some o'->
  ∀j,i<=j->j<l.length->(l[j]!.op=1->0<=l[j]!.key/\l[j]!.key<3/\l[j]!.text.length<=12)/\(l[j]!.op≠1->0<=l[j]!.a/\l[j]!.a<j)/\(l[j]!.op≠1->l[j]!.op≠2->0<=l[j]!.b/\l[j]!.b<j):=by
 intro k;induction k with
 |zero=>intro i o o' h1 h2 h3 j h4 h5;omega
 |succ k ih=>
  intro i o o' h1 h2 h3 j h4 h5;have hi:i<l.length:=ae;cases hs:iJ l[i]! i o with
  |none=>rw[fO hi hs]at h3;cases h3
  |some o2=>
   rw[iF hi hs]at h3;have hm:∀m,0<m->m<=o.length->0<=o[o.length-m]! /\o[o.length-m]! <(i:Int):=fun m hm1 hm2=>h2 _ (bw ae)
   have hsub:∀m,∀x∈o.take m++[(i:Int)],0<=x/\x<((i+1:Nat):Int):=fun m x hx=>by
    rcases List.mem_append.1 hx with hx|hx
    .have:=h2 x (qP hx);omega
    .simp only[cz]at hx;omega
   unfold iJ at hs;split at hs
   .rename_i hl;cases hs;rcases gz i j with hj|hj
    .exact ih (i+1) _ o' ae (by have:=hsub o.length;rwa [dM (aS _)]at this) h3 j hj h5
    .obtain rfl:i=j:=ae;simp only[nD,bp,aY]at hl;have hw:=hl.1.1.2;simp only[cu,bp,aY]at hw;exact⟨fun _=>⟨hl.1.1.1.1.2,hl.1.1.1.2,hw.1.2⟩,fun h=>absurd hl.1.1.1.1.1 h,fun h=>absurd hl.1.1.1.1.1 h⟩
   .split at hs
    .rename_i hl;cases hs;rcases gz i j with hj|hj
     .exact ih (i+1) _ o' ae (hsub _) h3 j hj h5
     .obtain rfl:i=j:=ae;obtain⟨⟨⟨⟨g1,g2⟩,g3⟩,g4⟩,g5⟩:=hl;have:=hm 1 ae ae;exact⟨fun h=>ae,fun _=>by rw[g4];exact this,fun _ h=>absurd g1 h⟩
    .split at hs
     .rename_i hl;cases hs;rcases gz i j with hj|hj
      .exact ih (i+1) _ o' ae (hsub _) h3 j hj h5
      .obtain rfl:i=j:=ae;obtain⟨⟨⟨⟨g1,g2⟩,g3⟩,g4⟩,g5⟩:=hl;have q1:=hm 1 ae ae;have q2:=hm 2 ae ae;exact⟨fun h=>ae,fun _=>by rw[g4];exact q2,fun _ _=>by rw[g5];exact q1⟩
     .cases hs
def pj {l:List Nd}(h:nJ l=true):jc l:=by
 unfold nJ at h;cases ho:mf l 0 []with
 |none=>rw[ho]at h;cases h
 |some o=>exact fun j hj=>GS l.length 0 [] o ae aQ ho j (Nat.zero_le _) hj
def Nv (n:Nd)(o:List Int):Bool:=(((decide (n.op=2)&&(decide (n.key=0)&&decide (n.text=[])))&&decide ((0:Int)<(o.length:Nat)))&&decide (n.a=o[o.length-1]!))&&decide (n.b=0)
def Nw (n:Nd)(o:List Int):Bool:=((((decide (n.op=3) ||decide (n.op=4))&&(decide (n.key=0)&&decide (n.text=[])))&&decide ((1:Int)<(o.length:Nat)))&&decide (n.a=o[o.length-2]!))&&decide (n.b=o[o.length-1]!)
def xc (n:Nd)(i:Nat)(o:List Int):iJ n i o=if nD n=true then some (o++[(i:Int)])else if Nv n o=true then some (o.take (o.length-1)++[(i:Int)])else if Nw n o=true then some (o.take (o.length-2)++[(i:Int)])else none:=by
 grind [Nv,jW,Nw,iJ]
def Ig {n:Nd}(h:n.op=1):nD n=!((((decide (n.key<0) ||decide (3<=n.key)) ||!cu n.text) ||!decide (n.a=0)) ||!decide (n.b=0)):=by
 grind [nD,cu]
def xb {S:List Int}{i:Nat}(h:i<S.length)(v:Int):(S.map (D.int .i64)).set (0+i) (qG ((S.map (D.int .i64)).getD (0+i) .any) 1 1 0 (.int .i64 v))=(S.set i v).map (D.int .i64):=by
 rw[cd,getD_map (q:=D.int .i64) h,List.map_set];rfl
abbrev SF:=List Nd
def kA (m:SF):D:=.agg [.sl 5 (m.map Nd.D)]
def qf:List au:=[[111,115],[97,114,99,104],[97,98,105]]
def sx (k:Int):au:=if k=0 then [111,115]else if k=1 then [97,114,99,104]else [97,98,105]
def ku (s:au)(b:Bool):au:=if b=true then [40,32]++s++[32,41]else s
def sT (l:List Nd):Nat->Int->au
 |0,_=>[]
 |f+1,i=>
  if l[i.toNat]!.op=1 then sx l[i.toNat]!.key++[32,61,32]++l[i.toNat]!.text
  else if l[i.toNat]!.op=2 then
   if l[l[i.toNat]!.a.toNat]!.op=1 then sx l[l[i.toNat]!.a.toNat]!.key++[32,33,61,32]++l[l[i.toNat]!.a.toNat]!.text
   else [110,111,116,32]++ku (sT l f l[i.toNat]!.a) (!decide (l[l[i.toNat]!.a.toNat]!.op=2))
  else if l[i.toNat]!.op=3 then ku (sT l f l[i.toNat]!.a) (decide (l[l[i.toNat]!.a.toNat]!.op=4))++[32,97,110,100,32]++ku (sT l f l[i.toNat]!.b) (decide (l[l[i.toNat]!.b.toNat]!.op=4) ||decide (l[l[i.toNat]!.b.toNat]!.op=3))
  else sT l f l[i.toNat]!.a++[32,111,114,32]++ku (sT l f l[i.toNat]!.b) (decide (l[l[i.toNat]!.b.toNat]!.op=4))
def lJ (l:List Nd)(i:Int):au:=sT l (i.toNat+1) i
theorem CV {l:List Nd}(hk:jc l):∀(f g:Nat) (i:Int),0<=i->i<l.length->i<f->i<g->sT l f i=sT l g i
 |0,_,_,_,_,h,_=>ae
 |_,0,_,_,_,_,h=>ae
 |f+1,g+1,i,h0,h1,h2,h3=>by
  obtain⟨k1,k2,k3⟩:=hk i.toNat ae;simp only[sT];by_cases e1:l[i.toNat]!.op=1
  .rw[ax e1,ax e1]
  .rw[ai e1,ai e1];have ka:=k2 e1;rw[CV hk f g l[i.toNat]!.a ae ae ae ae];by_cases e2:l[i.toNat]!.op=2
   .rw[ax e2,ax e2]
   .have kb:=k3 e1 e2;rw[CV hk f g l[i.toNat]!.b ae ae ae ae]
def I8 {l:List Nd}(hk:jc l){i:Int}(h0:0<=i)(h1:i<l.length):lJ l i=
  if l[i.toNat]!.op=1 then sx l[i.toNat]!.key++[32,61,32]++l[i.toNat]!.text
  else if l[i.toNat]!.op=2 then
   if l[l[i.toNat]!.a.toNat]!.op=1 then sx l[l[i.toNat]!.a.toNat]!.key++[32,33,61,32]++l[l[i.toNat]!.a.toNat]!.text
   else [110,111,116,32]++ku (lJ l l[i.toNat]!.a) (!decide (l[l[i.toNat]!.a.toNat]!.op=2))
  else if l[i.toNat]!.op=3 then ku (lJ l l[i.toNat]!.a) (decide (l[l[i.toNat]!.a.toNat]!.op=4))++[32,97,110,100,32]++ku (lJ l l[i.toNat]!.b) (decide (l[l[i.toNat]!.b.toNat]!.op=4) ||decide (l[l[i.toNat]!.b.toNat]!.op=3))
  else lJ l l[i.toNat]!.a++[32,111,114,32]++ku (lJ l l[i.toNat]!.b) (decide (l[l[i.toNat]!.b.toNat]!.op=4)):=by
 obtain⟨k1,k2,k3⟩:=hk i.toNat ae
 grind [lJ,sT,CV]
def mV (s:au)(b:Bool):(ku s b).length<=s.length+4:=by
 unfold ku;split<;>simp
def ri {k:Int}(h0:0<=k)(h3:k<3):qf[k.toNat]! =sx k:=by
 obtain rfl|rfl|rfl:k=0\/k=1\/k=2:=ae
 .rfl
 .rfl
 .rfl
def Ol {k:Int}(h0:0<=k)(h3:k<3):nU (([.str [111,115],.str [97,114,99,104],.str [97,98,105]]:List D).getD (0+k.toNat) .any) 1 1 0 false=.str (sx k):=by
 obtain rfl|rfl|rfl:k=0\/k=1\/k=2:=ae
 .rfl
 .rfl
 .rfl
def ov (k:Int):(sx k).length<=4:=by
 grind [sx]
def zB {l:List Nd}(hk:jc l):∀(f:Nat) (i:Int),0<=i->i<l.length->(sT l f i).length+20<=20*2^(f+1)
 |0,i,_,_=>by simp[sT]
 |f+1,i,h0,h1=>by
  obtain⟨k1,k2,k3⟩:=hk i.toNat ae;have hp:20*2^(f+1+1)=20*2^(f+1)+20*2^(f+1):=by rw[Nat.pow_succ 2 (f+1)];omega
  have h1p:1<=2^(f+1):=Nat.one_le_two_pow;simp only[sT];by_cases e1:l[i.toNat]!.op=1
  .rw[ax e1];have:=ov l[i.toNat]!.key;have:=k1 e1;simp only[bJ,az,aC];omega
  .rw[ai e1];have ka:=k2 e1;have la:=zB hk f l[i.toNat]!.a ae ae;have wa:=fun b=>mV (sT l f l[i.toNat]!.a) b
   by_cases e2:l[i.toNat]!.op=2
   .rw[ax e2];split
    .rename_i e3;have:=ov l[l[i.toNat]!.a.toNat]!.key;have:=((hk l[i.toNat]!.a.toNat ae).1 e3).2.2;simp only[bJ,az,aC];omega
    .have:=wa (!decide (l[l[i.toNat]!.a.toNat]!.op=2));simp only[bJ,az,aC];omega
   .rw[ai e2];have kb:=k3 e1 e2;have lb:=zB hk f l[i.toNat]!.b ae ae;have wb:=fun b=>mV (sT l f l[i.toNat]!.b) b
    split
    .have:=wa (decide (l[l[i.toNat]!.a.toNat]!.op=4));have:=wb (decide (l[l[i.toNat]!.b.toNat]!.op=4) ||decide (l[l[i.toNat]!.b.toNat]!.op=3));simp only[bJ,az,aC];omega
    .have:=wb (decide (l[l[i.toNat]!.b.toNat]!.op=4));simp only[bJ,az,aC];omega
def qK {l:List Nd}(hk:jc l)(hl:l.length<=15){i:Int}(h0:0<=i)(h1:i<l.length):(lJ l i).length<=1310720:=by
 have h:=zB hk (i.toNat+1) i h0 h1;have:2^(i.toNat+1+1)<=2^16:=Nat.pow_le_pow_right ae ae;unfold lJ;omega
def pk (l:List Nd):au:=if l.length=0 then []else lJ l ((l.length:Int) -1)
def yO (l:List Nd):Bool:=(decide (l.length<=15)&&nJ l)&&decide ((pk l).length<=96)
def S2 (l:List Nd):au:=if yO l=true then pk l else []
abbrev PR:=Option (Int×List au×List Nd)
def iy (k:au):Int:=if k=[111,115]then 0 else if k=[97,114,99,104]then 1 else if k=[97,98,105]then 2 else-1
def lP (k s v:au):Bool:=(decide (0<=iy k)&&cu v)&&(decide (s=[61]) ||decide (s=[33,61]))
def vD (k s v:au)(r:List au)(nd:List Nd):Int×List au×List Nd:=
 if s=[33,61]then(((nd++[(⟨1,0,0,iy k,v⟩:Nd)]).length:Nat),r,(nd++[⟨1,0,0,iy k,v⟩])++[⟨2,(nd.length:Nat),0,0,[]⟩])
 else((nd.length:Nat),r,nd++[⟨1,0,0,iy k,v⟩])
def pO (k:au)(w:List au)(nd:List Nd):PR:=match w with
 |s::v::r=>if lP k s v=true then some (vD k s v r nd)else none
 |_=>none
def kF (part:List au->List Nd->PR)(wd:au)(op:Int):Nat->Int->List au->List Nd->PR
 |0,a,w,nd=>some (a,w,nd)
 |f+1,a,w,nd=>match w with
  |[]=>some (a,w,nd)
  |x::r=>if x=wd then(match part r nd with
    |none=>none
    |some (b,w',nd')=>kF part wd op f (nd'.length:Nat) w' (nd'++[⟨op,a,b,0,[]⟩]))
   else some (a,w,nd)
def ic (part:List au->List Nd->PR)(wd:au)(op:Int)(w:List au)(nd:List Nd):PR:=match part w nd with
 |none=>none
 |some (a,w',nd')=>kF part wd op w'.length a w' nd'
def pB:au:=[110,111,116]
def gw:au:=[40]
def kp:au:=[41]
def kJ:au:=[97,110,100]
def pI:au:=[111,114]
def nP (r:PR):PR:=match r with
 |some (a,x::w',nd')=>if x=kp then some (a,w',nd')else none
 |_=>none
def U3 (r:PR):PR:=match r with
 |some (a,w',nd')=>some ((nd'.length:Nat),w',nd'++[⟨2,a,0,0,[]⟩])
 |none=>none
def rD:Nat->List au->List Nd->PR
 |0,_,_=>none
 |f+1,w,nd=>match w with
  |[]=>none
  |k::r=>if k=pB then U3 (rD f r nd)
   else if k=gw then nP (ic (ic (rD f) kJ 3) pI 4 r nd)
   else pO k r nd
def PB (w:List au)(nd:List Nd)(w':List au)(nd':List Nd):Prop:=w'.length<=w.length/\nd'.length+2*w'.length<=nd.length+2*w.length/\w'<:+w
def ta (part:List au->List Nd->PR):Prop:=∀w nd a w' nd',part w nd=some (a,w',nd')->PB w nd w' nd'/\w'.length<w.length
def PB.refl (w:List au)(nd:List Nd):PB w nd w nd:=⟨aS _,aS _,HC _⟩
def PB.trans {w nd w' nd' w2 nd2}(h:PB w nd w' nd')(h2:PB w' nd' w2 nd2):PB w nd w2 nd2:=⟨cT h2.1 h.1,cT h2.2.1 h.2.1,h2.2.2.trans h.2.2⟩
def PB.tail {x:au}{w:List au}{nd:List Nd}{w':List au}{nd':List Nd}(h:PB w nd w' nd')(n:Nd):PB (x::w) nd w' (nd'++[n]):=by
 obtain⟨h1,h2,h3⟩:=h;refine⟨by simp only[az];omega,by simp only[bJ,az,aC];omega,h3.trans (List.suffix_cons x w)⟩
def PB.tX {x:au}{w:List au}{nd:List Nd}{w':List au}{nd':List Nd}(h:PB w nd w' nd'):PB (x::w) nd w' nd':=by
 obtain⟨h1,h2,h3⟩:=h;exact⟨by simp only[az];omega,by simp only[az];omega,h3.trans (List.suffix_cons x w)⟩
def yI {part:List au->List Nd->PR}(hp:ta part)(wd:au)(op:Int):∀(f:Nat) (a:Int) (w:List au) (nd:List Nd) (a':Int) (w':List au) (nd':List Nd),kF part wd op f a w nd=some (a',w',nd')->PB w nd w' nd'
 |0,a,w,nd,a',w',nd',h=>by simp only[kF,aV,eB]at h;obtain⟨rfl,rfl,rfl⟩:=h;exact .refl _ _
 |f+1,a,[],nd,a',w',nd',h=>by simp only[kF,aV,eB]at h;obtain⟨rfl,rfl,rfl⟩:=h;exact .refl _ _
 |f+1,a,x::r,nd,a',w',nd',h=>by
  simp only[kF]at h;by_cases hx:x=wd
  .rw[ax hx]at h;cases hq:part r nd with
   |none=>rw[hq]at h;cases h
   |some t=>
    obtain⟨b,w2,nd2⟩:=t;rw[hq]at h;exact((hp _ _ _ _ _ hq).1.tail _).trans (yI hp wd op f _ _ _ _ _ _ h)
  .rw[ai hx]at h;simp only[aV,eB]at h;obtain⟨rfl,rfl,rfl⟩:=h;exact .refl _ _
def lh {part:List au->List Nd->PR}(hp:ta part)(wd:au)(op:Int):ta (ic part wd op):=by
 intro w nd a w' nd' h;unfold ic at h;cases hq:part w nd with
 |none=>rw[hq]at h;cases h
 |some t=>
  obtain⟨b,w2,nd2⟩:=t;rw[hq]at h;obtain⟨h1,h2⟩:=hp _ _ _ _ _ hq;have:=yI hp wd op _ _ _ _ _ _ _ h;exact⟨h1.trans this,Nat.lt_of_le_of_lt this.1 h2⟩
theorem oJ {k:au}{w:List au}{nd:List Nd}{a:Int}{w':List au}{nd':List Nd}(h:pO k w nd=some (a,w',nd')):PB w nd w' nd':=by
 match w,h with
 |s::v::r,h=>
  simp only[pO]at h;split at h
  .simp only[aV]at h;unfold vD at h;have hs:r<:+s::v::r:=(List.suffix_cons v r).trans (List.suffix_cons s _);split at h<;>(simp only[eB]at h;obtain⟨rfl,rfl,rfl⟩:=h;exact⟨by simp only[az];omega,by simp only[bJ,az,aC];omega,hs⟩)
  .cases h
 |[_],h=>cases h
 |[],h=>cases h
def kK:∀f,ta (rD f)
 |0=>fun w nd a w' nd' h=>by cases h
 |f+1=>by
  intro w nd a w' nd' h
  match w,h with
  |[],h=>cases h
  |k::r,h=>
   simp only[rD]at h;split at h
   .cases hq:rD f r nd with
    |none=>rw[hq]at h;cases h
    |some t=>
     obtain⟨b,w2,nd2⟩:=t;rw[hq]at h;simp only[U3,aV,eB]at h;obtain⟨rfl,rfl,rfl⟩:=h;obtain⟨h1,h2⟩:=kK f _ _ _ _ _ hq;exact⟨h1.tail _,by simp only[az];omega⟩
   .split at h
    .cases hq:ic (ic (rD f) kJ 3) pI 4 r nd with
     |none=>rw[hq]at h;cases h
     |some t=>
      obtain⟨b,w2,nd2⟩:=t;rw[hq]at h;obtain⟨h1,h2⟩:=lh (lh (kK f) _ _) _ _ _ _ _ _ _ hq
      match w2,h,h1,h2 with
      |[],h,_,_=>cases h
      |x::w3,h,h1,h2=>
       simp only[nP]at h;split at h
       .simp only[aV,eB]at h;obtain⟨rfl,rfl,rfl⟩:=h;exact⟨(h1.trans (PB.refl _ _).tX).tX,by simp only[az]at h2⊢;omega⟩
       .cases h
    .exact⟨(oJ h).tX,by have:=(oJ h).1;simp only[az];omega⟩
def D5 {p p':List au->List Nd->PR}(hp:ta p)(wd:au)(op:Int){u:Nat}(h:∀w nd,w.length<u->p w nd=p' w nd):∀(f:Nat) (a:Int) (w:List au) (nd:List Nd),w.length<=u->kF p wd op f a w nd=kF p' wd op f a w nd
 |0,a,w,nd,hu=>rfl
 |f+1,a,[],nd,hu=>rfl
 |f+1,a,x::r,nd,hu=>by
  simp only[az]at hu;simp only[kF];split
  .rw[<-h r nd ae];cases hq:p r nd with
   |none=>rfl
   |some t=>
    obtain⟨b,w2,nd2⟩:=t;have:=hp _ _ _ _ _ hq;exact D5 hp wd op h f _ _ _ ae
  .rfl
def qS {p p':List au->List Nd->PR}(hp:ta p)(wd:au)(op:Int){u:Nat}(h:∀w nd,w.length<u->p w nd=p' w nd):∀w nd,w.length<u->ic p wd op w nd=ic p' wd op w nd:=by
 intro w nd hu;unfold ic;rw[<-h w nd hu];cases hq:p w nd with
 |none=>rfl
 |some t=>
  obtain⟨b,w2,nd2⟩:=t;have:=hp _ _ _ _ _ hq;exact D5 hp wd op h _ _ _ _ ae
def HS:∀(u f g:Nat) (w:List au) (nd:List Nd),w.length<u->w.length<=f->w.length<=g->rD f w nd=rD g w nd
 |0,_,_,_,_,h,_,_=>absurd h (Nat.not_lt_zero _)
 |u+1,f,g,[],nd,hu,hf,hg=>by cases f<;>cases g<;>rfl
 |u+1,0,_,_::_,_,_,h,_=>by simp at h
 |u+1,_,0,_::_,_,_,_,h=>by simp at h
 |u+1,f+1,g+1,k::r,nd,hu,hf,hg=>by
  simp only[az]at hu hf hg;have ih:∀w nd,w.length<r.length+1->rD f w nd=rD g w nd:=fun w nd h=>HS u f g w nd ae ae ae
  simp only[rD];rw[ih r nd ae,qS (lh (kK f) _ _) pI 4 (qS (kK f) kJ 3 ih) r nd ae]
def jq (w:List au)(nd:List Nd):PR:=rD w.length w nd
def jY:List au->List Nd->PR:=ic jq kJ 3
def ik:List au->List Nd->PR:=ic jY pI 4
def uw:ta jq:=fun w nd a w' nd' h=>kK _ w nd a w' nd' h
def yc:ta jY:=lh uw _ _
def wQ (k:au)(r:List au)(nd:List Nd):jq (k::r) nd=if k=pB then U3 (jq r nd)else if k=gw then nP (ik r nd)else pO k r nd:=by
 show rD (r.length+1) (k::r) nd=_;simp only[rD];have ih:∀w nd,w.length<r.length+1->rD r.length w nd=jq w nd:=fun w nd h=>HS (r.length+1) _ _ w nd h ae (aS _)
 rw[show rD r.length r nd=jq r nd from rfl,qS (lh (kK _) _ _) pI 4 (qS (kK _) kJ 3 ih) r nd ae];rfl
def AX {part:List au->List Nd->PR}{wd:au}{op:Int}{f:Nat}{a:Int}{nd:List Nd}:kF part wd op f a [] nd=some (a,[],nd):=by cases f<;>rfl
theorem Ox {part:List au->List Nd->PR}{wd:au}{op:Int}{f:Nat}{a:Int}{w:List au}{nd:List Nd}(h:w.head? ≠some wd):kF part wd op f a w nd=some (a,w,nd):=by
 cases f with
 |zero=>rfl
 |succ f=>match w,h with
  |[],_=>rfl
  |x::r,h=>simp only[kF];rw[ai (by rintro rfl;exact h rfl)]
def yJ {part:List au->List Nd->PR}(hp:ta part){wd:au}{op:Int}:∀(f g:Nat) (a:Int) (w:List au) (nd:List Nd),w.length<=f->w.length<=g->kF part wd op f a w nd=kF part wd op g a w nd
 |_,_,a,[],nd,_,_=>by rw[AX,AX]
 |0,_,_,_::_,_,h,_=>by simp at h
 |_,0,_,_::_,_,_,h=>by simp at h
 |f+1,g+1,a,x::r,nd,hf,hg=>by
  simp only[az]at hf hg;simp only[kF];split
  .cases hq:part r nd with
   |none=>rfl
   |some t=>
    obtain⟨b,w2,nd2⟩:=t;have:=hp _ _ _ _ _ hq;exact yJ hp f g _ _ _ ae ae
  .rfl
def Ih (part:List au->List Nd->PR)(wd:au)(op:Int)(a:Int)(w:List au)(nd:List Nd):PR:=kF part wd op w.length a w nd
def Lt {part:List au->List Nd->PR}(hp:ta part){wd:au}{op:Int}{a:Int}{r:List au}{nd:List Nd}:Ih part wd op a (wd::r) nd=match part r nd with
  |none=>none
  |some (b,w',nd')=>Ih part wd op (nd'.length:Nat) w' (nd'++[⟨op,a,b,0,[]⟩]):=by
 show kF part wd op (r.length+1) a (wd::r) nd=_;simp only[kF,bo];cases hq:part r nd with
 |none=>rfl
 |some t=>
  obtain⟨b,w2,nd2⟩:=t;have:=hp _ _ _ _ _ hq;exact yJ hp _ _ _ _ _ ae (aS _)
structure PO where
 a:Int
 w:List au
 nd:List Nd
 bad:Bool
def dK (R:PR)(w:List au)(nd:List Nd)(o:PO):Prop:=(R=some (o.a,o.w,o.nd)/\o.bad=false\/R=none/\o.bad=true)/\PB w nd o.w o.nd
def GL (s:au):Option (List Nd):=match ik (aq s 32) []with
 |some (_,[],nd)=>if yO nd=true then some nd else none
 |_=>none
def lD (s:au):List Nd×Int:=if 96<s.length then([],3)else if s=[]then([],0)else match GL s with
 |some nd=>(nd,0)
 |none=>([],7)
def oZ (s:au):Bool:=decide ((lD s).2=0)&&decide (S2 (lD s).1=s)
abbrev De:=List au->D->Bool->D
def hZ:De:=fun w X b=>.agg [.sl 1 (w.map D.str),X,.bool b]
def iA (W:List au):De:=fun w X b=>.agg [.sl 1 (W.map D.str),.int .i64 ((W.length-w.length:Nat):Int),X,.bool b]
def nO (Y:Ctx)(k:Nat)(ob:De)(n:Nat)(ai9:List D)(w:List au)(nd:List Nd)(b:Bool)(P:PO->Prop)(V:PO->D):Prop:=
 ∀(nx lp ln:Nat) (m:List (Nat×bG)) (K:D->St->Prop),look m lp=some (.buf k [ob w (.own ln 5 0 nd.length) b])->look m ln=some (.buf 5 (nd.map Nd.D))->lp<nx->ln<nx->
  (∀o,P o->K (V o) ⟨nx+1,(nx,.buf 5 (o.nd.map Nd.D))::dE (dy m ln) lp (.buf k [ob o.w (.own nx 5 0 o.nd.length) o.bad])⟩)->Y.tr n (.ptr lp k 0 0::ai9) ⟨nx,m⟩ K
def QL (Y:Ctx)(k:Nat)(ob:De)(n:Nat)(ai9:List D)(w:List au)(nd:List Nd)(b:Bool)(P:PO->Prop)(V:PO->D):Prop:=
 ∀(nx lp ln:Nat) (m:List (Nat×bG)) (K:D->St->Prop),look m lp=some (.buf k [ob w (.own ln 5 0 nd.length) b])->look m ln=some (.buf 5 (nd.map Nd.D))->lp<nx->ln<nx->
  (∀o,P o->K (V o) ⟨nx,dE m lp (.buf k [ob o.w (.own ln 5 0 nd.length) o.bad])⟩)->Y.tr n (.ptr lp k 0 0::ai9) ⟨nx,m⟩ K
def wm (k:Nat)(ob:De)(P:PO->Prop)(V:PO->D):D->List (Nat×bG)->Prop:=fun d m=>∃(o:PO) (j:Nat),2<=j/\P o/\d=V o/\look m 0=some (.buf k [ob o.w (.own j 5 0 o.nd.length) o.bad])/\look m j=some (.buf 5 (o.nd.map Nd.D))
def HF (k:Nat)(ob:De)(nd:List Nd)(P:PO->Prop)(V:PO->D):D->List (Nat×bG)->Prop:=fun d m=>∃(o:PO),P o/\d=V o/\look m 0=some (.buf k [ob o.w (.own 1 5 0 nd.length) o.bad])/\look m 1=some (.buf 5 (nd.map Nd.D))
def Va:PO->D:=fun o=>.int .i64 o.a
def UZ {m:List (Nat×bG)}(x:Nd):Qq m [.a,.a,.a,.a,.a] (Nd.D x):=⟨rfl,rfl,rfl,rfl,rfl,rfl⟩
def OL {m:List (Nat×bG)}{lp ln:Nat}{w:List au}{nd:List Nd}{b:Bool}(h1:look m lp=some (.buf 3 [hZ w (.own ln 5 0 nd.length) b]))(h2:look m ln=some (.buf 5 (nd.map Nd.D))):
  j5 m [[.pt [.sl 1 [.a],.sl 5 [.a,.a,.a,.a,.a],.a]]] [.ptr lp 3 0 0]:=by
 refine⟨⟨by simp[fS,h1], ?_⟩,trivial⟩;intro e he;simp only[bj,h1,cz]at he;subst he;refine⟨rfl,⟨by simp[fS,h2], ?_⟩,rfl,rfl⟩;simp only[bj,h2,de,bX];intro e he;obtain⟨x,_,rfl⟩:=dN.1 he;exact UZ x
def aZ (w:List au):au:=w.headD []
def bC (w:List au):List au:=if aZ w=[]then w else w.drop 1
def dk (w:List au)(b:Bool):Bool:=if aZ w=[]then true else b
def ru {w:List au}{x:au}(hx:x≠[])(h:aZ w=x):∃r,w=x::r:=by
 match w,h with
 |[],h=>exact absurd h.symm hx
 |y::r,h=>exact⟨r,by rw[show y=x from h]⟩
def P1 {w:List au}(h:¬aZ w=[]):1<=w.length:=by
 match w,h with
 |[],h=>exact absurd rfl h
 |_::_,_=>simp
def jx {x:au}{r:List au}(hx:x≠[]):bC (x::r)=r:=ai hx
def jv {x:au}{r:List au}{b:Bool}(hx:x≠[]):dk (x::r) b=b:=ai hx
def MA (w:List au):bC w<:+w:=by
 unfold bC;split
 .exact HC _
 .exact List.drop_suffix 1 w
def oF (w:List au)(nd:List Nd):PB w nd (bC w) nd:=by
 have h:=MA w;have:=h.length_le;exact⟨this,ae,h⟩
theorem P0 {w:List au}{b:Bool}(h:dk w b=false):b=false/\aZ w≠[]/\w=aZ w::bC w:=by
 unfold dk at h;split at h
 .cases h
 .rename_i hs;refine⟨h,hs, ?_⟩
  match w,hs with
  |x::r,hs=>rw[jx (x:=x) (r:=r) hs];rfl
def mX (b:Bool)(k:au)(w:List au)(nd:List Nd):PR:=if b=true then none else pO k w nd
theorem DZ {j:Nat}{k:au}(hj:j<3)(h:qf[j]! =k):iy k=(j:Nat):=by
 obtain rfl|rfl|rfl:j=0\/j=1\/j=2:=ae
 all_goals (subst h;rfl)
def AS {k:au}(h:0<=iy k):∃j,j<3/\qf[j]! =k/\iy k=(j:Nat):=by
 unfold iy at h⊢;by_cases h1:k=[111,115]
 .exact⟨0,ae,h1.symm,by rw[ax h1];rfl⟩
 .by_cases h2:k=[97,114,99,104]
  .exact⟨1,ae,h2.symm,by rw[ai h1,ax h2];rfl⟩
  .by_cases h3:k=[97,98,105]
   .exact⟨2,ae,h3.symm,by rw[ai h1,ai h2,ax h3];rfl⟩
   grind
def Gn (j:Nat)(k s v:au)(bad:Bool):Bool:=!(((!decide (qf[j]! =k) ||bad) ||(!decide (s=[61])&& !decide (s=[33,61]))) ||!cu v)
def Oc {j:Nat}{k:au}{w:List au}{nd:List Nd}{b:Bool}(hj:j<3)(h:Gn j k (aZ w) (aZ (bC w)) (dk (bC w) (dk w b))=true):
  mX b k w nd=some (vD k (aZ w) (aZ (bC w)) (bC (bC w)) nd)/\iy k=(j:Nat)/\dk (bC w) (dk w b)=false:=by
 grind [Gn,DZ,P0,mX,pO,lP]
def Rl {k:au}{w:List au}{nd:List Nd}{b:Bool}(h:∀j,j<3->Gn j k (aZ w) (aZ (bC w)) (dk (bC w) (dk w b))=false):mX b k w nd=none:=by
 unfold mX;split
 .rfl
 .rename_i hb
  match w with
  |[]=>rfl
  |[_]=>rfl
  |s::v::r=>
   simp only[pO];rw[ai];intro ha;simp only[lP,bp,c8,aY]at ha;obtain⟨⟨h1,h2⟩,h3⟩:=ha;obtain⟨j,hj,hj2,_⟩:=AS h1;have hs:s≠[]:=by rintro rfl;rcases h3 with h|h<;>cases h
   have hv:v≠[]:=by rintro rfl;cases h2
   have:=h j hj;rw[jx hs,jv hs,jv hv]at this;simp only[Bool.not_eq_true]at hb;subst hb;revert this;simp only[Gn,aZ,List.headD_cons,hj2,h2,decide_true];rcases h3 with rfl|rfl<;>simp
def HJ (w:List au)(nd:List Nd):PB w nd (bC (bC w)) nd:=(oF w nd).trans (oF _ nd)
def x7 {b:Bool}{k:au}{w:List au}{nd:List Nd}{a:Int}{w':List au}{nd':List Nd}(h:mX b k w nd=some (a,w',nd')):PB w nd w' nd':=by
 grind [mX,oJ]
def NR {w:List au}{nd:List Nd}(h1:aZ w≠pB)(h2:aZ w≠gw):jq w nd=mX (dk w false) (aZ w) (bC w) nd:=by
 match w with
 |[]=>rfl
 |k::r=>
  have h1:k≠pB:=h1;have h2:k≠gw:=h2;rw[wQ,ai h1,ai h2];by_cases hk:k=[]
  .subst hk;show pO [] r nd=none
   match r with
   |[]=>rfl
   |[_]=>rfl
   |s::v::r=>rfl
  .rw[jx hk,jv hk];rfl
def Nx {R:PR}{o:PO}{w:List au}{nd:List Nd}(h:dK R w nd o)(hs:aZ o.w≠kp):nP R=none:=by
 rcases h.1 with⟨h1,_⟩|⟨h1,_⟩
 .rw[h1]
  match ho:o.w,hs with
  |[],_=>rfl
  |x::r,hs=>simp only[nP];exact ai hs
 .rw[h1];rfl
def dK.pb {R:PR}{o:PO}{w:List au}{nd:List Nd}(h:dK R w nd o):PB w nd o.w o.nd:=h.2
def Iw {r:List au}{nd:List Nd}{o:PO}(h:dK (jq r nd) r nd o):dK (jq (pB::r) nd) (pB::r) nd ⟨(o.nd.length:Nat),o.w,o.nd++[⟨2,o.a,0,0,[]⟩],o.bad⟩:=by
 refine⟨?_,h.2.tail _⟩;rw[wQ,ax rfl];rcases h.1 with⟨h1,h2⟩|⟨h1,h2⟩
 .left;rw[h1];exact⟨rfl,h2⟩
 .right;rw[h1];exact⟨rfl,h2⟩
def tx (r:List au)(nd:List Nd):jq (gw::r) nd=nP (ik r nd):=by rw[wQ,ai aG,ax rfl]
def Ei {r:List au}{nd:List Nd}{o:PO}(h:dK (ik r nd) r nd o)(hs:¬aZ o.w=kp):dK (jq (gw::r) nd) (gw::r) nd ⟨o.a,bC o.w,o.nd,true⟩:=
 ⟨.inr ⟨by rw[tx,Nx h hs],rfl⟩,h.2.tX.trans (oF _ _)⟩
def O4 {r:List au}{nd:List Nd}{o:PO}(h:dK (ik r nd) r nd o)(hs:aZ o.w=kp):dK (jq (gw::r) nd) (gw::r) nd ⟨o.a,bC o.w,o.nd,dk o.w o.bad⟩:=by
 refine⟨?_,h.2.tX.trans (oF _ _)⟩;obtain⟨q,hq⟩:=ru aG hs;rw[tx,hq,jx aG,jv aG];rcases h.1 with⟨h1,h2⟩|⟨h1,h2⟩
 .grind [nP]
 .right;rw[h1];exact⟨rfl,h2⟩
def O3 {w:List au}{nd:List Nd}{o:PO}(hf:jq w nd=mX (dk w false) (aZ w) (bC w) nd)(h:dK (mX (dk w false) (aZ w) (bC w) nd) (bC w) nd o):dK (jq w nd) w nd o:=
 ⟨by rw[hf];exact h.1,(oF w nd).trans h.2⟩
def OA {s:au}{o:PO}(h:dK (ik (aq s 32) []) (aq s 32) [] o)(hc:((o.bad ||decide ((0:Int)<(o.w.length:Nat))) ||!yO o.nd)=true):GL s=none:=by
 unfold GL;rcases h.1 with⟨h1,h2⟩|⟨h1,h2⟩
 .grind
 .rw[h1]
def Il {s:au}{o:PO}(h:dK (ik (aq s 32) []) (aq s 32) [] o)(hc:((o.bad ||decide ((0:Int)<(o.w.length:Nat))) ||!yO o.nd)=false):GL s=some o.nd:=by
 simp only[dR,bA,ct]at hc;unfold GL;rcases h.1 with⟨h1,h2⟩|⟨h1,h2⟩
 .rw[h1]
  match hw:o.w with
  |[]=>simp only[hc.2,bo]
  |x::r=>exact absurd hc.1.2 (by rw[hw];simp)
 grind
def Ik {s:au}{nd:List Nd}(h1:¬96<s.length)(h2:¬s=[])(h:GL s=some nd):lD s=(nd,0):=by simp only[lD,h,ai h1,ai h2]
def Ij {s:au}(h1:¬96<s.length)(h2:¬s=[])(h:GL s=none):lD s=([],7):=by simp only[lD,h,ai h1,ai h2]
def FD (part:List au->List Nd->PR)(wd:au)(op:Int)(R:PR)(w:List au)(nd:List Nd)(o:PO):Prop:=(o.bad=false/\R=Ih part wd op o.a o.w o.nd\/o.bad=true/\R=none)/\PB w nd o.w o.nd
def FD.first {part:List au->List Nd->PR}{wd:au}{op:Int}{w:List au}{nd:List Nd}{o:PO}(h:dK (part w nd) w nd o):FD part wd op (ic part wd op w nd) w nd o:=by
 refine⟨?_,h.2⟩;rcases h.1 with⟨h1,h2⟩|⟨h1,h2⟩
 .left;refine⟨h2, ?_⟩;unfold ic;rw[h1];rfl
 grind [ic]
def FD.next {part:List au->List Nd->PR}(hp:ta part){wd:au}{op:Int}{R:PR}{w:List au}{nd:List Nd}{a:Int}{r:List au}{nd1:List Nd}{o:PO}(h:FD part wd op R w nd ⟨a,wd::r,nd1,false⟩)(h2:dK (part r nd1) r nd1 o):
  FD part wd op R w nd ⟨(o.nd.length:Nat),o.w,o.nd++[⟨op,a,o.a,0,[]⟩],o.bad⟩:=by
 refine⟨?_,h.2.trans (h2.2.tail _)⟩;rcases h.1 with⟨_,h1⟩|⟨h1,_⟩
 .rw[Lt hp]at h1;rcases h2.1 with⟨g1,g2⟩|⟨g1,g2⟩
  .left;exact⟨g2,by rw[h1,g1]⟩
  .right;exact⟨g2,by rw[h1,g1]⟩
 .cases h1
def FD.last {part:List au->List Nd->PR}{wd:au}{op:Int}{R:PR}{w:List au}{nd:List Nd}{o:PO}(h:FD part wd op R w nd o)(hx:o.bad=true\/o.w.head? ≠some wd):dK R w nd o:=by
 refine⟨?_,h.2⟩;rcases h.1 with⟨h1,h2⟩|⟨h1,h2⟩
 .grind [Ih,Ox]
 .right;exact⟨h2,h1⟩
def fT (w:List au)(s:au):Bool:=match w with
 |x::_=>decide (x=s)
 |[]=>false
def nE (w:List au)(s:au):List au:=if fT w s=true then w.drop 1 else w
def rB (w:List au)(b:Bool):Bool:=if w=[]then true else b
def mP {w:List au}{s:au}(h:fT w s=true):∃r,w=s::r:=by
 match w,h with
 |x::r,h=>exact⟨r,by rw[show x=s by simpa[fT]using h]⟩
theorem sB (s:au)(r:List au):fT (s::r) s=true:=by simp[fT]
def kS (s:au)(r:List au):nE (s::r) s=r:=by grind [nE,sB]
def ox {w:List au}{s:au}(h:fT w s=false):nE w s=w:=by grind [nE]
def yQ {w:List au}{s:au}(h:fT w s=false):w.head? ≠some s:=by
 match w,h with
 |[],_=>simp
 |x::r,h=>intro e;have e:x=s:=(by simpa using e);subst e;rw[sB]at h;cases h
def I1 {W w:List au}(h:w<:+W)(hw:1<=w.length):W.length-w.length<W.length/\W[W.length-w.length]! =w[0]! :=by
 have hl:=h.length_le;have he:=List.suffix_iff_eq_drop.1 h
 grind
def Iq {W w:List au}(h:w<:+W)(s:au):(decide (((W.length-w.length:Nat):Int)<(W.length:Nat))&&decide (W[W.length-w.length]! =s))=fT w s:=by
 have hl:=h.length_le
 match w with
 |[]=>
  have:decide (((W.length-([]:List au).length:Nat):Int)<(W.length:Nat))=false:=dr aQ;rw[this];rfl
 |x::r=>
  obtain⟨h1,h2⟩:=I1 h aQ;rw[h2,cv ae,fB];rfl
def IL {W:List au}{x:au}{r:List au}{X:D}{b:Bool}(h:(x::r).length<=W.length):qG (iA W (x::r) X b) 4 1 1 (.int .i64 (((W.length-(x::r).length:Nat):Int)+1))=iA W r X b:=by
 have:((W.length-(x::r).length:Nat):Int)+1=((W.length-r.length:Nat):Int):=by simp only[az]at h⊢;omega
 rw[this];rfl
def yl (w:List au)(nd:List Nd):PR:=match w with
 |k::r=>pO k r nd
 |[]=>none
def Ia (k:au)(i:Nat):Int:=if iy k<i then iy k else-1
theorem Ib (k:au):-1<=iy k:=by
 grind [iy]
theorem Ru (k:au):iy k<3:=by
 grind [iy]
def Rt {k:au}{i:Nat}(hi:i<3)(h:sx (i:Int)=k):Ia k (i+1)=(i:Int):=by
 have:iy k=(i:Nat):=DZ hi (by rw[<-h];exact ri (k:=(i:Int)) ae ae);unfold Ia;rw[this,ax ae]
def UR {k:au}{i:Nat}(hi:i<3)(h:¬sx (i:Int)=k):Ia k (i+1)=Ia k i:=by
 have h1:iy k≠(i:Nat):=by
  intro e;obtain⟨j,hj,hj2,hj3⟩:=AS (k:=k) ae;have:j=i:=ae;subst this;exact h (by rw[<-hj2];exact(ri (k:=(j:Int)) ae ae).symm)
 grind [Ib,Ia,iy]
def Y8 (k:au):Ia k 0=-1:=by
 have:=Ib k;unfold Ia;split
 .omega
 .rfl
def Y9 (k:au):Ia k 3=iy k:=by
 grind [Ru,Ia]
def Ao (k s v:au):(((decide (iy k<0) ||!cu v)) ||(!decide (s=[61])&& !decide (s=[33,61])))=!lP k s v:=by
 unfold lP
 grind
def KD {w:List au}{nd:List Nd}(h:lP (aZ w) (aZ (w.drop 1)) (aZ ((w.drop 1).drop 1))=true):∃r,w=aZ w::aZ (w.drop 1)::aZ ((w.drop 1).drop 1)::r/\yl w nd=some (vD (aZ w) (aZ (w.drop 1)) (aZ ((w.drop 1).drop 1)) r nd):=by
 match w,h with
 |[],h=>cases h
 |[_],h=>simp[lP,aZ,cu]at h
 |[_,_],h=>simp[lP,aZ,cu]at h
 |k::s::v::r,h=>exact⟨r,rfl,by simp only[yl,pO];exact ax h⟩
def Nl {w:List au}{nd:List Nd}(h:lP (aZ w) (aZ (w.drop 1)) (aZ ((w.drop 1).drop 1))=false):yl w nd=none:=by
 match w,h with
 |[],h=>rfl
 |[_],h=>rfl
 |[_,_],h=>rfl
 |k::s::v::r,h=>simp only[yl,pO];exact ai (by rw[show lP k s v=false from h];simp)
def BY (w:List au)(nd:List Nd):PB w nd (w.drop 1) nd:=by
 have h:w.drop 1<:+w:=List.drop_suffix 1 w;have:=h.length_le;exact⟨this,ae,h⟩
def AE {w:List au}{nd:List Nd}{a:Int}{w':List au}{nd':List Nd}(h:yl w nd=some (a,w',nd')):PB w nd w' nd':=by
 match w,h with
 |k::r,h=>exact(oJ h).tX
def UD {w:List au}{nd:List Nd}(h1:fT w pB=false)(h2:fT w gw=false):jq w nd=yl w nd:=by
 match w,h1,h2 with
 |[],_,_=>rfl
 |k::r,h1,h2=>
  have h1:¬k=pB:=by simpa[fT]using h1
  have h2:¬k=gw:=by simpa[fT]using h2
  rw[wQ,ai h1,ai h2];rfl
def KH {R:PR}{o:PO}{w:List au}{nd:List Nd}(h:dK R w nd o)(hs:fT o.w kp=false):nP R=none:=by
 rcases h.1 with⟨h1,_⟩|⟨h1,_⟩
 .rw[h1]
  match ho:o.w,hs with
  |[],_=>rfl
  |x::r,hs=>simp only[nP];exact ai (by simpa[fT]using hs)
 .rw[h1];rfl
def Cr {r:List au}{nd:List Nd}{o:PO}(h:dK (ik r nd) r nd o)(hs:fT o.w kp=false):dK (jq (gw::r) nd) (gw::r) nd ⟨o.a,o.w,o.nd,true⟩:=
 ⟨.inr ⟨by rw[tx,KH h hs],rfl⟩,h.2.tX⟩
def LN {r:List au}{nd:List Nd}{o:PO}{q:List au}(h:dK (ik r nd) r nd o)(hs:o.w=kp::q):dK (jq (gw::r) nd) (gw::r) nd ⟨o.a,q,o.nd,o.bad⟩:=by
 refine⟨?_,(h.2.tX (x:=gw)).trans (by rw[hs];exact(PB.refl _ _).tX)⟩;rw[tx];rcases h.1 with⟨h1,h2⟩|⟨h1,h2⟩
 .grind [nP]
 .right;rw[h1];exact⟨rfl,h2⟩
def PB.Br {w w':List au}{nd nd':List Nd}{W:List au}(h:PB w nd w' nd')(hW:w<:+W):w'<:+W:=h.2.2.trans hW
def sj (f:Nat->Int):Nat->Nat->Int
 |_,0=>0
 |i,k+1=>if f i=0 then sj f (i+1) k else f i
def eJ (f:Nat->Int)(i n:Nat):Int:=sj f i (n-i)
def mI {f:Nat->Int}{i n:Nat}(h:i<n)(hf:f i=0):eJ f i n=eJ f (i+1) n:=by
 unfold eJ;obtain⟨k,hk⟩:∃k,n-i=k+1:=⟨n-i-1,ae⟩
 grind [sj]
def kN {f:Nat->Int}{i n:Nat}(h:i<n)(hf:f i≠0):eJ f i n=f i:=by
 unfold eJ;obtain⟨k,hk⟩:∃k,n-i=k+1:=⟨n-i-1,ae⟩
 rw[hk];simp only[sj,hf,br]
def mH {f:Nat->Int}{i n:Nat}(h:n<=i):eJ f i n=0:=by
 unfold eJ;rw[show n-i=0 by omega];rfl
def oR (f:Nat->Int):Nat->Nat->Int×Int
 |_,0=>(0,0)
 |i,k+1=>if f i=0 then oR f (i+1) k else(f i,((i:Nat):Int))
def gQ (f:Nat->Int)(i n:Nat):Int×Int:=oR f i (n-i)
def kM {f:Nat->Int}{i n:Nat}(h:i<n)(hf:f i=0):gQ f i n=gQ f (i+1) n:=by
 unfold gQ;obtain⟨k,hk⟩:∃k,n-i=k+1:=⟨n-i-1,ae⟩
 grind [oR]
def jr {f:Nat->Int}{i n:Nat}(h:i<n)(hf:f i≠0):gQ f i n=(f i,((i:Nat):Int)):=by
 unfold gQ;obtain⟨k,hk⟩:∃k,n-i=k+1:=⟨n-i-1,ae⟩
 rw[hk];simp only[oR,hf,br]
def kL {f:Nat->Int}{i n:Nat}(h:n<=i):gQ f i n=(0,0):=by
 unfold gQ;rw[show n-i=0 by omega];rfl
def eU (r:Rec)(name sZ:au):Int:=if du name=false then 4 else if name=r.name then 8 else if rp sZ=false then 6 else 0
def S9 (l:List au)(i:Nat):Bool:=cu l[i]! && !(decide (0<i)&& !Op.bytesLess l[i-1]! l[i]!)
def iS (l:List au)(alone:Bool):Bool:=(decide (l.length<=6)&&(alone ||decide (l.length=0)))&&cI (S9 l) 0 l.length
def iW (r:Rec)(w:cg)(alone:Bool):Int:=if eU r w.name w.range≠0 then eU r w.name w.range else if iS w.feats alone=false then 11 else 0
def lg (r:Rec)(l:List cg):Int:=eJ (fun i=>iW r l[i]! (decide ((l.length:Int)=1))) 0 l.length
def il (r:Rec)(n:bS):Int:=if n.any.length=0 then 9 else if 3<n.any.length then 3 else if lg r n.any≠0 then lg r n.any else
 if oZ n.when'=false then 7 else if n.option≠[]/\cu n.option=false then 14 else 0
def n4 (r:Rec)(b:iT):Int:=if eU r b.name b.range≠0 then eU r b.name b.range else if oZ b.when'=false then 7 else 0
def Eh (l:List bS)(x:au):Bool:=l.any fun n=>decide (n.option=x)
def vW (l:List bS)(x:au):Bool:=l.any fun n=>decide (n.any.length=1)&&decide (n.any[0]!.name=x)
def jh (r:Rec)(s:au):Int:=if(dd s).1=2/\Eh r.needs (dd s).2.1=false then 14 else if(dd s).1=3/\vW r.needs (dd s).2.1=false then 16 else 0
def j2 (r:Rec)(of:List au):Int:=eJ (fun i=>jh r of[i]!) 0 of.length
def kR (r:Rec):Int×Int:=gQ (fun i=>il r r.needs[i]!) 0 r.needs.length
def rT (r:Rec):Int×Int:=gQ (fun i=>n4 r r.bars[i]!) 0 r.bars.length
def sg (r:Rec):Int×Int:=gQ (fun i=>j2 r r.feats[i]!.of) 0 r.feats.length
def eg (r:Rec):Int×Int:=if(kR r).1≠0 then kR r else if(rT r).1≠0 then rT r else if gP r.feats=false then(11,0)else sg r
def Qb (n:Nat)(al:Bool):(decide ((6:Int)<(n:Nat)) ||(decide ((0:Int)<(n:Nat))&& !al))=!(decide (n<=6)&&(al ||decide (n=0))):=by
 grind
def ZV (l:List au)(i:Nat):(!cu l[i]! ||(decide ((0:Int)<(i:Nat))&& !Op.bytesLess l[i-1]! l[i]!))=!S9 l i:=by
 unfold S9
 grind
def wf_2 (l:List au)(al:Bool):(cI (fun i=>cu l[i]!) 0 l.length&&((decide (l.length<=6)&&rising l)&&(al ||decide (l.length=0))))=iS l al:=by
 grind [cI,S9,cu,rising,eo,iS]
def Y6 (k:Int)(x:au)(n:bS):Bool:=(decide (k=2)&&decide (n.option=x)) ||((decide (k=3)&&decide ((n.any.length:Int)=1))&&decide (n.any[0]!.name=x))
def UQ (k:Int):Int:=if k=2 then 14 else if k=3 then 16 else 0
def Oi (r:Rec)(s:au):jh r s=if r.needs.any (Y6 (dd s).1 (dd s).2.1)=true then 0 else UQ (dd s).1:=by
 grind [jh,UQ,Eh,vW,dd,Y6]
def BL {α:Type} [Inhabited α]{c:α->Bool}{l:List α}{i:Nat}(h:i<l.length)(hc:c l[i]! =true):(l.drop i).any c=true:=by
 rw[kW h,List.any_cons]
 grind
def FU {α:Type} [Inhabited α]{c:α->Bool}{l:List α}{i:Nat}(h:i<l.length)(hc:c l[i]! =false):(l.drop i).any c=(l.drop (i+1)).any c:=by
 rw[kW h,List.any_cons]
 grind
def BK {α:Type}{c:α->Bool}{l:List α}{i:Nat}(h:l.length<=i):(l.drop i).any c=false:=by
 rw[nr h];rfl
def ko:au:=[110,101,101,100]
def kB:au:=[97,110,121]
def ir:au:=[119,104,101,110]
def eQ:au:=[111,112,116,105,111,110]
def jO:au:=[98,97,114]
def dC:au:=[102,101,97,116,117,114,101]
def jk:au:=[112,97,99,107,97,103,101]
def jH:au:=[102,117,108,108]
def iV:au:=[98,97,114,101]
def bV (l:List au):au:=aT [32] l++[10]
def iv (w:cg):List au:=[kB,w.name,if w.feats.length=0 then [45]else aT [44] w.feats,if w.bare=true then iV else jH,w.range]
def gI (s:au):au:=if s=[]then []else bV [ir,s]
def pG (s:au):au:=if s=[]then []else bV [eQ,s]
def ow (n:bS):au:=bV [ko]++(n.any.map fun w=>bV (iv w)).flatten++gI n.when'++pG n.option
def tf (b:iT):au:=bV [jO,b.name,b.range]++gI b.when'
def pw (f:bW):au:=bV ([dC,f.name]++f.of)
def py (r:Rec):au:=bV [jk,r.name,jN r.v]
def fq (r:Rec):au:=py r++(r.needs.map ow).flatten++(r.bars.map tf).flatten++(r.feats.map pw).flatten
def cw (r:Rec):Int×Int:=if du r.name=false then(4,0)else if eH r.v=false then(5,0)else if 8<r.needs.length\/8<r.bars.length then(3,0)else
 if(eg r).1≠0 then eg r else if 4096<(fq r).length then(3,0)else(0,0)
def cL (r:Rec):au×Int:=if(cw r).1≠0 then([],(cw r).1)else(fq r,0)
def cg.sm (w:cg):Prop:=(w.name.length<=1048576/\w.range.length<=1048576)/\∀t∈w.feats,t.length<=1048576
def bS.sm (n:bS):Prop:=(∀w∈n.any,w.sm)/\n.when'.length<=1048576/\n.option.length<=1048576
def iT.sm (b:iT):Prop:=b.name.length<=1048576/\b.range.length<=1048576/\b.when'.length<=1048576
def ew (r:Rec):Prop:=(r.name.length<=1048576/\r.v.sm)/\(∀n∈r.needs,n.sm)/\(∀b∈r.bars,b.sm)/\wR r.feats
def Ej {r:Rec}{e:Int×Int}(h:kR r=e)(hn:e.1≠0):eg r=e:=by grind [eg]
def y5 {r:Rec}{e:Int×Int}(h0:kR r=(0,0))(h:rT r=e)(hn:e.1≠0):eg r=e:=by grind [eg]
def Ek {r:Rec}(h0:kR r=(0,0))(h1:rT r=(0,0))(h:gP r.feats=false):eg r=(11,0):=by grind [eg]
def qk {r:Rec}{e:Int×Int}(h0:kR r=(0,0))(h1:rT r=(0,0))(h:gP r.feats=true)(h2:sg r=e):eg r=e:=by grind [eg]
def DB (f:Nat->Int):∀(k i:Nat),(oR f i k).1=0->oR f i k=(0,0)
 |0,_,_=>rfl
 |k+1,i,h=>by
  simp only[oR]at h⊢;by_cases hf:f i=0
  .rw[ax hf]at h⊢;exact DB f k (i+1) h
  .rw[ai hf]at h;exact absurd h hf
def El {r:Rec}(h:(eg r).1=0):eg r=(0,0):=by
 unfold eg at h⊢;split
 .rename_i h1;rw[ax h1]at h;exact absurd h h1
 .rename_i h1;rw[ai h1]at h;split
  .rename_i h2;rw[ax h2]at h;exact absurd h h2
  .rename_i h2;rw[ai h2]at h;split
   .rename_i h3;rw[ax h3]at h;cases h
   .rename_i h3;rw[ai h3]at h;exact DB _ _ _ h
def n7 {r:Rec}{e:Int×Int}(h0:du r.name=true)(h1:eH r.v=true)(h2:¬8<r.needs.length)(h3:¬8<r.bars.length)(hp:eg r=e)(hn:e.1≠0):cw r=e:=by
 grind [cw]
def pS {r:Rec}(h0:du r.name=true)(h1:eH r.v=true)(h2:¬8<r.needs.length)(h3:¬8<r.bars.length)(hp:eg r=(0,0)):cw r=if 4096<(fq r).length then(3,0)else(0,0):=by
 grind [cw]
def vQ (r:Rec):Prop:=(du r.name=true/\eH r.v=true)/\(r.needs.length<=8/\r.bars.length<=8)/\eg r=(0,0)
def NG (n:Nat)(l:List au):List au:=if l.length<=n then l else l.take (n-1)++[aT [32] (l.drop (n-1))]
def kr (n:Nat)(op:Bool)(t:au):List au:=if op=true then NG n (aq t 32)else aq t 32
def lE (w:au)(n:Nat)(op:Bool)(t:au):Option (List au):=
 if(kr n op t)[0]! =w/\(n=0\/(kr n op t).length=n)/\[]∉kr n op t then some (kr n op t)else none
def fI (w:au)(n:Nat)(op:Bool):List au->Option (List au×List au)
 |[]=>none
 |t::r=>match lE w n op t with
  |some l=>some (l,r)
  |none=>none
def mj (ls:List au):au×List au:=match fI ir 2 true ls with
 |some (l,r)=>(l[1]!,r)
 |none=>([],ls)
def H3 (l:List au):Bool:=decide (l[3]! =iV) ||decide (l[3]! =jH)
def Hy (l:List au):cg:=⟨l[1]!,l[4]!,if l[2]! =[45]then []else aq l[2]! 44,decide (l[3]! =iV)⟩
def eR:List au->List cg×List au
 |[]=>([],[])
 |t::r=>match lE kB 5 true t with
  |some l=>if H3 l=true then(Hy l::(eR r).1,(eR r).2)else([],t::r)
  |none=>([],t::r)
def GV (ls:List au):au×List au:=match fI eQ 2 false ls with
 |some (l,r)=>(l[1]!,r)
 |none=>([],ls)
def rY (ls:List au):bS×List au:=(⟨(eR ls).1,(mj (eR ls).2).1,(GV (mj (eR ls).2).2).1⟩,(GV (mj (eR ls).2).2).2)
def qg:Nat->List au->List bS×List au
 |0,ls=>([],ls)
 |f+1,ls=>match fI ko 1 false ls with
  |some (_,r)=>((rY r).1::(qg f (rY r).2).1,(qg f (rY r).2).2)
  |none=>([],ls)
def vF:Nat->List au->List iT×List au
 |0,ls=>([],ls)
 |f+1,ls=>match fI jO 3 true ls with
  |some (l,r)=>(⟨l[1]!,l[2]!,(mj r).1⟩::(vF f (mj r).2).1,(vF f (mj r).2).2)
  |none=>([],ls)
def ux:List au->List bW×List au
 |[]=>([],[])
 |t::r=>match lE dC 0 false t with
  |some l=>if 2<=l.length then(⟨l[1]!,l.drop 2⟩::(ux r).1,(ux r).2)else([],t::r)
  |none=>([],t::r)
def RY:Rec:=⟨[],rN,[],[],[]⟩
def na (ls:List au):List bS×List au:=qg ls.length ls
def rU (ls:List au):List iT×List au:=vF ls.length ls
def HO (nm:au)(v:c9)(r:List au):Rec×List au:=(⟨nm,v,(na r).1,(rU (na r).2).1,(ux (rU (na r).2).2).1⟩,(ux (rU (na r).2).2).2)
def RX (ls:List au):Option (Rec×List au):=match fI jk 3 false ls with
 |some (l,r)=>match Sb l[2]! with
  |some v=>some (HO l[1]! v r)
  |none=>none
 |none=>none
theorem mQ {w:au}{n:Nat}{op:Bool}{ls l r:List au}(h:fI w n op ls=some (l,r)):r.length+1=ls.length:=by
 match ls,h with
 |t::q,h=>
  grind [fI]
 |[],h=>cases h
theorem vw (ls:List au):(mj ls).2.length<=ls.length:=by
 grind [mj,mQ]
def OX (ls:List au):(GV ls).2.length<=ls.length:=by
 grind [GV,mQ]
def wh:∀ls:List au,(eR ls).2.length<=ls.length
 |[]=>aS _
 |t::r=>by
  have:=wh r
  grind [eR]
theorem A0 (ls:List au):(rY ls).2.length<=ls.length:=by
 have h1:=wh ls;have h2:=vw (eR ls).2;have h3:=OX (mj (eR ls).2).2;show(GV (mj (eR ls).2).2).2.length<=_;omega
theorem A1:∀(f g:Nat) (ls:List au),ls.length<=f->ls.length<=g->qg f ls=qg g ls
 |0,0,_,_,_=>rfl
 |0,g+1,ls,h,_=>by
  have:ls=[]:=sW.1 ae;subst this;rfl
 |f+1,0,ls,_,h=>by
  have:ls=[]:=sW.1 ae;subst this;rfl
 |f+1,g+1,ls,hf,hg=>by
  simp only[qg];cases h:fI ko 1 false ls with
  |none=>rfl
  |some p=>
   obtain⟨l,r⟩:=p;have h1:=mQ h;have h2:=A0 r;simp only;rw[A1 f g _ ae ae]
theorem Dp:∀(f g:Nat) (ls:List au),ls.length<=f->ls.length<=g->vF f ls=vF g ls
 |0,0,_,_,_=>rfl
 |0,g+1,ls,h,_=>by
  have:ls=[]:=sW.1 ae;subst this;rfl
 |f+1,0,ls,_,h=>by
  have:ls=[]:=sW.1 ae;subst this;rfl
 |f+1,g+1,ls,hf,hg=>by
  simp only[vF];cases h:fI jO 3 true ls with
  |none=>rfl
  |some p=>
   obtain⟨l,r⟩:=p;have h1:=mQ h;have h2:=vw r;simp only;rw[Dp f g _ ae ae]
def D9 {ls l r:List au}(h:fI ko 1 false ls=some (l,r)):na ls=((rY r).1::(na (rY r).2).1,(na (rY r).2).2):=by
 grind [mQ,A0,na,qg,A1,rY]
def D8 {ls:List au}(h:fI ko 1 false ls=none):na ls=([],ls):=by
 unfold na
 match ls,h with
 |[],_=>rfl
 |t::r,h=>simp only[az,qg,h]
def FZ {ls l r:List au}(h:fI jO 3 true ls=some (l,r)):rU ls=(⟨l[1]!,l[2]!,(mj r).1⟩::(rU (mj r).2).1,(rU (mj r).2).2):=by
 grind [mQ,vw,rU,vF,Dp,mj]
def FY {ls:List au}(h:fI jO 3 true ls=none):rU ls=([],ls):=by
 unfold rU
 match ls,h with
 |[],_=>rfl
 |t::r,h=>simp only[az,vF,h]
structure RdS where
 r:Rec
 st:Nat
 deriving Inhabited
def eqBb (a b:Bool):iC (D.bool a).cells (D.bool b).cells=decide (a=b):=by cases a<;>cases b<;>rfl
def yq {f:Nat->Int}:∀{k i:Nat},sj f i k=0->∀j,i<=j->j<i+k->f j=0
 |0,i,_,j,h1,h2=>absurd h2 ae
 |k+1,i,h,j,h1,h2=>by
  simp only[sj]at h;by_cases hf:f i=0
  .rw[ax hf]at h;by_cases hj:j=i
   .rw[hj];exact hf
   .exact yq h j ae ae
  .rw[ai hf]at h;exact absurd h hf
def Gf {f:Nat->Int}{n:Nat}(h:eJ f 0 n=0)(j:Nat)(hj:j<n):f j=0:=yq h j ae ae
def yr {f:Nat->Int}:∀{k i:Nat},(oR f i k).1=0->∀j,i<=j->j<i+k->f j=0
 |0,i,_,j,h1,h2=>absurd h2 ae
 |k+1,i,h,j,h1,h2=>by
  simp only[oR]at h;by_cases hf:f i=0
  .rw[ax hf]at h;by_cases hj:j=i
   .rw[hj];exact hf
   .exact yr h j ae ae
  .rw[ai hf]at h;exact absurd h hf
def Ge {f:Nat->Int}{n:Nat}(h:(gQ f 0 n).1=0)(j:Nat)(hj:j<n):f j=0:=yr h j ae ae
def cg.fit (w:cg):Prop:=w.sm/\(w.feats.length<=6/\∀t∈w.feats,t.length<=12)
def bS.fit (n:bS):Prop:=(n.any.length<=3/\∀w∈n.any,w.fit)/\n.when'.length<=1048576/\n.option.length<=1048576
def bW.fit (x:bW):Prop:=x.sm/\x.of.length<=6
structure Rec.fit (r:Rec):Prop where
 nm:r.name.length<=1048576
 v:r.v.sm
 ns:r.needs.length<=8
 n:∀x∈r.needs,x.fit
 bs:r.bars.length<=8
 b:∀x∈r.bars,x.sm
 fs:r.feats.length<=8
 f:∀x∈r.feats,x.fit
theorem wY {α:Type} [Inhabited α]{l:List α}{x:α}(h:x∈l):∃i,i<l.length/\l[i]! =x:=by
 obtain⟨i,hi,e⟩:=List.mem_iff_getElem.1 h;exact⟨i,hi,by rw[<-e];simp[hi]⟩
def Qd {r:Rec}{w:cg}{al:Bool}(h:iW r w al=0)(hs:w.sm):w.fit:=by
 refine⟨hs, ?_⟩
 grind [iW,iS,eo,wY,S9,cu]
def OG {r:Rec}{n:bS}(h:il r n=0)(hs:n.sm):n.fit:=by
 unfold il at h;split at h
 .cases h
 split at h
 .cases h
 rename_i h1 h2;split at h
 .rename_i h3;exact absurd h h3
 rename_i h3;refine⟨⟨ae,fun w hw=>?_⟩,hs.2⟩;obtain⟨i,hi,rfl⟩:=wY hw;exact Qd (Gf (Classical.not_not.1 h3) i hi) (hs.1 _ hw)
def rb {r:Rec}(h:vQ r/\ew r):r.fit:=by
 obtain⟨⟨_,⟨h1,h2⟩,hp⟩,⟨s1,s2⟩,s3,s4,s5⟩:=h;have h0:(kR r).1=0/\gP r.feats=true:=by
  grind [eg]
 obtain⟨h3,h4⟩:=h0;simp only[gP,bp,aY,eo]at h4;refine⟨s1,s2,h1,fun x hx=>?_,h2,s4,h4.1,fun x hx=>⟨s5 x hx, ?_⟩⟩
 .obtain⟨i,hi,rfl⟩:=wY hx;exact OG (Ge h3 i hi) (s3 _ hx)
 grind [wY,ja,kO]
def mL (x:UInt8)(B:Nat):∀l:List au,(∀t∈l,t.length<=B)->(aT [x] l).length<=l.length*(B+1)
 |[],_=>by simp[aT]
 |[t],h=>by have:=h t (.head _);simp only[aT,az,aC];omega
 |t::u::r,h=>by
  have h1:=h t (.head _);have h2:=mL x B (u::r) fun y hy=>h y (.tail _ hy)
  simp only[aT,bJ,az,aC,Nat.succ_mul]at h2⊢;omega
def zF {w:cg}(h:w.fit):(aT [44] w.feats).length<=6291462:=by
 have h1:=mL 44 1048576 w.feats h.1.2;have h2:=eM (1048576+1) h.2.1;omega
def CZ {w:cg}(h:w.fit):(aT [44] w.feats).length<=78:=by
 have h1:=mL 44 12 w.feats h.2.2;have h2:=eM (12+1) h.2.1;omega
def iX (w:cg):au:=bV (iv w)
def vy {w:cg}(h:w.fit):(iX w).length<=8400000:=by
 have h1:=zF h;have h2:=h.1.1;simp only[iX,bV,iv,aT,bJ,az,aC]
 grind [kB,iV,jH]
def mU {s:au}(h:s.length<=1048576):(gI s).length<=1048590:=by
 unfold gI;split
 .simp
 .simp only[bV,aT,ir,bJ,az,aC];omega
def OZ {s:au}(h:s.length<=1048576):(pG s).length<=1048590:=by
 unfold pG;split
 .simp
 .simp only[bV,aT,eQ,bJ,az,aC];omega
def tA {α:Type}(q:α->au)(B:Nat){l:List α}(h:∀x∈l,(q x).length<=B)(i:Nat):(((l.take i).map q).flatten).length<=i*B:=by
 have h1:=p0 q B (l.take i) fun x hx=>h x (qP hx)
 have h2:=eM B (List.length_take_le i l);omega
theorem q9 {α:Type} [Inhabited α](q:α->au){l:List α}{i:Nat}(h:i<l.length):((l.take (i+1)).map q).flatten=((l.take i).map q).flatten++q l[i]! :=by
 rw[List.take_add_one,List.getElem?_eq_getElem h,List.map_append,List.flatten_append];simp[h]
def LB {n:bS}(h:n.fit):(ow n).length<=27400000:=by
 have h1:=p0 iX 8400000 n.any fun w hw=>vy (h.1.2 w hw)
 have h2:=eM 8400000 h.1.1;have h3:=mU h.2.1;have h4:=OZ h.2.2;have h5:(bV [ko]).length=5:=rfl;unfold iX at h1
 grind [ow]
def Ns {b:iT}(h:b.sm):(tf b).length<=3145800:=by
 have h1:=mU h.2.2;have h2:=h.1;have h3:=h.2.1;simp only[tf,bV,aT,jO,bJ,az,aC];omega
def AF {x:bW}(h:x.fit):(pw x).length<=8400000:=by
 have h1:=mL 32 1048576 ([dC,x.name]++x.of) (by
  intro t ht;simp only[eN,eS,bZ]at ht;rcases ht with rfl|rfl|ht
  .simp[dC]
  .exact h.1.1
  .exact h.1.2.2 _ ht)
 have h2:=h.2
 grind [dC,pw,bV]
def Lc {r:Rec}(h1:r.name.length<=1048576)(h2:r.v.sm):(py r).length<=3145800:=by
 have h3:=zD r.v h2;simp only[py,bV,aT,jk,bJ,az,aC];omega
def dG (n:bS)(j:Nat):au:=bV [ko]++((n.any.take j).map iX).flatten
def RB (n:bS):dG n 0=[110,101,101,100,10]:=rfl
def m8 {n:bS}{j:Nat}(h:j<n.any.length):dG n (j+1)=dG n j++iX n.any[j]! :=by grind [dG,q9,iX]
def uO {n:bS}{j:Nat}(h:n.any.length<=j):ow n=dG n j++gI n.when'++pG n.option:=by
 rw[dG,dM h];rfl
def AZ {n:bS}(h:n.fit)(j:Nat)(hj:j<=3):(dG n j).length<=25200005:=by
 have h1:=tA iX 8400000 (fun w hw=>vy (h.1.2 w hw)) j;have h2:=eM 8400000 hj;have h5:(bV [ko]).length=5:=rfl
 grind [dG]
def jS (r:Rec)(i:Nat):au:=py r++((r.needs.take i).map ow).flatten
def zA (r:Rec)(i:Nat):au:=jS r r.needs.length++((r.bars.take i).map tf).flatten
def By (r:Rec)(i:Nat):au:=zA r r.bars.length++((r.feats.take i).map pw).flatten
def P6 (r:Rec):jS r 0=py r:=by simp[jS]
def P7 (r:Rec):zA r 0=jS r r.needs.length:=by simp[zA]
def P8 (r:Rec):By r 0=zA r r.bars.length:=by simp[By]
def CU (r:Rec):By r r.feats.length=fq r:=by grind [By,zA,jS,fq]
def lI {r:Rec}{i:Nat}(h:i<r.needs.length):jS r (i+1)=jS r i++ow r.needs[i]! :=by grind [jS,q9,ow]
def Fa {r:Rec}{i:Nat}(h:i<r.bars.length):zA r (i+1)=zA r i++tf r.bars[i]! :=by grind [zA,q9,tf]
def Fc {r:Rec}{i:Nat}(h:i<r.feats.length):By r (i+1)=By r i++pw r.feats[i]! :=by grind [By,q9,pw]
def CR {r:Rec}(h:r.fit)(i:Nat)(hi:i<=r.needs.length):(jS r i).length<=222400000:=by
 have a0:=Lc h.nm h.v;have a1:=tA ow 27400000 (fun x hx=>LB (h.n x hx)) i;have b1:=eM 27400000 (cT hi h.ns);simp only[jS,bJ];omega
def CS {r:Rec}(h:r.fit)(i:Nat)(hi:i<=r.bars.length):(zA r i).length<=247600000:=by
 have a0:=CR h r.needs.length (aS _);have a1:=tA tf 3145800 (fun x hx=>Ns (h.b x hx)) i;have b1:=eM 3145800 (cT hi h.bs);simp only[zA,bJ];omega
def I7 {r:Rec}(h:r.fit)(i:Nat)(hi:i<=r.feats.length):(By r i).length<=314800000:=by
 have a0:=CS h r.bars.length (aS _);have a1:=tA pw 8400000 (fun x hx=>AF (h.f x hx)) i;have b1:=eM 8400000 (cT hi h.fs);simp only[By,bJ];omega
theorem lj {r:Rec}(h:(cw r).1=0):vQ r:=by
 unfold cw at h;split at h
 .cases h
 split at h
 .cases h
 split at h
 .cases h
 rename_i a b c;split at h
 .rename_i d;exact absurd h d
 rename_i d;exact⟨⟨by simpa using a,by simpa using b⟩,⟨ae,ae⟩,El (Classical.not_not.1 d)⟩
def ju (r:Rec):Int:=if(cL r).2≠0 then 0 else E2 (cL r).1
structure Ld where
 ls:List au
 at':Nat
 deriving Inhabited,DecidableEq
def Ld.D (r:Ld):D:=.agg [.sl 1 (r.ls.map D.str),.int .i64 (r.at':Nat)]
def Ld.rest (r:Ld):List au:=r.ls.drop r.at'
def Ld.sm (r:Ld):Prop:=(r.at'<=r.ls.length/\r.ls.length<=1048577)/\∀t∈r.ls,t.length<=1048576
def Ld.to (r:Ld)(q:List au):Ld:=⟨r.ls,r.ls.length-q.length⟩
def Ld.after (r:Ld)(o:Option (List au×List au)):Ld:=match o with
 |none=>r
 |some _=>⟨r.ls,r.at'+1⟩
def drop_one {α:Type} [Inhabited α]{l:List α}{n:Nat}(h:l.length=n+1):l.drop n=[l[n]!]/\l=l.take n++[l[n]!]:=by
 have h1:l.drop n=[l[n]!]:=by
  rw[kW ae,nr ae];simp[show n<l.length by omega]
 exact⟨h1,by rw[<-h1,List.take_append_drop]⟩
def anyL (t:au):Option (List au):=match lE kB 5 true t with
 |some l=>if H3 l=true then some l else none
 |none=>none
def No (p:au->Option (List au))(ls:List au):Prop:=∀t r,ls=t::r->p t=none
theorem yR {w:au}{n:Nat}{op:Bool}{ls l r:List au}(h:fI w n op ls=some (l,r)):∃t,ls=t::r/\lE w n op t=some l:=by
 match ls,h with
 |[],h=>cases h
 |t::q,h=>
  grind [fI]
def Stop (s:Nat)(ls:List au):Prop:=(s=2->No anyL ls/\No (lE ir 2 true) ls)/\(s=2\/s=3->No (lE eQ 2 false) ls)/\(s=5->No (lE ir 2 true) ls)
def rO (m:List (Nat×bG))(l:Nat)(t:List UInt8):Prop:=(∃u,look m l=some (.bld none 0 u)/\t=[])\/(∃l2 u,look m l=some (.bld (some l2) t.length u)/\look m l2=some (.row t))
@[go_sem] def fu (m:List (Nat×bG))(l:Nat):List (Nat×bG):=match look m l with
 |some (.bld (some l2) _ _)=>dy m l2
 |_=>m
@[go_sem] def pQ (m:List (Nat×bG))(l L:Nat)(t:List UInt8):List (Nat×bG):=(L,.row t)::dE (fu m l) l (.bld (some L) t.length true)
def TrW (ai9:D)(s:List UInt8)(ds:List D)(st:St)(K:D->St->Prop):Prop:=∃l t,ds=[.ptr l 2 0 0,ai9]/\rO st.m l t/\l<st.nx/\s≠[]/\t.length+s.length<=1099511627776/\K .any ⟨st.nx+1,pQ st.m l st.nx (t++s)⟩
def Zx (ds:List D)(st:St)(K:D->St->Prop):Prop:=∃s,TrW (.str s) s ds st K
def Zw (ds:List D)(st:St)(K:D->St->Prop):Prop:=∃c,TrW (.int .u8 c.toNat) [c] ds st K
def Zv (ds:List D)(st:St)(K:D->St->Prop):Prop:=∃l t,ds=[.ptr l 2 0 0]/\rO st.m l t/\t≠[]/\K (.str t) ⟨st.nx,dy (fu st.m l) l⟩
def Qz (Y:Ctx):Prop:=∀(ds:List D) (st:St) (K:D->St->Prop),Zx ds st K->Y.tr 489 ds st K
def TG (Y:Ctx):Prop:=∀(ds:List D) (st:St) (K:D->St->Prop),Zw ds st K->Y.tr 664 ds st K
def Qv (Y:Ctx):Prop:=∀(ds:List D) (st:St) (K:D->St->Prop),Zv ds st K->Y.tr 452 ds st K
def Li (b a:au)(l:List au)(h:a≠[]):aT b (a::l)≠[]:=by
 match l with
 |[]=>exact h
 |c::r=>
  rw[gS b a (c::r) aQ];intro e;have:=List.append_eq_nil_iff.1 e;exact h (List.append_eq_nil_iff.1 this.1).1
def BJ (ws:List au)(t:au):Prop:=(aT [32] ws≠[]/\ws.length<=1048600)/\(∀w∈ws,w.length<=2097200)/\t.length+(aT [32] ws).length+1<=1099511627776
def BJ.mk {a:au}{l:List au}{t:au}(h1:a≠[])(h2:l.length<=99)(h3:∀w∈a::l,w.length<=2097200)(h4:t.length<=1000000000):BJ (a::l) t:=by
 have h5:=mL 32 2097200 (a::l) h3;have h6:(a::l).length<=100:=by simp only[az];omega
 have h7:=eM (2097200+1) h6;exact⟨⟨Li _ _ _ h1,ae⟩,h3,ae⟩
def Tu (Y:Ctx):Prop:=∀(ws:List au) (t:au) (l lw nx:Nat) (m:List (Nat×bG)) (K:D->St->Prop),rO m l t->look m lw=some (.buf 1 (ws.map D.str))->l<nx->lw<nx->BJ ws t->
 K (.tup []) ⟨nx+1,pQ (dy m lw) l nx (t++bV ws)⟩->Y.tr 450 [.ptr l 2 0 0,.own lw 1 0 ws.length] ⟨nx,m⟩ K
def uM {m:List (Nat×bG)}{l L:Nat}{t:List UInt8}(h:l≠L):look (pQ m l L t) l=some (.bld (some L) t.length true)/\look (pQ m l L t) L=some (.row t):=by
 constructor
 .simp only[pQ,look,ai (fun e=>h (Eq.symm e))]
  haveI:dt:={gd:=fun _=>True,le:=fun _ _ _ _ _=>trivial}
  rw[cy,ax rfl]
 .simp only[pQ,look,ax]
def QP {m:List (Nat×bG)}{l L:Nat}{t:List UInt8}(h:l≠L):rO (pQ m l L t) l t:=.inr ⟨L,true,uM h⟩
end Go.Abs
section
namespace Go.Abs
variable {Y:Ctx}(hm:(Y.at 0).bU)
def ah {p:Prop}(h:p:=by exact rfl):p:=h
def nW {p:Prop}(h:p:=by repeat(first|exact dn.nil|refine dn.un ?_|refine dn.eq bg ?_)):p:=h
def dW {p:Prop}(h:p:=by first|exact rfl|exact bH (fun _=>rfl) _):p:=h
def dV {p:Prop}(h:p:=by repeat(first|exact dn.nil|refine dn.un ?_|refine dn.eq bg ?_|refine dn.nl bg bg ?_)):p:=h
def gu {p:Prop}(h:p:=by repeat' first|exact trivial|exact rfl|refine And.intro ?_ ?_):p:=h
def Af {p:Prop}(h:p:=by repeat' first|exact trivial|exact rfl|exact aS _|refine And.intro ?_ ?_):p:=h
def qt {p:Prop}(h:p:=by repeat(first|exact bh.nil|refine bh.gE bg bg (by first|exact rfl|exact bH (fun _=>rfl) _) ?_|refine bh.C9 bg bg bg ?_|refine bh.idi bg bg bg bg ?_)):p:=h
def b0 {p:Prop} [Decidable p]:(decide p=true)=p:=aY
def b1 {p:Prop} [Decidable p]:decide p=false↔¬p:=bA
def b2 (b:Bool):((!b)=true)=(b=false):=bK b
def b3 (b:Bool):((!b)=false)=(b=true):=ct b
def b4 (b:Bool):(¬(b=false))=(b=true):=Bool.not_eq_false b
def b5 (a b:Bool):((a ||b)=true)=(a=true\/b=true):=c8 a b
end Go.Abs
namespace Go.Abs
variable {Y:Ctx}(hm:(Y.at 0).bU)
abbrev cZ (Y:Ctx)(a:aD)(d:D)(ds:List D):Prop:=bB (Y.at 0) a.body (Ul a d) (fM a ds) ⟨0,[]⟩
def bE {a:aD}{d d2:D}{e:Ex}{nx:Nat}{m:List (Nat×bG)}{env:List bL}(h:d2=d)(he:e.home:=by exact trivial)(h1:sK m env a.res:=by exact Af)(h2:BH a env m:=by exact gu)(h3:MK a env m=d2:=by exact rfl):Ul a d e env ⟨nx,m⟩:=Vz he h1 h2 (h3.trans h)
def bQ {a:aD}{d d2:Bool}{e:Ex}{nx:Nat}{m:List (Nat×bG)}{env:List bL}(h:d2=d)(he:e.home:=by exact trivial)(h1:sK m env a.res:=by exact Af)(h2:BH a env m:=by exact gu)(h3:MK a env m=.bool d2:=by exact rfl):Ul a (.bool d) e env ⟨nx,m⟩:=bE (ar _ h) he h1 h2 h3
def cG {a:aD}{d d2:List UInt8}{e:Ex}{nx:Nat}{m:List (Nat×bG)}{env:List bL}(h:d2=d)(he:e.home:=by exact trivial)(h1:sK m env a.res:=by exact Af)(h2:BH a env m:=by exact gu)(h3:MK a env m=.str d2:=by exact rfl):Ul a (.str d) e env ⟨nx,m⟩:=bE (ar _ h) he h1 h2 h3
def cN {a:aD}{d d2:Int}{e:Ex}{nx:Nat}{m:List (Nat×bG)}{env:List bL}(h:d2=d)(he:e.home:=by exact trivial)(h1:sK m env a.res:=by exact Af)(h2:BH a env m:=by exact gu)(h3:MK a env m=.int .i64 d2:=by exact rfl):Ul a (.int .i64 d) e env ⟨nx,m⟩:=bE (ar _ h) he h1 h2 h3
def dF {lo c nx nx2:Nat}{env env2:List bL}{m m2:List (Nat×bG)}(σ:List (Nat×Nat))(hc:nx2=c:=by exact ah)(h:ix lo c σ=true:=by exact ah)(he:dn lo σ env env2:=by exact dV)(hm:bh lo c σ m m2:=by exact qt):aU lo env ⟨nx,m⟩ env2 ⟨nx2,m2⟩:=aU.to σ hc h he hm
def fh {Y:Ctx}{draw f:Bool}{r:List GI}{env rs:List bL}{nx:Nat}{m:List (Nat×bG)}{K:List bL->St->Prop}{g:Option (Nat×Bool)}{x y:Src}{fx fy:Bool}{a b:List UInt8}(h:aK Y draw r env (⟨f,.str (a++b)⟩::rs) nx m K)(hg:GF rs g f:=by first|exact rfl|exact⟨_,_,rfl,rfl⟩)(hx:cx env rs x=⟨fx,.str a⟩:=by exact rfl)(hy:cx env rs y=⟨fy,.str b⟩:=by exact rfl)(kx:f=true->fx=true:=by first|exact fun _=>rfl|exact fun h=>h|(intro h;simp_all))(ky:f=true->fy=true:=by first|exact fun _=>rfl|exact fun h=>h|(intro h;simp_all))(hb:f=true->a.length+b.length<=9223372036854775807:=by intro _;simp only[bJ,az,aC];omega):aK Y draw (⟨.bin .add x y,g⟩::r) env rs nx m K:=cP h hg hx hy kx ky hb
end Go.Abs
namespace Go.Abs
variable {Y:Ctx}(hm:(Y.at 0).bU)
def fj {lo c l:Nat}{σ:List (Nat×Nat)}{m r:List (Nat×bG)}{b:bG}(h:bh lo c σ m r)(hh:bh lo c σ m [(l,b)]:=by(first|refine bh.gE bg bg (by first|exact rfl|exact bH (fun _=>rfl) _) ?_|refine bh.C9 bg bg bg ?_|refine bh.idi bg bg bg bg ?_)<;>exact bh.nil):bh lo c σ m ((l,b)::r):=⟨hh.1,h⟩
end Go.Abs
namespace Go.Abs
variable {Y:Ctx}(hm:(Y.at 0).bU)
section
variable {Y:Ctx} {Q:Ex->List bL->St->Prop}
def cmN {env rs:List bL}:Ny env rs []=env:=rfl
def cmC {s p:Nat}{r:List (Nat×Nat)}{env rs env1 env':List bL}{f:Bool}{d:D}(e:cx [] rs (.l p)=⟨f,d⟩)(hs:env.set s ⟨f,d⟩=env1)(h:Ny env1 rs r=env'):Ny env rs ((s,p)::r)=env':=by
 simp only[Ny,e,hs,h]
def rrrg {draw:Bool}{cm:List (Nat×Nat)}{b:AC}{nx nx':Nat}{m:List (Nat×bG)}{rs env fM env':List bL}(h:bB Y b Q env' ⟨nx',m⟩)
  (he:Ny env rs cm=env':=by repeat(first|apply cmC bg (by simp only[List.set_cons_zero,List.set_cons_succ];exact rfl)|with_reducible exact cmN)) (hn:nx+rs.length=nx':=by simp only[az,aC,Nat.reduceAdd];exact rfl):aK Y draw [] fM rs nx m (fun vs st'=>bB Y b Q (ie env vs cm) st'):=
 RZ h he hn
def rrrh {draw:Bool}{cm:List (Nat×Nat)}{nx nx':Nat}{m:List (Nat×bG)}{rs env fM env':List bL}(h:Q .normal env' ⟨nx',m⟩)
  (he:Ny env rs cm=env':=by repeat(first|apply cmC bg (by simp only[List.set_cons_zero,List.set_cons_succ];exact rfl)|with_reducible exact cmN)) (hn:nx+rs.length=nx':=by simp only[az,aC,Nat.reduceAdd];exact rfl):aK Y draw [] fM rs nx m (fun vs st'=>Q .normal (ie env vs cm) st'):=
 R0 h he hn
end
def Fam (_:Prop):Type:=Unit
def vM {q:Prop}:Fam q:=()
structure Hid (q:Prop)(f:Fam q):Prop where
 val:q
section
variable {Y:Ctx} {draw b1:Bool} {r:List GI} {env rs:List bL} {nx n0 n1:Nat} {m:List (Nat×bG)} {K:List bL->St->Prop} {g:Option (Nat×Bool)} {x0 x1 x2:Src}
def tg0 {Y:Ctx}{a:AC}{Q:Ex->List bL->St->Prop}{env:List bL}{st:St}(h:bB Y a Q env st):bB Y a Q env st:=h
def tg1 (h:aK Y draw (⟨.mv x0,g⟩::r) env rs nx m K):aK Y draw (⟨.mv x0,g⟩::r) env rs nx m K:=h
def tg2 (h:aK Y draw [] env rs nx m K):aK Y draw [] env rs nx m K:=h
def tg3 (h:aK Y draw (⟨.fa n0 x1,g⟩::r) env rs nx m K):aK Y draw (⟨.fa n0 x1,g⟩::r) env rs nx m K:=h
def tg4 (h:aK Y draw (⟨.ld n0 b1 x2,g⟩::r) env rs nx m K):aK Y draw (⟨.ld n0 b1 x2,g⟩::r) env rs nx m K:=h
def tg5 (h:aK Y draw (⟨.bin .lss x0 x1,g⟩::r) env rs nx m K):aK Y draw (⟨.bin .lss x0 x1,g⟩::r) env rs nx m K:=h
def tg6 (h:aK Y draw (⟨.bin .eql x0 x1,g⟩::r) env rs nx m K):aK Y draw (⟨.bin .eql x0 x1,g⟩::r) env rs nx m K:=h
def tg7 (h:aK Y draw (⟨.bin .add x0 x1,g⟩::r) env rs nx m K):aK Y draw (⟨.bin .add x0 x1,g⟩::r) env rs nx m K:=h
def tg8 (h:aK Y draw (⟨.bin .gtr x0 x1,g⟩::r) env rs nx m K):aK Y draw (⟨.bin .gtr x0 x1,g⟩::r) env rs nx m K:=h
def tg9 (h:aK Y draw (⟨.bin .neq x0 x1,g⟩::r) env rs nx m K):aK Y draw (⟨.bin .neq x0 x1,g⟩::r) env rs nx m K:=h
def tg10 (h:aK Y draw (⟨.bin .leq x0 x1,g⟩::r) env rs nx m K):aK Y draw (⟨.bin .leq x0 x1,g⟩::r) env rs nx m K:=h
def tg11 (h:aK Y draw (⟨.bin .geq x0 x1,g⟩::r) env rs nx m K):aK Y draw (⟨.bin .geq x0 x1,g⟩::r) env rs nx m K:=h
def tg12 (h:aK Y draw (⟨.bin .sub x0 x1,g⟩::r) env rs nx m K):aK Y draw (⟨.bin .sub x0 x1,g⟩::r) env rs nx m K:=h
def tg13 (h:aK Y draw (⟨.ext x0 n1,g⟩::r) env rs nx m K):aK Y draw (⟨.ext x0 n1,g⟩::r) env rs nx m K:=h
def tg14 (h:aK Y draw (⟨.pick x0 x1 (.c (.bool false)),g⟩::r) env rs nx m K):aK Y draw (⟨.pick x0 x1 (.c (.bool false)),g⟩::r) env rs nx m K:=h
def tg15 (h:aK Y draw (⟨.pick x0 (.c (.bool true)) x1,g⟩::r) env rs nx m K):aK Y draw (⟨.pick x0 (.c (.bool true)) x1,g⟩::r) env rs nx m K:=h
def tg16 (h:aK Y draw (⟨.un .not x0,g⟩::r) env rs nx m K):aK Y draw (⟨.un .not x0,g⟩::r) env rs nx m K:=h
def tg17 (h:aK Y draw (⟨.nilck x0,g⟩::r) env rs nx m K):aK Y draw (⟨.nilck x0,g⟩::r) env rs nx m K:=h
def tg18 (h:aK Y draw (⟨.box n0 x1,g⟩::r) env rs nx m K):aK Y draw (⟨.box n0 x1,g⟩::r) env rs nx m K:=h
def tg19 (h:aK Y draw (⟨.ia n0 x1 x2,g⟩::r) env rs nx m K):aK Y draw (⟨.ia n0 x1 x2,g⟩::r) env rs nx m K:=h
def tg20 (h:aK Y draw (⟨.ixS x0 x1,g⟩::r) env rs nx m K):aK Y draw (⟨.ixS x0 x1,g⟩::r) env rs nx m K:=h
def tg21 (h:aK Y draw (⟨.st n0 x1 x2,g⟩::r) env rs nx m K):aK Y draw (⟨.st n0 x1 x2,g⟩::r) env rs nx m K:=h
def tg22 (h:aK Y draw (⟨.len x0,g⟩::r) env rs nx m K):aK Y draw (⟨.len x0,g⟩::r) env rs nx m K:=h
def tg23 (h:aK Y draw (⟨.lenS x0,g⟩::r) env rs nx m K):aK Y draw (⟨.lenS x0,g⟩::r) env rs nx m K:=h
def tg24 (h:aK Y draw (⟨.sZ x0,g⟩::r) env rs nx m K):aK Y draw (⟨.sZ x0,g⟩::r) env rs nx m K:=h
def tg25 (h:aK Y draw (⟨.s2b x0,g⟩::r) env rs nx m K):aK Y draw (⟨.s2b x0,g⟩::r) env rs nx m K:=h
def tg26 (h:aK Y draw (⟨.mkB,g⟩::r) env rs nx m K):aK Y draw (⟨.mkB,g⟩::r) env rs nx m K:=h
def tg27 (h:aK Y draw (⟨.app n0 x1 x2,g⟩::r) env rs nx m K):aK Y draw (⟨.app n0 x1 x2,g⟩::r) env rs nx m K:=h
end
def aE {p q:Prop}(k:q)(h:Hid q vM->p:=by
 intro h;first
 |((with_reducible refine tg0 ?_);first|with_reducible exact ak h.1|with_reducible exact Qg h.1|with_reducible exact HA h.1|with_reducible exact VM h.1|with_reducible exact MJ h.1|with_reducible exact wp_ret h.1|with_reducible exact wp_skip h.1|with_reducible exact Hz h.1|with_reducible exact wp_exit h.1|with_reducible exact Fl h.1 hm|with_reducible exact MI h.1 hm)
 |((with_reducible refine tg1 ?_);(refine r_mv ?_;exact h.1))
 |((with_reducible refine tg2 ?_);first|(refine rrrh ?_;exact h.1)|(refine rrrg ?_;exact h.1))
 |((with_reducible refine tg3 ?_);first|(refine Zk ?_;exact h.1)|(refine Zl ?_;exact h.1))
 |((with_reducible refine tg4 ?_);first|exact bD (.int _ _) h.1|exact bD (.str _) h.1|(refine cE (v:=.str _) ?_;exact h.1)|(refine fe (v:=.str _) ?_;exact h.1)|(refine cE (v:=.int _ _) ?_;exact h.1)|(refine fe (v:=.int _ _) ?_;exact h.1)|exact bD (.sl _ _) h.1|exact bD (.own _ _ _ _) h.1|exact bD (.bool _) h.1|(refine cE (v:=.sl _ _) ?_;exact h.1)|(refine fe (v:=.sl _ _) ?_;exact h.1)|(refine cE (v:=.bool _) ?_;exact h.1)|(refine fe (v:=.bool _) ?_;exact h.1)|exact cH h.1|exact bD .aA h.1)
 |((with_reducible refine tg5 ?_);first|(refine Pv ?_;exact h.1)|(refine Pw ?_;exact h.1))
 |((with_reducible refine tg6 ?_);first|(refine Vg ?_;exact h.1)|(refine Vh ?_;exact h.1))
 |((with_reducible refine tg7 ?_);(refine IB ?_;exact h.1))
 |((with_reducible refine tg8 ?_);first|(refine Vk ?_;exact h.1)|(refine Vl ?_;exact h.1))
 |((with_reducible refine tg9 ?_);first|(refine Vs ?_;exact h.1)|(refine Vt ?_;exact h.1))
 |((with_reducible refine tg10 ?_);first|(refine Vq ?_;exact h.1)|(refine Vr ?_;exact h.1))
 |((with_reducible refine tg11 ?_);first|(refine Vi ?_;exact h.1)|(refine Vj ?_;exact h.1))
 |((with_reducible refine tg12 ?_);(refine IK ?_;exact h.1))
 |((with_reducible refine tg13 ?_);first|exact kG (.int _ _) h.1|exact kG (.str _) h.1|exact kG (.bool _) h.1)
 |((with_reducible refine tg14 ?_);(refine Zg ?_;exact h.1))
 |((with_reducible refine tg15 ?_);(refine r_or ?_;exact h.1))
 |((with_reducible refine tg16 ?_);(refine Zo ?_;exact h.1))
 |((with_reducible refine tg17 ?_);first|(refine Vu ?_;exact h.1)|(refine Vv ?_;exact h.1))
 |((with_reducible refine tg18 ?_);(refine Zh ?_;exact h.1))
 |((with_reducible refine tg19 ?_);first|exact cM _ h.1|exact Pr h.1|exact im _ h.1|exact Vm h.1)
 |((with_reducible refine tg20 ?_);first|exact oB _ h.1|exact Vn h.1)
 |((with_reducible refine tg21 ?_);exact a7 _ h.1)
 |((with_reducible refine tg22 ?_);first|exact Ps fun a=>(h.1:_->_) (a rfl rfl)|exact Pt fun a=>(h.1:_->_) (a rfl rfl)|(refine Vp ?_;exact h.1))
 |((with_reducible refine tg23 ?_);exact Pu fun a=>(h.1:_->_) (a rfl rfl))
 |((with_reducible refine tg24 ?_);(refine Zq ?_;exact h.1))
 |((with_reducible refine tg25 ?_);(refine Zr ?_;exact h.1))
 |((with_reducible refine tg26 ?_);(refine Zm ?_;exact h.1))
 |((with_reducible refine tg27 ?_);(refine nb ?_;exact h.1))
 |with_reducible exact BQ.normal h.1|with_reducible exact BQ.ret h.1|with_reducible exact LQ.normal h.1|with_reducible exact LQ.out h.1|with_reducible exact LQ.ret h.1|with_reducible exact BQ.out h.1|with_reducible exact FC.normal h.1|with_reducible exact FC.ret h.1|with_reducible exact FE.normal h.1|with_reducible exact FE.ret h.1|with_reducible exact FC.out h.1|with_reducible exact FE.out h.1|with_reducible exact CQ.normal h.1|with_reducible exact CQ.ret h.1|with_reducible exact CQ.other h.1|((with_reducible refine BQ.other ?_ h.1);exact rfl)|((with_reducible refine LQ.other ?_ h.1);exact rfl)|((with_reducible refine FC.other ?_ h.1);exact rfl)|((with_reducible refine FE.other ?_ h.1);exact rfl)):p:=h ⟨k⟩
def lL {p q:Prop}(k:q)(h:Hid q vM->p:=by intro h;first|exact Ps fun _=>h.1|exact Pu fun _=>h.1|exact Pt fun _=>h.1):p:=h ⟨k⟩
section
variable {Y:Ctx} {Q:Ex->List bL->St->Prop}
end
def eh:(∀{p:Prop} [Decidable p],(decide p=true)=p)/\(∀{p:Prop} [Decidable p],decide p=false↔¬p)/\(∀b:Bool,((!b)=true)=(b=false))/\(∀b:Bool,((!b)=false)=(b=true))/\(∀b:Bool,(¬(b=false))=(b=true))/\(∀a b:Bool,((a ||b)=true)=(a=true\/b=true))/\(∀{a b:Bool},(a ||b)=false↔a=false/\b=false)/\(∀a b:Bool,((a&&b)=true)=(a=true/\b=true))/\(∀{a b:Bool},(a&&b)=false↔a=false\/b=false)/\(∀b:Bool,(¬(b=true))=(b=false))/\(∀b:Bool,(true&&b)=b)/\∀b:Bool,(b&&true)=b:=
 ⟨aY,bA,bK,ct,Bool.not_eq_false,c8,dR,bp,dI,Bool.not_eq_true,fB,qO⟩
section
variable {Y:Ctx} {Q:Ex->List bL->St->Prop} {env:List bL} {st:St}
def cC {c:Src}{a b r:AC}{t:Bool}{c1 c2:Prop}(h1:c1->bB Y (.seq a r) Q env st)(h2:c2->bB Y (.seq b r) Q env st)(hc:cx env [] c=⟨true,.bool t⟩:=by exact rfl)(e1:t=true->c1:=by intro h;(try simp only[eh]at h);exact h)(e2:t=false->c2:=by intro h;(try simp only[eh]at h);exact h):bB Y (.seq (.cond c a b) r) Q env st:=aw (fun h=>h1 (e1 h)) (fun h=>h2 (e2 h)) hc
def eV {c:Src}{a b:AC}{t:Bool}{c1 c2:Prop}(h1:c1->bB Y a Q env st)(h2:c2->bB Y b Q env st)(hc:cx env [] c=⟨true,.bool t⟩:=by exact rfl)(e1:t=true->c1:=by intro h;(try simp only[eh]at h);exact h)(e2:t=false->c2:=by intro h;(try simp only[eh]at h);exact h):bB Y (.cond c a b) Q env st:=wp_cond (fun h=>h1 (e1 h)) (fun h=>h2 (e2 h)) hc
end
end Go.Abs
namespace Go.Abs
variable {Y:Ctx}(hm:(Y.at 0).bU)
def ay {p q:Prop}(k:q)(h:Hid q vM->p:=by intro h;(iterate 2 refine aE ?_);exact h.1):p:=h ⟨k⟩
def aB {p q:Prop}(k:q)(h:Hid q vM->p:=by intro h;(iterate 3 refine aE ?_);exact h.1):p:=h ⟨k⟩
def aF {p q:Prop}(k:q)(h:Hid q vM->p:=by intro h;(iterate 4 refine aE ?_);exact h.1):p:=h ⟨k⟩
def aJ {p q:Prop}(k:q)(h:Hid q vM->p:=by intro h;(iterate 5 refine aE ?_);exact h.1):p:=h ⟨k⟩
def aH {p q:Prop}(k:q)(h:Hid q vM->p:=by intro h;(iterate 6 refine aE ?_);exact h.1):p:=h ⟨k⟩
def aW {p q:Prop}(k:q)(h:Hid q vM->p:=by intro h;(iterate 7 refine aE ?_);exact h.1):p:=h ⟨k⟩
def bM {p q:Prop}(k:q)(h:Hid q vM->p:=by intro h;(iterate 8 refine aE ?_);exact h.1):p:=h ⟨k⟩
def cU {p q:Prop}(k:q)(h:Hid q vM->p:=by intro h;(iterate 9 refine aE ?_);exact h.1):p:=h ⟨k⟩
def iw {p q:Prop}(k:q)(h:Hid q vM->p:=by intro h;(iterate 10 refine aE ?_);exact h.1):p:=h ⟨k⟩
def fW {p q:Prop}(k:q)(h:Hid q vM->p:=by intro h;(iterate 11 refine aE ?_);exact h.1):p:=h ⟨k⟩
def gJ {p q:Prop}(k:q)(h:Hid q vM->p:=by intro h;(iterate 12 refine aE ?_);exact h.1):p:=h ⟨k⟩
def nM {p q:Prop}(k:q)(h:Hid q vM->p:=by intro h;(iterate 13 refine aE ?_);exact h.1):p:=h ⟨k⟩
def FB {p q:Prop}(k:q)(h:Hid q vM->p:=by intro h;(iterate 14 refine aE ?_);exact h.1):p:=h ⟨k⟩
def wj {p q:Prop}(k:q)(h:Hid q vM->p:=by intro h;(iterate 15 refine aE ?_);exact h.1):p:=h ⟨k⟩
def zK {p q:Prop}(k:q)(h:Hid q vM->p:=by intro h;(iterate 16 refine aE ?_);exact h.1):p:=h ⟨k⟩
def zL {p q:Prop}(k:q)(h:Hid q vM->p:=by intro h;(iterate 17 refine aE ?_);exact h.1):p:=h ⟨k⟩
def Tc {p q:Prop}(k:q)(h:Hid q vM->p:=by intro h;(iterate 18 refine aE ?_);exact h.1):p:=h ⟨k⟩
def Td {p q:Prop}(k:q)(h:Hid q vM->p:=by intro h;(iterate 20 refine aE ?_);exact h.1):p:=h ⟨k⟩
def Te {p q:Prop}(k:q)(h:Hid q vM->p:=by intro h;(iterate 22 refine aE ?_);exact h.1):p:=h ⟨k⟩
def ZW {p q:Prop}(k:q)(h:Hid q vM->p:=by intro h;(iterate 24 refine aE ?_);exact h.1):p:=h ⟨k⟩
def Tf {p q:Prop}(k:q)(h:Hid q vM->p:=by intro h;(iterate 25 refine aE ?_);exact h.1):p:=h ⟨k⟩
def ZX {p q:Prop}(k:q)(h:Hid q vM->p:=by intro h;(iterate 26 refine aE ?_);exact h.1):p:=h ⟨k⟩
def Ql {p q:Prop}(k:q)(h:Hid q vM->p:=by intro h;(iterate 28 refine aE ?_);exact h.1):p:=h ⟨k⟩
def Tg {p q:Prop}(k:q)(h:Hid q vM->p:=by intro h;(iterate 36 refine aE ?_);exact h.1):p:=h ⟨k⟩
end Go.Abs
namespace Go.Abs
variable {Y:Ctx}(hm:(Y.at 0).bU)
abbrev s0:Src:=.s 0
abbrev s1:Src:=.s 1
abbrev s2:Src:=.s 2
abbrev s3:Src:=.s 3
abbrev s4:Src:=.s 4
abbrev s5:Src:=.s 5
abbrev s6:Src:=.s 6
abbrev s7:Src:=.s 7
abbrev s8:Src:=.s 8
abbrev s9:Src:=.s 9
abbrev iQ:Src:=.s 10
abbrev kH:Src:=.s 11
abbrev mS:Src:=.s 12
abbrev rJ:Src:=.s 13
abbrev rK:Src:=.s 14
abbrev xa:Src:=.s 15
abbrev FI:Src:=.s 16
abbrev ET:Src:=.s 17
abbrev Ml:Src:=.s 18
abbrev VB:Src:=.s 19
abbrev IW:Src:=.s 20
abbrev VZ:Src:=.s 21
abbrev V0:Src:=.s 22
abbrev s23:Src:=.s 23
abbrev VC:Src:=.s 24
abbrev V1:Src:=.s 25
abbrev Zs:Src:=.s 26
abbrev s27:Src:=.s 27
abbrev s28:Src:=.s 28
abbrev s29:Src:=.s 29
abbrev S5:Src:=.s 30
abbrev s31:Src:=.s 31
abbrev s32:Src:=.s 32
abbrev s33:Src:=.s 33
abbrev s34:Src:=.s 34
abbrev s35:Src:=.s 35
abbrev s36:Src:=.s 36
abbrev s37:Src:=.s 37
abbrev s38:Src:=.s 38
abbrev l0:Src:=.l 0
abbrev l1:Src:=.l 1
abbrev l2:Src:=.l 2
abbrev l3:Src:=.l 3
abbrev l4:Src:=.l 4
abbrev l5:Src:=.l 5
abbrev l6:Src:=.l 6
abbrev l7:Src:=.l 7
abbrev l8:Src:=.l 8
abbrev l9:Src:=.l 9
abbrev l10:Src:=.l 10
abbrev gF:Src:=.l 11
abbrev iU:Src:=.l 12
abbrev jR:Src:=.l 13
abbrev kE:Src:=.l 14
abbrev me:Src:=.l 15
abbrev nC:Src:=.l 16
abbrev rF:Src:=.l 17
abbrev sY:Src:=.l 18
abbrev uc:Src:=.l 19
abbrev zO:Src:=.l 20
abbrev AV:Src:=.l 21
abbrev Da:Src:=.l 22
abbrev Gu:Src:=.l 23
abbrev Ic:Src:=.l 24
abbrev Lk:Src:=.l 25
abbrev Om:Src:=.l 26
abbrev Rv:Src:=.l 27
abbrev SX:Src:=.l 28
abbrev SY:Src:=.l 29
abbrev VV:Src:=.l 30
abbrev Za:Src:=.l 31
abbrev Zb:Src:=.l 32
abbrev l33:Src:=.l 33
abbrev l34:Src:=.l 34
abbrev gm (x:Src):GI:=⟨.mv x,none⟩
abbrev gn (x:aM):GI:=⟨x,none⟩
abbrev i6 (n:Int):Src:=.c (.int .i64 n)
abbrev cs (s:List UInt8):Src:=.c (.str s)
abbrev gd (x:Src):GI:=⟨.ld 1 false x,none⟩
abbrev gk (n:Nat)(b:Bool)(x:Src):GI:=⟨.ld n b x,none⟩
abbrev gf (n:Nat)(x:Src):GI:=⟨.fa n x,none⟩
abbrev gl (x:Src):GI:=⟨.len x,none⟩
abbrev ga (n:Nat)(x y:Src):GI:=⟨.ia n x y,none⟩
abbrev ge (x:Src)(n:Nat):GI:=⟨.ext x n,none⟩
abbrev gb (n:Nat)(x:Src):GI:=⟨.box n x,none⟩
abbrev gc (x:Src):GI:=⟨.nilck x,none⟩
abbrev gt (n:Nat)(x y:Src):GI:=⟨.st n x y,none⟩
abbrev gx (n:Nat)(x:List Src)(y:List (List Sh)):GI:=⟨.call n x y,none⟩
abbrev rg (x:List GI)(y:List (Nat×Nat)):AC:=.reg false x y
abbrev rt (x:List GI)(y:List (Nat×Nat)):AC:=.reg true x y
abbrev po (x y:Src):aM:=.bin .lss x y
abbrev cB (x y:Src):aM:=.bin .eql x y
abbrev vE (x y:Src):aM:=.bin .add x y
abbrev dY (x y:Src):aM:=.bin .gtr x y
abbrev fo (x y:Src):aM:=.bin .neq x y
abbrev lZ (x y:Src):aM:=.bin .leq x y
abbrev rS (x y:Src):aM:=.bin .geq x y
abbrev kC (x y:Src):aM:=.bin .sub x y
abbrev Np (x y:Src):aM:=.bin .and x y
abbrev dJ:Src:=.c (.bool false)
abbrev rV:Src:=.c (.bool true)
abbrev cse:Src:=.c (.str [])
abbrev bm:Src:=.c (.int .i64 0)
abbrev b7:Src:=.c (.int .i64 1)
abbrev lQ:Src:=.c (.int .i64 2)
abbrev k9:Src:=.c (.int .i64 3)
abbrev rX:Src:=.c (.int .i64 4)
abbrev Lg:Src:=.c (.int .i64 5)
abbrev uE:Src:=.c (.int .i64 6)
abbrev MO:Src:=.c (.int .i64 7)
abbrev C7:Src:=.c (.int .i64 8)
abbrev C8:Src:=.c (.int .i64 9)
abbrev gmt (n:Nat)(x:Src):GI:=⟨.mv x,some (n,true)⟩
abbrev kZ (n:Nat)(x:Src):GI:=⟨.ld 1 false x,some (n,true)⟩
abbrev m4 (n o:Nat)(x:Src):GI:=⟨.fa o x,some (n,true)⟩
abbrev bT (n:Nat)(x:aM):GI:=⟨x,some (n,true)⟩
abbrev eW (n:Nat)(x:Src):GI:=⟨.mv x,some (n,false)⟩
abbrev lN (n:Nat)(x:Src):GI:=⟨.ld 1 false x,some (n,false)⟩
abbrev jQ (n o:Nat)(x:Src):GI:=⟨.fa o x,some (n,false)⟩
abbrev cF (n:Nat)(x:aM):GI:=⟨x,some (n,false)⟩
abbrev sq (a b:AC):AC:=.seq a b
abbrev wV (x:Src):AC:=.seq (.reg false [⟨.mv x,none⟩] [(1,0)]) .ret
abbrev lM (c x:Src):AC:=.cond c (.seq (.reg false [⟨.mv x,none⟩] [(1,0)]) .ret) .skip
abbrev bR:List (List Sh):=[[.a]]
abbrev ha2:List (List Sh):=[[.a,.a]]
abbrev zZ:List (List Sh):=[[.a,.a,.a,.a,.a]]
abbrev Qo:List (List Sh):=[[.a,.a,.a,.a,.a,.a,.a]]
abbrev gA:List (List Sh):=[[.a],[.a]]
abbrev VT:List (List Sh):=[[.a],[.a],[.a]]
abbrev hb4:List (List Sh):=[[.a],[.a],[.a],[.a]]
abbrev fC (c x:Src):GI:=⟨.pick c (.c (.bool true)) x,none⟩
abbrev ei (c x:Src):GI:=⟨.pick c x (.c (.bool false)),none⟩
abbrev UK (n:Nat)(c x:Src):GI:=⟨.pick c (.c (.bool true)) x,some (n,true)⟩
abbrev DK (n:Nat)(c x:Src):GI:=⟨.pick c x (.c (.bool false)),some (n,false)⟩
abbrev aP (x y:Src):GI:=⟨.bin .lss x y,none⟩
abbrev aL (x y:Src):GI:=⟨.bin .eql x y,none⟩
abbrev av (x y:Src):GI:=⟨.bin .add x y,none⟩
abbrev cR (x y:Src):GI:=⟨.bin .gtr x y,none⟩
abbrev cj (x y:Src):GI:=⟨.bin .neq x y,none⟩
abbrev Cg (x y:Src):GI:=⟨.bin .leq x y,none⟩
abbrev fN (x y:Src):GI:=⟨.bin .geq x y,none⟩
abbrev ek (x y:Src):GI:=⟨.bin .sub x y,none⟩
abbrev OC (x y:Src):GI:=⟨.bin .and x y,none⟩
abbrev Io (x y:Src):GI:=⟨.bin .or x y,none⟩
abbrev eO (c:Src)(n:Nat):AC:=.cond c .skip (.exit n)
abbrev i8 (n:Int):Src:=.c (.int .u8 n)
abbrev i3 (n:Int):Src:=.c (.int .i32 n)
abbrev iu (n:Int):Src:=.c (.int .u64 n)
abbrev px (x:Src):GI:=⟨.lenS x,none⟩
abbrev kD (x:Src):GI:=⟨.un .not x,none⟩
abbrev K9 (x y:Src):GI:=⟨.ixS x y,none⟩
abbrev r1 (x:List GI)(a b:Nat):AC:=.reg false x [(a,b)]
abbrev r2 (x:List GI)(a b:Nat):AC:=.reg true x [(a,b)]
abbrev fY:List FJ:=[⟨1,none⟩]
end Go.Abs
end
namespace Go.Abs
variable {Y:Ctx}(hm:(Y.at 0).bU)
def L7:aD:=⟨2,7,[⟨2,none⟩],bR,(sq (r1 [gm cse] 2 0) (sq (r1 [gm cse] 6 0) (sq (sq (r1 [gm bm] 3 0) (.block 0 (.loop (sq (sq (r1 [gm s3,gm s0,gl l1,aP l0 l2] 4 3) (eO s4 0)) (sq (.block 1 (sq (sq (r1 [gm s3,cR l0 bm] 5 1) (.cond s5 (r1 [gm s6,gm s1,gn (.bsl 1 (.int .u8 0) 1 [(0,l1)]),gn (.b2s l2),av l0 l3,gm l4] 6 5) .skip)) (r1 [gm s6,gm s0,gm s3,ga 1 l1 l2,gd l3,av l0 l4,gm l5] 6 6))) (r1 [gm s3,av l0 b7,gm l1] 3 2)))))) (sq (r1 [gm s6,gm l0] 2 1) .ret))))⟩
def w249  (l:List au)(x:UInt8)  (hp0:(aT [x] l).length<=1099511627776):cZ Y L7 (.str (aT [x] l)) [.sl 1 (l.map D.str),.int .u8 (x.toNat:Nat)]:=by
 show bB _ _ _ [⟨_,_⟩,⟨_,_⟩,_,_,_,_,_] _;refine ak ?_;refine cU ?_;refine bc hm (ι:=Nat) (fun i=>[⟨true,.sl 1 (l.map D.str)⟩,⟨true,.int .u8 (x.toNat:Nat)⟩,.un,⟨true,.int .i64 (i:Nat)⟩,.un,.un,⟨true,.str (aT [x] (l.take i))⟩]) (fun i=>[]) 3 (fun i=>i<=l.length) (fun i=>l.length-i) 0 ae (dF []) ?_;intro i hi;refine aJ ?_;intro u0;refine ay ?_;refine cC (fun hc0=>?_) fun hc0=>?_
 .refine aF ?_;have hj:=rh [x] l (i+1);refine aB ?_;refine aw (fun hc1=>?_) (fun hc1=>?_)
  .simp only[aY]at hc1;have ht:=oX [x] l i ae;rw[ax ae]at ht;have htl:=ar List.length ht;simp only[bJ,List.length_singleton]at htl;refine aB ?_;refine cS [.int .u8 _] ?_;refine ID [x] (he:=fun _=>pJ.all ah rfl) (hs:=fun _=>rfl) ?_;refine cP (hb:=fun _=>by simp only[List.length_singleton];omega) ?_;refine bM ?_;refine cP (hb:=fun _=>by first|(simp only[bJ,List.length_singleton];omega)|(subst hi0;simp only[List.take_zero,aT,aC]at htl⊢;omega)) ?_;refine cU ?_;exact⟨i+1,ae,ae,(aU.to [] ah ah (by repeat(first|exact dn.nil|refine dn.un ?_|refine dn.eq ah ?_|refine dn.nl (ar D.str (by rw[ht])) ah ?_)) qt)⟩
  simp only[bA]at hc1;have ht:=oX [x] l i ae;rw[ai ae]at ht;have htl:=ar List.length ht;simp only[bJ,aC]at htl;have hi0:i=0:=ae;refine aW ?_;refine cP (hb:=fun _=>by first|(simp only[bJ,List.length_singleton];omega)|(subst hi0;simp only[List.take_zero,aT,aC]at htl⊢;omega)) ?_;refine cU ?_;exact⟨i+1,ae,ae,(aU.to [] ah ah (by repeat(first|exact dn.nil|refine dn.un ?_|refine dn.eq ah ?_|refine dn.nl (ar D.str (by rw[ht];subst hi0;rfl)) ah ?_)) qt)⟩
 refine aW ?_;refine cG ?_;rw[dM ae]
def Jt (T:List D->D->Prop):Prop:=∀(l:List au) (x:UInt8),((aT [x] l).length<=1099511627776)->T [.sl 1 (l.map D.str),.int .u8 (x.toNat:Nat)] (.str (aT [x] l))
def Qu (Y:Ctx):Prop:=Jt (bq Y 249)
def EJ:aD:=⟨1,5,fY,bR,(sq (r1 [gm dJ] 1 0) (sq (sq (r1 [gm b7] 2 0) (.block 0 (.loop (sq (sq (r1 [gm s2,gm s0,gl l1,aP l0 l2] 3 3) (eO s3 0)) (sq (.block 1 (sq (r2 [gm s0,gm s2,ek l1 b7,ga 1 l0 l2,gd l3,gm s0,gm s2,ga 1 l5 l6,gd l7,fN l4 l8] 4 9) (lM s4 dJ))) (r1 [gm s2,av l0 b7,gm l1] 2 2)))))) (wV rV)))⟩
def w815  (l:List au)   :cZ Y EJ (.bool (rising l)) [.sl 1 (l.map D.str)]:=by
 show bB _ _ _ [⟨_,_⟩,_,_,_,_] _;refine ak ?_;refine aH ?_;refine bc hm (ι:=Nat) (fun i=>[⟨true,.sl 1 (l.map D.str)⟩,.un,⟨true,.int .i64 (i:Nat)⟩,.un,.un]) (fun i=>[]) 2 (fun i=>1<=i/\(i<=l.length\/i=1)/\rising l=cI (fun i=>Op.bytesLess l[i-1]! l[i]!) i l.length) (fun i=>l.length-i) 1 ⟨ae,ae,rfl⟩ (dF []) ?_;rintro i ⟨h1,hi,hr⟩;refine aJ ?_;intro u0;refine ay ?_;refine cC (fun hc0=>?_) fun hc0=>?_
 .refine aH ?_;refine cM (i-1) ?_;refine aW ?_;refine wp_cond (fun hc1=>?_) (fun hc1=>?_)
  .simp only[bK]at hc1;refine aH ?_;refine bQ ?_;rw[hr,aR ae,hc1];rfl
  simp only[ct]at hc1;refine bM ?_;exact⟨i+1,⟨ae,ae,by rw[hr,aR ae,hc1];rfl⟩,ae,(dF [])⟩
 refine aH ?_;refine bQ ?_;rw[hr,ch ae]
def xQ (T:List D->D->Prop):Prop:=∀(l:List au),T [.sl 1 (l.map D.str)] (.bool (rising l))
def TR (Y:Ctx):Prop:=xQ (bq Y 815)
def zX:aD:=⟨1,5,fY,bR,(sq (r1 [gm dJ] 1 0) (sq (sq (r1 [gm b7] 2 0) (.block 0 (.loop (sq (sq (r1 [gm s2,gm s0,gl l1,aP l0 l2] 3 3) (eO s3 0)) (sq (.block 1 (sq (r2 [gm s0,gm s2,ek l1 b7,ga 1 l0 l2,gd l3,gm s0,gm s2,ga 1 l5 l6,gd l7,fN l4 l8] 4 9) (lM s4 dJ))) (r1 [gm s2,av l0 b7,gm l1] 2 2)))))) (wV rV)))⟩
def w447  (l:List au)   :cZ Y zX (.bool (rising l)) [.sl 1 (l.map D.str)]:=by
 show bB _ _ _ [⟨_,_⟩,_,_,_,_] _;refine ak ?_;refine aH ?_;refine bc hm (ι:=Nat) (fun i=>[⟨true,.sl 1 (l.map D.str)⟩,.un,⟨true,.int .i64 (i:Nat)⟩,.un,.un]) (fun i=>[]) 2 (fun i=>1<=i/\(i<=l.length\/i=1)/\rising l=cI (fun i=>Op.bytesLess l[i-1]! l[i]!) i l.length) (fun i=>l.length-i) 1 ⟨ae,ae,rfl⟩ (dF []) ?_;rintro i ⟨h1,hi,hr⟩;refine aJ ?_;intro u0;refine ay ?_;refine cC (fun hc0=>?_) fun hc0=>?_
 .refine aH ?_;refine cM (i-1) ?_;refine aW ?_;refine wp_cond (fun hc1=>?_) (fun hc1=>?_)
  .simp only[bK]at hc1;refine aH ?_;refine bQ ?_;rw[hr,aR ae,hc1];rfl
  simp only[ct]at hc1;refine bM ?_;exact⟨i+1,⟨ae,ae,by rw[hr,aR ae,hc1];rfl⟩,ae,(dF [])⟩
 refine aH ?_;refine bQ ?_;rw[hr,ch ae]
def Ws (Y:Ctx):Prop:=xQ (bq Y 447)
end Go.Abs
