/- A part of the proofs. -/
import Derived.Test.YtfeebkgpalkobaaGreatDoorP06
set_option linter.all false
set_option maxRecDepth 60000
set_option maxHeartbeats 2000000
namespace Go.Abs
section
def n9 {S:List Int}{i:Nat}(h:i<S.length)(v:Int):(S.map (D.int .i64)).set (0+i) (uV ((S.map (D.int .i64)).getD (0+i) .any) 1 1 0 (.int .i64 v))=(S.set i v).map (D.int .i64):=by
 rw[bq,getD_map (q:=D.int .i64) h,List.map_set];rfl
def BC {l:List gC}{nm:aU}{v:aQ}:ow l nm v 0=-1\/∃j:Nat,ow l nm v 0=(j:Int)/\j<l.length:=by
 unfold ow;rw[bP];cases h:l.findIdx? (C1 nm v)with
 |none=>exact .inl rfl
 |some k=>
  have:=(List.findIdx?_eq_some_iff_getElem.1 h).1;exact .inr ⟨k,bg,this⟩
def sX {s:cC}{nm:aU}{v:aQ}:ix s nm v=-1\/∃j:Nat,ix s nm v=(j:Int)/\j<s.es.length:=by
 unfold ix;split
 .exact .inl rfl
 .exact BC
def qi (s:cC)(nm:aU)(v:aQ):gC×Bool:=if ix s nm v<0 then(default,false)else(s.es[(ix s nm v).toNat]!,true)
section
variable {shop:List cC} {c:dA} {x:cU}
def RI (h0:c.sh=-1)(h:¬x.shelf=[]):kQ shop c x=12:=by grind [kQ]
def shl_b (h0:c.sh=-1)(h:x.shelf=[])(h2:¬x.sum=0):kQ shop c x=13:=by grind [kQ]
def shl_c (h0:c.sh=-1)(h:x.shelf=[])(h2:x.sum=0):kQ shop c x=0:=by grind [kQ]
def RJ (h0:¬c.sh=-1)(h:(c.sh<0\/(shop.length:Int)<=c.sh)\/¬shop[c.sh.toNat]!.name=x.shelf):kQ shop c x=12:=by grind [kQ]
def Om (h0:¬c.sh=-1)(h1:(¬c.sh<0/\¬(shop.length:Int)<=c.sh)/\shop[c.sh.toNat]!.name=x.shelf)(h:(qi shop[c.sh.toNat]! x.name x.v).2=false\/¬(qi shop[c.sh.toNat]! x.name x.v).1.sum=x.sum):kQ shop c x=13:=by grind [kQ,qi]
def RL (h0:¬c.sh=-1)(h1:(¬c.sh<0/\¬(shop.length:Int)<=c.sh)/\shop[c.sh.toNat]!.name=x.shelf)(h:(qi shop[c.sh.toNat]! x.name x.v).2=true/\(qi shop[c.sh.toNat]! x.name x.v).1.sum=x.sum):kQ shop c x=0:=by grind [kQ,qi]
end
def sw {us:List cQ}{a b:aU}:gw us a b=-1\/∃j:Nat,gw us a b=(j:Int)/\1<=j/\j<us.length:=by
 unfold gw;rcases m5 (f:=lj a b) (l:=us.drop 1) (k:=1)with⟨h,_⟩|⟨j,h,h2,_⟩
 .exact .inl h
 .rw[pI]at h2;exact .inr ⟨1+j,h,ah,ah⟩
def ZQ {a b:aU}{u:cQ}(h:u.name=a/\u.feat=b):lj a b u=true:=by simp[lj,h.1,h.2]
def ZP {a b:aU}{u:cQ}(h:¬u.name=a\/¬u.feat=b):lj a b u=false:=by
 rcases h with h|h<;>simp[lj,h]
def ZS {v:aQ}{c:dA}{t:Bool}(h:(t=true/\c.v=v)\/t=false/\ki c.v v=0):EU v t c=true:=by
 rcases h with⟨rfl,h⟩|⟨rfl,h⟩<;>simp[EU,h]
def ZR {v:aQ}{c:dA}{t:Bool}(h:(t=false\/¬c.v=v)/\(t=true\/¬ki c.v v=0)):EU v t c=false:=by
 cases t<;>simp_all[EU]
def si {us:List cQ}{u:Int}{v:aQ}{t:Bool}:kE us u v t=-1\/∃j k:Nat,u=(j:Int)/\kE us u v t=(k:Int)/\k<us[j]!.cands.length:=by
 unfold kE;split
 .exact .inl rfl
 .rcases m5 (f:=EU v t) (l:=us[u.toNat]!.cands) (k:=0)with⟨h,_⟩|⟨j,h,h2,_⟩
  .exact .inl h
  .exact .inr ⟨u.toNat,j,ah,by rw[h];simp,h2⟩
def CO {us:List cQ}{x:cU}:∀{l:List aU}{c:List Int},(rY us x l c).2.length=c.length
 |[],c=>rfl
 |f::r,c=>by
  rw[rY];split
  .rfl
  .rw[CO,List.length_set]
def ml {us:List cQ}{x:cU}{c:List Int}{l:List aU}{i:Nat}(h:i<l.length):rY us x (l.drop i) c=if kE us (gw us x.name l[i]!) x.v false<0 then(11,c)else rY us x (l.drop (i+1)) (c.set (gw us x.name l[i]!).toNat (kE us (gw us x.name l[i]!) x.v false)):=by
 rw[gZ h,rY,show l[i]! =l[i]by simp[h]]
def rZ {us:List cQ}{x:cU}{c:List Int}{l:List aU}{i:Nat}(h:l.length<=i):rY us x (l.drop i) c=(0,c):=by
 rw[kR h,rY]
def NB {shop:List cC}{us:List cQ}{x:cU}{c:List Int}:(jG shop us x c).2.length=c.length:=by
 unfold jG;split
 .rfl
 .split
  .rfl
  .rw[CO,List.length_set]
def vw {shop:List cC}{us:List cQ}{c:List Int}{l:List cU}{i:Nat}(h:i<l.length):tf shop us (l.drop i) c=if(jG shop us l[i]! c).1≠0 then([],(jG shop us l[i]! c).1,l[i]!.name)else tf shop us (l.drop (i+1)) (jG shop us l[i]! c).2:=by
 rw[gZ h,tf,show l[i]! =l[i]by simp[h]]
def C6 {shop:List cC}{us:List cQ}{c:List Int}{l:List cU}{i:Nat}(h:l.length<=i):tf shop us (l.drop i) c=(c,0,[]):=by
 rw[kR h,tf]
def Pu (shop:List cC)(w:bZ)(x:cU)(c:List Int):Prop:=(iC shop/\w.sm/\x.v.sm)/\c.length=w.us.length
end
section
section
variable {Y:Ctx} {draw:Bool} {r:List GI} {env rs:List bI} {nx:Nat} {m:List (Nat×bL)} {K:List bI->St->Prop} {g:Option (Nat×Bool)} {f:Bool}
end
end
section
section
variable {Y:Ctx} {draw:Bool} {r:List GI} {env rs:List bI} {nx:Nat} {m:List (Nat×bL)} {K:List bI->St->Prop} {g:Option (Nat×Bool)} {f:Bool}
def r_mkM {L:Nat}{m2:List (Nat×bL)}(h:aI Y draw r env (⟨f,.fn 5000000 [.it L]⟩::rs) nx m2 K)(hg:GF rs g f:=by first|exact rfl|exact⟨_,_,rfl,rfl⟩)(hL:nx+rs.length=L:=by simp only[aT,aX,Nat.reduceAdd];exact rfl)(hm:cR m L (.mpb [])=m2:=by simp only[cR,cA,Nat.reduceEqDiff,aY,aS,Nat.reduceAdd,reduceCtorEq];exact rfl):aI Y draw (⟨.mkM,g⟩::r) env rs nx m K:=
 fO rfl hg _ (fun _=>trivial) (fun hf=>by simp only[aG.val,hL]) _ (by simp only[aG.cr,hL];exact hm) (fun _=>h)
def r_upM {x y z:Src}{l:Nat}{k:D}{q:IntKind}{a:Int}{kvs:List D}{m2:List (Nat×bL)}(kvs2:List D)(h:aI Y draw r env (⟨true,.any⟩::rs) nx m2 K)(hx:cP env rs x=⟨true,.fn 5000000 [.it l]⟩:=by exact rfl)(hy:cP env rs y=⟨true,k⟩:=by exact rfl)(hz:cP env rs z=⟨true,.int q a⟩:=by exact rfl)(hl:look m l=some (.mpb kvs):=by exact rfl)(hk:qQ k=true:=by exact rfl)(hb:sb kvs=true)(he:ud k (.int q a) kvs=kvs2)(hm:cR m l (.mpb kvs2)=m2:=by simp only[cR,cA,Nat.reduceEqDiff,aY,aS,Nat.reduceAdd,reduceCtorEq];exact rfl):aI Y draw (⟨.upM x y z,none⟩::r) env rs nx m K:=
 nZ rfl _ (by simp only[aG.dE,hx,hy,hz,V2,hl];exact⟨trivial,trivial,trivial,⟨trivial,hb⟩,hk,q,a,rfl⟩) (by simp only[aG.val]) _ (by simp only[aG.cr,hx,hy,hz,J8,hl,he];exact hm) (fun _=>h)
def RC {x y:Src}{z:D}{fx fy:Bool}{l:Nat}{k:D}{kvs:List D}(v:D)(h:aI Y draw r env (⟨f,v⟩::rs) nx m K)(hg:GF rs g f:=by first|exact rfl|exact⟨_,_,rfl,rfl⟩)(hx:cP env rs x=⟨fx,.fn 5000000 [.it l]⟩:=by exact rfl)(hy:cP env rs y=⟨fy,k⟩:=by exact rfl)(kx:f=true->fx=true:=by first|exact fun _=>rfl|exact fun h=>h|(intro h;simp_all))(ky:f=true->fy=true:=by first|exact fun _=>rfl|exact fun h=>h|(intro h;simp_all))(hl:look m l=some (.mpb kvs):=by exact rfl)(hk:qQ k=true:=by exact rfl)(hb:sb kvs=true)(hv:(match EV k kvs with|some v=>D.tup [v,.bool true]|none=>D.tup [z,.bool false])=v):aI Y draw (⟨.lkM z x y,g⟩::r) env rs nx m K:=
 fO rfl hg _ (fun hf=>by simp only[aG.dE,hx,hy,V2,hl];exact⟨kx hf,ky hf,⟨trivial,hb⟩,hk⟩) (fun hf=>by simp only[aG.val,hx,hy,J8,hl];exact hv) m (by simp only[aG.cr]) (fun _=>h)
end
def aB.mp {lo c:Nat}{σ:List (Nat×Nat)}{m r:List (Nat×bL)}{l':Nat}{s s':List D}(l:Nat)(hl:gD lo σ l=some l')(hm:look m l=some (.mpb s))(hs:s'=s)(h:aB lo c σ m r):aB lo c σ m ((l',.mpb s')::r):=
 ⟨.inl ⟨l,_,hl,hm,hs⟩,h⟩
end
section
section
variable {shop:List cC} {us:List cQ} {x:cU} {c:List Int} {j k:Nat}
def zR (h:kE us (gw us x.name []) x.v true<0):jG shop us x c=(9,c):=by rw[jG,ay h]
def ui (hj:gw us x.name []=(j:Nat))(hk:kE us (gw us x.name []) x.v true=(k:Nat))(h:¬kQ shop us[j]!.cands[k]! x=0):jG shop us x c=(kQ shop us[j]!.cands[k]! x,c):=by
 rw[jG,aj ah,hk,hj,Int.toNat_natCast,Int.toNat_natCast,ay h]
def RA (hj:gw us x.name []=(j:Nat))(hk:kE us (gw us x.name []) x.v true=(k:Nat))(h:kQ shop us[j]!.cands[k]! x=0):jG shop us x c=rY us x x.feats (c.set j k):=by
 rw[jG,aj ah,hk,hj,Int.toNat_natCast,Int.toNat_natCast,aj (by rw[h];simp)]
end
def qN (us:List cQ)(x:cU)(c:List Int):Nat->List Int
 |0=>c
 |i+1=>(qN us x c i).set (gw us x.name x.feats[i]!).toNat (kE us (gw us x.name x.feats[i]!) x.v false)
def wX {us:List cQ}{x:cU}{c:List Int}:∀i,(qN us x c i).length=c.length
 |0=>rfl
 |i+1=>by rw[qN,List.length_set,wX]
def rp (a b:aU):D:=.agg [.str a,.str b]
def sx (us:List cQ)(a b:aU):Int×Bool:=(if gw us a b<0 then 0 else gw us a b,decide (0<=gw us a b))
def LB (us:List cQ)(kvs:List D):Prop:=sb kvs=true/\∀a b,(match EV (rp a b) kvs with|some v=>D.tup [v,.bool true]|none=>D.tup [.int .i64 0,.bool false])=.tup [.int .i64 (sx us a b).1,.bool (sx us a b).2]
def B6 {us:List cQ}{a b:aU}(h:(sx us a b).2=false):gw us a b<0:=by simpa[sx]using h
def OE {us:List cQ}{a b:aU}(h:(sx us a b).2=true):∃j:Nat,gw us a b=(j:Int)/\(sx us a b).1=(j:Int)/\1<=j/\j<us.length:=by
 have h0:0<=gw us a b:=by simpa[sx]using h
 rcases sw (us:=us) (a:=a) (b:=b)with h1|⟨j,h1,h2,h3⟩
 .omega
 .exact⟨j,h1,by simp only[sx];rw[aj ah,h1],h2,h3⟩
def Nq {us:List cQ}{u:Int}{j:Nat}{v:aQ}{t:Bool}(h:u=(j:Nat)):kE us u v t=ju (EU v t) us[j]!.cands 0:=by
 rw[kE,aj ah,h,Int.toNat_natCast]
def Rv {us:List cQ}{u:Int}{j:Nat}{v:aQ}{t:Bool}(h:u=(j:Nat))(h2:¬kE us u v t<0):∃k:Nat,kE us u v t=(k:Int)/\k<us[j]!.cands.length:=by
 rcases si (us:=us) (u:=u) (v:=v) (t:=t)with h3|⟨i,k,h3,h4,h5⟩
 .omega
 .have:i=j:=ah;exact⟨k,h4,this▸h5⟩
def BD {us:List cQ}{u:Int}{v:aQ}{t:Bool}(h:u<0):kE us u v t<0:=by rw[kE,ay h];decide
def GA (shop:List cC)(c:dA)(x:cU):Int:=if c.sh=-1 then 0 else shop[c.sh.toNat]!.es[(ix shop[c.sh.toNat]! x.name x.v).toNat]!.sum
def LG (shop:List cC)(c:dA)(x:cU):Prop:=kQ shop c x=if GA shop c x=x.sum then 0 else 13
section
variable {shop:List cC} {c:dA} {x:cU}
def sum_a (h:c.sh=-1/\x.shelf=[]):LG shop c x/\GA shop c x=0:=by
 obtain⟨h1,h2⟩:=h;unfold LG kQ GA;rw[ay h1,aj (by simpa using h2),ay h1];refine⟨?_,rfl⟩;by_cases h3:x.sum=0
 .rw[aj (by simpa using h3),ay h3.symm]
 .rw[ay h3,aj (fun h=>h3 h.symm)]
def GB (h:¬c.sh=-1\/¬x.shelf=[])(h2:(c.sh<0\/(shop.length:Int)<=c.sh)\/¬shop[c.sh.toNat]!.name=x.shelf):kQ shop c x=12:=by
 by_cases h0:c.sh=-1
 .exact RI h0 (h.resolve_left (by simpa using h0))
 .exact RJ h0 h2
def GC (h2:(¬c.sh<0/\¬(shop.length:Int)<=c.sh)/\shop[c.sh.toNat]!.name=x.shelf)(h3:ix shop[c.sh.toNat]! x.name x.v<0):kQ shop c x=13:=
 Om ah h2 (.inl (by rw[qi,ay h3]))
def sum_c (h2:(¬c.sh<0/\¬(shop.length:Int)<=c.sh)/\shop[c.sh.toNat]!.name=x.shelf)(h3:¬ix shop[c.sh.toNat]! x.name x.v<0):LG shop c x/\GA shop c x=shop[c.sh.toNat]!.es[(ix shop[c.sh.toNat]! x.name x.v).toNat]!.sum:=by
 have h4:GA shop c x=shop[c.sh.toNat]!.es[(ix shop[c.sh.toNat]! x.name x.v).toNat]!.sum:=by rw[GA,aj ah]
 have h5:qi shop[c.sh.toNat]! x.name x.v=(shop[c.sh.toNat]!.es[(ix shop[c.sh.toNat]! x.name x.v).toNat]!,true):=by rw[qi,aj h3]
 refine⟨?_,h4⟩;unfold LG;rw[h4];split
 .rename_i h6;exact RL ah h2 (by rw[h5];exact⟨rfl,h6⟩)
 .rename_i h6;exact Om ah h2 (by rw[h5];exact .inr h6)
end
def CS (l k:Nat)(es:List Abs.D)(c:List Int):fL l k es (c.map (D.int .i64))=c.map (D.int .i64):=jj l k es _ (bH (fun _=>rfl) _)
def cU.fz (l k:Nat)(es:List Abs.D)(c:cU):eS l k es c.D=c.D:=kL l k es _ (by simp only[cU.D,D.aZ,aR,fh])
end
def MF (a b:dY):dY.D a=dY.D b↔a=b:=by cases a;cases b;simp[dY.D,MC]
def Fq (a b:List dY):a.map dY.D=b.map dY.D↔a=b:=pk MF a b
def MA (a b:cG):cG.D a=cG.D b↔a=b:=by cases a;cases b;simp[cG.D,Fq]
def A8 (a b:List cG):a.map cG.D=b.map cG.D↔a=b:=pk MA a b
def Uf (a b:ma):ma.D a=ma.D b↔a=b:=by cases a;cases b;simp[ma.D]
def Hr (a b:List ma):a.map ma.D=b.map ma.D↔a=b:=pk Uf a b
def My (a b:cZ):cZ.D a=cZ.D b↔a=b:=by cases a;cases b;simp[cZ.D,MC]
def A7 (a b:List cZ):a.map cZ.D=b.map cZ.D↔a=b:=pk My a b
def ZK (a b:Rec):Rec.D a=Rec.D b↔a=b:=by
 obtain⟨n,⟨v1,v2,v3,v4,v5⟩,x,y,z⟩:=a;obtain⟨n',⟨w1,w2,w3,w4,w5⟩,x',y',z'⟩:=b;simp[Rec.D,A8,Hr,A7,and_assoc]
def Ui (a b:gC):gC.D a=gC.D b↔a=b:=by
 obtain⟨⟨n,⟨v1,v2,v3,v4,v5⟩,x,y,z⟩,s,o⟩:=a;obtain⟨⟨n',⟨w1,w2,w3,w4,w5⟩,x',y',z'⟩,s',o'⟩:=b;simp[gC.D,A8,Hr,A7,and_assoc]
def Mx (a b:List gC):a.map gC.D=b.map gC.D↔a=b:=pk Ui a b
def Um (a b:cC):cC.D a=cC.D b↔a=b:=by cases a;cases b;simp[cC.D,Mx]
def Ro (a b:List cC):a.map cC.D=b.map cC.D↔a=b:=pk Um a b
def ZH (a b:Env):Env.D a=Env.D b↔a=b:=by cases a;cases b;simp[Env.D]
def Uk (a b:cU):cU.D a=cU.D b↔a=b:=by
 obtain⟨n,⟨v1,v2,v3,v4,v5⟩,x,y,z⟩:=a;obtain⟨n',⟨w1,w2,w3,w4,w5⟩,x',y',z'⟩:=b;simp[cU.D,MC,and_assoc]
def Mz (a b:List cU):a.map cU.D=b.map cU.D↔a=b:=pk Uk a b
def ZJ (a b:gT):gT.D a=gT.D b↔a=b:=by
 obtain⟨⟨a1,a2,a3⟩,l⟩:=a;obtain⟨⟨b1,b2,b3⟩,k⟩:=b;simp[gT.D,Mz,and_assoc]
def Rp (a b:Bool):((bif a then 690 else 691)=(bif b then 690 else 691:Nat))↔a=b:=by cases a<;>cases b<;>simp
def PT {A:RT->Prop}(h:A (fun ds d=>A fun ds' d'=>ds'=ds->d=d'):=by
 (repeat' first|apply And.intro|intro _)
 all_goals rename_i e
 all_goals (try simp only[pJ,D.str.injEq,D.int.injEq,D.bool.injEq,D.sl.injEq,D.ref.injEq,D.agg.injEq,D.fn.injEq,MC,Uj,ZG,ZM,MF,Fq,MA,A8,Uf,Hr,My,A7,ZK,Mx,Ui,Um,Ro,ZH,Uk,Mz,ZJ,Uh,Rn,MB,A9,ZL,ME,Ba,MG,Fs,Ug,Mw,Un,MD,ZN,ZI,iGs,Rp,iU8,od,Ul,bW,b9,reduceCtorEq,cw,cv]at e)
 all_goals first|rfl|(simp only[e];done)|simp_all):VR (Bi A):=Te h
def wN {A:FT->Prop}(h:A (fun d ds v s=>A fun d' ds' v' s'=>d'=d->ds'=ds->v=v'/\s=s'):=by
 (repeat' first|apply And.intro|intro _)
 all_goals rename_i e' e
 all_goals (try simp only[pJ,D.str.injEq,D.int.injEq,D.bool.injEq,D.sl.injEq,D.ref.injEq,D.agg.injEq,D.fn.injEq,MC,Uj,ZG,ZM,MF,Fq,MA,A8,Uf,Hr,My,A7,ZK,Mx,Ui,Um,Ro,ZH,Uk,Mz,ZJ,Uh,Rn,MB,A9,ZL,ME,Ba,MG,Fs,Ug,Mw,Un,MD,ZN,ZI,iGs,Rp,iU8,od,Ul,bW,b9]at e e')
 all_goals first|rfl|(simp only[e,e'];done)|simp_all):sI (lL A):=PS h
section
section
variable [di] {P:Program} {ν:List (Nat×Nat)} {cr:List Nat} {t:List (Nat×lF)} {fid n key u k:Nat} {af:ax} {nx:Nat} {m:List (Nat×bL)} {K:D->St->Prop}
def JL {lc n':Nat}{es es':List D}{a b e vd:D}{Q:D->List (Nat×bL)->Prop}(hes:aR es=true)(hes':aR es'=true)(ha:a.aZ=true)(hb:b.aZ=true)(he:e.aZ=true)(hv:vd.aZ=true)(hmix:P.follows .mixedOrders=true)(hC:ER P ν cr fid af)(hnp:4=af.np)(hn:n'=n)
  (hlt:lc<nx) (h1:look m lc=some (.buf 1 es)) (hK:K vd ⟨nx,cR m lc (.buf 1 es')⟩) (hQ:∀d m,Q d m->d=vd/\look m 0=some (.buf 1 es'))
  (hw:bO ((under t key u).at 1) af.body (nC af Q) (fC af [a,b,.own 0 1 0 n,e]) ⟨1,[(0,.buf 1 es)]⟩):mf P ν cr (under t key u) fid [a,b,.own lc 1 0 n',e] ⟨nx,m⟩ K:=by
 subst hn;have g3:fk 0 1 [(lc,0)]=true:=by simp[fk]
 have g4:∀l i,(l,i)∈[(lc,0)]->look m l≠none:=by
  intro l i h;obtain⟨rfl,rfl⟩:=Prod.mk.inj (bJ.1 h);rw[h1];simp
 have g5:∀i b,look [(0,bL.buf 1 es)] i=some b->∃l b',(l,i)∈[(lc,0)]/\look m l=some b'/\lZ 0 [(lc,0)] b' b:=by
  intro i b h;simp only[look]at h;split at h
  .rename_i e;subst e;obtain rfl:=bd h;exact⟨lc,_,.head _,h1,rfl,.inl ⟨rfl,hes⟩⟩
  .cases h
 refine r0 (σi:=[(lc,0)]) (cs:=[a,b,.own 0 1 0 n',e]) (fun q=>qA t key u q) hmix hC rfl ?_ hnp g3 g4 g5 hw ?_
 .intro i hi
  match i,hi with
  |0,_=>exact .inl ⟨rfl,ha⟩
  |1,_=>exact .inl ⟨rfl,hb⟩
  |2,_=>exact .inr (.inl (by simp[kO,vC,gD]))
  |3,_=>exact .inl ⟨rfl,he⟩
 .intro d m1 h;obtain⟨rfl,hj⟩:=hQ d m1 h;refine⟨[(0,lc)],1,⟨nx,cR m lc (.buf 1 es')⟩,d,⟨g3,by simp[fk,hlt],aM _,g4, ?_,g5, ?_⟩,.inl ⟨rfl,hv⟩,hK⟩
  .intro i l h;obtain⟨rfl,rfl⟩:=Prod.mk.inj (bJ.1 h);exact .inl (.head _)
  .intro l bb h;rw[cE]at h;split at h
   .rename_i e;subst e;obtain rfl:=bd h;exact .inl ⟨0,_,.head _,hj,rfl,.inl ⟨rfl,hes'⟩⟩
   .rename_i hne;exact .inr ⟨by simp only[kv,aj (fun e=>hne (Eq.symm e))],(fun i hi=>by obtain⟨rfl,_⟩:=Prod.mk.inj (bJ.1 hi);exact hne rfl),h⟩
def JY {lm lc n':Nat}{es es' kvs:List D}{a b e vd:D}{Q:D->List (Nat×bL)->Prop}(hes:aR es=true)(hes':aR es'=true)(ha:kO 0 [(lc,0),(lm,1)] a=some a)(hb:kO 0 [(lc,0),(lm,1)] b=some b)(he:e.aZ=true)(hv:vd.aZ=true)(hmix:P.follows .mixedOrders=true)(hC:ER P ν cr fid af)(hnp:2=af.np)(hn:n'=n)
  (hlt:lc<nx) (hltm:lm<nx) (h1:look m lc=some (.buf 1 es)) (h2:look m lm=some (.mpb kvs)) (hK:K vd ⟨nx,cR m lc (.buf 1 es')⟩) (hQ:∀d m,Q d m->d=vd/\look m 0=some (.buf 1 es')/\look m 1=some (.mpb kvs))
  (hw:bO ((under t key u).at 2) af.body (nC af Q) (fC af [.agg [a,b,.fn 5000000 [.it 1],.own 0 1 0 n],e]) ⟨2,[(0,.buf 1 es),(1,.mpb kvs)]⟩):mf P ν cr (under t key u) fid [.agg [a,b,.fn 5000000 [.it lm],.own lc 1 0 n'],e] ⟨nx,m⟩ K:=by
 subst hn;have hne:lc≠lm:=by rintro rfl;rw[h1]at h2;cases h2
 have b1:Nat.beq lc lm=false:=by rw[<-Bool.not_eq_true];exact fun h=>hne (Nat.eq_of_beq_eq_true h)
 have b2:Nat.beq lm lc=false:=by rw[<-Bool.not_eq_true];exact fun h=>hne (Nat.eq_of_beq_eq_true h).symm
 have g3:fk 0 2 [(lc,0),(lm,1)]=true:=by simp[fk,b1,b2,Nat.blt];exact rfl
 have g4:∀l i,(l,i)∈[(lc,0),(lm,1)]->look m l≠none:=by
  intro l i h;simp only[cM,dm,dI,or_false]at h;rcases h with⟨rfl,_⟩|⟨rfl,_⟩<;>simp[h1,h2]
 have g5:∀i b,look [(0,bL.buf 1 es),(1,.mpb kvs)] i=some b->∃l b',(l,i)∈[(lc,0),(lm,1)]/\look m l=some b'/\lZ 0 [(lc,0),(lm,1)] b' b:=by
  intro i b h;simp only[look]at h;split at h
  .rename_i e;subst e;obtain rfl:=bd h;exact⟨lc,_,.head _,h1,rfl,.inl ⟨rfl,hes⟩⟩
  .split at h
   .rename_i e;subst e;obtain rfl:=bd h;exact⟨lm,_,.tail _ (.head _),h2,rfl⟩
   .cases h
 refine r0 (σi:=[(lc,0),(lm,1)]) (cs:=[.agg [a,b,.fn 5000000 [.it 1],.own 0 1 0 n'],e]) (fun q=>qA t key u q) hmix hC rfl ?_ hnp g3 g4 g5 hw ?_
 .intro i hi
  match i,hi with
  |0,_=>exact .inr (.inl (by simp[kO,jm,vC,gD,ha,hb,b1,b2]))
  |1,_=>exact .inl ⟨rfl,he⟩
 .intro d m1 h;obtain⟨rfl,hj,hk⟩:=hQ d m1 h;refine⟨[(0,lc),(1,lm)],2,⟨nx,cR m lc (.buf 1 es')⟩,d,⟨g3,by simp[fk,hlt,hltm,b1,b2,Nat.blt];exact⟨hlt,rfl,hltm⟩,aM _,g4, ?_,g5, ?_⟩,.inl ⟨rfl,hv⟩,hK⟩
  .intro i l h;simp only[cM,dm,dI,or_false]at h;rcases h with⟨rfl,rfl⟩|⟨rfl,rfl⟩
   .exact .inl (.head _)
   .exact .inl (.tail _ (.head _))
  .intro l bb h;rw[cE]at h;split at h
   .rename_i e;subst e;obtain rfl:=bd h;exact .inl ⟨0,_,.head _,hj,rfl,.inl ⟨rfl,hes'⟩⟩
   .rename_i h3;by_cases h4:l=lm
    .subst h4;rw[h2]at h;obtain rfl:=bd h;exact .inl ⟨1,_,.tail _ (.head _),hk,rfl⟩
    .exact .inr ⟨by simp only[kv,aj (fun e=>h3 (Eq.symm e)),aj (fun e=>h4 (Eq.symm e))],(fun i hi=>by
      simp only[cM,dm,dI,or_false]at hi;rcases hi with⟨rfl,_⟩|⟨rfl,_⟩
      .exact h3 rfl
      .exact h4 rfl),h⟩
end
end
section
section
variable [di] {P:Program} {ν:List (Nat×Nat)} {cr:List Nat} {t:List (Nat×lF)} {fid n key u k:Nat} {af:ax} {nx:Nat} {m:List (Nat×bL)} {K:D->St->Prop}
def oR {a b:Nat}(h:a≠b):Nat.beq a b=false:=by
 cases h2:Nat.beq a b with
 |false=>rfl
 |true=>exact absurd (Nat.eq_of_beq_eq_true h2) h
def ym {m:List (Nat×bL)}{l lw:Nat}(h:l≠lw):fD (cA m lw) l=match look m l with
 |some (.bld (some l2) _ _)=>cA (cA m lw) l2
 |_=>cA m lw:=by
 grind [fD,fo,look]
def J3 {ws:List aU}{s:aU}{l lw:Nat}(hmix:P.follows .mixedOrders=true)(hC:ER P ν cr fid af)(hnp:2=af.np)
  (h1:qo m l s) (h2:look m lw=some (.buf 1 (ws.map D.str))) (h3:l<nx) (h4:lw<nx) (hK:K (.tup []) ⟨nx+1,oS (cA m lw) l nx (s++cO ws)⟩)
  (hw:∀m0,qo m0 0 s->look m0 1=some (.buf 1 (ws.map D.str))->bO ((under t key u).at 3) af.body (nC af (fun d m=>d=.tup []/\look m 0=some (.bld (some 9) (s++cO ws).length true)/\look m 9=some (.row (s++cO ws)))) (fC af [.ptr 0 2 0 0,.own 1 1 0 ws.length]) ⟨3,m0⟩):
  mf P ν cr (under t key u) fid [.ptr l 2 0 0,.own lw 1 0 ws.length] ⟨nx,m⟩ K:=by
 have hlw:l≠lw:=by
  rintro rfl;rcases h1 with⟨u,h,_⟩|⟨l2,u,h,_⟩<;>rw[h2]at h<;>cases h
 have hnl:aR (ws.map D.str)=true:=bH (fun _=>rfl) _;have b1:=oR hlw;have b2:=oR (Ne.symm hlw);have b3:=oR (show l≠nx by omega);have b4:=oR (show nx≠l by omega)

 have fin:∀(σi:List (Nat×Nat)) (m0:List (Nat×bL)),fk 0 3 σi=true->(l,0)∈σi->(∀l i,(l,i)∈σi->look m l≠none)->(∀i b,look m0 i=some b->∃l b',(l,i)∈σi/\look m l=some b'/\lZ 0 σi b' b)->
   (∀l' b,look (fD (cA m lw) l) l'=some b->l'≠l->look m l'=some b/\∀i,(l',i)∉σi)->∀d m1,(d=.tup []/\look m1 0=some (.bld (some 9) (s++cO ws).length true)/\look m1 9=some (.row (s++cO ws)))->
   ∃(σo:List (Nat×Nat)) (q1:Nat) (st':St) (vd':D),Fr σi σo 3 q1 m0 m1 ⟨nx,m⟩ st'/\Pv 0 σo d vd'/\K vd' st':=by
  rintro σi m0 oki hm hlt hm0 hoff d m1 ⟨rfl,e0,e9⟩;refine⟨[(0,l),(9,nx)],10,⟨nx+1,oS (cA m lw) l nx (s++cO ws)⟩,.tup [],⟨oki, ?_,Nat.le_succ _,hlt, ?_,hm0, ?_⟩,.inl ⟨rfl,rfl⟩,hK⟩
  .simp[fk,b3,b4];exact⟨ah,rfl⟩
  .intro i l' h;rcases cM.1 h with h|h
   .obtain⟨rfl,rfl⟩:=Prod.mk.inj h;exact .inl hm
   .obtain⟨rfl,rfl⟩:=Prod.mk.inj (bJ.1 h);exact .inr (aM _)
  .intro l' bb h;simp only[oS,look]at h;split at h
   .rename_i e;subst e;obtain rfl:=bd h;exact .inl ⟨9,_,.tail _ (.head _),e9,rfl⟩
   .rename_i hln;rw[cE]at h;split at h
    .rename_i e;subst e;obtain rfl:=bd h;exact .inl ⟨0,_,.head _,e0,⟨nx,rfl,rfl⟩,rfl,rfl⟩
    .rename_i hl;obtain⟨g1,g2⟩:=hoff l' bb h hl;exact .inr ⟨by simp only[kv,aj (fun e=>hl (Eq.symm e)),aj hln],g2,g1⟩
 rcases h1 with⟨u,h1,rfl⟩|⟨l2,u,h1,h5⟩
 .have g4:∀l' i,(l',i)∈[(l,0),(lw,1)]->look m l'≠none:=by
   intro l' i h;rcases cM.1 h with h|h
   .obtain⟨rfl,rfl⟩:=Prod.mk.inj h;rw[h1];simp
   .obtain⟨rfl,rfl⟩:=Prod.mk.inj (bJ.1 h);rw[h2];simp
  have g3:fk 0 3 [(l,0),(lw,1)]=true:=by simp[fk,b1,b2];rfl
  have g5:∀i b,look [(0,bL.bld none 0 u),(1,.buf 1 (ws.map D.str))] i=some b->∃l' b',(l',i)∈[(l,0),(lw,1)]/\look m l'=some b'/\lZ 0 [(l,0),(lw,1)] b' b:=by
   intro i b h;simp only[look]at h;split at h
   .rename_i e;subst e;obtain rfl:=bd h;exact⟨l,_,.head _,h1,rfl,rfl,rfl⟩
   .split at h
    .rename_i e;subst e;obtain rfl:=bd h;exact⟨lw,_,.tail _ (.head _),h2,rfl,.inl ⟨rfl,hnl⟩⟩
    .cases h
  refine r0 (σi:=[(l,0),(lw,1)]) (cs:=[.ptr 0 2 0 0,.own 1 1 0 ws.length]) (fun q=>qA t key _ q) hmix hC rfl ?_ hnp g3 g4 g5 (hw _ (.inl ⟨u,rfl,rfl⟩) rfl) (fin _ _ g3 (.head _) g4 g5 ?_)
  .intro i hi
   match i,hi with
   |0,_=>exact .inr (.inl (by simp[kO,vC,gD]))
   |1,_=>exact .inr (.inl (by simp[kO,vC,gD,b1]))
  .intro l' b h hl;rw[ym hlw]at h;simp only[h1]at h;rw[fo]at h;split at h
   .cases h
   .rename_i hw';refine⟨h,fun i hi=>?_⟩;rcases cM.1 hi with hi|hi
    .exact hl (Prod.mk.inj hi).1
    .exact hw' (Prod.mk.inj (bJ.1 hi)).1
 .have c1:l2≠l:=by rintro rfl;rw[h1]at h5;cases h5
  have c2:l2≠lw:=by rintro rfl;rw[h2]at h5;cases h5
  have d1:=oR c1;have d2:=oR c2;have d3:=oR (Ne.symm c1);have d4:=oR (Ne.symm c2);have g4:∀l' i,(l',i)∈[(l,0),(lw,1),(l2,2)]->look m l'≠none:=by
   intro l' i h;rcases cM.1 h with h|h
   .obtain⟨rfl,rfl⟩:=Prod.mk.inj h;rw[h1];simp
   .rcases cM.1 h with h|h
    .obtain⟨rfl,rfl⟩:=Prod.mk.inj h;rw[h2];simp
    .obtain⟨rfl,rfl⟩:=Prod.mk.inj (bJ.1 h);rw[h5];simp
  have g3:fk 0 3 [(l,0),(lw,1),(l2,2)]=true:=by simp[fk,b1,b2,d1,d2,d3,d4];exact⟨⟨rfl,rfl⟩,rfl⟩
  have g5:∀i b,look [(0,bL.bld (some 2) s.length u),(1,.buf 1 (ws.map D.str)),(2,.row s)] i=some b->∃l' b',(l',i)∈[(l,0),(lw,1),(l2,2)]/\look m l'=some b'/\lZ 0 [(l,0),(lw,1),(l2,2)] b' b:=by
   intro i b h;simp only[look]at h;split at h
   .rename_i e;subst e;obtain rfl:=bd h;exact⟨l,_,.head _,h1,⟨2,by simp[gD,d3,d4],rfl⟩,rfl,rfl⟩
   .split at h
    .rename_i e;subst e;obtain rfl:=bd h;exact⟨lw,_,.tail _ (.head _),h2,rfl,.inl ⟨rfl,hnl⟩⟩
    .split at h
     .rename_i e;subst e;obtain rfl:=bd h;exact⟨l2,_,.tail _ (.tail _ (.head _)),h5,rfl⟩
     .cases h
  refine r0 (σi:=[(l,0),(lw,1),(l2,2)]) (cs:=[.ptr 0 2 0 0,.own 1 1 0 ws.length]) (fun q=>qA t key _ q) hmix hC rfl ?_ hnp g3 g4 g5 (hw _ (.inr ⟨2,u,rfl,rfl⟩) rfl) (fin _ _ g3 (.head _) g4 g5 ?_)
  .intro i hi
   match i,hi with
   |0,_=>exact .inr (.inl (by simp[kO,vC,gD]))
   |1,_=>exact .inr (.inl (by simp[kO,vC,gD,b1]))
  .intro l' b h hl;rw[ym hlw]at h;simp only[h1]at h;rw[fo]at h;split at h
   .cases h
   .rename_i hw2;rw[fo]at h;split at h
    .cases h
    .rename_i hw';refine⟨h,fun i hi=>?_⟩;rcases cM.1 hi with hi|hi
     .exact hl (Prod.mk.inj hi).1
     .rcases cM.1 hi with hi|hi
      .exact hw' (Prod.mk.inj hi).1
      .exact hw2 (Prod.mk.inj (bJ.1 hi)).1
end
end
section
section
variable [di] {P:Program} {ν:List (Nat×Nat)} {cr:List Nat} {t:List (Nat×lF)} {fid n key u k:Nat} {af:ax} {nx:Nat} {m:List (Nat×bL)} {K:D->St->Prop}
def Dw {lo kk n n':Nat}{es es' amf:List D}{Q:D->List (Nat×bL)->Prop}(hes:aR es=true)(hes':aR es'=true)(has:aR amf=true)(hmix:P.follows .mixedOrders=true)(hC:ER P ν cr fid af)(hnp:amf.length+1=af.np)
  (h1:look m lo=some (.buf k es)) (hlo:lo<nx) (hQ:∀d m,Q d m->∃j,d=.own j kk 0 n'/\look m j=some (.buf kk es')) (hK:K (.own nx kk 0 n') ⟨nx+1,(nx,.buf kk es')::cA m lo⟩)
  (hw:bO ((under t key u).at 1) af.body (nC af Q) (fC af (.own 0 k 0 n::amf)) ⟨1,[(0,.buf k es)]⟩):mf P ν cr (under t key u) fid (.own lo k 0 n::amf) ⟨nx,m⟩ K:=by
 have g3:fk 0 1 [(lo,0)]=true:=by simp[fk]
 have g4:∀l i,(l,i)∈[(lo,0)]->look m l≠none:=by
  intro l i h;obtain⟨rfl,rfl⟩:=Prod.mk.inj (bJ.1 h);rw[h1];simp
 have g5:∀i b,look [(0,bL.buf k es)] i=some b->∃l b',(l,i)∈[(lo,0)]/\look m l=some b'/\lZ 0 [(lo,0)] b' b:=by
  intro i b h;simp only[look]at h;split at h
  .rename_i e;subst e;obtain rfl:=bd h;exact⟨lo,_,.head _,h1,rfl,.inl ⟨rfl,hes⟩⟩
  .cases h
 refine r0 (σi:=[(lo,0)]) (cs:=.own 0 k 0 n::amf) (fun q=>qA t key u q) hmix hC bg ?_ (by simpa using hnp) g3 g4 g5 hw ?_
 .intro i hi
  match i with
  |0=>exact .inr (.inl (by simp[kO,vC,gD]))
  |i+1=>exact .inl ⟨rfl,cH has i⟩
 .intro d m1 h;obtain⟨j,rfl,hj⟩:=hQ d m1 h;refine⟨[(j,nx)],j+1,_,_,⟨g3, ?_,Nat.le_succ _,g4, ?_,g5, ?_⟩,.inr (.inl (by simp[kO,vC,gD])),hK⟩
  .simp[fk]
  .intro i l h;obtain⟨rfl,rfl⟩:=Prod.mk.inj (bJ.1 h);exact .inr (aM _)
  .intro l bb h;simp only[look]at h;split at h
   .rename_i e;subst e;obtain rfl:=bd h;exact .inl ⟨j,_,.head _,hj,rfl,.inl ⟨rfl,hes'⟩⟩
   .rename_i hn;rw[fo]at h;split at h
    .cases h
    .rename_i hl;refine .inr ⟨by simp only[kv,aj hn],fun i hi=>?_,h⟩;exact hl (Prod.mk.inj (bJ.1 hi)).1
def Bz {lo n:Nat}{es amf:List D}{v:D}{Q:D->List (Nat×bL)->Prop}(hes:aR es=true)(hv:v.aZ=true)(has:aR amf=true)(hmix:P.follows .mixedOrders=true)(hC:ER P ν cr fid af)(hnp:amf.length+1=af.np)
  (h1:look m lo=some (.buf k es)) (hlo:lo<nx) (hQ:∀d m,Q d m->d=v) (hK:K v ⟨nx,cA m lo⟩)
  (hw:bO ((under t key u).at 1) af.body (nC af Q) (fC af (.own 0 k 0 n::amf)) ⟨1,[(0,.buf k es)]⟩):mf P ν cr (under t key u) fid (.own lo k 0 n::amf) ⟨nx,m⟩ K:=by
 have g3:fk 0 1 [(lo,0)]=true:=by simp[fk]
 have g4:∀l i,(l,i)∈[(lo,0)]->look m l≠none:=by
  intro l i h;obtain⟨rfl,rfl⟩:=Prod.mk.inj (bJ.1 h);rw[h1];simp
 have g5:∀i b,look [(0,bL.buf k es)] i=some b->∃l b',(l,i)∈[(lo,0)]/\look m l=some b'/\lZ 0 [(lo,0)] b' b:=by
  intro i b h;simp only[look]at h;split at h
  .rename_i e;subst e;obtain rfl:=bd h;exact⟨lo,_,.head _,h1,rfl,.inl ⟨rfl,hes⟩⟩
  .cases h
 refine r0 (σi:=[(lo,0)]) (cs:=.own 0 k 0 n::amf) (fun q=>qA t key u q) hmix hC bg ?_ (by simpa using hnp) g3 g4 g5 hw ?_
 .intro i hi
  match i with
  |0=>exact .inr (.inl (by simp[kO,vC,gD]))
  |i+1=>exact .inl ⟨rfl,cH has i⟩
 .intro d m1 h;have hd:=hQ d m1 h;refine⟨[],1,⟨nx,cA m lo⟩,v,⟨g3,rfl,aM _,g4,(fun _ _ h=>by cases h),g5, ?_⟩,.inl ⟨hd.symm,by rw[hd];exact hv⟩,hK⟩;intro l bb h;simp only at h;rw[fo]at h;split at h
  .cases h
  .rename_i hl;refine .inr ⟨rfl,fun i hi=>?_,h⟩;exact hl (Prod.mk.inj (bJ.1 hi)).1
def Oh {g g':Gs}{xs:List CW}{kk lc:Nat}{E:List D}{v:D}{Q:D->List (Nat×bL)->Prop}(hv:v.aZ=true)(hE:aR E=true)(hmix:P.follows .mixedOrders=true)(hC:ER P ν cr fid af)(hnp:2=af.np)
  (hn:lc≠0/\lc≠10/\lc<nx/\11<=nx) (h0:look m 0=some (.buf 2 [g.D])) (h1:look m lc=some (.buf 8 (xs.map (CW.D 10)))) (h10:look m 10=some (.buf kk E)) (hK:K v ⟨nx,cR m 0 (.buf 2 [g'.D])⟩)
  (hQ:∀d m1,Q d m1->d=v/\look m1 0=some (.buf 2 [g'.D])/\look m1 1=some (.buf 8 (xs.map (CW.D 10)))/\look m1 10=some (.buf kk E))
  (hw:bO ((under t key u).at 11) af.body (nC af Q) (fC af [.ptr 0 2 0 0,.own 1 8 0 xs.length]) ⟨11,[(0,.buf 2 [g.D]),(1,.buf 8 (xs.map (CW.D 10))),(10,.buf kk E)]⟩):mf P ν cr (under t key u) fid [.ptr 0 2 0 0,.own lc 8 0 xs.length] ⟨nx,m⟩ K:=by
 have b1:=ik hn.1;have b2:=ik hn.2.1;have b3:=ik (Ne.symm hn.1);have b4:=ik (Ne.symm hn.2.1);have r10:gD 0 [(0,0),(lc,1),(10,10)] 10=some 10:=by simp only[gD,b2,cond_false];rfl
 have o10:gD 0 [(0,0),(1,lc),(10,10)] 10=some 10:=rfl;have g3:fk 0 11 [(0,0),(lc,1),(10,10)]=true:=by simp[fk,b1,b2,b3,b4,Nat.blt];exact⟨⟨rfl,rfl⟩,rfl⟩
 have g4:∀l i,(l,i)∈[(0,0),(lc,1),(10,10)]->look m l≠none:=by
  intro l i h;simp only[cM,dm,dI,or_false]at h;rcases h with⟨rfl,_⟩|⟨rfl,_⟩|⟨rfl,_⟩<;>simp[h0,h1,h10]
 have g5:∀i b,look [(0,bL.buf 2 [g.D]),(1,.buf 8 (xs.map (CW.D 10))),(10,.buf kk E)] i=some b->∃l b',(l,i)∈[(0,0),(lc,1),(10,10)]/\look m l=some b'/\lZ 0 [(0,0),(lc,1),(10,10)] b' b:=by
  intro i b h;simp only[look]at h;split at h
  .rename_i e;subst e;obtain rfl:=bd h;exact⟨0,_,.head _,h0,rfl,.inl ⟨rfl,rfl⟩⟩
  .split at h
   .rename_i e;subst e;obtain rfl:=bd h;exact⟨lc,_,.tail _ (.head _),h1,rfl,.inr (.inl (dM r10 xs))⟩
   .split at h
    .rename_i e;subst e;obtain rfl:=bd h;exact⟨10,_,.tail _ (.tail _ (.head _)),h10,rfl,.inl ⟨rfl,hE⟩⟩
    .cases h
 refine r0 (σi:=[(0,0),(lc,1),(10,10)]) (cs:=[.ptr 0 2 0 0,.own 1 8 0 xs.length]) (fun q=>qA t key u q) hmix hC rfl ?_ hnp g3 g4 g5 hw ?_
 .intro i hi
  match i,hi with
  |0,_=>exact .inr (.inl (by simp[kO,vC,gD]))
  |1,_=>exact .inr (.inl (by simp[kO,vC,gD,b3]))
 .intro d m1 h;obtain⟨hd,q0,q1,q10⟩:=hQ d m1 h;refine⟨[(0,0),(1,lc),(10,10)],11,⟨nx,cR m 0 (.buf 2 [g'.D])⟩,v,⟨g3, ?_,aM _,g4, ?_,g5, ?_⟩,.inl ⟨hd.symm,by rw[hd];exact hv⟩,hK⟩
  .simp only[fk,List.all_cons,List.all_nil,b1,b2,b3,b4,Bool.not_false,fh,eJ,Nat.blt,br,Nat.ble_eq];repeat' first|exact rfl|exact Nat.zero_le _|omega|refine And.intro ?_ ?_
  .intro i l h;simp only[cM,dm,dI,or_false]at h;rcases h with⟨rfl,rfl⟩|⟨rfl,rfl⟩|⟨rfl,rfl⟩
   .exact .inl (.head _)
   .exact .inl (.tail _ (.head _))
   .exact .inl (.tail _ (.tail _ (.head _)))
  .intro l bb h;simp only at h;rw[dy]at h;split at h
   .rename_i e;subst e;obtain rfl:=bd h;exact .inl ⟨0,_,.head _,q0,rfl,.inl ⟨rfl,rfl⟩⟩
   .rename_i e0;by_cases e1:l=lc
    .subst e1;rw[h1]at h;obtain rfl:=bd h;exact .inl ⟨1,_,.tail _ (.head _),q1,rfl,.inr (.inl (dM o10 xs))⟩
    .by_cases e2:l=10
     .subst e2;rw[h10]at h;obtain rfl:=bd h;exact .inl ⟨10,_,.tail _ (.tail _ (.head _)),q10,rfl,.inl ⟨rfl,hE⟩⟩
     .refine .inr ⟨by simp only[kv,aj (fun e=>e0 (Eq.symm e)),aj (fun e=>e1 (Eq.symm e)),aj (fun e=>e2 (Eq.symm e))],fun i hi=>?_,h⟩;simp only[cM,dm,dI,or_false]at hi;rcases hi with⟨h,_⟩|⟨h,_⟩|⟨h,_⟩
      .exact e0 h
      .exact e1 h
      .exact e2 h
end
end
section
def Lc:List (Nat×Nat):=[(0,0),(1,1),(2,2),(3,3),(4,4),(5,5),(6,6),(7,7),(8,8),(9,9),(10,10)]
def A2 {l i:Nat}(h:(l,i)∈Lc):i=l/\l<=10:=by
 simp only[Lc,cM,dm,dI,or_false]at h;omega
def P8:∀l,l<11->(l,l)∈Lc:=bj
def xb {l:Nat}(h:l<=10):(l,l)∈Lc:=P8 l ah
def yD {m:List (Nat×bL)}{g:Gs}{n:Nat}{nm ft:Nat->aU}{cs:Nat->List CW}{kk:Nat}{E:List D}(hn:n<=8)(hE:aR E=true)(h:Pz m g n nm ft cs kk E){l:Nat}(h1:1<=l)(h10:l<=10):∃b,(∀m2 g2,Pz m2 g2 n nm ft cs kk E->look m2 l=some b)/\lZ 0 Lc b b:=by
 rcases dQ l 2 with h2|h2
 .obtain rfl:l=1:=ah;exact⟨_,fun m2 g2 w=>w.2.1,rfl,.inr (.inl (jO _ fun j hj=>fA ah))⟩
 .rcases dQ l 10 with h3|h3
  .obtain⟨j,rfl⟩:∃j,l=2+j:=⟨l-2,ah⟩
   exact⟨_,fun m2 g2 w=>w.2.2.1 j ah,rfl,.inr (.inl (dM rfl _))⟩
  .obtain rfl:l=10:=ah;exact⟨_,fun m2 g2 w=>w.2.2.2,rfl,.inl ⟨rfl,hE⟩⟩
section
variable [di] {P:Program} {ν:List (Nat×Nat)} {cr:List Nat} {t:List (Nat×lF)} {fid key u k:Nat} {af:ax} {nx:Nat} {m:List (Nat×bL)} {K:D->St->Prop}
def EC {g g':Gs}{n c:Nat}{nm ft:Nat->aU}{cs:Nat->List CW}{kk:Nat}{E amf:List D}{v:D}{m0:List (Nat×bL)}{Q:D->List (Nat×bL)->Prop}(hv:v.aZ=true)(hE:aR E=true)(has:aR amf=true)(hn:n<=8)(hmix:P.follows .mixedOrders=true)(hC:ER P ν cr fid af)(hnp:amf.length+2=af.np)
  (hx:11<=nx) (hw:Pz m g n nm ft cs kk E) (h0:Pz m0 g n nm ft cs kk E) (hm0:∀i,11<=i->look m0 i=none) (hK:K v ⟨nx,cR m 0 (.buf 2 [g'.D])⟩) (hQ:∀d m1,Q d m1->d=v/\Pz m1 g' n nm ft cs kk E)
  (hwp:bO ((under t key u).at 11) af.body (nC af Q) (fC af (.ptr 0 2 0 0::.own 1 3 0 c::amf)) ⟨11,m0⟩):mf P ν cr (under t key u) fid (.ptr 0 2 0 0::.own 1 3 0 c::amf) ⟨nx,m⟩ K:=by
 have g4:∀l i,(l,i)∈Lc->look m l≠none:=by
  intro l i h;obtain⟨_,hl⟩:=A2 h;rcases Nat.eq_zero_or_pos l with rfl|hp
  .rw[hw.1];simp
  .obtain⟨b,hb,_⟩:=yD hn hE hw hp hl;rw[hb _ _ hw];simp
 have g5:∀i b,look m0 i=some b->∃l b',(l,i)∈Lc/\look m l=some b'/\lZ 0 Lc b' b:=by
  intro i b h;rcases dQ i 11 with hi|hi
  .rcases Nat.eq_zero_or_pos i with rfl|hp
   .rw[h0.1]at h;obtain rfl:=bd h;exact⟨0,_,xb ah,hw.1,rfl,.inl ⟨rfl,rfl⟩⟩
   .obtain⟨b2,hb,hr⟩:=yD hn hE hw hp ah;rw[hb _ _ h0]at h;obtain rfl:=bd h;exact⟨i,_,xb ah,hb _ _ hw,hr⟩
  .rw[hm0 i hi]at h;cases h
 refine r0 (σi:=Lc) (cs:=.ptr 0 2 0 0::.own 1 3 0 c::amf) (fun q=>qA t key u q) hmix hC rfl ?_ (by simpa using hnp) rfl g4 g5 hwp ?_
 .intro i hi
  match i with
  |0=>exact .inr (.inl rfl)
  |1=>exact .inr (.inl rfl)
  |i+2=>exact .inl ⟨rfl,cH has i⟩
 .intro d m1 h;obtain⟨hd,q⟩:=hQ d m1 h;refine⟨Lc,11,⟨nx,cR m 0 (.buf 2 [g'.D])⟩,v,⟨rfl, ?_,aM _,g4, ?_,g5, ?_⟩,.inl ⟨hd.symm,by rw[hd];exact hv⟩,hK⟩
  .simp only[Lc,fk,Nat.blt,br,Nat.ble_eq];repeat' first|exact rfl|exact Nat.zero_le _|omega|refine And.intro ?_ ?_
  .intro i l h;obtain⟨rfl,hl⟩:=A2 h;exact .inl (xb hl)
  .intro l bb h;simp only at h;rw[dy]at h;split at h
   .rename_i e;subst e;obtain rfl:=bd h;exact .inl ⟨0,_,xb ah,q.1,rfl,.inl ⟨rfl,rfl⟩⟩
   .rename_i e0;rcases dQ l 11 with hl|hl
    .obtain⟨b2,hb,hr⟩:=yD hn hE hw (show 1<=l by omega) ah;rw[hb _ _ hw]at h;obtain rfl:=bd h;exact .inl ⟨l,_,xb ah,hb _ _ q,hr⟩
    .refine .inr ⟨?_,fun i hi=>by have:=(A2 hi).2;omega,h⟩;simp only[Lc,kv];repeat(rw[aj ah])
end
end
section
def Oi (nx:Nat):List (Nat×Nat):=[(0,0),(1,nx),(2,nx+1),(3,nx+2),(4,nx+3),(5,nx+4),(6,nx+5),(7,nx+6),(8,nx+7),(9,nx+8)]
def QT {nx l i:Nat}(h:(i,l)∈Oi nx):i=0/\l=0\/nx<=l:=by
 simp only[Oi,cM,dm,dI,or_false]at h;omega
def VA {nx j:Nat}(h:j<8):gD 0 (Oi nx) (2+j)=some (nx+1+j):=by
 match j,h with
 |0,_|1,_|2,_|3,_|4,_|5,_|6,_|7,_=>rfl
def Vz {nx j:Nat}(h:j<8):(2+j,nx+1+j)∈Oi nx:=by
 match j,h with
 |0,_|1,_|2,_|3,_|4,_|5,_|6,_|7,_=>simp[Oi]
def Px {nx:Nat}{us:List RU}(h:us.length<=8):jm 0 (Oi nx) (ze us)=some (VU (nx+1) us):=by
 unfold ze UB VU;have h2:∀j∈List.range us.length,gD 0 (Oi nx) (2+j)=some (nx+1+j):=fun j hj=>VA (by have:=List.mem_range.1 hj;omega)
 revert h2;generalize List.range us.length=r;intro h2;induction r with
 |nil=>rfl
 |cons a r ih=>
  have:=h2 a (.head _);simp only[List.map_cons,jm,UD,kO,vC,this,ih fun j hj=>h2 j (.tail _ hj)]
def Py {g:Gs}{us:List RU}{j:Nat}(h:j<8):look (UM g us) (2+j)=some (.buf 8 (us[j]!.cs.map (CW.D 10))):=by
 match j,h with
 |0,_|1,_|2,_|3,_|4,_|5,_|6,_|7,_=>rfl
def LI {nx l:Nat}{us:List RU}{r:List (Nat×bL)}{b:bL}(h:look (VV nx us++r) l=some b):l=nx/\b=.buf 3 (VU (nx+1) us)\/(∃j,j<8/\l=nx+1+j/\b=.buf 8 (us[j]!.cs.map (CW.D 10)))\/(l<nx\/nx+8<l)/\look r l=some b:=by
 simp only[VV,fR,fQ,look]at h;split at h
 .exact .inl ⟨ah,(bd h).symm⟩
 split at h
 .exact .inr (.inl ⟨0,bj,ah,(bd h).symm⟩)
 split at h
 .exact .inr (.inl ⟨1,bj,ah,(bd h).symm⟩)
 split at h
 .exact .inr (.inl ⟨2,bj,ah,(bd h).symm⟩)
 split at h
 .exact .inr (.inl ⟨3,bj,ah,(bd h).symm⟩)
 split at h
 .exact .inr (.inl ⟨4,bj,ah,(bd h).symm⟩)
 split at h
 .exact .inr (.inl ⟨5,bj,ah,(bd h).symm⟩)
 split at h
 .exact .inr (.inl ⟨6,bj,ah,(bd h).symm⟩)
 split at h
 .exact .inr (.inl ⟨7,bj,ah,(bd h).symm⟩)
 exact .inr (.inr ⟨ah,h⟩)
def yz (g:Gs)(few:Int):(ff g few).1.length<=8/\∀u∈(ff g few).1,u.pl:=by
 obtain⟨more,e,hm,hl,_,_⟩:=As (g:=g) (few:=few);rw[e];refine⟨by simp only[Av,bS,List.length_singleton];omega,fun u hu=>?_⟩;rcases List.mem_append.1 hu with h|h
 .obtain rfl:=bJ.1 h;intro c hc;obtain rfl:=bJ.1 hc;rfl
 .obtain⟨vs,e,_⟩:=hm u h;intro c hc;rw[e]at hc;exact fP vs c hc
def ED {a b c d e f g h i j k:bL}{l:Nat}(hl:11<=l):look [(0,a),(1,b),(2,c),(3,d),(4,e),(5,f),(6,g),(7,h),(8,i),(9,j),(10,k)] l=none:=by
 simp only[look];repeat rw[aj ah]
section
variable [di] {P:Program} {ν:List (Nat×Nat)} {cr:List Nat} {t:List (Nat×lF)} {fid key u k:Nat} {af:ax} {nx:Nat} {m:List (Nat×bL)} {K:D->St->Prop}
def GH {g g1:Gs}{us:List RU}{amf:List D}{Q:D->List (Nat×bL)->Prop}(has:aR amf=true)(hpl:∀u∈us,u.pl)(hl8:us.length<=8)(hmix:P.follows .mixedOrders=true)(hC:ER P ν cr fid af)(hnp:amf.length+1=af.np)
  (h0:look m 0=some (.buf 2 [g.D])) (hx:0<nx) (hQ:∀d m1,Q d m1->d=.own 1 3 0 us.length/\m1=UM g1 us) (hK:K (.own nx 3 0 us.length) ⟨nx+9,VV nx us++cR m 0 (.buf 2 [g1.D])⟩)
  (hw:bO ((under t key u).at 1) af.body (nC af Q) (fC af (.ptr 0 2 0 0::amf)) ⟨1,[(0,.buf 2 [g.D])]⟩):mf P ν cr (under t key u) fid (.ptr 0 2 0 0::amf) ⟨nx,m⟩ K:=by
 have g3:fk 0 1 [(0,0)]=true:=rfl;have g4:∀l i,(l,i)∈[(0,0)]->look m l≠none:=by
  intro l i h;obtain⟨rfl,rfl⟩:=Prod.mk.inj (bJ.1 h);rw[h0];simp
 have g5:∀i b,look [(0,bL.buf 2 [g.D])] i=some b->∃l b',(l,i)∈[(0,0)]/\look m l=some b'/\lZ 0 [(0,0)] b' b:=by
  intro i b h;simp only[look]at h;split at h
  .rename_i e;subst e;obtain rfl:=bd h;exact⟨0,_,.head _,h0,rfl,.inl ⟨rfl,rfl⟩⟩
  .cases h
 refine r0 (σi:=[(0,0)]) (cs:=.ptr 0 2 0 0::amf) (fun q=>qA t key u q) hmix hC bg ?_ (by simpa using hnp) g3 g4 g5 hw ?_
 .intro i hi
  match i with
  |0=>exact .inr (.inl rfl)
  |i+1=>exact .inl ⟨rfl,cH has i⟩
 .intro d m1 h;obtain⟨rfl,rfl⟩:=hQ d m1 h;refine⟨Oi nx,10,⟨nx+9,VV nx us++cR m 0 (.buf 2 [g1.D])⟩,_,⟨g3, ?_,(Nat.le_add_right _ _:nx<=nx+9),g4, ?_,g5, ?_⟩,.inr (.inl rfl),hK⟩
  .have z:∀i,Nat.beq 0 (i+1)=false:=fun i=>rfl
   simp only[Oi,fk,List.all_cons,List.all_nil,br,cW,Nat.blt,Nat.ble_eq];repeat' first|exact trivial|exact rfl|exact Nat.zero_le _|(exact ik ah)|omega|refine And.intro ?_ ?_
  .intro i l h;rcases QT h with⟨rfl,rfl⟩|h
   .exact .inl (.head _)
   .exact .inr h
  .intro l bb h5;rcases LI h5 with⟨rfl,rfl⟩|⟨j,hj,rfl,rfl⟩|⟨hl,h6⟩
   .exact .inl ⟨1,.buf 3 (ze us),by simp[Oi],rfl,rfl,.inr (.inl (Px hl8))⟩
   .exact .inl ⟨2+j,_,Vz hj,Py hj,rfl,.inl ⟨rfl,jJ hpl j⟩⟩
   .clear h5;rw[dy]at h6;split at h6
    .rename_i e;subst e;obtain rfl:=bd h6;exact .inl ⟨0,.buf 2 [g1.D],.head _,rfl,rfl,.inl ⟨rfl,rfl⟩⟩
    .rename_i e0;refine .inr ⟨?_,fun i hi=>?_,h6⟩
     .simp only[Oi,kv];repeat(rw[aj ah])
     .obtain⟨e,_⟩:=Prod.mk.inj (bJ.1 hi);omega
end
end
end Go.Abs
section
namespace Go.Abs
def ae {p:Prop}(h:p:=by exact rfl):p:=h
def mM {p:Prop}(h:p:=by repeat(first|exact aL.nil|refine aL.un ?_|refine aL.eq bm ?_)):p:=h
def cK {p:Prop}(h:p:=by first|exact rfl|exact bH (fun _=>rfl) _):p:=h
def lT {p:Prop}(h:p:=by repeat(first|exact aL.nil|refine aL.un ?_|refine aL.eq bm ?_|refine aL.nl bm bm ?_)):p:=h
def jv {p:Prop}(h:p:=by repeat' first|exact trivial|exact rfl|refine And.intro ?_ ?_):p:=h
def pz {p:Prop}(h:p:=by repeat' first|exact trivial|exact rfl|exact aM _|refine And.intro ?_ ?_):p:=h
def uS {p:Prop}(h:p:=by repeat(first|exact aB.nil|refine aB.ee bm bm (by first|exact rfl|exact bH (fun _=>rfl) _) ?_|refine aB.ep bm bm bm ?_|refine aB.oE bm bm bm bm ?_)):p:=h
def QE {p:Prop}(h:p:=by simp only[iS,eS,fL,jf,jx,cA,Nat.reduceEqDiff,aY,aS,cx,b9,bW,cv,cw,bq,bc,aM,bP,aE,reduceCtorEq,aT,aX,Nat.reduceAdd,Nat.reduceLeDiff];exact rfl):p:=h
def b0 {p:Prop} [Decidable p]:(decide p=true)=p:=bU
def b1 {p:Prop} [Decidable p]:decide p=false↔¬p:=dn
def b2 (b:Bool):((!b)=true)=(b=false):=cW b
def b3 (b:Bool):((!b)=false)=(b=true):=dS b
def b4 (b:Bool):(¬(b=false))=(b=true):=Bool.not_eq_false b
def b5 (a b:Bool):((a ||b)=true)=(a=true\/b=true):=dW a b
end Go.Abs
namespace Go.Abs
abbrev dh (Y:Ctx)(a:ax)(d:D)(ds:List D):Prop:=bO (Y.at 0) a.body (SX a d) (fC a ds) ⟨0,[]⟩
def cy {a:ax}{d d2:D}{e:Ex}{nx:Nat}{m:List (Nat×bL)}{env:List bI}(h:d2=d)(he:e.home:=by exact trivial)(h1:mN m env a.res:=by exact pz)(h2:AE a env m:=by exact jv)(h3:Lb a env m=d2:=by exact rfl):SX a d e env ⟨nx,m⟩:=Gp he h1 h2 (h3.trans h)
def bG {a:ax}{d d2:Bool}{e:Ex}{nx:Nat}{m:List (Nat×bL)}{env:List bI}(h:d2=d)(he:e.home:=by exact trivial)(h1:mN m env a.res:=by exact pz)(h2:AE a env m:=by exact jv)(h3:Lb a env m=.bool d2:=by exact rfl):SX a (.bool d) e env ⟨nx,m⟩:=cy (aC _ h) he h1 h2 h3
def lW {a:ax}{d d2:List UInt8}{e:Ex}{nx:Nat}{m:List (Nat×bL)}{env:List bI}(h:d2=d)(he:e.home:=by exact trivial)(h1:mN m env a.res:=by exact pz)(h2:AE a env m:=by exact jv)(h3:Lb a env m=.str d2:=by exact rfl):SX a (.str d) e env ⟨nx,m⟩:=cy (aC _ h) he h1 h2 h3
def cq {a:ax}{d d2:Int}{e:Ex}{nx:Nat}{m:List (Nat×bL)}{env:List bI}(h:d2=d)(he:e.home:=by exact trivial)(h1:mN m env a.res:=by exact pz)(h2:AE a env m:=by exact jv)(h3:Lb a env m=.int .i64 d2:=by exact rfl):SX a (.int .i64 d) e env ⟨nx,m⟩:=cy (aC _ h) he h1 h2 h3
def du {lo c nx nx2:Nat}{env env2:List bI}{m m2:List (Nat×bL)}(σ:List (Nat×Nat))(hc:nx2=c:=by exact ae)(h:fk lo c σ=true:=by exact ae)(he:aL lo σ env env2:=by exact lT)(hm:aB lo c σ m m2:=by exact uS):aO lo env ⟨nx,m⟩ env2 ⟨nx2,m2⟩:=aO.to σ hc h he hm
def kZ {Y:Ctx}{draw f:Bool}{r:List GI}{env rs:List bI}{nx:Nat}{m:List (Nat×bL)}{K:List bI->St->Prop}{g:Option (Nat×Bool)}{x y:Src}{fx fy:Bool}{a b:List UInt8}(h:aI Y draw r env (⟨f,.str (a++b)⟩::rs) nx m K)(hg:GF rs g f:=by first|exact rfl|exact⟨_,_,rfl,rfl⟩)(hx:cP env rs x=⟨fx,.str a⟩:=by exact rfl)(hy:cP env rs y=⟨fy,.str b⟩:=by exact rfl)(kx:f=true->fx=true:=by first|exact fun _=>rfl|exact fun h=>h|(intro h;simp_all))(ky:f=true->fy=true:=by first|exact fun _=>rfl|exact fun h=>h|(intro h;simp_all))(hb:f=true->a.length+b.length<=9223372036854775807:=by intro _;simp only[bS,aT,aX];omega):aI Y draw (⟨.bin .add x y,g⟩::r) env rs nx m K:=eF h hg hx hy kx ky hb
end Go.Abs
namespace Go.Abs
def va {lo c l:Nat}{σ:List (Nat×Nat)}{m r:List (Nat×bL)}{b:bL}(h:aB lo c σ m r)(hh:aB lo c σ m [(l,b)]:=by(first|refine aB.ee bm bm (by first|exact rfl|exact bH (fun _=>rfl) _) ?_|refine aB.ep bm bm bm ?_|refine aB.oE bm bm bm bm ?_)<;>exact aB.nil):aB lo c σ m ((l,b)::r):=⟨hh.1,h⟩
end Go.Abs
namespace Go.Abs
section
variable {Y:Ctx} {Q:Ex->List bI->St->Prop}
def cmN {env rs:List bI}:LY env rs []=env:=rfl
def cmC {s p:Nat}{r:List (Nat×Nat)}{env rs env1 env':List bI}{f:Bool}{d:D}(e:cP [] rs (.l p)=⟨f,d⟩)(hs:env.set s ⟨f,d⟩=env1)(h:LY env1 rs r=env'):LY env rs ((s,p)::r)=env':=by
 simp only[LY,e,hs,h]
def rrrg {draw:Bool}{cm:List (Nat×Nat)}{b:AC}{nx nx':Nat}{m:List (Nat×bL)}{rs env fC env':List bI}(h:bO Y b Q env' ⟨nx',m⟩)
  (he:LY env rs cm=env':=by repeat(first|apply cmC bm (by simp only[List.set_cons_zero,List.set_cons_succ];exact rfl)|with_reducible exact cmN)) (hn:nx+rs.length=nx':=by simp only[aT,aX,Nat.reduceAdd];exact rfl):aI Y draw [] fC rs nx m (fun vs st'=>bO Y b Q (fZ env vs cm) st'):=
 QK h he hn
def rrrh {draw:Bool}{cm:List (Nat×Nat)}{nx nx':Nat}{m:List (Nat×bL)}{rs env fC env':List bI}(h:Q .normal env' ⟨nx',m⟩)
  (he:LY env rs cm=env':=by repeat(first|apply cmC bm (by simp only[List.set_cons_zero,List.set_cons_succ];exact rfl)|with_reducible exact cmN)) (hn:nx+rs.length=nx':=by simp only[aT,aX,Nat.reduceAdd];exact rfl):aI Y draw [] fC rs nx m (fun vs st'=>Q .normal (fZ env vs cm) st'):=
 QL h he hn
end
def Fam (_:Prop):Type:=Unit
def yM {q:Prop}:Fam q:=()
structure Hid (q:Prop)(f:Fam q):Prop where
 val:q
section
variable {Y:Ctx} {draw b1:Bool} {r:List GI} {env rs:List bI} {nx n0 n1:Nat} {m:List (Nat×bL)} {K:List bI->St->Prop} {g:Option (Nat×Bool)} {x0 x1 x2:Src}
def tg0 {Y:Ctx}{a:AC}{Q:Ex->List bI->St->Prop}{env:List bI}{st:St}(h:bO Y a Q env st):bO Y a Q env st:=h
def tg1 (h:aI Y draw (⟨.mv x0,g⟩::r) env rs nx m K):aI Y draw (⟨.mv x0,g⟩::r) env rs nx m K:=h
def tg2 (h:aI Y draw [] env rs nx m K):aI Y draw [] env rs nx m K:=h
def tg3 (h:aI Y draw (⟨.fa n0 x1,g⟩::r) env rs nx m K):aI Y draw (⟨.fa n0 x1,g⟩::r) env rs nx m K:=h
def tg4 (h:aI Y draw (⟨.ld n0 b1 x2,g⟩::r) env rs nx m K):aI Y draw (⟨.ld n0 b1 x2,g⟩::r) env rs nx m K:=h
def tg5 (h:aI Y draw (⟨.bin .lss x0 x1,g⟩::r) env rs nx m K):aI Y draw (⟨.bin .lss x0 x1,g⟩::r) env rs nx m K:=h
def tg6 (h:aI Y draw (⟨.bin .eql x0 x1,g⟩::r) env rs nx m K):aI Y draw (⟨.bin .eql x0 x1,g⟩::r) env rs nx m K:=h
def tg7 (h:aI Y draw (⟨.bin .add x0 x1,g⟩::r) env rs nx m K):aI Y draw (⟨.bin .add x0 x1,g⟩::r) env rs nx m K:=h
def tg8 (h:aI Y draw (⟨.bin .gtr x0 x1,g⟩::r) env rs nx m K):aI Y draw (⟨.bin .gtr x0 x1,g⟩::r) env rs nx m K:=h
def tg9 (h:aI Y draw (⟨.bin .neq x0 x1,g⟩::r) env rs nx m K):aI Y draw (⟨.bin .neq x0 x1,g⟩::r) env rs nx m K:=h
def tg10 (h:aI Y draw (⟨.bin .leq x0 x1,g⟩::r) env rs nx m K):aI Y draw (⟨.bin .leq x0 x1,g⟩::r) env rs nx m K:=h
def tg11 (h:aI Y draw (⟨.bin .geq x0 x1,g⟩::r) env rs nx m K):aI Y draw (⟨.bin .geq x0 x1,g⟩::r) env rs nx m K:=h
def tg12 (h:aI Y draw (⟨.bin .sub x0 x1,g⟩::r) env rs nx m K):aI Y draw (⟨.bin .sub x0 x1,g⟩::r) env rs nx m K:=h
def tg13 (h:aI Y draw (⟨.ext x0 n1,g⟩::r) env rs nx m K):aI Y draw (⟨.ext x0 n1,g⟩::r) env rs nx m K:=h
def tg14 (h:aI Y draw (⟨.pick x0 x1 (.c (.bool false)),g⟩::r) env rs nx m K):aI Y draw (⟨.pick x0 x1 (.c (.bool false)),g⟩::r) env rs nx m K:=h
def tg15 (h:aI Y draw (⟨.pick x0 (.c (.bool true)) x1,g⟩::r) env rs nx m K):aI Y draw (⟨.pick x0 (.c (.bool true)) x1,g⟩::r) env rs nx m K:=h
def tg16 (h:aI Y draw (⟨.un .not x0,g⟩::r) env rs nx m K):aI Y draw (⟨.un .not x0,g⟩::r) env rs nx m K:=h
def tg17 (h:aI Y draw (⟨.nilck x0,g⟩::r) env rs nx m K):aI Y draw (⟨.nilck x0,g⟩::r) env rs nx m K:=h
def tg18 (h:aI Y draw (⟨.box n0 x1,g⟩::r) env rs nx m K):aI Y draw (⟨.box n0 x1,g⟩::r) env rs nx m K:=h
def tg19 (h:aI Y draw (⟨.ia n0 x1 x2,g⟩::r) env rs nx m K):aI Y draw (⟨.ia n0 x1 x2,g⟩::r) env rs nx m K:=h
def tg20 (h:aI Y draw (⟨.ixS x0 x1,g⟩::r) env rs nx m K):aI Y draw (⟨.ixS x0 x1,g⟩::r) env rs nx m K:=h
def tg21 (h:aI Y draw (⟨.st n0 x1 x2,g⟩::r) env rs nx m K):aI Y draw (⟨.st n0 x1 x2,g⟩::r) env rs nx m K:=h
def tg22 (h:aI Y draw (⟨.len x0,g⟩::r) env rs nx m K):aI Y draw (⟨.len x0,g⟩::r) env rs nx m K:=h
def tg23 (h:aI Y draw (⟨.lenS x0,g⟩::r) env rs nx m K):aI Y draw (⟨.lenS x0,g⟩::r) env rs nx m K:=h
def tg24 (h:aI Y draw (⟨.rng x0,g⟩::r) env rs nx m K):aI Y draw (⟨.rng x0,g⟩::r) env rs nx m K:=h
def tg25 (h:aI Y draw (⟨.s2b x0,g⟩::r) env rs nx m K):aI Y draw (⟨.s2b x0,g⟩::r) env rs nx m K:=h
def tg26 (h:aI Y draw (⟨.mkB,g⟩::r) env rs nx m K):aI Y draw (⟨.mkB,g⟩::r) env rs nx m K:=h
def tg27 (h:aI Y draw (⟨.app n0 x1 x2,g⟩::r) env rs nx m K):aI Y draw (⟨.app n0 x1 x2,g⟩::r) env rs nx m K:=h
end
def aw {p q:Prop}(k:q)(h:Hid q yM->p:=by
 intro h;first
 |((with_reducible refine tg0 ?_);first|with_reducible exact ai h.1|with_reducible exact OK h.1|with_reducible exact GM h.1|with_reducible exact VN h.1|with_reducible exact K9 h.1|with_reducible exact wp_ret h.1|with_reducible exact wp_skip h.1|with_reducible exact GL h.1|with_reducible exact wp_exit h.1|with_reducible exact EH h.1 hm|with_reducible exact K8 h.1 hm)
 |((with_reducible refine tg1 ?_);(refine r_mv ?_;exact h.1))
 |((with_reducible refine tg2 ?_);first|(refine rrrh ?_;exact h.1)|(refine rrrg ?_;exact h.1))
 |((with_reducible refine tg3 ?_);first|(refine r_faP ?_;exact h.1)|(refine r_faR ?_;exact h.1))
 |((with_reducible refine tg4 ?_);first|exact az (.int _ _) h.1|exact az (.str _) h.1|(refine aW (v:=.str _) ?_;exact h.1)|(refine fw (v:=.str _) ?_;exact h.1)|(refine aW (v:=.int _ _) ?_;exact h.1)|(refine fw (v:=.int _ _) ?_;exact h.1)|exact az (.sl _ _) h.1|exact az (.own _ _ _ _) h.1|exact az (.bool _) h.1|(refine aW (v:=.sl _ _) ?_;exact h.1)|(refine fw (v:=.sl _ _) ?_;exact h.1)|(refine aW (v:=.bool _) ?_;exact h.1)|(refine fw (v:=.bool _) ?_;exact h.1)|exact bo h.1|exact az .bM h.1)
 |((with_reducible refine tg5 ?_);first|(refine FX ?_;exact h.1)|(refine Vm ?_;exact h.1))
 |((with_reducible refine tg6 ?_);first|(refine FU ?_;exact h.1)|(refine FV ?_;exact h.1))
 |((with_reducible refine tg7 ?_);(refine ba ?_;exact h.1))
 |((with_reducible refine tg8 ?_);first|(refine Vd ?_;exact h.1)|(refine Ve ?_;exact h.1))
 |((with_reducible refine tg9 ?_);first|(refine Vn ?_;exact h.1)|(refine Vo ?_;exact h.1))
 |((with_reducible refine tg10 ?_);first|(refine Vk ?_;exact h.1)|(refine Vl ?_;exact h.1))
 |((with_reducible refine tg11 ?_);first|(refine Vb ?_;exact h.1)|(refine Vc ?_;exact h.1))
 |((with_reducible refine tg12 ?_);(refine iN ?_;exact h.1))
 |((with_reducible refine tg13 ?_);first|exact mw (.int _ _) h.1|exact mw (.str _) h.1|exact mw (.bool _) h.1)
 |((with_reducible refine tg14 ?_);(refine Z8 ?_;exact h.1))
 |((with_reducible refine tg15 ?_);(refine r_or ?_;exact h.1))
 |((with_reducible refine tg16 ?_);(refine r_not ?_;exact h.1))
 |((with_reducible refine tg17 ?_);first|(refine Vp ?_;exact h.1)|(refine Vq ?_;exact h.1))
 |((with_reducible refine tg18 ?_);(refine Z9 ?_;exact h.1))
 |((with_reducible refine tg19 ?_);first|exact aV _ h.1|exact NJ h.1|exact hY _ h.1|exact Vf h.1)
 |((with_reducible refine tg20 ?_);first|exact xY _ h.1|exact Vg h.1)
 |((with_reducible refine tg21 ?_);exact bD _ h.1)
 |((with_reducible refine tg22 ?_);first|exact NL fun a=>(h.1:_->_) (a rfl rfl)|exact NM fun a=>(h.1:_->_) (a rfl rfl)|(refine Vj ?_;exact h.1))
 |((with_reducible refine tg23 ?_);exact NN fun a=>(h.1:_->_) (a rfl rfl))
 |((with_reducible refine tg24 ?_);(refine r_rng ?_;exact h.1))
 |((with_reducible refine tg25 ?_);(refine r_s2b ?_;exact h.1))
 |((with_reducible refine tg26 ?_);(refine r_mkB ?_;exact h.1))
 |((with_reducible refine tg27 ?_);(refine iU ?_;exact h.1))
 |with_reducible exact BQ.normal h.1|with_reducible exact BQ.ret h.1|with_reducible exact LQ.normal h.1|with_reducible exact LQ.out h.1|with_reducible exact LQ.ret h.1|with_reducible exact BQ.out h.1|with_reducible exact EO.normal h.1|with_reducible exact EO.ret h.1|with_reducible exact ES.normal h.1|with_reducible exact ES.ret h.1|with_reducible exact EO.out h.1|with_reducible exact ES.out h.1|with_reducible exact CQ.normal h.1|with_reducible exact CQ.ret h.1|with_reducible exact CQ.other h.1|((with_reducible refine BQ.other ?_ h.1);exact rfl)|((with_reducible refine LQ.other ?_ h.1);exact rfl)|((with_reducible refine EO.other ?_ h.1);exact rfl)|((with_reducible refine ES.other ?_ h.1);exact rfl)):p:=h ⟨k⟩
def j6 {p q:Prop}(k:q)(h:Hid q yM->p:=by intro h;first|exact NL fun _=>h.1|exact NN fun _=>h.1|exact NM fun _=>h.1):p:=h ⟨k⟩
section
variable {Y:Ctx} {Q:Ex->List bI->St->Prop}
end
def jU:(∀{p:Prop} [Decidable p],(decide p=true)=p)/\(∀{p:Prop} [Decidable p],decide p=false↔¬p)/\(∀b:Bool,((!b)=true)=(b=false))/\(∀b:Bool,((!b)=false)=(b=true))/\(∀b:Bool,(¬(b=false))=(b=true))/\(∀a b:Bool,((a ||b)=true)=(a=true\/b=true))/\(∀{a b:Bool},(a ||b)=false↔a=false/\b=false)/\(∀a b:Bool,((a&&b)=true)=(a=true/\b=true))/\(∀{a b:Bool},(a&&b)=false↔a=false\/b=false)/\(∀b:Bool,(¬(b=true))=(b=false))/\(∀b:Bool,(true&&b)=b)/\∀b:Bool,(b&&true)=b:=
 ⟨bU,dn,cW,dS,Bool.not_eq_false,dW,gA,br,ey,Bool.not_eq_true,eJ,fh⟩
section
variable {Y:Ctx} {Q:Ex->List bI->St->Prop} {env:List bI} {st:St}
def cd {c:Src}{a b r:AC}{t:Bool}{c1 c2:Prop}(h1:c1->bO Y (.seq a r) Q env st)(h2:c2->bO Y (.seq b r) Q env st)(hc:cP env [] c=⟨true,.bool t⟩:=by exact rfl)(e1:t=true->c1:=by intro h;(try simp only[jU]at h);exact h)(e2:t=false->c2:=by intro h;(try simp only[jU]at h);exact h):bO Y (.seq (.cond c a b) r) Q env st:=bC (fun h=>h1 (e1 h)) (fun h=>h2 (e2 h)) hc
def ed {c:Src}{a b:AC}{t:Bool}{c1 c2:Prop}(h1:c1->bO Y a Q env st)(h2:c2->bO Y b Q env st)(hc:cP env [] c=⟨true,.bool t⟩:=by exact rfl)(e1:t=true->c1:=by intro h;(try simp only[jU]at h);exact h)(e2:t=false->c2:=by intro h;(try simp only[jU]at h);exact h):bO Y (.cond c a b) Q env st:=wp_cond (fun h=>h1 (e1 h)) (fun h=>h2 (e2 h)) hc
end
end Go.Abs
namespace Go.Abs
def av {p q:Prop}(k:q)(h:Hid q yM->p:=by intro h;(iterate 2 refine aw ?_);exact h.1):p:=h ⟨k⟩
def ar {p q:Prop}(k:q)(h:Hid q yM->p:=by intro h;(iterate 3 refine aw ?_);exact h.1):p:=h ⟨k⟩
def aF {p q:Prop}(k:q)(h:Hid q yM->p:=by intro h;(iterate 4 refine aw ?_);exact h.1):p:=h ⟨k⟩
def aD {p q:Prop}(k:q)(h:Hid q yM->p:=by intro h;(iterate 5 refine aw ?_);exact h.1):p:=h ⟨k⟩
def aH {p q:Prop}(k:q)(h:Hid q yM->p:=by intro h;(iterate 6 refine aw ?_);exact h.1):p:=h ⟨k⟩
def bF {p q:Prop}(k:q)(h:Hid q yM->p:=by intro h;(iterate 7 refine aw ?_);exact h.1):p:=h ⟨k⟩
def dj {p q:Prop}(k:q)(h:Hid q yM->p:=by intro h;(iterate 8 refine aw ?_);exact h.1):p:=h ⟨k⟩
def eW {p q:Prop}(k:q)(h:Hid q yM->p:=by intro h;(iterate 9 refine aw ?_);exact h.1):p:=h ⟨k⟩
def k8 {p q:Prop}(k:q)(h:Hid q yM->p:=by intro h;(iterate 10 refine aw ?_);exact h.1):p:=h ⟨k⟩
def kK {p q:Prop}(k:q)(h:Hid q yM->p:=by intro h;(iterate 11 refine aw ?_);exact h.1):p:=h ⟨k⟩
def mF {p q:Prop}(k:q)(h:Hid q yM->p:=by intro h;(iterate 12 refine aw ?_);exact h.1):p:=h ⟨k⟩
def EN {p q:Prop}(k:q)(h:Hid q yM->p:=by intro h;(iterate 13 refine aw ?_);exact h.1):p:=h ⟨k⟩
def OW {p q:Prop}(k:q)(h:Hid q yM->p:=by intro h;(iterate 14 refine aw ?_);exact h.1):p:=h ⟨k⟩
def Jx {p q:Prop}(k:q)(h:Hid q yM->p:=by intro h;(iterate 15 refine aw ?_);exact h.1):p:=h ⟨k⟩
def OX {p q:Prop}(k:q)(h:Hid q yM->p:=by intro h;(iterate 16 refine aw ?_);exact h.1):p:=h ⟨k⟩
def Jy {p q:Prop}(k:q)(h:Hid q yM->p:=by intro h;(iterate 17 refine aw ?_);exact h.1):p:=h ⟨k⟩
def OY {p q:Prop}(k:q)(h:Hid q yM->p:=by intro h;(iterate 18 refine aw ?_);exact h.1):p:=h ⟨k⟩
def zzz21 {p q:Prop}(k:q)(h:Hid q yM->p:=by intro h;(iterate 21 refine aw ?_);exact h.1):p:=h ⟨k⟩
def zzz26 {p q:Prop}(k:q)(h:Hid q yM->p:=by intro h;(iterate 26 refine aw ?_);exact h.1):p:=h ⟨k⟩
def zzz28 {p q:Prop}(k:q)(h:Hid q yM->p:=by intro h;(iterate 28 refine aw ?_);exact h.1):p:=h ⟨k⟩
end Go.Abs
namespace Go.Abs
abbrev s0:Src:=.s 0
abbrev s1:Src:=.s 1
abbrev s2:Src:=.s 2
abbrev s3:Src:=.s 3
abbrev s4:Src:=.s 4
abbrev s5:Src:=.s 5
abbrev s6:Src:=.s 6
abbrev s7:Src:=.s 7
abbrev s8:Src:=.s 8
abbrev s9:Src:=.s 9
abbrev Vx:Src:=.s 10
abbrev s11:Src:=.s 11
abbrev s12:Src:=.s 12
abbrev s13:Src:=.s 13
abbrev s14:Src:=.s 14
abbrev s15:Src:=.s 15
abbrev l0:Src:=.l 0
abbrev l1:Src:=.l 1
abbrev l2:Src:=.l 2
abbrev l3:Src:=.l 3
abbrev l4:Src:=.l 4
abbrev l5:Src:=.l 5
abbrev l6:Src:=.l 6
abbrev l7:Src:=.l 7
abbrev l8:Src:=.l 8
abbrev l9:Src:=.l 9
abbrev l10:Src:=.l 10
abbrev l11:Src:=.l 11
abbrev l12:Src:=.l 12
abbrev l13:Src:=.l 13
abbrev l14:Src:=.l 14
abbrev l15:Src:=.l 15
abbrev l16:Src:=.l 16
abbrev gm (x:Src):GI:=⟨.mv x,none⟩
abbrev gn (x:aG):GI:=⟨x,none⟩
abbrev cs (s:List UInt8):Src:=.c (.str s)
abbrev gd (x:Src):GI:=⟨.ld 1 false x,none⟩
abbrev gk (n:Nat)(b:Bool)(x:Src):GI:=⟨.ld n b x,none⟩
abbrev gf (n:Nat)(x:Src):GI:=⟨.fa n x,none⟩
abbrev gl (x:Src):GI:=⟨.len x,none⟩
abbrev ga (n:Nat)(x y:Src):GI:=⟨.ia n x y,none⟩
abbrev gb (n:Nat)(x:Src):GI:=⟨.box n x,none⟩
abbrev gx (n:Nat)(x:List Src)(y:List (List Sh)):GI:=⟨.call n x y,none⟩
abbrev rg (x:List GI)(y:List (Nat×Nat)):AC:=.reg false x y
abbrev rt (x:List GI)(y:List (Nat×Nat)):AC:=.reg true x y
abbrev Zq (x y:Src):aG:=.bin .lss x y
abbrev cse:Src:=.c (.str [])
abbrev OZ:Src:=.c (.int .i64 0)
abbrev ic1:Src:=.c (.int .i64 1)
abbrev gmt (n:Nat)(x:Src):GI:=⟨.mv x,some (n,true)⟩
abbrev gnt (n:Nat)(x:aG):GI:=⟨x,some (n,true)⟩
abbrev Mt (n:Nat)(x:aG):GI:=⟨x,some (n,false)⟩
abbrev sq (a b:AC):AC:=.seq a b
abbrev ha1:List (List Sh):=[[.a]]
abbrev ha2:List (List Sh):=[[.a,.a]]
abbrev VW:List (List Sh):=[[.a,.a,.a,.a,.a]]
abbrev pe:List (List Sh):=[[.a],[.a]]
abbrev VX:List (List Sh):=[[.a],[.a],[.a]]
abbrev Ue:List (List Sh):=[[.a],[.a],[.a],[.a]]
abbrev go1 (c x:Src):GI:=⟨.pick c (.c (.bool true)) x,none⟩
abbrev ga1 (c x:Src):GI:=⟨.pick c x (.c (.bool false)),none⟩
abbrev UG (x y:Src):GI:=⟨.bin .lss x y,none⟩
abbrev M3 (x y:Src):GI:=⟨.bin .eql x y,none⟩
abbrev UF (x y:Src):GI:=⟨.bin .add x y,none⟩
abbrev xA (x y:Src):GI:=⟨.bin .neq x y,none⟩
abbrev gce (c:Src)(n:Nat):AC:=.cond c .skip (.exit n)
abbrev i8 (n:Int):Src:=.c (.int .u8 n)
abbrev gno (x:Src):GI:=⟨.un .not x,none⟩
abbrev r1 (x:List GI)(a b:Nat):AC:=.reg false x [(a,b)]
abbrev r2 (x:List GI)(a b:Nat):AC:=.reg true x [(a,b)]
end Go.Abs
end
namespace Go.Abs
def Ij (T:List D->D->Prop):Prop:=∀(l:List aU) (x:UInt8),((cL [x] l).length<=1099511627776)->T [.sl 1 (l.map D.str),.int .u8 (x.toNat:Nat)] (.str (cL [x] l))
def Pb (Y:Ctx):Prop:=Ij (bw Y 249)
def Jr (T:List D->D->Prop):Prop:=∀(l:List aU),T [.sl 1 (l.map D.str)] (.bool (rising l))
def SB (Y:Ctx):Prop:=Jr (bw Y 815)
def qd (T:List D->D->Prop):Prop:=∀(n:Int),(0<=n/\n<=9999)->T [.int .i64 n] (.str (jC n.toNat))
def WA (Y:Ctx):Prop:=qd (bw Y 336)
def Ii (T:List D->D->Prop):Prop:=∀(l:List aU) (sep:aU),(l.length<=1048600)->(sep.length<=4)->(∀t∈l,t.length<=2097200)->T [.sl 1 (l.map D.str),.str sep] (.str (cL sep l))
def Pa (Y:Ctx):Prop:=Ii (bw Y 242)
def H5 (T:List D->D->Prop):Prop:=∀(s:aU) (b:UInt8),(s.length<=1048576)->T [.str s,.str [b]] (.sl 1 ((bE s b.toNat).map D.str))
def We (Y:Ctx):Prop:=H5 (bw Y 124)
def IM (T:List D->D->Prop):Prop:=∀(s:aU) (b:UInt8),(s.length<=1048576)->T [.str s,.str [b]] (.tup [.str (qh s b).1,.str (qh s b).2.1,.bool (qh s b).2.2])
def W6 (Y:Ctx):Prop:=IM (bw Y 487)
def Ik (T:List D->D->Prop):Prop:=∀(s:aU) (p:aU),(s.length<=1048576)->(p.length<=1048576)->T [.str s,.str p] (.tup [.str (nL s p).1,.bool (nL s p).2])
def Wr (Y:Ctx):Prop:=Ik (bw Y 254)
def Ic (T:List D->D->Prop):Prop:=∀(s:aU),(pw s)->T [.str s] (.bool (r9 s))
def R4 (Y:Ctx):Prop:=Ic (bw Y 212)
def Sx (Y:Ctx):Prop:=Ic (bw Y 670)
def IB (T:List D->D->Prop):Prop:=∀(s:aU),(oy s)->T [.str s] (.bool (vB s))
def WT (Y:Ctx):Prop:=IB (bw Y 444)
def Sn (Y:Ctx):Prop:=IB (bw Y 572)
def Ie (T:List D->D->Prop):Prop:=∀(l:List cZ),(je l)->T [.sl 2 (l.map cZ.D)] (.bool (en l))
def Wm (Y:Ctx):Prop:=Ie (bw Y 213)
def IC (T:List D->D->Prop):Prop:=∀(s:aU),(oo s)->T [.str s] (.tup [.int .i64 (dR s).1,.str (dR s).2.1,.str (dR s).2.2])
def WU (Y:Ctx):Prop:=IC (bw Y 448)
def W0 (Y:Ctx):Prop:=Ie (bw Y 459)
def Xv (Y:Ctx):Prop:=IC (bw Y 672)
def vM (T:List D->D->Prop):Prop:=∀(r:Rec),(xa r/\eC r)->T [Rec.D r] (.str (sv r))
def R6 (Y:Ctx):Prop:=vM (bw Y 219)
def R5 (Y:Ctx):Prop:=vM (bw Y 215)
def EK (T:List D->D->Prop):Prop:=∀(s:aU),(s.length<=1048576)->T [.str s,.str [124,124]] (.sl 1 ((iD s []).map D.str))
def Q8 (Y:Ctx):Prop:=EK (bw Y 124)
def Ja (T:List D->D->Prop):Prop:=∀(s:aU) (b:UInt8),(b=32)->(s.length<=1048576)->T [.str s,.str [b]] (.str (wE s))
def Xy (Y:Ctx):Prop:=Ja (bw Y 683)
def vU (T:List D->D->Prop):Prop:=∀(s:aU),T [.str s] (.bool (fj s))
def JB (Y:Ctx):Prop:=vU (bw Y 349)
def vJ (T:List D->D->Prop):Prop:=∀(s:aU),T [.str s] (.bool (fS s))
def Jz (Y:Ctx):Prop:=vJ (bw Y 208)
def wq (T:List D->D->Prop):Prop:=∀(s:aU),T [.str s] (.tup [.int .i64 (tt s),.bool (kD s)])
def Pk (Y:Ctx):Prop:=wq (bw Y 658)
def wg (T:List D->D->Prop):Prop:=∀(s:aU) (b:Int),(s.length<=1048576)->T [.str s,.int .u8 b] (.sl 1 ((bE s b).map D.str))
def Lm (Y:Ctx):Prop:=wg (bw Y 533)
def wu (T:List D->D->Prop):Prop:=∀(t:aU),T [.str t] (.bool (cV t))
def Ss (Y:Ctx):Prop:=wu (bw Y 659)
def vX (T:List D->D->Prop):Prop:=∀(n:Int),T [.int .i64 n] (.bool (o8 n))
def WQ (Y:Ctx):Prop:=vX (bw Y 440)
def IA (T:List D->D->Prop):Prop:=∀(s:aU),(s.length<=1048576)->T [.str s] (.bool (nu s false))
def Sc (Y:Ctx):Prop:=IA (bw Y 442)
def Iz (T:List D->D->Prop):Prop:=∀(s:aU),(s.length<=1048576)->T [.str s] (.bool (nu s true))
def WR (Y:Ctx):Prop:=Iz (bw Y 441)
def vK (T:List D->D->Prop):Prop:=∀(v:aQ),(v.sm)->T [aQ.D v] (.bool (fE v))
def uA (Y:Ctx):Prop:=vK (bw Y 209)
def Sv (Y:Ctx):Prop:=qd (bw Y 665)
def vZ (T:List D->D->Prop):Prop:=∀(v:aQ),(v.sm)->T [aQ.D v] (.str (oH v))
def WV (Y:Ctx):Prop:=vZ (bw Y 451)
def IK (T:List D->D->Prop):Prop:=∀(h:Int) (k:Nat),(k=13)->T [.int .u64 h,.int .i64 (k:Nat)] (.int .u64 (Vu h k))
def W4 (Y:Ctx):Prop:=IK (bw Y 463)
def vN (T:List D->D->Prop):Prop:=∀(s:aU),T [.sl 1 ((s).map fun b=>D.int .u8 b.toNat)] (.int .u64 (KZ s))
def Wp (Y:Ctx):Prop:=vN (bw Y 220)
def Ib (T:List D->D->Prop):Prop:=∀(r:Rec) (name:aU) (rng:aU),(oy rng)->T [Rec.D r,.str name,.str rng] (.int .i64 (fT r name rng))
def R3 (Y:Ctx):Prop:=Ib (bw Y 211)
def vY (T:List D->D->Prop):Prop:=∀(r:Rec) (w:dY) (al:Bool),(w.sm)->T [Rec.D r,dY.D w,.bool al] (.int .i64 (jK r w al))
def WS (Y:Ctx):Prop:=vY (bw Y 443)
def vL (T:List D->D->Prop):Prop:=∀(r:Rec) (n:cG),(n.sm)->T [Rec.D r,cG.D n] (.int .i64 (iP r n))
def Wl (Y:Ctx):Prop:=vL (bw Y 210)
def Ig (T:List D->D->Prop):Prop:=∀(r:Rec) (s:aU),(oo s)->T [Rec.D r,.str s] (.int .i64 (kU r s))
def Wn (Y:Ctx):Prop:=Ig (bw Y 214)
def Ce (T:List D->D->Prop):Prop:=∀(r:Rec),(eC r)->T [Rec.D r] (.tup [.int .i64 (dD r).1,.int .i64 (dD r).2])
def C70 (Y:Ctx):Prop:=Ce (bw Y 70)
def Cf (T:List D->D->Prop):Prop:=∀(r:Rec),(eC r)->T [Rec.D r] (.tup [.str (er r).1,.int .i64 (er r).2])
def C72 (Y:Ctx):Prop:=Cf (bw Y 72)
def Cg (T:List D->D->Prop):Prop:=∀(r:Rec),(eC r)->T [Rec.D r] (.tup [.int .u64 (oG r),.int .i64 (er r).2])
def C74 (Y:Ctx):Prop:=Cg (bw Y 74)
def Jk (T:List D->D->Prop):Prop:=∀(x:Int),T [.int .i64 x] (.bool false)
def XL (Y:Ctx):Prop:=Jk (bw Y 714)
def Jj (T:List D->D->Prop):Prop:=∀(x:aU),T [.str x] (.bool false)
def XJ (Y:Ctx):Prop:=Jj (bw Y 704)
def we (T:List D->D->Prop):Prop:=∀(a:Int) (b:Int),T [.int .i64 a,.int .i64 b] (.int .i64 (dw a b))
def Pg (Y:Ctx):Prop:=we (bw Y 532)
def v8 (T:List D->D->Prop):Prop:=∀(a:aU) (b:aU),T [.str a,.str b] (.int .i64 (mb a b))
def Sl (Y:Ctx):Prop:=v8 (bw Y 516)
def IT (T:List D->D->Prop):Prop:=∀(l:List Int),T [.sl 1 (l.map (D.int .i64))] (.int .i64 (e8 (fun i=>l[i]!) 0 l.length))
def Sm (Y:Ctx):Prop:=IT (bw Y 531)
def wc (T:List D->D->Prop):Prop:=∀(v:aQ),T [aQ.D v] (aQ.D (kj v))
def Xc (Y:Ctx):Prop:=wc (bw Y 530)
def wh (T:List D->D->Prop):Prop:=∀(a:aU) (b:aU),T [.str a,.str b] (.int .i64 (qm a b))
def Xd (Y:Ctx):Prop:=wh (bw Y 534)
def vS (T:List D->D->Prop):Prop:=∀(a:aQ) (b:aQ),(a.sm/\b.sm)->T [aQ.D a,aQ.D b] (.int .i64 (ki a b))
def JA (Y:Ctx):Prop:=vS (bw Y 295)
def wv (T:List D->D->Prop):Prop:=∀(a:aQ) (b:aQ),(a.sm/\b.sm)->T [aQ.D a,aQ.D b] (.bool (Dn a b))
def XI (Y:Ctx):Prop:=wv (bw Y 701)
def Ji (T:List D->D->Prop):Prop:=∀(x:gC) (nm:aU) (v:aQ),(x.r.v.sm/\v.sm)->T [gC.D x,.ref 1 [.str nm] 0 0,.ref 5 [aQ.D v] 0 0] (.bool (C1 nm v x))
def XH (Y:Ctx):Prop:=Ji (bw Y 700)
def Jh (T:List D->D->Prop):Prop:=∀(l:List gC) (nm:aU) (v:aQ),((∀x∈l,x.r.v.sm)/\v.sm)->T [.sl 11 (l.map gC.D),.fn 700 [.ref 1 [.str nm] 0 0,.ref 5 [aQ.D v] 0 0]] (.int .i64 (ow l nm v 0))
def XG (Y:Ctx):Prop:=Jh (bw Y 699)
def v7 (T:List D->D->Prop):Prop:=∀(l:List gC) (nm:aU) (v:aQ),((∀x∈l,x.r.v.sm)/\v.sm)->T [.sl 11 (l.map gC.D),.str nm,aQ.D v] (.int .i64 (ow l nm v 0))
def Sk (Y:Ctx):Prop:=v7 (bw Y 511)
def vV (T:List D->D->Prop):Prop:=∀(s:cC),(∀x∈s.es,eC x.r)->T [cC.D s] (.bool (jn s))
def Sa (Y:Ctx):Prop:=vV (bw Y 353)
def Js (T:List D->D->Prop):Prop:=∀(n:Nat),(n<=9999)->T [.int .u64 (n:Nat)] (.str (jC n))
def XU (Y:Ctx):Prop:=Js (bw Y 882)
def Sy (Y:Ctx):Prop:=qd (bw Y 734)
def Pf (Y:Ctx):Prop:=wg (bw Y 470)
def ID (T:List D->D->Prop):Prop:=∀(c:Int),T [.int .u8 c] (.bool (iT c))
def Sf (Y:Ctx):Prop:=ID (bw Y 453)
def IE (T:List D->D->Prop):Prop:=∀(c:Int),T [.int .u8 c] (.bool (cn c))
def Pe (Y:Ctx):Prop:=IE (bw Y 454)
def JC (Y:Ctx):Prop:=vU (bw Y 357)
def EW (Y:Ctx):Prop:=vJ (bw Y 216)
def Pl (Y:Ctx):Prop:=wq (bw Y 667)
def Sw (Y:Ctx):Prop:=wu (bw Y 668)
def I7 (T:List D->D->Prop):Prop:=∀(t:aU),T [.str t] (.bool (qk t))
def Xt (Y:Ctx):Prop:=I7 (bw Y 666)
def IF (T:List D->D->Prop):Prop:=∀(s:aU) (p:Bool),(s.length<=1048576)->T [.str s,.bool p] (.bool (uy s p))
def WX (Y:Ctx):Prop:=IF (bw Y 456)
def WW (Y:Ctx):Prop:=vX (bw Y 455)
def qB (Y:Ctx):Prop:=vK (bw Y 217)
def IV (T:List D->D->Prop):Prop:=∀(v:aQ),(o8 v.major=true/\o8 v.minor=true/\o8 v.patch=true)->T [aQ.D v] (.str (jC v.major.toNat++[46]++jC v.minor.toNat++[46]++jC v.patch.toNat))
def Xh (Y:Ctx):Prop:=IV (bw Y 554)
def Wz (Y:Ctx):Prop:=vZ (bw Y 316)
def IL (T:List D->D->Prop):Prop:=∀(h:Int) (n:Nat),(n<=63)->T [.int .u64 h,.int .u64 (n:Nat)] (.int .u64 (Vu h n))
def W5 (Y:Ctx):Prop:=IL (bw Y 464)
def Wq (Y:Ctx):Prop:=vN (bw Y 221)
def Jq (T:List D->D->Prop):Prop:=∀(l:List aU) (al:Bool),T [.sl 1 (l.map D.str),.bool al] (.bool (kg l al))
def XS (Y:Ctx):Prop:=Jq (bw Y 812)
def Xu (Y:Ctx):Prop:=vY (bw Y 669)
def WY (Y:Ctx):Prop:=vL (bw Y 457)
def IG (T:List D->D->Prop):Prop:=∀(r:Rec) (b:ma),(b.sm)->T [Rec.D r,ma.D b] (.int .i64 (oQ r b))
def WZ (Y:Ctx):Prop:=IG (bw Y 458)
def I8 (T:List D->D->Prop):Prop:=∀(r:Rec) (x:aU),T [Rec.D r,.str x] (.bool (Ko r.needs x))
def Xw (Y:Ctx):Prop:=I8 (bw Y 673)
def I9 (T:List D->D->Prop):Prop:=∀(r:Rec) (x:aU),T [Rec.D r,.str x] (.bool (zP r.needs x))
def Xx (Y:Ctx):Prop:=I9 (bw Y 674)
def IH (T:List D->D->Prop):Prop:=∀(r:Rec) (of:List aU),(∀t∈of,oo t)->T [Rec.D r,.sl 1 (of.map D.str)] (.int .i64 (jZ r of))
def W1 (Y:Ctx):Prop:=IH (bw Y 460)
def II (T:List D->D->Prop):Prop:=∀(w:dY),(w.fit)->T [dY.D w] (.str (iQ w))
def W2 (Y:Ctx):Prop:=II (bw Y 461)
def IJ (T:List D->D->Prop):Prop:=∀(s:aU),(s.length<=1048576)->T [.str s] (.str (jd s))
def W3 (Y:Ctx):Prop:=IJ (bw Y 462)
def Ih (T:List D->D->Prop):Prop:=∀(r:Rec),(eC r)->T [Rec.D r] (.tup [.int .i64 (eB r).1,.int .i64 (eB r).2])
def Wo (Y:Ctx):Prop:=Ih (bw Y 218)
def C71 (Y:Ctx):Prop:=Ce (bw Y 71)
def C73 (Y:Ctx):Prop:=Cf (bw Y 73)
def C75 (Y:Ctx):Prop:=Cg (bw Y 75)
def Lo (Y:Ctx):Prop:=we (bw Y 630)
def XY (Y:Ctx):Prop:=v8 (bw Y 927)
def XR (Y:Ctx):Prop:=wh (bw Y 783)
def I6 (T:List D->D->Prop):Prop:=∀(a:aU) (b:aU),(a.length<=1048576/\b.length<=1048576)->T [.str a,.str b] (.int .i64 (tv a b))
def Xs (Y:Ctx):Prop:=I6 (bw Y 631)
def JD (Y:Ctx):Prop:=vS (bw Y 424)
def W7 (Y:Ctx):Prop:=wv (bw Y 501)
def Ln (Y:Ctx):Prop:=v7 (bw Y 580)
def Lk (Y:Ctx):Prop:=vV (bw Y 358)
def Im (T:List D->D->Prop):Prop:=∀(x:cC) (s:cC),T [cC.D x,.ref 2 [cC.D s] 0 0] (.bool (xf s.name x))
def WC (Y:Ctx):Prop:=Im (bw Y 355)
def Il (T:List D->D->Prop):Prop:=∀(l:List cC) (s:cC),T [.sl 2 (l.map cC.D),.fn 355 [.ref 2 [cC.D s] 0 0]] (.int .i64 (tG l s.name))
def WB (Y:Ctx):Prop:=Il (bw Y 354)
def vH (T:List D->D->Prop):Prop:=∀(l:List cC),(iC l)->T [.sl 2 (l.map cC.D)] (.bool (nt l))
def Wf (Y:Ctx):Prop:=vH (bw Y 142)
def Io (T:List D->D->Prop):Prop:=∀(l:List cC) (nm:aU),T [.sl 2 (l.map cC.D),.str nm] (.int .i64 (tG l nm))
def WD (Y:Ctx):Prop:=Io (bw Y 359)
def Wg (Y:Ctx):Prop:=vH (bw Y 145)
def vR (T:List D->D->Prop):Prop:=∀(s:cC) (nm:aU) (v:aQ),((∀x∈s.es,eC x.r)/\v.sm)->T [cC.D s,.str nm,aQ.D v] (.int .i64 (ix s nm v))
def Wv (Y:Ctx):Prop:=vR (bw Y 274)
def XC (Y:Ctx):Prop:=vR (bw Y 695)
def sF (T:List D->D->Prop):Prop:=∀(c:Cut),(c.v.sm)->T [Cut.D c] (.bool (mc c))
def GU (Y:Ctx):Prop:=sF (bw Y 1086)
def sD (T:List D->D->Prop):Prop:=∀(a:Cut) (b:Cut),(a.v.sm/\b.v.sm)->T [Cut.D a,Cut.D b] (.int .i64 (gP a b))
def zc (Y:Ctx):Prop:=sD (bw Y 1020)
def sE (T:List D->D->Prop):Prop:=∀(c:Cut) (v:aQ),(c.v.sm/\v.sm)->T [Cut.D c,aQ.D v] (.bool (ir c v))
def Q6 (Y:Ctx):Prop:=sE (bw Y 1025)
def sC (T:List D->D->Prop):Prop:=∀(s:Span),(s.sm)->T [Span.D s] (.bool (kI s))
def GS (Y:Ctx):Prop:=sC (bw Y 1019)
def wA (T:List D->D->Prop):Prop:=∀(s:Span) (v:aQ),(s.sm/\v.sm)->T [Span.D s,aQ.D v] (.bool (mI s v))
def XX (Y:Ctx):Prop:=wA (bw Y 926)
def wz (T:List D->D->Prop):Prop:=∀(l:List Span),(bR l)->T [.sl 14 (l.map Span.D)] (.bool (mP l))
def Lq (Y:Ctx):Prop:=wz (bw Y 916)
def wy (T:List D->D->Prop):Prop:=∀(l:List Span) (v:aQ),(bR l/\v.sm)->T [.sl 14 (l.map Span.D),aQ.D v] (.bool (n6 l v))
def XQ (Y:Ctx):Prop:=wy (bw Y 782)
def IX (T:List D->D->Prop):Prop:=∀(v:aQ),T [aQ.D v] (.bool (qS v))
def Sp (Y:Ctx):Prop:=IX (bw Y 600)
def Jt (T:List D->D->Prop):Prop:=∀(c:Cut),T [Cut.D c] (.bool (j3 c))
def XV (Y:Ctx):Prop:=Jt (bw Y 917)
def wx (T:List D->D->Prop):Prop:=∀(s:bQ),(s.sm)->T [bQ.D s] (.bool (sr s))
def Lp (Y:Ctx):Prop:=wx (bw Y 770)
def wo (T:List D->D->Prop):Prop:=∀(s:bQ) (v:aQ),(s.sm/\v.sm)->T [bQ.D s,aQ.D v] (.bool (pd s v))
def Xq (Y:Ctx):Prop:=wo (bw Y 627)
def IY (T:List D->D->Prop):Prop:=T [] (Cut.D nP)
def Ph (Y:Ctx):Prop:=IY (bw Y 601)
def I0 (T:List D->D->Prop):Prop:=T [] (Cut.D r5)
def Pj (Y:Ctx):Prop:=I0 (bw Y 603)
def So (Y:Ctx):Prop:=wc (bw Y 599)
def Ir (T:List D->D->Prop):Prop:=∀(v:aQ),T [aQ.D v] (Cut.D (mg v))
def Pd (Y:Ctx):Prop:=Ir (bw Y 376)
def Is (T:List D->D->Prop):Prop:=∀(v:aQ),T [aQ.D v] (Cut.D (vg v))
def WG (Y:Ctx):Prop:=Is (bw Y 377)
def Jl (T:List D->D->Prop):Prop:=∀(v:aQ) (p:Int),(v.sm)->T [aQ.D v,.int .i64 p] (.tup [aQ.D (gF v p).1,.bool (gF v p).2])
def XM (Y:Ctx):Prop:=Jl (bw Y 769)
def IZ (T:List D->D->Prop):Prop:=∀(v:aQ),(v.sm)->T [aQ.D v] (.tup [aQ.D (jq v).1,.bool (jq v).2])
def Xj (Y:Ctx):Prop:=IZ (bw Y 602)
def Iq (T:List D->D->Prop):Prop:=T [] (bQ.D xI)
def Ll (Y:Ctx):Prop:=Iq (bw Y 375)
def IW (T:List D->D->Prop):Prop:=T [] (.sl 14 (rq.map Span.D))
def Xi (Y:Ctx):Prop:=IW (bw Y 598)
def Ip (T:List D->D->Prop):Prop:=T [] (bQ.D LK)
def WE (Y:Ctx):Prop:=Ip (bw Y 374)
def It (T:List D->D->Prop):Prop:=∀(v:aQ),T [aQ.D v] (Cut.D (oP v))
def WH (Y:Ctx):Prop:=It (bw Y 378)
def Iu (T:List D->D->Prop):Prop:=∀(v:aQ),T [aQ.D v] (Cut.D (Cv v))
def WI (Y:Ctx):Prop:=Iu (bw Y 379)
def H8 (T:List D->D->Prop):Prop:=∀(v:aQ),(v.sm)->T [aQ.D v] (bQ.D (bX v))
def RY (Y:Ctx):Prop:=H8 (bw Y 156)
def EI (T:List D->D->Prop):Prop:=∀(l:List Cut) (c:Cut),((oL l/\c.sm)/\l.length<=10000)->T [.sl 7 (l.map Cut.D),Cut.D c] (.sl 7 ((uE l c).map Cut.D))
def Q5 (Y:Ctx):Prop:=EI (bw Y 1021)
def Ju (T:List D->D->Prop):Prop:=∀(l:List Span),(bR l/\l.length<=2000)->T [.sl 14 (l.map Span.D)] (.sl 7 ((cT l).map Cut.D))
def SD (Y:Ctx):Prop:=Ju (bw Y 919)
def Jv (T:List D->D->Prop):Prop:=∀(l:List Span) (f:Cut) (t:Cut),(bR l/\f.sm/\t.sm)->T [.sl 14 (l.map Span.D),Cut.D f,Cut.D t] (.bool (qO l f t))
def SE (Y:Ctx):Prop:=Jv (bw Y 920)
def Pm (Y:Ctx):Prop:=∀(out:List Span) (f t:Cut),((bR out/\f.sm/\t.sm)/\out.length<=100000)->∀(nx lo:Nat) (m:List (Nat×bL)) (K:D->St->Prop),look m lo=some (.buf 14 (out.map Span.D))->lo<nx->K (.own nx 14 0 (lI out f t).length) ⟨nx+1,(nx,.buf 14 ((lI out f t).map Span.D))::cA m lo⟩->Y.tr 921 [.own lo 14 0 out.length,Cut.D f,Cut.D t] ⟨nx,m⟩ K
def SC (Y:Ctx):Prop:=∀(l:List Span),(bR l/\l.length<=2000)->∀(nx lo:Nat) (m:List (Nat×bL)) (K:D->St->Prop),look m lo=some (.buf 14 (l.map Span.D))->lo<nx->K (.tup [.sl 14 ((pj l).1.map Span.D),.bool (pj l).2]) ⟨nx,cA m lo⟩->Y.tr 918 [.own lo 14 0 l.length] ⟨nx,m⟩ K
def Jn (T:List D->D->Prop):Prop:=∀(l:List Span),(bR l/\l.length<=2000)->T [.sl 14 (l.map Span.D)] (.sl 14 ((uO l).map Span.D))
def XO (Y:Ctx):Prop:=Jn (bw Y 772)
section
section
variable {Y:Ctx} {draw:Bool} {r:List GI} {env rs:List bI} {nx:Nat} {m:List (Nat×bL)} {K:List bI->St->Prop} {f:Bool} {g:Option (Nat×Bool)}
def BH {n:Nat}{args:List Src}{chk:List (Nat×Nat×Bool×Src)}{amf:List D}{v:D}{nx':Nat}{m':List (Nat×bL)}(h:aI Y draw r env (⟨true,v⟩::rs) nx' m' K)
  (hc:∀K':D->St->Prop,K' v ⟨nx'+rs.length,m'⟩->Y.tr n amf ⟨nx+rs.length,m⟩ K') (hn:nx<=nx')
  (hk:∀c∈chk,uN m' c.2.1 (Src.ev env (rs.reverse.take c.1) c.2.2.2).d/\uc m' c.2.1 c.2.2.1 (Src.ev env (rs.reverse.take c.1) c.2.2.2).d=(rs.reverse.getD c.1 .un).d) (ha:gV (cP env rs) args=amf:=by exact rfl)
  (ho:sH (cP env rs) args:=by repeat' first|exact trivial|exact rfl|refine And.intro ?_ ?_):aI Y draw (⟨.callL n args chk,none⟩::r) env rs nx m K:=by
 unfold aI at h⊢;show none=none/\sH (Src.ev env rs.reverse) args/\Y.tr n (gV (Src.ev env rs.reverse) args) {nx:=nx+rs.reverse.length,m:=m} _;rw[mj,ha,List.length_reverse];refine⟨rfl,ho,hc _ ⟨fun c hcc _=>hk c hcc,by simp only;omega, ?_⟩⟩;simp only[Nat.add_sub_cancel];simpa using h
end
end
def Jm (T:List D->D->Prop):Prop:=∀(a:List Span) (b:List Span),(JG a/\JG b)->T [.sl 14 (a.map Span.D),.sl 14 (b.map Span.D)] (.sl 14 ((Lh a b).map Span.D))
def XN (Y:Ctx):Prop:=Jm (bw Y 771)
def I1 (T:List D->D->Prop):Prop:=∀(a:bQ) (b:bQ),(EZ a/\EZ b)->T [bQ.D a,bQ.D b] (bQ.D (Ni a b))
def Xk (Y:Ctx):Prop:=I1 (bw Y 604)
def I2 (T:List D->D->Prop):Prop:=∀(a:bQ),(EZ a)->T [bQ.D a] (bQ.D (Bs a))
def Xl (Y:Ctx):Prop:=I2 (bw Y 605)
def GV (Y:Ctx):Prop:=sF (bw Y 1087)
def Lj (Y:Ctx):Prop:=sD (bw Y 1024)
def Q7 (Y:Ctx):Prop:=sE (bw Y 1055)
def Li (Y:Ctx):Prop:=sC (bw Y 1023)
def XZ (Y:Ctx):Prop:=wA (bw Y 980)
def SF (Y:Ctx):Prop:=wz (bw Y 925)
def XT (Y:Ctx):Prop:=wy (bw Y 861)
def Jw (T:List D->D->Prop):Prop:=∀(c:Cut),T [Cut.D c] (.bool (nq c))
def XW (Y:Ctx):Prop:=Jw (bw Y 924)
def SA (Y:Ctx):Prop:=wx (bw Y 780)
def XK (Y:Ctx):Prop:=wo (bw Y 712)
def Iw (T:List D->D->Prop):Prop:=∀(a:Key) (b:Key),T [Key.D a,Key.D b] (.int .i64 (xP a b))
def WK (Y:Ctx):Prop:=Iw (bw Y 408)
def I5 (T:List D->D->Prop):Prop:=∀(l:List Want) (n:Int),(∀x∈l,x.sm)->T [.sl 3 (l.map Want.D),.int .i64 n] (.bool (oc n l))
def Xo (Y:Ctx):Prop:=I5 (bw Y 622)
def Jp (T:List D->D->Prop):Prop:=∀(w:Want) (n:Int),(w.sm)->T [Want.D w,.int .i64 n] (.bool (pF n w))
def Sz (Y:Ctx):Prop:=Jp (bw Y 778)
def Jo (T:List D->D->Prop):Prop:=∀(l:List Want) (n:Int),(∀x∈l,x.sm)->T [.sl 3 (l.map Want.D),.int .i64 n] (.bool (oz n l))
def XP (Y:Ctx):Prop:=Jo (bw Y 777)
def I4 (T:List D->D->Prop):Prop:=∀(c:dA) (n:Int),(c.sm)->T [dA.D c,.int .i64 n] (.bool (fE c.v&&mh n c))
def Xn (Y:Ctx):Prop:=I4 (bw Y 618)
def Ix (T:List D->D->Prop):Prop:=∀(c:dA) (n:Int),(c.sm)->T [dA.D c,.int .i64 n] (.bool (mh n c))
def WL (Y:Ctx):Prop:=Ix (bw Y 409)
def I3 (T:List D->D->Prop):Prop:=∀(a:cQ) (b:cQ),T [cQ.D a,cQ.D b] (.bool (jz a b))
def Xm (Y:Ctx):Prop:=I3 (bw Y 617)
def Iv (T:List D->D->Prop):Prop:=∀(w:bZ) (i:Int),(w.sm/\(0<=i/\i<w.us.length)/\w.us.length<=48)->T [bZ.D w,.int .i64 i] (.bool (oB w.us i.toNat))
def WJ (Y:Ctx):Prop:=Iv (bw Y 403)
def vI (T:List D->D->Prop):Prop:=∀(w:bZ),(w.sm)->T [bZ.D w] (.bool (jo w))
def RZ (Y:Ctx):Prop:=vI (bw Y 169)
def R1 (Y:Ctx):Prop:=vI (bw Y 175)
def IS (T:List D->D->Prop):Prop:=∀(w:bZ) (c:List Int),(w.sm)->T [bZ.D w,.sl 1 (c.map (D.int .i64))] (.bool (sY w c))
def Xb (Y:Ctx):Prop:=IS (bw Y 510)
def vQ (T:List D->D->Prop):Prop:=∀(w:bZ) (c:List Int),(w.sm)->T [bZ.D w,.sl 1 (c.map (D.int .i64))] (.bool (nY w c))
def Wu (Y:Ctx):Prop:=vQ (bw Y 273)
def wm (T:List D->D->Prop):Prop:=∀(w:bZ) (c:List Int) (x:Want),(Cm w c x)->T [bZ.D w,.sl 1 (c.map (D.int .i64)),Want.D x] (.bool (tm w c x))
def Sq (Y:Ctx):Prop:=wm (bw Y 624)
def wj (T:List D->D->Prop):Prop:=∀(w:bZ) (c:List Int) (l:List Want),(∀x∈l,Cm w c x)->T [bZ.D w,.sl 1 (c.map (D.int .i64)),.sl 3 (l.map Want.D)] (.bool (yr w c l))
def Xp (Y:Ctx):Prop:=wj (bw Y 623)
def R0 (Y:Ctx):Prop:=vQ (bw Y 170)
def Sr (Y:Ctx):Prop:=wm (bw Y 629)
def Xr (Y:Ctx):Prop:=wj (bw Y 628)
def vW (T:List D->D->Prop):Prop:=∀(w:bZ) (c:List Int),(E0 w c)->T [bZ.D w,.sl 1 (c.map (D.int .i64))] (.sl 3 ((jL w c).map qp.D))
def WM (Y:Ctx):Prop:=vW (bw Y 410)
def Iy (T:List D->D->Prop):Prop:=∀(w:bZ) (c:List Int) (u:Nat),(LD w c u)->T [bZ.D w,.sl 1 (c.map (D.int .i64)),.int .i64 ((u:Nat):Int)] (.sl 3 ((xK w c u).map qp.D))
def WN (Y:Ctx):Prop:=Iy (bw Y 417)
def R2 (Y:Ctx):Prop:=vW (bw Y 186)
def OS (T:List D->D->Prop):Prop:=∀(w:bZ) (c:List Int),(E0 w c)->T [bZ.D w,.sl 1 (c.map (D.int .i64))] (.bool (nY w c&&decide ((jL w c).length=0)))
def C52 (Y:Ctx):Prop:=OS (bw Y 52)
def Je (T:List D->D->Prop):Prop:=∀(w:bZ) (a:aU) (b:aU),T [bZ.D w,.str a,.str b] (.int .i64 (gw w.us a b))
def XD (Y:Ctx):Prop:=Je (bw Y 696)
def Jf (T:List D->D->Prop):Prop:=∀(w:bZ) (u:Int) (v:aQ) (whole:Bool),((w.sm/\v.sm)/\u<w.us.length)->T [bZ.D w,.int .i64 u,aQ.D v,.bool whole] (.int .i64 (kE w.us u v whole))
def XE (Y:Ctx):Prop:=Jf (bw Y 697)
def IQ (T:List D->D->Prop):Prop:=∀(s:cC) (nm:aU) (v:aQ),((∀x∈s.es,eC x.r)/\v.sm)->T [cC.D s,.str nm,aQ.D v] (.tup [gC.D (qi s nm v).1,.bool (qi s nm v).2])
def Xa (Y:Ctx):Prop:=IQ (bw Y 508)
def Jg (T:List D->D->Prop):Prop:=∀(shop:List cC) (c:dA) (x:cU),(iC shop/\x.v.sm)->T [.sl 2 (shop.map cC.D),dA.D c,cU.D x] (.int .i64 (kQ shop c x))
def XF (Y:Ctx):Prop:=Jg (bw Y 698)
def Sj (Y:Ctx):Prop:=∀(shop:List cC) (w:bZ) (x:cU) (c:List Int),Pu shop w x c->∀(nx lc:Nat) (m:List (Nat×bL)) (K:D->St->Prop),lc<nx->look m lc=some (.buf 1 (c.map (D.int .i64)))->K (.int .i64 (jG shop w.us x c).1) ⟨nx,cR m lc (.buf 1 ((jG shop w.us x c).2.map (D.int .i64)))⟩->Y.tr 509 [.sl 2 (shop.map cC.D),bZ.D w,.own lc 1 0 w.us.length,cU.D x] ⟨nx,m⟩ K
def Jc (T:List D->D->Prop):Prop:=∀(c:dA) (x:cU),(c.v.sm/\x.v.sm)->T [dA.D c,.ref 9 [cU.D x] 0 0] (.bool (EU x.v true c))
def XA (Y:Ctx):Prop:=Jc (bw Y 690)
def Jd (T:List D->D->Prop):Prop:=∀(c:dA) (x:cU),(c.v.sm/\x.v.sm)->T [dA.D c,.ref 9 [cU.D x] 0 0] (.bool (EU x.v false c))
def XB (Y:Ctx):Prop:=Jd (bw Y 691)
def Jb (T:List D->D->Prop):Prop:=∀(l:List dA) (b:Bool) (x:cU),((∀c∈l,c.v.sm)/\x.v.sm)->T [.sl 8 (l.map dA.D),.fn (bif b then 690 else 691) [.ref 9 [cU.D x] 0 0]] (.int .i64 (ju (EU x.v b) l 0))
def Xz (Y:Ctx):Prop:=Jb (bw Y 689)
def Si (Y:Ctx):Prop:=∀(shop:List cC) (w:bZ) (x:cU) (c:List Int) (kvs:List D),Pu shop w x c->LB w.us kvs->∀(nx lm lc:Nat) (m:List (Nat×bL)) (K:D->St->Prop),lc<nx->lm<nx->look m lc=some (.buf 1 (c.map (D.int .i64)))->look m lm=some (.mpb kvs)->K (.int .i64 (jG shop w.us x c).1) ⟨nx,cR m lc (.buf 1 ((jG shop w.us x c).2.map (D.int .i64)))⟩->Y.tr 502 [.agg [.sl 2 (shop.map cC.D),.sl 3 (w.us.map cQ.D),.fn 5000000 [.it lm],.own lc 1 0 w.us.length],cU.D x] ⟨nx,m⟩ K
section
def nI (n i:Nat):List Int:=(List.range n).map fun u=>if 1<=u/\u<i then-1 else 0
def G6 (n i:Nat):List Int:=(List.range n).map fun u=>if u<i then-1 else 0
def pP (n i:Nat):(nI n i).length=n:=by simp[nI]
def rK (n i:Nat):(G6 n i).length=n:=by simp[G6]
def Zt (n:Nat):List.replicate n (D.int .i64 0)=(nI n 1).map (D.int .i64):=by
 apply List.ext_getElem
 .simp[nI]
 .intro i h1 h2;simp only[List.getElem_replicate,nI,List.getElem_map,List.getElem_range];rw[aj ah]
def Zu (n:Nat):List.replicate n (D.int .i64 0)=(G6 n 0).map (D.int .i64):=by
 apply List.ext_getElem
 .simp[G6]
 .intro i h1 h2;simp only[List.getElem_replicate,G6,List.getElem_map,List.getElem_range];rw[aj ah]
def PK {n i:Nat}(h:1<=i)(hi:i<n):(nI n i).set i (-1)=nI n (i+1):=by
 apply List.ext_getElem
 .simp[nI]
 .intro j h1 h2;simp only[List.getElem_set,nI,List.getElem_map,List.getElem_range]
  grind
def PM {n i:Nat}(hi:i<n):(G6 n i).set i (-1)=G6 n (i+1):=by
 apply List.ext_getElem
 .simp[G6]
 .intro j h1 h2;simp only[List.getElem_set,G6,List.getElem_map,List.getElem_range]
  grind
def PL {n:Nat}:(G6 n n).set 0 0=nI n n:=by
 apply List.ext_getElem
 .simp[nI,G6]
 .intro j h1 h2;simp only[List.getElem_set,nI,G6,List.getElem_map,List.getElem_range];simp only[List.length_set,rK]at h1
  grind
def Tb {n i:Nat}(h:n<=i):nI n i=nI n n:=by
 apply List.ext_getElem
 .simp[nI]
 .intro j h1 h2;simp only[nI,List.getElem_map,List.getElem_range];rw[pP]at h1 h2
  grind
def eR (shop:List cC)(e:Env)(w:bZ)(l:gT):List Int×Int×aU:=
 if jo w=false\/nt shop=false\/wQ e=false then([],1,[])else if uM l=false\/l.env≠e then([],34,[])
 else tf shop w.us l.lines (nI w.us.length w.us.length)
def wB (shop:List cC)(w:bZ)(l:gT):Prop:=iC shop/\w.sm/\l.sm
section
variable {shop:List cC} {e:Env} {w:bZ} {l:gT}
def Rh (h:(jo w=false\/nt shop=false)\/wQ e=false):eR shop e w l=([],1,[]):=by
 rw[eR,ay (by grind)]
def Ri (h:(jo w=true/\nt shop=true)/\wQ e=true)(h2:uM l=false\/¬l.env=e):eR shop e w l=([],34,[]):=by
 rw[eR,aj (by grind),ay h2]
def Rj (h:(jo w=true/\nt shop=true)/\wQ e=true)(h2:uM l=true/\l.env=e):eR shop e w l=tf shop w.us l.lines (nI w.us.length w.us.length):=by
 rw[eR,aj (by grind),aj (by grind)]
end
def qj (shop:List cC)(us:List cQ)(l:List cU)(c:List Int):Nat->List Int
 |0=>c
 |i+1=>(jG shop us l[i]! (qj shop us l c i)).2
def xl {shop:List cC}{us:List cQ}{l:List cU}{c:List Int}:∀i,(qj shop us l c i).length=c.length
 |0=>rfl
 |i+1=>by rw[qj,NB,xl]
def qn (us:List cQ):Nat->List D
 |0=>[]
 |i+1=>if 0<i then ud (rp us[i]!.name us[i]!.feat) (.int .i64 (i:Nat)) (qn us i)else []
def Rr {k v:D}(hk:qQ k=true):∀{l:List D},sb l=true->sb (ud k v l)=true
 |[],_=>by simp[ud,sb,hk]
 |[_],h=>by simp[sb]at h
 |a::b::r,h=>by
  simp only[sb,br]at h;rw[ud];cases m7 a k
  .simp only[cond_false,sb,h.1,Rr hk h.2,Bool.and_self]
  .simp only[cond_true,sb,h.1,h.2,Bool.and_self]
def yy (us:List cQ):∀i,sb (qn us i)=true
 |0=>rfl
 |i+1=>by
  rw[qn];split
  .exact Rr rfl (yy us i)
  .rfl
def Fx (a b c d:aU):m7 (rp a b) (rp c d)=(decide (a=c)&&decide (b=d)):=by
 simp only[m7,rp];rw[Bool.eq_iff_iff];simp
def Hs {a:D}{c d:aU}(h:m7 a (rp c d)=true):a=rp c d:=by
 unfold m7 rp at h;split at h
 .rename_i h1;simp only[D.agg.injEq,pJ,D.str.injEq,bW,br,beq_iff_eq]at h1 h;obtain⟨rfl,rfl⟩:=h1;rw[h.1,h.2];rfl
 .cases h
def MX {a b c d:aU}{v:D}:∀{l:List D},sb l=true->EV (rp a b) (ud (rp c d) v l)=if a=c/\b=d then some v else EV (rp a b) l
 |[],_=>by
  simp only[ud,EV,Fx];by_cases h:a=c/\b=d
  .rw[ay h];simp[h]
  .rw[aj h];have:(decide (c=a)&&decide (d=b))=false:=by grind
   rw[this];rfl
 |[_],h=>by simp[sb]at h
 |k::w::r,h=>by
  simp only[sb,br]at h;rw[ud];cases hk:m7 k (rp c d)
  .simp only[cond_false,EV,MX h.2];cases hk2:m7 k (rp a b)
   .rfl
   .have:=Hs hk2;subst this;rw[Fx]at hk;have hn:¬(a=c/\b=d):=by grind
    simp only[aj hn]
  .have:=Hs hk;subst this;simp only[cond_true,EV,Fx];by_cases h2:a=c/\b=d
   .rw[ay h2];simp[h2]
   .rw[aj h2];have:(decide (c=a)&&decide (d=b))=false:=by grind
    rw[this];rfl
end
def Bj:∀a b c:aU,Op.bytesLess a b=true->Op.bytesLess b c=true->Op.bytesLess a c=true
 |[],[],_,h,_=>by simp[Op.bytesLess]at h
 |[],_::_,[],_,h=>by simp[Op.bytesLess]at h
 |[],_::_,_::_,_,_=>by simp[Op.bytesLess]
 |_::_,[],_,h,_=>by simp[Op.bytesLess]at h
 |_::_,_::_,[],_,h=>by simp[Op.bytesLess]at h
 |x::a,y::b,z::c,h1,h2=>by
  have ih:=Bj a b c;unfold Op.bytesLess at h1 h2⊢;have e1:=UInt8.lt_iff_toNat_lt (a:=x) (b:=y);have e2:=UInt8.lt_iff_toNat_lt (a:=y) (b:=z);have e3:=UInt8.lt_iff_toNat_lt (a:=x) (b:=z);have e4:=od (a:=x) (b:=y);have e5:=od (a:=y) (b:=z);have e6:=od (a:=x) (b:=z)
  grind
def LJ {a b c:cQ}(h1:jz a b=true)(h2:jz b c=true):jz a c=true:=by
 have t1:=Bj a.name b.name c.name;have t2:=Bj a.feat b.feat c.feat;unfold jz at*
 grind
def Au {w:bZ}(h:jo w=true){i:Nat}(hi:1<=i):∀{j:Nat},i<j->j<w.us.length->jz w.us[i]! w.us[j]! =true
 |0,h1,_=>absurd h1 (Nat.not_lt_zero _)
 |j+1,h1,h2=>by
  have h3:jz w.us[j]! w.us[j+1]! =true:=by
   simp only[jo,br,dL,lX]at h;have:=(h.2 (j+1) (Nat.zero_le _) h2).1.1.2;simp only[cW,ey,dn,dS,Nat.add_sub_cancel]at this;rcases this with h4|h4
   .omega
   .exact h4
  by_cases hij:i=j
  .subst hij;exact h3
  .exact LJ (Au h hi ah ah) h3
def K1 {w:bZ}(h:jo w=true){a b:aU}{i j:Nat}(hi:1<=i)(hij:i<j)(hj:j<w.us.length)(h1:lj a b w.us[i]! =true)(h2:lj a b w.us[j]! =true):False:=by
 have:=Au h hi hij hj;simp only[lj,br,bU]at h1 h2;unfold jz at this;rw[h1.1,h1.2,h2.1,h2.2,xk,xk]at this;simp at this
def OC {us:List cQ}{a b:aU}:∀{n:Nat},(∀i,1<=i->i<n->lj a b us[i]! =false)->EV (rp a b) (qn us n)=none
 |0,_=>rfl
 |n+1,h=>by
  rw[qn];split
  .rename_i h0;have h1:=h n h0 ah;rw[MX (yy us n),OC (fun i h2 h3=>h i h2 ah)];simp only[lj]at h1;rw[aj (by grind)]
  .rfl
def OD {w:bZ}(hw:jo w=true){a b:aU}{i:Nat}(hi:1<=i)(h:lj a b w.us[i]! =true):∀{n:Nat},i<n->n<=w.us.length->EV (rp a b) (qn w.us n)=some (.int .i64 (i:Nat))
 |0,h1,_=>absurd h1 (Nat.not_lt_zero _)
 |n+1,h1,h2=>by
  rw[qn,ay ah,MX (yy _ n)];by_cases hin:i=n
  .subst hin;simp only[lj,br,bU]at h;rw[ay ⟨h.1.symm,h.2.symm⟩]
  .have h3:=OD hw hi h (n:=n) ah ah;have h4:lj a b w.us[n]! =false:=by
    cases hc:lj a b w.us[n]!
    .rfl
    .exact(K1 hw hi ah ah h hc).elim
   simp only[lj]at h4;rw[h3,aj (by grind)]
def UA {w:bZ}(hw:jo w=true):LB w.us (qn w.us w.us.length):=by
 refine⟨yy _ _,fun a b=>?_⟩;have hd:∀q,(w.us.drop 1)[q]! =w.us[1+q]! :=fun q=>by simp[List.getElem!_eq_getElem?_getD,Nat.add_comm]
 have hu:gw w.us a b=ju (lj a b) (w.us.drop 1) 1:=rfl;rcases m5 (f:=lj a b) (l:=w.us.drop 1) (k:=1)with⟨h1,h2⟩|⟨j,h1,h2,h3,_⟩
 .rw[OC (fun i h3 h4=>by have:=h2 (i-1) (by rw[pI];omega);rw[hd,show 1+(i-1)=i by omega]at this;exact this)];simp only[sx];rw[hu,h1];rfl
 .rw[hd]at h3;rw[pI]at h2;rw[OD hw (i:=1+j) ah h3 ah (aM _)];simp only[sx];rw[hu,h1,aj ah,cX ah]
def GK {w:bZ}(h:jo w=true):1<=w.us.length/\w.us.length<=48:=by
 simp only[jo,br,bU]at h;exact h.1.1
def Env.fz (l k:Nat)(es:List Abs.D)(c:Env):eS l k es c.D=c.D:=kL l k es _ (by simp only[Env.D,D.aZ,aR,fh])
def gT.fz (l k:Nat)(es:List Abs.D)(c:gT):eS l k es c.D=c.D:=kL l k es _ (by simp only[gT.D,D.aZ,aR,fh])
def vG (T:List D->D->Prop):Prop:=∀(e:Env),T [Env.D e] (.bool (wQ e))
def RS (Y:Ctx):Prop:=vG (bw Y 138)
def wi (T:List D->D->Prop):Prop:=∀(x:cU),(x.sm)->T [cU.D x] (.bool (r7 x))
def Xg (Y:Ctx):Prop:=wi (bw Y 553)
def vT (T:List D->D->Prop):Prop:=∀(l:gT),(l.sm)->T [gT.D l] (.bool (uM l))
def Wy (Y:Ctx):Prop:=vT (bw Y 315)
def RV (Y:Ctx):Prop:=vG (bw Y 144)
def WO (Y:Ctx):Prop:=wi (bw Y 418)
def Wk (Y:Ctx):Prop:=vT (bw Y 189)
def vP (T:List D->D->Prop):Prop:=∀(shop:List cC) (e:Env) (w:bZ) (l:gT),(wB shop w l)->T [.sl 2 (shop.map cC.D),Env.D e,bZ.D w,gT.D l] (.tup [.sl 1 ((eR shop e w l).1.map (D.int .i64)),.int .i64 (eR shop e w l).2.1,.str (eR shop e w l).2.2])
def R8 (Y:Ctx):Prop:=vP (bw Y 271)
def Pc (Y:Ctx):Prop:=vP (bw Y 264)
section
structure ry (w:bZ)(c:List Int):Prop where
 l:c.length=w.us.length
 z:c[0]! =0
 f:∀i,i<w.us.length->-1<=c[i]! /\c[i]! <(w.us[i]!.cands.length:Int)
def El {c:List Int}{j i:Nat}{v:Int}(hj:j<c.length):(c.set j v)[i]! =if i=j then v else c[i]! :=by
 simp only[List.getElem!_eq_getElem?_getD,List.getElem?_set]
 grind
def ry.set {w:bZ}{c:List Int}{j k:Nat}(h:ry w c)(h1:1<=j)(hj:j<w.us.length)(hk:k<w.us[j]!.cands.length):ry w (c.set j (k:Int)):=by
 have hl:j<c.length:=by have:=h.l;omega
 refine⟨by rw[List.length_set,h.l],by rw[El hl,aj ah];exact h.z,fun i hi=>?_⟩;rw[El hl];split
 .rename_i e;subst e;omega
 .exact h.f i hi
def Nr {w:bZ}{a b:aU}{v:aQ}{t:Bool}{c:List Int}(h:ry w c)(h2:¬kE w.us (gw w.us a b) v t<0):ry w (c.set (gw w.us a b).toNat (kE w.us (gw w.us a b) v t)):=by
 rcases si (us:=w.us) (u:=gw w.us a b) (v:=v) (t:=t)with h3|⟨j,k,h3,h4,h5⟩
 .omega
 .rcases sw (us:=w.us) (a:=a) (b:=b)with h6|⟨i,h6,h7,h8⟩
  .omega
  .rw[h4,h3,Int.toNat_natCast];exact h.set ah ah h5
def CN {w:bZ}{x:cU}:∀{l:List aU}{c:List Int},ry w c->ry w (rY w.us x l c).2
 |[],c,h=>h
 |f::r,c,h=>by
  rw[rY];split
  .exact h
  .rename_i h2;exact CN (Nr h h2)
def NA {shop:List cC}{w:bZ}{x:cU}{c:List Int}(h:ry w c):ry w (jG shop w.us x c).2:=by
 unfold jG;split
 .exact h
 .rename_i h2;split
  .exact h
  .exact CN (Nr h h2)
def C7 {shop:List cC}{w:bZ}:∀{l:List cU}{c:List Int},ry w c->(tf shop w.us l c).2.1=0->ry w (tf shop w.us l c).1
 |[],c,h,_=>h
 |x::r,c,h,h2=>by
  rw[tf]at h2⊢;split at h2
  .rename_i h3;exact absurd h2 h3
  .rename_i h3;rw[aj h3];exact C7 (NA h) h2
def G5 {n i:Nat}(h:i<n):(nI n n)[i]! =if 1<=i then-1 else 0:=by
 simp only[nI,List.getElem!_eq_getElem?_getD,List.getElem?_map,List.getElem?_range h]
 grind
def PJ {w:bZ}(h:jo w=true):ry w (nI w.us.length w.us.length):=by
 have h1:=GK h;have h0:w.us[0]!.cands.length=1:=by
  simp only[jo,ub,br,bU]at h;exact h.1.2.2
 refine⟨pP _ _,by rw[G5 ah];rfl,fun i hi=>?_⟩;rw[G5 hi];split
 .omega
 .have:i=0:=ah;subst this;omega
def PN {shop:List cC}{e:Env}{w:bZ}{l:gT}(h:(eR shop e w l).2.1=0):jo w=true/\ry w (eR shop e w l).1:=by
 unfold eR at h⊢;split at h
 .cases h
 .rename_i h1;rw[aj h1];split at h
  .cases h
  .rename_i h2;rw[aj h2];have hw:jo w=true:=by grind
   exact⟨hw,C7 (PJ hw) h⟩
def Qc {w:bZ}{c:List Int}(hw:jo w=true)(h:ry w c):nY w c=true:=by
 simp only[nY,sY,AX,hw,eJ,br,bU,dL];exact⟨h.l,fun i _ hi=>h.f i (by have:=h.l;omega)⟩
def La {w:bZ}{c:List Int}{f:qp}(h:f∈jL w c)(hl:c.length=w.us.length):0<=f.unit/\f.unit<(w.us.length:Int):=by
 unfold jL at h;split at h
 .cases h
 .simp only[fN,List.mem_flatMap,List.mem_range]at h;obtain⟨u,hu,h⟩:=h;split at h
  .cases h
  .simp only[xK,fu,jB,List.mem_append,List.mem_flatMap,List.mem_range]at h;have:f.unit=(u:Int):=by
    rcases h with⟨k,_,h⟩|⟨k,_,h⟩<;>split at h<;>first|(cases h;done)|(rw[bJ.1 h])
   omega
def qF (shop:List cC)(e:Env)(w:bZ)(l:gT):Int×aU:=
 if(eR shop e w l).2.1≠0 then(eR shop e w l).2 else if(jL w (eR shop e w l).1).length=0 then(0,[])else(35,w.us[(jL w (eR shop e w l).1)[0]!.unit.toNat]!.name)
section
variable {shop:List cC} {e:Env} {w:bZ} {l:gT}
def Re (h:¬(eR shop e w l).2.1=0):qF shop e w l=((eR shop e w l).2.1,(eR shop e w l).2.2):=by rw[qF,ay h]
def Rf (h:(eR shop e w l).2.1=0)(h2:(jL w (eR shop e w l).1).length=0):qF shop e w l=(0,[]):=by rw[qF,aj (by simp[h]),ay h2]
def Rg (h:(eR shop e w l).2.1=0)(h2:¬(jL w (eR shop e w l).1).length=0):qF shop e w l=((35:Int),w.us[(jL w (eR shop e w l).1)[0]!.unit.toNat]!.name):=by rw[qF,aj (by simp[h]),aj h2]
def Ha (hw:w.sm)(h:(eR shop e w l).2.1=0):E0 w (eR shop e w l).1/\nY w (eR shop e w l).1=true/\(0<(jL w (eR shop e w l).1).length->0<=(jL w (eR shop e w l).1)[0]!.unit/\(jL w (eR shop e w l).1)[0]!.unit<(w.us.length:Int)):=by
 obtain⟨h1,h2⟩:=PN h;exact⟨⟨hw,by rw[h2.z];exact Int.le_refl _⟩,Qc h1 h2,fun h3=>La (aq h3) h2.l⟩
end
end
def vO (T:List D->D->Prop):Prop:=∀(shop:List cC) (e:Env) (w:bZ) (l:gT),(wB shop w l)->T [.sl 2 (shop.map cC.D),Env.D e,bZ.D w,gT.D l] (.tup [.int .i64 (qF shop e w l).1,.str (qF shop e w l).2])
def R7 (Y:Ctx):Prop:=vO (bw Y 265)
def Wt (Y:Ctx):Prop:=vO (bw Y 272)
def xc (l:List aU)(s:aU):Int:=if ju (fun t=>decide (t=s)) l 0<0 then 0 else ju (fun t=>decide (t=s)) l 0
def dc (g:Gs)(own:aU):aU×Gs:=if bB[(g.val 4).toNat]! =own then(bB[((g.au.val 3+1+xc bB own)%4).toNat]!,g.au.au)else(bB[(g.val 4).toNat]!,g.au)
def dP (g:Gs)(own:aU):dY×Gs:=(⟨(dc g own).1,lU[((dc g own).2.val 8).toNat]!,[],decide (0<(dc g own).2.au.val 3)⟩,(dc g own).2.au.au)
def fm (g:Gs)(own:aU):List dY×Gs:=
 if(dP g own).2.val 6=0 then([(dP g own).1,(dP (dP g own).2.au own).1],(dP (dP g own).2.au own).2)
 else if(dP g own).2.val 6=1 then([{(dP g own).1 with feats:=[fW]}],(dP g own).2.au)else([(dP g own).1],(dP g own).2.au)
def osY:aU:=[111,115,32,61,32,108,105,110,117,120]
def osN:aU:=[111,115,32,33,61,32,108,105,110,117,120]
def gI (g:Gs):aU×Gs:=(if g.val 8=0 then osY else if g.val 8=1 then osN else [],g.au)
def By (g:Gs):aU×Gs:=(if g.val 5=0 then [111]else [],g.au)
def kC (g:Gs)(own:aU):cG×Gs:=(⟨(fm g own).1,(gI (fm g own).2).1,(By (gI (fm g own).2).2).1⟩,(By (gI (fm g own).2).2).2)
def Kq (l:List cG):Bool:=l.any fun n=>decide (n.option=[111])
def gG:List cG->Gs->Option aU×Gs
 |[],g=>(none,g)
 |n::r,g=>if n.any.length=1 then(if g.val 3=0 then(some n.any[0]!.name,g.au)else gG r g.au)else gG r g
def UJ (l:List cG)(g:Gs):List aU×Gs:=((if Kq l=true then [[63,111]]else [])++(match(gG l g).1 with|some s=>[s++[47,102]]|none=>[]),(gG l g).2)
def kT (g:Gs)(l:List cG):cZ×Gs:=(⟨[102],(UJ l g).1⟩,(UJ l g).2)
def nS (own:aU)(g:Gs):Nat->List cG×Gs
 |0=>([],g)
 |i+1=>((nS own g i).1++[(kC (nS own g i).2 own).1],(kC (nS own g i).2 own).2)
def eA (g:Gs)(own:aU):List ma×Gs:=if g.val 5=0 then([⟨(dc g.au own).1,lU[((dc g.au own).2.val 8).toNat]!,[]⟩],(dc g.au own).2.au)else([],g.au)
def kq (g:Gs)(l:List cG):List cZ×Gs:=if g.val 2=0 then([(kT g.au l).1],(kT g.au l).2)else([],g.au)
def ra (g:Gs)(nm:aU)(v:aQ)(most:Int):Rec×Gs:=
 let a:=nS nm g.au (g.val (most+1)).toNat
 let b:=eA a.2 nm
 let c:=kq b.2 a.1
 (⟨nm,v,a.1,b.1,c.1⟩,c.2)
def jR (s:cC)(r:Rec):cC×Int:=
 if jn s=false then(default,1)else if(er r).2≠0 then(default,(er r).2)else if 0<=ow s.es r.name r.v 0 then(default,8)else if 64<=s.es.length then(default,10)else(⟨s.name,s.es++[⟨r,oG r,false⟩]⟩,0)
def mE (s:cC)(nm:aU)(v:aQ)(on:Bool):cC×Int:=
 if jn s=false then(default,1)else if ow s.es nm v 0<0 then(default,9)else(⟨s.name,s.es.set (ow s.es nm v 0).toNat {s.es[(ow s.es nm v 0).toNat]! with off:=on}⟩,0)
def ri (l:List cC)(k:Nat)(p:cC×Int):List cC:=if p.2=0 then l.set k p.1 else l
def lS (g:Gs)(l:List cC):List cC×Gs:=
 let k:=(g.val l.length).toNat
 let nm:=bB[(g.au.val 4).toNat]!
 let v:=cu[(g.au.au.val 4).toNat]!
 let h:=g.au.au.au
 if h.val 6=0 then(ri l k (mE l[k]! nm v (decide (0<h.au.val 3))),h.au.au)else(ri l k (jR l[k]! (ra h.au nm v 2).1),(ra h.au nm v 2).2)
def On:List cC:=[⟨Hv,[]⟩,⟨HR,[]⟩]
def pS (g:Gs):Nat->List cC×Gs
 |0=>(On,g)
 |i+1=>lS (pS g i).2 (pS g i).1
def Af (ks:List Int)(most:Int):List cC:=(pS (⟨ks,0⟩:Gs).au ((⟨ks,0⟩:Gs).val (most+1)).toNat).1
def MH (l:List aU)(s:aU):0<=xc l s/\xc l s<=l.length:=by
 unfold xc;rcases m5 (f:=fun t=>decide (t=s)) (l:=l) (k:=0)with⟨h,_⟩|⟨j,h,h2,_⟩
 .rw[h];simp
 .rw[h,aj ah];omega
def jT (n:Int)(g g':Gs):Prop:=g.i<=g'.i/\g'.i<=g.i+n
def jT.tr {n k:Int}{a b c:Gs}(h:jT n a b)(h2:jT k b c):jT (n+k) a c:=by unfold jT at*;omega
def sf (g:Gs)(own:aU):jT 2 g (dc g own).2:=by unfold dc jT;split<;>simp only[Gs.au]<;>omega
def vF (g:Gs)(own:aU):jT 4 g (dP g own).2:=by
 have:=sf g own;simp only[jT,dP,Gs.au]at*;omega
def LN (g:Gs)(own:aU):jT 9 g (fm g own).2:=by
 have h1:=vF g own;have h2:=vF (dP g own).2.au own;unfold fm;simp only[jT,Gs.au]at*
 split
 .simp only;omega
 .split<;>simp only<;>omega
def HA (g:Gs)(own:aU):jT 11 g (kC g own).2:=by
 have h1:=LN g own;simp only[jT,kC,gI,By,Gs.au]at*;omega
def BB:∀(l:List cG) (g:Gs),jT l.length g (gG l g).2
 |[],g=>by simp[jT,gG]
 |n::r,g=>by
  have h1:=BB r g;have h2:=BB r g.au;simp only[jT,Gs.au,aT]at*
  rw[gG];split
  .split<;>simp only[Gs.au]<;>omega
  .omega
def xE (own:aU)(g:Gs):∀i:Nat,jT (11*i) g (nS own g i).2/\(nS own g i).1.length=i
 |0=>⟨by simp[jT,nS],rfl⟩
 |i+1=>by
  have h1:=xE own g i;have h2:=HA (nS own g i).2 own;simp only[jT,nS,bS,aT,aX]at*
  omega
def G1 (g:Gs)(own:aU):jT 4 g (eA g own).2:=by
 have:=sf g.au own;unfold eA;simp only[jT,Gs.au]at*
 split<;>simp only<;>omega
def Hj (g:Gs)(l:List cG):jT (1+l.length) g (kq g l).2:=by
 have:=BB l g.au;unfold kq;simp only[jT,Gs.au,kT,UJ]at*
 split<;>simp only<;>omega
def Vt (g:Gs)(nm:aU)(v:aQ):jT 30 g (ra g nm v 2).2:=by
 have h4:=(g.Ew (2+1)).1 ah;show jT 30 g (kq (eA (nS nm g.au (g.val (2+1)).toNat).2 nm).2 (nS nm g.au (g.val (2+1)).toNat).1).2;generalize g.val (2+1)=z at h4⊢;have h1:=xE nm g.au z.toNat;have h2:=G1 (nS nm g.au z.toNat).2 nm;have h3:=Hj (eA (nS nm g.au z.toNat).2 nm).2 (nS nm g.au z.toNat).1;generalize nS nm g.au z.toNat=a at*
 generalize eA a.2 nm=b at*
 generalize kq b.2 a.1=c at*
 simp only[jT,Gs.au]at*
 omega
def U8 (g:Gs)(l:List cC):jT 34 g (lS g l).2:=by
 have h1:=Vt g.au.au.au.au bB[(g.au.val 4).toNat]! cu[(g.au.au.val 4).toNat]!;by_cases h:g.au.au.au.val 6=0
 .rw[show lS g l=_ from ay h];simp only[jT,Gs.au];omega
 .rw[show lS g l=_ from aj h];simp only[jT,Gs.au]at*;omega
def QC (g:Gs)(l:List cC):(lS g l).1.length=l.length:=by
 simp only[lS,ri];split<;>simp only<;>split<;>simp
def HG (g:Gs):∀i:Nat,jT (34*i) g (pS g i).2/\(pS g i).1.length=2
 |0=>⟨by simp[jT,pS],rfl⟩
 |i+1=>by
  have h1:=HG g i;have h2:=U8 (pS g i).2 (pS g i).1;have h3:=QC (pS g i).2 (pS g i).1;simp only[jT,pS]at*
  omega
def AZ {α:Type} [Inhabited α]{l:List α}{P:α->Prop}(hd:P default)(h:∀x∈l,P x)(i:Nat):P l[i]! :=by
 by_cases hi:i<l.length
 .exact h _ (aq hi)
 .rw[show l[i]! =default by simp[List.getElem!_eq_getElem?_getD,List.getElem?_eq_none (Nat.le_of_not_lt hi)]];exact hd
def tp (i:Nat):bB[i]!.length<=3:=AZ (P:=fun s:aU=>s.length<=3) bj bj i
def zM (g:Gs)(own:aU):(dc g own).1.length<=3:=by
 unfold dc;split<;>exact tp _
def NS {g:Gs}:oy lU[(g.val 8).toNat]! :=by
 have:=g.eh 8 ah;exact aq (by simp only[lU,aT,aX];omega)
def HZ (g:Gs)(own:aU):(dP g own).1.sm:=⟨⟨by have:=zM g own;simp only[dP];omega,NS⟩,fun _ h=>by cases h⟩
def S5 (g:Gs)(own:aU):∀w∈(fm g own).1,w.sm:=by
 have h1:=HZ g own;have h2:=HZ (dP g own).2.au own;unfold fm;split
 .intro w hw;simp only[cM,dI,or_false]at hw;rcases hw with rfl|rfl<;>assumption
 .split
  .intro w hw;rw[bJ.1 hw];exact⟨h1.1,fun t ht=>by rw[bJ.1 ht];decide⟩
  .intro w hw;rw[bJ.1 hw];exact h1
def Qn (g:Gs)(own:aU):(kC g own).1.sm:=by
 refine⟨S5 g own, ?_, ?_⟩
 .show pw (gI (fm g own).2).1;unfold gI pw;simp only;split
  .decide
  .split<;>decide
 .show(By (gI (fm g own).2).2).1.length<=1048576;unfold By;simp only;split<;>decide
def M1 (own:aU)(g:Gs):∀i,∀n∈(nS own g i).1,n.sm
 |0=>fun _ h=>by cases h
 |i+1=>fun n h=>by
  rcases List.mem_append.1 h with h|h
  .exact M1 own g i n h
  .rw[bJ.1 h];exact Qn _ _
def OP (T:List D->D->Prop):Prop:=∀(v:Int) (n:Int),(n<=9223372036854775807)->T [.int .i64 v,.int .i64 n] (.int .i64 (gW v n))
def C25 (Y:Ctx):Prop:=OP (bw Y 25)
def H9 (T:List D->D->Prop):Prop:=∀(l:List Int) (i:Int),T [.sl 1 (l.map (D.int .i64)),.int .i64 i] (.int .i64 (JJ l i))
def Wi (Y:Ctx):Prop:=H9 (bw Y 159)
def rr (Y:Ctx):Prop:=∀(g:Gs) (n:Int),(n<=9223372036854775807)->(0<=g.i/\g.i<=1000000)->Y.fp 109 (Gs.D g) [.int .i64 n]/\Y.fv 109 (Gs.D g) [.int .i64 n]=.int .i64 (g.val n)/\Y.fs 109 (Gs.D g) [.int .i64 n]=Gs.D g.au
def H4 (T:List D->D->Prop):Prop:=T [] (.sl 5 (cu.map aQ.D))
def O8 (Y:Ctx):Prop:=H4 (bw Y 112)
def Sb (Y:Ctx):Prop:=∀(g:Gs) (xs:List CW),(((0<=g.i/\g.i<=900000)/\xs.length<=4)/\∀c∈xs,c.v.sm)->∀(kk:Nat) (E:List D),aR E=true->∀(nx lc:Nat) (m:List (Nat×bL)) (K:D->St->Prop),(lc≠0/\lc≠10/\lc<nx/\11<=nx)->look m 0=some (.buf 2 [Gs.D g])->look m lc=some (.buf 8 (xs.map (CW.D 10)))->look m 10=some (.buf kk E)->K (bQ.D (y5 g (xs.map CW.v))) ⟨nx,cR m 0 (.buf 2 [Gs.D g.au.au])⟩->Y.tr 380 [.ptr 0 2 0 0,.own lc 8 0 xs.length] ⟨nx,m⟩ K
def H3 (T:List D->D->Prop):Prop:=T [] (.sl 1 (bB.map D.str))
def O7 (Y:Ctx):Prop:=H3 (bw Y 111)
def H6 (T:List D->D->Prop):Prop:=T [] (.sl 1 (lU.map D.str))
def RR (Y:Ctx):Prop:=H6 (bw Y 135)
def IU (T:List D->D->Prop):Prop:=∀(l:List aU) (s:aU),T [.sl 1 (l.map D.str),.str s] (.int .i64 (xc l s))
def Xf (Y:Ctx):Prop:=IU (bw Y 536)
def R9 (Y:Ctx):Prop:=∀(g:Gs) (own:aU),(0<=g.i/\g.i<=990000)->Y.fp 297 (Gs.D g) [.str own]/\Y.fv 297 (Gs.D g) [.str own]=.str (dc g own).1/\Y.fs 297 (Gs.D g) [.str own]=Gs.D (dc g own).2
def Xe (Y:Ctx):Prop:=∀(g:Gs) (own:aU),(0<=g.i/\g.i<=990000)->Y.fp 535 (Gs.D g) [.str own]/\Y.fv 535 (Gs.D g) [.str own]=dY.D (dP g own).1/\Y.fs 535 (Gs.D g) [.str own]=Gs.D (dP g own).2
def Ww (Y:Ctx):Prop:=∀(g:Gs) (own:aU),(0<=g.i/\g.i<=980000)->Y.fp 296 (Gs.D g) [.str own]/\Y.fv 296 (Gs.D g) [.str own]=cG.D (kC g own).1/\Y.fs 296 (Gs.D g) [.str own]=Gs.D (kC g own).2
end Go.Abs
section
namespace Go.Abs
def qoW:aU:=[63,111]
def lV (l:List cG)(i:Nat):List aU:=if Kq (l.take i)=true then [qoW]else []
def zL {l:List cG}{i:Nat}(h:i<l.length):Kq (l.take (i+1))=(Kq (l.take i) ||decide (l[i]!.option=[111])):=by
 have e:l.take (i+1)=l.take i++[l[i]!]:=by
  rw[List.take_add_one,List.getElem?_eq_getElem h];simp[h]
 rw[e];simp[Kq]
def Vw {l:List cG}{i:Nat}(h:i<l.length)(h2:l[i]!.option=[111]/\((lV l i).length:Int)=0):lV l (i+1)=[qoW]:=by
 unfold lV;rw[zL h,ay (by rw[cX h2.1,Bool.or_true])]
def Vv {l:List cG}{i:Nat}(h:i<l.length)(h2:¬l[i]!.option=[111]\/¬((lV l i).length:Int)=0):lV l i=lV l (i+1):=by
 unfold lV at*
 rw[zL h];rcases h2 with h2|h2
 .simp only[dx h2,Bool.or_false]
 .split at h2
  .rename_i h3;rw[h3];rfl
  .simp at h2
def gS (l:List cG)(g:Gs):Nat->Gs
 |0=>g
 |i+1=>if l[i]!.any.length=1 then(gS l g i).au else gS l g i
def Rm (l:List cG)(g:Gs):∀i:Nat,jT (i:Int) g (gS l g i)
 |0=>by simp[jT,gS]
 |i+1=>by
  have:=Rm l g i;rw[gS];split<;>simp only[jT,Gs.au]at* <;>omega
def UY {l:List cG}{g:Gs}{i:Nat}(h:i<l.length)(h1:l[i]!.any.length=1)(h2:(gS l g i).val 3=0):gG (l.drop i) (gS l g i)=(some l[i]!.any[0]!.name,(gS l g i).au):=by
 rw[gZ h,gG,show l[i]=l[i]! by simp[h],ay h1,ay h2]
def UZ {l:List cG}{g:Gs}{i:Nat}(h:i<l.length)(h1:l[i]!.any.length=1)(h2:¬(gS l g i).val 3=0):gG (l.drop i) (gS l g i)=gG (l.drop (i+1)) (gS l g (i+1)):=by
 rw[gZ h,gG,show l[i]=l[i]! by simp[h],ay h1,aj h2,gS,ay h1]
def U0 {l:List cG}{g:Gs}{i:Nat}(h:i<l.length)(h1:¬l[i]!.any.length=1):gG (l.drop i) (gS l g i)=gG (l.drop (i+1)) (gS l g (i+1)):=by
 rw[gZ h,gG,show l[i]=l[i]! by simp[h],aj h1,gS,aj h1]
def U1 {l:List cG}{g:Gs}{i:Nat}(h:l.length<=i):gG (l.drop i) (gS l g i)=(none,gS l g i):=by
 rw[kR h,gG]
def Ec (l:List cG):lV l l.length=if Kq l=true then [qoW]else []:=by rw[lV,List.take_length]
def Ed (l:List cG)(i:Nat):(lV l i).length<=1:=by unfold lV;split<;>simp
def Mi {l:List cG}{g:Gs}{i:Nat}(hr:gG l g=gG (l.drop i) (gS l g i))(h:i<l.length)(h1:l[i]!.any.length=1)(h2:(gS l g i).val 3=0):kT g l=(⟨[102],lV l l.length++[l[i]!.any[0]!.name++[47,102]]⟩,(gS l g i).au):=by
 rw[kT,UJ,hr,UY h h1 h2,Ec];rfl
def Mj {l:List cG}{g:Gs}{i:Nat}(hr:gG l g=gG (l.drop i) (gS l g i))(h:l.length<=i):kT g l=(⟨[102],lV l l.length⟩,gS l g i):=by
 rw[kT,UJ,hr,U1 h,Ec];simp only[iH];rfl
end Go.Abs
namespace Go.Abs
section
variable {s:cC} {r:Rec} {nm:aU} {v:aQ} {on:Bool}
def Z3 (h:jn s=false):jR s r=(default,1):=by rw[jR,ay h]
def Z4 (h:jn s=true)(h2:¬(er r).2=0):jR s r=(default,(er r).2):=by rw[jR,aj (by simp[h]),ay h2]
def Z5 (h:jn s=true)(h2:(er r).2=0)(h3:0<=ow s.es r.name r.v 0):jR s r=(default,8):=by rw[jR,aj (by simp[h]),aj (by simp[h2]),ay h3]
def Z6 (h:jn s=true)(h2:(er r).2=0)(h3:¬0<=ow s.es r.name r.v 0)(h4:64<=s.es.length):jR s r=(default,10):=by rw[jR,aj (by simp[h]),aj (by simp[h2]),aj h3,ay h4]
def Z7 (h:jn s=true)(h2:(er r).2=0)(h3:¬0<=ow s.es r.name r.v 0)(h4:¬64<=s.es.length):jR s r=(⟨s.name,s.es++[⟨r,oG r,false⟩]⟩,0):=by rw[jR,aj (by simp[h]),aj (by simp[h2]),aj h3,aj h4]
def VO (h:jn s=false):mE s nm v on=(default,1):=by rw[mE,ay h]
def VP (h:jn s=true)(h2:ow s.es nm v 0<0):mE s nm v on=(default,9):=by rw[mE,aj (by simp[h]),ay h2]
def VQ {j:Nat}(h:jn s=true)(h2:ow s.es nm v 0=(j:Nat)):mE s nm v on=(⟨s.name,s.es.set j {s.es[j]! with off:=on}⟩,0):=by
 rw[mE,aj (by simp[h]),aj ah,h2,Int.toNat_natCast]
end
def Rec.fz (l k:Nat)(es:List Abs.D)(c:Rec):eS l k es c.D=c.D:=kL l k es _ (by simp only[Rec.D,D.aZ,aR,fh])
def B1 {α:Type} [Inhabited α]{q:α->D}{xs:List α}{i k n o:Nat}{v:D}{y:α}(h:i<xs.length)(he:uV (q xs[i]!) k n o v=q y):(xs.map q).set (0+i) (uV ((xs.map q).getD (0+i) .any) k n o v)=(xs.set i y).map q:=by
 rw[bq,getD_map h,he,List.map_set]
end Go.Abs
namespace Go.Abs
section
variable {g:Gs} {l:List cC}
def kG (g:Gs)(l:List cC):Nat:=(g.val l.length).toNat
def nmG (g:Gs):aU:=bB[(g.au.val 4).toNat]!
def VL (g:Gs):aQ:=cu[(g.au.au.val 4).toNat]!
def O4 (g:Gs)(l:List cC):cC×Int:=mE l[kG g l]! (nmG g) (VL g) (decide (0<g.au.au.au.au.val 3))
def Vs (g:Gs):Rec×Gs:=ra g.au.au.au.au (nmG g) (VL g) 2
def O2 (g:Gs)(l:List cC):cC×Int:=jR l[kG g l]! (Vs g).1
def Rw (h:g.au.au.au.val 6=0)(h2:(O4 g l).2=0):lS g l=(l.set (kG g l) (O4 g l).1,g.au.au.au.au.au):=by
 rw[show lS g l=(ri l (kG g l) (O4 g l),g.au.au.au.au.au)from ay h,ri,ay h2]
def Rx (h:g.au.au.au.val 6=0)(h2:¬(O4 g l).2=0):lS g l=(l,g.au.au.au.au.au):=by
 rw[show lS g l=(ri l (kG g l) (O4 g l),g.au.au.au.au.au)from ay h,ri,aj h2]
def Ry (h:¬g.au.au.au.val 6=0)(h2:(O2 g l).2=0):lS g l=(l.set (kG g l) (O2 g l).1,(Vs g).2):=by
 rw[show lS g l=(ri l (kG g l) (O2 g l),(Vs g).2)from aj h,ri,ay h2]
def Rz (h:¬g.au.au.au.val 6=0)(h2:¬(O2 g l).2=0):lS g l=(l,(Vs g).2):=by
 rw[show lS g l=(ri l (kG g l) (O2 g l),(Vs g).2)from aj h,ri,aj h2]
end
def B8 (i:Nat):cu[i]!.sm:=AZ (P:=fun v:aQ=>v.sm) ⟨bj,bj⟩ (by
 intro v hv;simp only[cu,cM,dI,or_false]at hv;rcases hv with rfl|rfl|rfl|rfl<;>exact⟨bj,bj⟩) i
def Dh {i:Nat}(h:i<4):bB[i]! ∈bB:=aq h
def Dv (g:Gs)(own:aU):(dc g own).1∈bB:=by
 have r4:=g.eh 4 ah;have r3:=g.au.eh 3 ah;have rz:=MH bB own;unfold dc;split
 .exact Dh ah
 .exact Dh ah
def S4 (g:Gs)(own:aU):∀w∈(fm g own).1,w.name∈bB:=by
 have h1:=Dv g own;have h2:=Dv (dP g own).2.au own;unfold fm;split
 .intro w hw;simp only[cM,dI,or_false]at hw;rcases hw with rfl|rfl<;>assumption
 .split<;>intro w hw<;>rw[bJ.1 hw]<;>exact h1
def Rt (own:aU)(g:Gs):∀i,∀n∈(nS own g i).1,∀w∈n.any,w.name∈bB
 |0=>fun _ h=>by cases h
 |i+1=>fun n h=>by
  rcases List.mem_append.1 h with h|h
  .exact Rt own g i n h
  .rw[bJ.1 h];exact S4 _ _
def BA:∀(l:List cG) (g:Gs),(∀n∈l,∀w∈n.any,w.name∈bB)->∀s,(gG l g).1=some s->s∈bB
 |[],g,_,s,h=>by cases h
 |n::r,g,hl,s,h=>by
  rw[gG]at h;split at h
  .rename_i h1;split at h
   .simp only[aP]at h;rw[<-h];exact hl n (.head _) _ (aq ah)
   .exact BA r _ (fun n hn=>hl n (.tail _ hn)) s h
  .exact BA r _ (fun n hn=>hl n (.tail _ hn)) s h
def ZX {l:List cG}{g:Gs}(hl:∀n∈l,∀w∈n.any,w.name∈bB):(UJ l g).1∈ofL:=by
 have h:=BA l g hl;unfold UJ;simp only;cases hp:(gG l g).1 with
 |none=>split<;>decide
 |some s=>
  have hs:=h s hp;simp only[bB,cM,dI,or_false]at hs;rcases hs with rfl|rfl|rfl|rfl<;>split<;>decide
def NU (g:Gs){nm:aU}{v:aQ}(hn:nm.length<=3)(hv:v.sm):eC (ra g nm v 2).1:=by
 refine⟨⟨by show nm.length<=_;omega,hv⟩,M1 nm g.au _, ?_, ?_⟩
 .show ∀b∈(eA (nS nm g.au (g.val (2+1)).toNat).2 nm).1,b.sm
  unfold eA;split
  .intro b hb;rw[bJ.1 hb];exact⟨by have:=zM (nS nm g.au (g.val (2+1)).toNat).2.au nm;simp only;omega,NS,show([]:aU)∈J9 by decide⟩
  .intro b hb;cases hb
 .show(kq (eA (nS nm g.au (g.val (2+1)).toNat).2 nm).2 (nS nm g.au (g.val (2+1)).toNat).1).1∈zw;unfold kq;split
  .exact .tail _ (fF.2 ⟨_,ZX (Rt nm g.au _),rfl⟩)
  .exact .head _
def HQ {l:List cC}{k:Nat}{p:cC×Int}(h:iC l)(hp:∀x∈p.1.es,eC x.r):iC (ri l k p):=by
 unfold ri;split
 .intro s hs;rcases List.mem_or_eq_of_mem_set hs with h1|rfl
  .exact h s h1
  .exact hp
 .exact h
def Q4 {s:cC}{nm:aU}{v:aQ}{on:Bool}(h:∀x∈s.es,eC x.r):∀x∈(mE s nm v on).1.es,eC x.r:=by
 unfold mE;split
 .intro x hx;cases hx
 .split
  .intro x hx;cases hx
  .rename_i h2;obtain⟨j,hj,hjl⟩:=(BC (l:=s.es) (nm:=nm) (v:=v)).resolve_left ah;rw[hj,Int.toNat_natCast];intro x hx;rcases List.mem_or_eq_of_mem_set hx with h1|rfl
   .exact h x h1
   .exact h s.es[j]! (aq hjl)
def U9 {s:cC}{r:Rec}(h:∀x∈s.es,eC x.r)(hr:eC r):∀x∈(jR s r).1.es,eC x.r:=by
 unfold jR;split
 .intro x hx;cases hx
 .split
  .intro x hx;cases hx
  .split
   .intro x hx;cases hx
   .split
    .intro x hx;cases hx
    .intro x hx;rcases List.mem_append.1 hx with h1|h1
     .exact h x h1
     .rw[bJ.1 h1];exact hr
def A0 {l:List cC}(h:iC l)(k:Nat):∀x∈l[k]!.es,eC x.r:=AZ (P:=fun s:cC=>∀x∈s.es,eC x.r) (fun _ h=>by cases h) h k
def U7 {g:Gs}{l:List cC}(h:iC l):iC (lS g l).1:=by
 by_cases h1:g.au.au.au.val 6=0
 .rw[show lS g l=(ri l (kG g l) (O4 g l),g.au.au.au.au.au)from ay h1];exact HQ h (Q4 (A0 h _))
 .rw[show lS g l=(ri l (kG g l) (O2 g l),(Vs g).2)from aj h1];exact HQ h (U9 (A0 h _) (NU _ (tp _) (B8 _)))
def Nl (g:Gs):∀i,iC (pS g i).1
 |0=>fun s hs=>by
  simp only[pS,On,cM,dI,or_false]at hs;rcases hs with rfl|rfl<;>intro x hx<;>cases hx
 |i+1=>U7 (Nl g i)
def Oo (ks:List Int)(most:Int):iC (Af ks most):=Nl _ _
end Go.Abs
end
namespace Go.Abs
def Wx (Y:Ctx):Prop:=∀(g:Gs) (l:List cG),(0<=g.i/\g.i<=980000)->((∀n∈l,n.sm)/\l.length<=1000)->Y.fp 298 (Gs.D g) [.sl 3 (l.map cG.D)]/\Y.fv 298 (Gs.D g) [.sl 3 (l.map cG.D)]=cZ.D (kT g l).1/\Y.fs 298 (Gs.D g) [.sl 3 (l.map cG.D)]=Gs.D (kT g l).2
def Wd (Y:Ctx):Prop:=∀(g:Gs) (nm:aU) (v:aQ) (most:Int),(0<=g.i/\g.i<=970000)->(0<=most/\most<=100)->Y.fp 110 (Gs.D g) [.str nm,aQ.D v,.int .i64 most]/\Y.fv 110 (Gs.D g) [.str nm,aQ.D v,.int .i64 most]=Rec.D (ra g nm v most).1/\Y.fs 110 (Gs.D g) [.str nm,aQ.D v,.int .i64 most]=Gs.D (ra g nm v most).2
def IP (T:List D->D->Prop):Prop:=∀(s:cC) (r:Rec),((∀x∈s.es,eC x.r)/\eC r)->T [cC.D s,Rec.D r] (.tup [cC.D (jR s r).1,.int .i64 (jR s r).2])
def W9 (Y:Ctx):Prop:=IP (bw Y 504)
def IN (T:List D->D->Prop):Prop:=∀(s:cC) (nm:aU) (v:aQ) (on:Bool),((∀x∈s.es,eC x.r)/\v.sm)->T [cC.D s,.str nm,aQ.D v,.bool on] (.tup [cC.D (mE s nm v on).1,.int .i64 (mE s nm v on).2])
def W8 (Y:Ctx):Prop:=IN (bw Y 503)
def H7 (T:List D->D->Prop):Prop:=∀(a:List Int) (b:List Int),T [.sl 1 (a.map (D.int .i64)),.sl 1 (b.map (D.int .i64))] (.bool (decide (a=b)))
def Wh (Y:Ctx):Prop:=H7 (bw Y 153)
def Ws (Y:Ctx):Prop:=∀(g:Gs) (l:List cC),(0<=g.i/\g.i<=960000)->(iC l/\1<=l.length/\l.length<=100)->Y.fp 266 (Gs.D g) [.sl 2 (l.map cC.D)]/\Y.fv 266 (Gs.D g) [.sl 2 (l.map cC.D)]=.sl 2 ((lS g l).1.map cC.D)/\Y.fs 266 (Gs.D g) [.sl 2 (l.map cC.D)]=Gs.D (lS g l).2
def OU (T:List D->D->Prop):Prop:=∀(ks:List Int) (most:Int),(0<=most/\most<=100)->T [.sl 1 (ks.map (D.int .i64)),.int .i64 most] (.sl 2 ((Af ks most).map cC.D))
def C90 (Y:Ctx):Prop:=OU (bw Y 90)
def OV (T:List D->D->Prop):Prop:=∀(shop:List cC) (e:Env) (w:bZ) (l:gT),(wB shop w l)->T [.sl 2 (shop.map cC.D),Env.D e,bZ.D w,gT.D l] (.bool true)
def C94 (Y:Ctx):Prop:=OV (bw Y 94)
def OQ (T:List D->D->Prop):Prop:=∀(n:Int),T [.int .i64 n] (Env.D (sW n))
def C29 (Y:Ctx):Prop:=OQ (bw Y 29)
def Ia (T:List D->D->Prop):Prop:=∀(ks:List Int),T [.sl 1 (ks.map (D.int .i64))] (gT.D (lM ks))
def Wj (Y:Ctx):Prop:=Ia (bw Y 160)
def eZ:Env:=⟨[],[],[]⟩
def GZ:bZ:=⟨[⟨[],[],[⟨zV,-1,[],[]⟩]⟩]⟩
def Zj:cU:=⟨[97,110,116],zV,[],0,[]⟩
def Zm:eR [] eZ GZ ⟨eZ,[]⟩=([0],0,[]):=by decide+kernel
def Zn:qF [] eZ GZ ⟨eZ,[]⟩=(0,[]):=by decide+kernel
def Zo:qF [] eZ GZ ⟨sW 1,[]⟩=(34,[]):=by decide+kernel
def Zp:qF [] eZ GZ ⟨eZ,[Zj]⟩=(9,[97,110,116]):=by decide+kernel
def S8:GZ.sm:=by
 intro u hu;rw[bJ.1 hu];refine⟨bj,fun c hc=>?_⟩;rw[bJ.1 hc];exact⟨⟨bj,bj⟩,fun _ h=>(by cases h),fun _ h=>by cases h⟩
def G0 {l:gT}(h:l.sm):wB [] GZ l:=⟨(fun _ h=>by cases h),S8,h⟩
def T7 (n:Int):∀i,((sW n).at i).length<=1048576:=by
 intro i;have h:(zo[(gW n 3).toNat]!).length<=1048576:=AZ (P:=fun s:aU=>s.length<=1048576) bj bj _;unfold sW Env.at
 grind
def OT (T:List D->D->Prop):Prop:=T [] (.bool true)
def C89 (Y:Ctx):Prop:=OT (bw Y 89)
def O9 (Y:Ctx):Prop:=∀(g:Gs) (n:Nat) (nm ft:Nat->aU) (cs:Nat->List CW) (kk:Nat) (E:List D),aR E=true->((0<=g.i/\g.i<=800000)/\Lr n cs)->∀(nx:Nat) (m:List (Nat×bL)) (K:D->St->Prop),11<=nx->Pz m g n nm ft cs kk E->K (Want.D (c9 g n (iE cs))) ⟨nx,cR m 0 (.buf 2 [Gs.D g.eX])⟩->Y.tr 157 [.ptr 0 2 0 0,.own 1 3 0 n] ⟨nx,m⟩ K
def RX (Y:Ctx):Prop:=∀(g:Gs) (n:Nat) (nm ft:Nat->aU) (cs:Nat->List CW) (kk:Nat) (E:List D) (most:Int),aR E=true->((0<=g.i/\g.i<=700000)/\Lr n cs/\(0<=most/\most<=3))->∀(nx:Nat) (m:List (Nat×bL)) (K:D->St->Prop),11<=nx->Pz m g n nm ft cs kk E->K (.sl 1 ((aA g n (iE cs) most).1.map ei)) ⟨nx,cR m 0 (.buf 2 [Gs.D (aA g n (iE cs) most).2])⟩->Y.tr 155 [.ptr 0 2 0 0,.own 1 3 0 n,.int .i64 most] ⟨nx,m⟩ K
def RW (Y:Ctx):Prop:=∀(g:Gs) (few:Int),((0<=g.i/\g.i<=600000)/\few<=1000)->∀(nx:Nat) (m:List (Nat×bL)) (K:D->St->Prop),look m 0=some (.buf 2 [Gs.D g])->0<nx->K (.own nx 3 0 (ff g few).1.length) ⟨nx+9,VV nx (ff g few).1++cR m 0 (.buf 2 [Gs.D (ff g few).2])⟩->Y.tr 154 [.ptr 0 2 0 0,.int .i64 few] ⟨nx,m⟩ K
def OR (T:List D->D->Prop):Prop:=∀(ks:List Int) (few:Int),(few<=1000)->T [.sl 1 (ks.map (D.int .i64)),.int .i64 few] (bZ.D (j4 ks few))
def C36 (Y:Ctx):Prop:=OR (bw Y 36)
def EJ (T:List D->D->Prop):Prop:=∀(ws:List Int) (ss:List Int) (ks:List Int) (n:Int),T [.sl 1 (ws.map (D.int .i64)),.sl 1 (ss.map (D.int .i64)),.sl 1 (ks.map (D.int .i64)),.int .i64 n] (.bool true)
end Go.Abs
