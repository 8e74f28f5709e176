/- A part of the proofs. -/
import Derived.Lib.CountLaws
import Derived.Lib.IndexMore
import Derived.Lib.ItoaNum
import Derived.Lib.Join
import Derived.Lib.Split
import Derived.Lib.SplitLaws
import Derived.Lib.Strings
import Derived.Lib.TrimByte
import Derived.Shelf.Strings.Split
import Derived.Test.YtgnjlompgjhaaaaGreatDoorP06
set_option linter.all false
set_option maxRecDepth 60000
set_option maxHeartbeats 2000000
namespace Go.Abs
def IP (T:List D->D->Prop):Prop:=∀(s:au),T [.str s] (.tup [.str (iP s 0).1,.str (iP s 0).2])
def WB (Y:Ctx):Prop:=IP (bz Y 1007)
def IM (T:List D->D->Prop):Prop:=∀(s:au),T [.str s] (.tup [.int .i64 (ie s).1,.str (ie s).2])
def WA (Y:Ctx):Prop:=IM (bz Y 1006)
def IQ (T:List D->D->Prop):Prop:=∀(l:List au),T [.sl 1 (l.map D.str)] (.tup [cq.D (Bj l),.bool (fM l)])
def WC (Y:Ctx):Prop:=IQ (bz Y 1008)
def NX (T:List D->D->Prop):Prop:=∀(s:au),(s.length<=1048576)->T [.str s] (.tup [dI.D ((eP s).getD eQ),.int .i64 (if(eP s).isSome=true then 0 else 6)])
def C897 (Y:Ctx):Prop:=NX (bz Y 897)
def NU (T:List D->D->Prop):Prop:=∀(s:au),(s.length<=1048576)->T [.str s] (.tup [dI.D ((iw s).getD eQ),.bool (iw s).isSome])
def C819 (Y:Ctx):Prop:=NU (bz Y 819)
def NH (T:List D->D->Prop):Prop:=∀(s:au),(s.length<=1048575)->T [.str s] (.tup [dI.D ((nH s).getD eQ),.int .i64 (if(nH s).isSome=true then 0 else 6)])
def C682 (Y:Ctx):Prop:=NH (bz Y 682)
def NZ (T:List D->D->Prop):Prop:=∀(r:An),(oQ r)->T [iJ r] (.bool (kQ r))
def Yi (Y:Ctx):Prop:=NZ (bz Y 899)
def N0 (T:List D->D->Prop):Prop:=∀(r:An),(kQ r=true/\oQ r)->T [iJ r] (.str (FG r))
def UI (Y:Ctx):Prop:=N0 (bz Y 900)
def Aj (T:List D->D->Prop):Prop:=∀(r:An),(oQ r)->T [iJ r] (.bool (uH r))
def C901 (Y:Ctx):Prop:=Aj (bz Y 901)
def Ae (T:List D->D->Prop):Prop:=∀(r:An),(oQ r)->T [iJ r] (.str (yv r))
def C745 (Y:Ctx):Prop:=Ae (bz Y 745)
def NY (T:List D->D->Prop):Prop:=∀(s:au),T [.str s] (.str (eO s))
def C898 (Y:Ctx):Prop:=NY (bz Y 898)
def NW (T:List D->D->Prop):Prop:=∀(s:au),(s.length<=1048576)->T [.str s] (.sl 1 ((aR s []).map D.str))
def C896 (Y:Ctx):Prop:=NW (bz Y 896)
def Ad (T:List D->D->Prop):Prop:=∀(s:au),(s.length<=1048576)->T [.str s] (.tup [iJ (iR s).1,.int .i64 (iR s).2])
def C744 (Y:Ctx):Prop:=Ad (bz Y 744)
def zX (T:List D->D->Prop):Prop:=∀(s:au),(s.length<=1048576)->T [.str s] (.bool (tt s))
def X1 (Y:Ctx):Prop:=zX (bz Y 572)
def NJ (T:List D->D->Prop):Prop:=∀(r:An),(oQ r)->T [iJ r] (.tup [.str (if kQ r=true then FG r else []),.bool (kQ r)])
def UG (Y:Ctx):Prop:=NJ (bz Y 684)
def C685 (Y:Ctx):Prop:=Aj (bz Y 685)
def C496 (Y:Ctx):Prop:=Ae (bz Y 496)
def I0 (T:List D->D->Prop):Prop:=∀(s:au),(s.length<=1048576)->T [.str s,.str [124,124]] (.sl 1 ((aR s []).map D.str))
def WN (Y:Ctx):Prop:=I0 (bz Y 124)
def NI (T:List D->D->Prop):Prop:=∀(s:au) (b:UInt8),(b=32)->(s.length<=1048576)->T [.str s,.str [b]] (.str (eO s))
def C683 (Y:Ctx):Prop:=NI (bz Y 683)
def zD (T:List D->D->Prop):Prop:=∀(r:Rec),(yi r/\fC r)->T [Rec.D r] (.str (gC r))
def XA (Y:Ctx):Prop:=zD (bz Y 219)
def Xz (Y:Ctx):Prop:=zD (bz Y 215)
def C495 (Y:Ctx):Prop:=Ad (bz Y 495)
def C444 (Y:Ctx):Prop:=zX (bz Y 444)
def Wz (T:List D->D->Prop):Prop:=∀(l:List Nd) (i:Int) (b:Bool),(jV l/\l.length<=15/\0<=i/\i<l.length)->T [.sl 5 (l.map Nd.D),.int .i64 i,.bool b] (.str (lL (ng l i) b))
def WQ (Y:Ctx)(u:Nat):Prop:=∀(l:List Nd) (i:Int) (b:Bool),(jV l/\l.length<=15/\0<=i/\i<l.length)->2*i.toNat+1<u->Y.pre 951 [.sl 5 (l.map Nd.D),.int .i64 i,.bool b]/\Y.val 951 [.sl 5 (l.map Nd.D),.int .i64 i,.bool b]=.str (lL (ng l i) b)
def Af (T:List D->D->Prop):Prop:=∀(l:List Nd) (i:Int),(jV l/\l.length<=15/\0<=i/\i<l.length)->T [.sl 5 (l.map Nd.D),.int .i64 i] (.str (ng l i))
def C811 (Y:Ctx):Prop:=Af (bz Y 811)
def QR (Y:Ctx)(u:Nat):Prop:=∀(l:List Nd) (i:Int),(jV l/\l.length<=15/\0<=i/\i<l.length)->2*i.toNat<u->Y.pre 811 [.sl 5 (l.map Nd.D),.int .i64 i]/\Y.val 811 [.sl 5 (l.map Nd.D),.int .i64 i]=.str (ng l i)
def IV (T:List D->D->Prop):Prop:=∀(n:Nd),T [Nd.D n] (.bool (ph n))
def WH (Y:Ctx):Prop:=IV (bz Y 1098)
def N2 (T:List D->D->Prop):Prop:=T [] (.sl 1 (r5.map D.str))
def Yk (Y:Ctx):Prop:=N2 (bz Y 950)
def IW (T:List D->D->Prop):Prop:=∀(k:Int),(0<=k/\k<3)->T [.int .i64 k] (.str (uD k))
def QK (Y:Ctx):Prop:=IW (bz Y 1099)
def IX (T:List D->D->Prop):Prop:=∀(s:au) (b:Bool),(s.length<=1000000000)->T [.str s,.bool b] (.str (lL s b))
def WI (Y:Ctx):Prop:=IX (bz Y 1100)
def WE (Y:Ctx):Prop:=Af (bz Y 1036)
def QJ (Y:Ctx)(u:Nat):Prop:=∀(l:List Nd) (i:Int),(jV l/\l.length<=15/\0<=i/\i<l.length)->2*i.toNat<u->Y.pre 1036 [.sl 5 (l.map Nd.D),.int .i64 i]/\Y.val 1036 [.sl 5 (l.map Nd.D),.int .i64 i]=.str (ng l i)
def IU (T:List D->D->Prop):Prop:=∀(l:List Nd),(l.length<=15)->T [.sl 5 (l.map Nd.D)] (.bool (py l))
def WD (Y:Ctx):Prop:=IU (bz Y 1035)
def NS (T:List D->D->Prop):Prop:=∀(l:List Nd),T [.sl 5 (l.map Nd.D)] (.bool (decide (l.length<=15)&&py l))
def C810 (Y:Ctx):Prop:=NS (bz Y 810)
def z7 (T:List D->D->Prop):Prop:=∀(l:List Nd),(jV l/\l.length<=15)->T [.sl 5 (l.map Nd.D)] (.str (qS l))
def X6 (Y:Ctx):Prop:=z7 (bz Y 662)
def Yn (Y:Ctx):Prop:=z7 (bz Y 954)
def z6 (T:List D->D->Prop):Prop:=∀(m:WW),T [lO m] (.bool (Ba m))
def X5 (Y:Ctx):Prop:=z6 (bz Y 661)
def Ym (Y:Ctx):Prop:=z6 (bz Y 953)
def zM (T:List D->D->Prop):Prop:=∀(m:WW),T [lO m] (.str (Xj m))
def C446 (Y:Ctx):Prop:=zM (bz Y 446)
def C814 (Y:Ctx):Prop:=zM (bz Y 814)
def N1 (T:List D->D->Prop):Prop:=∀(w:List au) (es:List D) (b:Bool),T [.ref 3 [iW w (.sl 5 es) b] 0 0] (.str (bA w))
def Yj (Y:Ctx):Prop:=N1 (bz Y 946)
def N9 (Y:Ctx):Prop:=∀(w:List au) (nd:List Nd) (b:Bool),UO Y 3 iW 947 [] w nd b (fun o=>o=⟨0,bY w,nd,dR w b⟩) (fun _=>.str (bA w))
def QS (Y:Ctx):Prop:=∀(x:Nd) (w:List au) (nd:List Nd) (b:Bool),nd.length<=2000->pD Y 3 iW 948 [Nd.D x] w nd b (fun o=>o=⟨(nd.length:Nat),w,nd++[x],b⟩) Va
def QH (Y:Ctx):Prop:=∀(k:au) (w:List au) (nd:List Nd) (b:Bool),nd.length+2*w.length<=1000->pD Y 3 iW 1031 [.str k] w nd b (eC (ow b k w nd) w nd) Va
def C808 (Y:Ctx):Prop:=(∀(w:List au) (nd:List Nd),nd.length+2*w.length<=1000->pD Y 3 iW 808 [.str rv,.int .i64 4,.fn 809 []] w nd false (eC (jf w nd) w nd) Va)/\(∀(w:List au) (nd:List Nd),nd.length+2*w.length<=1000->pD Y 3 iW 808 [.str lW,.int .i64 3,.fn 949 []] w nd false (eC (kZ w nd) w nd) Va)
def QQ (Y:Ctx)(u:Nat):Prop:=(∀(w:List au) (nd:List Nd),nd.length+2*w.length<=1000->6*w.length+3<u->pD Y 3 iW 808 [.str rv,.int .i64 4,.fn 809 []] w nd false (eC (jf w nd) w nd) Va)/\(∀(w:List au) (nd:List Nd),nd.length+2*w.length<=1000->6*w.length+1<u->pD Y 3 iW 808 [.str lW,.int .i64 3,.fn 949 []] w nd false (eC (kZ w nd) w nd) Va)
def X4 (Y:Ctx):Prop:=∀(w:List au) (nd:List Nd),nd.length+2*w.length<=1000->pD Y 3 iW 660 [] w nd false (eC (jf w nd) w nd) Va
def WL (Y:Ctx)(u:Nat):Prop:=∀(w:List au) (nd:List Nd),nd.length+2*w.length<=1000->6*w.length+4<u->pD Y 3 iW 660 [] w nd false (eC (jf w nd) w nd) Va
def C809 (Y:Ctx):Prop:=∀(w:List au) (nd:List Nd),nd.length+2*w.length<=1000->pD Y 3 iW 809 [] w nd false (eC (kZ w nd) w nd) Va
def C809u (Y:Ctx)(u:Nat):Prop:=∀(w:List au) (nd:List Nd),nd.length+2*w.length<=1000->6*w.length+2<u->pD Y 3 iW 809 [] w nd false (eC (kZ w nd) w nd) Va
def C949 (Y:Ctx):Prop:=∀(w:List au) (nd:List Nd),nd.length+2*w.length<=1000->pD Y 3 iW 949 [] w nd false (eC (kn w nd) w nd) Va
def WO (Y:Ctx)(u:Nat):Prop:=∀(w:List au) (nd:List Nd),nd.length+2*w.length<=1000->6*w.length+0<u->pD Y 3 iW 949 [] w nd false (eC (kn w nd) w nd) Va
def take_cons {Y:Ctx}(h:N9 Y){x:au}(hx:x≠[])(r:List au)(nd:List Nd)(b:Bool):UO Y 3 iW 947 [] (x::r) nd b (fun o=>o=⟨0,r,nd,b⟩) (fun _=>.str x):=by
 have:=h (x::r) nd b;rw[kC hx,kB hx]at this;exact this
def Ot {bad:Bool}{w:List au}{wd:au}(h:(!bad&&decide (bA w=wd))=false):bad=true\/w.head? ≠some wd:=by
 cases bad with
 |true=>exact .inl rfl
 |false=>
  right;simp only[Bool.not_false,gH,bc]at h
  match w,h with
  |[],_=>simp
  |x::r,h=>intro e;exact h (show x=wd by simpa using e)
def zL (T:List D->D->Prop):Prop:=∀(s:au),T [.str s] (.tup [lO (m5 s).1,.int .i64 (m5 s).2])
def C445 (Y:Ctx):Prop:=zL (bz Y 445)
def zC (T:List D->D->Prop):Prop:=∀(s:au),T [.str s] (.bool (qH s))
def Xy (Y:Ctx):Prop:=zC (bz Y 212)
def Ge (Y:Ctx):Prop:=∀(s:au) (W w:List au) (nd:List Nd) (b:Bool),w<:+W/\W.length<=1000->UO Y 4 (jn W) 1033 [.str s] w nd b (fun o=>o=⟨0,pk w s,nd,b⟩) (fun _=>.bool (gZ w s))
def QM (Y:Ctx):Prop:=∀(W w:List au) (nd:List Nd) (b:Bool),w<:+W/\W.length<=1000->UO Y 4 (jn W) 1141 [] w nd b (fun o=>o=⟨0,w.drop 1,nd,rB w b⟩) (fun _=>.str (bA w))
def CW (Y:Ctx):Prop:=∀(x:Nd) (W w:List au) (nd:List Nd) (b:Bool),nd.length<=2000->pD Y 4 (jn W) 1034 [Nd.D x] w nd b (fun o=>o=⟨(nd.length:Nat),w,nd++[x],b⟩) Va
def rB3 {w:List au}{a b c:au}{r:List au}(h:w=a::b::c::r):rB ((w.drop 1).drop 1) (rB (w.drop 1) (rB w false))=false/\((w.drop 1).drop 1).drop 1=r:=by subst h;exact⟨rfl,rfl⟩
def QL (Y:Ctx):Prop:=∀(W w:List au) (nd:List Nd),w<:+W/\W.length<=1000->nd.length+2*w.length<=1000->pD Y 4 (jn W) 1126 [] w nd false (eC (AI w nd) w nd) Va
def C1097 (Y:Ctx):Prop:=∀(W w:List au) (nd:List Nd),w<:+W/\W.length<=1000->nd.length+2*w.length<=1000->pD Y 4 (jn W) 1097 [] w nd false (eC (kn w nd) w nd) Va
def I7 (Y:Ctx)(u:Nat):Prop:=∀(W w:List au) (nd:List Nd),w<:+W/\W.length<=1000->nd.length+2*w.length<=1000->6*w.length+0<u->pD Y 4 (jn W) 1097 [] w nd false (eC (kn w nd) w nd) Va
def C1032 (Y:Ctx):Prop:=∀(W w:List au) (nd:List Nd),w<:+W/\W.length<=1000->nd.length+2*w.length<=1000->pD Y 4 (jn W) 1032 [] w nd false (eC (kZ w nd) w nd) Va
def QI (Y:Ctx)(u:Nat):Prop:=∀(W w:List au) (nd:List Nd),w<:+W/\W.length<=1000->nd.length+2*w.length<=1000->6*w.length+1<u->pD Y 4 (jn W) 1032 [] w nd false (eC (kZ w nd) w nd) Va
def Yl (Y:Ctx):Prop:=∀(W w:List au) (nd:List Nd),w<:+W/\W.length<=1000->nd.length+2*w.length<=1000->pD Y 4 (jn W) 952 [] w nd false (eC (jf w nd) w nd) Va
def WR (Y:Ctx)(u:Nat):Prop:=∀(W w:List au) (nd:List Nd),w<:+W/\W.length<=1000->nd.length+2*w.length<=1000->6*w.length+2<u->pD Y 4 (jn W) 952 [] w nd false (eC (jf w nd) w nd) Va
def C813 (Y:Ctx):Prop:=zL (bz Y 813)
def Ya (Y:Ctx):Prop:=zC (bz Y 670)
def NQ (T:List D->D->Prop):Prop:=∀(s:au) (b:Int),T [.str s,.int .u8 b] (.int .i64 ((aG s b).2.length:Nat))
def C741 (Y:Ctx):Prop:=NQ (bz Y 741)
def NR (T:List D->D->Prop):Prop:=∀(l:List au),T [.sl 1 (l.map D.str)] (.tup [cq.D (ec l).1,.bool (ec l).2])
def C742 (Y:Ctx):Prop:=NR (bz Y 742)
def C568 (Y:Ctx):Prop:=zP (bz Y 568)
def Nw (T:List D->D->Prop):Prop:=∀(l:List au) (x:au),T [.sl 1 (l.map D.str),.str x] (.int .i64 (wW l x 0))
def C494 (Y:Ctx):Prop:=Nw (bz Y 494)
def MS (T:List D->D->Prop):Prop:=∀(l:List au) (x:au),T [.sl 1 (l.map D.str),.str x] (.bool (decide (x∈l)))
def C246 (Y:Ctx):Prop:=MS (bz Y 246)
def MR (T:List D->D->Prop):Prop:=∀(s:au) (n:Int),(s.length<=1048576)->(n=-1\/(1<=n/\n<=1000))->T [.str s,.str [32],.int .i64 n] (.sl 1 ((mG n s).map D.str))
def C245 (Y:Ctx):Prop:=MR (bz Y 245)
def Nk (T:List D->D->Prop):Prop:=∀(l:List au),(l.length<=1048600)->T [.sl 1 (l.map D.str)] (.sl 1 (l.map D.str))
def C469 (Y:Ctx):Prop:=Nk (bz Y 469)
def Uz (Y:Ctx):Prop:=∀(r:Ld) (w:au) (n:Nat) (op:Bool),(r.sm)->(n<=1000)->(op=true->1<=n)->Y.fp 465 (Ld.D r) [.str w,.int .i64 (n:Nat),.bool op]/\Y.fv 465 (Ld.D r) [.str w,.int .i64 (n:Nat),.bool op]=.tup [CL (cj w n op r.rest),.bool (cj w n op r.rest).isSome]/\Y.fs 465 (Ld.D r) [.str w,.int .i64 (n:Nat),.bool op]=Ld.D (r.after (cj w n op r.rest))
def Ld.FP {r:Ld}(h:r.sm):r.to r.rest=r:=by
 obtain⟨ls,n⟩:=r;have h1:n<=ls.length:=h.1.1
 grind [Ld.to,Ld.rest]
def Ld.zu {r:Ld}{q:List au}(h:q<:+r.ls):(r.to q).rest=q:=by
 obtain⟨ls,n⟩:=r;obtain⟨a,e⟩:=h;simp only at e;subst e;simp[Ld.rest,Ld.to]
theorem Ld.sm.to {r:Ld}(h:r.sm)(q:List au):(r.to q).sm:=⟨⟨Nat.sub_le _ _,h.1.2⟩,h.2⟩
def Ld.BW (r:Ld):r.rest<:+r.ls:=List.drop_suffix _ _
def eS (w:au)(n:Nat)(op:Bool)(p:List au):List au:=match cj w n op p with
 |some (_,q)=>q
 |none=>p
theorem p8 {w:au}{n:Nat}{op:Bool}{p l q:List au}(h:cj w n op p=some (l,q)):q<:+p:=by
 grind [dY]
def Ld.Gu {r:Ld}{p:List au}(hp:p<:+r.ls){w:au}{n:Nat}{op:Bool}:(r.to p).after (cj w n op p)=r.to (eS w n op p):=by
 grind [eS,cj,jK,Ld.after,Ld.to]
def zk {Y:Ctx}(h:Uz Y){r:Ld}(hr:r.sm){p:List au}(hp:p<:+r.ls){w:au}{n:Nat}{op:Bool}(hn:n<=1000)(ho:op=true->1<=n):
  Y.fp 465 (Ld.D (r.to p)) [.str w,.int .i64 (n:Nat),.bool op]/\Y.fv 465 (Ld.D (r.to p)) [.str w,.int .i64 (n:Nat),.bool op]=.tup [CL (cj w n op p),.bool (cj w n op p).isSome]/\Y.fs 465 (Ld.D (r.to p)) [.str w,.int .i64 (n:Nat),.bool op]=Ld.D (r.to (eS w n op p)):=by
 have:=h (r.to p) w n op (hr.to p) hn ho;rw[Ld.zu hp,Ld.Gu hp]at this;exact this
def xi {w:au}{n:Nat}{op:Bool}{t:au}{l:List au}(h:dV w n op t=some l):(n=0\/l.length=n)/\[]∉l/\l=ed n op t:=by
 grind [dV]
theorem oA (x:UInt8):∀(l:List au) (n:Nat),(aS [x] (l.drop n)).length<=(aS [x] l).length
 |[],n=>aJ
 |a::r,0=>aL _
 |[a],n+1=>by simp[aS]
 |a::b::r,n+1=>by
  have:=oA x (b::r) n
  grind [gr]
def IG {n:Nat}{op:Bool}{t w:au}(h:w∈ed n op t):w.length<=t.length:=by
 unfold ed at h;split at h
 .unfold rj at h;split at h
  .exact dT t 32 h
  .rw[List.mem_append]at h;rcases h with h|h
   .exact dT t 32 (kD h)
   grind [oA,ai,ju]
 .exact dT t 32 h
def po {r:Ld}(hr:r.sm){p:List au}(hp:p<:+r.ls){w:au}{n:Nat}{op:Bool}{l q:List au}(h:cj w n op p=some (l,q)):
  (n=0\/l.length=n)/\(∀u∈l,u.length<=1048576)/\q<:+r.ls/\q.length+1=p.length:=by
 obtain⟨t,rfl,ht⟩:=dY h;obtain⟨h1,_,h3⟩:=xi ht;refine⟨h1,fun u hu=>?_,(List.suffix_cons _ _).trans hp,rfl⟩;rw[h3]at hu;have:=IG hu;have:=hr.2 t (hp.subset (.head _));omega
def Ld.back {r:Ld}{t:au}{q:List au}(h:(t::q)<:+r.ls):v7 (Ld.D (r.to q)) 2 1 1 (.int .i64 (((r.to q).at':Nat) -1:Int))=Ld.D (r.to (t::q)):=by
 have:=h.length_le;show D.agg [.sl 1 (r.ls.map D.str),.int .i64 (((r.ls.length-q.length:Nat):Int) -1)]=D.agg [.sl 1 (r.ls.map D.str),.int .i64 ((r.ls.length-(q.length+1):Nat):Int)]
 grind
def j8 {α:Type}{o:Option α}(h:o.isSome=true):∃a,o=some a:=Option.isSome_iff_exists.1 h
theorem j7 {α:Type}{o:Option α}(h:o.isSome=false):o=none:=by cases o with
 |none=>rfl
 |some a=>cases h
def bT.N (x:bT):Go.Abs.D:=.agg [.str x.name,.str x.range,VR x.feats,.bool x.bare]
def Zk:∀l:List au,yX (VR l) (.sl 1 (l.map D.str))
 |[]=>.nil 1
 |_::_=>.refl _
def bT.wk (x:bT):yX x.N x.D:=.ag (.cons (.refl _) (.cons (.refl _) (.cons (Zk _) (.cons (.refl _) .nil))))
def bT.pd (x:bT):x.N.bJ=true:=by
 simp only[bT.N,D.bJ,bH,DI,nE]
def wh {p:List au}(h:cj gA 5 true p=none):cF p=([],p):=by
 match p,h with
 |[],_=>rfl
 |t::r,h=>
  grind [cj,cF]
def KV {p l q:List au}(h:cj gA 5 true p=some (l,q))(ho:lh l=false):cF p=([],p):=by
 grind [dY,cF]
theorem yC {p l q:List au}(h:cj gA 5 true p=some (l,q))(ho:lh l=true):cF p=(gW l::(cF q).1,(cF q).2):=by
 grind [dY,cF]
def om (s:au)(b:Int):ai s b≠[]:=by
 grind [er,ai]
def Sw {l:List au}(h:l≠[]):VR l=.sl 1 (l.map D.str):=by
 match l,h with
 |_::_,_=>rfl
def kO (p:List au):(cz p).2<:+p:=by
 grind [cz,p8]
def SM (p:List au):(oI p).2<:+p:=by
 grind [oI,p8]
def UA (Y:Ctx):Prop:=∀(r:Ld),(r.sm)->Y.fp 468 (Ld.D r) []/\Y.fv 468 (Ld.D r) []=.str (cz r.rest).1/\Y.fs 468 (Ld.D r) []=Ld.D (r.to (cz r.rest).2)
def F1 {Y:Ctx}(h:UA Y){r:Ld}(hr:r.sm){p:List au}(hp:p<:+r.ls):Y.fp 468 (Ld.D (r.to p)) []/\Y.fv 468 (Ld.D (r.to p)) []=.str (cz p).1/\Y.fs 468 (Ld.D (r.to p)) []=Ld.D (r.to (cz p).2):=by
 have:=h (r.to p) (hr.to p);rw[Ld.zu hp]at this;exact this
def XQ (Y:Ctx):Prop:=∀(r:Ld),(r.sm)->Y.fp 467 (Ld.D r) []/\Y.fv 467 (Ld.D r) []=bp.D (eR r.rest).1/\Y.fs 467 (Ld.D r) []=Ld.D (r.to (eR r.rest).2)
def KZ (Y:Ctx):Prop:=∀(r:Ld) (w:au) (n:Nat) (op:Bool) (l nx:Nat) (m:List (Nat×bX)) (K:D->St->Prop),r.sm->n<=1000->(op=true->1<=n)->look m l=some (.buf 2 [Ld.D r])->
 K (.tup [CL (cj w n op r.rest),.bool (cj w n op r.rest).isSome]) ⟨nx,dH m l (.buf 2 [Ld.D (r.after (cj w n op r.rest))])⟩->Y.tr 465 [.ptr l 2 0 0,.str w,.int .i64 (n:Nat),.bool op] ⟨nx,m⟩ K
def zl {Y:Ctx}(h:KZ Y){r:Ld}(hr:r.sm){p:List au}(hp:p<:+r.ls){w:au}{n:Nat}{op:Bool}(hn:n<=1000)(ho:op=true->1<=n){nx:Nat}{m:List (Nat×bX)}{K:D->St->Prop}(hl:look m 0=some (.buf 2 [Ld.D (r.to p)]))
  (hK:K (.tup [CL (cj w n op p),.bool (cj w n op p).isSome]) ⟨nx,dH m 0 (.buf 2 [Ld.D (r.to (eS w n op p))])⟩):Y.tr 465 [.ptr 0 2 0 0,.str w,.int .i64 (n:Nat),.bool op] ⟨nx,m⟩ K:=by
 refine h (r.to p) w n op 0 nx m K (hr.to p) hn ho hl ?_;rw[Ld.zu hp,Ld.Gu hp];exact hK
def VN {Y:Ctx}(h:XQ Y){r:Ld}(hr:r.sm){p:List au}(hp:p<:+r.ls):Y.fp 467 (Ld.D (r.to p)) []/\Y.fv 467 (Ld.D (r.to p)) []=bp.D (eR p).1/\Y.fs 467 (Ld.D (r.to p)) []=Ld.D (r.to (eR p).2):=by
 have:=h (r.to p) (hr.to p);rw[Ld.zu hp]at this;exact this
def pA:∀p:List au,(cF p).2<:+p
 |[]=>mI _
 |t::r=>by
  simp only[cF];split
  .split
   .exact(pA r).trans (List.suffix_cons _ _)
   .exact mI _
  .exact mI _
def tl (p:List au):(eR p).2<:+p:=(SM _).trans ((kO _).trans (pA p))
def GL {p:List au}(h:cj b9 0 false p=none):dC p=([],p):=by
 match p,h with
 |[],_=>rfl
 |t::r,h=>
  grind [cj,dC]
def ON {p l q:List au}(h:cj b9 0 false p=some (l,q))(ho:¬2<=l.length):dC p=([],p):=by
 grind [dY,dC]
def Ju {p l q:List au}(h:cj b9 0 false p=some (l,q))(ho:2<=l.length):dC p=(⟨l[1]!,l.drop 2⟩::(dC q).1,(dC q).2):=by
 grind [dY,dC]
def gy (ls:List au):Rec×List au:=match oX ls with
 |some p=>p
 |none=>(hH,ls)
def dy:D:=.agg [.str [],.int .i64 0,.int .i64 0,.int .i64 0,.str [],.str [],.bq,.bq,.bq]
def mN:yX dy hH.D:=.ag (.cons (.refl _) (.cons (.refl _) (.cons (.refl _) (.cons (.refl _) (.cons (.refl _) (.cons (.refl _) (.cons (.nil 3) (.cons (.nil 3) (.cons (.nil 2) .nil)))))))))
def qa (nm:au)(v:cq)(n b f:D):D:=.agg [.str nm,.int .i64 v.major,.int .i64 v.minor,.int .i64 v.patch,.str v.pre,.str v.build,n,b,f]
def ZZ {s:au}(h:o9 s=0):∃v,gv s=some v:=by
 unfold o9 at h;split at h
 .rename_i hs;exact j8 hs
 .cases h
def ZY {s:au}(h:¬o9 s=0):gv s=none:=by
 grind [o9,j7]
theorem Es (n:Nat)(op:Bool)(t:au):(ed n op t).length<=t.length+1:=by
 grind [dm,er,ed,rj,ai]
def Sv {r:Ld}(hr:r.sm){p:List au}(hp:p<:+r.ls){w:au}{n:Nat}{op:Bool}{l q:List au}(h:cj w n op p=some (l,q)):l.length<=1048577:=by
 obtain⟨t,rfl,ht⟩:=dY h;obtain⟨_,_,h3⟩:=xi ht;have:=Es n op t;have:=hr.2 t (hp.subset (.head _));rw[h3];omega
def C222 (Y:Ctx):Prop:=∀(r:Ld),(r.sm)->Y.fp 222 (Ld.D r) []/\Y.fv 222 (Ld.D r) []=.tup [Rec.D (gy r.rest).1,.bool (oX r.rest).isSome]/\Y.fs 222 (Ld.D r) []=Ld.D (r.to (gy r.rest).2)
def Cs (p:List au):Prop:=∀t∈p,t.length<=1048576
def Cs.get {l:List au}(h:Cs l)(i:Nat):l[i]!.length<=1048576:=by
 rcases iq i l.length with hi|hi
 .exact h _ (bF hi)
 .simp[hi];exact Nat.zero_le _
def Cs.next {p:List au}(hp:Cs p){w:au}{n:Nat}{op:Bool}{l q:List au}(h:cj w n op p=some (l,q)):Cs l/\Cs q/\l.length<=1048577:=by
 obtain⟨t,rfl,ht⟩:=dY h;obtain⟨_,_,h3⟩:=xi ht;have h0:=hp t (.head _);refine⟨fun u hu=>?_,fun u hu=>hp u (.tail _ hu), ?_⟩
 .rw[h3]at hu;have:=IG hu;omega
 grind [Es]
def Cs.xK {p q:List au}(hp:Cs p)(h:q<:+p):Cs q:=fun t ht=>hp t (h.subset ht)
def Qy {l:List au}(h:Cs l):(gW l).sm:=by
 refine⟨⟨h.get 1,h.get 4⟩,fun t ht=>?_⟩;unfold gW at ht;simp only at ht;split at ht
 .cases ht
 .have:=dT _ _ ht;have:=h.get 2;omega
def LX {w:au}{n:Nat}{op:Bool}{t:au}{r l:List au}(h:dV w n op t=some l):cj w n op (t::r)=some (l,r):=by simp only[cj,h]
def Cj:∀p:List au,Cs p->∀x∈(cF p).1,x.sm
 |[],_,x,hx=>by simp[cF]at hx
 |t::r,hp,x,hx=>by
  have ih:=Cj r (fun u hu=>hp u (.tail _ hu));simp only[cF]at hx;split at hx
  .rename_i l hl;split at hx
   .simp only[cb]at hx;rcases hx with rfl|hx
    .exact Qy (hp.next (LX (r:=r) hl)).1
    .exact ih x hx
   .simp at hx
  .simp at hx
def IE {p:List au}(hp:Cs p):(cz p).1.length<=1048576:=by
 unfold cz;split
 .rename_i h;exact(hp.next h).1.get 1
 .simp
def VY {p:List au}(hp:Cs p):(oI p).1.length<=1048576:=by
 unfold oI;split
 .rename_i h;exact(hp.next h).1.get 1
 .simp
theorem Sr {p:List au}(hp:Cs p):(eR p).1.sm:=⟨Cj p hp,IE (hp.xK (pA p)),VY ((hp.xK (pA p)).xK (kO _))⟩
def DF:∀(f:Nat) (p:List au),Cs p->(∀x∈(nA f p).1,x.sm)/\(nA f p).2<:+p
 |0,p,_=>⟨fun x hx=>by simp[nA]at hx,mI _⟩
 |f+1,p,hp=>by
  simp only[nA];split
  .rename_i l r h;have hr:=(hp.next h).2.1;obtain⟨i1,i2⟩:=DF f (eR r).2 (hr.xK (tl r));refine⟨fun x hx=>?_,i2.trans ((tl r).trans (p8 h))⟩
   grind [Sr]
  grind
def Gy:∀(f:Nat) (p:List au),Cs p->(∀x∈(qW f p).1,x.sm)/\(qW f p).2<:+p
 |0,p,_=>⟨fun x hx=>by simp[qW]at hx,mI _⟩
 |f+1,p,hp=>by
  simp only[qW];split
  .rename_i l r h;obtain⟨hl,hr,_⟩:=hp.next h;obtain⟨i1,i2⟩:=Gy f (cz r).2 (hr.xK (kO r));refine⟨fun x hx=>?_,i2.trans ((kO r).trans (p8 h))⟩;simp only[cb]at hx;rcases hx with rfl|hx
   .exact⟨hl.get 1,hl.get 2,IE hr⟩
   .exact i1 x hx
  grind
def Dh:∀(p:List au),Cs p->(∀x∈(dC p).1,x.sm)/\(dC p).2<:+p
 |[],_=>⟨fun x hx=>by simp[dC]at hx,mI _⟩
 |t::r,hp=>by
  obtain⟨i1,i2⟩:=Dh r (fun u hu=>hp u (.tail _ hu));simp only[dC];split
  .rename_i l hl;obtain⟨hlm,_,hll⟩:=hp.next (LX (r:=r) hl);split
   .refine⟨fun x hx=>?_,i2.trans (List.suffix_cons _ _)⟩;simp only[cb]at hx;rcases hx with rfl|hx
    .refine⟨hlm.get 1, ?_,fun u hu=>hlm u (List.mem_of_mem_drop hu)⟩;simp only[jY];omega
    .exact i1 x hx
   .exact⟨fun x hx=>by simp at hx,mI _⟩
  .exact⟨fun x hx=>by simp at hx,mI _⟩
theorem zp:fC hH:=⟨⟨aF,aF,aF⟩,fun n hn=>(by cases hn),fun n hn=>(by cases hn),fun n hn=>(by cases hn)⟩
theorem Fu {p:List au}(hp:Cs p):fC (gy p).1/\(gy p).2<:+p:=by
 unfold gy oX;cases h:cj dN 3 false p with
 |none=>exact⟨zp,mI _⟩
 |some lq=>
  obtain⟨l,r⟩:=lq;obtain⟨hl,hr,_⟩:=hp.next h;simp only;cases hv:gv l[2]! with
  |none=>exact⟨zp,mI _⟩
  |some v=>
   have hvs:=Wr (hl.get 2);rw[hv]at hvs;obtain⟨n1,n2⟩:=DF r.length r hr;obtain⟨b1,b2⟩:=Gy (eE r).2.length (eE r).2 (hr.xK n2);obtain⟨f1,f2⟩:=Dh (iM (eE r).2).2 ((hr.xK n2).xK b2);exact⟨⟨⟨hl.get 1,hvs⟩,n1,b1,f1⟩,f2.trans (b2.trans (n2.trans (p8 h)))⟩
def cB (s:au):Rec×Int×Int:=
 if 4096<s.length then(hH,3,0)
 else
  let ls:=(ai s 10).take ((ai s 10).length-1)
  if(oX ls).isSome=false\/(gy ls).2≠[]\/(ai s 10)[(ai s 10).length-1]! ≠[]then(hH,2,((ls.length-(gy ls).2.length:Nat):Int)+1)
  else if(cM (gy ls).1).1≠0 then(hH,(cM (gy ls).1).1,0)
  else((gy ls).1,0,0)
def MC (T:List D->D->Prop):Prop:=∀(r:Rec) (name:au) (yu:au),(yu.length<=1048576)->T [Rec.D r,.str name,.str yu] (.int .i64 (fT r name yu))
def Xx (Y:Ctx):Prop:=MC (bz Y 211)
def zK (T:List D->D->Prop):Prop:=∀(r:Rec) (w:bT) (al:Bool),(w.sm)->T [Rec.D r,bT.D w,.bool al] (.int .i64 (jP r w al))
def C443 (Y:Ctx):Prop:=zK (bz Y 443)
def zB (T:List D->D->Prop):Prop:=∀(r:Rec) (n:bp),(n.sm)->T [Rec.D r,bp.D n] (.int .i64 (jh r n))
def C210 (Y:Ctx):Prop:=zB (bz Y 210)
def MD (T:List D->D->Prop):Prop:=∀(r:Rec) (s:au),(s.length<=1048576)->T [Rec.D r,.str s] (.int .i64 (j9 r s))
def C214 (Y:Ctx):Prop:=MD (bz Y 214)
def F2 (T:List D->D->Prop):Prop:=∀(r:Rec),(fC r)->T [Rec.D r] (.tup [.int .i64 (cM r).1,.int .i64 (cM r).2])
def C70 (Y:Ctx):Prop:=F2 (bz Y 70)
def F5 (T:List D->D->Prop):Prop:=∀(s:au),T [.str s] (.tup [Rec.D (cB s).1,.int .i64 (cB s).2.1,.int .i64 (cB s).2.2])
def C76 (Y:Ctx):Prop:=F5 (bz Y 76)
def uS (t:au)(n:Nat):Bool:=decide (n<(ai t 32).length)&&cS (fun i=>!decide ((ai t 32)[i]! =[])) 0 n
def hE (t:au)(n:Nat):List au×au×Bool:=if uS t n=true then((ai t 32).take n,aS [32] ((ai t 32).drop n),!decide (aS [32] ((ai t 32).drop n)=[]))else([],[],false)
theorem Fb {l:List au}{n:Nat}{x:au}(hn:n<=l.length):x∈l.take n↔∃i,i<n/\l[i]! =x:=by
 constructor
 .intro h;obtain⟨i,hi,e⟩:=List.mem_iff_getElem.1 h;rw[eu]at hi;refine⟨i,ae, ?_⟩
  grind
 .rintro⟨i,hi,rfl⟩;have:l[i]! =(l.take n)[i]! :=by simp[hi,show i<l.length by omega]
  grind
theorem FF (t:au)(n:Nat):oM t n=if(hE t n).2.2=true then some ((hE t n).1,(hE t n).2.1)else none:=by
 grind [oM,hE,uS,ai,cS,eD,Fb,aS]
def Hu (l:List au)(n:Nat):xp l n=(decide (l.length=n)&&cS (fun i=>!decide (l[i]! =[])) 0 l.length):=by
 grind [sb,eD,bF,vU]
def az (s:au):List au×Bool:=if(ai s 10)[(ai s 10).length-1]! =[]then((ai s 10).take ((ai s 10).length-1),true)else(ai s 10,false)
def Nn (T:List D->D->Prop):Prop:=∀(s:au) (n:Nat),(s.length<=1048576)->(n<=100)->T [.str s,.int .i64 (n:Nat)] (.tup [.sl 1 ((hE s n).1.map D.str),.str (hE s n).2.1,.bool (hE s n).2.2])
def UB (Y:Ctx):Prop:=Nn (bz Y 475)
def Nl (T:List D->D->Prop):Prop:=∀(l:List au) (n:Nat),T [.sl 1 (l.map D.str),.int .i64 (n:Nat)] (.bool (xp l n))
def XU (Y:Ctx):Prop:=Nl (bz Y 474)
def MF (T:List D->D->Prop):Prop:=∀(s:au),(s.length<=1048576)->T [.str s] (.tup [.sl 1 ((az s).1.map D.str),.bool (az s).2])
def XB (Y:Ctx):Prop:=MF (bz Y 223)
end Go.Abs
section
namespace Go.Abs
def xB (t:au)(n:Nat)(h:(hE t n).2.2=true):(hE t n).1.length=n:=by
 grind [hE,uS]
def BU (t:au)(n:Nat):∀w∈(hE t n).1,w.length<=t.length:=by
 unfold hE;split
 .intro w hw;exact dT t 32 (kD hw)
 .intro w hw;cases hw
def lR (j:Nat)(n:bp):D:=.agg [.own j 4 0 n.any.length,.str n.when',.str n.option]
def eM (j:Nat):List bp->List D
 |[]=>[]
 |[n]=>[lR j n]
 |a::b::r=>bp.D a::eM j (b::r)
def nr:List bp->List D
 |[]=>[]
 |[n]=>n.any.map bT.N
 |_::b::r=>nr (b::r)
def gP (j:Nat)(n:bp):∀N:List bp,eM j (N++[n])=N.map bp.D++[lR j n]
 |[]=>rfl
 |[a]=>rfl
 |a::b::r=>by
  have:=gP j n (b::r)
  grind [eM]
def jD (n:bp):∀N:List bp,nr (N++[n])=n.any.map bT.N
 |[]=>rfl
 |[a]=>rfl
 |a::b::r=>by
  have:=jD n (b::r)
  grind [nr]
def tx {α:Type}{l:List α}(h:l≠[]):∃a x,l=a++[x]:=⟨l.dropLast,l.getLast h,(List.dropLast_concat_getLast h).symm⟩
def mX {α:Type}(l:List α)(a d:α)(n:Nat)(h:n=l.length):(l++[a]).getD n d=a:=by subst h;simp[List.getD]
def qi {α:Type}(l:List α)(a b:α)(n:Nat)(h:n=l.length):(l++[a]).set n b=l++[b]:=by subst h;simp
def og (nm:au)(v:cq)(a b c:Nat)(st:Int)(j1 j3 j4:Nat):D:=.agg [.str nm,.int .i64 v.major,.int .i64 v.minor,.int .i64 v.patch,.str v.pre,.str v.build,.own j1 3 0 a,.own j3 3 0 b,.own j4 2 0 c,.int .i64 st]
def YD (x:jq)(j0 j1 j2 j3 j4:Nat):List (Nat×bX):=[(j0,.buf 10 [og x.r.name x.r.v x.r.needs.length x.r.bars.length x.r.feats.length (x.st:Nat) j1 j3 j4]),(j1,.buf 3 (eM j2 x.r.needs)),(j2,.buf 4 (nr x.r.needs)),(j3,.buf 3 (x.r.bars.map fA.D)),(j4,.buf 2 (x.r.feats.map b7.D))]
structure UP (m:List (Nat×bX))(x:jq)(j0 j1 j2 j3 j4:Nat):Prop where
 a0:look m j0=some (.buf 10 [og x.r.name x.r.v x.r.needs.length x.r.bars.length x.r.feats.length (x.st:Nat) j1 j3 j4])
 a1:look m j1=some (.buf 3 (eM j2 x.r.needs))
 a2:look m j2=some (.buf 4 (nr x.r.needs))
 a3:look m j3=some (.buf 3 (x.r.bars.map fA.D))
 a4:look m j4=some (.buf 2 (x.r.feats.map b7.D))
def uu (a b c d e:Nat):Bool:=!(Nat.beq a b ||Nat.beq a c ||Nat.beq a d ||Nat.beq a e ||Nat.beq b c ||Nat.beq b d ||Nat.beq b e ||Nat.beq c d ||Nat.beq c e ||Nat.beq d e)
def wu (o:Option jq)(j0 L:Nat):List (Nat×bX):=match o with
 |some y=>YD y j0 L (L+1) (L+2) (L+3)
 |none=>[]
def Gj (m:List (Nat×bX))(j0 j1 j2 j3 j4:Nat):List (Nat×bX):=cJ (cJ (cJ (cJ (cJ m j0) j1) j2) j3) j4
def YE (out:Option jq):D->List (Nat×bX)->Prop:=fun d m=>d=.bool out.isSome/\∀y,out=some y->∃j1 j2 j3 j4,uu 0 j1 j2 j3 j4=true/\UP m y 0 j1 j2 j3 j4
def RdC (Y:Ctx)(n:Nat)(apT:List D)(x:jq)(out:Option jq):Prop:=∀(nx j0 j1 j2 j3 j4:Nat) (m:List (Nat×bX)) (K:D->St->Prop),UP m x j0 j1 j2 j3 j4->uu j0 j1 j2 j3 j4=true->(j0<nx/\j1<nx/\j2<nx/\j3<nx/\j4<nx)->
 K (.bool out.isSome) ⟨nx+4,wu out j0 nx++Gj m j0 j1 j2 j3 j4⟩->Y.tr n (.ptr j0 10 0 0::apT) ⟨nx,m⟩ K
def jq.ok (x:jq):Prop:=(x.st=0->x.r.needs=[]/\x.r.bars=[]/\x.r.feats=[])/\((x.st=2\/x.st=3)->x.r.needs≠[])/\(x.st=5->x.r.bars≠[])
def tT (l:List bp):Nat:=(l.getLast?.map fun n=>n.any.length).getD 0
def jq.sz (x:jq):Nat:=x.r.needs.length+x.r.bars.length+x.r.feats.length+tT x.r.needs
def qF (N:List bp)(n:bp):tT (N++[n])=n.any.length:=by simp[tT]
def rX (x:jq)(l:List au):Option jq:=if(l.length=3/\l[0]! =dN)/\l[1]! ≠[]then(match gv l[2]! with
 |some v=>some ⟨⟨l[1]!,v,x.r.needs,x.r.bars,x.r.feats⟩,1⟩
 |none=>none)else none
def Lt {x:jq}(h:x.ok)(h0:x.st=0)(l:List au):rX x l=AY l:=by
 obtain⟨h1,h2,h3⟩:=h.1 h0;unfold rX AY
 grind
def lY:∀N:List bp,bH (nr N)=true
 |[]=>rfl
 |[a]=>br bT.pd _
 |a::b::r=>lY (b::r)
end Go.Abs
namespace Go.Abs
def xg (l k:Nat)(es:List D)(hl:l≠2):∀N:List bp,iV l k es (eM 2 N)=eM 2 N
 |[]=>rfl
 |[n]=>by simp only[eM,lR,iV,iL,show ¬2=l from fun e=>hl e.symm,cT,aX]
 |a::b::r=>by
  have:=xg l k es hl (b::r);have ha:iL l k es (bp.D a)=bp.D a:=rfl;simp only[eM,iV,this,ha]
def wO (l k:Nat)(es:List D)(N:List bp):iV l k es (nr N)=nr N:=qA l k es _ (lY N)
def uw (l k:Nat)(es:List D)(B:List fA):iV l k es (B.map fA.D)=B.map fA.D:=qA l k es _ (br (fun _=>rfl) _)
def ux (l k:Nat)(es:List D)(Z:List b7):iV l k es (Z.map b7.D)=Z.map b7.D:=qA l k es _ (br (fun _=>rfl) _)
end Go.Abs
end
namespace Go.Abs
section
def Q4 (ob:Gi):Prop:=∀(σ:List (Nat×Nat)) (l l':Nat) (w:List au) (n:Nat) (b:Bool),lU 0 σ l=some l'->ra 0 σ (ob w (.own l 5 0 n) b)=some (ob w (.own l' 5 0 n) b)
def sf:Q4 iW:=fun σ l l' w n b h=>by simp only[iW,ra,oO,CR,h]
def uP (W:List au):Q4 (jn W):=fun σ l l' w n b h=>by simp only[jn,ra,oO,CR,h]
def TJ:D->Nat
 | .agg [.sl _ ws,_,_]=>ws.length
 | .agg [.sl _ ws,.int _ i,_,_]=>ws.length-i.toNat
 |_=>0
def Fc (c:List D->Nat)(ds:List D)(st:St):Nat:=match ds with
 | .ptr l _ _ _::apT=>(match look st.m l with
  |some (.buf _ [o])=>6*TJ o+c apT
  |_=>0)
 |_=>0
def We (w:List au)(X:D)(b:Bool):TJ (iW w X b)=w.length:=by simp[TJ,iW]
def Wf {W w:List au}(h:w<:+W)(X:D)(b:Bool):TJ (jn W w X b)=w.length:=by
 grind [TJ,jn]
def oF {c:List D->Nat}{l k nx:Nat}{apT:List D}{m:List (Nat×bX)}{w:List au}{X:D}{b:Bool}(h:look m l=some (.buf k [iW w X b])):Fc c (.ptr l k 0 0::apT) ⟨nx,m⟩=6*w.length+c apT:=by
 simp only[Fc,h,We]
def uI {c:List D->Nat}{l k nx:Nat}{apT:List D}{m:List (Nat×bX)}{W w:List au}{X:D}{b:Bool}(hw:w<:+W)(h:look m l=some (.buf k [jn W w X b])):Fc c (.ptr l k 0 0::apT) ⟨nx,m⟩=6*w.length+c apT:=by
 simp only[Fc,h,Wf hw]
def JV (nd:List Nd):bH (nd.map Nd.D)=true:=br (fun _=>rfl) _
section
variable [dS] {P:Program} {ν:List (Nat×Nat)} {c8:List Nat} {t:List (Nat×rh)} {fid n key u k:Nat} {af:aC} {ob:Gi} {apT:List D} {w:List au} {nd:List Nd} {b:Bool} {lp ln nx:Nat} {m:List (Nat×bX)} {K:D->St->Prop} {Pp:PO->Prop} {V:PO->D}
def S6 (hob:Q4 ob)(hk5:k≠5)(has:bH apT=true)(h1:look m lp=some (.buf k [ob w (.own ln 5 0 nd.length) b]))(h2:look m ln=some (.buf 5 (nd.map Nd.D))):
  lp≠ln/\(∀i,i<(D.ptr lp k 0 0::apT).length->Us 0 [(lp,0),(ln,1)] ((D.ptr lp k 0 0::apT).getD i .any) ((D.ptr 0 k 0 0::apT).getD i .any))/\gT 0 2 [(lp,0),(ln,1)]=true/\(∀l i,(l,i)∈[(lp,0),(ln,1)]->look m l≠none)/\
   ∀i bb,look [(0,.buf k [ob w (.own 1 5 0 nd.length) b]),(1,.buf 5 (nd.map Nd.D))] i=some bb->∃l b',(l,i)∈[(lp,0),(ln,1)]/\look m l=some b'/\sS 0 [(lp,0),(ln,1)] b' bb:=by
 have hne:lp≠ln:=by
  rintro rfl;rw[h1]at h2;exact hk5 (bX.buf.inj (bL h2)).1
 have hb:Nat.beq lp ln=false:=by cases h:Nat.beq lp ln with
  |false=>rfl
  |true=>exact absurd (Nat.eq_of_beq_eq_true h) hne
 have hb':Nat.beq ln lp=false:=by cases h:Nat.beq ln lp with
  |false=>rfl
  |true=>exact absurd (Nat.eq_of_beq_eq_true h).symm hne
 refine⟨hne,fun i hi=>?_, ?_,fun l i h=>?_,fun i bb h=>?_⟩
 .match i with
  |0=>exact .inr (.inl (by simp[ra,CR,lU]))
  |i+1=>exact .inl ⟨rfl,dn has i⟩
 .simp[gT,hb,hb'];rfl
 .grind
 .simp only[look]at h;split at h
  .rename_i e;subst e;obtain rfl:=bL h;exact⟨lp,_,.head _,h1,rfl,.inr (.inl (by simp only[oO,hob _ ln 1 w nd.length b (show lU 0 [(lp,0),(ln,1)] ln=some 1 by simp[lU,hb])]))⟩
  .split at h
   .rename_i e;subst e;obtain rfl:=bL h;exact⟨ln,_,.tail _ (.head _),h2,rfl,.inl ⟨rfl,JV nd⟩⟩
   .cases h
def gI (hob:Q4 ob)(hk5:k≠5)(has:bH apT=true)(hV:∀o,(V o).bJ=true)(hmix:P.follows .mixedOrders=true)(hC:K0 P ν c8 fid af)(hnp:apT.length+1=af.np)
  (h1:look m lp=some (.buf k [ob w (.own ln 5 0 nd.length) b])) (h2:look m ln=some (.buf 5 (nd.map Nd.D))) (h3:lp<nx) (h4:ln<nx)
  (hK:∀o,Pp o->K (V o) ⟨nx+1,(nx,.buf 5 (o.nd.map Nd.D))::dH (cJ m ln) lp (.buf k [ob o.w (.own nx 5 0 o.nd.length) o.bad])⟩)
  (hw:bK ((under t key u).at 2) af.body (j5 af (yE k ob Pp V)) (fF af (.ptr 0 k 0 0::apT)) ⟨2,[(0,.buf k [ob w (.own 1 5 0 nd.length) b]),(1,.buf 5 (nd.map Nd.D))]⟩):pc P ν c8 (under t key u) fid (.ptr lp k 0 0::apT) ⟨nx,m⟩ K:=by
 obtain⟨hne,g2,g3,g4,g5⟩:=S6 hob hk5 has h1 h2;refine yh (σi:=[(lp,0),(ln,1)]) (cs:=.ptr 0 k 0 0::apT) (fun q=>wg t key u q) hmix hC aJ g2 (by simpa using hnp) g3 g4 g5 hw ?_;rintro d m1 ⟨o,j,hj,hP,rfl,e0,ej⟩;have hb0:Nat.beq 0 j=false:=by cases j<;>first|omega|rfl
 have hbj:Nat.beq j 0=false:=by cases j<;>first|omega|rfl
 have hbl:Nat.beq lp nx=false:=by cases h:Nat.beq lp nx with
  |false=>rfl
  |true=>have:=Nat.eq_of_beq_eq_true h;omega
 have hbl':Nat.beq nx lp=false:=by cases h:Nat.beq nx lp with
  |false=>rfl
  |true=>have:=Nat.eq_of_beq_eq_true h;omega
 refine⟨[(0,lp),(j,nx)],j+1,_,V o,⟨g3, ?_,Nat.le_succ _,g4, ?_,g5, ?_⟩,.inl ⟨rfl,hV o⟩,hK o hP⟩
 .simp[gT,hbj,hb0,hbl,hbl'];omega
 .intro i l h;rcases cb.1 h with h|h
  .obtain⟨rfl,rfl⟩:=Prod.mk.inj h;exact .inl (.head _)
  .obtain⟨rfl,rfl⟩:=Prod.mk.inj (cK.1 h);exact .inr (aL _)
 .intro l bb h;simp only[look]at h;split at h
  .rename_i e;subst e;obtain rfl:=bL h;exact .inl ⟨j,_,.tail _ (.head _),ej,rfl,.inl ⟨rfl,JV _⟩⟩
  .rename_i hln;rw[cL]at h;split at h
   .rename_i e;subst e;obtain rfl:=bL h;exact .inl ⟨0,_,.head _,e0,rfl,.inr (.inl (by simp only[oO,hob _ j nx o.w o.nd.length o.bad (show lU 0 [(0,l),(j,nx)] j=some nx by simp[lU,hb0])]))⟩
   .rename_i hlp;rw[fV]at h;split at h
    .cases h
    .rename_i hl2;refine .inr ⟨by simp only[me,ak (fun e=>hlp (Eq.symm e)),ak hln],fun i hi=>?_,h⟩;rcases cb.1 hi with hi|hi
     .exact hlp (Prod.mk.inj hi).1
     .exact hl2 (Prod.mk.inj (cK.1 hi)).1
def xt (hob:Q4 ob)(hk5:k≠5)(has:bH apT=true)(hV:∀o,(V o).bJ=true)(hmix:P.follows .mixedOrders=true)(hC:K0 P ν c8 fid af)(hnp:apT.length+1=af.np)
  (h1:look m lp=some (.buf k [ob w (.own ln 5 0 nd.length) b])) (h2:look m ln=some (.buf 5 (nd.map Nd.D))) (h3:lp<nx) (h4:ln<nx)
  (hK:∀o,Pp o->K (V o) ⟨nx,dH m lp (.buf k [ob o.w (.own ln 5 0 nd.length) o.bad])⟩)
  (hw:bK ((under t key u).at 2) af.body (j5 af (K3 k ob nd Pp V)) (fF af (.ptr 0 k 0 0::apT)) ⟨2,[(0,.buf k [ob w (.own 1 5 0 nd.length) b]),(1,.buf 5 (nd.map Nd.D))]⟩):pc P ν c8 (under t key u) fid (.ptr lp k 0 0::apT) ⟨nx,m⟩ K:=by
 obtain⟨hne,g2,g3,g4,g5⟩:=S6 hob hk5 has h1 h2;refine yh (σi:=[(lp,0),(ln,1)]) (cs:=.ptr 0 k 0 0::apT) (fun q=>wg t key u q) hmix hC aJ g2 (by simpa using hnp) g3 g4 g5 hw ?_;rintro d m1 ⟨o,hP,rfl,e0,ej⟩;have hbl:Nat.beq lp ln=false:=by cases h:Nat.beq lp ln with
  |false=>rfl
  |true=>exact absurd (Nat.eq_of_beq_eq_true h) hne
 have hbl':Nat.beq ln lp=false:=by cases h:Nat.beq ln lp with
  |false=>rfl
  |true=>exact absurd (Nat.eq_of_beq_eq_true h).symm hne
 refine⟨[(0,lp),(1,ln)],2,⟨nx,dH m lp (.buf k [ob o.w (.own ln 5 0 nd.length) o.bad])⟩,V o,⟨g3, ?_,aL _,g4, ?_,g5, ?_⟩,.inl ⟨rfl,hV o⟩,hK o hP⟩
 .simp[gT,hbl,hbl'];exact⟨h3,rfl,h4⟩
 .intro i l h;rcases cb.1 h with h|h
  .obtain⟨rfl,rfl⟩:=Prod.mk.inj h;exact .inl (.head _)
  .obtain⟨rfl,rfl⟩:=Prod.mk.inj (cK.1 h);exact .inl (.tail _ (.head _))
 .intro l bb h;simp only at h;rw[cL]at h;split at h
  .rename_i e;subst e;obtain rfl:=bL h;exact .inl ⟨0,_,.head _,e0,rfl,.inr (.inl (by simp only[oO,hob _ 1 ln o.w nd.length o.bad (show lU 0 [(0,l),(1,ln)] 1=some ln from rfl)]))⟩
  .rename_i hlp;by_cases hl2:l=ln
   .subst hl2;rw[h2]at h;obtain rfl:=bL h;exact .inl ⟨1,_,.tail _ (.head _),ej,rfl,.inl ⟨rfl,JV _⟩⟩
   .refine .inr ⟨by simp only[me,ak (fun e=>hlp (Eq.symm e)),ak (fun e=>hl2 (Eq.symm e))],fun i hi=>?_,h⟩;rcases cb.1 hi with hi|hi
    .exact hlp (Prod.mk.inj hi).1
    .exact hl2 (Prod.mk.inj (cK.1 hi)).1
def rC {a b:Nat}(h:a≠b):Nat.beq a b=false:=by
 cases h2:Nat.beq a b with
 |false=>rfl
 |true=>exact absurd (Nat.eq_of_beq_eq_true h2) h
def BY {m:List (Nat×bX)}{l lw:Nat}(h:l≠lw):gF (cJ m lw) l=match look m l with
 |some (.bld (some l2) _ _)=>cJ (cJ m lw) l2
 |_=>cJ m lw:=by
 grind [gF,fV,look]
def Pd {ws:List au}{s:au}{l lw:Nat}(hmix:P.follows .mixedOrders=true)(hC:K0 P ν c8 fid af)(hnp:2=af.np)
  (h1:tO m l s) (h2:look m lw=some (.buf 1 (ws.map D.str))) (h3:l<nx) (h4:lw<nx) (hK:K (.tup []) ⟨nx+1,rD (cJ m lw) l nx (s++cw ws)⟩)
  (hw:∀m0,tO m0 0 s->look m0 1=some (.buf 1 (ws.map D.str))->bK ((under t key u).at 3) af.body (j5 af (fun d m=>d=.tup []/\look m 0=some (.bld (some 9) (s++cw ws).length true)/\look m 9=some (.row (s++cw ws)))) (fF af [.ptr 0 2 0 0,.own 1 1 0 ws.length]) ⟨3,m0⟩):
  pc P ν c8 (under t key u) fid [.ptr l 2 0 0,.own lw 1 0 ws.length] ⟨nx,m⟩ K:=by
 have hlw:l≠lw:=by
  rintro rfl;rcases h1 with⟨u,h,_⟩|⟨l2,u,h,_⟩<;>rw[h2]at h<;>cases h
 have hnl:bH (ws.map D.str)=true:=br (fun _=>rfl) _;have b1:=rC hlw;have b2:=rC (Ne.symm hlw);have b3:=rC (show l≠nx by omega);have b4:=rC (show nx≠l by omega)

 have fin:∀(σi:List (Nat×Nat)) (m0:List (Nat×bX)),gT 0 3 σi=true->(l,0)∈σi->(∀l i,(l,i)∈σi->look m l≠none)->(∀i b,look m0 i=some b->∃l b',(l,i)∈σi/\look m l=some b'/\sS 0 σi b' b)->
   (∀l' b,look (gF (cJ m lw) l) l'=some b->l'≠l->look m l'=some b/\∀i,(l',i)∉σi)->∀d m1,(d=.tup []/\look m1 0=some (.bld (some 9) (s++cw ws).length true)/\look m1 9=some (.row (s++cw ws)))->
   ∃(σo:List (Nat×Nat)) (q1:Nat) (st':St) (vd':D),Fr σi σo 3 q1 m0 m1 ⟨nx,m⟩ st'/\Us 0 σo d vd'/\K vd' st':=by
  rintro σi m0 oki hm hlt hm0 hoff d m1 ⟨rfl,e0,e9⟩;refine⟨[(0,l),(9,nx)],10,⟨nx+1,rD (cJ m lw) l nx (s++cw ws)⟩,.tup [],⟨oki, ?_,Nat.le_succ _,hlt, ?_,hm0, ?_⟩,.inl ⟨rfl,rfl⟩,hK⟩
  .simp[gT,b3,b4];exact⟨ae,rfl⟩
  .intro i l' h;rcases cb.1 h with h|h
   .obtain⟨rfl,rfl⟩:=Prod.mk.inj h;exact .inl hm
   .obtain⟨rfl,rfl⟩:=Prod.mk.inj (cK.1 h);exact .inr (aL _)
  .intro l' bb h;simp only[rD,look]at h;split at h
   .rename_i e;subst e;obtain rfl:=bL h;exact .inl ⟨9,_,.tail _ (.head _),e9,rfl⟩
   .rename_i hln;rw[cL]at h;split at h
    .rename_i e;subst e;obtain rfl:=bL h;exact .inl ⟨0,_,.head _,e0,⟨nx,rfl,rfl⟩,rfl,rfl⟩
    .rename_i hl;obtain⟨g1,g2⟩:=hoff l' bb h hl;exact .inr ⟨by simp only[me,ak (fun e=>hl (Eq.symm e)),ak hln],g2,g1⟩
 rcases h1 with⟨u,h1,rfl⟩|⟨l2,u,h1,h5⟩
 .have g4:∀l' i,(l',i)∈[(l,0),(lw,1)]->look m l'≠none:=by
   intro l' i h;rcases cb.1 h with h|h
   .obtain⟨rfl,rfl⟩:=Prod.mk.inj h;rw[h1];simp
   .obtain⟨rfl,rfl⟩:=Prod.mk.inj (cK.1 h);rw[h2];simp
  have g3:gT 0 3 [(l,0),(lw,1)]=true:=by simp[gT,b1,b2];rfl
  have g5:∀i b,look [(0,bX.bld none 0 u),(1,.buf 1 (ws.map D.str))] i=some b->∃l' b',(l',i)∈[(l,0),(lw,1)]/\look m l'=some b'/\sS 0 [(l,0),(lw,1)] b' b:=by
   intro i b h;simp only[look]at h;split at h
   .rename_i e;subst e;obtain rfl:=bL h;exact⟨l,_,.head _,h1,rfl,rfl,rfl⟩
   .split at h
    .rename_i e;subst e;obtain rfl:=bL h;exact⟨lw,_,.tail _ (.head _),h2,rfl,.inl ⟨rfl,hnl⟩⟩
    .cases h
  refine yh (σi:=[(l,0),(lw,1)]) (cs:=[.ptr 0 2 0 0,.own 1 1 0 ws.length]) (fun q=>wg t key _ q) hmix hC rfl ?_ hnp g3 g4 g5 (hw _ (.inl ⟨u,rfl,rfl⟩) rfl) (fin _ _ g3 (.head _) g4 g5 ?_)
  .intro i hi
   match i,hi with
   |0,_=>exact .inr (.inl (by simp[ra,CR,lU]))
   |1,_=>exact .inr (.inl (by simp[ra,CR,lU,b1]))
  .intro l' b h hl;rw[BY hlw]at h;simp only[h1]at h;rw[fV]at h;split at h
   .cases h
   .rename_i hw';refine⟨h,fun i hi=>?_⟩;rcases cb.1 hi with hi|hi
    .exact hl (Prod.mk.inj hi).1
    .exact hw' (Prod.mk.inj (cK.1 hi)).1
 .have c1:l2≠l:=by rintro rfl;rw[h1]at h5;cases h5
  have c2:l2≠lw:=by rintro rfl;rw[h2]at h5;cases h5
  have d1:=rC c1;have d2:=rC c2;have d3:=rC (Ne.symm c1);have d4:=rC (Ne.symm c2);have g4:∀l' i,(l',i)∈[(l,0),(lw,1),(l2,2)]->look m l'≠none:=by
   intro l' i h;rcases cb.1 h with h|h
   .obtain⟨rfl,rfl⟩:=Prod.mk.inj h;rw[h1];simp
   .rcases cb.1 h with h|h
    .obtain⟨rfl,rfl⟩:=Prod.mk.inj h;rw[h2];simp
    .obtain⟨rfl,rfl⟩:=Prod.mk.inj (cK.1 h);rw[h5];simp
  have g3:gT 0 3 [(l,0),(lw,1),(l2,2)]=true:=by simp[gT,b1,b2,d1,d2,d3,d4];exact⟨⟨rfl,rfl⟩,rfl⟩
  have g5:∀i b,look [(0,bX.bld (some 2) s.length u),(1,.buf 1 (ws.map D.str)),(2,.row s)] i=some b->∃l' b',(l',i)∈[(l,0),(lw,1),(l2,2)]/\look m l'=some b'/\sS 0 [(l,0),(lw,1),(l2,2)] b' b:=by
   intro i b h;simp only[look]at h;split at h
   .rename_i e;subst e;obtain rfl:=bL h;exact⟨l,_,.head _,h1,⟨2,by simp[lU,d3,d4],rfl⟩,rfl,rfl⟩
   .split at h
    .rename_i e;subst e;obtain rfl:=bL h;exact⟨lw,_,.tail _ (.head _),h2,rfl,.inl ⟨rfl,hnl⟩⟩
    .split at h
     .rename_i e;subst e;obtain rfl:=bL h;exact⟨l2,_,.tail _ (.tail _ (.head _)),h5,rfl⟩
     .cases h
  refine yh (σi:=[(l,0),(lw,1),(l2,2)]) (cs:=[.ptr 0 2 0 0,.own 1 1 0 ws.length]) (fun q=>wg t key _ q) hmix hC rfl ?_ hnp g3 g4 g5 (hw _ (.inr ⟨2,u,rfl,rfl⟩) rfl) (fin _ _ g3 (.head _) g4 g5 ?_)
  .intro i hi
   match i,hi with
   |0,_=>exact .inr (.inl (by simp[ra,CR,lU]))
   |1,_=>exact .inr (.inl (by simp[ra,CR,lU,b1]))
  .intro l' b h hl;rw[BY hlw]at h;simp only[h1]at h;rw[fV]at h;split at h
   .cases h
   .rename_i hw2;rw[fV]at h;split at h
    .cases h
    .rename_i hw';refine⟨h,fun i hi=>?_⟩;rcases cb.1 hi with hi|hi
     .exact hl (Prod.mk.inj hi).1
     .rcases cb.1 hi with hi|hi
      .exact hw' (Prod.mk.inj hi).1
      .exact hw2 (Prod.mk.inj (cK.1 hi)).1
end
end
theorem xc {α:Type}{f:α->D}(hf:∀x y,f x=f y↔x=y):∀a b:List α,a.map f=b.map f↔a=b
 |[],[]=>aJ
 |[],_::_=>aJ
 |_::_,[]=>aJ
 |x::a,y::b=>by simp only[List.map_cons,oU,hf,xc hf a b]
def Vx (a b:Nat):((a:Nat):Int)=(b:Nat)↔a=b:=ae
theorem iU8 (x y:UInt8):((x.toNat:Nat):Int)=(y.toNat:Nat)↔x=y:=(Vx _ _).trans im
def O3 (a b:List au):a.map D.str=b.map D.str↔a=b:=xc (fun _ _=>aJ) a b
def iInt (a b:List Int):a.map (D.int .i64)=b.map (D.int .i64)↔a=b:=xc (fun _ _=>aJ) a b
def iByt (a b:au):(a.map fun c=>D.int .u8 c.toNat)=(b.map fun c=>D.int .u8 c.toNat)↔a=b:=by grind [xc,iU8]
def iVer (a b:cq):cq.D a=cq.D b↔a=b:=by cases a;cases b;simp[cq.D]
def Xe (a b:bT):bT.D a=bT.D b↔a=b:=by cases a;cases b;simp[bT.D,O3]
def R0 (a b:List bT):a.map bT.D=b.map bT.D↔a=b:=xc Xe a b
def Xd (a b:bp):bp.D a=bp.D b↔a=b:=by cases a;cases b;simp[bp.D,R0]
def JD (a b:List bp):a.map bp.D=b.map bp.D↔a=b:=xc Xd a b
def iBar (a b:fA):fA.D a=fA.D b↔a=b:=by cases a;cases b;simp[fA.D]
def RZ (a b:List fA):a.map fA.D=b.map fA.D↔a=b:=xc iBar a b
def Xc (a b:b7):b7.D a=b7.D b↔a=b:=by cases a;cases b;simp[b7.D,O3]
def JC (a b:List b7):a.map b7.D=b.map b7.D↔a=b:=xc Xc a b
def iRec (a b:Rec):Rec.D a=Rec.D b↔a=b:=by
 obtain⟨n,⟨v1,v2,v3,v4,v5⟩,x,y,z⟩:=a;obtain⟨n',⟨w1,w2,w3,w4,w5⟩,x',y',z'⟩:=b;simp[Rec.D,JD,RZ,JC,and_assoc]
def iCmp (a b:dI):dI.D a=dI.D b↔a=b:=by
 obtain⟨n,p,v1,v2,v3,v4,v5⟩:=a;obtain⟨n',p',w1,w2,w3,w4,w5⟩:=b;simp[dI.D]
def Xa (a b:List dI):a.map dI.D=b.map dI.D↔a=b:=xc iCmp a b
def iNd (a b:Nd):Nd.D a=Nd.D b↔a=b:=by cases a;cases b;simp[Nd.D]
def iNds (a b:List Nd):a.map Nd.D=b.map Nd.D↔a=b:=xc iNd a b
def Y8 (a b:Alt):rz a=rz b↔a=b:=by simp[rz,Xa]
def iRng (a b:An):iJ a=iJ b↔a=b:=by simp[iJ,xc Y8]
def iAlts (a b:List Alt):a.map rz=b.map rz↔a=b:=xc Y8 a b
def iMrk (a b:WW):lO a=lO b↔a=b:=by simp[lO,iNds]
def iLd (a b:Ld):Ld.D a=Ld.D b↔a=b:=by cases a;cases b;simp[Ld.D,O3,Vx]
def iPr (w w':List au)(x x':D)(b b':Bool):iW w x b=iW w' x' b'↔w=w'/\x=x'/\b=b':=by simp[iW,O3]
def U1 {A:FT->Prop}(h:A (fun d ds v s=>A fun d' ds' v' s'=>d'=d->ds'=ds->v=v'/\s=s'):=by
 (repeat' first|apply And.intro|intro _)
 all_goals rename_i e' e
 all_goals (try simp only[oU,D.str.injEq,D.int.injEq,D.bool.injEq,D.sl.injEq,iLd,O3,iU8,im,Vx,cu,ct]at e e')
 all_goals first|rfl|(simp only[e,e'];done)|simp_all):Al (pJ A):=U2 h
def kS (l:List Int)(i:Int):Int:=if i<0\/(l.length:Int)<=i then 0 else l[i.toNat]!
def V5 {v n:Int}(h:0<n)(h2:¬v.tmod n<0):v.tmod n=v%n:=by
 rw[Int.tmod_eq_emod];rw[Int.tmod_eq_emod]at h2;have h3:=Int.emod_nonneg v (show n≠0 by omega);have h4:=Int.emod_lt_of_pos v h
 grind
def V4 {v n:Int}(h:0<n)(h2:v.tmod n<0):v.tmod n+n=v%n:=by
 rw[Int.tmod_eq_emod]at h2⊢;have h3:=Int.emod_nonneg v (show n≠0 by omega)
 grind
def fX (l:List Int)(i n:Int):Int:=kS l i%n
def dP (l:List Int)(i n:Int)(h:0<n):0<=fX l i n/\fX l i n<n:=⟨Int.emod_nonneg _ ae,Int.emod_lt_of_pos _ h⟩
def kH (v n:Int)(h:0<n):0<=v%n/\v%n<n:=⟨Int.emod_nonneg _ ae,Int.emod_lt_of_pos _ h⟩
theorem vC {α:Type} [Inhabited α]{q:α->D}(xs:List α){j:Nat}(h:j<xs.length):cut (xs.map q) (j*1) 1 false=q xs[j]! :=by
 show(xs.map q).getD (j*1) .any=_;rw[Nat.mul_one];exact getD_map h
def JM {α:Type} [Inhabited α]{q:α->D}(xs:List α){j n:Nat}(h:j<xs.length)(hn:(1==n)=false):nT (.agg (xs.map q)) n 1 (0+j*1) false=q xs[j]! :=by
 have hc:(D.agg (xs.map q)).cells=xs.map q:=by
  rfl
 grind [nT,vC]
def Sx:List au:=[[97,112,112],[98],[99],[100],[101,45,50]]
def fh (n:Int):au:=Sx[(n%5).toNat]!
def Wt:List au:=[[120],[121],[122],[119,95,49]]
def mW (n:Int):au:=Wt[(n%4).toNat]!
def J0:List Int:=[9,7,6,3,1,2]
def yI (l:List Int)(i:Int):dI:=⟨J0[(fX l i 6).toNat]!,3,⟨fX l (i+1) 3,fX l (i+2) 2,0,[],[]⟩⟩
def uz (l:List Int)(i:Int):au:=if(yI l i).op=9 then [42]else ep (yI l i)
def Dw:List au:=[[111,115],[97,114,99,104],[97,98,105]]
def OJ:List au:=[[32,61,32],[32,33,61,32]]
def mU (l:List Int)(i:Int):au:=if 2<fX l i 6 then []else Dw[(fX l i 6).toNat]! ++OJ[(fX l (i+1) 2).toNat]! ++mW (1+fX l (i+1) 3)
def Cm:List au:=[[120],[121]]
def pG (l:List Int)(i:Int)(alone:Bool):List au:=if alone=true/\2<fX l (i+5) 5 then Cm.take (fX l (i+5) 5-2).toNat else []
def mV (l:List Int)(i own:Int)(alone:Bool):bT:=⟨fh (own+1+fX l i 4),uz l (i+1),pG l i alone,decide (fX l (i+4) 3=0)⟩
def gp (l:List Int)(i:Int):Nat:=if fX l i 5=1 then 2 else 1
def uy (l:List Int)(i own:Int)(k:Nat):List bT:=(List.range k).map fun(k:Nat)=>mV l (i+1+6*(k:Nat)) own (decide ((gp l i:Int)=1))
def iu (l:List Int)(i own:Int):bp:=⟨uy l i own (gp l i),mU l (i+14),if fX l (i+16) 4=1 then mW (kS l (i+17))else []⟩
def OU (l:List Int)(i own:Int)(k:Nat):uy l i own (k+1)=uy l i own k++[mV l (i+1+6*(k:Nat)) own (decide ((gp l i:Int)=1))]:=by
 unfold uy;rw[List.range_succ,List.map_append];rfl
def AV (l:List Int)(i:Int):gp l i<=2:=by
 unfold gp;split<;>omega
def mA (s:au):List au->Nat
 |[]=>0
 |a::r=>if Op.bytesLess a s=true then mA s r+1 else 0
def ic (l:List au)(s:au):List au:=if mA s l<l.length/\l[mA s l]! =s then l else l.take (mA s l)++[s]++l.drop (mA s l)
def Fm (s:au):∀l:List au,mA s l<=l.length
 |[]=>aL _
 |a::r=>by
  have:=Fm s r
  grind [mA]
def Fo (s:au):∀(l:List au) (i:Nat),i<mA s l->Op.bytesLess l[i]! s=true
 |[],i,h=>by simp[mA]at h
 |a::r,i,h=>by
  simp only[mA]at h;split at h
  .rename_i ha;cases i with
   |zero=>simpa using ha
   |succ i=>simpa using Fo s r i ae
  .omega
def xw (s:au):∀l:List au,mA s l<l.length->Op.bytesLess l[mA s l]! s=false
 |[],h=>by simp at h
 |a::r,h=>by
  simp only[mA]at h⊢;split
  .rename_i ha;rw[aw ha]at h;simpa using xw s r (by simpa using h)
  .rename_i ha;simpa using ha
def Jk (n b:Int):Int:=IntKind.wrap .i64 (((BitVec.ofInt 64 (n.fdiv (2^(min b.toNat 64))))&&&(BitVec.ofInt 64 1)).toNat)
def nU:List au:=[W3,[120],[121],[122]]
def RN (r:Rec)(n:Int)(of:List au)(j:Nat):List au:=if ¬r.needs[j]!.option=[]/\Jk n (3+(j:Nat))=1 then ic of ([63]++r.needs[j]!.option)else of
def W5 (r:Rec)(n:Int)(of:List au)(j:Nat):List au:=if r.needs[j]!.any.length=1/\Jk n (5+(j:Nat))=1 then ic of (r.needs[j]!.any[0]!.name++[47]++[120])else of
def W6 (r:Rec)(n:Int)(of:List au)(j:Nat):List au:=W5 r n (RN r n of j) j
def rm (r:Rec)(n:Int)(j:Nat):List au:=(List.range j).foldl (W6 r n) []
def Vh (l:List Int)(i:Int)(n:Int)(k:Nat)(of:List au):List au:=if(k<3/\Jk n 7=1)/\¬kS l (i+(k:Nat)+1)%3=0 then ic of nU[k+1]! else of
def Z8 (l:List Int)(i:Int)(r:Rec)(k:Nat):Option b7:=if kS l (i+(k:Nat))%3=0 then none else some ⟨nU[k]!,Vh l i (kS l (i+(k:Nat))) k (rm r (kS l (i+(k:Nat))) (min r.needs.length 2))⟩
def RO (l:List Int)(i:Int)(r:Rec)(k:Nat):List b7:=(List.range k).filterMap (Z8 l i r)
def kp (l:List Int)(i:Int)(r:Rec):List b7:=RO l i r 4
theorem pU (r:Rec)(n:Int)(j:Nat):rm r n (j+1)=W6 r n (rm r n j) j:=by
 unfold rm;rw[List.range_succ,List.foldl_append];rfl
def Y2 {l:List Int}{i:Int}{r:Rec}{k:Nat}(h:kS l (i+(k:Nat))%3=0):RO l i r (k+1)=RO l i r k:=by
 unfold RO;rw[List.range_succ,List.filterMap_append];simp[Z8,h]
def Ln {l:List Int}{i:Int}{r:Rec}{k:Nat}{of:List au}(h:¬kS l (i+(k:Nat))%3=0)(ho:Vh l i (kS l (i+(k:Nat))) k (rm r (kS l (i+(k:Nat))) (min r.needs.length 2))=of):RO l i r (k+1)=RO l i r k++[⟨nU[k]!,of⟩]:=by
 unfold RO;rw[List.range_succ,List.filterMap_append];simp[Z8,h,ho]
theorem sg (l:List au)(s:au):(ic l s).length<=l.length+1:=by
 grind [ic]
theorem Vf (r:Rec)(n:Int)(of:List au)(j:Nat):(RN r n of j).length<=of.length+1:=by
 grind [RN,sg]
theorem Vg (r:Rec)(n:Int)(of:List au)(j:Nat):(W5 r n of j).length<=of.length+1:=by
 grind [W5,sg]
def EU (r:Rec)(n:Int):∀j,(rm r n j).length<=2*j
 |0=>by simp[rm]
 |j+1=>by
  have h1:=EU r n j
  grind [Vf,rm,Vg,RN,pU,W6]
def n7 (n:Int):(fh n).length<=3:=by
 obtain⟨h1,h2⟩:=kH n 5 aF;unfold fh;have:(n%5).toNat<5:=ae;revert this;generalize (n%5).toNat=k;revert k;decide
def wS (n:Int):(mW n).length<=3:=by
 obtain⟨h1,h2⟩:=kH n 4 aF;unfold mW;have:(n%4).toNat<4:=ae;revert this;generalize (n%4).toNat=k;revert k;decide
def O6 (k:Nat)(h:k<3):(Dw[k]!).length<=4:=by
 revert k;decide
def RB (k:Nat)(h:k<2):(OJ[k]!).length<=4:=by
 revert k;decide
def U7 (l:List Int)(i:Int):(yI l i).v.sm:=⟨by simp[yI],by simp[yI]⟩
def Tu:au:=[114,99,46,49]
def uA (l:List Int)(i:Int):au:=if fX l (i+2) 9=1 then Tu else []
def AS (l:List Int)(i:Int):au:=if fX l (i+2) 9=2 then [55]else []
def OZ (l:List Int)(i:Int):cq:=⟨fX l i 3,fX l (i+1) 2,0,uA l i,AS l i⟩
def gK (l:List Int)(i:Int):Nat:=(fX l (i+3) 4%3).toNat
def gK_eq (l:List Int)(i:Int):(fX l (i+3) 4).tmod 3=(gK l i:Int):=by
 have h:=dP l (i+3) 4 aF;rw[Int.tmod_eq_emod_of_nonneg h.1];unfold gK;omega
def W7 (l:List Int)(i:Int):gK l i<=2:=by unfold gK;omega
def GX (l:List Int)(i own:Int)(n:Nat):List bp:=(List.range n).map fun(q:Nat)=>iu l (i+4+20*((gK l i-q:Nat):Int) -20) own
def RS {l:List Int}{i own:Int}{k:Nat}(hk:k<=gK l i)(h0:0<k):GX l i own (gK l i-(k-1))=GX l i own (gK l i-k)++[iu l (i+4+20*(k:Int) -20) own]:=by
 rw[show gK l i-(k-1)=(gK l i-k)+1 by omega];unfold GX;rw[List.range_succ,List.map_append,List.map_singleton,show gK l i-(gK l i-k)=k by omega]
def rU (l:List Int)(i own:Int):List bp:=GX l i own (gK l i)
def AR (l:List Int)(i own:Int):fA:=⟨fh (own+1+fX l (i+46) 4),uz l (i+47),mU l (i+50)⟩
def rS (l:List Int)(i own:Int):List fA:=if fX l (i+45) 5=1 then [AR l i own]else []
def pY (l:List Int)(i own:Int):Rec:=⟨fh own,OZ l i,rU l i own,rS l i own,[]⟩
def CF (l:List Int)(i own:Int):Rec:={pY l i own with feats:=kp l (i+52) (pY l i own)}
def OT {l:List Int}{i own:Int}{k:Nat}{w:bT}(h:w∈uy l i own k):w.name.length<=3:=by
 obtain⟨q,_,rfl⟩:=ez.1 h;exact n7 _
def wP (l:List Int)(i own:Int):(iu l i own).option.length<=3:=by
 show(if _ then _ else _:au).length<=3;split
 .exact wS _
 .simp
def OY (l:List Int)(i own:Int):∀j:Nat,j<(pY l i own).needs.length->(pY l i own).needs[j]!.option.length<=100/\((pY l i own).needs[j]!.any.length=1->(pY l i own).needs[j]!.any[0]!.name.length<=100):=by
 intro j hj;have hm:=bF hj;obtain⟨q,_,hq⟩:=ez.1 hm;rw[<-hq];generalize i+4+20*((gK l i-q:Nat):Int) -20=x;refine⟨dp (wP _ _ _) aF,fun h=>?_⟩;have h2:=bF (l:=(iu l x own).any) (i:=0) ae;exact dp (OT (k:=gp l x) h2) aF
def Hi:∀a b:au,Op.bytesLess a b=false->a≠b->Op.bytesLess b a=true
 |[],[],_,h=>absurd rfl h
 |[],_::_,h,_=>by simp[Op.bytesLess]at h
 |_::_,[],_,_=>by simp[Op.bytesLess]
 |x::a,y::b,h,hn=>by
  simp only[Op.bytesLess,de,bc,dz,beq_eq_false_iff_ne]at h;simp only[Op.bytesLess,cN,aK,bC,beq_iff_eq];obtain⟨h1,h2⟩:=h;by_cases e:x=y
  .subst e;refine .inr ⟨rfl,Hi a b (h2.resolve_left fun h=>h rfl) fun e=>hn (by rw[e])⟩
  grind
def BD {l:List au}{s t:au}(h:t∈ic l s):t∈l\/t=s:=by
 grind [ic]
def KD (l:List au):rising l=true↔∀i,1<=i->i<l.length->Op.bytesLess l[i-1]! l[i]! =true:=by
 unfold rising;rw[eD]
def si {l:List au}{s:au}(h:rising l=true):rising (ic l s)=true:=by
 unfold ic;split
 .exact h
 .rename_i hn;rw[KD]at h⊢;have hl:=Fm s l;have hlt:=Fo s l;have hst:=xw s l;generalize mA s l=k at hn hl hlt hst⊢;have hlen:(l.take k++[s]++l.drop k).length=l.length+1:=by
   simp only[bQ,eu,jY,aP,a8];omega
  have g1:∀j,j<k->(l.take k++[s]++l.drop k)[j]! =l[j]! :=fun j hj=>by
   have a:j<(l.take k).length:=by rw[eu];omega
   have b:j<l.length:=ae;rw[ey,getElem!_pos _ _ (by rw[bQ];omega),List.getElem_append_left a,List.getElem_take,getElem!_pos l j b]
  have g2:(l.take k++[s]++l.drop k)[k]! =s:=by
   have a:(l.take k).length=k:=by rw[eu];omega
   rw[ey,getElem!_pos _ _ (by simp only[bQ,a,aP];omega),List.getElem_append_right ae];simp[a]
  have g3:∀j,k<j->j<l.length+1->(l.take k++[s]++l.drop k)[j]! =l[j-1]! :=fun j hj hj2=>by
   have a:(l.take k).length=k:=by rw[eu];omega
   have b:(l.take k++[s]).length=k+1:=by rw[bQ,a];rfl
   rw[getElem!_pos _ _ (by rw[hlen];omega),List.getElem_append_right ae,List.getElem_drop,getElem!_pos l (j-1) ae];congr 1;omega
  intro i h1 h2;rw[hlen]at h2;rcases Nat.lt_trichotomy i k with hik|hik|hik
  .rw[g1 i hik,g1 (i-1) ae];exact h i h1 ae
  .subst hik;rw[g2,g1 (i-1) ae];exact hlt _ ae
  .rw[g3 i hik h2];by_cases he:i=k+1
   .subst he;rw[show k+1-1=k from rfl,g2];exact Hi _ _ (hst ae) fun e=>hn ⟨ae,e⟩
   .rw[g3 (i-1) ae ae];exact h (i-1) ae ae
def JX:∀k,k<5->dL Sx[k]! =true/\Sx[k]!.length<=3/\dK (Sx[k]! ++[47]++[120])=((3:Int),Sx[k]!,([120]:au)):=by decide+kernel
theorem Zl:∀a,a<5->∀b,b<5->a≠b->Sx[a]! ≠Sx[b]! :=by decide+kernel
def Z1:∀k,k<4->cW Wt[k]! =true/\dK (([63]:au)++Wt[k]!)=((2:Int),Wt[k]!,([]:au)):=by decide+kernel
def fewT (k a b:Nat):au:=if J0[k]! =9 then [42]else ep ⟨J0[k]!,3,⟨(a:Nat),(b:Nat),0,[],[]⟩⟩
def Wh (s:au):Prop:=tt s=true/\s.length<=8/\s≠[]/\(∀c∈s,c≠10)
instance (s:au):Decidable (Wh s):=by unfold Wh;infer_instance
def Hm (s:au):Prop:=qH s=true/\s.length<=16/\(∀c∈s,c≠10)
instance (s:au):Decidable (Hm s):=by unfold Hm;infer_instance
def U8:∀k,k<6->∀a,a<3->∀b,b<2->Wh (fewT k a b):=by decide+kernel
theorem Ud:∀k,k<3->∀a,a<2->∀b,b<4->Hm (Dw[k]! ++OJ[a]! ++Wt[b]!):=by decide+kernel
def pX (n:Int):(n%5).toNat<5/\fh n=Sx[(n%5).toNat]! :=by
 have:=kH n 5 aF;exact⟨ae,rfl⟩
def rT (n:Int):dL (fh n)=true/\(fh n).length<=3:=⟨(JX _ (pX n).1).1,(JX _ (pX n).1).2.1⟩
def GW (own d:Int)(h0:0<=d)(h1:d<4):fh (own+1+d)≠fh own:=by
 have a:=pX (own+1+d);have b:=pX own
 grind [Zl]
def GY (n:Int):(n%4).toNat<4/\mW n=Wt[(n%4).toNat]! :=by
 have:=kH n 4 aF;exact⟨ae,rfl⟩
theorem rV (n:Int):cW (mW n)=true/\dK (([63]:au)++mW n)=((2:Int),mW n,([]:au)):=Z1 _ (GY n).1
def qC (l:List Int)(i:Int):Wh (uz l i):=by
 have a:=dP l i 6 aF;have b:=dP l (i+1) 3 aF;have c:=dP l (i+2) 2 aF;have:=U8 (fX l i 6).toNat ae (fX l (i+1) 3).toNat ae (fX l (i+2) 2).toNat ae
 grind [fewT,fX,uz,yI]
def Pm:Hm []:=by decide+kernel
def oz (l:List Int)(i:Int):Hm (mU l i):=by
 unfold mU;split
 .exact Pm
 .rename_i h;have a:=dP l i 6 aF;have b:=dP l (i+1) 2 aF;have c:=GY (1+fX l (i+1) 3)
  grind [Ud]
def yf {f:Nat->Int}{n:Nat}(h:∀j,j<n->f j=0):fL f 0 n=0:=by
 have:∀k i,i+k=n->fL f i n=0:=by
  intro k;induction k with
  |zero=>intro i e;exact nZ ae
  |succ k ih=>intro i e;rw[n5 ae (h i ae)];exact ih (i+1) ae
 exact this n 0 ae
def rO {f:Nat->Int}{n:Nat}(h:∀j,j<n->f j=0):iF f 0 n=(0,0):=by
 have:∀k i,i+k=n->iF f i n=(0,0):=by
  intro k;induction k with
  |zero=>intro i e;exact ma ae
  |succ k ih=>intro i e;rw[mb ae (h i ae)];exact ih (i+1) ae
 exact this n 0 ae
def Eo {r:Rec}{nm rg:au}(h1:dL nm=true)(h2:nm≠r.name)(h3:tt rg=true):fT r nm rg=0:=by
 grind [fT]
def Uk:∀n,jN (Cm.take n) true=true
 |0=>aF
 |1=>aF
 |n+2=>by
  have:Cm.take (n+2)=Cm:=ee (by simp[Cm]);rw[this];decide
theorem O0 (l:List Int)(i:Int)(al:Bool):jN (pG l i al) al=true:=by
 unfold pG;split
 .rename_i h;rw[h.1];exact Uk _
 .cases al<;>decide
def Qw {r:Rec}{own:Int}(hr:r.name=fh own)(l:List Int)(i:Int)(al:Bool):jP r (mV l i own al) al=0:=by
 have h:=dP l i 4 aF;have h1:=Eo (r:=r) (rT (own+1+fX l i 4)).1 (by rw[hr];exact GW own _ h.1 h.2) (qC l (i+1)).1;unfold jP;show(if fT r (fh (own+1+fX l i 4)) (uz l (i+1))≠0 then _ else if jN (pG l i al) al=false then _ else _)=_
 grind [O0]
def GV (l:List Int)(i own:Int)(k:Nat):(uy l i own k).length=k:=by simp[uy]
def GU {l:List Int}{i own:Int}{k j:Nat}(h:j<k):(uy l i own k)[j]! =mV l (i+1+6*(j:Nat)) own (decide ((gp l i:Int)=1)):=by
 grind [uy]
def Dm (l:List Int)(i:Int):1<=gp l i:=by unfold gp;split<;>omega
def EY (l:List Int)(i own:Int):(iu l i own).option=[]\/∃n,(iu l i own).option=mW n:=by
 show(if _ then _ else _:au)=[]\/_;split
 .rename_i h;exact .inr ⟨kS l (i+17),aw h⟩
 .exact .inl rfl
def Po {r:Rec}{own:Int}(hr:r.name=fh own)(l:List Int)(i:Int):jh r (iu l i own)=0:=by
 have hl:(iu l i own).any.length=gp l i:=GV _ _ _ _;have h1:=Dm l i;have h2:=AV l i;unfold jh;rw[ak (by rw[hl];omega),ak (by rw[hl];omega)];have hw:mP r (iu l i own).any=0:=by
  unfold mP;refine yf fun j hj=>?_
  rw[hl]at hj⊢;show jP r (uy l i own (gp l i))[j]! _=0;rw[GU hj];exact Qw hr l _ _
 rw[hw,ak aJ,ak (by rw[show(iu l i own).when'=mU l (i+14)from rfl,(oz l (i+14)).1];simp)];rcases EY l i own with h|⟨n,h⟩
 .rw[ak (by rw[h];simp)]
 grind [rV]
def Vj (l:List Int)(i own:Int)(n:Nat):(GX l i own n).length=n:=by simp[GX]
def vO {l:List Int}{i own:Int}{n:Nat}{x:bp}(h:x∈GX l i own n):∃k:Int,x=iu l k own:=by
 obtain⟨q,_,rfl⟩:=ez.1 h;exact⟨_,rfl⟩
def JW {r:Rec}{l:List Int}{i own:Int}(hr:r.name=fh own)(hn:r.needs=rU l i own):ml r=(0,0):=by
 unfold ml;refine rO fun j hj=>?_
 obtain⟨k,hk⟩:=vO (show r.needs[j]! ∈GX l i own (gK l i)by rw[show GX l i own (gK l i)=r.needs from hn.symm];exact bF hj);rw[hk];exact Po hr l k
def Re {r:Rec}{own:Int}(hr:r.name=fh own)(l:List Int)(i:Int):pL r (AR l i own)=0:=by
 have h:=dP l (i+46) 4 aF;have h1:=Eo (r:=r) (rT (own+1+fX l (i+46) 4)).1 (by rw[hr];exact GW own _ h.1 h.2) (qC l (i+47)).1;unfold pL;show(if fT r (fh (own+1+fX l (i+46) 4)) (uz l (i+47))≠0 then _ else if qH (mU l (i+50))=false then _ else _)=_;rw[h1,ak aJ,(oz l (i+50)).1,ak aJ]
def Dl {l:List Int}{i own:Int}{b:fA}(h:b∈rS l i own):b=AR l i own:=by
 grind [rS]
def Z4 (l:List Int)(i:Int)(r:Rec)(t:au):Prop:=(∃m∈r.needs,m.option≠[]/\t=[63]++m.option)\/(∃m∈r.needs,m.any.length=1/\t=m.any[0]!.name++[47]++[120])\/∃k,k<3/\¬kS l (i+(k:Nat)+1)%3=0/\t=nU[k+1]!
def RP (l:List Int)(i:Int)(r:Rec)(n:Int):∀j,j<=r.needs.length->rising (rm r n j)=true/\∀t∈rm r n j,Z4 l i r t
 |0,_=>⟨rfl,fun t ht=>by simp[rm]at ht⟩
 |j+1,hj=>by
  obtain⟨h1,h2⟩:=RP l i r n j ae;have hm:r.needs[j]! ∈r.needs:=bF ae;have hA:rising (RN r n (rm r n j) j)=true/\∀t∈RN r n (rm r n j) j,Z4 l i r t:=by
   unfold RN;split
   .rename_i h;refine⟨si h1,fun t ht=>?_⟩;rcases BD ht with ht|rfl
    .exact h2 t ht
    .exact .inl ⟨_,hm,h.1,rfl⟩
   .exact⟨h1,h2⟩
  obtain⟨h3,h4⟩:=hA;rw[pU,W6];unfold W5;split
  .rename_i h;refine⟨si h3,fun t ht=>?_⟩;rcases BD ht with ht|rfl
   .exact h4 t ht
   .exact .inr (.inl ⟨_,hm,h.1,rfl⟩)
  .exact⟨h3,h4⟩
theorem Y1 (l:List Int)(i:Int)(r:Rec)(n:Int)(k j:Nat)(hj:j<=r.needs.length):rising (Vh l i n k (rm r n j))=true/\(∀t∈Vh l i n k (rm r n j),Z4 l i r t)/\(Vh l i n k (rm r n j)).length<=2*j+1:=by
 obtain⟨h1,h2⟩:=RP l i r n j hj;have h3:=EU r n j;unfold Vh;split
 .rename_i h;refine⟨si h1,fun t ht=>?_,dp (sg _ _) ae⟩;rcases BD ht with ht|rfl
  .exact h2 t ht
  .exact .inr (.inr ⟨k,h.1.1,h.2,rfl⟩)
 .exact⟨h1,h2,ae⟩
def qB {l:List Int}{i:Int}{r:Rec}{f:b7}(h:f∈kp l i r):∃k,k<4/\f.name=nU[k]! /\¬kS l (i+(k:Nat))%3=0/\rising f.of=true/\(∀t∈f.of,Z4 l i r t)/\f.of.length<=5:=by
 obtain⟨k,hk,he⟩:=List.mem_filterMap.1 h
 grind [Z8,Y1,kS]
def Jz {l:List Int}{i:Int}{r:Rec}{k:Nat}(hk:k<4)(h:¬kS l (i+(k:Nat))%3=0):∃f∈kp l i r,f.name=nU[k]! :=by
 have e:Z8 l i r k=some ⟨nU[k]!,Vh l i (kS l (i+(k:Nat))) k (rm r (kS l (i+(k:Nat))) (min r.needs.length 2))⟩:=ak h;exact⟨_,List.mem_filterMap.2 ⟨k,List.mem_range.2 hk,e⟩,rfl⟩
def OP {fs:List b7}{nm:au}(h:∃f∈fs,f.name=nm):0<=findF fs nm 0:=by
 grind [findF]
theorem Hq:∀k,k<4->dK nU[k]! =((1:Int),nU[k]!,([]:au))/\cW nU[k]! =true:=by decide+kernel
theorem Sy:∀a,a<4->∀b,b<4->a<b->Op.bytesLess nU[a]! nU[b]! =true:=by decide+kernel
theorem OW (l:List Int)(i:Int)(r:Rec):(kp l i r).Pairwise fun a b=>Op.bytesLess a.name b.name=true:=by
 unfold kp RO;refine List.Pairwise.filterMap _ (R:=fun a b=>a<b/\b<4) ?_ aF
 grind [Z8,nU,Sy]
def AU (l:List Int)(i:Int)(r:Rec):(kp l i r).length<=4:=by
 grind [kp,RO]
def NdG (r:Rec):Prop:=∀m∈r.needs,(m.option=[]\/∃n,m.option=mW n)/\(m.any.length=1->∃n,m.any[0]!.name=fh n)
def Hb {l:List Int}{i:Int}{r r2:Rec}{t:au}(h:Z4 l i r t)(hr:NdG r)(hn:r2.needs=r.needs)(hf:r2.feats=kp l i r):jb r2.feats t=true/\j9 r2 t=0/\t.length<=7:=by
 rcases h with⟨m,hm,h1,rfl⟩|⟨m,hm,h1,rfl⟩|⟨k,hk,h1,rfl⟩
 .obtain⟨n,e⟩:=(hr m hm).1.resolve_left h1;have hx:=(rV n).2;have hl:=wS n;rw[e];refine⟨by unfold jb;rw[hx];rfl, ?_,by simp only[bQ,aP,a8];omega⟩;unfold j9;rw[hx];have:Hw r2.needs (mW n)=true:=by
   unfold Hw;rw[List.any_eq_true];exact⟨m,by rw[hn];exact hm,by simp[e]⟩
  simp[this]
 .obtain⟨n,e⟩:=(hr m hm).2 h1;have hx:=(JX _ (pX n).1).2.2;have hl:=n7 n;rw[<-(pX n).2]at hx;rw[e];generalize fh n=w at e hx hl;refine⟨by unfold jb;rw[hx];rfl, ?_,by simp only[bQ,aP,a8];omega⟩;have:yq r2.needs w=true:=by
   unfold yq;rw[List.any_eq_true];exact⟨m,by rw[hn];exact hm,by rw[e,h1];simp⟩
  unfold j9;rw[hx,ak aJ,ak (by rw[this];simp)]
 .have hx:=(Hq (k+1) ae).1;have hl:∀k,k<4->nU[k]!.length<=7:=aF
  refine⟨?_,by unfold j9;rw[hx];simp,hl _ ae⟩;have:R5 r2.feats nU[k+1]! =true:=by
   unfold R5;rw[hf,cN];right;rw[aK];exact OP (Jz (k:=k+1) ae (by rw[show i+((k+1:Nat):Int)=i+(k:Nat)+1 by omega];exact h1))
  unfold jb;rw[hx];dsimp only;rw[this];rfl
theorem Zw {α:Type} [Inhabited α]{R:α->α->Prop}{l:List α}(h:l.Pairwise R){i:Nat}(h0:0<i)(hi:i<l.length):R l[i-1]! l[i]! :=by
 rw[getElem!_pos l _ ae,getElem!_pos l _ hi];exact List.pairwise_iff_getElem.1 h _ _ ae hi ae
def OO {l:List Int}{i:Int}{r r2:Rec}(hr:NdG r)(hn:r2.needs=r.needs)(hf:r2.feats=kp l i r):iE r2.feats=true/\um r2=(0,0):=by
 have hit:∀f∈r2.feats,∀t∈f.of,jb r2.feats t=true/\j9 r2 t=0/\t.length<=7:=fun f hf' t ht=>by
  obtain⟨k,_,_,_,_,h,_⟩:=qB (show f∈kp l i r by rw[<-hf];exact hf');exact Hb (h t ht) hr hn hf
 constructor
 .have hlen:=AU l i r;unfold iE;rw[bC,aK,eD];refine⟨by rw[hf];omega,fun j _ hj=>?_⟩;have hm:r2.feats[j]! ∈r2.feats:=bF hj;obtain⟨k,hk,e1,e2,e3,e4,e5⟩:=qB (show r2.feats[j]! ∈kp l i r by rw[<-hf];exact hm)
  grind [jT,Hq,Zw,OW,mg,eD,bF]
 .unfold um;refine rO fun j hj=>?_
  unfold lj;exact yf fun q hq=>(hit _ (bF hj) _ (bF hq)).2.1
def pT {α:Type}{f:α->au}{B:Nat}:∀{l:List α},(∀x∈l,(f x).length<=B)->((l.map f).flatten).length<=l.length*B
 |[],_=>aJ
 |a::r,h=>by
  have h1:=h a (.head _);have h2:=pT (l:=r) fun x hx=>h x (.tail _ hx)
  simp only[List.map_cons,List.flatten_cons,bQ,aP,Nat.succ_mul];omega
def oa {l:List au}{B n:Nat}(h:∀t∈l,t.length<=B)(hn:l.length<=n):(cw l).length<=n*(B+1)+1:=by
 have h1:=mh 32 B l h;have h2:=fo (B+1) hn
 grind [cw]
def Mw (w:bT):Prop:=w.name.length<=3/\w.range.length<=8/\(w.feats=[]\/w.feats=Cm.take 1\/w.feats=Cm)
theorem QE (n:Nat):Cm.take n=[]\/Cm.take n=Cm.take 1\/Cm.take n=Cm:=by
 match n with
 |0=>exact .inl rfl
 |1=>exact .inr (.inl rfl)
 |n+2=>exact .inr (.inr (ee (by simp[Cm])))
def wR (l:List Int)(i own:Int)(al:Bool):Mw (mV l i own al):=by
 refine⟨n7 _,(qC l (i+1)).2.1, ?_⟩;show pG l i al=[]\/pG l i al=Cm.take 1\/pG l i al=Cm
 grind [pG,QE]
def Qx {w:bT}(h:Mw w):(cw (jk w)).length<=46:=by
 refine oa (B:=8) (n:=5) (fun t ht=>?_) (by simp[jk]);simp only[jk,cb,eJ,or_false]at ht;rcases ht with rfl|rfl|rfl|rfl|rfl
 .decide
 .have:=h.1;omega
 .rcases h.2.2 with e|e|e<;>rw[e]<;>decide
 .split<;>decide
 .exact h.2.1
theorem El {s:au}(h:s.length<=16):(ix s).length<=35:=by
 unfold ix;split
 .simp
 .exact oa (B:=16) (n:=2) (fun t ht=>by
   simp only[cb,eJ,or_false]at ht;rcases ht with rfl|rfl
   .decide
   .exact h) aJ
def SN {s:au}(h:s.length<=6):(rq s).length<=15:=by
 unfold rq;split
 .simp
 .exact oa (B:=6) (n:=2) (fun t ht=>by
   simp only[cb,eJ,or_false]at ht;rcases ht with rfl|rfl
   .decide
   .exact h) aJ
def OX (l:List Int)(i own:Int):(p7 (iu l i own)).length<=160:=by
 have h1:=pT (f:=fun w=>cw (jk w)) (B:=46) (l:=(iu l i own).any) fun w hw=>by
  obtain⟨q,_,rfl⟩:=ez.1 (show w∈uy l i own (gp l i)from hw);exact Qx (wR _ _ _ _)
 have h2:(iu l i own).any.length<=2:=by rw[show(iu l i own).any.length=gp l i from GV _ _ _ _];exact AV l i
 have h3:=El (oz l (i+14)).2.1;have h4:=SN (s:=(iu l i own).option) (dp (wP l i own) aF);have h5:(cw [ek]).length<=6:=aF;unfold p7;simp only[bQ];show _+(((iu l i own).any.map fun w=>cw (jk w)).flatten).length+(ix (mU l (i+14))).length+_<=_;omega
def Rf {b:fA}(h:b.name.length<=3/\b.range.length<=8/\b.when'.length<=16):(vx b).length<=63:=by
 have h1:=oa (B:=8) (n:=3) (l:=[fG,b.name,b.range]) (fun t ht=>by
  simp only[cb,eJ,or_false]at ht;rcases ht with rfl|rfl|rfl
  .decide
  .omega
  .exact h.2.1) aJ
 grind [El,vx]
def RQ (l:List Int)(i own:Int):(AR l i own).name.length<=3/\(AR l i own).range.length<=8/\(AR l i own).when'.length<=16:=⟨n7 _,(qC l (i+47)).2.1,(oz l (i+50)).2.1⟩
def OM {f:b7}(h:f.name.length<=7/\f.of.length<=5/\∀t∈f.of,t.length<=7):(qY f).length<=57:=by
 refine oa (B:=7) (n:=7) (fun t ht=>?_) cZ;simp only[List.mem_append,cb,eJ,or_false]at ht;rcases ht with(rfl|rfl)|ht
 .decide
 .exact h.1
 .exact h.2.2 t ht
structure Am (l:List Int)(i own:Int)(r:Rec):Prop where
 nm:r.name=fh own
 ns:r.needs=rU l i own
 v:e8 r.v=true/\r.v.pre.length<=4/\r.v.build.length<=1
 bl:r.bars.length<=2
 b:∀b∈r.bars,pL r b=0/\b.name.length<=3/\b.range.length<=8/\b.when'.length<=16
 fs:iE r.feats=true/\um r=(0,0)
 fl:r.feats.length<=4
 f:∀f∈r.feats,f.name.length<=7/\f.of.length<=5/\∀t∈f.of,t.length<=7
def AW (l:List Int)(i own:Int):(rU l i own).length<=2:=by rw[rU,Vj];exact W7 l i
def Am.good {l:List Int}{i own:Int}{r:Rec}(h:Am l i own r):yi r:=by
 have h1:=AW l i own;have h2:=h.bl;refine⟨⟨by rw[h.nm];exact(rT own).1,h.v.1⟩,⟨by rw[h.ns];omega,ae⟩,sc (JW h.nm h.ns) ?_ h.fs.1 h.fs.2⟩;unfold tQ;exact rO fun j hj=>(h.b _ (bF hj)).1
def Am.sm {l:List Int}{i own:Int}{r:Rec}(h:Am l i own r):fC r:=by
 refine⟨⟨by rw[h.nm];exact dp (n7 own) aF,dp h.v.2.1 aF,dp h.v.2.2 aF⟩,fun n hn=>?_,fun b hb=>?_,fun f hf=>?_⟩
 .obtain⟨k,rfl⟩:=vO (show n∈GX l i own (gK l i)by rw[show GX l i own (gK l i)=r.needs from h.ns.symm];exact hn);refine⟨fun w hw=>?_,dp (oz l (k+14)).2.1 aF,dp (wP l k own) aF⟩;obtain⟨q,_,rfl⟩:=ez.1 (show w∈uy l k own (gp l k)from hw);obtain⟨a,b,c⟩:=wR l (k+1+6*(q:Nat)) own (decide ((gp l k:Int)=1));refine⟨⟨dp a aF,dp b aF⟩,fun t ht=>?_⟩
  grind [Cm]
 .obtain⟨_,a,b,c⟩:=h.b b hb;exact⟨dp a aF,dp b aF,dp c aF⟩
 .obtain⟨a,b,c⟩:=h.f f hf;exact⟨dp a aF,dp b aF,fun t ht=>dp (c t ht) aF⟩
def T8 {v:cq}(h:e8 v=true/\v.pre.length<=4/\v.build.length<=1):(kf v).length<=30:=by
 obtain⟨h1,h2,h3⟩:=h;have hv:=h1;simp only[e8,qz,bC,aK]at h1;have a:=eK 4 v.major.toNat ae ae;have b:=eK 4 v.minor.toNat ae ae;have c:=eK 4 v.patch.toNat ae ae
 grind [kf,xO,coreS]
def Am.len {l:List Int}{i own:Int}{r:Rec}(h:Am l i own r):(gC r).length<=800:=by
 have h1:(qZ r).length<=94:=oa (B:=30) (n:=3) (fun t ht=>by
  simp only[cb,eJ,or_false]at ht;rcases ht with rfl|rfl|rfl
  .decide
  .rw[h.nm];exact dp (n7 own) aF
  .exact T8 h.v) aJ
 have h2:=pT (f:=p7) (B:=160) (l:=r.needs) fun n hn=>by
  obtain⟨k,rfl⟩:=vO (show n∈GX l i own (gK l i)by rw[show GX l i own (gK l i)=r.needs from h.ns.symm];exact hn);exact OX l k own
 have h3:=pT (f:=vx) (B:=63) (l:=r.bars) fun b hb=>Rf (h.b b hb).2
 have h4:=pT (f:=qY) (B:=57) (l:=r.feats) fun f hf=>OM (h.f f hf)
 have h5:=AW l i own;have h6:=h.bl;have h7:=h.fl;rw[h.ns]at h2;unfold gC;rw[h.ns];simp only[bQ];omega
def Am.check {l:List Int}{i own:Int}{r:Rec}(h:Am l i own r):cM r=(0,0):=by
 obtain⟨⟨a,b⟩,⟨c,d⟩,e⟩:=h.good;rw[rH a b ae ae e,ak (by have:=h.len;omega)]
def Am.print {l:List Int}{i own:Int}{r:Rec}(h:Am l i own r):dw r=(gC r,0):=by
 unfold dw;rw[h.check,ak aJ]
def Lq (l:List Int)(i:Int):e8 (OZ l i)=true/\(OZ l i).pre.length<=4/\(OZ l i).build.length<=1:=by
 have a:=dP l i 3 aF;have b:=dP l (i+1) 2 aF;have key:∀x,x<3->∀y,y<2->∀p∈[([]:au),Tu],∀q∈[([]:au),[55]],e8 ⟨(x:Nat),(y:Nat),0,p,q⟩=true:=by decide+kernel
 have hp:uA l i∈[([]:au),Tu]:=by unfold uA;split<;>simp
 have hq:AS l i∈[([]:au),[55]]:=by unfold AS;split<;>simp
 have h:=key (fX l i 3).toNat ae (fX l (i+1) 2).toNat ae _ hp _ hq;have e:(⟨((fX l i 3).toNat:Int),((fX l (i+1) 2).toNat:Int),0,uA l i,AS l i⟩:cq)=OZ l i:=by
  grind [OZ,fX]
 rw[e]at h;refine⟨h, ?_, ?_⟩
 .show(uA l i).length<=4;unfold uA;split<;>decide
 grind
def wQ (l:List Int)(i own:Int):NdG (pY l i own):=by
 intro m hm;obtain⟨k,rfl⟩:=vO (show m∈GX l i own (gK l i)from hm);refine⟨EY l k own,fun h=>?_⟩;have h1:0<gp l k:=by have:=Dm l k;omega
 have:=GU (l:=l) (i:=k) (own:=own) h1;exact⟨_,aj bT.name this⟩
def OV (l:List Int)(i own:Int):(rS l i own).length<=1:=by unfold rS;split<;>simp
def VT:∀k,k<4->nU[k]!.length<=7:=aF
def RU (l:List Int)(i own:Int):Am l i own (CF l i own):=by
 have hf:=OO (r:=pY l i own) (r2:=CF l i own) (l:=l) (i:=i+52) (wQ l i own) rfl rfl;refine⟨rfl,rfl,Lq l i,dp (OV l i own) aF,fun b hb=>?_,hf,AU _ _ _,fun f hf2=>?_⟩
 .obtain rfl:=Dl (show b∈rS l i own from hb);exact⟨Re rfl l i,RQ l i own⟩
 .obtain⟨k,hk,e,_,_,hi,hl⟩:=qB (show f∈kp l (i+52) (pY l i own)from hf2);refine⟨by rw[e];exact VT k hk,hl,fun t ht=>?_⟩;exact(Hb (r2:=CF l i own) (hi t ht) (wQ l i own) rfl rfl).2.2
end Go.Abs
section
namespace Go.Abs
def cr (w:au):Prop:=w≠[]/\∀c∈w,c≠32/\c≠10
def kl (w:au):Prop:=∀c∈w,c≠10
def fj (l:List au):au:=aS [32] l
def n32 {w:au}(h:cr w):∀c∈w,(c.toNat:Int)≠32:=fun c hc e=>(h.2 c hc).1 (im.1 (by have:(32:UInt8).toNat=32:=rfl;omega))
theorem kK {l:List au}(hl:l≠[])(h:∀w∈l,cr w):ai (fj l) 32=l:=
 kJ (x:=32) rfl hl fun w hw=>n32 (h w hw)
theorem Ea {p:List au}{t:au}(h:∀w∈p,cr w):ai (fj (p++[t])) 32=p++ai t 32:=by
 induction p with
 |nil=>rfl
 |cons a r ih=>
  have ha:=n32 (h a (.head _));have hr:=ih fun w hw=>h w (.tail _ hw)
  have e:fj (a::(r++[t]))=a++32::fj (r++[t]):=by
   unfold fj;rw[gr [32] a (r++[t]) aJ];simp
  grind [uX,fj,ai]
def fw (t:au):au:=(ai t 32)[0]!
theorem pV {w:au}{l:List au}(hw:cr w)(hl:∀x∈l,cr x):fw (fj (w::l))=w:=by
 unfold fw
 grind [kK]
def uv {w:au}{p:List au}{t:au}(hw:cr w)(hp:∀x∈p,cr x):fw (fj (w::(p++[t])))=w:=by
 unfold fw
 grind [Ea]
def Ww {n:Nat}{op:Bool}{t:au}(h:2<=n\/op=false):(ed n op t)[0]! =fw t:=by
 unfold ed fw
 grind [rj,ai]
def hd (R:List au):Option au:=R.head?.map fw
theorem r8 {w:au}{n:Nat}{op:Bool}{R:List au}(h:2<=n\/op=false)(hn:hd R≠some w):cj w n op R=none:=by
 match R,hn with
 |[],_=>rfl
 |t::r,hn=>
  have:dV w n op t=none:=by
   unfold dV;rw[ak];rintro⟨h1,_⟩;rw[Ww h]at h1;exact hn (by simp[hd,h1])
  simp only[cj,this]
theorem qJ {w:au}{l:List au}{n:Nat}{R:List au}(hw:cr w)(hl:∀x∈l,cr x)(hn:n=0\/l.length+1=n):cj w n false (fj (w::l)::R)=some (w::l,R):=by
 grind [cr,ed,fj,kK,dV,cj]
def xj {w:au}{p:List au}{t:au}{n:Nat}{R:List au}(hw:cr w)(hp:∀x∈p,cr x)(ht:t≠[])(hn:p.length+2=n):cj w n true (fj (w::(p++[t]))::R)=some (w::(p++[t]),R):=by
 have hc:∀x∈w::p,cr x:=fun x hx=>by rcases cb.1 hx with rfl|hx;exact hw;exact hp x hx
 have hs:=Ea (t:=t) hc;have hj:=ju (b:=32) (x:=32) rfl t;have h1:1<=(ai t 32).length:=er 32 t [];have e:ed n true (fj (w::(p++[t])))=w::(p++[t]):=by
  unfold ed;rw[aw rfl,<-fD,hs];unfold rj;have hl:(w::p++ai t 32).length=p.length+1+(ai t 32).length:=cZ;split
  .have:(ai t 32).length=1:=ae;obtain⟨x,hx⟩:=List.length_eq_one_iff.1 this;rw[hx]at hj⊢;simp only[aS]at hj;rw[hj]
  .have a:n-1=(w::p).length:=cZ;rw[a,List.take_left,List.drop_left,hj]
 have:dV w n true (fj (w::(p++[t])))=some (w::(p++[t])):=by
  unfold dV;rw[e,aw ⟨rfl,.inr cZ,fun h=>by
   rw[<-fD,List.mem_append,cK]at h;rcases h with h|h
   .exact(hc _ h).1 rfl
   .exact ht h.symm⟩]
 simp only[cj,this]
def kN (s:au):List au:=if s=[]then []else [fj [eG,s]]
def nK (s:au):List au:=if s=[]then []else [fj [cU,s]]
def lK (l:List bT):List au:=l.map fun w=>fj (jk w)
def xe (n:bp):List au:=fj [ek]::(lK n.any++(kN n.when'++nK n.option))
def C2 (b:fA):List au:=fj [fG,b.name,b.range]::kN b.when'
def k8 (f:b7):au:=fj ([b9,f.name]++f.of)
structure Gp (w:bT):Prop where
 nm:cr w.name
 rg:w.range≠[]/\kl w.range
 fs:∀t∈w.feats,cr t/\∀c∈t,c≠44
 ne:aS [44] w.feats≠[45]
def ox:cr eG:=by unfold cr;decide
theorem sX:cr cU:=by unfold cr;decide
theorem qw:cr ek:=by unfold cr;decide
def sW:cr fG:=by unfold cr;decide
def qv:cr b9:=by unfold cr;decide
def wC:cr gA:=by unfold cr;decide
def ug:cr dN:=by unfold cr;decide
def SP {s:au}{R:List au}(hs:s=[]\/cr s)(hR:s=[]->hd R≠some cU):oI (nK s++R)=(s,R):=by
 grind [nK,oI,r8,qJ,sX]
def Em {s:au}{R:List au}(hR:s=[]->hd R≠some eG):cz (kN s++R)=(s,R):=by
 unfold kN cz;by_cases h:s=[]
 .grind [r8]
 .rw[ak h,List.singleton_append];have:=xj (n:=2) (w:=eG) (p:=[]) (t:=s) (R:=R) ox (fun x hx=>by cases hx) h rfl
  grind
def R8 {l:List au}(h:∀t∈l,cr t/\∀c∈t,c≠44)(hl:l≠[]):cr (aS [44] l)/\ai (aS [44] l) 44=l:=by
 refine⟨⟨?_,fun c hc=>?_⟩,kJ (x:=44) rfl hl fun w hw c hc e=>(h w hw).2 c hc (im.1 (by have:(44:UInt8).toNat=44:=rfl;omega))⟩
 .match l,hl with
  |[a],_=>exact(h a (.head _)).1.1
  |a::b::r,_=>simp[aS]
 .rcases n9 44 l c hc with rfl|⟨w,hw,hc⟩
  .decide
  .exact(h w hw).1.2 c hc
def ve {w:bT}(h:Gp w):∀x∈[w.name,if w.feats.length=0 then [45]else aS [44] w.feats,if w.bare=true then dG else jj],cr x:=by
 intro x hx;simp only[cb,eJ,or_false]at hx;rcases hx with rfl|rfl|rfl
 .exact h.nm
 .split
  .unfold cr;decide
  .rename_i hn;exact(R8 h.fs (fun e=>hn (by rw[e];rfl))).1
 .split<;>(unfold cr;decide)
def Ci (w:bT):jk w=gA::([w.name,if w.feats.length=0 then [45]else aS [44] w.feats,if w.bare=true then dG else jj]++[w.range]):=rfl
theorem Wu {w:bT}(h:Gp w):gW (jk w)=w/\lh (jk w)=true:=by
 obtain⟨nm,rg,fs,b⟩:=w;have hb:dG≠jj:=aF;constructor
 .show(⟨nm,rg,(if(if fs.length=0 then [45]else aS [44] fs)=[45]then []else ai (if fs.length=0 then [45]else aS [44] fs) 44),decide ((if b=true then dG else jj)=dG)⟩:bT)=_;have h1:(if(if fs.length=0 then [45]else aS [44] fs)=[45]then []else ai (if fs.length=0 then [45]else aS [44] fs) 44)=fs:=by
   by_cases hn:fs.length=0
   .grind
   .rw[ak hn,ak h.ne];exact(R8 h.fs (fun e=>hn (by rw[show fs=[]from e];rfl))).2
  rw[h1];cases b<;>simp[hb,Ne.symm hb]
 .show(decide ((if b=true then dG else jj)=dG) ||decide ((if b=true then dG else jj)=jj))=true;cases b<;>simp
def yD {R:List au}(hR:hd R≠some gA):∀{l:List bT},(∀w∈l,Gp w)->cF (lK l++R)=(l,R)
 |[],_=>wh (r8 (.inl ae) hR)
 |w::r,h=>by
  have ih:=yD hR (l:=r) fun x hx=>h x (.tail _ hx)
  have hw:=h w (.head _);have hn:cj gA 5 true (fj (jk w)::(lK r++R))=some (jk w,lK r++R):=by
   have:=xj (n:=5) (w:=gA) (t:=w.range) (R:=lK r++R) wC (ve hw) hw.rg.1 rfl;rw[Ci];exact this
  grind [Wu,yC,cF,fj,jk,lK]
structure Gg (n:bp):Prop where
 a:∀w∈n.any,Gp w
 w:kl n.when'
 o:n.option=[]\/cr n.option
def Vr {s:au}{R:List au}:hd (kN s++R)=if s=[]then hd R else some eG:=by
 unfold kN;split
 .rfl
 .show some (fw (fj (eG::([]++[s]))))=_;rw[uv ox (fun x hx=>by cases hx)]
def Y7 {s:au}{R:List au}(hs:s=[]\/cr s):hd (nK s++R)=if s=[]then hd R else some cU:=by
 unfold nK;split
 .rfl
 .rename_i h;show some (fw (fj (cU::[s])))=_
  grind [pV,sX]
def SD (R:List au):Prop:=hd R≠some gA/\hd R≠some eG/\hd R≠some cU
def Pr {n:bp}{R:List au}(h:Gg n)(hR:SD R):eR ((lK n.any++(kN n.when'++nK n.option))++R)=(n,R):=by
 have e1:(lK n.any++(kN n.when'++nK n.option))++R=lK n.any++(kN n.when'++(nK n.option++R)):=by simp only[ey]
 have ho:=SP (s:=n.option) (R:=R) h.o fun _=>hR.2.2
 have hh:=Y7 (R:=R) h.o;have hw:=Em (s:=n.when') (R:=nK n.option++R) fun _=>by
  rw[hh];split
  .exact hR.2.1
  .decide
 have ha:=yD (R:=kN n.when'++(nK n.option++R)) (l:=n.any) (by
  rw[Vr];split
  .rw[hh];split
   .exact hR.1
   .decide
  .decide) h.a
 unfold eR;rw[e1,ha,hw,ho]
def oH (l:List bp):List au:=(l.map xe).flatten
def Bf {R:List au}(hR:SD R)(hN:hd R≠some ek):∀{l:List bp},(∀n∈l,Gg n)->eE (oH l++R)=(l,R)
 |[],_=>pj (r8 (.inr rfl) hN)
 |n::r,h=>by
  have ih:=Bf hR hN (l:=r) fun x hx=>h x (.tail _ hx)
  have hok:SD (oH r++R):=by
   match r with
   |[]=>exact hR
   |m::q=>
    have:hd (oH (m::q)++R)=some ek:=by
     show some (fw (fj (ek::[])))=_;rw[pV qw (fun x hx=>by cases hx)]
    unfold SD;rw[this];decide
  have hr:=Pr (h n (.head _)) hok;have hn:cj ek 1 false (oH (n::r)++R)=some ([ek],(lK n.any++(kN n.when'++nK n.option))++(oH r++R)):=by
   grind [qJ,ek,lK,kN,nK,oH,qw,xe]
  rw[r7 hn,hr,ih]
structure QG (b:fA):Prop where
 nm:cr b.name
 rg:b.range≠[]/\kl b.range
 w:kl b.when'
def nG (l:List fA):List au:=(l.map C2).flatten
def K9 {R:List au}{l:List fA}(h:∀b∈l,QG b):hd (nG l++R)=if l=[]then hd R else some fG:=by
 match l with
 |[]=>rfl
 |b::r=>
  rw[ak aJ];show some (fw (fj (fG::([b.name]++[b.range]))))=_;rw[uv sW (fun x hx=>by rw[cK.1 hx];exact(h b (.head _)).nm)]
def C4 {R:List au}(hR:hd R≠some eG/\hd R≠some fG):∀{l:List fA},(∀b∈l,QG b)->iM (nG l++R)=(l,R)
 |[],_=>qq (r8 (.inl ae) hR.2)
 |b::r,h=>by
  have ih:=C4 hR (l:=r) fun x hx=>h x (.tail _ hx)
  have hb:=h b (.head _);have hw:=Em (s:=b.when') (R:=nG r++R) fun _=>by
   rw[K9 fun x hx=>h x (.tail _ hx)];split
   .exact hR.1
   .decide
  have hn:cj fG 3 true (nG (b::r)++R)=some ([fG,b.name,b.range],kN b.when'++(nG r++R)):=by
   have:=xj (n:=3) (w:=fG) (p:=[b.name]) (t:=b.range) (R:=kN b.when'++(nG r++R)) sW (fun x hx=>by rw[cK.1 hx];exact hb.nm) hb.rg.1 rfl
   grind [fG,nG,C2]
  rw[ua hn,hw,ih];rfl
structure QT (f:b7):Prop where
 nm:cr f.name
 o:∀t∈f.of,cr t
def AJ:∀{l:List b7},(∀f∈l,QT f)->dC (l.map k8)=(l,[])
 |[],_=>rfl
 |f::r,h=>by
  have ih:=AJ (l:=r) fun x hx=>h x (.tail _ hx)
  have hf:=h f (.head _);have hn:=qJ (n:=0) (w:=b9) (l:=f.name::f.of) (R:=r.map k8) qv (fun x hx=>by
   rcases cb.1 hx with rfl|hx
   .exact hf.nm
   .exact hf.o x hx) (.inl rfl)
  have hl:dV b9 0 false (k8 f)=some (b9::f.name::f.of):=by
   simp only[cj]at hn;show dV b9 0 false (fj (b9::f.name::f.of))=_
   grind
  simp only[List.map_cons,dC,hl];rw[aw aJ,ih];rfl
end Go.Abs
namespace Go.Abs
structure Gk (r:Rec):Prop where
 nm:cr r.name
 v:e8 r.v=true
 n:∀n∈r.needs,Gg n
 b:∀b∈r.bars,QG b
 f:∀f∈r.feats,QT f
def sy (r:Rec):List au:=oH r.needs++(nG r.bars++r.feats.map k8)
def jv (r:Rec):List au:=fj [dN,r.name,kf r.v]::sy r
def jG (l:List au):au:=(l.map fun t=>t++[10]).flatten
theorem rL (a b:List au):jG (a++b)=jG a++jG b:=by simp[jG]
def wL {α:Type}(f:α->List au):∀l:List α,jG ((l.map f).flatten)=(l.map fun x=>jG (f x)).flatten
 |[]=>rfl
 |a::r=>by simp only[List.map_cons,List.flatten_cons,rL,wL f r]
theorem tj (l:List au):cw l=fj l++[10]:=rfl
def Rv (t:au):jG [t]=t++[10]:=by simp[jG]
theorem En (s:au):jG (kN s)=ix s:=by
 unfold kN ix;split
 .rfl
 .rw[Rv,tj]
theorem SQ (s:au):jG (nK s)=rq s:=by
 unfold nK rq;split
 .rfl
 .rw[Rv,tj]
theorem IF (l:List bT):jG (lK l)=(l.map fun w=>cw (jk w)).flatten:=by
 unfold lK jG;rw[List.map_map];rfl
theorem nY (t:au)(l:List au):jG (t::l)=t++[10]++jG l:=by simp[jG]
def Ps (n:bp):jG (xe n)=p7 n:=by
 grind [xe,p7,nY,rL,IF,En,SQ,tj]
def Rh (b:fA):jG (C2 b)=vx b:=by
 unfold C2 vx;rw[nY,En,tj]
def Jv (l:List b7):jG (l.map k8)=(l.map qY).flatten:=by
 unfold jG;rw[List.map_map];rfl
theorem va (r:Rec):gC r=jG (jv r):=by
 unfold jv sy gC qZ;rw[nY,rL,rL,Jv];unfold oH nG;rw[wL,wL,tj];simp only[Ps,Rh,ey]
def A1:∀ls:List au,aS [10] (ls++[[]])=jG ls
 |[]=>rfl
 |a::r=>by
  rw[fD,gr _ _ _ aJ,A1 r,nY]
def gM {l:List au}(h:∀w∈l,kl w):kl (fj l):=by
 intro c hc;rcases n9 32 l c hc with rfl|⟨w,hw,hc⟩
 .decide
 .exact h w hw c hc
def I4 {w:au}(h:cr w):kl w:=fun c hc=>(h.2 c hc).2
def xP {v:cq}(h:e8 v=true):cr (kf v):=by
 have e:kf v=sN v:=by unfold kf;rw[aw h]
 rw[e];refine⟨?_,fun c hc=>?_⟩
 .unfold sN;have:=y0 v.major.toNat;cases hd:dJ v.major.toNat with
  |nil=>exact absurd hd this
  |cons a b=>simp
 .have:=Ws h hc;exact⟨fun e=>this.1 (by rw[e];rfl),fun e=>this.2 (by rw[e];rfl)⟩
def yk {r:Rec}(h:Gk r):∀t∈jv r,kl t:=by
 have hwhen:∀s,kl s->∀t∈kN s,kl t:=fun s hs t ht=>by
  unfold kN at ht;split at ht
  .cases ht
  .obtain rfl:=cK.1 ht;refine gM fun w hw=>?_
   simp only[cb,eJ,or_false]at hw;rcases hw with rfl|rfl
   .exact I4 ox
   .exact hs
 intro t ht;unfold jv sy oH nG at ht;simp only[cb,List.mem_append,List.mem_flatten,ez]at ht;rcases ht with rfl|⟨_,⟨n,hn,rfl⟩,ht⟩|⟨_,⟨b,hb,rfl⟩,ht⟩|⟨f,hf,rfl⟩
 .refine gM fun w hw=>?_
  simp only[cb,eJ,or_false]at hw;rcases hw with rfl|rfl|rfl
  .exact I4 ug
  .exact I4 h.nm
  .exact I4 (xP h.v)
 .have hw:=h.n n hn;unfold xe at ht;simp only[cb,List.mem_append]at ht;rcases ht with rfl|ht|ht|ht
  .exact gM fun w hw=>by rw[cK.1 hw];exact I4 qw
  .obtain⟨w,hw2,rfl⟩:=ez.1 ht;have hww:=hw.a w hw2;rw[Ci];refine gM fun x hx=>?_
   rcases cb.1 hx with rfl|hx
   .exact I4 wC
   .rcases List.mem_append.1 hx with hx|hx
    .exact I4 (ve hww x hx)
    .rw[cK.1 hx];exact hww.rg.2
  .exact hwhen _ hw.w t ht
  .unfold nK at ht;split at ht
   .cases ht
   .rename_i hne;obtain rfl:=cK.1 ht;refine gM fun x hx=>?_
    simp only[cb,eJ,or_false]at hx;rcases hx with rfl|rfl
    .exact I4 sX
    .exact I4 (hw.o.resolve_left hne)
 .have hw:=h.b b hb;unfold C2 at ht;rcases cb.1 ht with rfl|ht
  .refine gM fun x hx=>?_
   simp only[cb,eJ,or_false]at hx;rcases hx with rfl|rfl|rfl
   .exact I4 sW
   .exact I4 hw.nm
   .exact hw.rg.2
  .exact hwhen _ hw.w t ht
 .have hw:=h.f f hf;refine gM fun x hx=>?_
  simp only[List.mem_append,cb,eJ,or_false]at hx;rcases hx with(rfl|rfl)|hx
  .exact I4 qv
  .exact I4 hw.nm
  .exact I4 (hw.o x hx)
theorem yA {ls:List au}(h:∀t∈ls,kl t):ai (jG ls) 10=ls++[[]]:=by
 rw[<-A1];refine kJ (x:=10) rfl aJ fun w hw c hc e=>?_
 rcases List.mem_append.1 hw with hw|hw
 .exact h w hw c hc (im.1 (by have:(10:UInt8).toNat=10:=rfl;omega))
 grind
def RF {l:List b7}(h:∀f∈l,QT f):hd (l.map k8)=none\/hd (l.map k8)=some b9:=by
 match l with
 |[]=>exact .inl rfl
 |f::r=>
  right;have hf:=h f (.head _);show some (fw (fj (b9::(f.name::f.of))))=_;rw[pV qv (fun x hx=>by
   rcases cb.1 hx with rfl|hx
   .exact hf.nm
   .exact hf.o x hx)]
theorem Tw {r:Rec}(h:Gk r):oX (jv r)=some (r,[]):=by
 have hf:=AJ h.f;have hfh:=RF h.f;have hb:=C4 (R:=r.feats.map k8) (by rcases hfh with e|e<;>rw[e]<;>decide) h.b;have hbh:=K9 (R:=r.feats.map k8) h.b;have h1:hd (nG r.bars++r.feats.map k8)=none\/hd (nG r.bars++r.feats.map k8)=some b9\/hd (nG r.bars++r.feats.map k8)=some fG:=by
  grind
 have hn:=Bf (R:=nG r.bars++r.feats.map k8) (by unfold SD;rcases h1 with e|e|e<;>rw[e]<;>decide) (by rcases h1 with e|e|e<;>rw[e]<;>decide) h.n;have hp:=qJ (n:=3) (w:=dN) (l:=[r.name,kf r.v]) (R:=sy r) ug (fun x hx=>by
  simp only[cb,eJ,or_false]at hx;rcases hx with rfl|rfl
  .exact h.nm
  .exact xP h.v) (.inr rfl)
 unfold oX jv;rw[hp];show(match gv (kf r.v)with|some v=>some (pO r.name v (sy r))|none=>none)=_;rw[Z0 h.v];show some (pO r.name r.v (sy r))=_;unfold pO sy;rw[hn,hb,hf]
def PK {r:Rec}(h:Gk r)(hc:cM r=(0,0)):cB (gC r)=(r,0,0):=by
 have hl:¬4096<(gC r).length:=by
  grind [cM]
 have hs:ai (gC r) 10=jv r++[[]]:=by rw[va];exact yA (yk h)
 have ht:(ai (gC r) 10).take ((ai (gC r) 10).length-1)=jv r:=by
  rw[hs];simp
 have hz:(ai (gC r) 10)[(ai (gC r) 10).length-1]! =[]:=by
  rw[hs];simp
 grind [gy,jv,Tw,cB]
end Go.Abs
end
namespace Go.Abs
def JU {w:au}(h:∀c∈w,c.toNat≠32/\c.toNat≠10):∀c∈w,c≠32/\c≠10:=fun c hc=>⟨fun e=>(h c hc).1 (by rw[e];rfl),fun e=>(h c hc).2 (by rw[e];rfl)⟩
theorem zf (n:Int):cr (fh n):=⟨(zj (rT n).1).1,JU (zj (rT n).1).2.2⟩
theorem Lr (n:Int):cr (mW n):=⟨Wv (rV n).1,JU fun c hc=>⟨(My (rV n).1 hc).1,(My (rV n).1 hc).2.1⟩⟩
def MA:(∀t∈Cm,cr t/\∀c∈t,c≠44)/\aS [44] Cm≠[45]/\aS [44] (Cm.take 1)≠[45]:=by unfold cr;decide
def Vm (l:List Int)(i own:Int)(al:Bool):Gp (mV l i own al):=by
 have hf:=qC l (i+1);obtain⟨_,_,c⟩:=wR l i own al;refine⟨zf _,⟨hf.2.2.1,hf.2.2.2⟩,fun t ht=>?_, ?_⟩
 .rcases c with e|e|e<;>rw[e]at ht
  .cases ht
  .exact MA.1 t (kD ht)
  .exact MA.1 t ht
 .rcases c with e|e|e<;>rw[e]
  .decide
  .exact MA.2.2
  .exact MA.2.1
def Vk (l:List Int)(i own:Int):Gg (iu l i own):=by
 refine⟨fun w hw=>?_,(oz l (i+14)).2.2, ?_⟩
 .obtain⟨q,_,rfl⟩:=ez.1 (show w∈uy l i own (gp l i)from hw);exact Vm _ _ _ _
 .rcases EY l i own with e|⟨n,e⟩
  .exact .inl e
  .exact .inr (by rw[e];exact Lr n)
def Y4 (l:List Int)(i own:Int):QG (AR l i own):=⟨zf _,⟨(qC l (i+47)).2.2.1,(qC l (i+47)).2.2.2⟩,(oz l (i+50)).2.2⟩
def Xi:∀k,k<4->cr nU[k]! :=by unfold cr;decide
theorem C9 {a b:au}(ha:cr a)(hb:∀c∈b,c≠32/\c≠10):cr (a++b):=⟨fun e=>ha.1 (List.append_eq_nil_iff.1 e).1,fun c hc=>(List.mem_append.1 hc).elim (ha.2 c) (hb c)⟩
def itG_W {l:List Int}{i:Int}{r:Rec}{t:au}(h:Z4 l i r t)(hr:NdG r):cr t:=by
 rcases h with⟨m,hm,h1,rfl⟩|⟨m,hm,h1,rfl⟩|⟨k,hk,_,rfl⟩
 .obtain⟨n,e⟩:=(hr m hm).1.resolve_left h1
  grind [C9,cr,Lr]
 .obtain⟨n,e⟩:=(hr m hm).2 h1
  grind [C9,zf]
 .exact Xi _ ae
def Y6 (l:List Int)(i own:Int):Gk (CF l i own):=by
 refine⟨zf own,(Lq l i).1,fun n hn=>?_,fun b hb=>?_,fun f hf=>?_⟩
 .obtain⟨k,rfl⟩:=vO (show n∈GX l i own (gK l i)from hn);exact Vk l k own
 .obtain rfl:=Dl (show b∈rS l i own from hb);exact Y4 l i own
 .obtain⟨k,hk,e,_,_,hi,_⟩:=qB (show f∈kp l (i+52) (pY l i own)from hf);exact⟨by rw[e];exact Xi k hk,fun t ht=>itG_W (hi t ht) (wQ l i own)⟩
def GK (x:jq)(l:List au):Option jq:=if 2<=l.length/\xp l l.length=true then some ⟨⟨x.r.name,x.r.v,x.r.needs,x.r.bars,x.r.feats++[⟨l[1]!,l.drop 2⟩]⟩,7⟩else none
def XR (Y:Ctx):Prop:=∀(x:jq) (l:List au),(∀w∈l,w.length<=1048576)->RdC Y 471 [.sl 1 (l.map D.str)] x (rX x l)
def XS (Y:Ctx):Prop:=∀(x:jq) (t:au),t.length<=1048576->(x.st=2->x.r.needs≠[])->tT x.r.needs<=1000000->x.r.needs.length<=1000000->RdC Y 472 [.str t] x (wx x t)
def XT (Y:Ctx):Prop:=∀(x:jq) (t:au),t.length<=1048576->(x.st=2->x.r.needs≠[])->(x.st=5->x.r.bars≠[])->x.r.needs.length<=1000000->x.r.bars.length<=1000000->RdC Y 473 [.str t] x (pz x t)
def XV (Y:Ctx):Prop:=∀(x:jq) (l:List au),l.length<=1048577->x.r.feats.length<=1000000->RdC Y 476 [.sl 1 (l.map D.str)] x (GK x l)
def EC {out:Option jq}{L:Nat}(h:uu 0 L (L+1) (L+2) (L+3)=true):YE out (.bool out.isSome) (wu out 0 L++[]):=by
 refine⟨rfl,fun y hy=>?_⟩;subst hy;refine⟨L,L+1,L+2,L+3,h, ?_⟩;simp only[uu,bd,de]at h;obtain⟨⟨⟨⟨⟨⟨⟨⟨⟨h1,h2⟩,h3⟩,h4⟩,h5⟩,h6⟩,h7⟩,h8⟩,h9⟩,h10⟩:=h;have ne:∀{a b:Nat},Nat.beq a b=false->¬a=b:=fun h e=>by subst e;simp at h
 rw[gX];unfold wu YD;constructor<;>simp only[look,aW,ne h1,ne h2,ne h3,ne h4,ne h5,ne h6,ne h7,ne h8,ne h9,ne h10,aX]
mutual
theorem YB:∀d:D,d.bJ=true->vi d d
 | .bq,_=>.inl rfl
 | .agg a,h=>⟨a,rfl,EB a h⟩
 | .any,h=>⟨rfl,h⟩
 | .bool b,h=>⟨rfl,h⟩
 | .int k n,h=>⟨rfl,h⟩
 | .str s,h=>⟨rfl,h⟩
 | .tup s,h=>⟨rfl,h⟩
 | .sl k s,h=>⟨rfl,h⟩
 | .ref k s i o,h=>⟨rfl,h⟩
 | .nilp,h=>⟨rfl,h⟩
 | .nilf,h=>⟨rfl,h⟩
 | .fn f c,h=>⟨rfl,h⟩
theorem EB:∀l:List D,bH l=true->EA l l
 |[],_=>rfl
 |d::r,h=>by
  simp only[bH,bC]at h;exact⟨d,r,rfl,YB d h.1,EB r h.2⟩
end
def Bd:D:=.agg [.bq,.str [],.str []]
def CZ (j:Nat):∀N:List bp,EA (N.map bp.D++[Bd]) (N.map bp.D++[lR j ⟨[],[],[]⟩])
 |[]=>⟨_,_,rfl,⟨_,rfl,⟨_,_,rfl,.inr ⟨_,_,_,rfl⟩,⟨_,_,rfl,⟨rfl,rfl⟩,⟨_,_,rfl,⟨rfl,rfl⟩,rfl⟩⟩⟩⟩,rfl⟩
 |a::r=>⟨_,_,rfl,⟨_,rfl,EB _ rfl⟩,CZ j r⟩
def DC:∀N:List bp,I5 (iV 2 4 (nr N) (eM 2 N)) (N.map bp.D)
 |[]=>.nil
 |[n]=>by
  have e:iV 2 4 (nr [n]) (eM 2 [n])=[.agg [.sl 4 (n.any.map bT.N),.str n.when',.str n.option]]:=by
   grind [eM,nr,lR,iV,iL,aN]
  rw[e];exact .cons (.ag (.cons (.ss (.map fun x _=>x.wk)) (.rf _))) .nil
 |a::b::r=>.cons (.refl _) (DC (b::r))
def mf {α:Type}{c:Prop} [Decidable c]{a y:α}(h:(if c then some a else none)=some y):c/\a=y:=by
 grind
def VB {α:Type}{c:Prop} [Decidable c]{a:α}:(if c then some a else none).isSome=decide c:=by
 grind
def LK {x:jq}{t:au}(h:x.st=0):eF x t=AY (ai t 32):=by unfold eF;simp only[h,aW]
def LL {x:jq}{t:au}(h0:x.st≠0)(h:(ai t 32)[0]! =ek):eF x t=if(ai t 32).length=1/\x.st<5 then some ⟨⟨x.r.name,x.r.v,x.r.needs++[⟨[],[],[]⟩],x.r.bars,x.r.feats⟩,2⟩else none:=by
 grind [eF]
def Sf {x:jq}{t:au}(h0:x.st≠0)(h:(ai t 32)[0]! =gA):eF x t=wx x t:=by
 have hw:=Cg
 grind [eF]
def LM {x:jq}{t:au}(h0:x.st≠0)(h:(ai t 32)[0]! =eG):eF x t=pz x t:=by
 have hw:=Cg
 grind [eF]
def Si {x:jq}{t:au}(h0:x.st≠0)(h:(ai t 32)[0]! =cU):eF x t=if xp (ai t 32) 2=true/\(x.st=2\/x.st=3)then some ⟨⟨x.r.name,x.r.v,gw x.r.needs fun n=>⟨n.any,n.when',(ai t 32)[1]!⟩,x.r.bars,x.r.feats⟩,4⟩else none:=by
 have hw:=Cg
 grind [eF]
def Sg {x:jq}{t:au}(h0:x.st≠0)(h:(ai t 32)[0]! =fG):eF x t=if(hE t 2).2.2=true/\x.st<=6 then some ⟨⟨x.r.name,x.r.v,x.r.needs,x.r.bars++[⟨(hE t 2).1[1]!,(hE t 2).2.1,[]⟩],x.r.feats⟩,5⟩else none:=by
 have hw:=Cg
 grind [eF,FF,hE]
def LJ {x:jq}{t:au}(h0:x.st≠0)(h:(ai t 32)[0]! =b9):eF x t=GK x (ai t 32):=by
 have hw:=Cg
 grind [eF,GK]
def Xh {x:jq}{t:au}(h0:x.st≠0)(h1:¬(ai t 32)[0]! =ek)(h2:¬(ai t 32)[0]! =gA)(h3:¬(ai t 32)[0]! =eG)(h4:¬(ai t 32)[0]! =cU)(h5:¬(ai t 32)[0]! =fG)(h6:¬(ai t 32)[0]! =b9):eF x t=none:=by
 grind [eF]
def XC (Y:Ctx):Prop:=∀(x:jq) (t:au),x.ok->x.sz<=900000->t.length<=1048576->RdC Y 224 [.str t] x (eF x t)
theorem CG {f:bp->bp}(l:List bp)(hf:∀n,(f n).any.length<=n.any.length+1):tT (gw l f)<=tT l+1:=by
 by_cases h:l=[]
 .subst h;simp[gw,tT]
 .obtain⟨a,x,rfl⟩:=tx h;rw[e7,qF,qF];exact hf x
theorem sF {α:Type}(l:List α)(f:α->α):(gw l f).length=l.length:=by
 by_cases h:l=[]
 .subst h;rfl
 .obtain⟨a,x,rfl⟩:=tx h;rw[e7];simp
def B3 {α:Type}{l:List α}(f:α->α)(h:l≠[]):gw l f≠[]:=by
 grind [sF]
def FN {x:jq}{nm:au}{v:cq}{st:Nat}(f:bp->bp)(hf:∀n,(f n).any.length<=n.any.length+1):(⟨⟨nm,v,gw x.r.needs f,x.r.bars,x.r.feats⟩,st⟩:jq).sz<=x.sz+1:=by
 grind [CG,jq.sz,sF]
def Wn {x y:jq}{t:au}(h:eF x t=some y)(hx:x.ok):y.ok/\y.sz<=x.sz+1:=by
 by_cases h0:x.st=0
 .rw[LK h0,<-Lt hx h0]at h;obtain⟨e1,e2,e3⟩:=hx.1 h0;unfold rX at h;split at h
  .split at h
   .obtain rfl:=bL h;refine⟨⟨fun h=>by simp at h,fun h=>by simp at h,fun h=>by simp at h⟩,Nat.le_succ _⟩
   .cases h
  .cases h
 by_cases h1:(ai t 32)[0]! =ek
 .rw[LL h0 h1]at h;obtain⟨_,rfl⟩:=mf h;refine⟨⟨fun h=>by simp at h,fun _=>aJ,fun h=>by simp at h⟩, ?_⟩;unfold jq.sz;rw[qF];simp only[bQ,aP,a8];omega
 by_cases h2:(ai t 32)[0]! =gA
 .rw[Sf h0 h2]at h;unfold wx at h;split at h
  .obtain⟨hc,rfl⟩:=mf h;refine⟨⟨fun h=>by simp at h,fun _=>B3 _ (hx.2.1 (.inl hc.1)),fun h=>by simp at h⟩,FN _ (fun n=>aJ)⟩
  .cases h
 by_cases h3:(ai t 32)[0]! =eG
 .rw[LM h0 h3]at h;unfold pz at h;split at h
  .split at h
   .rename_i hc;obtain rfl:=bL h;refine⟨⟨fun h=>by simp at h,fun _=>B3 _ (hx.2.1 (.inl hc)),fun h=>by simp at h⟩,FN _ (fun n=>aJ)⟩
   .obtain⟨hc,rfl⟩:=mf h;refine⟨⟨fun h=>by simp at h,fun h=>by simp at h,fun h=>by simp at h⟩, ?_⟩;unfold jq.sz;simp only[sF];omega
  .cases h
 by_cases h4:(ai t 32)[0]! =cU
 .rw[Si h0 h4]at h;obtain⟨hc,rfl⟩:=mf h;refine⟨⟨fun h=>by simp at h,fun h=>by simp at h,fun h=>by simp at h⟩,FN _ (fun n=>aJ)⟩
 by_cases h5:(ai t 32)[0]! =fG
 .rw[Sg h0 h5]at h;obtain⟨hc,rfl⟩:=mf h;refine⟨⟨fun h=>by simp at h,fun h=>by simp at h,fun _=>aJ⟩, ?_⟩;unfold jq.sz;simp only[bQ,aP,a8];omega
 by_cases h6:(ai t 32)[0]! =b9
 .rw[LJ h0 h6]at h;obtain⟨hc,rfl⟩:=mf h;refine⟨⟨fun h=>by simp at h,fun h=>by simp at h,fun h=>by simp at h⟩, ?_⟩;unfold jq.sz;simp only[bQ,aP,a8];omega
 rw[Xh h0 h1 h2 h3 h4 h5 h6]at h;cases h
abbrev oC (s:au):List au:=(ai s 10).take ((ai s 10).length-1)
abbrev uG (s:au):au:=(ai s 10)[(ai s 10).length-1]!
theorem BK {s:au}(h:¬4096<s.length):cB s=if(oX (oC s)).isSome=false\/(gy (oC s)).2≠[]\/uG s≠[]then(hH,2,(((oC s).length-(gy (oC s)).2.length:Nat):Int)+1)
  else if(cM (gy (oC s)).1).1≠0 then(hH,(cM (gy (oC s)).1).1,0)else((gy (oC s)).1,0,0):=by unfold cB;rw[ak h]
def HH {s:au}{x:jq}{i:Nat}(h:¬4096<s.length)(hi:i<=(oC s).length)(hr:mF v8 (oC s)=(x,(oC s).drop i))(hn:i<(oC s).length\/uG s≠[]):cB s=(hH,2,(i:Int)+1):=by
 rw[BK h];have ha:=FI (oC s);have hl:((oC s).drop i).length=(oC s).length-i:=jY
 grind [oX,gy,hH]
def Tv {s:au}{x:jq}(h:¬4096<s.length)(hr:mF v8 (oC s)=(x,[]))(h0:x.st=0):cB s=(hH,2,1):=by
 grind [FI,oX,gy,hH,BK]
def Wb {s:au}{x:jq}(h:¬4096<s.length)(hr:mF v8 (oC s)=(x,[]))(h0:x.st≠0)(hl:uG s=[]):fC x.r/\cB s=if(cM x.r).1≠0 then(hH,(cM x.r).1,0)else(x.r,0,0):=by
 have ha:=FI (oC s);cases hp:oX (oC s)with
 |none=>
  rw[hp]at ha;simp only at ha;rw[ha]at hr;simp only[eH]at hr;rw[<-hr.1]at h0;exact absurd rfl h0
 |some p=>
  obtain⟨r,rest⟩:=p;rw[hp]at ha;obtain⟨st,h1,ha⟩:=ha;rw[ha]at hr;simp only[eH]at hr;obtain⟨rfl,rfl⟩:=hr;have hv:gy (oC s)=(r,[]):=by unfold gy;rw[hp]
  have hlm:Cs (oC s):=fun t ht=>by
   have:=dT s 10 (kD ht);omega
  grind [Fu,BK]
theorem JP {s:au}(h:uG s=[]):az s=(oC s,true):=by unfold az;rw[aw h]
theorem Pe {s:au}(h:¬uG s=[]):az s=(oC s++[uG s],false):=by
 unfold az;rw[ak h];have hp:1<=(ai s 10).length:=er 10 s [];have:=(drop_one (l:=ai s 10) (n:=(ai s 10).length-1) ae).2;exact aj (fun l=>(l,false)) this
def xh (lo a b:Nat)(σ:List (Nat×Nat))(h:lU lo σ a=some b):∀N:List bp,oO lo σ (eM a N)=some (eM b N)
 |[]=>rfl
 |[n]=>by simp only[eM,lR,oO,ra,CR,h]
 |c::d::r=>by
  have:=xh lo a b σ h (d::r);have hc:ra lo σ (bp.D c)=some (bp.D c):=rfl;simp only[eM,oO,this,hc]
def Be (j:Nat):∀N:List bp,I5 (iV j 4 (nr N) (eM j N)) (N.map bp.D)
 |[]=>.nil
 |[n]=>by
  have e:iV j 4 (nr [n]) (eM j [n])=[.agg [.sl 4 (n.any.map bT.N),.str n.when',.str n.option]]:=by
   grind [eM,nr,lR,iV,iL,aN]
  rw[e];exact .cons (.ag (.cons (.ss (.map fun x _=>x.wk)) (.rf _))) .nil
 |a::b::r=>.cons (.refl _) (Be j (b::r))
def EV (l k:Nat)(es:List D)(N:List bp):iV l k es (N.map bp.D)=N.map bp.D:=qA l k es _ (br (fun _=>rfl) _)
def A4 (s:au):((az s).2=true/\uG s=[]/\(az s).1=oC s)\/((az s).2=false/\uG s≠[]/\(az s).1=oC s++[uG s]):=by
 by_cases h:uG s=[]
 .grind [JP]
 grind [Pe]
def DX {x:jq}{l:List au}{i:Nat}(h:i<l.length):l.drop i=l[i]! ::l.drop (i+1):=by
 rw[je h];simp[h]
def NT (T:List D->D->Prop):Prop:=∀(l:List au) (al:Bool),T [.sl 1 (l.map D.str),.bool al] (.bool (jN l al))
def C812 (Y:Ctx):Prop:=NT (bz Y 812)
def C669 (Y:Ctx):Prop:=zK (bz Y 669)
def C457 (Y:Ctx):Prop:=zB (bz Y 457)
def Nc (T:List D->D->Prop):Prop:=∀(r:Rec) (b:fA),(b.sm)->T [Rec.D r,fA.D b] (.int .i64 (pL r b))
def C458 (Y:Ctx):Prop:=Nc (bz Y 458)
def ND (T:List D->D->Prop):Prop:=∀(r:Rec) (x:au),T [Rec.D r,.str x] (.bool (Hw r.needs x))
def C673 (Y:Ctx):Prop:=ND (bz Y 673)
def NF (T:List D->D->Prop):Prop:=∀(r:Rec) (x:au),T [Rec.D r,.str x] (.bool (yq r.needs x))
def C674 (Y:Ctx):Prop:=NF (bz Y 674)
def Nf (T:List D->D->Prop):Prop:=∀(r:Rec) (of:List au),(∀t∈of,t.length<=1048576)->T [Rec.D r,.sl 1 (of.map D.str)] (.int .i64 (lj r of))
def C460 (Y:Ctx):Prop:=Nf (bz Y 460)
def ME (T:List D->D->Prop):Prop:=∀(r:Rec),(fC r)->T [Rec.D r] (.tup [.int .i64 (eY r).1,.int .i64 (eY r).2])
def C218 (Y:Ctx):Prop:=ME (bz Y 218)
def C71 (Y:Ctx):Prop:=F2 (bz Y 71)
def C77 (Y:Ctx):Prop:=F5 (bz Y 77)
end Go.Abs
section
namespace Go.Abs
structure cx where
 r:Rec
 sum:Int
 off:Bool
 deriving Inhabited,DecidableEq
def cx.D (x:cx):D:=.agg [.str x.r.name,.int .i64 x.r.v.major,.int .i64 x.r.v.minor,.int .i64 x.r.v.patch,.str x.r.v.pre,.str x.r.v.build,.sl 3 (x.r.needs.map bp.D),.sl 3 (x.r.bars.map fA.D),.sl 2 (x.r.feats.map b7.D),.int .u64 x.sum,.bool x.off]
structure fR where
 name:au
 es:List cx
 deriving Inhabited,DecidableEq
def fR.D (s:fR):D:=.agg [.str s.name,.sl 11 (s.es.map cx.D)]
def fE (a b:Int):Int:=if a<b then-1 else if b<a then 1 else 0
def Cz (a b:au):Int:=if Op.bytesLess a b=true then-1 else if a=b then 0 else 1
def tN (a b:au):Int:=if dd a=true/\dd b=true then fE (eg a) (eg b)else if dd a=true then-1 else if dd b=true then 1 else Cz a b
def Is (l m:List au):Nat->Nat->Int
 |_,0=>fE l.length m.length
 |i,k+1=>if tN l[i]! m[i]! ≠0 then tN l[i]! m[i]! else Is l m (i+1) k
def tX (l m:List au)(i:Nat):Int:=Is l m i (min l.length m.length-i)
def Ef {l m:List au}{i:Nat}(h:i<l.length/\i<m.length)(hn:tN l[i]! m[i]! ≠0):tX l m i=tN l[i]! m[i]! :=by
 unfold tX;rw[show min l.length m.length-i=(min l.length m.length-(i+1))+1 by omega,Is,aw hn]
def Ir {l m:List au}{i:Nat}(h:i<l.length/\i<m.length)(hn:tN l[i]! m[i]! =0):tX l m i=tX l m (i+1):=by
 unfold tX;rw[show min l.length m.length-i=(min l.length m.length-(i+1))+1 by omega,Is,ak (by rw[hn];simp)]
def Ee {l m:List au}{i:Nat}(h:l.length<=i\/m.length<=i):tX l m i=fE l.length m.length:=by
 unfold tX;rw[show min l.length m.length-i=0 by omega,Is]
def xr (a b:au):Int:=if a=b then 0 else if a=[]then 1 else if b=[]then-1 else tX (ai a 46) (ai b 46) 0
def pR (a b:cq):Int:=if e8 a=false\/e8 b=false then 0 else
 if fE a.major b.major≠0 then fE a.major b.major else if fE a.minor b.minor≠0 then fE a.minor b.minor else
 if fE a.patch b.patch≠0 then fE a.patch b.patch else xr a.pre b.pre
def xZ (v:cq):cq:=⟨v.major,v.minor,v.patch,v.pre,[]⟩
theorem Ov (a:Int):fE a a=0:=by simp[fE]
def wE {a b:Int}:fE a b=0↔a=b:=by
 grind [fE]
def Db {a b:cq}(h:xZ a=xZ b):pR a b=0:=by
 grind [xZ,pR,xr,Ov]
theorem RG (x y z:Int):fL (fun i=>[x,y,z][i]!) 0 [x,y,z].length=if x≠0 then x else if y≠0 then y else z:=by
 grind [fL,uq]
def RI {x y z:Int}(h:fL (fun i=>[x,y,z][i]!) 0 [x,y,z].length=0):x=0/\y=0/\z=0:=by
 grind [RG]
def RH {a b:cq}(hv:¬(e8 a=false\/e8 b=false))(h:¬fL (fun i=>[fE a.major b.major,fE a.minor b.minor,fE a.patch b.patch][i]!) 0 [fE a.major b.major,fE a.minor b.minor,fE a.patch b.patch].length=0):
  fL (fun i=>[fE a.major b.major,fE a.minor b.minor,fE a.patch b.patch][i]!) 0 [fE a.major b.major,fE a.minor b.minor,fE a.patch b.patch].length=pR a b:=by
 grind [RG,pR]
def Ro {a b:cq}(hv:¬(e8 a=false\/e8 b=false))(h1:fE a.major b.major=0)(h2:fE a.minor b.minor=0)(h3:fE a.patch b.patch=0):pR a b=xr a.pre b.pre:=by
 grind [pR]
def UY {a b:cq}(h1:fE a.major b.major=0)(h2:fE a.minor b.minor=0)(h3:fE a.patch b.patch=0)(h4:a.pre=b.pre):xZ a=xZ b:=by
 unfold xZ;rw[wE.1 h1,wE.1 h2,wE.1 h3,h4]
def Ox (a:cq):pR a a=0:=Db rfl
def Bn (a b:cq):Bool:=e8 a&&e8 b&&decide (pR a b=0)
def Pv {v:cq}(h:e8 v=true):Bn v v=true:=by simp[Bn,h,Ox]
def Ha (nm:au)(v:cq)(x:cx):Bool:=decide (x.r.name=nm)&&Bn x.r.v v
def Za {nm:au}{v:cq}{x:cx}(h:¬x.r.name=nm\/Bn x.r.v v=false):Ha nm v x=false:=by
 grind [Ha]
def VA {nm:au}{v:cq}{x:cx}(h:x.r.name=nm/\Bn x.r.v v=true):Ha nm v x=true:=by
 grind [Ha]
def tM (l:List cx)(nm:au)(v:cq)(i:Nat):Int:=match(l.drop i).findIdx? (Ha nm v)with
 |some k=>((i+k:Nat):Int)
 |none=>-1
def S2 {l:List cx}{nm:au}{v:cq}{i:Nat}(h:i<l.length)(he:Ha nm v l[i]! =true):tM l nm v i=(i:Nat):=by
 unfold tM;rw[je h,List.findIdx?_cons]
 grind
def S4 {l:List cx}{nm:au}{v:cq}{i:Nat}(h:i<l.length)(he:Ha nm v l[i]! =false):tM l nm v i=tM l nm v (i+1):=by
 unfold tM;have:Ha nm v l[i]=false:=by simpa[h]using he
 rw[je h,List.findIdx?_cons]
 grind
def L6 {l:List cx}{nm:au}{v:cq}{i:Nat}(h:l.length<=i):tM l nm v i=-1:=by
 unfold tM;rw[lM h];rfl
def pF (l:List cx)(i:Nat):Bool:=decide ((dw l[i]!.r).2=0)&&decide (m9 l[i]!.r=l[i]!.sum)&&decide (tM (l.take i) l[i]!.r.name l[i]!.r.v 0<0)
def kA (s:fR):Bool:=(dL s.name&&decide (s.es.length<=64))&&cS (pF s.es) 0 s.es.length
theorem BA {r:Rec}(h:(dw r).2=0):e8 r.v=true:=by
 grind [cM,dw,pe]
theorem S3 {l:List cx}{nm:au}{v:cq}:tM l nm v 0<0↔∀x∈l,Ha nm v x=false:=by
 grind [tM,Ha]
theorem DN {l:List cx}{i:Nat}(h:i<l.length)(hv:e8 l[i]!.r.v=true):decide (tM l l[i]!.r.name l[i]!.r.v 0=(i:Nat))=decide (tM (l.take i) l[i]!.r.name l[i]!.r.v 0<0):=by
 have hi:Ha l[i]!.r.name l[i]!.r.v l[i]! =true:=by unfold Ha;rw[Pv hv,ca rfl];rfl
 apply gY.2;rw[S3];constructor
 .intro he x hx;obtain⟨j,hj,rfl⟩:=List.mem_take_iff_getElem.1 hx;have hj2:j<i:=ae;unfold tM at he;rw[bZ]at he;cases hf:l.findIdx? (Ha l[i]!.r.name l[i]!.r.v)with
  |none=>rw[hf]at he;simp only at he;omega
  |some k=>
   rw[hf]at he;obtain⟨h1,h2,h3⟩:=List.findIdx?_eq_some_iff_getElem.1 hf;have hk:k=i:=by simp only at he;omega
   subst hk;have:=h3 j hj2;simpa using this
 .intro hx;unfold tM;rw[bZ];have:l.findIdx? (Ha l[i]!.r.name l[i]!.r.v)=some i:=by
   rw[List.findIdx?_eq_some_iff_getElem];refine⟨h,by simpa[h]using hi,fun j hj=>?_⟩;have:=hx l[j] (List.mem_take_iff_getElem.2 ⟨j,ae,rfl⟩);rw[this];decide
  rw[this];simp
def Rw {l:List cx}{i:Nat}(h:i<l.length)(h1:(dw l[i]!.r).2=0)(h2:m9 l[i]!.r=l[i]!.sum)(h3:tM l l[i]!.r.name l[i]!.r.v 0=(i:Nat)):pF l i=true:=by
 grind [DN,BA,pF]
def U4 {l:List cx}{i:Nat}(h:i<l.length)(h1:(¬(dw l[i]!.r).2=0\/¬m9 l[i]!.r=l[i]!.sum)\/¬tM l l[i]!.r.name l[i]!.r.v 0=(i:Nat)):pF l i=false:=by
 grind [pF,dw,m9,DN,BA]
def fN:au:=[115,104,101,108,102]
def gG:au:=[101,110,116,114,121]
def Ub:au:=[111,110]
def vc:au:=[111,102,102]
def tG (x:cx):List au:=[gG,fQ x.sum,if x.off=true then vc else Ub]
def EP (x:cx):au:=cw (tG x)++(dw x.r).1
def iU (s:fR):au:=cw [fN,s.name]++(s.es.map EP).flatten
def jd (s:fR):au×Int:=if kA s=false then([],1)else(iU s,0)
end Go.Abs
namespace Go.Abs
def vk (s:fR)(i:Nat):au:=cw [fN,s.name]++((s.es.take i).map EP).flatten
def T5 (s:fR):vk s 0=fN++[32]++s.name++[10]:=by simp[vk,cw,aS]
theorem Cb {s:fR}{i:Nat}(h:i<s.es.length):vk s (i+1)=vk s i++EP s.es[i]! :=by
 unfold vk;have e:s.es.take (i+1)=s.es.take i++[s.es[i]!]:=by
  rw[List.take_add_one,List.getElem?_eq_getElem h];simp[h]
 rw[e];simp
def FU (s:fR):vk s s.es.length=iU s:=by simp[vk,iU]
theorem uK (r:Rec):(dw r).1.length<=4096:=by
 grind [dw,cM,gC]
theorem ER (x:cx):EP x=gG++[32]++fQ x.sum++(if x.off=true then [32]++vc++[10]else [32]++Ub++[10])++(dw x.r).1:=by
 unfold EP tG cw;cases x.off<;>simp[aS]
theorem Ry (x:cx):(EP x).length<=4200:=by
 grind [uK,ig,ER,gG,Ub,vc]
def zx {s:fR}(hn:s.name.length<=100):∀{i:Nat},i<=s.es.length->(vk s i).length<=200+i*4200
 |0,_=>by rw[T5];simp[fN];omega
 |i+1,h=>by
  have h1:=zx hn (i:=i) ae
  grind [Ry,Cb]
def FK {s:fR}(h:kA s=true):s.name.length<=16/\s.es.length<=64:=by
 grind [kA,dL]
end Go.Abs
end
namespace Go.Abs
def iEtr (a b:cx):cx.D a=cx.D b↔a=b:=by
 obtain⟨⟨n,⟨v1,v2,v3,v4,v5⟩,x,y,z⟩,s,o⟩:=a;obtain⟨⟨n',⟨w1,w2,w3,w4,w5⟩,x',y',z'⟩,s',o'⟩:=b;simp[cx.D,JD,RZ,JC,and_assoc]
def Xb (a b:List cx):a.map cx.D=b.map cx.D↔a=b:=xc iEtr a b
def iShf (a b:fR):fR.D a=fR.D b↔a=b:=by cases a;cases b;simp[fR.D,Xb]
def Jr {A:RT->Prop}(h:A (fun ds d=>A fun ds' d'=>ds'=ds->d=d'):=by
 (repeat' first|apply And.intro|intro _)
 all_goals rename_i e
 all_goals (try simp only[oU,D.str.injEq,D.int.injEq,D.bool.injEq,D.sl.injEq,D.ref.injEq,D.agg.injEq,D.fn.injEq,O3,iInt,iByt,iVer,Xe,R0,Xd,JD,iBar,RZ,Xc,JC,iRec,Xb,iShf,iEtr,iCmp,Xa,iNd,iNds,Y8,iRng,iAlts,iMrk,iPr,iU8,im,Vx,cu,ct,reduceCtorEq,cX,cT]at e)
 all_goals first|rfl|(simp only[e];done)|simp_all):Det (E9 A):=YU h
def pre1 (b c:UInt8)(r:au):([b]:au).isPrefixOf (c::r)=(b==c):=by simp[List.isPrefixOf]
def Xf:Option Nat->Int
 |some k=>(k:Int)
 |none=>-1
theorem uB:∀(s:au) (b:UInt8),Lib.index s [b]=Xf (s.findIdx? (fun c=>c==b))
 |[],b=>rfl
 |c::r,b=>by
  unfold Lib.index;rw[pre1,List.findIdx?_cons,uB r b];by_cases h:c=b
  .subst h;simp[Xf]
  .have h1:(b==c)=false:=by simp[Ne.symm h]
   have h2:(c==b)=false:=by simp[h]
   simp only[h1,h2,fS,aX];cases r.findIdx? (fun c=>c==b)with
   |none=>rfl
   |some k=>
    grind [Xf]
def YS (s:au)(b:UInt8):Lib.cut s [b]=iD s b:=by
 unfold Lib.cut iD
 grind [uB,Xf]
def OD (s p:au):(Lib.trimPrefix s p,Lib.hasPrefix s p)=cV s p:=by
 unfold Lib.trimPrefix Lib.hasPrefix cV
 grind
def Hd (b:au):∀l,aS b l=Lib.join l b
 |[]=>rfl
 |[t]=>(Lib.join_one t b).symm
 |t::u::r=>by
  rw[gr _ _ _ aJ,Hd b (u::r),Lib.join_cons,Lib.join_cons];simp[Lib.joinTail]
def decDigits_eq (n:Nat):Lib.decDigits n=dJ n:=by
 induction n using Nat.strongRecOn with
 |_ n ih=>
  rw[Lib.decDigits];by_cases h:n<10
  .rw[dif_pos h,mK h];rfl
  .rw[dif_neg h,nP ae,ih (n/10) ae];rfl
def VF {n:Int}(h:0<=n):Lib.itoa n=dJ n.toNat:=by
 unfold Lib.itoa;rw[ak ae,decDigits_eq]
def qk (b:UInt8):∀(s cur:au),s.findIdx? (fun c=>c==b)=none->cE b.toNat s cur=[cur++s]
 |[],cur,_=>by simp[cE]
 |c::r,cur,h=>by
  rw[List.findIdx?_cons]at h;split at h
  .cases h
  .rename_i hc;have hr:r.findIdx? (fun c=>c==b)=none:=by
    cases hq:r.findIdx? (fun c=>c==b)with
    |none=>rfl
    |some k=>rw[hq]at h;cases h
   have hne:¬((c.toNat:Int)=(b.toNat:Int)):=fun e=>hc (by
    have:c.toNat=b.toNat:=ae;simp[im.1 this])
   simp only[cE,ak hne];rw[qk b r (cur++[c]) hr];simp
def oS (b:UInt8):∀(s cur:au) (k:Nat),s.findIdx? (fun c=>c==b)=some k->cE b.toNat s cur=(cur++s.take k)::cE b.toNat (s.drop (k+1)) []
 |[],cur,k,h=>by simp at h
 |c::r,cur,k,h=>by
  rw[List.findIdx?_cons]at h;split at h
  .grind [cE]
  .rename_i hc;have hne:¬((c.toNat:Int)=(b.toNat:Int)):=fun e=>hc (by
    have:c.toNat=b.toNat:=ae;simp[im.1 this])
   cases hq:r.findIdx? (fun c=>c==b)with
   |none=>rw[hq]at h;cases h
   |some j=>
    rw[hq]at h;have hk:k=j+1:=by simpa using h.symm
    subst hk;simp only[cE,ak hne];rw[oS b r (cur++[c]) j hq];simp
def D3 (b:UInt8):∀(k:Nat) (s:ByteArray),Lib.countB s ⟨⟨[b]⟩⟩=k->(Lib.splitB ⟨⟨[b]⟩⟩ 0 k s).map (fun t=>t.data.toList)=ai s.data.toList b.toNat:=by
 intro k;induction k with
 |zero=>
  intro s h;rw[Lib.splitB_zero];have hi:Lib.indexB s ⟨⟨[b]⟩⟩=Xf (s.data.toList.findIdx? (fun c=>c==b)):=uB _ b;cases hq:s.data.toList.findIdx? (fun c=>c==b)with
  |none=>simp[ai,qk b _ [] hq]
  |some j=>
   rw[hq]at hi;have:=Lib.countB_hit s ⟨⟨[b]⟩⟩ j (aL 1) hi;omega
 |succ k ih=>
  intro s h;have hi:Lib.indexB s ⟨⟨[b]⟩⟩=Xf (s.data.toList.findIdx? (fun c=>c==b)):=uB _ b;cases hq:s.data.toList.findIdx? (fun c=>c==b)with
  |none=>
   rw[hq]at hi;have:=Lib.countB_miss s ⟨⟨[b]⟩⟩ hi;omega
  |some j=>
   rw[hq]at hi;have h1:1<=(⟨⟨[b]⟩⟩:ByteArray).size:=aL 1;have hc:=Lib.countB_hit s ⟨⟨[b]⟩⟩ j h1 hi;rw[Lib.splitB_hit _ _ _ _ j hi];simp only[List.map_cons];rw[ih _ ae];have e1:(s.extract 0 (j+0)).data.toList=s.data.toList.take j:=by
    rw[Lib.extract_data];simp
   have e2:(s.extract (j+(⟨⟨[b]⟩⟩:ByteArray).size) s.size).data.toList=s.data.toList.drop (j+1):=by
    rw[Lib.extract_data];exact ee (by rw[jY,Lib.size_eq];exact aL _)
   rw[e1,e2];simp only[ai];rw[oS b _ [] j hq];simp
end Go.Abs
section
namespace Go.Abs
open Go.Proofs
def Im (sep:au)(k:Nat)(s:au)(h:Lib.index s sep=-1):Lib.splitK sep 0 k s=[s]:=by
 cases k with
 |zero=>rfl
 |succ k=>unfold Lib.splitK;rw[if_pos (beq_iff_eq.2 h)]
def KJ (sep:au)(k:Nat)(s:au)(i:Nat)(h:Lib.index s sep=i):Lib.splitK sep 0 (k+1) s=s.take i::Lib.splitK sep 0 k (s.drop (i+sep.length)):=by
 have hm:¬(Lib.index s sep==-1)=true:=fun e=>by have:=beq_iff_eq.1 e;omega
 have e:(Lib.index s sep).toNat=i:=by omega
 rw[Lib.splitK,if_neg hm,e];rfl
def ll (b:UInt8):∀(s cur:au),aS [b] (cE b.toNat s cur)=cur++s
 |[],cur=>by simp[cE,aS]
 |c::r,cur=>by
  unfold cE;split
  .rename_i h;have hc:c=b:=by
    have:c.toNat=b.toNat:=by omega
    exact UInt8.toNat_inj.1 this
   have hne:cE b.toNat r []≠[]:=om r b.toNat;rw[gr _ _ _ hne,ll b r [],hc];simp
  .rw[ll b r (cur++[c])];simp
def OC (a:au){l:List au}(k:Nat)(hl:l≠[]):rj (k+2) (a::l)=a::rj (k+1) l:=by
 grind [rj]
theorem Qn:∀(k:Nat) (s:au),Lib.splitK [32] 0 k s=rj (k+1) (ai s 32):=by
 intro k;induction k with
 |zero=>
  intro s;have hj:aS [32] (ai s 32)=s:=by
   have:=ll 32 s [];simpa[ai]using this
  unfold rj;split
  .rename_i h;show [s]=_;have hne:ai s 32≠[]:=om _ _
   match hq:ai s 32,hne,h with
   |[t],_,_=>rw[hq]at hj;rw[<-hj];rfl
   |_::_::_,_,h=>simp at h
  .simp only[Nat.zero_add,Nat.sub_self,List.take_zero,List.drop_zero,List.nil_append,hj];rfl
 |succ k ih=>
  intro s;have hi:=uB s 32;cases hq:s.findIdx? (fun c=>c==32)with
  |none=>
   rw[hq]at hi;have hs:ai s 32=[s]:=by have:=qk 32 s [] hq;simpa[ai]using this
   rw[Im _ _ _ hi,hs];rfl
  |some j=>
   rw[hq]at hi;have hs:ai s 32=s.take j::ai (s.drop (j+1)) 32:=by have:=oS 32 s [] j hq;simpa[ai]using this
   rw[KJ _ _ _ j hi,hs,OC _ _ (om _ _),ih];rfl
def KW (n:Nat)(h:1<=n)(s:au):Lib.splitK [32] 0 (min n (s.length+1) -1) s=mG (n:Int) s:=by
 grind [dm,Qn,mG,rj]
def pre2 (c d:UInt8)(r:au):([124,124]:au).isPrefixOf (c::d::r)=(decide (c=124)&&decide (d=124)):=by
 grind
theorem D5:∀(s cur:au),Lib.index s [124,124]=-1->aR s cur=[cur++s]
 |[],cur,_=>by simp[aR]
 |[c],cur,_=>rfl
 |c::d::r,cur,h=>by
  unfold Lib.index at h;rw[pre2]at h;by_cases h2:c=124/\d=124
  .simp[h2.1,h2.2]at h
  .have h3:(decide (c=124)&&decide (d=124))=false:=by rw[<-Bool.decide_and];exact decide_eq_false h2
   rw[h3,if_neg (by simp)]at h;have h4:Lib.index (d::r) [124,124]=-1:=by
    have:=Lib.index_ge (d::r) [124,124]
    grind
   rw[aR,if_neg h2,D5 (d::r) _ h4];simp
def D4:∀(s cur:au) (i:Nat),Lib.index s [124,124]=i->aR s cur=(cur++s.take i)::aR (s.drop (i+2)) []
 |[],cur,i,h=>by simp[Lib.index]at h
 |[c],cur,i,h=>by simp[Lib.index,List.isPrefixOf]at h
 |c::d::r,cur,i,h=>by
  unfold Lib.index at h;rw[pre2]at h;by_cases h2:c=124/\d=124
  .rw[h2.1,h2.2]at h;have hi:i=0:=by simp at h;omega
   subst hi;rw[aR,if_pos h2];simp
  .have h3:(decide (c=124)&&decide (d=124))=false:=by rw[<-Bool.decide_and];exact decide_eq_false h2
   rw[h3,if_neg (by simp)]at h;split at h
   .omega
   .obtain⟨j,rfl⟩:∃j,i=j+1:=⟨i-1,by
     have:=Lib.index_ge (d::r) [124,124];rename_i h5;have:Lib.index (d::r) [124,124]≠-1:=fun e=>h5 (beq_iff_eq.2 e)
     omega⟩
    rw[aR,if_neg h2,D4 (d::r) _ j (by omega)];simp
def Qm:∀(k:Nat) (s:ByteArray),Lib.countB s ⟨⟨[124,124]⟩⟩=k->(Lib.splitB ⟨⟨[124,124]⟩⟩ 0 k s).map (fun t=>t.data.toList)=aR s.data.toList []:=by
 intro k;induction k with
 |zero=>
  intro s h;rcases Lib.indexB_cases s ⟨⟨[124,124]⟩⟩with hi|⟨i,hi,_⟩
  .rw[Lib.splitB_zero]
   grind [D5]
  .have:=Lib.countB_hit s ⟨⟨[124,124]⟩⟩ i (by decide) hi;omega
 |succ k ih=>
  intro s h;rcases Lib.indexB_cases s ⟨⟨[124,124]⟩⟩with hi|⟨i,hi,_⟩
  .rw[Lib.countB_miss _ _ hi]at h;omega
  .have hc:=Lib.countB_hit s ⟨⟨[124,124]⟩⟩ i (by decide) hi;rw[Lib.splitB_hit _ _ _ _ i hi,List.map_cons,ih _ (by omega),D4 _ _ i (show Lib.index s.data.toList [124,124]=i from hi),Lib.extract_from_zero,Lib.extract_to_end];rfl
def Eg {p:UInt8->Bool}:∀(l:au),∀x∈l.takeWhile p,p x=true
 |[],x,h=>by cases h
 |a::r,x,h=>by
  rw[List.takeWhile_cons]at h;split at h
  .rename_i ha;rcases List.mem_cons.1 h with rfl|h
   .exact ha
   .exact Eg r x h
  .cases h
theorem wI {p:UInt8->Bool}:∀(l:au),(∀x∈l,p x=true)->l.dropWhile p=[]
 |[],_=>rfl
 |a::r,h=>by
  rw[List.dropWhile_cons,if_pos (h a (.head _))];exact wI r fun x hx=>h x (.tail _ hx)
def As:∀s,kW s=s.dropWhile (· ==32)
 |[]=>rfl
 |c::r=>by
  unfold kW;by_cases h:c=32
  .rw[if_pos h,As r];simp[h]
  .rw[if_neg h,List.dropWhile_cons,if_neg (by simpa using h)]
def Ri (s:au):Lib.trimB s 32=eO s:=by
 unfold Lib.trimB Lib.trimLeftB Lib.trimRightB eO;rw[As,As];generalize hp:(fun c:UInt8=>c==32)=p;have hs:s=s.takeWhile p++s.dropWhile p:=(List.takeWhile_append_dropWhile).symm;generalize ha:s.takeWhile p=a at hs;generalize hm:s.dropWhile p=m at hs;have hall:∀x∈a,p x=true:=by rw[<-ha];exact Eg s
 subst hs;rw[List.reverse_append,List.dropWhile_append];cases m with
 |nil=>
  grind [wI]
 |cons c r=>
  have hc:p c=false:=by
   have:=List.head_dropWhile_not p (l:=a++c::r) (by rw[hm];simp);simpa[hm]using this
  have hne:((c::r).reverse.dropWhile p)≠[]:=by
   rw[List.reverse_cons,List.dropWhile_append];split
   .simp[hc]
   .simp
  rw[if_neg (by simpa using hne),List.reverse_append,List.reverse_reverse,List.dropWhile_append,wI _ hall];simp only[List.isEmpty_nil,if_true];rw[List.reverse_cons,List.dropWhile_append];split
  .simp[hc]
  .simp[hc]
end Go.Abs
namespace Go.Proofs
open Go.Shelf Go.RowKit Go.Lib
set_option maxHeartbeats 1000000 in
theorem KK {P:Program}{J:Ren}(L:Lays.n147 P J)(hi9:(P.info? (J.t 9)).map (fun i=>(i.zero,i.size,i.bytes))=some (some (.string ByteArray.empty),1,16))(s sep:ByteArray)(m:Int)(w:World)
  (hs:s.size<4294967281) (hm:w.cell? ⟨(J.g 1),0,none⟩=some (.int .i64 m)) (h1:1<=sep.size):
  Calls P (J.f 147) #[.string s,.string sep,.int .i64 (-1)] w fun e w'=>
   e=.returned (.slice (some ⟨w.heap.size,0,none⟩) (Lib.splitB sep 0 (Lib.countB s sep) s).length (Lib.countB s sep+1))/\w'=w.alloc (.cells (Lib.cellsOf (Lib.splitB sep 0 (Lib.countB s sep) s) (Lib.countB s sep+1)) (J.t 9)):=by
 have hle:=Lib.countB_le sep h1 s.size s (Nat.le_refl _);have c:=Any.strings_genSplit {L with} hi9 s sep 0 (-1) (Lib.countB s sep+1) m w hs hm h1 (Nat.zero_le _) (by decide) (by decide) (by rw[if_pos (by decide)];omega);rw[Nat.add_sub_cancel]at c;have t3:=L.t3;have t9:=L.t9;have t31:=L.t31;have a3:=L.a3;have a9:=L.a9;have a31:=L.a31;have z3:=L.z3;have v3:=L.v3;have z9:=L.z9;have v9:=L.v9;have z31:=L.z31;have v31:=L.v31;have e221:∀args w,(callFunc (J.f 221) args).run P w=.ok (.enter (J.f 221) args) w:=enters_of L.f221 (by kernel_rfl) rfl
 go_enter L.f147,Body.n147_ntmps J
 go_wp2_with (go_at_fn (J.f 221);refine c.mono ?_;rintro e w' ⟨rfl,hw⟩;rw[hw])
 go_ret
 exact⟨rfl,rfl⟩
end Go.Proofs
end
