/- A part of the proofs. -/
import Derived.Test.YtdhangmdmdegpaaGreatDoorP09
set_option linter.all false
set_option maxRecDepth 60000
set_option maxHeartbeats 2000000
noncomputable section
namespace Go.Abs
variable {Y:Ctx}(hm:(Y.at 0).bU)
def IV:aj:=bd 225
def w70 (hA:Uj Y)(hB:Bn Y)(hC:C210 Y)(hD:C211 Y)(hE:C212 Y)(hF:C213 Y)(hG:C214 Y)(hH:C215 Y):Ad (ct Y IV):=λr hp0=>by
 show dD _ _ _ (⟨true,Rec.D r⟩::.un::.un::.un::.un::.un::.un::.un::.un::.un::.un::.un::.un::.un::.un::.un::.un::.un::.un::.un::.un::.un::.un::.un::.un::.un::.un::.un::.un::.un::.un::.un::.un::.un::.un::.un::.un::.un::.un::[]) ⟨0,[]⟩;refine aS ?_;refine zg ?_;refine wp_cond (λhc0=>?_) (λhc0=>?_)
 .try simp only[gR]at hc0
  refine zg ?_;refine fQ (bZ (ay (D.int .i64) ?_) (ay (D.int .i64) ?_));all_goals (have hq:c8 r=(4,0):=(by rw[c8,ak hc0]);rw[hq];first|done|rfl)
 simp only[cF]at hc0;refine dR ?_;refine aE (hc:=hB r.v hp0.1.2) ?_;refine zg ?_;refine wp_cond (λhc1=>?_) (λhc1=>?_)
 .try simp only[gR]at hc1
  refine zg ?_;refine fQ (bZ (ay (D.int .i64) ?_) (ay (D.int .i64) ?_));all_goals (have hq:c8 r=(5,0):=(by rw[c8,ah jT,ak hc1]);rw[hq];first|done|rfl)
 simp only[cF]at hc1;refine zg ?_;intro u0;refine B5 ?_ ?_<;>intro hc2
 .refine zg ?_;refine fQ (bZ (ay (D.int .i64) ?_) (ay (D.int .i64) ?_));all_goals (have hq:c8 r=(3,0):=(by rw[c8,ah jT,ah (by simp[hc1]),ak ae]);rw[hq];first|done|rfl)
 refine zg ?_;intro u1;refine gE hm (ι:=Nat) (λi=>(.un::.un::.un::⟨true,.ptr 0 9 0 0⟩::.un::.un::.un::⟨true,.int .i64 (i:Nat)⟩::⟨true,.int .i64 (r.needs.length:Nat)⟩::.un::⟨true,.sl 3 (r.needs.map bn.D)⟩::.un::.un::.un::.un::.un::.un::.un::.un::.un::.un::.un::.un::.un::.un::.un::.un::.un::.un::.un::.un::.un::.un::.un::.un::.un::.un::.un::.un::[])) (λi=>[(0,.buf 9 [Rec.D r])]) 28 (λi=>i<=r.needs.length/\lT r=gU (λi=>jM r r.needs[i]!) i r.needs.length) (λi=>r.needs.length-i) 0 ⟨ae,rfl⟩ (gtt [(0,0)]) ?_;rintro i ⟨hi,hr⟩;refine zc ?_ ?_<;>intro hc3
 .refine F3 ?_;refine aE (hc:=hC r r.needs[i]! (hp0.2.1 _ (aq ae))) ?_;refine zc ?_ ?_<;>intro hc4
  .refine zg ?_;refine fQ (bZ (ay (D.int .i64) ?_) (ay (D.int .i64) ?_));all_goals
    have hq:c8 r=(jM r r.needs[i]!,((i:Nat):Int)):=by
     exact qb hc0 hc1 ae ae (Nb (by rw[hr,gV ae hc4]) hc4) hc4
    rw[hq];first|done|rfl
  refine fX (i+1) [(0,0)] ?_;rw[hr,kE ae hc4]
 refine fA ?_;have hn0:lT r=(0,0):=by rw[hr,kD ae]
 refine zg ?_;intro u2;refine gE hm (ι:=Nat) (λi=>(.un::.un::.un::⟨true,.ptr 0 9 0 0⟩::.un::.un::.un::.un::.un::.un::.un::.un::.un::.un::.un::⟨true,.int .i64 (i:Nat)⟩::⟨true,.int .i64 (r.bars.length:Nat)⟩::.un::⟨true,.sl 3 (r.bars.map mR.D)⟩::.un::.un::.un::.un::.un::.un::.un::.un::.un::.un::.un::.un::.un::.un::.un::.un::.un::.un::.un::.un::[])) (λi=>[(0,.buf 9 [Rec.D r])]) 33 (λi=>i<=r.bars.length/\vo r=gU (λi=>sg r r.bars[i]!) i r.bars.length) (λi=>r.bars.length-i) 0 ⟨ae,rfl⟩ (gtt [(0,0)]) ?_;rintro i ⟨hi,hr⟩;refine zc ?_ ?_<;>intro hc5
 .refine iz ?_;refine dR ?_;refine aE (hc:=hD r r.bars[i]!.name r.bars[i]!.range (hp0.2.2.1 _ (aq ae)).2.1) ?_;refine zg ?_;refine aQ (λhc6=>?_) (λhc6=>?_)
  .simp only[b8,bR]at hc6;have hbe:sg r r.bars[i]! =gO r r.bars[i]!.name r.bars[i]!.range:=by rw[sg,ak hc6]
   refine zg ?_;refine fQ (bZ (ay (D.int .i64) ?_) (ay (D.int .i64) ?_));all_goals
    have hq:c8 r=(gO r r.bars[i]!.name r.bars[i]!.range,((i:Nat):Int)):=by
     exact qb hc0 hc1 ae ae (DR hn0 (by rw[hr,gV ae (by rw[hbe];exact hc6),hbe]) hc6) hc6
    rw[hq];first|done|rfl
  try simp only[gR]at hc6
  refine fA ?_;refine aE (hc:=hE r.bars[i]!.when' (hp0.2.2.1 _ (aq ae)).2.2) ?_;refine zg ?_;refine wp_cond (λhc7=>?_) (λhc7=>?_)
  .simp only[b8]at hc7;have hbe:sg r r.bars[i]! =7:=by rw[sg,ah (λh=>h hc6),ak hc7]
   refine zg ?_;refine fQ (bZ (ay (D.int .i64) ?_) (ay (D.int .i64) ?_));all_goals
    have hq:c8 r=((7:Int),((i:Nat):Int)):=by
     exact qb hc0 hc1 ae ae (DR hn0 (by rw[hr,gV ae (by rw[hbe];decide),hbe]) (show(7:Int)≠0 by decide)) (show(7:Int)≠0 by decide)
    rw[hq];first|done|rfl
  simp only[cF]at hc7;have hbz:sg r r.bars[i]! =0:=by rw[sg,ah (λh=>h hc6),ah (by rw[hc7];simp)]
  refine fX (i+1) [(0,0)] ?_;rw[hr,kE ae hbz]
 refine fA ?_;have hb0:vo r=(0,0):=by rw[hr,kD ae]
 refine c7 ?_;refine aE (hc:=hF r.feats hp0.2.2.2) ?_;refine zg ?_;refine aQ (λhc8=>?_) (λhc8=>?_)
 .try simp only[gR]at hc8
  refine zg ?_;refine fQ (bZ (ay (D.int .i64) ?_) (ay (D.int .i64) ?_));all_goals
   have hq:c8 r=(11,0):=by
    exact qb hc0 hc1 ae ae (Nc hn0 hb0 hc8) aX
   rw[hq];first|done|rfl
 simp only[cF]at hc8;refine zg ?_;intro u3;refine gE hm (ι:=Nat) (λi=>(.un::.un::.un::⟨true,.ptr 0 9 0 0⟩::.un::.un::.un::.un::.un::.un::.un::.un::.un::.un::.un::.un::.un::.un::.un::.un::.un::.un::.un::.un::.un::⟨true,.int .i64 (i:Nat)⟩::⟨true,.int .i64 (r.feats.length:Nat)⟩::.un::⟨true,.sl 2 (r.feats.map b7.D)⟩::.un::.un::.un::.un::.un::.un::.un::.un::.un::.un::[])) (λi=>[(0,.buf 9 [Rec.D r])]) 42 (λi=>i<=r.feats.length/\HT r=gU (λi=>mV r r.feats[i]!.of) i r.feats.length) (λi=>r.feats.length-i) 0 ⟨ae,rfl⟩ (gtt [(0,0)]) ?_;rintro i ⟨hi,hr⟩;refine zc ?_ ?_<;>intro hc9
 .refine zg ?_;intro u4;refine Ju hm (ι:=Nat) (λj=>(.un::.un::.un::⟨true,.ptr 0 9 0 0⟩::.un::.un::.un::.un::.un::.un::.un::.un::.un::.un::.un::.un::.un::.un::.un::.un::.un::.un::.un::.un::.un::⟨true,.int .i64 (i:Nat)⟩::⟨true,.int .i64 (r.feats.length:Nat)⟩::.un::⟨true,.sl 2 (r.feats.map b7.D)⟩::.un::⟨true,.int .i64 (j:Nat)⟩::⟨true,.int .i64 (r.feats[i]!.of.length:Nat)⟩::.un::⟨true,.sl 1 (r.feats[i]!.of.map D.str)⟩::.un::.un::.un::⟨true,.int .i64 (i:Nat)⟩::.un::[])) (λj=>[(0,.buf 9 [Rec.D r])]) 53 (λj=>j<=r.feats[i]!.of.length/\mV r r.feats[i]!.of=gh (λj=>oy r r.feats[i]!.of[j]!) j r.feats[i]!.of.length) (λj=>r.feats[i]!.of.length-j) 0 ⟨ae,rfl⟩ (gtt [(0,0)]) ?_;rintro j ⟨hj,hjr⟩;refine zc ?_ ?_<;>intro hc10
  .refine se ?_;refine aE (hc:=hG r r.feats[i]!.of[j]! (jz.it hp0.2.2.2 _ (aq ae) _ (aq ae))) ?_;refine zc ?_ ?_<;>intro hc11
   .refine zg ?_;refine fQ (bZ (ay (D.int .i64) ?_) (ay (D.int .i64) ?_));all_goals
     have hq:c8 r=(oy r r.feats[i]!.of[j]!,((i:Nat):Int)):=by
      have hie:mV r r.feats[i]!.of=oy r r.feats[i]!.of[j]! :=by rw[hjr,lO ae hc11]
      exact qb hc0 hc1 ae ae (yh hn0 hb0 hc8 (by rw[hr,gV (f:=(λi=>mV r r.feats[i]!.of)) ae (by rw[hie];exact hc11),hie])) hc11
     rw[hq];first|done|rfl
   refine fX (j+1) [(0,0)] ?_;rw[hjr,qf ae hc11]
  refine fX (i+1) [(0,0)] ?_;rw[hr,kE (f:=(λi=>mV r r.feats[i]!.of)) ae (by rw[hjr,qe ae])]
 refine fA ?_;have hpz:eD r=(0,0):=yh hn0 hb0 hc8 (by rw[hr,kD ae]);have hgd:Gr r:=⟨⟨hc0,hc1⟩,⟨ae,ae⟩,hpz⟩;refine mH ?_;refine aE (hc:=hH r ⟨hgd,hp0⟩) ?_;refine D2 λu5=>?_;specialize u5 rfl rfl
 refine pP ?_;refine bg (env':=(_::_::_::_::_::_::_::_::_::_::_::_::_::_::_::_::_::_::_::_::_::_::_::_::_::_::_::_::_::_::_::_::_::_::_::_::_::_::⟨_,(.bool _)⟩::[])) ?_;refine dF ?_ ?_<;>intro hc12
 .refine zg ?_;refine fQ (bZ (ay (D.int .i64) ?_) (ay (D.int .i64) ?_));all_goals
   have hq:c8 r=(3,0):=by
    rw[xr hc0 hc1 ae ae hpz,ak ae]
   rw[hq];first|done|rfl
 refine zg ?_;refine fQ (bZ (ay (D.int .i64) ?_) (ay (D.int .i64) ?_));all_goals
  have hq:c8 r=(0,0):=by
   rw[xr hc0 hc1 ae ae hpz,ah ae]
  rw[hq];first|done|rfl
def sZ:aj:=bd 75
def w582 (hm:(Y.at 3).bU)(y:cu)(ns:Ψ)(hA:C748 (Y.at 3))(hB:C749 (Y.at 3))(hp0:qP y/\kS y.e)(hp1:ns.length<=900):dD (Y.at 3) sZ.body (uV sZ (LH y (sV y 49 nM ns) (rp y)):Ex->Φ->St->Prop) (fV sZ [cu.D y (.ptr 0 2 0 0)]) ⟨3,[(0,.buf 2 [eS 1 2 ns.length]),(1,.buf 1 (ns.map D.str)),(2,.buf 1 (dn y ns))]⟩:=by
 show dD _ _ _ [⟨true,cu.D y (.ptr 0 2 0 0)⟩,.un,.un,.un,.un,.un,.un,.un,.un,.un,.un,.un,.un,.un,.un,.un,.un,.un,.un,.un,.un] ⟨3,[(0,.buf 2 [eS 1 2 ns.length]),(1,.buf 1 (ns.map D.str)),(2,.buf 1 (dn y ns))]⟩;refine aS ?_;refine j7 ?_;refine bc (Key.D eV) ?_;refine bm [Key.D eV] ?_;refine c7 ?_;refine bG 7 ?_ (he:=Hv) (hm:=Hv);refine c9 ?_;refine bc (Key.D eV) ?_;refine bm [Key.D eV] ?_;refine zg ?_;refine zfx hm (⟨0,nM,[eV],0,1,ns⟩:RcS) (λp=>[.u 3,.e (.own 10 2 p.o p.c),.u 1,.p 3 8,.u 10,.m 2 p.s.all Key.D,.u 4]) (λp=>[(0,.buf 2 [eS 5 6 p.nn.length]),(5,.buf 1 (p.nn.map D.str)),(6,.buf 1 (dn y p.nn)),(3,.buf 8 [cu.D y (.ptr 0 2 0 0)]),(10,.buf 2 (p.b.map Key.D))]) 20 (Uu y ns) (λp=>49-p.n) (ama y ns) [(1,5),(2,6),(3,3),(10,10)] ?_;rintro⟨n,s,b,o,c,nn⟩ hP;have hbf:=hP.2.2;have hnn:=hP.2.1.1;have hn48:=hP.1.1;have hI:=hP.1.2.1;dsimp only at hbf hnn hn48 hI⊢;obtain⟨hb1,pw,hb3⟩:=hbf;have hlen:=hI.len;refine zg ?_;intro _;refine dF ?_ ?_<;>intro hc0
 .refine fA ?_;refine GQ 0 (hj:=λ_=>rfl) (hb:=λ_=>ae) ?_;refine ym (q:=Key.D) (xs:=b) (v:=Key.D s.todo[0]!) (hi:=λ_=>ae) (hv:=λ_=>by rw[aiN pw ae];rfl) ?_;refine j7 ?_;refine Nr 1 (hb:=λ_=>ae) ?_;refine kv ?_;refine dT (nx':=33) (v:=.sl 1 ((cJ y s.todo[0]!).map ed)) (m':=[(33,.buf 1 ((jD nn s.todo[0]!).map D.str)),(34,.buf 1 (dn y (jD nn s.todo[0]!))),(0,.buf 2 [eS 33 34 (jD nn s.todo[0]!).length]),(3,.buf 8 [cu.D y (.ptr 0 2 0 0)]),(10,.buf 2 (b.map Key.D)),(26,.buf 2 [Key.D s.todo[0]!])]) (hc:=λK' hK=>hA y nn s.todo[0]! hp0 ae _ 0 5 6 _ K' eL eL eL aX ⟨rfl,rfl,rfl⟩ hK) (hn:=aX) ?_;refine zg ?_;intro u0;refine zfx hm (⟨0,⟨s.all,s.todo.drop 1⟩,b,o+1,c-1⟩:RcT) (λp=>[.u 3,.e (.own 10 2 p.o p.c),.u 1,.p 3 8,.u 1,.i p.i,.i ((cJ y s.todo[0]!).length:Nat),.u 1,.m 1 (cJ y s.todo[0]!) ed,.u 5,.m 2 p.t.all Key.D,.u 4]) (λp=>[(0,.buf 2 [eS 5 6 (jD nn s.todo[0]!).length]),(5,.buf 1 ((jD nn s.todo[0]!).map D.str)),(6,.buf 1 (dn y (jD nn s.todo[0]!))),(3,.buf 8 [cu.D y (.ptr 0 2 0 0)]),(10,.buf 2 (p.b.map Key.D))]) 40 (Uw y s) (λp=>(cJ y s.todo[0]!).length-p.i) (ams y hb1 pw hb3 ae hlen.2 hlen.1) [(33,5),(34,6),(3,3),(10,10)] ?_;rintro⟨i,t,b1,o1,c1⟩ hT;have hT2:=hT;obtain⟨hi,ht,⟨hb4,hb5,hb6⟩,hta⟩:=hT2;dsimp only at hi ht hb4 hb5 hb6 hta⊢;refine zc ?_ ?_<;>intro hc1
  .refine dR ?_;have hro:=aba hp0.1.p s.todo[0]!;have hrl:=hro.2 _ (aq (show i<(cJ y s.todo[0]!).length by omega));refine c9 ?_;refine dj (v:=.sl 4 ((cJ y s.todo[0]!)[i]!.map jv.D)) (hi:=λ_=>ae) ?_;refine zg ?_;intro u1;refine zfxL hm (⟨0,t,b1,o1,c1⟩:RcU) (λp=>[.u 3,.e (.own 10 2 p.o p.c),.u 1,.p 3 8,.u 1,.i i,.i ((cJ y s.todo[0]!).length:Nat),.u 1,.m 1 (cJ y s.todo[0]!) ed,.u 1,.i p.j,.i ((cJ y s.todo[0]!)[i]!.length:Nat),.u 1,.m 4 (cJ y s.todo[0]!)[i]! jv.D,.m 2 p.u.all Key.D,.u 4]) (λp=>[(0,.buf 2 [eS 5 6 (jD nn s.todo[0]!).length]),(5,.buf 1 ((jD nn s.todo[0]!).map D.str)),(6,.buf 1 (dn y (jD nn s.todo[0]!))),(3,.buf 8 [cu.D y (.ptr 0 2 0 0)]),(10,.buf 2 (p.b.map Key.D))]) 60 (O8 (cJ y s.todo[0]!)[i]! t i) (λp=>(cJ y s.todo[0]!)[i]!.length-p.j) (amx _ hb4 hb5 hb6 hta) [(3,3),(5,5),(6,6),(10,10)] ?_;rintro⟨j,u,b2,o2,c2⟩ hU;have hU2:=hU;obtain⟨hj,hu,⟨hb7,hb8,hb9⟩,hua⟩:=hU2;dsimp only at hj hu hb7 hb8 hb9 hua⊢;refine zc ?_ ?_<;>intro hc2
   .refine kv ?_;refine cE _ ?_;refine zg ?_;intro u2 u3;refine B5 ?_ ?_<;>intro hc3
    .refine Jw ?_;refine bm [Key.D (cJ y s.todo[0]!)[i]![j]!.k] ?_;refine yk ((u.todo++[(cJ y s.todo[0]!)[i]![j]!.k]).map Key.D) (n:=c2+1) (ha:=mb) (he:=n9.all rfl rfl) (hz:=aiM hb7 hb8 _) (hn:=rfl) (hb:=ae) ?_;refine zg ?_;exact⟨⟨j+1,_,(u.todo++[(cJ y s.todo[0]!)[i]![j]!.k]),0,c2+1⟩,(amz hU ae ae),mQ,(a8.to [(3,3),(5,5),(6,6),(84,10)] ai ai eQ (by repeat(first|exact bB.nil|refine bB.By ai ai eo ?_|refine bB.OW ai ai ai ?_|refine bB.OX ai ai ai ai ?_|refine bB.By ai ai (by exact jo _ _) ?_|refine bB.nl 3 ai ai ai rI ?_|refine bB.eq 3 ai ai ai ?_|refine bB.nl 5 ai ai ai rI ?_|refine bB.eq 5 ai ai ai ?_|refine bB.nl 6 ai ai ai rI ?_|refine bB.eq 6 ai ai ai ?_|refine bB.nl 84 ai ai ai rI ?_|refine bB.eq 84 ai ai ai ?_)))⟩
    refine zg ?_;exact⟨⟨j+1,u,b2,o2,c2⟩,(amy hU ae ae),mQ,(a8.to [(3,3),(5,5),(6,6),(10,10)] ai ai eQ aci)⟩
   refine zg ?_;exact⟨⟨i+1,u,b2,o2,c2⟩,(amt hT hU ae ae hrl.2),mQ,(a8.to [(3,3),(5,5),(6,6),(10,10)] ai ai eQ aci)⟩
  refine zg ?_;intro u4;refine B5 ?_ ?_<;>intro hc4
  .refine fA ?_;refine iu (a8.nz _ [_,⟨true,.sl 2 []⟩,_,_,_,_,_,_,_,_,_,_,_,_,_,_,_,_,_,_,_] _ _ [(0,.buf 2 [eS 5 6 ((jD nn s.todo[0]!)).length]),(5,.buf 1 (((jD nn s.todo[0]!)).map D.str)),(6,.buf 1 (dn y ((jD nn s.todo[0]!))))] ⟨⟨rfl,.refl _⟩,⟨rfl,.nil 2⟩,⟨rfl,.refl _⟩,⟨rfl,.refl _⟩,⟨rfl,.refl _⟩,⟨rfl,.refl _⟩,⟨rfl,.refl _⟩,⟨rfl,.refl _⟩,⟨rfl,.refl _⟩,⟨rfl,.refl _⟩,⟨rfl,.refl _⟩,⟨rfl,.refl _⟩,⟨rfl,.refl _⟩,⟨rfl,.refl _⟩,⟨rfl,.refl _⟩,⟨rfl,.refl _⟩,⟨rfl,.refl _⟩,⟨rfl,.refl _⟩,⟨rfl,.refl _⟩,⟨rfl,.refl _⟩,⟨rfl,.refl _⟩,trivial⟩ (.id ai (.id ai (.id ai .nil)))) ?_;refine zg ?_;refine eB trivial jJ (dp ai (?_)) ai ⟨by first|(rw[(D5 hP hT ae ae ae).1];done)|(rw[(D5 hP hT ae ae ae).1];exact rfl),5,6,⟨ae,ae,ae⟩,by rw[(D5 hP hT ae ae ae).2];exact tx⟩;rfl
  refine zg ?_;exact⟨⟨n+1,t,b1,o1,c1,(jD nn s.todo[0]!)⟩,(amb hP hT ae ae ae),mQ,(a8.to [(3,3),(5,5),(6,6),(10,10)] ai ai eQ aci)⟩
 refine zg ?_;refine eB trivial jJ (dp ai (?_)) ai ⟨by first|(rw[(zP hP ae).1];done)|(rw[(zP hP ae).1];exact rfl),5,6,⟨ae,ae,ae⟩,by rw[(zP hP ae).2];exact tx⟩;rfl
def Qr:aj:=⟨2,15,[⟨2,none⟩],H0,(sq (rg [gb 9 s0,gb 9 s1,gm HO] [(3,0),(4,1),(2,2)]) (sq (sq (r1 [gf 0 s3,gd l0,gf 0 s4,gd l2,mX l1 l3,gm l4,Bw 5 1 s3,nX 5 (.ld 5 true l6),Bw 5 1 s4,nX 5 (.ld 5 true l8),nX 5 (.eqA true true [.i .i64,.i .i64,.i .i64,.s,.s] l7 l9),HY l5 l10,gm Wy,Bw 12 6 s3,Gp 12 l13,nX 12 (.len l14),Bw 12 6 s4,Gp 12 l16,nX 12 (.len l17),nX 12 (F8 l15 l18),HY l12 l19,gm l20,Bw 21 7 s3,Gp 21 l22,nX 21 (.len l23),Bw 21 7 s4,Gp 21 l25,nX 21 (.len l26),nX 21 (F8 l24 l27),HY l21 l28,gm l29,Bw 30 8 s3,Gp 30 l31,nX 30 (.len l32),Bw 30 8 s4,Gp 30 l34,nX 30 (.len l35),nX 30 (F8 l33 l36),HY l30 l37] 5 38) (.cond s5 (sq (r1 [gm HO] 2 0) .ret) .skip)) (sq (sq (r1 [gm vx] 6 0) (.block 0 (.loop (sq (sq (r1 [gm s6,gf 6 s3,gd l1,gl l2,kj l0 l3] 7 4) (UT s7 0)) (sq (.block 1 (sq (r2 [gf 6 s3,gd l0,gm s6,ga 3 l1 l2,gk 3 true l3,gf 6 s4,gd l5,gm s6,ga 3 l6 l7,gk 3 true l8,gx 225 [l4,l9] [[.sl 4 [.a,.a,.sl 1 [.a],.a],.a,.a],[.sl 4 [.a,.a,.sl 1 [.a],.a],.a,.a]],gno l10] 8 11) (.cond s8 (sq (r1 [gm HO] 2 0) .ret) .skip))) (r1 [gm s6,lS l0 Mq,gm l1] 6 2)))))) (sq (sq (r1 [gm vx] 9 0) (.block 2 (.loop (sq (sq (r1 [gm s9,gf 7 s3,gd l1,gl l2,kj l0 l3] 10 4) (UT TE 2)) (sq (.block 3 (sq (r2 [gf 7 s3,gd l0,gm s9,ga 3 l1 l2,gk 3 true l3,gf 7 s4,gd l5,gm s9,ga 3 l6 l7,gk 3 true l8,gn (.eqA true true [.s,.s,.s] l4 l9)] 11 10) (.cond s11 (sq (r1 [gm HO] 2 0) .ret) .skip))) (r1 [gm s9,lS l0 Mq,gm l1] 9 2)))))) (sq (sq (r1 [gm vx] 12 0) (.block 4 (.loop (sq (sq (r1 [gm Of,gf 8 s3,gd l1,gl l2,kj l0 l3] 13 4) (UT s13 4)) (sq (.block 5 (sq (r2 [gf 8 s3,gd l0,gm Of,ga 2 l1 l2,gf 0 l3,gd l4,gf 8 s4,gd l6,gm Of,ga 2 l7 l8,gf 0 l9,gd l10,mX l5 Wy,gm l12,Bw 13 8 s3,Gp 13 l14,gmf 13 Of,nX 13 (.ia 2 l15 l16),Bw 13 1 l17,Gp 13 l18,Bw 13 8 s4,Gp 13 l20,gmf 13 Of,nX 13 (.ia 2 l21 l22),Bw 13 1 l23,Gp 13 l24,nX 13 (.call 226 [l19,l25] [[.sl 1 [.a]],[.sl 1 [.a]]]),nX 13 (.un .not l26),HY l13 l27] 14 28) (.cond s14 (sq (r1 [gm HO] 2 0) .ret) .skip))) (r1 [gm Of,lS l0 Mq,gm l1] 12 2)))))) (sq (r1 [gm cbT] 2 0) .ret))))))⟩
def w78 (hA:C225 Y)(hB:C226 Y):Rx (ct Y Qr):=λa b=>by
 refine zg ?_;refine aQ (λhc0=>?_) (λhc0=>?_)
 .simp only[dk,b8,bR]at hc0;refine zr ?_;symm;rw[bR];rintro rfl;simp at hc0
 simp only[eg,cF,aT]at hc0;refine zg ?_;have hb:=oP (show a.needs.length=b.needs.length by omega);refine zf hm (λi=>[.u 3,.p 0 9,.p 1 9,.u 1,.i i,.u 8]) (λi=>[(0,.buf 9 [Rec.D a]),(1,.buf 9 [Rec.D b])]) 43 (λi=>i<=a.needs.length/\decide (a.needs=b.needs)=bK (λi=>decide (a.needs[i]! =b.needs[i]!)) i a.needs.length) (λi=>a.needs.length-i) ⟨ae,hb⟩ [(0,0),(1,1)] ?_;rintro i ⟨hi,hr⟩;refine zg ?_;intro u0;refine dF ?_ ?_<;>intro hc1
 .refine zg ?_;refine wp_cond (λhc2=>?_) (λhc2=>?_)
  .simp only[b8,bR]at hc2;refine zr ?_;have hd:decide (a.needs=b.needs)=false:=by rw[hr,ax ae,bA hc2];rfl
   rw[Rec.Bi a b,hd];simp
  simp only[cF,aT]at hc2;refine fX (i+1) [(0,0),(1,1)] ?_;rw[hr,ax ae,aY hc2];rfl
 refine fA ?_;have hn:decide (a.needs=b.needs)=true:=by rw[hr,bp ae]
 refine zg ?_;have hb:=oP (show a.bars.length=b.bars.length by omega);refine zf hm (λi=>[.u 3,.p 0 9,.p 1 9,.u 4,.i i,.u 5]) (λi=>[(0,.buf 9 [Rec.D a]),(1,.buf 9 [Rec.D b])]) 49 (λi=>i<=a.bars.length/\decide (a.bars=b.bars)=bK (λi=>decide (a.bars[i]! =b.bars[i]!)) i a.bars.length) (λi=>a.bars.length-i) ⟨ae,hb⟩ [(0,0),(1,1)] ?_;rintro i ⟨hi,hr⟩;refine zg ?_;intro u1;refine dF ?_ ?_<;>intro hc3
 .refine zg ?_;refine wp_cond (λhc4=>?_) (λhc4=>?_)
  .simp only[b8,bR]at hc4;refine zr ?_;have hd:decide (a.bars=b.bars)=false:=by rw[hr,ax ae,bA hc4];rfl
   rw[Rec.Bi a b,hd];simp
  simp only[cF,aT]at hc4;refine fX (i+1) [(0,0),(1,1)] ?_;rw[hr,ax ae,aY hc4];rfl
 refine fA ?_;have hbr:decide (a.bars=b.bars)=true:=by rw[hr,bp ae]
 refine zg ?_;have hb:=oP (show a.feats.length=b.feats.length by omega);refine zf hm (λi=>[.u 3,.p 0 9,.p 1 9,.u 7,.i i,.u 2]) (λi=>[(0,.buf 9 [Rec.D a]),(1,.buf 9 [Rec.D b])]) 55 (λi=>i<=a.feats.length/\decide (a.feats=b.feats)=bK (λi=>decide (a.feats[i]! =b.feats[i]!)) i a.feats.length) (λi=>a.feats.length-i) ⟨ae,hb⟩ [(0,0),(1,1)] ?_;rintro i ⟨hi,hr⟩;refine zg ?_;intro u2;refine dF ?_ ?_<;>intro hc5
 .refine zg ?_;refine wp_cond (λhc6=>?_) (λhc6=>?_)
  .simp only[dk,b8,bR]at hc6;replace hc6:¬a.feats[i]! =b.feats[i]! :=λe=>by rw[e]at hc6;simp at hc6
   refine zr ?_;have hd:decide (a.feats=b.feats)=false:=by rw[hr,ax ae,bA hc6];rfl
   rw[Rec.Bi a b,hd];simp
  simp only[eg,cF,aT]at hc6;replace hc6:a.feats[i]! =b.feats[i]! :=b7.eq2 hc6.1 hc6.2;refine fX (i+1) [(0,0),(1,1)] ?_;rw[hr,ax ae,aY hc6];rfl
 refine zr ?_;have hf:decide (a.feats=b.feats)=true:=by rw[hr,bp ae]
 rw[Rec.Bi a b,hn,hbr,hf,aY hc0.1.1.1.1,aY hc0.1.1.1.2];rfl
def I2:aj:=bd 62
def w506 (hA:WK Y)(hB:C629 Y):Ko (ct Y I2):=λw c hp0=>by
 refine zc ?_ ?_<;>intro hc0
 .refine zr ?_;rw[ak5 hc0];rfl
 refine c7 ?_;obtain⟨hcl,⟨hc1,hc48⟩,hcw⟩:=DF hc0;refine c7 ?_;intro u0;refine ag5 c.length ?_;refine j7 ?_;refine cD 0 (hj:=λ_=>rfl) (hb:=λ_=>ae) ?_;refine c7 ?_;refine GQ 0 (hj:=λ_=>rfl) (hb:=λ_=>ae) ?_;refine sU ((kM c).map D.bool) (hi:=by rw[List.length_replicate];omega) (he:=aeW ae) ?_;refine zg ?_;refine zf hm (λi=>[.u 1,.m 1 c (D.int .i64),.u 1,.p 1 1,.u 1,.o 0 1 c.length,.i i,.u 14]) (λi=>[(0,.buf 1 ((j3 w c i (kM c)).map D.bool)),(1,.buf 1 [bP.D w])]) 18 (λi=>i<=c.length) (λi=>c.length-i) ae [(8,0),(0,1)] ?_;intro i hi;have hI0:=S0 (w:=w) i (aeV (c:=c));refine zg ?_;intro u1;refine dF ?_ ?_<;>intro hc1
 .refine zg ?_;refine zfL hm (λj=>[.u 1,.m 1 c (D.int .i64),.u 1,.p 1 1,.u 1,.o 0 1 c.length,.i i,.u 1,.i j,.u 12]) (λj=>[(0,.buf 1 ((iP w c j (j3 w c i (kM c))).map D.bool)),(1,.buf 1 [bP.D w])]) 23 (λj=>j<=c.length) (λj=>c.length-j) ae [(0,0),(1,1)] ?_;intro j hj;have hI1:=Ce (w:=w) j hI0;have hl1:=hI1.1;refine zg ?_;intro u2;refine dF ?_ ?_<;>intro hc2
  .refine pW ?_;refine ym (q:=D.bool) (xs:=(iP w c j (j3 w c i (kM c)))) (v:=.bool (iP w c j (j3 w c i (kM c)))[j]!) (hi:=λ_=>ae) (hv:=λ_=>uT) ?_;refine zc ?_ ?_<;>intro hc3
   .refine zg ?_;rw[<-ak1 (w:=w) (c:=c) (is:=(j3 w c i (kM c))) (j:=j) (by rw[hc3];simp)];exact iw (j+1) [(0,0),(1,1)]
   refine c7 ?_;have hcj:=hI1.2 j hc3;have hml:eK w=true/\sF w c=true:=by unfold dw at hc0;simpa using hc0
   obtain⟨⟨hcj2,hcje⟩,⟨hn24,_⟩,hmw,_⟩:=Cj (w:=w) (c:=c) (u:=j) ⟨⟨hp0,hml.1⟩,hml.2,ae,hcj⟩;refine F1 ?_;refine dj (v:=.sl 1 ((aW w c j).needs.map jP)) (hi:=λ_=>ae) ?_;refine zg ?_;refine zfL hm (λk=>[.u 1,.m 1 c (D.int .i64),.u 1,.p 1 1,.u 1,.o 0 1 c.length,.i i,.u 1,.i j,.u 2,.i k,.i ((aW w c j).needs.length:Nat),.u 1,.m 1 (aW w c j).needs jP,.u 6]) (λk=>[(0,.buf 1 ((wz w c (iP w c j (j3 w c i (kM c))) ((aW w c j).needs.take k)).map D.bool)),(1,.buf 1 [bP.D w])]) 47 (λk=>k<=(aW w c j).needs.length) (λk=>(aW w c j).needs.length-k) ae [(0,0),(1,1)] ?_;intro k hk;have hI2:=Iq (w:=w) ((aW w c j).needs.take k) hI1;refine zc ?_ ?_<;>intro hc4
   .refine fA ?_;refine dj (v:=.sl 3 ((aW w c j).needs[k]!.map Want.D)) (hi:=λ_=>ae) ?_;refine zg ?_;intro u3;refine zfL hm (λq=>[.u 1,.m 1 c (D.int .i64),.u 1,.p 1 1,.u 1,.o 0 1 c.length,.i i,.u 1,.i j,.u 2,.i k,.i ((aW w c j).needs.length:Nat),.u 1,.m 1 (aW w c j).needs jP,.u 1,.i q,.i ((aW w c j).needs[k]!.length:Nat),.u 1,.m 3 (aW w c j).needs[k]! Want.D,.u 1]) (λq=>[(0,.buf 1 ((u6 w c (wz w c (iP w c j (j3 w c i (kM c))) ((aW w c j).needs.take k)) ((aW w c j).needs[k]!.take q)).map D.bool)),(1,.buf 1 [bP.D w])]) 54 (λq=>q<=(aW w c j).needs[k]!.length) (λq=>(aW w c j).needs[k]!.length-q) ae [(0,0),(1,1)] ?_;intro q hq;have hI3:=Ir (w:=w) ((aW w c j).needs[k]!.take q) hI2;have hl3:=hI3.1;refine zc ?_ ?_<;>intro hc5
    .refine dR ?_;have hmx:=hmw _ (aq (show k<(aW w c j).needs.length by omega)) _ (aq (show q<(aW w c j).needs[k]!.length by omega));have hxu:=hmx.2.1;refine dR ?_;refine cE _ ?_;refine yZ ?_;refine ym (q:=D.bool) (xs:=(u6 w c (wz w c (iP w c j (j3 w c i (kM c))) ((aW w c j).needs.take k)) ((aW w c j).needs[k]!.take q))) (v:=.bool (u6 w c (wz w c (iP w c j (j3 w c i (kM c))) ((aW w c j).needs.take k)) ((aW w c j).needs[k]!.take q))[(aW w c j).needs[k]![q]!.u.toNat]!) (hi:=λ_=>ae) (hv:=λ_=>uT) ?_;refine pW ?_;refine sU ((Zw w c (u6 w c (wz w c (iP w c j (j3 w c i (kM c))) ((aW w c j).needs.take k)) ((aW w c j).needs[k]!.take q)) (aW w c j).needs[k]![q]!).map D.bool) (hi:=mb) (he:=by rw[cG];exact agT ae _) ?_;refine zg ?_;rw[<-ak4 ae];exact iw (q+1) [(0,0),(1,1)]
    refine zg ?_;rw[gG (show(aW w c j).needs[k]!.length<=q by omega),<-ak3 ae];exact iw (k+1) [(0,0),(1,1)]
   refine zg ?_;rw[gG (show(aW w c j).needs.length<=k by omega),<-ak2 hc3];exact iw (j+1) [(0,0),(1,1)]
  refine zg ?_;obtain rfl:j=c.length:=ae;rw[show iP w c c.length (j3 w c i (kM c))=j3 w c (i+1) (kM c)from rfl];exact iw (i+1) [(0,0),(1,1)]
 refine c7 ?_;obtain rfl:i=c.length:=ae;have hl0:=hI0.1;rw[<-S2 hc0]at hl0⊢;rw[<-hl0];refine bG 0 ?_;exact lL
def BU:aj:=⟨2,16,[⟨2,none⟩],H0,(sq (rg [gb 5 s0,gb 5 s1,gm vx] [(3,0),(4,1),(2,2)]) (sq (sq (r2 [gk 5 true s3,gx 209 [l0] ha5,gno l1,gm l2,nX 3 (.ld 5 true s4),nX 3 (.call 209 [l4] ha5),nX 3 (.un .not l5),HY l3 l6,gm l7,nX 8 (.ld 5 true s3),nX 8 (.call 530 [l9] ha5),nX 8 (.ld 5 true s4),nX 8 (.call 530 [Wy] ha5),nX 8 (.eqA false true [.i .i64,.i .i64,.i .i64,.s,.s] l10 l12),HY l8 l13] 5 14) (.cond s5 (sq (r1 [gm vx] 2 0) .ret) .skip)) (sq (sq (r2 [gf 0 s3,gd l0,gf 0 s4,gd l2,gx 532 [l1,l3] pw,gf 1 s3,gd l5,gf 1 s4,gd l7,gx 532 [l6,l8] pw,gf 2 s3,gd l10,gf 2 s4,gd l12,gx 532 [Wy,l13] pw,gn (.bsl 1 (.int .i64 0) 3 [(0,l4),(1,l9),(2,l14)]),gx 531 [l15] [[.sl 1 [.a]]],gm l16] 6 17) (sq (r1 [gm s6,mX l0 vx] 7 1) (.cond s7 (sq (r1 [gm s6,gm l0] 2 1) .ret) .skip))) (sq (sq (r1 [gf 3 s3,gd l0,Im l1 cse] 8 2) (.cond s8 (sq (r1 [gm Mq] 2 0) .ret) .skip)) (sq (sq (r1 [gf 3 s4,gd l0,Im l1 cse] 9 2) (.cond s9 (sq (r1 [gn (.mv (.c (.int .i64 (-1))))] 2 0) .ret) .skip)) (sq (rt [gf 3 s3,gd l0,gx 533 [l1,(i8 46)] pw,gf 3 s4,gd l3,gx 533 [l4,(i8 46)] pw,gm l2,gm l5] [(11,6),(12,7)]) (sq (sq (r1 [gm vx] 10 0) (.block 0 (.loop (sq (sq (r1 [gm TE,gm s11,gl l1,kj l0 l2,gm l3,gmt 4 TE,gmt 4 Of,AB 4 (.len l6),AB 4 (agA l5 l7),Yq l4 l8] 13 9) (UT s13 0)) (sq (.block 1 (sq (r2 [gm s11,gm TE,ga 1 l0 l1,gd l2,gm Of,gm TE,ga 1 l4 l5,gd l6,gx 534 [l3,l7] pw,gm l8] 14 9) (sq (r1 [gm s14,mX l0 vx] 15 1) (.cond s15 (sq (r1 [gm s14,gm l0] 2 1) .ret) .skip)))) (r1 [gm TE,lS l0 Mq,gm l1] 10 2)))))) (sq (r1 [gm s11,gl l0,gm Of,gl l2,gx 532 [l1,l3] pw,gm l4] 2 5) .ret))))))))⟩
def w295 (hA:Bn Y)(hB:C530 Y)(hC:C531 Y)(hD:C532 Y)(hE:WM Y)(hF:C534 Y):uu (ct Y BU):=λa b hp0=>by
 refine zg ?_;refine aQ (λhc0=>?_) (λhc0=>?_)
 .simp only[dk,b8,aT]at hc0;refine zr ?_;rcases hc0 with hc0|hc0
  .unfold iO;rw[ak hc0]
  .exact(Gg hc0).symm
 simp only[eg,cF,bR]at hc0;have hv:¬(gN a=false\/gN b=false):=by simp only[not_or,Bool.not_eq_false];first|exact hc0|exact hc0.1
 refine iz ?_;refine fA ?_;refine bm ([du a.major b.major,du a.minor b.minor,du a.patch b.patch].map (D.int .i64)) ?_;refine aE (hc:=hC [du a.major b.major,du a.minor b.minor,du a.patch b.patch]) (ha:=λ_=>ay (λd=>[d]) (ud (q:=D.int .i64) (xs:=[du a.major b.major,du a.minor b.minor,du a.patch b.patch]) (λ_=>rfl) ai)) (hp:=λ_=>⟨qD (q:=D.int .i64) (xs:=[du a.major b.major,du a.minor b.minor,du a.patch b.patch]) (λ_=>rfl) ai,trivial⟩) ?_;refine zg ?_;refine aQ (λhc1=>?_) (λhc1=>?_)
 .simp only[b8,bR]at hc1;refine zr ?_;exact Yi hv hc1
 simp only[cF,aT]at hc1;obtain⟨z1,z2,z3⟩:=Yj hc1;refine dR ?_;have hcp:=XI hv z1 z2 z3;have hpn:¬a.pre=b.pre:=λe=>hc0.2 (adG z1 z2 z3 e)
 refine zc ?_ ?_<;>intro hc2
 .refine zr ?_;rw[hcp];unfold BJ;rw[ah hpn,ak hc2]
 refine zc ?_ ?_<;>intro hc3
 .refine zr ?_;rw[hcp];unfold BJ;rw[ah hpn,ah hc2,ak hc3]
 refine fA ?_;refine aE (hc:=hE a.pre 46 hp0.1.1) ?_;refine c7 ?_;refine aE (hc:=hE b.pre 46 hp0.2.1) ?_;refine zg ?_;refine zf hm (λi=>[.u 3,.p 0 5,.p 1 5,.u 5,.i i,.m 1 (bh a.pre 46) D.str,.m 1 (bh b.pre 46) D.str,.u 3]) (λi=>[(0,.buf 5 [b6.D a]),(1,.buf 5 [b6.D b])]) 53 (λi=>(i<=(bh a.pre 46).length/\i<=(bh b.pre 46).length)/\iO a b=vQ (bh a.pre 46) (bh b.pre 46) i) (λi=>(bh a.pre 46).length-i) ⟨⟨ae,ae⟩,by rw[hcp];unfold BJ;rw[ah hpn,ah hc2,ah hc3]⟩ [(0,0),(1,1)] ?_;rintro i ⟨hi,hr⟩;refine zg ?_;intro u0;refine dF ?_ ?_<;>intro hc4
 .refine zc ?_ ?_<;>intro hc5
  .refine zr ?_;rw[hr,Hf ae hc5]
  refine zl (i+1) [(0,0),(1,1)] ?_;exact⟨⟨ae,ae⟩,by rw[hr,Ov ae hc5]⟩
 refine zg ?_;intro u1 u2;refine zr ?_;rw[hr,He ae]
def NM:aj:=bd 15
def w147 (hA:WI Y)(hB:WJ Y)(hC:C145 Y)(hD:C360 Y)(hE:C361 Y)(hF:C362 Y):JB (ct Y NM):=λl shop e ks hp0=>by
 refine c9 ?_;have hyp:=(ue hp0.1.p.1.1 (i:=0) (by have:=(yS hp0.1.p.1.1).1;omega)).2.2.1;refine yl ?_;refine yl ?_;refine bL ?_;refine bg (env':=[_,_,_,_,⟨_,_⟩,⟨_,(.int _ _)⟩,_,_,⟨_,_⟩,_,_,_,_,_,_,_,_,_,_]) ?_;refine gu ?_;refine aS ?_;refine bL ?_;refine aE (hc:=hA (l) RN) ?_;refine bL ?_;refine lh (.int _ _) ?_;refine lh (.int _ _) ?_;refine bL ?_;refine bL ?_;refine bg (env':=[_,_,_,_,_,_,⟨_,(.int _ _)⟩,_,_,_,_,_,_,_,_,_,_,_,_]) ?_;refine gu ?_;refine aS ?_;refine bL ?_;refine oK ?_;refine bg (env':=[_,_,_,_,_,_,_,⟨_,(.bool _)⟩,_,_,_,_,_,_,_,_,_,_,_]) ?_;refine dF ?_ ?_<;>intro hc0
 .exact absurd trivial hc0
 refine fA ?_;refine aE (hc:=hC (shop) RN) ?_;refine kv ?_;refine bg (env':=[_,_,_,_,_,_,_,_,_,⟨_,(.bool _)⟩,_,_,_,_,_,_,_,_,_]) ?_;refine zc ?_ ?_<;>intro hc1
 .refine c7 ?_;refine bW _ ?_;refine cE _ ?_;refine c9 ?_;refine bg (env':=[_,_,_,_,_,⟨_,(.int _ _)⟩,_,_,_,_,_,_,_,_,_,_,_,_,_]) ?_;refine zr ?_;rw[adq hc1];rfl
 refine gv ?_;refine aS ?_;refine bL ?_;refine aE (hc:=hD (l) RN) ?_;refine bL ?_;refine lh (.sl _ _) ?_;refine lh (.int _ _) ?_;refine bL ?_;refine bL ?_;refine bg (env':=[_,_,_,_,_,_,_,_,_,_,⟨_,(.int _ _)⟩,_,_,⟨_,(.sl _ _)⟩,_,_,_,_,_]) ?_;refine gu ?_;refine aS ?_;refine bL ?_;refine oK ?_;refine bg (env':=[_,_,_,_,_,_,_,_,_,_,_,⟨_,(.bool _)⟩,_,_,_,_,_,_,_]) ?_;refine dF ?_ ?_<;>intro hc2
 .exact absurd trivial hc2
 refine fA ?_;refine bg (env':=[_,_,_,_,_,_,_,_,_,_,_,_,⟨_,(.int _ _)⟩,_,_,_,_,_,_]) ?_;refine zf hm (λi=>[.m 11 l gI.D,.m 2 shop bz.D,.u 1,.m 6 ks Kp.D,.p 1 1,.u 3,.p 0 3,.u 3,.i i,.m 2 (fm l) gY.D,.u 5]) (λi=>[(0,.buf 3 [Env.D e]),(1,.buf 1 [.agg [.aO]])]) 30 (λi=>i<=(fm l).length/\∀j,j<i->0<=mK shop (fm l)[j]!.shelf) (λi=>(fm l).length-i) ⟨ae,λj h=>ae⟩ [(0,0),(1,1)] ?_;rintro i ⟨hi,hr⟩;refine zg ?_;intro u0;refine dF ?_ ?_<;>intro hc3
 .refine zc ?_ ?_<;>intro hc4
  .refine c9 ?_;refine bW _ ?_;refine cE _ ?_;refine zr ?_;rw[adr hc1 (i:=i) ae ae];rfl
  refine fX (i+1) [(0,0),(1,1)] ?_;exact λj h=>by rcases Nat.lt_succ_iff_lt_or_eq.1 h with h|rfl;exact hr j h;omega
 refine dR ?_;have hpa:=Z0 (l:=l) (shop:=shop) (i:=i) ae hr;refine j7 ?_;refine bW _ ?_;refine c9 ?_;refine bc (cu.D (tq l shop e ks) (.ptr 40 2 0 0)) ?_;refine dT (nx':=34) (v:=.tup [bP.D (az (tq l shop e ks)).1,.bool (az (tq l shop e ks)).2]) (m':=[(0,.buf 3 [Env.D e]),(1,.buf 1 [.agg [.aO]])]) (hc:=λK' hK=>hF (tq l shop e ks) hp0 _ 40 _ K' eL ai hK) (hn:=aX) ?_;refine zc ?_ ?_<;>intro hc5
 .refine c7 ?_;refine bW _ ?_;refine cE _ ?_;refine zr ?_;rw[ads hc1 hpa pG];rfl
 refine dR ?_;refine cE _ ?_;refine zr ?_;rw[adt hc1 hpa pG];rfl
def QK:aj:=bd 215
def w1009 (hA:C908 Y)(hB:agf Y):Fb (ct Y QK):=λn hp0=>by
 refine yZ ?_;have hna:=hp0.1.1;refine zg ?_;intro u0;refine dF ?_ ?_<;>intro hc0
 .refine dR ?_;have hul:=(oT n.any[0]!).2;have hfl:=hp0.1.2 _ (aq (show 0<n.any.length by omega));refine c7 ?_;refine cD 0 (hj:=λ_=>rfl) (hb:=λ_=>ae) ?_;refine zg ?_;intro u1;refine zf hm (λi=>[.u 2,.p 1 3,.u 1,.i i,.i ((fw n.any[0]!).length:Nat),.u 1,.m 2 (fw n.any[0]!) Key.D,.o 0 1 (zS n i).length,.u 4]) (λi=>[(0,.buf 1 ((zS n i).map ed)),(1,.buf 3 [bn.D n])]) 14 (λi=>i<=(fw n.any[0]!).length) (λi=>(fw n.any[0]!).length-i) ae [(0,1)] ?_;intro i hi;have hrl:=abb n i;refine zc ?_ ?_<;>intro hc1
  .refine F3 ?_;refine cD 0 (hj:=λ_=>rfl) (hb:=λ_=>ae) ?_;refine c7 ?_;refine aE (hc:=hA (n.any[0]!.range) RG) ?_;refine bc (jv.D (⟨(fw n.any[0]!)[i]!,eY n.any[0]!.range⟩:jv)) ?_;refine bm [jv.D (⟨(fw n.any[0]!)[i]!,eY n.any[0]!.range⟩:jv)] ?_;refine bm [.own 28 4 0 1] ?_;refine yk ((zS n i).map ed++[.own 28 4 0 1]) (n:=((zS n i)++[[(⟨(fw n.any[0]!)[i]!,eY n.any[0]!.range⟩:jv)]]).length) (ha:=mb) (he:=n9.own rfl (by first|rfl|simp)) (hz:=yU) (hn:=Fu) (hb:=Fw) ?_;refine dR ?_;refine bG 28 ?_ (he:=lM) (hm:=lM);refine zg ?_;rw[p9,show zS n i++[[(⟨(fw n.any[0]!)[i]!,eY n.any[0]!.range⟩:jv)]]=zS n (i+1)from amh ae];exact iw (i+1) [(30,0),(1,1)]
  refine dR ?_;obtain rfl:i=(fw n.any[0]!).length:=ae;rw[amg hc0];refine bG 0 ?_ (he:=lM) (hm:=lM);exact lL
 refine zg ?_;refine zf hm (λi=>[.u 2,.p 1 3,.u 5,.e .aO,.u 1,.i i,.u 1,.o 0 4 (BH n i).length]) (λi=>[(0,.buf 4 ((BH n i).map jv.D)),(1,.buf 3 [bn.D n])]) 9 (λi=>i<=n.any.length) (λi=>n.any.length-i) ae [(0,1)] ?_;intro i hi;have hol:=ZG n i;refine zg ?_;intro u2;refine dF ?_ ?_<;>intro hc2
 .refine dR ?_;have hul:=(oT n.any[i]!).1;refine kv ?_;refine aE (hc:=hB ((n.any)[i]!) RG) ?_;refine qH ?_;refine aE (hc:=hA ((n.any)[i]!.range) RG) ?_;refine bc (jv.D (ZH n.any[i]!)) ?_;refine bm [jv.D (ZH n.any[i]!)] ?_;refine cQ (q:=jv.D) (xs:=BH n i) (e:=ZH n.any[i]!) (hb:=ae) ?_;refine zg ?_;rw[ale ae];exact iw (i+1) [(32,0),(1,1)]
 refine c7 ?_;obtain rfl:i=n.any.length:=ae;refine bG 0 ?_ (he:=lM) (hm:=lM);refine dR ?_;refine bm [ed (BH n n.any.length)] ?_;refine zL (ys:=[ed (BH n n.any.length)]) (n:=1) (he:=n9.all rfl rfl) (hn:=rfl) (hb:=ae) ?_;refine c7 ?_;refine bG 17 ?_;refine zr ?_;rw[<-ald hc0];rfl
def VU:aj:=⟨2,7,[⟨2,none⟩],[[.sl 2 [.a,.a]]],(sq (rg [gb 2 s1,gm (.c (.aO))] [(4,0),(2,1)]) (sq (r1 [gm vx] 3 0) (sq (.block 0 (.loop (sq (sq (r2 [gm s3,gm s0,gl l1,kj l0 l2,gm l3,gmt 4 s0,gmt 4 s3,AB 4 (.ia 2 l5 l6),AB 4 (.ld 2 true l7),AB 4 (.ld 2 true s4),AB 4 (.call 902 [l8,l9] [[.a,.a],[.a,.a]]),Yq l4 l10] 5 11) (UT s5 0)) (.block 1 (r1 [gm s3,lS l0 Mq,gm l1] 3 2))))) (sq (sq (r2 [gm s3,gm s0,gl l1,kj l0 l2,gm l3,gmt 4 s0,gmt 4 s3,AB 4 (.ia 2 l5 l6),AB 4 (.ld 2 true l7),AB 4 (.ld 2 true s4),AB 4 (.eqA false true [.s,.s] l8 l9),Yq l4 l10] 6 11) (.cond s6 (sq (r1 [gm s0,gm l0] 2 1) .ret) .skip)) (sq (r2 [gm s0,gm s3,gn (.slA 2 l0 none (some l1)),gn (.appN 2 l2),gk 2 true s4,gn (.bsl 2 (.agg [.str [],.str []]) 1 [(0,l4)]),gn (.app 2 l3 l5),gm s0,gm s3,gn (.slA 2 l7 (some l8) none),gn (.app 2 l6 l9),gm l10] 2 11) .ret)))))⟩
def w749 (hA:C902 Y):KT (ct Y VU):=λl k hp0=>by
 refine zg ?_;refine zf hm (λi=>[.m 2 l Key.D,.u 2,.i i,.p 0 2,.u 2]) (λi=>[(0,.buf 2 [Key.D k])]) 3 (λi=>i<=l.length/\FJ l k 0=FJ l k i) (λi=>l.length-i) ⟨ae,rfl⟩ [(0,0)] ?_;rintro i ⟨hi,hr⟩;refine zc ?_ ?_<;>intro hc0
 .refine fX (i+1) [(0,0)] ?_;rw[hr,YV ae hc0.2]
 refine fA ?_;have hk:FJ l k 0=i:=by rw[hr];exact YW (λh=>by rcases hc0 with h1|h1;omega;exact h1)
 refine zc ?_ ?_<;>intro hc1
 .refine zr ?_;rw[<-afj hk ⟨ae,hc1.2⟩];rfl
 refine j7 ?_;refine Cl (he:=n9.sl) (n:=(l.take i).length) (hn:=aJ) (hb:=Ak) ?_;refine c9 ?_;refine bm [Key.D k] ?_;refine cQ (q:=Key.D) (xs:=l.take i) (e:=k) (hb:=Ak) ?_;refine dR ?_;refine pO (xs:=l.take i++[k]) (ys:=l.drop i) (he:=n9.sl) (hb:=RJ) ?_;refine c7 ?_;refine bG 37 ?_;refine zr ?_;rw[<-afl hk Ug];rfl
def Eb:aj:=bd 168
def w904 (hA:C907 Y)(hB:WD Y):K8 (ct Y Eb):=λr e o hp0=>by
 refine c9 ?_;have hns:=gH hp0.1;refine zg ?_;refine zf hm (λi=>[.u 2,.e (.str o),.u 1,.i i,.p 1 9,.u 2,.p 2 3,.u 1,.o 0 1 ((rj (r.needs.take i) e o)).length]) (λi=>[(0,.buf 1 (((rj (r.needs.take i) e o)).map ed)),(1,.buf 9 [Rec.D r]),(2,.buf 3 [Env.D e])]) 5 (λi=>i<=r.needs.length) (λi=>r.needs.length-i) ae [(0,1),(1,2)] ?_;intro i hi;have hol:=(yc (ns:=r.needs.take i) (e:=e) (o:=o) λn hn=>hns.2 n (ER hn)).1;rw[eE]at hol;refine zg ?_;intro u0;refine dF ?_ ?_<;>intro hc0
 .refine yZ ?_;refine cE _ ?_;refine se ?_;refine ca (hc:=λhf=>hA _ (e) ?_) ?_;rotate_left;first|assumption|omega|exact⟨hns.2 _ (aq ae),hp0.1.2.2.1 _ (aq ae)⟩|exact⟨(hp0.1.2.2.1 _ (aq ae)).2.1,hp0.2⟩
  refine zc ?_ ?_<;>intro hc1
  .refine c9 ?_;have hrl:=(tY (hns.2 _ (aq (show i<r.needs.length by omega)))).1;refine c7 ?_;refine aE (hc:=hB _ ?_) ?_;rotate_left;first|assumption|omega|exact⟨hns.2 _ (aq ae),hp0.1.2.2.1 _ (aq ae)⟩|exact⟨(hp0.1.2.2.1 _ (aq ae)).2.1,hp0.2⟩
   refine pO (q:=ed) (xs:=(rj (r.needs.take i) e o)) (ys:=iQ r.needs[i]!) (he:=n9.sl) (hb:=ae) ?_;refine zg ?_;rw[<-alr hc1,ZU ae];exact iw (i+1) [(30,0),(1,1),(2,2)]
  refine zg ?_;rw[show(rj (r.needs.take i) e o)=rj (r.needs.take (i+1)) e o from by rw[<-ZU ae,alq hc1,gw]];exact iw (i+1) [(0,0),(1,1),(2,2)]
 refine c7 ?_;obtain rfl:i=r.needs.length:=ae;rw[List.take_length];refine bG 0 ?_;exact lL
def V2:aj:=bd 157
def w381:J2 (ct Y V2):=λn hp0=>by
 refine c9 ?_;obtain⟨j,rfl⟩:∃j:Nat,n=(j:Int):=⟨n.toNat,ae⟩
 simp only[Int.toNat_natCast];refine zg ?_;refine zf hm (λi=>[.i j,.u 1,.i i,.u 1,.i ((2^i))]) (λi=>[]) 3 (λi=>i<=j) (λi=>j-i) ae [] ?_;intro i hi;have hpb:=GM (k:=i) ae;have hpp:=qu i;refine zc ?_ ?_<;>intro hc0
 .refine fA ?_;refine yn (hb:=ae) ?_;refine zg ?_;rw[show(2:Int)^i*2=2^(i+1)from(Int.pow_succ 2 i).symm];exact iw (i+1) []
 refine c7 ?_;obtain rfl:i=j:=ae;exact lL
def QT:aj:=bd 105
def w158 (hm:(Y.at 0).bU)(hA:C381 Y):JC (ct Y QT):=λw u hp0=>by
 refine zc ?_ ?_<;>intro hc0
 .refine zr ?_;unfold ov;rw[ak ae]
 refine c7 ?_;obtain⟨j,rfl⟩:∃j:Nat,u=(j:Int):=⟨u.toNat,ae⟩
 have hjl:j<w.us.length:=ae;have hju:=(hp0 _ (aq hjl)).1;have hpb:=GM (k:=w.us[j]!.ar.length+1) ae;have hpp:=qu (w.us[j]!.ar.length+1);refine pW ?_;intro u0;refine r_mn ((w.us[j]!.ar.length:Nat):Int) (hv:=λ_=>ah ae) ?_;refine c7 ?_;refine Cn (hb:=by simp only[Int.toNat_natCast,show(((w.us[j]!.ar.length:Nat):Int)+1).toNat=w.us[j]!.ar.length+1 from rfl];omega) ?_;refine zr ?_;unfold ov;rw[ah ae];rfl
def NP:aj:=⟨2,7,[⟨2,none⟩],H0,(sq (rg [gb 2 s1,gm vx] [(5,0),(2,1)]) (sq (sq (r1 [gm vx] 3 0) (.block 0 (.loop (sq (sq (r1 [gm s3,gm s0,gl l1,kj l0 l2] 4 3) (UT s4 0)) (sq (.block 1 (sq (r2 [gm s0,gm s3,ga 2 l0 l1,gk 2 true l2,gk 2 true s5,gn (.eqA false true [.s,.s] l3 l4)] 6 5) (.cond s6 (sq (r1 [gm s3,gm l0] 2 1) .ret) .skip))) (r1 [gm s3,lS l0 Mq,gm l1] 3 2)))))) (sq (r1 [gn (.mv (.c (.int .i64 (-1))))] 2 0) .ret)))⟩
def w903:K7 (ct Y NP):=λl k=>by
 refine zg ?_;refine zf hm (λi=>[.m 2 l Key.D,.u 2,.i i,.u 1,.p 0 2,.u 1]) (λi=>[(0,.buf 2 [Key.D k])]) 3 (λi=>i<=l.length/\cz l k=gp (λx=>decide (x=k)) (l.drop i) i) (λi=>l.length-i) ⟨ae,rfl⟩ [(0,0)] ?_;rintro i ⟨hi,hr⟩;refine zg ?_;intro u0;refine dF ?_ ?_<;>intro hc0
 .refine zc ?_ ?_<;>intro hc1
  .refine zr ?_;rw[hr,kX ae oY]
  refine fX (i+1) [(0,0)] ?_;rw[hr,jC ae oY]
 refine zr ?_;rw[hr,mB ae]
def FV:aj:=bd 152
def w829 (hm:(Y.at 0).bU):K2 (ct Y FV):=λal u p hp0=>by
 refine c9 ?_;subst hp0;refine iz ?_;intro u0;refine cD 0 (hj:=λhf=>Bool.noConfusion hf) (hb:=λhf=>Bool.noConfusion hf) ?_;refine dj (v:=.int .i64 0) (hi:=λhf=>Bool.noConfusion hf) (hv:=λhf=>Bool.noConfusion hf) ?_;refine c9 ?_;refine mh (hb:=λhf=>Bool.noConfusion hf) ?_;refine rU 0 (hb:=λhf=>Bool.noConfusion hf) ?_;refine GR 0 (hn:=λhf=>Bool.noConfusion hf) (hb:=λhf=>Bool.noConfusion hf) ?_;refine D0 0 (hb:=λhf=>Bool.noConfusion hf) ?_;refine fA ?_;refine bg (env':=[_,_,_,⟨_,(.bool _)⟩]) ?_;exact lL
def QA:aj:=bd 220
def w1013 (hm:(Y.at 0).bU)(hA:WH Y)(hC:agh Y):Fe (ct Y QA):=λshop ps nm hp0=>by
 refine zc ?_ ?_<;>intro hc0
 .refine zr ?_;rw[show(cA shop ps nm)=(0,[],(dy shop ps nm).2)from ak hc0];rfl
 refine c7 ?_;obtain⟨hB,j,hj,hjl⟩:=ou (by simpa using hc0:(dy shop ps nm).2=0);refine kv ?_;refine aE (hc:=hC shop[j]! nm (hp0 _ (aq hjl))) ?_;refine zr ?_;rw[show(cA shop ps nm)=((dy shop ps nm).1,jk shop[(dy shop ps nm).1.toNat]! nm,0)from ah (by simpa using hc0),hj,Int.toNat_natCast];rfl
def FM:aj:=bd 22
def w112 (hm:(Y.at 0).bU)     :wkk Y FM (.sl 5 (bQ.map b6.D)) []:=by
 refine fA ?_;refine bW _ ?_;refine bW _ ?_;refine bW _ ?_;refine bW _ ?_;refine bm (bQ.map b6.D) ?_;refine c7 ?_;refine bG 5 ?_;exact lL
end Go.Abs
end
