/- A part of the proofs. -/
import Derived.Test.YtkmlboofmolbaaaGreatDoorP09
set_option linter.all false
set_option maxRecDepth 60000
set_option maxHeartbeats 2000000
noncomputable section
namespace Go.Abs
variable {Y:Ctx}(hm:(Y.at 0).bU)
def H5:aj:=bc 203
def w70 (hA:Tf Y)(hB:AK Y)(hC:C210 Y)(hD:C211 Y)(hE:C212 Y)(hF:C213 Y)(hG:C214 Y)(hH:C215 Y):zx (cw Y H5):=λr hp0=>by
 show du _ _ _ (⟨true,Rec.D r⟩::.un::.un::.un::.un::.un::.un::.un::.un::.un::.un::.un::.un::.un::.un::.un::.un::.un::.un::.un::.un::.un::.un::.un::.un::.un::.un::.un::.un::.un::.un::.un::.un::.un::.un::.un::.un::.un::.un::[]) ⟨0,[]⟩;refine aP ?_;refine zg ?_;refine wp_cond (λhc0=>?_) (λhc0=>?_)
 .try simp only[gO]at hc0
  refine zg ?_;refine fK (bT (aw (D.int .i64) ?_) (aw (D.int .i64) ?_));all_goals (have hq:cQ r=(4,0):=(by rw[cQ,ak hc0]);rw[hq];first|done|rfl)
 simp only[cZ]at hc0;refine dJ ?_;refine aF (hc:=hB r.v hp0.1.2) ?_;refine zg ?_;refine wp_cond (λhc1=>?_) (λhc1=>?_)
 .try simp only[gO]at hc1
  refine zg ?_;refine fK (bT (aw (D.int .i64) ?_) (aw (D.int .i64) ?_));all_goals (have hq:cQ r=(5,0):=(by rw[cQ,ah jP,ak hc1]);rw[hq];first|done|rfl)
 simp only[cZ]at hc1;refine zg ?_;intro u0;refine Bo ?_ ?_<;>intro hc2
 .refine zg ?_;refine fK (bT (aw (D.int .i64) ?_) (aw (D.int .i64) ?_));all_goals (have hq:cQ r=(3,0):=(by rw[cQ,ah jP,ah (by simp[hc1]),ak ae]);rw[hq];first|done|rfl)
 refine zg ?_;intro u1;refine gy hm (ι:=Nat) (λi=>(.un::.un::.un::⟨true,.ptr 0 9 0 0⟩::.un::.un::.un::⟨true,.int .i64 (i:Nat)⟩::⟨true,.int .i64 (r.needs.length:Nat)⟩::.un::⟨true,.sl 3 (r.needs.map bn.D)⟩::.un::.un::.un::.un::.un::.un::.un::.un::.un::.un::.un::.un::.un::.un::.un::.un::.un::.un::.un::.un::.un::.un::.un::.un::.un::.un::.un::.un::[])) (λi=>[(0,.buf 9 [Rec.D r])]) 28 (λi=>i<=r.needs.length/\lM r=gR (λi=>jG r r.needs[i]!) i r.needs.length) (λi=>r.needs.length-i) 0 ⟨ae,rfl⟩ (gtt [(0,0)]) ?_;rintro i ⟨hi,hr⟩;refine zc ?_ ?_<;>intro hc3
 .refine IJ ?_;refine aF (hc:=hC r r.needs[i]! (hp0.2.1 _ (aq ae))) ?_;refine zc ?_ ?_<;>intro hc4
  .refine zg ?_;refine fK (bT (aw (D.int .i64) ?_) (aw (D.int .i64) ?_));all_goals
    have hq:cQ r=(jG r r.needs[i]!,((i:Nat):Int)):=by
     exact pG hc0 hc1 ae ae (Mi (by rw[hr,gT ae hc4]) hc4) hc4
    rw[hq];first|done|rfl
  refine gM (i+1) [(0,0)] ?_;rw[hr,kn ae hc4]
 refine fE ?_;have hn0:lM r=(0,0):=by rw[hr,kj ae]
 refine zg ?_;intro u2;refine gy hm (ι:=Nat) (λi=>(.un::.un::.un::⟨true,.ptr 0 9 0 0⟩::.un::.un::.un::.un::.un::.un::.un::.un::.un::.un::.un::⟨true,.int .i64 (i:Nat)⟩::⟨true,.int .i64 (r.bars.length:Nat)⟩::.un::⟨true,.sl 3 (r.bars.map lu.D)⟩::.un::.un::.un::.un::.un::.un::.un::.un::.un::.un::.un::.un::.un::.un::.un::.un::.un::.un::.un::.un::[])) (λi=>[(0,.buf 9 [Rec.D r])]) 33 (λi=>i<=r.bars.length/\uN r=gR (λi=>rT r r.bars[i]!) i r.bars.length) (λi=>r.bars.length-i) 0 ⟨ae,rfl⟩ (gtt [(0,0)]) ?_;rintro i ⟨hi,hr⟩;refine zc ?_ ?_<;>intro hc5
 .refine gZ ?_;refine dJ ?_;refine aF (hc:=hD r r.bars[i]!.name r.bars[i]!.range (hp0.2.2.1 _ (aq ae)).2.1) ?_;refine zg ?_;refine aQ (λhc6=>?_) (λhc6=>?_)
  .simp only[cE,ct]at hc6;have hbe:rT r r.bars[i]! =gK r r.bars[i]!.name r.bars[i]!.range:=by rw[rT,ak hc6]
   refine zg ?_;refine fK (bT (aw (D.int .i64) ?_) (aw (D.int .i64) ?_));all_goals
    have hq:cQ r=(gK r r.bars[i]!.name r.bars[i]!.range,((i:Nat):Int)):=by
     exact pG hc0 hc1 ae ae (Db hn0 (by rw[hr,gT ae (by rw[hbe];exact hc6),hbe]) hc6) hc6
    rw[hq];first|done|rfl
  try simp only[gO]at hc6
  refine fE ?_;refine aF (hc:=hE r.bars[i]!.when' (hp0.2.2.1 _ (aq ae)).2.2) ?_;refine zg ?_;refine wp_cond (λhc7=>?_) (λhc7=>?_)
  .simp only[cE]at hc7;have hbe:rT r r.bars[i]! =7:=by rw[rT,ah (λh=>h hc6),ak hc7]
   refine zg ?_;refine fK (bT (aw (D.int .i64) ?_) (aw (D.int .i64) ?_));all_goals
    have hq:cQ r=((7:Int),((i:Nat):Int)):=by
     exact pG hc0 hc1 ae ae (Db hn0 (by rw[hr,gT ae (by rw[hbe];decide),hbe]) (show(7:Int)≠0 by decide)) (show(7:Int)≠0 by decide)
    rw[hq];first|done|rfl
  simp only[cZ]at hc7;have hbz:rT r r.bars[i]! =0:=by rw[rT,ah (λh=>h hc6),ah (by rw[hc7];simp)]
  refine gM (i+1) [(0,0)] ?_;rw[hr,kn ae hbz]
 refine fE ?_;have hb0:uN r=(0,0):=by rw[hr,kj ae]
 refine cX ?_;refine aF (hc:=hF r.feats hp0.2.2.2) ?_;refine zg ?_;refine aQ (λhc8=>?_) (λhc8=>?_)
 .try simp only[gO]at hc8
  refine zg ?_;refine fK (bT (aw (D.int .i64) ?_) (aw (D.int .i64) ?_));all_goals
   have hq:cQ r=(11,0):=by
    exact pG hc0 hc1 ae ae (Mj hn0 hb0 hc8) aV
   rw[hq];first|done|rfl
 simp only[cZ]at hc8;refine zg ?_;intro u3;refine gy hm (ι:=Nat) (λi=>(.un::.un::.un::⟨true,.ptr 0 9 0 0⟩::.un::.un::.un::.un::.un::.un::.un::.un::.un::.un::.un::.un::.un::.un::.un::.un::.un::.un::.un::.un::.un::⟨true,.int .i64 (i:Nat)⟩::⟨true,.int .i64 (r.feats.length:Nat)⟩::.un::⟨true,.sl 2 (r.feats.map b6.D)⟩::.un::.un::.un::.un::.un::.un::.un::.un::.un::.un::[])) (λi=>[(0,.buf 9 [Rec.D r])]) 42 (λi=>i<=r.feats.length/\G7 r=gR (λi=>mO r r.feats[i]!.of) i r.feats.length) (λi=>r.feats.length-i) 0 ⟨ae,rfl⟩ (gtt [(0,0)]) ?_;rintro i ⟨hi,hr⟩;refine zc ?_ ?_<;>intro hc9
 .refine zg ?_;intro u4;refine IG hm (ι:=Nat) (λj=>(.un::.un::.un::⟨true,.ptr 0 9 0 0⟩::.un::.un::.un::.un::.un::.un::.un::.un::.un::.un::.un::.un::.un::.un::.un::.un::.un::.un::.un::.un::.un::⟨true,.int .i64 (i:Nat)⟩::⟨true,.int .i64 (r.feats.length:Nat)⟩::.un::⟨true,.sl 2 (r.feats.map b6.D)⟩::.un::⟨true,.int .i64 (j:Nat)⟩::⟨true,.int .i64 (r.feats[i]!.of.length:Nat)⟩::.un::⟨true,.sl 1 (r.feats[i]!.of.map D.str)⟩::.un::.un::.un::⟨true,.int .i64 (i:Nat)⟩::.un::[])) (λj=>[(0,.buf 9 [Rec.D r])]) 53 (λj=>j<=r.feats[i]!.of.length/\mO r r.feats[i]!.of=fV (λj=>n7 r r.feats[i]!.of[j]!) j r.feats[i]!.of.length) (λj=>r.feats[i]!.of.length-j) 0 ⟨ae,rfl⟩ (gtt [(0,0)]) ?_;rintro j ⟨hj,hjr⟩;refine zc ?_ ?_<;>intro hc10
  .refine rb ?_;refine aF (hc:=hG r r.feats[i]!.of[j]! (jv.it hp0.2.2.2 _ (aq ae) _ (aq ae))) ?_;refine zc ?_ ?_<;>intro hc11
   .refine zg ?_;refine fK (bT (aw (D.int .i64) ?_) (aw (D.int .i64) ?_));all_goals
     have hq:cQ r=(n7 r r.feats[i]!.of[j]!,((i:Nat):Int)):=by
      have hie:mO r r.feats[i]!.of=n7 r r.feats[i]!.of[j]! :=by rw[hjr,lJ ae hc11]
      exact pG hc0 hc1 ae ae (xK hn0 hb0 hc8 (by rw[hr,gT (f:=(λi=>mO r r.feats[i]!.of)) ae (by rw[hie];exact hc11),hie])) hc11
     rw[hq];first|done|rfl
   refine gM (j+1) [(0,0)] ?_;rw[hjr,pM ae hc11]
  refine gM (i+1) [(0,0)] ?_;rw[hr,kn (f:=(λi=>mO r r.feats[i]!.of)) ae (by rw[hjr,pL ae])]
 refine fE ?_;have hpz:en r=(0,0):=xK hn0 hb0 hc8 (by rw[hr,kj ae]);have hgd:FB r:=⟨⟨hc0,hc1⟩,⟨ae,ae⟩,hpz⟩;refine kW ?_;refine aF (hc:=hH r ⟨hgd,hp0⟩) ?_;refine Dn λu5=>?_;specialize u5 rfl rfl
 refine pe ?_;refine bm (env':=(_::_::_::_::_::_::_::_::_::_::_::_::_::_::_::_::_::_::_::_::_::_::_::_::_::_::_::_::_::_::_::_::_::_::_::_::_::_::⟨_,(.bool _)⟩::[])) ?_;refine dP ?_ ?_<;>intro hc12
 .refine zg ?_;refine fK (bT (aw (D.int .i64) ?_) (aw (D.int .i64) ?_));all_goals
   have hq:cQ r=(3,0):=by
    rw[wP hc0 hc1 ae ae hpz,ak ae]
   rw[hq];first|done|rfl
 refine zg ?_;refine fK (bT (aw (D.int .i64) ?_) (aw (D.int .i64) ?_));all_goals
  have hq:cQ r=(0,0):=by
   rw[wP hc0 hc1 ae ae hpz,ah ae]
  rw[hq];first|done|rfl
def lK:aj:=bc 38
def w502 (hm:(Y.at 2).bU)(shop:List bA)(w:bP)(x:ea)(c:List Int)(kvs:List D)(hA:C274 (Y.at 2))(hB:C689 (Y.at 2))(hp0:LinP shop w x c)(hp1:VX w.us kvs):du (Y.at 2) lK.body (uA lK (λd m=>d=.int .i64 (kT shop w.us x c).1/\look m 0=some (.buf 1 ((kT shop w.us x c).2.map (D.int .i64)))/\look m 1=some (.mpb kvs)):Ex->List aY->St->Prop) (fQ lK [.agg [.sl 2 (shop.map bA.D),.sl 3 (w.us.map cI.D),.fn 5000000 [.it 1],.own 0 1 0 c.length],ea.D x]) ⟨2,[(0,.buf 1 (c.map (D.int .i64))),(1,.mpb kvs)]⟩:=by
 show du _ _ _ [⟨true,.agg [.sl 2 (shop.map bA.D),.sl 3 (w.us.map cI.D),.fn 5000000 [.it 1],.own 0 1 0 c.length]⟩,⟨true,ea.D x⟩,.un,.un,.un,.un,.un,.un,.un,.un,.un,.un,.un,.un,.un,.un,.un,.un,.un,.un,.un,.un,.un,.un,.un,.un,.un,.un] ⟨2,[(0,.buf 1 (c.map (D.int .i64))),(1,.mpb kvs)]⟩;refine aP ?_;refine k9 ?_;have hcl:=hp0.2;refine cO ?_;refine oR (v:=.fn 5000000 [.it 1]) ?_;refine cX ?_;refine a7 (Key.D (⟨x.name,[]⟩)) ?_;refine afN (.tup [.int .i64 (ym w.us x.name []).1,.bool (ym w.us x.name []).2]) (hb:=hp1.1) (hv:=hp1.2 _ _) ?_;refine zc ?_ ?_<;>intro hc0
 .refine zg ?_;refine ei trivial jD (dk ai (?_)) ai ⟨by rw[Sf (HO (IB hc0))],by rw[Sf (HO (IB hc0))];exact rfl,c8⟩;rfl
 refine cX ?_;obtain⟨j,hj,hj2,hj1,hjl⟩:=aar hc0;have hun:=hp0.1.2.1 _ (aq hjl);have h16:w.us[j]!.cands.length<=16:=hun.1;have hpl:=YS (us:=w.us) (v:=x.v) (t:=true) hj;rw[hj2];refine yr ?_;refine bz 3 ?_ (he:=aaU) (hm:=aaU);refine cX ?_;refine Si [.ref 9 [ea.D x] 0 0] ?_;refine aF (hc:=hB w.us[j]!.cands true x ⟨λc hc=>(hun.2 c hc).1,hp0.1.2.2⟩) ?_;refine dJ ?_;rw[<-hpl];refine zc ?_ ?_<;>intro hc1
 .refine zg ?_;refine ei trivial jD (dk ai (?_)) ai ⟨by rw[Sf hc1],by rw[Sf hc1];exact rfl,c8⟩;rfl
 refine cO ?_;obtain⟨k,hk,hkl⟩:=afL hj hc1;rw[hk];refine Ff ?_;refine ra hm (ι:=Unit) (λ_=>[.un,.un,.un,⟨true,.ptr 2 4 0 0⟩,⟨true,.ref 9 [ea.D x] 0 0⟩,.un,.un,⟨true,.int .i64 (j:Nat)⟩,.un,⟨true,.int .i64 (k:Nat)⟩,.un,.un,.un,.un,.un,.un,⟨true,.int .u64 (Qd shop w.us[j]!.cands[k]! x)⟩,.un,.un,.un,.un,.un,.un,.un,.un,.un,.un,.un]) (λ_=>[(0,.buf 1 (c.map (D.int .i64))),(1,.mpb kvs),(2,.buf 4 [.agg [.sl 2 (shop.map bA.D),.sl 3 (w.us.map cI.D),.fn 5000000 [.it 1],.own 0 1 0 c.length]])]) 60 (λ_=>V4 shop w.us[j]!.cands[k]! x) ?_ ?_
 .refine zc ?_ ?_<;>intro hc2
  .refine zg ?_;obtain⟨hsq,hsv⟩:=sum_a (shop:=shop) hc2;exact⟨(),hsq,(aZ.to [(2,2)] ai ai aa1 aaZ)⟩
  refine gZ ?_;refine cK w.us[j]!.cands[k]!.sh.toNat (hj:=λhf=>QC) (hb:=λhf=>QC) ?_;refine cO ?_;refine dh (v:=.str shop[w.us[j]!.cands[k]!.sh.toNat]!.name) (hi:=λhf=>QC) ?_;refine zc ?_ ?_<;>intro hc3
  .refine zg ?_;refine ei trivial jD (dk ai (?_)) ai ⟨by rw[FZ hj hk (by rw[Qe hc2 hc3];decide),Qe hc2 hc3],by rw[FZ hj hk (by rw[Qe hc2 hc3];decide)];exact rfl,c8⟩;rfl
  refine cO ?_;have hs0:0<=w.us[j]!.cands[k]!.sh/\w.us[j]!.cands[k]!.sh<(shop.length:Int):=ae;have hss:=hp0.1.1 _ (aq (show w.us[j]!.cands[k]!.sh.toNat<shop.length by omega));have hlm:=tf (s:=shop[w.us[j]!.cands[k]!.sh.toNat]!) (nm:=x.name) (v:=x.v);refine yr ?_;refine aF (hc:=hA shop[w.us[j]!.cands[k]!.sh.toNat]! x.name x.v ⟨hss,hp0.1.2.2⟩) ?_;refine zc ?_ ?_<;>intro hc4
  .refine zg ?_;refine ei trivial jD (dk ai (?_)) ai ⟨by rw[FZ hj hk (by rw[Qf hc3 hc4];decide),Qf hc3 hc4],by rw[FZ hj hk (by rw[Qf hc3 hc4];decide)];exact rfl,c8⟩;rfl
  refine cX ?_;have hfl:(fG shop[w.us[j]!.cands[k]!.sh.toNat]! x.name x.v).toNat<shop[w.us[j]!.cands[k]!.sh.toNat]!.es.length:=by rcases hlm with h|⟨q,h,h2⟩<;>omega
  refine zg ?_;obtain⟨hsq,hsv⟩:=sum_c hc3 hc4;exact⟨(),hsq,(aZ.to [(2,2)] ai ai aa1 aaZ)⟩
 .intro _ hsp;refine zg ?_;refine aQ (λhc5=>?_) (λhc5=>?_)
  .simp only[cE,ct]at hc5;have hsh:ll shop w.us[j]!.cands[k]! x=13:=by rw[hsp,ah hc5]
   refine zg ?_;refine ei trivial jD (dk ai (?_)) ai ⟨by rw[FZ hj hk (by rw[hsh];decide),hsh],by rw[FZ hj hk (by rw[hsh];decide)];exact rfl,c8⟩;rfl
  simp only[cZ,aT]at hc5;have hsh:ll shop w.us[j]!.cands[k]! x=0:=by rw[hsp,ak hc5]
  have hpe:=put_c (c:=c) hj hk hsh;refine qp ?_;refine pZ ((c.set j (k:Int)).map (D.int .i64)) (hi:=kf) (he:=BK ae _) ?_;refine zg ?_;intro u0;refine gy hm (ι:=Nat) (λi=>[.un,.un,.un,⟨true,.ptr 2 4 0 0⟩,⟨true,.ref 9 [ea.D x] 0 0⟩,.un,.un,.un,.un,.un,.un,.un,.un,.un,.un,.un,.un,.un,⟨true,.int .i64 (i:Nat)⟩,⟨true,.int .i64 (x.feats.length:Nat)⟩,.un,⟨true,.sl 1 ((x.feats).map D.str)⟩,.un,.un,.un,.un,.un,.un]) (λi=>[(0,.buf 1 ((Ha w.us x (c.set j (k:Int)) i).map (D.int .i64))),(1,.mpb kvs),(2,.buf 4 [.agg [.sl 2 (shop.map bA.D),.sl 3 (w.us.map cI.D),.fn 5000000 [.it 1],.own 0 1 0 c.length]])]) 74 (λi=>i<=x.feats.length/\(kT shop w.us x c)=vG w.us x (x.feats.drop i) (Ha w.us x (c.set j (k:Int)) i)) (λi=>x.feats.length-i) 0 ⟨ae,hpe⟩ (aZ.to [(2,2)] ai ai eM zA) ?_;rintro i ⟨hi,hr⟩;have hfl:=Lr (us:=w.us) (x:=x) (c:=c.set j (k:Int)) i;rw[List.length_set]at hfl;refine zc ?_ ?_<;>intro hc6
  .refine yr ?_;refine oR (v:=.fn 5000000 [.it 1]) ?_;refine dJ ?_;refine a7 (Key.D (⟨x.name,(x.feats)[i]!⟩)) ?_;refine afN (.tup [.int .i64 (ym w.us x.name x.feats[i]!).1,.bool (ym w.us x.name x.feats[i]!).2]) (hb:=hp1.1) (hv:=hp1.2 _ _) ?_;refine zc ?_ ?_<;>intro hc7
   .refine zg ?_;refine ei trivial jD (dk ai (?_)) ai ⟨by rw[hr,xb ae,ak (HO (IB hc7))],by rw[hr,xb ae,ak (HO (IB hc7))];exact rfl,c8⟩;rfl
   refine cO ?_;obtain⟨p,hp,hp2,hp3,hpl2⟩:=aar hc7;have hun2:=hp0.1.2.1 _ (aq hpl2);have h162:w.us[p]!.cands.length<=16:=hun2.1;have hpp:=YS (us:=w.us) (v:=x.v) (t:=false) hp;rw[hp2];refine pA ?_;refine Si [.ref 9 [ea.D x] 0 0] ?_;refine aF (hc:=hB w.us[p]!.cands false x ⟨λc hc=>(hun2.2 c hc).1,hp0.1.2.2⟩) ?_;refine dJ ?_;rw[<-hpp];refine zc ?_ ?_<;>intro hc8
   .refine zg ?_;refine ei trivial jD (dk ai (?_)) ai ⟨by rw[hr,xb ae,ak hc8],by rw[hr,xb ae,ak hc8];exact rfl,c8⟩;rfl
   refine cO ?_;obtain⟨q,hq,hql⟩:=afL hp hc8;have hfs:(Ha w.us x (c.set j (k:Int)) (i+1))=(Ha w.us x (c.set j (k:Int)) i).set p (q:Int):=by rw[Ha,hq,hp,Int.toNat_natCast]
   rw[hq];refine kB ?_;refine pZ ((Ha w.us x (c.set j (k:Int)) (i+1)).map (D.int .i64)) (hi:=kf) (he:=by rw[hfs];exact BK ae _) ?_;refine zg ?_;exact⟨i+1,⟨ae,by rw[hr,xb ae,ah ae];rfl⟩,ae,(aZ.to [(2,2)] ai ai eM zA)⟩
  refine zg ?_;refine ei trivial jD (dk ai (?_)) ai ⟨by rw[hr,Ls ae],by rw[hr,Ls ae];exact rfl,c8⟩;rfl
def ZK:aj:=⟨1,4,re1,Vq,(sq (rg [gb 7 s0,gm cbF] [(2,0),(1,1)]) (sq (sq (r1 [gf 0 s2,gd l0,Hx l1 yy] 3 2) (.cond s3 (sq (r1 [gf 1 s2,gk 5 true l0,gx 217 [l1] ha5,gm l2,Rt 3 1 s2,Rt 3 4 l4,gdt 3 l5,AU 3 (zH l6 cse),ga1 l3 l7,gm l8] 1 9) .ret) .skip)) (sq (r1 [gf 0 s2,gd l0,gn (zH l1 (.c (.int .i64 (-1)))),gm l2,gff 3 0 s2,gdf 3 l4,Bt 3 (zH l5 TY),go1 l3 l6,gm l7,Rt 8 1 s2,AU 8 (.ld 5 true l9),AU 8 (.build [.int .i64 0,.int .i64 0,.int .i64 0,.str [],.str []] []),AU 8 (.eqA false true [.i .i64,.i .i64,.i .i64,.s,.s] l10 l11),ga1 l8 l12,gm l13,Rt 14 6 s2,gdt 14 l15,AU 14 (.un .not l16),ga1 l14 l17,gm l18] 1 19) .ret)))⟩
def w1086 (hm:(Y.at 0).bU)(hA:BT Y):qk (cw Y ZK):=λc hp0=>by
 refine zc ?_ ?_<;>intro hc0
 .refine zr ?_;first|(grind [pI,zV];done)|(simp_all[pI,zV];done)
 refine IJ ?_;refine a7 (bV.D (⟨0,0,0,[],[]⟩)) ?_;refine zr ?_;first|(grind [pI,zV];done)|(simp_all[pI,zV];done)
def Im:aj:=bc 265
def w1020 (hA:Tj Y)(hB:VF Y)(hC:QP Y):qi (cw Y Im):=λa b hp0=>by
 refine zc ?_ ?_<;>intro hc0
 .refine zr ?_;first|(grind [lg,dn];done)|(simp_all[lg,dn];done)
 refine zc ?_ ?_<;>intro hc1
 .refine zr ?_;first|(grind [lg,dn];done)|(simp_all[lg,dn];done)
 refine zc ?_ ?_<;>intro hc2
 .refine zr ?_;first|(grind [lg,dn];done)|(simp_all[lg,dn];done)
 refine zc ?_ ?_<;>intro hc3
 .refine zr ?_;first|(grind [lg,dn];done)|(simp_all[lg,dn];done)
 refine zc ?_ ?_<;>intro hc4
 .refine zr ?_;first|(grind [lg,dn];done)|(simp_all[lg,dn];done)
 refine zr ?_;first|(grind [lg,dn];done)|(simp_all[lg,dn];done)
def PZ:aj:=bc 266
def w1025 (hm:(Y.at 0).bU)(hA:BT Y)(hB:Tj Y)(hC:QP Y):qj (cw Y PZ):=λc v hp0=>by
 refine zc ?_ ?_<;>intro hc0
 .refine zr ?_;first|(grind [j4];done)|(simp_all[j4];done)
 refine zc ?_ ?_<;>intro hc1
 .refine zr ?_;first|(grind [j4];done)|(simp_all[j4];done)
 refine zr ?_;first|(grind [j4];done)|(simp_all[j4];done)
def Io:aj:=bc 264
def w1019 (hm:(Y.at 0).bU)(hA:QO Y)(hB:QP Y):qh (cw Y Io):=λs hp0=>by
 refine qp ?_;refine aF (hc:=hB (s.f) jK) ?_;refine dJ ?_;refine cv (hc:=λhf=>hB (s.t) jK) ?_;refine zr ?_;first|(grind [qa];done)|(simp_all[qa];done)
def P0:aj:=bc 232
def w926 (hm:(Y.at 0).bU)(hA:BT Y)(hB:KM Y)(hC:ae2 Y):uu (cw Y P0):=λs v hp0=>by
 refine En ?_;refine cO ?_;refine cv (hc:=λhf=>hC (s.f) (v) jK) ?_;refine k9 ?_;refine cv (hc:=λhf=>hC (s.t) (v) jK) ?_;refine zr ?_;first|(grind [sg,qa];done)|(simp_all[sg,qa];done)
def ZM:aj:=bc 230
def w916 (hA:KM Y)(hB:QO Y):ur (cw Y ZM):=λl hp0=>by
 refine zg ?_;refine zf hm (λi=>[.m 14 l Span.D,.u 1,.i i,.u 2]) (λi=>[]) 2 (λi=>i<=l.length/\sK l=bW (Ba l) i l.length) (λi=>l.length-i) ⟨ae,rfl⟩ [] ?_;rintro i ⟨hi,hr⟩;refine zg ?_;intro u0;refine dP ?_ ?_<;>intro hc0
 .refine qp ?_;refine aF (hc:=hA ((l)[i]!) jK) ?_;refine pA ?_;refine cK ((i-1)) (hj:=λhf=>ch) (hb:=λhf=>ch) ?_;refine qp ?_;refine cv (hc:=λhf=>hB ((l)[(i-1)]!.t) ((l)[i]!.f) jK) ?_;refine zc ?_ ?_<;>intro hc1
  .refine zr ?_;rw[hr,aB ae];first|(grind [Ba];done)|(simp_all[Ba];done)
  refine gM (i+1) [] ?_;rw[hr,aB ae];first|(grind [Ba];done)|(simp_all[Ba];done)
 refine zr ?_;rw[hr,bE ae]
def ZL:aj:=bc 198
def w782 (hA:VI Y)(hB:C926 Y):uq (cw Y ZL):=λl v hp0=>by
 refine zg ?_;refine zf hm (λi=>[.m 14 l Span.D,.u 2,.i i,.u 1,.p 0 5,.u 1]) (λi=>[(0,.buf 5 [bV.D v])]) 3 (λi=>i<=l.length/\vZ l v=(sK l&&oF (λi=>sg l[i]! v) i l.length)) (λi=>l.length-i) ⟨ae,rfl⟩ [(0,0)] ?_;rintro i ⟨hi,hr⟩;refine zg ?_;intro u0;refine dP ?_ ?_<;>intro hc0
 .refine pA ?_;refine aF (hc:=hB ((l)[i]!) (v) jK) ?_;refine zc ?_ ?_<;>intro hc1
  .refine zr ?_;rw[hr,j1 ae];simp_all
  refine gM (i+1) [(0,0)] ?_;rw[hr,j1 ae];simp_all
 refine zr ?_;rw[hr];rcases hc0 with h|h
 .rw[sZ ae];simp
 .rw[h];rfl
def P1:aj:=bc 253
def w600 (hm:(Y.at 0).bU):JH (cw Y P1):=λv=>by
 refine zr ?_;first|(grind [vK];done)|(simp_all[vK];done)
def P2:aj:=bc 231
def w917 (hm:(Y.at 0).bU)(hA:C600 Y):Ki (cw Y P2):=λc=>by
 refine zr ?_;first|(grind [mS];done)|(simp_all[mS];done)
def ZO:aj:=bc 197
def w770 (hA:VI Y)(hB:C917 Y):uo (cw Y ZO):=λs hp0=>by
 refine pA ?_;refine aF (hc:=hA (s.rel) jK) ?_;refine fE ?_;refine cv (hc:=λhf=>hA (s.pr) jK) ?_;refine zc ?_ ?_<;>intro hc0
 .refine zr ?_;unfold v8;rcases hc0 with h|h<;>simp[h]
 refine zg ?_;refine zf hm (λi=>[.u 2,.p 0 2,.u 1,.i i,.u 2]) (λi=>[(0,.buf 2 [cx.D s])]) 13 (λi=>i<=s.rel.length/\v8 s=bW (λi=>mS s.rel[i]!.f&&mS s.rel[i]!.t) i s.rel.length) (λi=>s.rel.length-i) ⟨ae,by unfold v8;simp_all⟩ [(0,0)] ?_;rintro i ⟨hi,hr⟩;refine zg ?_;intro u0;refine dP ?_ ?_<;>intro hc1
 .refine zc ?_ ?_<;>intro hc2
  .refine zr ?_;rw[hr,aB ae];rcases hc2 with h|h<;>simp only[h,Bool.and_false,Bool.false_and]
  refine gM (i+1) [(0,0)] ?_;rw[hr,aB ae];simp_all
 refine zr ?_;rw[hr,bE ae]
def ZN:aj:=bc 158
def w627 (hm:(Y.at 0).bU)(hA:BT Y)(hB:VG Y)(hC:C782 Y):ui (cw Y ZN):=λs v hp0=>by
 refine zc ?_ ?_<;>intro hc0
 .refine zr ?_;first|(grind [oY];done)|(simp_all[oY];done)
 refine zc ?_ ?_<;>intro hc1
 .refine k9 ?_;refine aF (hc:=hC (s.rel) (v) jK) ?_;refine zr ?_;first|(grind [oY];done)|(simp_all[oY];done)
 refine k9 ?_;refine aF (hc:=hC (s.pr) (v) jK) ?_;refine zr ?_;first|(grind [oY];done)|(simp_all[oY];done)
def NI:aj:=bc 114
def w441 (hA:C442 Y)(hB:VD Y)(hC:C658 Y)(hD:C659 Y):Jk (cw Y NI):=λs hp0=>by
 refine zg ?_;refine aQ (λhc0=>?_) (λhc0=>?_)
 .simp only[cE]at hc0;refine zr ?_;symm;simp only[sM]at hc0⊢;rw[ep]at hc0⊢;rcases hc0 with h|h
  .exact Or.inl h
  .right;rw[Bool.eq_false_iff]at h⊢;intro h2;apply h;rw[bd]at h2⊢;intro j a b;have:=h2 j a b;simp only[jq,aA]at this⊢;exact⟨this.1,rfl⟩
 simp only[cZ]at hc0;refine zg ?_;intro u0;have hT:=hc0;simp only[sM,aA,aT]at hT;obtain⟨hT4,hTa⟩:=hT;rw[bd]at hTa;have hP:sM s true=bW (λi=>jq true (ba s 46)[i]!) 0 (ba s 46).length:=by
  simp only[sM];rw[br hT4];rfl
 refine zf hm (λi=>[.u 3,.i i,.i ((ba s 46).length:Nat),.u 1,.m 1 (ba s 46) D.str,.u 3]) (λi=>[]) 8 (λi=>i<=(ba s 46).length/\sM s true=bW (λi=>jq true (ba s 46)[i]!) i (ba s 46).length) (λi=>(ba s 46).length-i) ⟨ae,hP⟩ [] ?_;rintro i ⟨hi,hr⟩;refine zc ?_ ?_<;>intro hc1
 .refine zg ?_;refine wp_cond (λhc2=>?_) (λhc2=>?_)
  .skip
   refine zr ?_;have hz:jq true (ba s 46)[i]! =false:=by
    simp only[jq];revert hc2;generalize wi (ba s 46)[i]! =c;generalize cP (ba s 46)[i]! =a;generalize ot (ba s 46)[i]! =b;cases a<;>cases b<;>cases c<;>simp
   rw[hr,aB ae,hz];rfl
  skip
  refine zg ?_;have hz:jq true (ba s 46)[i]! =true:=by
   have:=hTa i ae ae;simp only[jq,Bool.false_and,Bool.not_false,gC]at this;simp only[jq,this];revert hc2;generalize cP (ba s 46)[i]! =a;generalize ot (ba s 46)[i]! =b;cases a<;>cases b<;>simp
  refine gM (i+1) [] ?_;rw[hr,aB ae,hz];rfl
 refine zr ?_;rw[hr,bE ae]
def NH:aj:=bc 68
def w209 (hm:(Y.at 0).bU)(hA:C440 Y)(hB:C441 Y)(hC:C442 Y):tM (cw Y NH):=λv hp0=>by
 refine En ?_;refine rb ?_;refine cv (hc:=λhf=>hB v.pre hp0.1) ?_;refine yr ?_;refine cv (hc:=λhf=>hC v.build hp0.2) ?_;exact lU
def Hf:aj:=bc 277
def w665 (hm:(Y.at 0).bU)(hA:C336 Y):oT (cw Y Hf):=λn hp0=>by
 exact lU
def Fe:aj:=bc 241
def w451 (hm:(Y.at 0).bU)(hA:AK Y)(hB:C665 Y):ua (cw Y Fe):=λv hp0=>by
 show du _ _ _ [⟨_,_⟩,_,_,_,_,_,_] _;obtain⟨hs1,hs2⟩:=hp0;have hp0:v.sm:=⟨hs1,hs2⟩;refine aP ?_;refine zg ?_;refine aQ (λhc0=>?_) (λhc0=>?_)
 .simp only[cE]at hc0;refine zr ?_;simp[uI,hc0]
 simp only[cZ]at hc0;refine cX ?_;have hv:=hc0;simp only[gJ,aA]at hv;obtain⟨⟨⟨⟨hv1,hv2⟩,hv3⟩,_⟩,_⟩:=hv;have hq1:=hv1;have hq2:=hv2;have hq3:=hv3;simp only[Cq,aA,aT]at hq1 hq2 hq3;have hl1:=hZ 4 v.major.toNat ae ae;have hl2:=hZ 4 v.minor.toNat ae ae;have hl3:=hZ 4 v.patch.toNat ae ae;refine zc ?_ ?_<;>intro hc1
 .refine zc ?_ ?_<;>intro hc2
  .refine zr ?_;simp[uI,Fc,hc0,hc1,hc2]
  refine zr ?_;simp[uI,Fc,hc0,hc1,hc2]
 refine zc ?_ ?_<;>intro hc2
 .refine zr ?_;simp[uI,Fc,hc0,hc1,hc2]
 refine zr ?_;simp[uI,Fc,hc0,hc1,hc2]
def qH:aj:=bc 205
def w463 (hm:(Y.at 0).bU):Jt (cw Y qH):=λh k hp0=>by
 show du _ _ _ [⟨_,_⟩,⟨_,_⟩,_,_] _;subst hp0;refine aP ?_;refine fE ?_;refine rB 13 (hb:=λ_=>by rw[IntKind.wrap_u64];rfl) ?_;refine Dl 13 (hb:=λ_=>by rw[IntKind.wrap_u64];rfl) ?_;refine k9 ?_;refine F1 (Z6 h 13) (hb:=λ_=>by rw[show min (Int.toNat (13:Int)) (IntKind.bits .u64)=13 by simp[IntKind.bits]];rfl) ?_;refine cX ?_;refine HZ 51 (hb:=λ_=>by rw[IntKind.wrap_u64];rfl) ?_;refine Sk (Gd h 51) (hb:=λ_=>by rw[show min (Int.toNat (51:Int)) (IntKind.bits .u64)=51 by simp[IntKind.bits]];rfl) ?_;refine afM (rot h 13) (hb:=λ_=>rfl) ?_;refine zg ?_;refine fK (aw (D.int .u64) ?_);rfl
def Oq:aj:=bc 167
def w220 (hA:C463 Y):tP (cw Y Oq):=λs=>by
 refine zg ?_;intro u0;refine zf hm (λi=>[.u 2,.i i,.i s.length,.u 1,.e (.sl 1 (s.map λb=>D.int .u8 b.toNat)),.e (.int .u64 (zn (s.take i))),.u 1]) (λi=>[]) 5 (λi=>i<=s.length) (λi=>s.length-i) ae [] ?_;intro i hi;refine zc ?_ ?_<;>intro hc0
 .refine fE ?_;refine dh (v:=.int .u8 (at8 s i)) (hv:=λ_=>ld8 s i) ?_;refine k9 ?_;refine rB (at8 s i) (hb:=λ_=>by have:=GU s i;rw[IntKind.wrap_u64];omega) ?_;refine HT (SW (zn (s.take i)) (at8 s i)) (hb:=λ_=>rfl) ?_;refine cO ?_;refine Zm (zn (s.take (i+1))) (hb:=λ_=>by rw[Gm s i ae];rfl) ?_;exact iy (i+1) []
 refine dJ ?_;have ht:s.take i=s:=gU ae;rw[ht];refine cX ?_;refine Sk (Gd (zn s) 29) (hb:=λ_=>rfl) ?_;refine HT (sumL s) (hb:=λ_=>rfl) ?_;refine zg ?_;refine fK (aw (D.int .u64) ?_);rfl
def Vj:aj:=bc 34
def w175 (hA:AK Y)(hB:Tg Y)(hC:C408 Y)(hD:C409 Y):tK (cw Y Vj):=λw hp0=>by
 refine zk21 ?_;intro u0;refine cK (0) (hj:=λhf=>ch) (hb:=λhf=>ch) ?_;refine qp ?_;refine cK (0) (hj:=λhf=>ch) (hb:=λhf=>ch) ?_;refine qp ?_;refine cK (0) (hj:=λhf=>ch) (hb:=λhf=>ch) ?_;refine zc ?_ ?_<;>intro hc0
 .refine zr ?_;unfold eG uR;grind
 refine zg ?_;intro u1;refine zf hm (λi=>[.u 2,.p 0 1,.i w.us.length,.u 1,.i i,.i w.us.length,.u 1,.m 3 w.us cI.D,.u 10]) (λi=>[(0,.buf 1 [bP.D w])]) 41 (λi=>i<=w.us.length/\w.us.length<=48/\eG w=bW (lF w.us) i w.us.length) (λi=>w.us.length-i) ⟨ae,ae,by unfold eG uR;grind⟩ [(0,0)] ?_;rintro i ⟨hi,h48,hr⟩;refine zc ?_ ?_<;>intro hc1
 .refine pA ?_;refine cy _ ?_;refine dJ ?_;have ho:=Ur w.us[i-1]! w.us[i]!;have hku:=hp0 _ (aq (show i<w.us.length by omega));refine gZ ?_;refine cO ?_;refine cK ((i-1)) (hj:=λhf=>ch) (hb:=λhf=>ch) ?_;refine kB ?_;refine cK ((i-1)) (hj:=λhf=>ch) (hb:=λhf=>ch) ?_;refine cX ?_;refine a7 (Key.D (⟨w.us[i-1]!.name,w.us[i-1]!.feat⟩:Key)) ?_;refine fE ?_;refine a7 (Key.D (⟨w.us[i]!.name,w.us[i]!.feat⟩:Key)) ?_;refine zc ?_ ?_<;>intro hc2
  .refine zr ?_;rw[hr,aB ae];unfold lF;grind
  refine zg ?_;intro u2;refine zfL hm (λk=>[.u 2,.p 0 1,.i w.us.length,.u 1,.i i,.i w.us.length,.u 1,.m 3 w.us cI.D,.i i,.p 1 3,.u 1,.i k,.i (w.us[i]!.cands.length:Nat),.u 1,.m 8 (w.us[i]!.cands) eB.D,.u 3]) (λk=>[(0,.buf 1 [bP.D w]),(1,.buf 3 [cI.D (w.us[i]!)])]) 93 (λk=>k<=w.us[i]!.cands.length/\bW (mZ w.us.length w.us[i]!.cands) 0 w.us[i]!.cands.length=bW (mZ w.us.length w.us[i]!.cands) k w.us[i]!.cands.length) (λk=>w.us[i]!.cands.length-k) ⟨ae,rfl⟩ [(0,0),(45,1)] ?_;rintro k ⟨hk,hr2⟩;refine zg ?_;refine dP ?_ ?_<;>intro hc3
  .refine fZ ?_;refine mJ ?_ hm;refine aP ?_;refine bI ?_;refine cK (k) (hj:=λhf=>ch) (hb:=λhf=>ch) ?_;refine dh (v:=eB.D ((w.us[i]!.cands)[k]!)) (hi:=λhf=>ch) ?_;refine xP ?_;refine bI ?_;refine cy _ ?_;refine bm (env':=[_,_,_,_,_,_,_,_,_,_,_,_,_,_,_,_,⟨_,_⟩,⟨_,(.int _ _)⟩,_]) ?_;refine aP ?_;refine Sg ?_;refine oR (v:=(bV.D _)) ?_;refine aF (hc:=hA _ ?_) ?_;rotate_left;first|assumption|omega|exact⟨hku.2 _ (aq ae),hku.2 _ (aq ae)⟩|exact(hku.2 _ (aq ae)).1|exact hku.2 _ (aq ae)|exact⟨(hku.2 _ (aq ae)).1,(hku.2 _ (aq ae)).1⟩
   refine Sj ?_;refine bI ?_;refine bI ?_;refine pe ?_;refine bI ?_;refine Sg ?_;refine oR (v:=.sl 8 ((w.us[i]!.cands).map eB.D)) ?_;refine bI ?_;refine BI (hb:=λhf=>ch) ?_;refine cK ((k-1)) (hj:=λhf=>ch) (hb:=λhf=>ch) ?_;refine Ag ?_;refine dh (v:=bV.D ((w.us[i]!.cands)[(k-1)]!.v)) (hi:=λhf=>ch) ?_;refine Sg ?_;refine oR (v:=(bV.D _)) ?_;refine cv (hc:=λhf=>hB ((w.us[i]!.cands)[(k-1)]!.v) _ ?_) ?_;rotate_left;first|assumption|omega|exact⟨hku.2 _ (aq ae),hku.2 _ (aq ae)⟩|exact(hku.2 _ (aq ae)).1|exact hku.2 _ (aq ae)|exact⟨(hku.2 _ (aq ae)).1,(hku.2 _ (aq ae)).1⟩
   refine HU ?_;refine uU ?_;refine Mt ?_;refine bI ?_;refine kW ?_;refine bI ?_;refine cv (hc:=λhf=>hD _ _ ?_) ?_;rotate_left;first|assumption|omega|exact⟨hku.2 _ (aq ae),hku.2 _ (aq ae)⟩|exact(hku.2 _ (aq ae)).1|exact hku.2 _ (aq ae)|exact⟨(hku.2 _ (aq ae)).1,(hku.2 _ (aq ae)).1⟩
   refine Sj ?_;refine Mt ?_;refine bm (env':=[_,_,_,_,_,_,_,_,_,_,_,_,_,_,_,_,_,_,⟨_,(.bool _)⟩]) ?_;refine Bo ?_ ?_<;>intro hc4
   .refine zr ?_;rw[hr,aB (i:=i) ae];unfold lF;rw[hr2,aB (i:=k) ae];simp only[mZ];grind
   refine gM (k+1) [(0,0),(1,1)] ?_;rw[hr2,aB ae];simp only[mZ];grind
  refine zl (i+1) [(0,0)] ?_;exact⟨ae,h48,by rw[hr,aB ae];unfold lF;rw[hr2,bE (i:=k) ae];grind⟩
 refine zr ?_;rw[hr,bE ae]
def PT:aj:=bc 245
def w882:Kb (cw Y PT):=λn hp0=>by
 refine k9 ?_;refine Ai ((n%10:Nat):Int) (hn:=by intro _;omega) (hb:=λ_=>rfl) ?_;refine rB ((n%10:Nat):Int) (hb:=λ_=>IntWalk.u8_in _ ae) ?_;refine Zc (((dg (n%10)).toNat:Nat):Int) (hb:=λ_=>by rw[afm ae];exact IntWalk.u8_in _ ae) ?_;refine bg [.int .u8 _] ?_;refine Zd [dg (n%10)] (he:=λ_=>mW.all ai rfl) (hs:=λ_=>rfl) ?_;refine zg ?_;have h0:nT n=(if n<10 then []else nT (n/10))++[dg (n%10)]:=by
  split
  .rename_i h;rw[Bq h,Nat.mod_eq_of_lt h];rfl
  .rw[Bp ae]
 refine zfx hm ((n,[dg (n%10)]):(Nat×au)) (λp=>[.e (.int .u64 (p.1:Nat)),.u 2,.e (.str p.2)]) (λp=>[]) 8 (λp=>p.1<=9999/\p.2.length<=9999-p.1+1/\nT n=(if p.1<10 then []else nT (p.1/10))++p.2) (λp=>p.1) ⟨hp0,aC,h0⟩ [] ?_;rintro⟨k,s⟩ ⟨hk,hs,hr⟩;dsimp only at hk hs hr⊢;refine zc ?_ ?_<;>intro hc0
 .refine fE ?_;refine afP ((k/10:Nat):Int) (hn:=by intro _;omega) (hb:=λ_=>by rw[show((k:Int).tdiv 10)=((k/10:Nat):Int)from rfl,IntKind.wrap_u64];omega) ?_;refine fE ?_;refine Ai (((k/10)%10:Nat):Int) (hn:=by intro _;omega) (hb:=λ_=>rfl) ?_;refine rB (((k/10)%10:Nat):Int) (hb:=λ_=>IntWalk.u8_in _ ae) ?_;refine Zc (((dg ((k/10)%10)).toNat:Nat):Int) (hb:=λ_=>by rw[afm ae];exact IntWalk.u8_in _ ae) ?_;refine bg [.int .u8 _] ?_;refine Zd [dg ((k/10)%10)] (he:=λ_=>mW.all ai rfl) (hs:=λ_=>rfl) ?_;refine zg ?_;have h1:nT n=(if k/10<10 then []else nT (k/10/10))++([dg (k/10%10)]++s):=by
   rw[hr,ah ae];split
   .rename_i h;rw[Bq h,Nat.mod_eq_of_lt h];rfl
   .rw[Bp ae,fC]
  exact⟨(k/10,[dg (k/10%10)]++s),⟨mK,fh,h1⟩,mK,(gtt [])⟩
 refine zr ?_;rw[hr,ak ae];rfl
def MU:aj:=bc 207
def w734 (hm:(Y.at 0).bU)(hA:C882 Y):oT (cw Y MU):=λn hp0=>by
 refine zc ?_ ?_<;>intro hc0
 .omega
 refine cX ?_;obtain⟨k,rfl⟩:∃k:Nat,n=k:=⟨n.toNat,ae⟩
 refine cO ?_;refine rB (k:Int) (hb:=λ_=>by rw[IntKind.wrap_u64];omega) ?_;exact lU
def PR:aj:=bc 131
def w470:ue (cw Y PR):=λs b hp0=>by
 refine zg ?_;refine gy hm (ι:=(Nat×Nat×List au)) (λp:Nat×Nat×List au=>[⟨true,.str s⟩,⟨true,.int .u8 b⟩,.un,⟨true,.int .i64 (p.1:Nat)⟩,.un,.un,⟨true,.own 0 1 0 p.2.2.length⟩,⟨true,.int .i64 (p.2.1:Nat)⟩]) (λp=>[(0,.buf 1 (p.2.2.map D.str))]) 4 (λp=>p.1<=s.length/\p.2.1<=p.1/\p.2.2.length<=p.1/\ba s b=p.2.2++fA b (s.drop p.1) ((s.take p.1).drop p.2.1)) (λp=>s.length-p.1) (0,0,[]) ⟨aC,aC,aC,rfl⟩ (aZ.to [] ai ai aba (by repeat(first|exact bo.nil|refine bo.mt ai ai ai ai ?_))) ?_;rintro⟨i,fr,acc⟩ ⟨hi,hf,ha,hr⟩;dsimp only at hi hf ha hr⊢;refine zg ?_;intro u0;refine dP ?_ ?_<;>intro hc0
 .refine zg ?_;refine wp_cond (λhc1=>?_) (λhc1=>?_)
  .try simp only[gO]at hc1
   refine kB ?_;refine bg [(.str _)] ?_;refine zg ?_;exact⟨(i+1,i+1,acc++[(s.take i).drop fr]),⟨mK,mK,fh,by rw[hr,Gi ae hc1];simp⟩,mK,(aZ.to [(19,0)] ai ai qqq6 (by refine bo.nl 19 ai ai ai dZ ?_;exact bo.nil))⟩
  simp only[ct]at hc1;refine zg ?_;exact⟨(i+1,fr,acc),⟨mK,mK,mK,by rw[hr,Gj ae ae hc1]⟩,mK,(aZ.to [(0,0)] ai ai qqq6 Ko)⟩
 refine qp ?_;refine bg [(.str _)] ?_;refine dJ ?_;refine bz 13 ?_;refine zr ?_;have hs:ba s b=acc++[s.drop fr]:=by rw[hr,DZ ae]
 rw[hs];exact rfl
def MQ:aj:=bc 257
def w1080:Ev (cw Y MQ):=λx hp0=>by
 refine zg ?_;refine ra hm (ι:=Unit) (λ_=>[.un,.un,⟨true,.ptr 1 4 0 0⟩,.un,⟨true,.own 0 2 0 (k8 x).length⟩,.un,.un,.un]) (λ_=>[(0,.buf 2 ((k8 x).map Key.D)),(1,.buf 4 [de.D x])]) 100 (λ_=>True) ?_ ?_
 .refine Bo ?_ ?_<;>intro hc0
  .refine fE ?_;refine a7 (Key.D ⟨x.name,lv⟩) ?_;refine bg [Key.D ⟨x.name,lv⟩] ?_;refine qO (ys:=[Key.D ⟨x.name,lv⟩]) (n:=1) (he:=mW.all rfl rfl) (hn:=rfl) (hb:=ae) ?_;refine zg ?_;have hst:[(⟨x.name,lv⟩:Key)]=k8 x:=(aak hc0).symm;rw[<-hst];exact⟨(),trivial,(aZ.to [(11,0),(0,1)] ai ai eM (by repeat(first|exact bo.nil|refine bo.AW ai ai dZ ?_|refine bo.NU ai ai ai ?_|refine bo.NV ai ai ai ai ?_|refine bo.nl 11 ai ai ai dZ ?_|refine bo.nl 0 ai ai ai dZ ?_)))⟩
  refine zg ?_;rw[aal hc0];exact⟨(),trivial,(aZ.to [(0,1)] ai ai eM (by repeat(first|exact bo.nil|refine bo.AW ai ai dZ ?_|refine bo.NU ai ai ai ?_|refine bo.NV ai ai ai ai ?_|refine bo.nl 0 ai ai ai dZ ?_|refine bo.mt ai ai ai ai ?_)))⟩
 .rintro _-
  refine cX ?_;have hal:=Qh x;refine zg ?_;refine ra hm (ι:=Unit) (λ_=>[.un,.un,⟨true,.ptr 1 4 0 0⟩,.un,⟨true,.own 0 2 0 (ox x).length⟩,.un,.un,.un]) (λ_=>[(0,.buf 2 ((ox x).map Key.D)),(1,.buf 4 [de.D x])]) 100 (λ_=>True) ?_ ?_
  .refine Bo ?_ ?_<;>intro hc1
   .refine fE ?_;refine a7 (Key.D ⟨x.name,[]⟩) ?_;refine bg [Key.D ⟨x.name,[]⟩] ?_;refine cH (q:=Key.D) (xs:=k8 x) (e:=⟨x.name,[]⟩) (hb:=ae) ?_;refine zg ?_;rw[aan hc1];exact⟨(),trivial,(aZ.to [(113,0),(1,1)] ai ai eM (by repeat(first|exact bo.nil|refine bo.AW ai ai dZ ?_|refine bo.NU ai ai ai ?_|refine bo.NV ai ai ai ai ?_|refine bo.nl 113 ai ai ai dZ ?_|refine bo.nl 1 ai ai ai dZ ?_)))⟩
   refine zg ?_;rw[aam hc1];exact⟨(),trivial,(aZ.to [(0,0),(1,1)] ai ai eM QA)⟩
  .rintro _-
   refine zg ?_;rw[aao x];refine zf hm (λi=>[.u 2,.p 1 4,.u 1,.o 0 2 (mU x i).length,.u 1,.i i,.u 1]) (λi=>[(0,.buf 2 ((mU x i).map Key.D)),(1,.buf 4 [de.D x])]) 101 (λi=>i<=x.feats.length) (λi=>x.feats.length-i) ae [(0,0),(1,1)] ?_;intro i hi;have hul:=Qj x i;refine zg ?_;intro u0;refine dP ?_ ?_<;>intro hc2
   .refine Em ?_;refine a7 (Key.D ⟨x.name,x.feats[i]!⟩) ?_;refine bg [Key.D ⟨x.name,x.feats[i]!⟩] ?_;refine cH (q:=Key.D) (xs:=mU x i) (e:=⟨x.name,x.feats[i]!⟩) (hb:=ae) ?_;refine zg ?_;rw[aaq ae];exact iy (i+1) [(116,0),(1,1)]
   refine cX ?_;obtain rfl:i=x.feats.length:=ae;rw[aap];refine bz 0 ?_;exact lU
def L0:aj:=bc 36
def w138 (hA:Th Y):tI (cw Y L0):=λe=>by
 refine zg ?_;refine zf hm (λi=>[.u 2,.p 0 3,.i i,.u 1,.e (Env.D e),.u 2]) (λi=>[(0,.buf 3 [Env.D e])]) 5 (λi=>i<=3/\nV e=bW (λi=>decide (e.at i=[]) ||gL (e.at i)) i 3) (λi=>3-i) ⟨ae,rfl⟩ [(0,0)] ?_;rintro i ⟨hi,hr⟩;refine zc ?_ ?_<;>intro hc0
 .refine dJ ?_;refine r_ixA i (.str (e.at i)) (hv:=λ_=>Env.cut e ae) ?_;refine zg ?_;refine wp_cond (λhc1=>?_) (λhc1=>?_)
  .simp only[aA,cE,ct]at hc1;refine zr ?_;rw[hr,aB ae];rw[bL hc1.1,hc1.2];rfl
  simp only[ep,cZ,aT]at hc1;refine gM (i+1) [(0,0)] ?_;rw[hr,aB ae];rw[show(decide (e.at i=[]) ||gL (e.at i))=true by rw[dK,aT];exact hc1];rfl
 refine zr ?_;rw[hr,bE ae]
def E0:aj:=bc 75
def w553 (hA:Tf Y)(hB:AK Y)(hC:Th Y):JE (cw Y E0):=λx hp0=>by
 refine zg ?_;intro u0;refine zf hm (λi=>[.u 2,.p 0 9,.i i,.i x.feats.length,.u 1,.m 1 x.feats D.str,.u 4]) (λi=>[(0,.buf 9 [ea.D x])]) 7 (λi=>i<=x.feats.length/\bW (zO x.feats) 0 x.feats.length=bW (zO x.feats) i x.feats.length) (λi=>x.feats.length-i) ⟨ae,rfl⟩ [(0,0)] ?_;rintro i ⟨hi,hr⟩;refine zc ?_ ?_<;>intro hc0
 .refine gZ ?_;refine pA ?_;refine cK (i-1) ?_;refine zc ?_ ?_<;>intro hc1
  .refine zr ?_;have hz:zO x.feats i=false:=by
    simp only[zO];revert hc1;generalize gL x.feats[i]! =z0;generalize Op.bytesLess x.feats[i-1]! x.feats[i]! =z1;by_cases e0:0<i<;>cases z0<;>cases z1<;>simp_all
   simp only[Hs];rw[hr,aB ae,hz];simp
  refine zg ?_;have hz:zO x.feats i=true:=by
   simp only[zO];revert hc1;generalize gL x.feats[i]! =z0;generalize Op.bytesLess x.feats[i-1]! x.feats[i]! =z1;by_cases e0:0<i<;>cases z0<;>cases z1<;>simp_all
  refine gM (i+1) [(0,0)] ?_;rw[hr,aB ae,hz];rfl
 refine gZ ?_;refine gZ ?_;refine k9 ?_;refine cv (hc:=λhf=>hB x.v hp0.1) ?_;refine zr ?_;simp only[Hs];rw[hr,bE ae];have h9:decide ((x.feats.length:Int)<=9)=decide (x.feats.length<=9):=lW.2 ae;rw[h9];have hc:x.shelf=[]->df x.shelf=false:=by intro e;rw[e];rfl
 revert hc;generalize df x.name=a;generalize gJ x.v=b;generalize df x.shelf=c;generalize decide (x.feats.length<=9)=d;by_cases e:x.shelf=[]<;>by_cases e2:x.sum=0<;>cases a<;>cases b<;>cases c<;>cases d<;>simp_all
def PL:aj:=bc 146
def w750 (hA:C903 Y):J0 (cw Y PL):=λall l hp0=>by
 refine zg ?_;intro u0;refine zf hm (λi=>[.m 2 all Key.D,.u 2,.i i,.i l.length,.u 1,.m 1 l dS,.u 7,.o 0 1 (dG all (l.take i)).length]) (λi=>[(0,.buf 1 ((dG all (l.take i)).map jJ))]) 5 (λi=>i<=l.length) (λi=>l.length-i) ae [] ?_;intro i hi;have htl:=Ve all l i;refine zc ?_ ?_<;>intro hc0
 .refine fE ?_;refine dh (v:=.sl 4 (((l)[i]!).map js.D)) (hi:=λhf=>ch) ?_;refine dJ ?_;have hrl:=hp0.2 _ (aq (show i<l.length by omega));refine zg ?_;intro u1;refine zf hm (λj=>[.m 2 all Key.D,.u 2,.i i,.i l.length,.u 1,.m 1 l dS,.u 1,.i j,.i (l[i]!.length:Nat),.u 1,.m 4 (l[i]!) js.D,.o 1 3 (rJ all l[i]! j).length,.u 1,.o 0 1 (dG all (l.take i)).length]) (λj=>[(0,.buf 1 ((dG all (l.take i)).map jJ)),(1,.buf 3 ((rJ all l[i]! j).map Want.D))]) 13 (λj=>j<=l[i]!.length) (λj=>l[i]!.length-j) ae [(0,0)] ?_;intro j hj;have htl2:=Vf all l[i]! j;refine zc ?_ ?_<;>intro hc1
  .refine kB ?_;refine cy _ ?_;refine yr ?_;refine a7 (Want.D ⟨eo all l[i]![j]!.k,l[i]![j]!.s⟩) ?_;refine bg [Want.D ⟨eo all l[i]![j]!.k,l[i]![j]!.s⟩] ?_;refine cH (q:=Want.D) (xs:=rJ all l[i]! j) (e:=⟨eo all l[i]![j]!.k,l[i]![j]!.s⟩) (hb:=ae) ?_;refine zg ?_;rw[aeK ae];exact iy (j+1) [(0,0),(27,1)]
  refine cX ?_;obtain rfl:j=l[i]!.length:=ae;refine bz 1 ?_ (he:=Ku) (hm:=Ku);refine dJ ?_;refine bg [jJ (rJ all l[i]! l[i]!.length)] ?_;refine cH (q:=jJ) (xs:=dG all (l.take i)) (e:=rJ all l[i]! l[i]!.length) (hb:=ae) ?_;refine zg ?_;rw[aeJ ae];exact iy (i+1) [(17,0)]
 refine cX ?_;obtain rfl:i=l.length:=ae;rw[List.take_length];refine bz 0 ?_ (he:=Ku) (hm:=Ku);exact lU
def MJ:aj:=bc 52
def w345 (hA:GN Y)(hB:C572 Y):I8 (cw Y MJ):=λl hp0=>by
 refine zg ?_;refine zf hm (λi=>[.m 2 l kE.D,.u 2,.i i,.u 3]) (λi=>[]) 3 (λi=>i<=l.length/\Cy l=gR (Cw l) i l.length) (λi=>l.length-i) ⟨ae,rfl⟩ [] ?_;rintro i ⟨hi,hr⟩;refine zg ?_;intro u0;refine dP ?_ ?_<;>intro hc0
 .refine gZ ?_;refine fE ?_;refine cK (i-1) (hj:=λhf=>BS) (hb:=λhf=>BS) ?_;refine zg ?_;refine aQ (λhc1=>?_) (λhc1=>?_)
  .simp only[gO]at hc1;simp only[gt_iff_lt,Int.natCast_pos]at hc1;have hz:=adk hc1;refine zg ?_;refine fK (bT (aw (D.int .i64) ?_) (aw (D.int .i64) ?_));all_goals rw[hr,gT ae (by rw[hz];decide),hz]
  simp only[gO]at hc1;simp only[gt_iff_lt,Int.natCast_pos]at hc1;have hq:¬(df l[i]!.name=false\/(0<i/\Op.bytesLess l[i-1]!.name l[i]!.name=false)):=by rintro(h|⟨h,h2⟩)<;>simp_all
  refine zg ?_;refine wp_cond (λhc2=>?_) (λhc2=>?_)
  .simp only[gO]at hc2;have hz:=adl hq hc2;refine zg ?_;refine fK (bT (aw (D.int .i64) ?_) (aw (D.int .i64) ?_));all_goals rw[hr,gT ae (by rw[hz];decide),hz]
  simp only[gO]at hc2;have hz:=Xo hq hc2;refine gM (i+1) [] ?_;rw[hr,kn ae hz]
 refine zg ?_;refine fK (bT (aw (D.int .i64) ?_) (aw (D.int .i64) ?_));all_goals rw[hr,kj ae]
def yW:aj:=bc 90
def w535 (hm:(Y.at 1).bU)(hA:GM (Y.at 1))(hB:C135 (Y.at 1))(hC:C297 (Y.at 1))(g:Gs)(own:au)(hp0:0<=g.i/\g.i<=990000):du (Y.at 1) yW.body (GP yW 2 (de.D (dE g own).1) (Gs.D (dE g own).2):Ex->List aY->St->Prop) (fQ yW (.ptr 0 2 0 0::[.str own])) ⟨1,[(0,.buf 2 [(Gs.D g)])]⟩:=by
 show du _ _ _ [⟨true,.ptr 0 2 0 0⟩,⟨true,.str own⟩,.un] ⟨1,[(0,.buf 2 [(Gs.D g)])]⟩;refine aP ?_;refine dJ ?_;have ho:=xJ g own;have r8:=(cS g own).2.eR 8 ae;refine cX ?_;refine di (hc:=hC g own hp0) ?_;refine fE ?_;refine di (hc:=hA (cS g own).2 8 ae iK) ?_;refine cK ((cS g own).2.val 8).toNat (hj:=λ_=>ae) (hb:=λ_=>uy) ?_;refine Dm (v:=.str kd[((cS g own).2.val 8).toNat]!) (hi:=λ_=>uy) ?_;refine cO ?_;refine di (hc:=hA (cS g own).2.aS 3 ae iK) ?_;refine cO ?_;refine bR [.str (cS g own).1,.str kd[((cS g own).2.val 8).toNat]!,.aL,.bool (decide (0<(cS g own).2.aS.val 3))] ?_;refine cX ?_;refine AH [(0,.buf 2 [Gs.D (dE g own).2]),(1,.buf 4 [de.D (dE g own).1])] (.id ai (.bf ai (.cons (.ag (.cons (.refl _) (.cons (.refl _) (.cons (.nil 1) (.cons (.refl _) .nil))))) .nil) .nil)) ?_;refine zg ?_;refine jc trivial Dk (dk ai (?_)) ai ai ai;rfl
def PO:aj:=bc 32
def w269 (hA:C506 Y):I4 (cw Y PO):=λw c hp0 hp1=>by
 refine zg ?_;refine zf hm (λi=>[.u 1,.m 1 c (D.int .i64),.u 2,.i i,.m 1 (fo w c) _,.u 2,.o 0 1 (Bb w c i).length,.u 1]) (λi=>[(0,.buf 1 ((Bb w c i).map (D.int .i64)))]) 8 (λi=>i<=(fo w c).length) (λi=>(fo w c).length-i) ae [] ?_;intro i hi;have htl:=aad w c i;have hnl:=L4 w c;refine zg ?_;intro u0;refine dP ?_ ?_<;>intro hc0
 .refine zc ?_ ?_<;>intro hc1
  .refine kB ?_;refine bg [.int .i64 (-1)] ?_;refine cH (q:=D.int .i64) (xs:=Bb w c i) (e:=(-1)) (hb:=ae) ?_;refine zg ?_;rw[ak7 hc1];exact iy (i+1) [(26,0)]
  refine fE ?_;refine bg [.int .i64 c[i]!] ?_;refine cH (q:=D.int .i64) (xs:=Bb w c i) (e:=c[i]!) (hb:=ae) ?_;refine zg ?_;rw[ak8 hc1];exact iy (i+1) [(25,0)]
 refine cX ?_;obtain rfl:i=(fo w c).length:=ae;refine bz 0 ?_;exact lU
def PV:aj:=bc 153
def w184 (hA:C416 Y):IU (cw Y PV):=λc l hp0=>by
 refine zg ?_;refine zf hm (λi=>[.m 1 c (D.int .i64),.m 2 l dY.D,.u 1,.i i,.u 2]) (λi=>[]) 2 (λi=>i<=l.length/\ko c l=oF (λi=>C1 c l[i]!) i l.length) (λi=>l.length-i) ⟨ae,rfl⟩ [] ?_;rintro i ⟨hi,hr⟩;refine zg ?_;intro u0;refine dP ?_ ?_<;>intro hc0
 .refine zc ?_ ?_<;>intro hc1
  .refine zr ?_;rw[hr,j1 ae];simp only[hc1,Bool.true_or]
  refine gM (i+1) [] ?_;rw[hr,j1 ae];simp only[hc1,Bool.false_or]
 refine zr ?_;rw[hr,sZ ae]
def ML:aj:=bc 97
def w356:Jb (cw Y ML):=λl nm=>by
 refine zg ?_;refine zf hm (λi=>[.m 11 l gW.D,.e (.str nm),.u 1,.i i,.u 2]) (λi=>[]) 2 (λi=>i<=l.length/\lR l nm=fR (isM nm) (l.drop i) i) (λi=>l.length-i) ⟨ae,rfl⟩ [] ?_;rintro i ⟨hi,hr⟩;refine zg ?_;intro u0;refine dP ?_ ?_<;>intro hc0
 .refine zc ?_ ?_<;>intro hc1
  .refine zr ?_;rw[hr,kN ae (by simpa[isM]using hc1)]
  refine gM (i+1) [] ?_;rw[hr,jy ae (by simpa[isM]using hc1)]
 refine zr ?_;rw[hr,ml ae]
end Go.Abs
end
