/- A part of the proofs. -/
import Derived.Test.YtkmlboofmolbaaaGreatDoorP09
set_option linter.all false
set_option maxRecDepth 60000
set_option maxHeartbeats 2000000
noncomputable section
namespace Go.Abs
variable {Y:Ctx}(hm:(Y.at 0).bV)
def HB:aj:=ba 203
def w70 (hA:Sz Y)(hB:An Y)(hC:C210 Y)(hD:C211 Y)(hE:C212 Y)(hF:C213 Y)(hG:C214 Y)(hH:C215 Y):y5 (cq Y HB):=fun r hp0=>by
 show dn _ _ _ (⟨true,Rec.D r⟩::.un::.un::.un::.un::.un::.un::.un::.un::.un::.un::.un::.un::.un::.un::.un::.un::.un::.un::.un::.un::.un::.un::.un::.un::.un::.un::.un::.un::.un::.un::.un::.un::.un::.un::.un::.un::.un::.un::[]) ⟨0,[]⟩;refine aP ?_;refine zg ?_;refine wp_cond (fun hc0=>?_) (fun hc0=>?_)
 .try simp only[gF]at hc0
  refine zg ?_;refine fE (bS (aw (D.int .i64) ?_) (aw (D.int .i64) ?_));all_goals (have hq:cS r=(4,0):=(by rw[cS,ak hc0]);rw[hq];first|done|rfl)
 simp only[df]at hc0;refine dD ?_;refine aE (hc:=hB r.v hp0.1.2) ?_;refine zg ?_;refine wp_cond (fun hc1=>?_) (fun hc1=>?_)
 .try simp only[gF]at hc1
  refine zg ?_;refine fE (bS (aw (D.int .i64) ?_) (aw (D.int .i64) ?_));all_goals (have hq:cS r=(5,0):=(by rw[cS,ah jB,ak hc1]);rw[hq];first|done|rfl)
 simp only[df]at hc1;refine zg ?_;intro u0;refine A3 ?_ ?_<;>intro hc2
 .refine zg ?_;refine fE (bS (aw (D.int .i64) ?_) (aw (D.int .i64) ?_));all_goals (have hq:cS r=(3,0):=(by rw[cS,ah jB,ah (by simp[hc1]),ak ae]);rw[hq];first|done|rfl)
 refine zg ?_;intro u1;refine fX hm (ι:=Nat) (fun i=>(.un::.un::.un::⟨true,.ptr 0 9 0 0⟩::.un::.un::.un::⟨true,.int .i64 (i:Nat)⟩::⟨true,.int .i64 (r.needs.length:Nat)⟩::.un::⟨true,.sl 3 (r.needs.map bj.D)⟩::.un::.un::.un::.un::.un::.un::.un::.un::.un::.un::.un::.un::.un::.un::.un::.un::.un::.un::.un::.un::.un::.un::.un::.un::.un::.un::.un::.un::[])) (fun i=>[(0,.buf 9 [Rec.D r])]) 28 (fun i=>i<=r.needs.length/\lz r=gI (fun i=>js r r.needs[i]!) i r.needs.length) (fun i=>r.needs.length-i) 0 ⟨ae,rfl⟩ (gtt [(0,0)]) ?_;rintro i ⟨hi,hr⟩;refine zc ?_ ?_<;>intro hc3
 .refine EO ?_;refine aE (hc:=hC r r.needs[i]! (hp0.2.1 _ (aq ae))) ?_;refine zc ?_ ?_<;>intro hc4
  .refine zg ?_;refine fE (bS (aw (D.int .i64) ?_) (aw (D.int .i64) ?_));all_goals
    have hq:cS r=(js r r.needs[i]!,((i:Nat):Int)):=by
     exact pk hc0 hc1 ae ae (LJ (by rw[hr,gJ ae hc4]) hc4) hc4
    rw[hq];first|done|rfl
  refine gD (i+1) [(0,0)] ?_;rw[hr,j5 ae hc4]
 refine fk ?_;have hn0:lz r=(0,0):=by rw[hr,j4 ae]
 refine zg ?_;intro u2;refine fX hm (ι:=Nat) (fun i=>(.un::.un::.un::⟨true,.ptr 0 9 0 0⟩::.un::.un::.un::.un::.un::.un::.un::.un::.un::.un::.un::⟨true,.int .i64 (i:Nat)⟩::⟨true,.int .i64 (r.bars.length:Nat)⟩::.un::⟨true,.sl 3 (r.bars.map mA.D)⟩::.un::.un::.un::.un::.un::.un::.un::.un::.un::.un::.un::.un::.un::.un::.un::.un::.un::.un::.un::.un::[])) (fun i=>[(0,.buf 9 [Rec.D r])]) 33 (fun i=>i<=r.bars.length/\uw r=gI (fun i=>rv r r.bars[i]!) i r.bars.length) (fun i=>r.bars.length-i) 0 ⟨ae,rfl⟩ (gtt [(0,0)]) ?_;rintro i ⟨hi,hr⟩;refine zc ?_ ?_<;>intro hc5
 .refine ib ?_;refine dD ?_;refine aE (hc:=hD r r.bars[i]!.name r.bars[i]!.range (hp0.2.2.1 _ (aq ae)).2.1) ?_;refine zg ?_;refine aQ (fun hc6=>?_) (fun hc6=>?_)
  .simp only[cz,cv]at hc6;have hbe:rv r r.bars[i]! =gB r r.bars[i]!.name r.bars[i]!.range:=by rw[rv,ak hc6]
   refine zg ?_;refine fE (bS (aw (D.int .i64) ?_) (aw (D.int .i64) ?_));all_goals
    have hq:cS r=(gB r r.bars[i]!.name r.bars[i]!.range,((i:Nat):Int)):=by
     exact pk hc0 hc1 ae ae (CE hn0 (by rw[hr,gJ ae (by rw[hbe];exact hc6),hbe]) hc6) hc6
    rw[hq];first|done|rfl
  try simp only[gF]at hc6
  refine fk ?_;refine aE (hc:=hE r.bars[i]!.when' (hp0.2.2.1 _ (aq ae)).2.2) ?_;refine zg ?_;refine wp_cond (fun hc7=>?_) (fun hc7=>?_)
  .simp only[cz]at hc7;have hbe:rv r r.bars[i]! =7:=by rw[rv,ah (fun h=>h hc6),ak hc7]
   refine zg ?_;refine fE (bS (aw (D.int .i64) ?_) (aw (D.int .i64) ?_));all_goals
    have hq:cS r=((7:Int),((i:Nat):Int)):=by
     exact pk hc0 hc1 ae ae (CE hn0 (by rw[hr,gJ ae (by rw[hbe];decide),hbe]) (show(7:Int)≠0 by decide)) (show(7:Int)≠0 by decide)
    rw[hq];first|done|rfl
  simp only[df]at hc7;have hbz:rv r r.bars[i]! =0:=by rw[rv,ah (fun h=>h hc6),ah (by rw[hc7];simp)]
  refine gD (i+1) [(0,0)] ?_;rw[hr,j5 ae hbz]
 refine fk ?_;have hb0:uw r=(0,0):=by rw[hr,j4 ae]
 refine cU ?_;refine aE (hc:=hF r.feats hp0.2.2.2) ?_;refine zg ?_;refine aQ (fun hc8=>?_) (fun hc8=>?_)
 .try simp only[gF]at hc8
  refine zg ?_;refine fE (bS (aw (D.int .i64) ?_) (aw (D.int .i64) ?_));all_goals
   have hq:cS r=(11,0):=by
    exact pk hc0 hc1 ae ae (LK hn0 hb0 hc8) aU
   rw[hq];first|done|rfl
 simp only[df]at hc8;refine zg ?_;intro u3;refine fX hm (ι:=Nat) (fun i=>(.un::.un::.un::⟨true,.ptr 0 9 0 0⟩::.un::.un::.un::.un::.un::.un::.un::.un::.un::.un::.un::.un::.un::.un::.un::.un::.un::.un::.un::.un::.un::⟨true,.int .i64 (i:Nat)⟩::⟨true,.int .i64 (r.feats.length:Nat)⟩::.un::⟨true,.sl 2 (r.feats.map b6.D)⟩::.un::.un::.un::.un::.un::.un::.un::.un::.un::.un::[])) (fun i=>[(0,.buf 9 [Rec.D r])]) 42 (fun i=>i<=r.feats.length/\GG r=gI (fun i=>mE r r.feats[i]!.of) i r.feats.length) (fun i=>r.feats.length-i) 0 ⟨ae,rfl⟩ (gtt [(0,0)]) ?_;rintro i ⟨hi,hr⟩;refine zc ?_ ?_<;>intro hc9
 .refine zg ?_;intro u4;refine Ic hm (ι:=Nat) (fun j=>(.un::.un::.un::⟨true,.ptr 0 9 0 0⟩::.un::.un::.un::.un::.un::.un::.un::.un::.un::.un::.un::.un::.un::.un::.un::.un::.un::.un::.un::.un::.un::⟨true,.int .i64 (i:Nat)⟩::⟨true,.int .i64 (r.feats.length:Nat)⟩::.un::⟨true,.sl 2 (r.feats.map b6.D)⟩::.un::⟨true,.int .i64 (j:Nat)⟩::⟨true,.int .i64 (r.feats[i]!.of.length:Nat)⟩::.un::⟨true,.sl 1 (r.feats[i]!.of.map D.str)⟩::.un::.un::.un::⟨true,.int .i64 (i:Nat)⟩::.un::[])) (fun j=>[(0,.buf 9 [Rec.D r])]) 53 (fun j=>j<=r.feats[i]!.of.length/\mE r r.feats[i]!.of=fM (fun j=>nQ r r.feats[i]!.of[j]!) j r.feats[i]!.of.length) (fun j=>r.feats[i]!.of.length-j) 0 ⟨ae,rfl⟩ (gtt [(0,0)]) ?_;rintro j ⟨hj,hjr⟩;refine zc ?_ ?_<;>intro hc10
  .refine uq ?_;refine aE (hc:=hG r r.feats[i]!.of[j]! (jh.it hp0.2.2.2 _ (aq ae) _ (aq ae))) ?_;refine zc ?_ ?_<;>intro hc11
   .refine zg ?_;refine fE (bS (aw (D.int .i64) ?_) (aw (D.int .i64) ?_));all_goals
     have hq:cS r=(nQ r r.feats[i]!.of[j]!,((i:Nat):Int)):=by
      have hie:mE r r.feats[i]!.of=nQ r r.feats[i]!.of[j]! :=by rw[hjr,lq ae hc11]
      exact pk hc0 hc1 ae ae (xe hn0 hb0 hc8 (by rw[hr,gJ (f:=(fun i=>mE r r.feats[i]!.of)) ae (by rw[hie];exact hc11),hie])) hc11
     rw[hq];first|done|rfl
   refine gD (j+1) [(0,0)] ?_;rw[hjr,py ae hc11]
  refine gD (i+1) [(0,0)] ?_;rw[hr,j5 (f:=(fun i=>mE r r.feats[i]!.of)) ae (by rw[hjr,px ae])]
 refine fk ?_;have hpz:ea r=(0,0):=xe hn0 hb0 hc8 (by rw[hr,j4 ae]);have hgd:E9 r:=⟨⟨hc0,hc1⟩,⟨ae,ae⟩,hpz⟩;refine mf ?_;refine aE (hc:=hH r ⟨hgd,hp0⟩) ?_;refine CT fun u5=>?_;specialize u5 rfl rfl
 refine oS ?_;refine bp (env':=(_::_::_::_::_::_::_::_::_::_::_::_::_::_::_::_::_::_::_::_::_::_::_::_::_::_::_::_::_::_::_::_::_::_::_::_::_::_::⟨_,(.bool _)⟩::[])) ?_;refine dG ?_ ?_<;>intro hc12
 .refine zg ?_;refine fE (bS (aw (D.int .i64) ?_) (aw (D.int .i64) ?_));all_goals
   have hq:cS r=(3,0):=by
    rw[wo hc0 hc1 ae ae hpz,ak ae]
   rw[hq];first|done|rfl
 refine zg ?_;refine fE (bS (aw (D.int .i64) ?_) (aw (D.int .i64) ?_));all_goals
  have hq:cS r=(0,0):=by
   rw[wo hc0 hc1 ae ae hpz,ah ae]
  rw[hq];first|done|rfl
def lu:aj:=ba 38
def w502 {Y:Ctx}(hm:(Y.at 2).bV)(shop:List bJ)(w:bT)(x:eg)(c:List Int)(kvs:List D)(hA:C274 (Y.at 2))(hB:C689 (Y.at 2))(hp0:LinP shop w x c)(hp1:Vf w.us kvs):dn (Y.at 2) lu.body (uc lu (fun d m=>d=.int .i64 (mH shop w.us x c).1/\look m 0=some (.buf 1 ((mH shop w.us x c).2.map (D.int .i64)))/\look m 1=some (.mpb kvs)):Ex->List aX->St->Prop) (fI lu [.agg [.sl 2 (shop.map bJ.D),.sl 3 (w.us.map cL.D),.fn 5000000 [.it 1],.own 0 1 0 c.length],eg.D x]) ⟨2,[(0,.buf 1 (c.map (D.int .i64))),(1,.mpb kvs)]⟩:=by
 show dn _ _ _ [⟨true,.agg [.sl 2 (shop.map bJ.D),.sl 3 (w.us.map cL.D),.fn 5000000 [.it 1],.own 0 1 0 c.length]⟩,⟨true,eg.D x⟩,.un,.un,.un,.un,.un,.un,.un,.un,.un,.un,.un,.un,.un,.un,.un,.un,.un,.un,.un,.un,.un,.un,.un,.un,.un,.un] ⟨2,[(0,.buf 1 (c.map (D.int .i64))),(1,.mpb kvs)]⟩;refine aP ?_;refine kV ?_;have hcl:=hp0.2;refine cV ?_;refine pK (v:=.fn 5000000 [.it 1]) ?_;refine cU ?_;refine a8 (Key.D (⟨x.name,[]⟩)) ?_;refine aeW (.tup [.int .i64 (xR w.us x.name []).1,.bool (xR w.us x.name []).2]) (hb:=hp1.1) (hv:=hp1.2 _ _) ?_;refine zc ?_ ?_<;>intro hc0
 .refine zg ?_;refine dY trivial jo (dc ai (?_)) ai ⟨by rw[Rx (Hn (H7 hc0))],by rw[Rx (Hn (H7 hc0))];exact rfl,cY⟩;rfl
 refine cU ?_;obtain⟨j,hj,hj2,hj1,hjl⟩:=ZD hc0;have hun:=hp0.1.2.1 _ (aq hjl);have h16:w.us[j]!.cands.length<=16:=hun.1;have hpl:=X5 (us:=w.us) (v:=x.v) (t:=true) hj;rw[hj2];refine x9 ?_;refine bB 3 ?_ (he:=Z3) (hm:=Z3);refine cU ?_;refine Rz [.ref 9 [eg.D x] 0 0] ?_;refine aE (hc:=hB w.us[j]!.cands true x ⟨fun c hc=>(hun.2 c hc).1,hp0.1.2.2⟩) ?_;refine dD ?_;rw[<-hpl];refine zc ?_ ?_<;>intro hc1
 .refine zg ?_;refine dY trivial jo (dc ai (?_)) ai ⟨by rw[Rx hc1],by rw[Rx hc1];exact rfl,cY⟩;rfl
 refine cV ?_;obtain⟨k,hk,hkl⟩:=aeU hj hc1;rw[hk];refine Ii ?_;refine qK hm (ι:=Unit) (fun _=>[.un,.un,.un,⟨true,.ptr 2 4 0 0⟩,⟨true,.ref 9 [eg.D x] 0 0⟩,.un,.un,⟨true,.int .i64 (j:Nat)⟩,.un,⟨true,.int .i64 (k:Nat)⟩,.un,.un,.un,.un,.un,.un,⟨true,.int .u64 (PB shop w.us[j]!.cands[k]! x)⟩,.un,.un,.un,.un,.un,.un,.un,.un,.un,.un,.un]) (fun _=>[(0,.buf 1 (c.map (D.int .i64))),(1,.mpb kvs),(2,.buf 4 [.agg [.sl 2 (shop.map bJ.D),.sl 3 (w.us.map cL.D),.fn 5000000 [.it 1],.own 0 1 0 c.length]])]) 60 (fun _=>Vm shop w.us[j]!.cands[k]! x) ?_ ?_
 .refine zc ?_ ?_<;>intro hc2
  .refine zg ?_;obtain⟨hsq,hsv⟩:=sum_a (shop:=shop) hc2;exact⟨(),hsq,(aY.to [(2,2)] ai ai aaa Z8)⟩
  refine ib ?_;refine cF w.us[j]!.cands[k]!.sh.toNat (hj:=fun hf=>PZ) (hb:=fun hf=>PZ) ?_;refine cV ?_;refine c7 (v:=.str shop[w.us[j]!.cands[k]!.sh.toNat]!.name) (hi:=fun hf=>PZ) ?_;refine zc ?_ ?_<;>intro hc3
  .refine zg ?_;refine dY trivial jo (dc ai (?_)) ai ⟨by rw[Fz hj hk (by rw[PC hc2 hc3];decide),PC hc2 hc3],by rw[Fz hj hk (by rw[PC hc2 hc3];decide)];exact rfl,cY⟩;rfl
  refine cV ?_;have hs0:0<=w.us[j]!.cands[k]!.sh/\w.us[j]!.cands[k]!.sh<(shop.length:Int):=ae;have hss:=hp0.1.1 _ (aq (show w.us[j]!.cands[k]!.sh.toNat<shop.length by omega));have hlm:=E7 (s:=shop[w.us[j]!.cands[k]!.sh.toNat]!) (nm:=x.name) (v:=x.v);refine x9 ?_;refine aE (hc:=hA shop[w.us[j]!.cands[k]!.sh.toNat]! x.name x.v ⟨hss,hp0.1.2.2⟩) ?_;refine zc ?_ ?_<;>intro hc4
  .refine zg ?_;refine dY trivial jo (dc ai (?_)) ai ⟨by rw[Fz hj hk (by rw[PD hc3 hc4];decide),PD hc3 hc4],by rw[Fz hj hk (by rw[PD hc3 hc4];decide)];exact rfl,cY⟩;rfl
  refine cU ?_;have hfl:(jE shop[w.us[j]!.cands[k]!.sh.toNat]! x.name x.v).toNat<shop[w.us[j]!.cands[k]!.sh.toNat]!.es.length:=by rcases hlm with h|⟨q,h,h2⟩<;>omega
  refine zg ?_;obtain⟨hsq,hsv⟩:=sum_c hc3 hc4;exact⟨(),hsq,(aY.to [(2,2)] ai ai aaa Z8)⟩
 .intro _ hsp;refine zg ?_;refine aQ (fun hc5=>?_) (fun hc5=>?_)
  .simp only[cz,cv]at hc5;have hsh:n9 shop w.us[j]!.cands[k]! x=13:=by rw[hsp,ah hc5]
   refine zg ?_;refine dY trivial jo (dc ai (?_)) ai ⟨by rw[Fz hj hk (by rw[hsh];decide),hsh],by rw[Fz hj hk (by rw[hsh];decide)];exact rfl,cY⟩;rfl
  simp only[df,aW]at hc5;have hsh:n9 shop w.us[j]!.cands[k]! x=0:=by rw[hsp,ak hc5]
  have hpe:=put_c (c:=c) hj hk hsh;refine qL ?_;refine sa ((c.set j (k:Int)).map (D.int .i64)) (hi:=lL) (he:=Bo ae _) ?_;refine zg ?_;intro u0;refine fX hm (ι:=Nat) (fun i=>[.un,.un,.un,⟨true,.ptr 2 4 0 0⟩,⟨true,.ref 9 [eg.D x] 0 0⟩,.un,.un,.un,.un,.un,.un,.un,.un,.un,.un,.un,.un,.un,⟨true,.int .i64 (i:Nat)⟩,⟨true,.int .i64 (x.feats.length:Nat)⟩,.un,⟨true,.sl 1 ((x.feats).map D.str)⟩,.un,.un,.un,.un,.un,.un]) (fun i=>[(0,.buf 1 ((GL w.us x (c.set j (k:Int)) i).map (D.int .i64))),(1,.mpb kvs),(2,.buf 4 [.agg [.sl 2 (shop.map bJ.D),.sl 3 (w.us.map cL.D),.fn 5000000 [.it 1],.own 0 1 0 c.length]])]) 74 (fun i=>i<=x.feats.length/\(mH shop w.us x c)=vi w.us x (x.feats.drop i) (GL w.us x (c.set j (k:Int)) i)) (fun i=>x.feats.length-i) 0 ⟨ae,hpe⟩ (aY.to [(2,2)] ai ai eD y8) ?_;rintro i ⟨hi,hr⟩;have hfl:=KT (us:=w.us) (x:=x) (c:=c.set j (k:Int)) i;rw[List.length_set]at hfl;refine zc ?_ ?_<;>intro hc6
  .refine x9 ?_;refine pK (v:=.fn 5000000 [.it 1]) ?_;refine dD ?_;refine a8 (Key.D (⟨x.name,(x.feats)[i]!⟩)) ?_;refine aeW (.tup [.int .i64 (xR w.us x.name x.feats[i]!).1,.bool (xR w.us x.name x.feats[i]!).2]) (hb:=hp1.1) (hv:=hp1.2 _ _) ?_;refine zc ?_ ?_<;>intro hc7
   .refine zg ?_;refine dY trivial jo (dc ai (?_)) ai ⟨by rw[hr,wG ae,ak (Hn (H7 hc7))],by rw[hr,wG ae,ak (Hn (H7 hc7))];exact rfl,cY⟩;rfl
   refine cV ?_;obtain⟨p,hp,hp2,hp3,hpl2⟩:=ZD hc7;have hun2:=hp0.1.2.1 _ (aq hpl2);have h162:w.us[p]!.cands.length<=16:=hun2.1;have hpp:=X5 (us:=w.us) (v:=x.v) (t:=false) hp;rw[hp2];refine p9 ?_;refine Rz [.ref 9 [eg.D x] 0 0] ?_;refine aE (hc:=hB w.us[p]!.cands false x ⟨fun c hc=>(hun2.2 c hc).1,hp0.1.2.2⟩) ?_;refine dD ?_;rw[<-hpp];refine zc ?_ ?_<;>intro hc8
   .refine zg ?_;refine dY trivial jo (dc ai (?_)) ai ⟨by rw[hr,wG ae,ak hc8],by rw[hr,wG ae,ak hc8];exact rfl,cY⟩;rfl
   refine cV ?_;obtain⟨q,hq,hql⟩:=aeU hp hc8;have hfs:(GL w.us x (c.set j (k:Int)) (i+1))=(GL w.us x (c.set j (k:Int)) i).set p (q:Int):=by rw[GL,hq,hp,Int.toNat_natCast]
   rw[hq];refine kn ?_;refine sa ((GL w.us x (c.set j (k:Int)) (i+1)).map (D.int .i64)) (hi:=lL) (he:=by rw[hfs];exact Bo ae _) ?_;refine zg ?_;exact⟨i+1,⟨ae,by rw[hr,wG ae,ah ae];rfl⟩,ae,(aY.to [(2,2)] ai ai eD y8)⟩
  refine zg ?_;refine dY trivial jo (dc ai (?_)) ai ⟨by rw[hr,KU ae],by rw[hr,KU ae];exact rfl,cY⟩;rfl
def Tx:aj:=ba 7
def w28 (hA:Gi Y)(hB:C110 Y)(hC:C111 Y)(hD:C112 Y)(hE:C135 Y)(hF:C136 Y):PQ (cq Y Tx):=fun ks=>by
 refine kV ?_;refine a8 (Gs.D (⟨ks,0⟩:Gs)) ?_;refine kn ?_;refine cF 0 (hj:=fun _=>rfl) (hb:=fun _=>aU) ?_;refine c7 (v:=bX.D bN[0]!) (hi:=fun _=>aU) ?_;refine c8 (hc:=hB (⟨ks,0⟩:Gs) Gn bN[0]! 3 aF aU) ?_;refine a8 (.agg [.str (jt ks).1.name,.int .i64 (jt ks).1.v.major,.int .i64 (jt ks).1.v.minor,.int .i64 (jt ks).1.v.patch,.str (jt ks).1.v.pre,.str (jt ks).1.v.build,.sl 3 ((jt ks).1.needs.map bj.D),.sl 3 ((jt ks).1.bars.map mA.D),.sl 2 ((jt ks).1.feats.map b6.D),.aK,.aK]) ?_;refine dD ?_;refine Ak [(3,.buf 2 [Gs.D (jt ks).2]),(11,.buf 11 [gO.D ⟨(jt ks).1,[],[]⟩])] ((.id ai (.bf ai (.cons (.ag ((.cons (.refl _) (.cons (.refl _) (.cons (.refl _) (.cons (.refl _) (.cons (.refl _) (.cons (.refl _) (.cons (.refl _) (.cons (.refl _) (.cons (.refl _) (.cons (.nil 2) (.cons (.nil 2) .nil))))))))))))) .nil) .nil))) ?_;refine cU ?_;have hst0:=adx (⟨ks,0⟩:Gs) Gn bN[0]!;rw[show oV (⟨ks,0⟩:Gs) Gn bN[0]! 3=jt ks from rfl]at hst0;have hst1:=adf (jt ks).2;have r4:=(jt ks).2.aR.eI 4 ae;have r5:=(jX (jt ks).2).2.aR.eI 4 ae;have r8:=(jX (jt ks).2).2.aR.aR.eI 8 ae;obtain⟨hq1,hq2⟩:=hst0;obtain⟨hq3,hq4⟩:=hst1;simp only at hq1 hq2;refine cV ?_;refine c8 (hc:=hA (jt ks).2 4 ae kR) ?_;refine zg ?_;refine qK hm (ι:=Unit) (fun _=>[.un,.un,⟨true,.ptr 0 2 0 0⟩,.un,⟨true,.ptr 1 11 0 0⟩,.un,.un,.un]) (fun _=>[(0,.buf 2 [Gs.D (jX (jt ks).2).2]),(1,.buf 11 [gO.D ⟨(jt ks).1,(jX (jt ks).2).1,[]⟩])]) 100 (fun _=>True) ?_ ?_
 .refine A3 ?_ ?_<;>intro hc0
  .refine dD ?_;refine c8 (hc:=hA (jt ks).2.aR 4 ae kR) ?_;refine cF ((jt ks).2.aR.val 4).toNat (hj:=fun _=>ae) (hb:=fun _=>o9) ?_;refine c7 (v:=.str cB[((jt ks).2.aR.val 4).toNat]!) (hi:=fun _=>o9) ?_;refine a8 (iC.D (⟨cB[((jt ks).2.aR.val 4).toNat]!,Dq⟩:iC)) ?_;refine bc [iC.D (⟨cB[((jt ks).2.aR.val 4).toNat]!,Dq⟩:iC)] ?_;refine cV ?_;refine cy (.agg [.str (jt ks).1.name,.int .i64 (jt ks).1.v.major,.int .i64 (jt ks).1.v.minor,.int .i64 (jt ks).1.v.patch,.str (jt ks).1.v.pre,.str (jt ks).1.v.build,.sl 3 ((jt ks).1.needs.map bj.D),.sl 3 ((jt ks).1.bars.map mA.D),.sl 2 ((jt ks).1.feats.map b6.D),.own 22 2 0 1,.sl 2 []]) (he:=cY) ?_;refine zg ?_;rw[ajq hc0];exact⟨(),trivial,(aY.fz 22 ai dS LV LV (aY.to [(3,0),(11,1)] ai ai eD Z7))⟩
  refine zg ?_;rw[ajp hc0];exact⟨(),trivial,(aY.to [(3,0),(11,1)] ai ai eD Z7)⟩
 .rintro _-
  refine dD ?_;refine c8 (hc:=hA (jX (jt ks).2).2 4 ae kR) ?_;refine zg ?_;refine qK hm (ι:=Unit) (fun _=>[.un,.un,.un,.un,⟨true,.ptr 0 11 0 0⟩,.un,.un,.un]) (fun _=>[(0,.buf 11 [gO.D (yA ks)])]) 100 (fun _=>True) ?_ ?_
  .refine A3 ?_ ?_<;>intro hc1
   .refine dD ?_;refine c8 (hc:=hA (jX (jt ks).2).2.aR 4 ae kR) ?_;refine cF ((jX (jt ks).2).2.aR.val 4).toNat (hj:=fun _=>ae) (hb:=fun _=>o9) ?_;refine CS (v:=.str cB[((jX (jt ks).2).2.aR.val 4).toNat]!) (hi:=fun _=>o9) ?_;refine fk ?_;refine c8 (hc:=hA (jX (jt ks).2).2.aR.aR j0.length aU (by simp only[Gs.aR];omega)) ?_;refine cF ((jX (jt ks).2).2.aR.aR.val 8).toNat (hj:=fun _=>by show(jX (jt ks).2).2.aR.aR.val 8=_;omega) (hb:=fun _=>ua) ?_;refine c7 (v:=.str j0[((jX (jt ks).2).2.aR.aR.val 8).toNat]!) (hi:=fun _=>ua) ?_;refine a8 (ko.D (⟨cB[((jX (jt ks).2).2.aR.val 4).toNat]!,j0[((jX (jt ks).2).2.aR.aR.val 8).toNat]!⟩:ko)) ?_;refine bc [ko.D (⟨cB[((jX (jt ks).2).2.aR.val 4).toNat]!,j0[((jX (jt ks).2).2.aR.aR.val 8).toNat]!⟩:ko)] ?_;refine cV ?_;refine cy (.agg [.str (jt ks).1.name,.int .i64 (jt ks).1.v.major,.int .i64 (jt ks).1.v.minor,.int .i64 (jt ks).1.v.patch,.str (jt ks).1.v.pre,.str (jt ks).1.v.build,.sl 3 ((jt ks).1.needs.map bj.D),.sl 3 ((jt ks).1.bars.map mA.D),.sl 2 ((jt ks).1.feats.map b6.D),.sl 2 ((jX (jt ks).2).1.map iC.D),.own 116 2 0 1]) (he:=cY) ?_;refine zg ?_;rw[show yA ks=⟨(jt ks).1,(jX (jt ks).2).1,[(⟨cB[((jX (jt ks).2).2.aR.val 4).toNat]!,j0[((jX (jt ks).2).2.aR.aR.val 8).toNat]!⟩:ko)]⟩by unfold yA;rw[acs hc1]];exact⟨(),trivial,(aY.fz 116 ai dS LV LV (aY.to [(1,0)] ai ai eD aab))⟩
   refine zg ?_;rw[show yA ks=⟨(jt ks).1,(jX (jt ks).2).1,[]⟩by unfold yA;rw[acr hc1]];exact⟨(),trivial,(aY.to [(1,0)] ai ai eD aab)⟩
  .rintro _-
   refine dD ?_;refine aE (hc:=hF (yA ks) (Q5 ks).1) ?_;refine zc ?_ ?_<;>intro hc2
   .refine dD ?_;refine cF 0 (hj:=fun _=>rfl) (hb:=fun _=>aU) ?_;refine c7 (v:=bX.D bN[0]!) (hi:=fun _=>aU) ?_;refine a8 (.agg [.str Gn,.int .i64 bN[0]!.major,.int .i64 bN[0]!.minor,.int .i64 bN[0]!.patch,.str bN[0]!.pre,.str bN[0]!.build,.aK,.aK,.aK]) ?_;refine a8 (.agg [.str Gn,.int .i64 bN[0]!.major,.int .i64 bN[0]!.minor,.int .i64 bN[0]!.patch,.str bN[0]!.pre,.str bN[0]!.build,.aK,.aK,.aK,.aK,.aK]) ?_;refine bc [.agg [.str Gn,.int .i64 bN[0]!.major,.int .i64 bN[0]!.minor,.int .i64 bN[0]!.patch,.str bN[0]!.pre,.str bN[0]!.build,.aK,.aK,.aK,.aK,.aK]] ?_;refine cU ?_;refine Ak [(114,.buf 11 [gO.D Xl])] ((.bf ai (.cons (.ag ((.cons (.refl _) (.cons (.refl _) (.cons (.refl _) (.cons (.refl _) (.cons (.refl _) (.cons (.refl _) (.cons (.nil 3) (.cons (.nil 3) (.cons (.nil 2) (.cons (.nil 2) (.cons (.nil 2) .nil))))))))))))) .nil) .nil)) ?_;refine bB 114 ?_;refine zr ?_;rw[show jx ks=Xl from ah hc2];rfl
   refine dD ?_;refine bc [gO.D (yA ks)] ?_;refine cU ?_;refine bB 110 ?_;refine zr ?_;rw[show jx ks=yA ks from ak hc2];rfl
def HI:aj:=ba 63
def w506 (hA:UT Y)(hB:C629 Y):I7 (cq Y HI):=fun w c hp0=>by
 refine zc ?_ ?_<;>intro hc0
 .refine zr ?_;rw[aiU hc0];rfl
 refine cU ?_;obtain⟨hcl,⟨hc1,hc48⟩,hcw⟩:=Ct hc0;refine cU ?_;intro u0;refine aeX c.length ?_;refine kV ?_;refine cF 0 (hj:=fun _=>rfl) (hb:=fun _=>ae) ?_;refine cU ?_;refine FA 0 (hj:=fun _=>rfl) (hb:=fun _=>ae) ?_;refine sa ((mG c).map D.bool) (hi:=by rw[List.length_replicate];omega) (he:=acX ae) ?_;refine zg ?_;refine zf hm (fun i=>[.u 1,.m 1 c (D.int .i64),.u 1,.p 1 1,.u 1,.o 0 1 c.length,.i i,.u 14]) (fun i=>[(0,.buf 1 ((jV w c i (mG c)).map D.bool)),(1,.buf 1 [bT.D w])]) 18 (fun i=>i<=c.length) (fun i=>c.length-i) ae [(8,0),(0,1)] ?_;intro i hi;have hI0:=Rb (w:=w) i (acW (c:=c));refine zg ?_;intro u1;refine dG ?_ ?_<;>intro hc1
 .refine zg ?_;refine ZT hm (fun j=>[.u 1,.m 1 c (D.int .i64),.u 1,.p 1 1,.u 1,.o 0 1 c.length,.i i,.u 1,.i j,.u 12]) (fun j=>[(0,.buf 1 ((iS w c j (jV w c i (mG c))).map D.bool)),(1,.buf 1 [bT.D w])]) 23 (fun j=>j<=c.length) (fun j=>c.length-j) ae [(0,0),(1,1)] ?_;intro j hj;have hI1:=Bb (w:=w) j hI0;have hl1:=hI1.1;refine zg ?_;intro u2;refine dG ?_ ?_<;>intro hc2
  .refine qL ?_;refine xk (q:=D.bool) (xs:=(iS w c j (jV w c i (mG c)))) (v:=.bool (iS w c j (jV w c i (mG c)))[j]!) (hi:=fun _=>ae) (hv:=fun _=>tZ) ?_;refine zc ?_ ?_<;>intro hc3
   .refine zg ?_;rw[<-aiQ (w:=w) (c:=c) (is:=(jV w c i (mG c))) (j:=j) (by rw[hc3];simp)];exact ij (j+1) [(0,0),(1,1)]
   refine cU ?_;have hcj:=hI1.2 j hc3;have hml:eu w=true/\uf w c=true:=by unfold eB at hc0;simpa using hc0
   obtain⟨⟨hcj2,hcje⟩,⟨hn24,_⟩,hmw,_⟩:=Bj (w:=w) (c:=c) (u:=j) ⟨⟨hp0,hml.1⟩,hml.2,ae,hcj⟩;refine Ii ?_;refine c7 (v:=.sl 1 ((aT w c j).needs.map jv)) (hi:=fun _=>ae) ?_;refine zg ?_;refine ZT hm (fun k=>[.u 1,.m 1 c (D.int .i64),.u 1,.p 1 1,.u 1,.o 0 1 c.length,.i i,.u 1,.i j,.u 2,.i k,.i ((aT w c j).needs.length:Nat),.u 1,.m 1 (aT w c j).needs jv,.u 6]) (fun k=>[(0,.buf 1 ((wT w c (iS w c j (jV w c i (mG c))) ((aT w c j).needs.take k)).map D.bool)),(1,.buf 1 [bT.D w])]) 47 (fun k=>k<=(aT w c j).needs.length) (fun k=>(aT w c j).needs.length-k) ae [(0,0),(1,1)] ?_;intro k hk;have hI2:=Ha (w:=w) ((aT w c j).needs.take k) hI1;refine zc ?_ ?_<;>intro hc4
   .refine fk ?_;refine c7 (v:=.sl 3 ((aT w c j).needs[k]!.map Want.D)) (hi:=fun _=>ae) ?_;refine zg ?_;intro u3;refine ZT hm (fun q=>[.u 1,.m 1 c (D.int .i64),.u 1,.p 1 1,.u 1,.o 0 1 c.length,.i i,.u 1,.i j,.u 2,.i k,.i ((aT w c j).needs.length:Nat),.u 1,.m 1 (aT w c j).needs jv,.u 1,.i q,.i ((aT w c j).needs[k]!.length:Nat),.u 1,.m 3 (aT w c j).needs[k]! Want.D,.u 1]) (fun q=>[(0,.buf 1 ((vw w c (wT w c (iS w c j (jV w c i (mG c))) ((aT w c j).needs.take k)) ((aT w c j).needs[k]!.take q)).map D.bool)),(1,.buf 1 [bT.D w])]) 54 (fun q=>q<=(aT w c j).needs[k]!.length) (fun q=>(aT w c j).needs[k]!.length-q) ae [(0,0),(1,1)] ?_;intro q hq;have hI3:=Hc (w:=w) ((aT w c j).needs[k]!.take q) hI2;have hl3:=hI3.1;refine zc ?_ ?_<;>intro hc5
    .refine dD ?_;have hmx:=hmw _ (aq (show k<(aT w c j).needs.length by omega)) _ (aq (show q<(aT w c j).needs[k]!.length by omega));have hxu:=hmx.2.1;refine dD ?_;refine cy _ ?_;refine x9 ?_;refine xk (q:=D.bool) (xs:=(vw w c (wT w c (iS w c j (jV w c i (mG c))) ((aT w c j).needs.take k)) ((aT w c j).needs[k]!.take q))) (v:=.bool (vw w c (wT w c (iS w c j (jV w c i (mG c))) ((aT w c j).needs.take k)) ((aT w c j).needs[k]!.take q))[(aT w c j).needs[k]![q]!.u.toNat]!) (hi:=fun _=>ae) (hv:=fun _=>tZ) ?_;refine qL ?_;refine sa ((Xw w c (vw w c (wT w c (iS w c j (jV w c i (mG c))) ((aT w c j).needs.take k)) ((aT w c j).needs[k]!.take q)) (aT w c j).needs[k]![q]!).map D.bool) (hi:=lL) (he:=by rw[cD];exact aeM ae _) ?_;refine zg ?_;rw[<-aiT ae];exact ij (q+1) [(0,0),(1,1)]
    refine zg ?_;rw[gK (show(aT w c j).needs[k]!.length<=q by omega),<-aiS ae];exact ij (k+1) [(0,0),(1,1)]
   refine zg ?_;rw[gK (show(aT w c j).needs.length<=k by omega),<-aiR hc3];exact ij (j+1) [(0,0),(1,1)]
  refine zg ?_;obtain rfl:j=c.length:=ae;rw[show iS w c c.length (jV w c i (mG c))=jV w c (i+1) (mG c)from rfl];exact ij (i+1) [(0,0),(1,1)]
 refine cU ?_;obtain rfl:i=c.length:=ae;have hl0:=hI0.1;rw[<-Rd hc0]at hl0⊢;rw[<-hl0];refine bB 0 ?_;exact my
def UB:aj:=ba 34
def w175 (hA:An Y)(hB:SA Y)(hC:C408 Y)(hD:C409 Y):tm (cq Y UB):=fun w hp0=>by
 refine zk21 ?_;intro u0;refine cF (0) (hj:=fun hf=>cg) (hb:=fun hf=>cg) ?_;refine qL ?_;refine cF (0) (hj:=fun hf=>cg) (hb:=fun hf=>cg) ?_;refine qL ?_;refine cF (0) (hj:=fun hf=>cg) (hb:=fun hf=>cg) ?_;refine zc ?_ ?_<;>intro hc0
 .refine zr ?_;unfold eu uA;grind
 refine zg ?_;intro u1;refine zf hm (fun i=>[.u 2,.p 0 1,.i w.us.length,.u 1,.i i,.i w.us.length,.u 1,.m 3 w.us cL.D,.u 10]) (fun i=>[(0,.buf 1 [bT.D w])]) 41 (fun i=>i<=w.us.length/\w.us.length<=48/\eu w=bU (lg w.us) i w.us.length) (fun i=>w.us.length-i) ⟨ae,ae,by unfold eu uA;grind⟩ [(0,0)] ?_;rintro i ⟨hi,h48,hr⟩;refine zc ?_ ?_<;>intro hc1
 .refine p9 ?_;refine cy _ ?_;refine dD ?_;have ho:=TM w.us[i-1]! w.us[i]!;have hku:=hp0 _ (aq (show i<w.us.length by omega));refine ib ?_;refine cV ?_;refine cF ((i-1)) (hj:=fun hf=>cg) (hb:=fun hf=>cg) ?_;refine kn ?_;refine cF ((i-1)) (hj:=fun hf=>cg) (hb:=fun hf=>cg) ?_;refine cU ?_;refine a8 (Key.D (⟨w.us[i-1]!.name,w.us[i-1]!.feat⟩:Key)) ?_;refine fk ?_;refine a8 (Key.D (⟨w.us[i]!.name,w.us[i]!.feat⟩:Key)) ?_;refine zc ?_ ?_<;>intro hc2
  .refine zr ?_;rw[hr,az ae];unfold lg;grind
  refine zg ?_;intro u2;refine ZT hm (fun k=>[.u 2,.p 0 1,.i w.us.length,.u 1,.i i,.i w.us.length,.u 1,.m 3 w.us cL.D,.i i,.p 1 3,.u 1,.i k,.i (w.us[i]!.cands.length:Nat),.u 1,.m 8 (w.us[i]!.cands) en.D,.u 3]) (fun k=>[(0,.buf 1 [bT.D w]),(1,.buf 3 [cL.D (w.us[i]!)])]) 93 (fun k=>k<=w.us[i]!.cands.length/\bU (mP w.us.length w.us[i]!.cands) 0 w.us[i]!.cands.length=bU (mP w.us.length w.us[i]!.cands) k w.us[i]!.cands.length) (fun k=>w.us[i]!.cands.length-k) ⟨ae,rfl⟩ [(0,0),(45,1)] ?_;rintro k ⟨hk,hr2⟩;refine zg ?_;refine dG ?_ ?_<;>intro hc3
  .refine fP ?_;refine mw ?_ hm;refine aP ?_;refine bE ?_;refine cF (k) (hj:=fun hf=>cg) (hb:=fun hf=>cg) ?_;refine c7 (v:=en.D ((w.us[i]!.cands)[k]!)) (hi:=fun hf=>cg) ?_;refine xh ?_;refine bE ?_;refine cy _ ?_;refine bp (env':=[_,_,_,_,_,_,_,_,_,_,_,_,_,_,_,_,⟨_,_⟩,⟨_,(.int _ _)⟩,_]) ?_;refine aP ?_;refine Ry ?_;refine pK (v:=(bX.D _)) ?_;refine aE (hc:=hA _ ?_) ?_;rotate_left;first|assumption|omega|exact⟨hku.2 _ (aq ae),hku.2 _ (aq ae)⟩|exact(hku.2 _ (aq ae)).1|exact hku.2 _ (aq ae)|exact⟨(hku.2 _ (aq ae)).1,(hku.2 _ (aq ae)).1⟩
   refine RA ?_;refine bE ?_;refine bE ?_;refine oS ?_;refine bE ?_;refine Ry ?_;refine pK (v:=.sl 8 ((w.us[i]!.cands).map en.D)) ?_;refine bE ?_;refine Bn (hb:=fun hf=>cg) ?_;refine cF ((k-1)) (hj:=fun hf=>cg) (hb:=fun hf=>cg) ?_;refine zM ?_;refine c7 (v:=bX.D ((w.us[i]!.cands)[(k-1)]!.v)) (hi:=fun hf=>cg) ?_;refine Ry ?_;refine pK (v:=(bX.D _)) ?_;refine ct (hc:=fun hf=>hB ((w.us[i]!.cands)[(k-1)]!.v) _ ?_) ?_;rotate_left;first|assumption|omega|exact⟨hku.2 _ (aq ae),hku.2 _ (aq ae)⟩|exact(hku.2 _ (aq ae)).1|exact hku.2 _ (aq ae)|exact⟨(hku.2 _ (aq ae)).1,(hku.2 _ (aq ae)).1⟩
   refine Hr ?_;refine uD ?_;refine LW ?_;refine bE ?_;refine mf ?_;refine bE ?_;refine ct (hc:=fun hf=>hD _ _ ?_) ?_;rotate_left;first|assumption|omega|exact⟨hku.2 _ (aq ae),hku.2 _ (aq ae)⟩|exact(hku.2 _ (aq ae)).1|exact hku.2 _ (aq ae)|exact⟨(hku.2 _ (aq ae)).1,(hku.2 _ (aq ae)).1⟩
   refine RA ?_;refine LW ?_;refine bp (env':=[_,_,_,_,_,_,_,_,_,_,_,_,_,_,_,_,_,_,⟨_,(.bool _)⟩]) ?_;refine A3 ?_ ?_<;>intro hc4
   .refine zr ?_;rw[hr,az (i:=i) ae];unfold lg;rw[hr2,az (i:=k) ae];simp only[mP];grind
   refine gD (k+1) [(0,0),(1,1)] ?_;rw[hr2,az ae];simp only[mP];grind
  refine zl (i+1) [(0,0)] ?_;exact⟨ae,h48,by rw[hr,az ae];unfold lg;rw[hr2,bA (i:=k) ae];grind⟩
 refine zr ?_;rw[hr,bA ae]
def qo:aj:=ba 27
def w266 {Y:Ctx}(hm:(Y.at 1).bV)(hA:Gi (Y.at 1))(hB:C110 (Y.at 1))(hC:C111 (Y.at 1))(hD:C112 (Y.at 1))(hE:C503 (Y.at 1))(hF:C504 (Y.at 1))(g:Gs)(l:List bJ)(hp0:0<=g.i/\g.i<=960000)(hp1:ja l/\1<=l.length/\l.length<=100):dn (Y.at 1) qo.body (Gl qo 2 (.sl 2 ((lF g l).1.map bJ.D)) (Gs.D (lF g l).2):Ex->List aX->St->Prop) (fI qo (.ptr 0 2 0 0::[.sl 2 (l.map bJ.D)])) ⟨1,[(0,.buf 2 [(Gs.D g)])]⟩:=by
 show dn _ _ _ [⟨true,.ptr 0 2 0 0⟩,⟨true,.sl 2 (l.map bJ.D)⟩,.un,.un,.un,.un,.un,.un,.un,.un,.un,.un,.un,.un] ⟨1,[(0,.buf 2 [(Gs.D g)])]⟩;refine aP ?_;refine dD ?_;obtain⟨hsh,hl1,hl2⟩:=hp1;have rk:=g.eI l.length ae;have r1:=g.aR.eI 4 ae;have r2:=g.aR.aR.eI 4 ae;have hk:g.val l.length=(((kG g l):Nat):Int):=by unfold kG;omega
 have hkl:(kG g l)<l.length:=by unfold kG;omega
 refine dD ?_;intro u0;refine c8 (hc:=hA g l.length ae ae) ?_;refine kV ?_;refine c8 (hc:=hA g.aR 4 ae kR) ?_;refine cF (g.aR.val 4).toNat (hj:=fun _=>ae) (hb:=fun _=>o9) ?_;refine CS (v:=.str cB[(g.aR.val 4).toNat]!) (hi:=fun _=>o9) ?_;refine cU ?_;refine c8 (hc:=hA g.aR.aR 4 ae kR) ?_;refine cF (g.aR.aR.val 4).toNat (hj:=fun _=>ae) (hb:=fun _=>by simp[bN];omega) ?_;refine c7 (v:=bX.D bN[(g.aR.aR.val 4).toNat]!) (hi:=fun _=>by simp[bN];omega) ?_;refine cU ?_;refine cy (bX.D (vrG g)) (he:=cY) ?_;refine cV ?_;refine bB 17 ?_ (he:=Z4) (hm:=Z4);refine cU ?_;refine yM (ys:=l.map bJ.D) (n:=l.length) (he:=nF.sl) (hn:=aF) (hb:=ae) ?_;refine kV ?_;refine c8 (hc:=hA g.aR.aR.aR 6 ae kR) ?_;refine zc ?_ ?_<;>intro hc0
 .refine kn ?_;refine CS (v:=bJ.D l[(kG g l)]!) (hi:=fun _=>ae) ?_;refine cV ?_;refine OM (v:=bX.D (vrG g)) ?_;refine cV ?_;refine c8 (hc:=hA g.aR.aR.aR.aR 3 ae kR) ?_;refine cV ?_;refine aE (hc:=hE l[(kG g l)]! (nmG g) (vrG g) (decide (0<g.aR.aR.aR.aR.val 3)) ⟨GM hsh _,xS _⟩) ?_;refine fk ?_;refine cy (bJ.D (UN g l).1) (he:=cY) ?_;refine zc ?_ ?_<;>intro hc1
  .refine kV ?_;refine sa ((l.set (kG g l) (UN g l).1).map bJ.D) (hi:=lL) (he:=HZ ae rfl) ?_;refine cU ?_;rw[show D.own 21 2 0 l.length=D.own 21 2 0 (l.set (kG g l) (UN g l).1).length from by rw[List.length_set]];refine fk ?_;refine bB 21 ?_;refine zg ?_;refine iP trivial jo (dc ai (?_)) (by rw[Yb hc0 hc1];exact rfl) ai ai;rw[Yb hc0 hc1];rfl
  refine kn ?_;refine bB 21 ?_;refine zg ?_;refine iP trivial jo (dc ai (?_)) (by rw[Yc hc0 hc1];exact rfl) ai ai;rw[Yc hc0 hc1];rfl
 refine kn ?_;refine CS (v:=bJ.D l[(kG g l)]!) (hi:=fun _=>ae) ?_;refine dD ?_;refine c8 (hc:=hB g.aR.aR.aR.aR (nmG g) (vrG g) 2 J8 aU) ?_;refine aE (hc:=hF l[(kG g l)]! (rcG g).1 ⟨GM hsh _,YO _ (yB _) (xS _)⟩) ?_;refine fk ?_;refine cy (bJ.D (UL g l).1) (he:=cY) ?_;refine zc ?_ ?_<;>intro hc2
 .refine kV ?_;refine sa ((l.set (kG g l) (UL g l).1).map bJ.D) (hi:=lL) (he:=HZ ae rfl) ?_;refine cV ?_;rw[show D.own 21 2 0 l.length=D.own 21 2 0 (l.set (kG g l) (UL g l).1).length from by rw[List.length_set]];refine fk ?_;refine bB 21 ?_;refine zg ?_;refine iP trivial jo (dc ai (?_)) (by rw[Yd hc0 hc2];exact rfl) ai ai;rw[Yd hc0 hc2];rfl
 refine kV ?_;refine bB 21 ?_;refine zg ?_;refine iP trivial jo (dc ai (?_)) (by rw[Ye hc0 hc2];exact rfl) ai ai;rw[Ye hc0 hc2];rfl
def Mj:aj:=ba 257
def w1080:D0 (cq Y Mj):=fun x hp0=>by
 refine zg ?_;refine qK hm (ι:=Unit) (fun _=>[.un,.un,⟨true,.ptr 1 4 0 0⟩,.un,⟨true,.own 0 2 0 (kP x).length⟩,.un,.un,.un]) (fun _=>[(0,.buf 2 ((kP x).map Key.D)),(1,.buf 4 [cZ.D x])]) 100 (fun _=>True) ?_ ?_
 .refine A3 ?_ ?_<;>intro hc0
  .refine fk ?_;refine a8 (Key.D ⟨x.name,kW⟩) ?_;refine bc [Key.D ⟨x.name,kW⟩] ?_;refine yM (ys:=[Key.D ⟨x.name,kW⟩]) (n:=1) (he:=nF.all rfl rfl) (hn:=rfl) (hb:=ae) ?_;refine zg ?_;have hst:[(⟨x.name,kW⟩:Key)]=kP x:=(Zw hc0).symm;rw[<-hst];exact⟨(),trivial,(aY.to [(11,0),(0,1)] ai ai eD (by repeat(first|exact bm.nil|refine bm.AA ai ai dS ?_|refine bm.Nj ai ai ai ?_|refine bm.Nk ai ai ai ai ?_|refine bm.nl 11 ai ai ai dS ?_|refine bm.nl 0 ai ai ai dS ?_)))⟩
  refine zg ?_;rw[Zx hc0];exact⟨(),trivial,(aY.to [(0,1)] ai ai eD (by repeat(first|exact bm.nil|refine bm.AA ai ai dS ?_|refine bm.Nj ai ai ai ?_|refine bm.Nk ai ai ai ai ?_|refine bm.nl 0 ai ai ai dS ?_|refine bm.mt ai ai ai ai ?_)))⟩
 .rintro _-
  refine cU ?_;have hal:=PF x;refine zg ?_;refine qK hm (ι:=Unit) (fun _=>[.un,.un,⟨true,.ptr 1 4 0 0⟩,.un,⟨true,.own 0 2 0 (oa x).length⟩,.un,.un,.un]) (fun _=>[(0,.buf 2 ((oa x).map Key.D)),(1,.buf 4 [cZ.D x])]) 100 (fun _=>True) ?_ ?_
  .refine A3 ?_ ?_<;>intro hc1
   .refine fk ?_;refine a8 (Key.D ⟨x.name,[]⟩) ?_;refine bc [Key.D ⟨x.name,[]⟩] ?_;refine cI (q:=Key.D) (xs:=kP x) (e:=⟨x.name,[]⟩) (hb:=ae) ?_;refine zg ?_;rw[Zz hc1];exact⟨(),trivial,(aY.to [(113,0),(1,1)] ai ai eD (by repeat(first|exact bm.nil|refine bm.AA ai ai dS ?_|refine bm.Nj ai ai ai ?_|refine bm.Nk ai ai ai ai ?_|refine bm.nl 113 ai ai ai dS ?_|refine bm.nl 1 ai ai ai dS ?_)))⟩
   refine zg ?_;rw[Zy hc1];exact⟨(),trivial,(aY.to [(0,0),(1,1)] ai ai eD PX)⟩
  .rintro _-
   refine zg ?_;rw[ZA x];refine zf hm (fun i=>[.u 2,.p 1 4,.u 1,.o 0 2 (mL x i).length,.u 1,.i i,.u 1]) (fun i=>[(0,.buf 2 ((mL x i).map Key.D)),(1,.buf 4 [cZ.D x])]) 101 (fun i=>i<=x.feats.length) (fun i=>x.feats.length-i) ae [(0,0),(1,1)] ?_;intro i hi;have hul:=PH x i;refine zg ?_;intro u0;refine dG ?_ ?_<;>intro hc2
   .refine Ih ?_;refine a8 (Key.D ⟨x.name,x.feats[i]!⟩) ?_;refine bc [Key.D ⟨x.name,x.feats[i]!⟩] ?_;refine cI (q:=Key.D) (xs:=mL x i) (e:=⟨x.name,x.feats[i]!⟩) (hb:=ae) ?_;refine zg ?_;rw[ZC ae];exact ij (i+1) [(116,0),(1,1)]
   refine cU ?_;obtain rfl:i=x.feats.length:=ae;rw[ZB];refine bB 0 ?_;exact my
def TY:aj:=ba 20
def w501 {Y:Ctx}(hm:(Y.at 0).bV)(hA:Bv Y)(hB:SD Y):tR (cq Y TY):=fun a b hp0=>by
 exact my
def L8:aj:=ba 96
def w580 (hA:C501 Y):tH (cq Y L8):=fun l nm v hp0=>by
 refine zg ?_;refine zf hm (fun i=>[.m 11 l ki.D,.e (.str nm),.u 2,.i i,.u 1,.p 0 5,.u 1]) (fun i=>[(0,.buf 5 [bX.D v])]) 3 (fun i=>i<=l.length/\r7 l nm v 0=r7 l nm v i) (fun i=>l.length-i) ⟨ae,rfl⟩ [(0,0)] ?_;rintro i ⟨hi,hr⟩;refine zg ?_;intro u0;refine dG ?_ ?_<;>intro hc0
 .refine zc ?_ ?_<;>intro hc1
  .refine zr ?_;rw[hr,X2 ae (acB hc1)]
  refine gD (i+1) [(0,0)] ?_;rw[hr,X4 ae (ain hc1)]
 refine zr ?_;rw[hr,Rt ae]
def TX:aj:=ba 95
def w358 (hA:C75 Y)(hB:Gj Y)(hC:UX Y):tA (cq Y TX):=fun s hp0=>by
 refine zg ?_;refine aQ (fun hc0=>?_) (fun hc0=>?_)
 .simp only[dC,cz,aW]at hc0;have hf:gQ s=false:=by
   unfold gQ;rcases hc0 with h|h
   .rw[h];rfl
   .rw[show decide (s.es.length<=64)=false from bG ae];simp
  refine zr ?_;exact hf.symm
 simp only[eW,df,cv]at hc0;have hq:gQ s=bU (rH s.es) 0 s.es.length:=by unfold gQ;rw[hc0.1,bo (show s.es.length<=64 by omega)];simp
 refine zg ?_;refine zf hm (fun i=>[.u 2,.p 0 2,.u 1,.i i,.u 5]) (fun i=>[(0,.buf 2 [bJ.D s])]) 13 (fun i=>i<=s.es.length/\gQ s=bU (rH s.es) i s.es.length) (fun i=>s.es.length-i) ⟨ae,hq⟩ [(0,0)] ?_;rintro i ⟨hi,hr⟩;refine zg ?_;intro u0;refine dG ?_ ?_<;>intro hc1
 .refine dD ?_;have hsm:=hp0 _ (aq (show i<s.es.length by omega));refine ib ?_;refine ib ?_;refine p9 ?_;refine ct (hc:=fun hf=>hC s.es s.es[i]!.r.name s.es[i]!.r.v ⟨fun x hx=>(hp0 x hx).1.2,hsm.1.2⟩) ?_;refine zg ?_;refine wp_cond (fun hc2=>?_) (fun hc2=>?_)
  .have hen:rH s.es i=false:=by
    simp only[dC,cz,aW,cv]at hc2;exact ab3 ae hc2
   refine zr ?_;rw[hr,az ae,hen];rfl
  have hen:rH s.es i=true:=by
   simp only[eW,df,aW,cv]at hc2;exact V5 ae hc2.1.1 hc2.1.2 hc2.2
  refine gD (i+1) [(0,0)] ?_;rw[hr,az ae,hen];rfl
 refine zr ?_;rw[hr,bA ae]
def T4:aj:=⟨2,7,[⟨2,none⟩],[[.sl 2 [.a,.a]]],(sq (rg [gb 2 s1,gm (.c (.aK))] [(4,0),(2,1)]) (sq (r1 [gm x8] 3 0) (sq (.block 0 (.loop (sq (sq (r2 [gm s3,gm s0,gl l1,nX l0 l2,gm l3,gmt 4 s0,gmt 4 s3,Ay 4 (.ia 2 l5 l6),Ay 4 (.ld 2 true l7),Ay 4 (.ld 2 true s4),Ay 4 (.call 902 [l8,l9] [[.a,.a],[.a,.a]]),ga1 l4 l10] 5 11) (gce s5 0)) (.block 1 (r1 [gm s3,qu l0 Tk,gm l1] 3 2))))) (sq (sq (r2 [gm s3,gm s0,gl l1,nX l0 l2,gm l3,gmt 4 s0,gmt 4 s3,Ay 4 (.ia 2 l5 l6),Ay 4 (.ld 2 true l7),Ay 4 (.ld 2 true s4),Ay 4 (.eqA false true [.s,.s] l8 l9),ga1 l4 l10] 6 11) (.cond s6 (sq (r1 [gm s0,gm l0] 2 1) .ret) .skip)) (sq (r2 [gm s0,gm s3,gn (.slA 2 l0 none (some l1)),gn (.appN 2 l2),gk 2 true s4,gn (.bsl 2 (.agg [.str [],.str []]) 1 [(0,l4)]),gn (.app 2 l3 l5),gm s0,gm s3,gn (.slA 2 l7 (some l8) none),gn (.app 2 l6 l9),gm l10] 2 11) .ret)))))⟩
def w749 (hA:C902 Y):Jz (cq Y T4):=fun l k hp0=>by
 refine zg ?_;refine zf hm (fun i=>[.m 2 l Key.D,.u 2,.i i,.p 0 2,.u 2]) (fun i=>[(0,.buf 2 [Key.D k])]) 3 (fun i=>i<=l.length/\Et l k 0=Et l k i) (fun i=>l.length-i) ⟨ae,rfl⟩ [(0,0)] ?_;rintro i ⟨hi,hr⟩;refine zc ?_ ?_<;>intro hc0
 .refine gD (i+1) [(0,0)] ?_;rw[hr,W0 ae hc0.2]
 refine fk ?_;have hk:Et l k 0=i:=by rw[hr];exact W1 (fun h=>by rcases hc0 with h1|h1;omega;exact h1)
 refine zc ?_ ?_<;>intro hc1
 .refine zr ?_;rw[<-adm hk ⟨ae,hc1.2⟩];rfl
 refine kV ?_;refine Bl (he:=nF.sl) (n:=(l.take i).length) (hn:=aF) (hb:=zd) ?_;refine cV ?_;refine bc [Key.D k] ?_;refine cI (q:=Key.D) (xs:=l.take i) (e:=k) (hb:=zd) ?_;refine dD ?_;refine oR (xs:=l.take i++[k]) (ys:=l.drop i) (he:=nF.sl) (hb:=P4) ?_;refine cU ?_;refine bB 37 ?_;refine zr ?_;rw[<-ado hk Sw];rfl
def O4:aj:=ba 150
def w754 (hA:C903 Y)(hB:C907 Y)(hC:C908 Y):JC (cq Y O4):=fun all r e hp0=>by
 refine cV ?_;have hbl:=hp0.1.1.2.1.2;refine zg ?_;refine zf hm (fun i=>[.m 2 all Key.D,.u 3,.i i,.p 1 9,.u 2,.p 2 3,.u 1,.o 0 3 (((r.bars.take i).flatMap (qb all e))).length]) (fun i=>[(0,.buf 3 ((((r.bars.take i).flatMap (qb all e))).map Want.D)),(1,.buf 9 [Rec.D r]),(2,.buf 3 [Env.D e])]) 5 (fun i=>i<=r.bars.length) (fun i=>r.bars.length-i) ae [(0,1),(1,2)] ?_;intro i hi;have hol:=SV all e r.bars i;refine zg ?_;intro u0;refine dG ?_ ?_<;>intro hc0
 .refine uq ?_;refine a8 (Key.D ⟨r.bars[i]!.name,[]⟩) ?_;refine ib ?_;refine ct (hc:=fun hf=>hB ((r.bars)[i]!.when') (e) aan) ?_;refine zc ?_ ?_<;>intro hc1
  .refine x9 ?_;refine aE (hc:=hC ((r.bars)[i]!.range) aan) ?_;refine a8 (Want.D (⟨ec all ⟨r.bars[i]!.name,[]⟩,eU r.bars[i]!.range⟩:Want)) ?_;refine bc [Want.D (⟨ec all ⟨r.bars[i]!.name,[]⟩,eU r.bars[i]!.range⟩:Want)] ?_;refine cI (q:=Want.D) (xs:=((r.bars.take i).flatMap (qb all e))) (e:=(⟨ec all ⟨r.bars[i]!.name,[]⟩,eU r.bars[i]!.range⟩:Want)) (hb:=ae) ?_;refine zg ?_;rw[<-agA hc1,Qn ae];exact ij (i+1) [(43,0),(1,1),(2,2)]
  refine zg ?_;rw[show((r.bars.take i).flatMap (qb all e))=(r.bars.take (i+1)).flatMap (qb all e)from by rw[<-Qn ae,agz hc1,fZ]];exact ij (i+1) [(0,0),(1,1),(2,2)]
 refine cU ?_;obtain rfl:i=r.bars.length:=ae;rw[List.take_length];refine bB 0 ?_;exact my
def EH:aj:=⟨2,7,[⟨2,none⟩],UI,(sq (rg [gb 2 s1,gm cbF] [(5,0),(2,1)]) (sq (sq (r1 [gm x8] 3 0) (.block 0 (.loop (sq (sq (r1 [gm s3,gm s0,gl l1,nX l0 l2] 4 3) (gce s4 0)) (sq (.block 1 (sq (r2 [gm s0,gm s3,ga 2 l0 l1,gk 2 true l2,gk 2 true s5,gn (.eqA false true [.i .i64,.i .i64] l3 l4)] 6 5) (.cond s6 (sq (r1 [gm cbT] 2 0) .ret) .skip))) (r1 [gm s3,qu l0 Tk,gm l1] 3 2)))))) (sq (r1 [gm cbF] 2 0) .ret)))⟩
def w831:JK (cq Y EH):=fun l o=>by
 refine zg ?_;refine zf hm (fun i=>[.m 2 l dR.D,.u 2,.i i,.u 1,.p 0 2,.u 1]) (fun i=>[(0,.buf 2 [dR.D o])]) 3 (fun i=>i<=l.length/\offB l o=ot (fun i=>decide (l[i]! =o)) i l.length) (fun i=>l.length-i) ⟨ae,rfl⟩ [(0,0)] ?_;rintro i ⟨hi,hr⟩;refine zg ?_;intro u0;refine dG ?_ ?_<;>intro hc0
 .refine zc ?_ ?_<;>intro hc1
  .refine zr ?_;rw[hr,jO ae,bo hc1,Bool.true_or]
  refine gD (i+1) [(0,0)] ?_;rw[hr,jO ae,bG hc1,Bool.false_or]
 refine zr ?_;rw[hr,sI ae]
def HC:aj:=ba 166
def w72 {Y:Ctx}(hm:(Y.at 0).bV)(hA:C70 Y)(hB:C215 Y):y6 (cq Y HC):=fun r hp0=>by
 refine zc ?_ ?_<;>intro hc0
 .refine zg ?_;refine fE (bS (aw D.str ?_) (aw (D.int .i64) ?_));all_goals
   simp[fh,hc0]
 refine cU ?_;have hgd:=lS hc0;refine zg ?_;refine fE (bS (aw D.str ?_) (aw (D.int .i64) ?_));all_goals
  simp[fh,hc0]
def OP:aj:=ba 122
def w74 {Y:Ctx}(hm:(Y.at 0).bV)(hA:C72 Y)(hB:C220 Y):y7 (cq Y OP):=fun r hp0=>by
 refine zc ?_ ?_<;>intro hc0
 .refine zg ?_;refine fE (bS (aw (D.int .u64) ?_) (aw (D.int .i64) ?_));all_goals
   simp[vL,hc0]
 refine fk ?_;refine aE (hc:=hB (fh r).1) (ha:=fun _=>aw (fun d=>[d]) (th (q:=fun b:UInt8=>D.int .u8 b.toNat) (fun _=>rfl) ai)) (hp:=fun _=>⟨pT (q:=fun b:UInt8=>D.int .u8 b.toNat) (fun _=>rfl) ai,trivial⟩) ?_;refine zg ?_;refine fE (bS (aw (D.int .u64) ?_) (aw (D.int .i64) ?_));all_goals
  simp[vL,hc0]
def HH:aj:=ba 226
def w1012 {Y:Ctx}(hm:(Y.at 0).bV)(hA:UR Y)(hB:C356 Y):DW (cq Y HH):=fun l nm hp0=>by
 refine cV ?_;refine bE ?_;refine bp (env':=[_,_,⟨_,(.int _ _)⟩,_,_]) ?_;refine fO ?_;refine aP ?_;refine bE ?_;refine aE (hc:=hA (l) (by first|assumption|omega)) ?_;refine bE ?_;refine kL (.int _ _) ?_;refine kL (.int _ _) ?_;refine bE ?_;refine bE ?_;refine bp (env':=[_,_,_,⟨_,(.int _ _)⟩,_]) ?_;refine fO ?_;refine aP ?_;refine bE ?_;refine oT ?_;refine bp (env':=[_,_,_,_,⟨_,(.bool _)⟩]) ?_;refine dG ?_ ?_<;>intro hc0
 .exact absurd trivial hc0
 refine kn ?_;refine bp (env':=[_,_,⟨_,(.int _ _)⟩,_,_]) ?_;exact my
def YQ:aj:=ba 191
def w905 {Y:Ctx}(hm:(Y.at 0).bV)(hA:C955 Y):JP (cq Y YQ):=fun l nm=>by
 refine zc ?_ ?_<;>intro hc0
 .refine zr ?_;rw[show uC l nm=[]from ak hc0];rfl
 refine cU ?_;obtain⟨j,hj,hjl⟩:=(S6 l nm).resolve_left ae;refine zr ?_;rw[show uC l nm=l[j]!.of from by unfold uC;rw[ah hc0,hj,Int.toNat_natCast]];rfl
def L9:aj:=ba 59
def w361 {Y:Ctx}(hm:(Y.at 0).bV)(hA:C359 Y):tC (cq Y L9):=fun l nm=>by
 exact my
end Go.Abs
end
